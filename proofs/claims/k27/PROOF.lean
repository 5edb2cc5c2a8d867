import PyProof.Rows.All
import Wide.All
import OpenK.AllK
import Wide.FinOn
import KE.KStateDown
import HandS.ForMost
import HandS.More
import HandS.Walk
import HandS.Wide
import HandS.IsInst
import HandS.RaiseMore
import HandS.Style
import HandS.Deep
import HandS.MakeKwOnly
import HandS.WordsExc
import HandS.Defaults
import HandS.Head0
import HandS.Head1
import HandS.Head2
import HandS.HeadEnd
import HandS.HeadHook1
import HandS.HeadHook2
import HandS.Codes
import HandS.WideMore
import KE.KIntText
import HandS.ExcInit
import HandS.ExcField
import HandS.ExcIs
import HandS.ExcOwn
import HandS.TryMany
import HandS.HotCalls
import HandS.Flow
import KE.KTryMore
import KE.KExcInit
import KE.KExcIs
import PyProof.Conv_int_bool
import HandS.DictComp
import HandS.DeepEq
import HandS.TupAny
import HandS.Conv
import HandS.TupSets
import PyProof.SeqIndex
import PyProof.Rows.SortShellAny
import HandS.DictTup
import HandS.SortOrd
import KE.KSortTupAny
import HandS.NoneIn
import PyProof.FString5
import HandS.DictEq
import PyProof.CollectIter
import PyProof.WalksMore
import HandS.Finally
import PyProof.SliceMore
import HandS.Zip
import HandS.SetBool
import HandS.Comp
import KE.KDictList
import PyProof.SetRoads
import PyProof.EqAt
import PyProof.EqKinds
import KE.KDictPairs
import HandS.FStr
import KE.KTab
import KE.KTabLook
import HandS.IntHex
import KE.GoesEnum
import PySem.Challenge.RW_restorechain_k27_copied_and_shared
set_option Elab.async false
set_option linter.all false
set_option maxRecDepth 100000
set_option maxHeartbeats 0
namespace RC
abbrev Fr := PySem.W.Frag
end RC
namespace RC
open PySem PySem.Spec PyProof.Rows L2
abbrev Cell := Addr × HO
def Ext (F F' : Hp) : Prop := ∀ a o, F a = some o -> F' a = some o
theorem Ext.refl (F : Hp) : Ext F F := λ _ _ h => h
theorem Ext.trans {F G H : Hp} (a : Ext F G) (b : Ext G H) : Ext F H := λ x o h => b x o (a x o h)
theorem Ext.new {H : Hp} {p : Addr} {o : HO} (h : H p = none) : Ext H (upd H p o) := λ a u e => by
 rw [upd_ne (ne_of_none e h)]
 exact e
theorem Ext.rd {H H' : Hp} {a : Addr} {u : HO} (e : Ext H H') (h : Rd H a u) : Rd H' a u := by
 rcases h with h | ⟨o, h⟩
 · exact Or.inl (e a _ h)
 · exact Or.inr ⟨o, e a _ h⟩
theorem Ext.sqL {K : Fr} {H H' : Hp} {a : Addr} {xs : List V} (e : Ext H H') (h : SqL K H a xs) : SqL K H' a xs := by
 rcases h with h | h
 · exact Or.inl (e.rd h)
 · exact Or.inr h
theorem Ext.sqT {K : Fr} {H H' : Hp} {a : Addr} {xs : List V} (e : Ext H H') (h : SqT K H a xs) : SqT K H' a xs := by
 rcases h with h | h
 · exact Or.inl (e.rd h)
 · exact Or.inr h
mutual
theorem Dp_ext {K : Fr} {H H' : Hp} (e : Ext H H') : ∀ {v : V} {d : PyData}, Dp K H v d -> Dp K H' v d
 | _, _, .non => .non
 | _, _, .bl b => .bl b
 | _, _, .int i => .int i
 | _, _, .str x => .str x
 | _, _, .lst h ds => .lst (e.sqL h) (DpAll_ext e ds)
 | _, _, .tup h ds => .tup (e.sqT h) (DpAll_ext e ds)
theorem DpAll_ext {K : Fr} {H H' : Hp} (e : Ext H H') : ∀ {vs : List V} {ds : List PyData}, DpAll K H vs ds -> DpAll K H' vs ds
 | _, _, .nil => .nil
 | _, _, .cons h r => .cons (Dp_ext e h) (DpAll_ext e r)
end
structure Res where
 on : Hp -> List Cell -> Prop
 mono : ∀ F F' l, Ext F F' -> on F l -> on F' l
def pt (p : Addr) (o : HO) : Res := ⟨λ _ l => l = [(p, o)], λ _ _ _ _ h => h⟩
def fz (p : Addr) (o : HO) : Res := ⟨λ F l => l = [] /\ F p = some o, λ _ _ _ e h => ⟨h.1, e _ _ h.2⟩⟩
def dt (K : Fr) (v : V) (d : PyData) : Res := ⟨λ F l => l = [] /\ Dp K F v d, λ _ _ _ e h => ⟨h.1, Dp_ext e h.2⟩⟩
def sp2 (R S : Res) : Res := ⟨λ F l => ∃ l1 l2, l = l1 ++ l2 /\ R.on F l1 /\ S.on F l2, λ _ _ _ e ⟨l1, l2, h, a, b⟩ => ⟨l1, l2, h, R.mono _ _ _ e a, S.mono _ _ _ e b⟩⟩
def exi {α : Type} (R : α -> Res) : Res := ⟨λ F l => ∃ x, (R x).on F l, λ _ _ _ e ⟨x, h⟩ => ⟨x, (R x).mono _ _ _ e h⟩⟩
def prp (φ : Prop) (R : Res) : Res := ⟨λ F l => φ /\ R.on F l, λ _ _ _ e h => ⟨h.1, R.mono _ _ _ e h.2⟩⟩
def Sat (F : Hp) : List Res -> List Cell -> Prop
 | [], l => l = []
 | R :: Rs, l => ∃ l1 l2, l = l1 ++ l2 /\ R.on F l1 /\ Sat F Rs l2
theorem Sat.mono {F F' : Hp} (e : Ext F F') : ∀ {Rs : List Res} {l : List Cell}, Sat F Rs l -> Sat F' Rs l
 | [], _, h => h
 | R :: _, _, ⟨l1, l2, h, a, b⟩ => ⟨l1, l2, h, R.mono _ _ _ e a, Sat.mono e b⟩
theorem Sat.perm {F : Hp} {Rs Rs' : List Res} (p : Rs.Perm Rs') : ∀ {l : List Cell}, Sat F Rs l -> ∃ l', l.Perm l' /\ Sat F Rs' l' := by
 induction p with
 | nil => exact λ h => ⟨_, .refl _, h⟩
 | cons R _ ih =>
   rintro l ⟨l1, l2, rfl, a, b⟩
   obtain ⟨l3, q, c⟩ := ih b
   exact ⟨l1 ++ l3, .append_left _ q, l1, l3, rfl, a, c⟩
 | swap R S Rs =>
   rintro l ⟨l1, l2, rfl, a, l3, l4, rfl, b, c⟩
   refine ⟨l3 ++ (l1 ++ l4), ?_, l3, l1 ++ l4, rfl, b, l1, l4, rfl, a, c⟩
   rw [<- List.append_assoc, <- List.append_assoc]
   exact List.Perm.append_right _ List.perm_append_comm
 | trans _ _ ih1 ih2 =>
   intro l h
   obtain ⟨l1, p1, h1⟩ := ih1 h
   obtain ⟨l2, p2, h2⟩ := ih2 h1
   exact ⟨l2, p1.trans p2, h2⟩
structure MemC (F : Hp) (L : List Cell) (H : Hp) : Prop where
 ex : Ext F H
 own : ∀ c ∈ L, H c.1 = some c.2 /\ F c.1 = none
 nd : (L.map (·.1)).Nodup
theorem MemC.perm {F : Hp} {L L' : List Cell} {H : Hp} (h : MemC F L H) (p : L.Perm L') : MemC F L' H :=
 ⟨h.ex, λ c hc => h.own c (p.mem_iff.mpr hc), (p.map _).nodup_iff.mp h.nd⟩
def M (Rs : List Res) (H : Hp) : Prop := ∃ F L, Sat F Rs L /\ MemC F L H
section
variable {Rs Rs' : List Res} {R S : Res} {H : Hp} {p : Addr} {o o' : HO}
theorem M.perm (h : M Rs H) (q : Rs.Perm Rs') : M Rs' H := by
 obtain ⟨F, L, a, b⟩ := h
 obtain ⟨L', q', a'⟩ := a.perm q
 exact ⟨F, L', a', b.perm q'⟩
theorem M.nil : M [] H := ⟨λ _ => none, [], rfl, ⟨(λ _ _ h => nomatch h), (λ _ h => nomatch h), List.nodup_nil⟩⟩
theorem M.tl (h : M (R :: Rs) H) : M Rs H := by
 obtain ⟨F, L, ⟨l1, l2, rfl, a, b⟩, m⟩ := h
 refine ⟨F, l2, b, m.ex, λ c hc => m.own c (List.mem_append_right _ hc), ?_⟩
 have := m.nd
 rw [List.map_append] at this
 exact (List.nodup_append.mp this).2.1
theorem perm_at : ∀ {Rs : List Res} (i : Nat) {R : Res}, Rs[i]? = some R -> Rs.Perm (R :: Rs.eraseIdx i)
 | [], i, R, h => by simp at h
 | S :: Rs, 0, R, h => by
   have e : S = R := Option.some.inj h
   subst e
   exact .refl _
 | S :: Rs, i + 1, R, h => by
   have ih := perm_at (Rs := Rs) i (R := R) (by simpa using h)
   exact (List.Perm.cons S ih).trans (List.Perm.swap R S _)
theorem M.at (h : M Rs H) (i : Nat) (e : Rs[i]? = some R) : M (R :: Rs.eraseIdx i) H := h.perm (perm_at i e)
theorem M.hd (h : M (pt p o :: Rs) H) : H p = some o := by
 obtain ⟨F, L, ⟨l1, l2, rfl, rfl, b⟩, m⟩ := h
 exact (m.own (p, o) (by simp)).1
theorem M.hdF (h : M (fz p o :: Rs) H) : H p = some o := by
 obtain ⟨F, L, ⟨l1, l2, rfl, ⟨_, e⟩, b⟩, m⟩ := h
 exact m.ex _ _ e
theorem M.got (h : M Rs H) (i : Nat) (e : Rs[i]? = some (pt p o)) : H p = some o := (h.at i e).hd
theorem M.gotF (h : M Rs H) (i : Nat) (e : Rs[i]? = some (fz p o)) : H p = some o := (h.at i e).hdF
theorem M.new (h : M Rs H) (hp : H p = none) : M (pt p o :: Rs) (upd H p o) := by
 obtain ⟨F, L, a, m⟩ := h
 have fp : F p = none := by
   cases q : F p with
   | none => rfl
   | some u => rw [m.ex _ _ q] at hp; cases hp
 refine ⟨F, (p, o) :: L, ⟨[(p, o)], L, rfl, rfl, a⟩, ⟨m.ex.trans (Ext.new hp), λ c hc => ?_, ?_⟩⟩
 · rcases List.mem_cons.mp hc with rfl | hc
   · exact ⟨upd_same, fp⟩
   · have q := m.own c hc
     refine ⟨?_, q.2⟩
     rw [upd_ne (ne_of_none q.1 hp)]
     exact q.1
 · rw [List.map_cons, List.nodup_cons]
   refine ⟨λ hm => ?_, m.nd⟩
   obtain ⟨c, hc, e⟩ := List.mem_map.mp hm
   have q := (m.own c hc).1
   rw [e, hp] at q
   cases q
theorem M.put (h : M (pt p o :: Rs) H) : M (pt p o' :: Rs) (upd H p o') := by
 obtain ⟨F, L, ⟨l1, l2, rfl, rfl, b⟩, m⟩ := h
 have fp : F p = none := (m.own (p, o) (by simp)).2
 have nd := m.nd
 rw [List.map_append] at nd
 have nd2 : ((p :: l2.map (·.1)) : List Addr).Nodup := nd
 have np := (List.nodup_cons.mp nd2).1
 refine ⟨F, (p, o') :: l2, ⟨[(p, o')], l2, rfl, rfl, b⟩, ⟨λ a u e => ?_, λ c hc => ?_, nd2⟩⟩
 · have : a ≠ p := λ z => by rw [z, fp] at e; cases e
   rw [upd_ne this]
   exact m.ex _ _ e
 · rcases List.mem_cons.mp hc with rfl | hc
   · exact ⟨upd_same, fp⟩
   · have q := m.own c (List.mem_append_right _ hc)
     refine ⟨?_, q.2⟩
     have : c.1 ≠ p := λ z => np (List.mem_map.mpr ⟨c, hc, z⟩)
     rw [upd_ne this]
     exact q.1
theorem M.fix (h : M (pt p o :: Rs) H) : M (fz p o :: Rs) H := by
 obtain ⟨F, L, ⟨l1, l2, rfl, rfl, b⟩, m⟩ := h
 have hp := m.own (p, o) (by simp)
 have nd := m.nd
 rw [List.map_append] at nd
 have nd2 : ((p :: l2.map (·.1)) : List Addr).Nodup := nd
 have np := (List.nodup_cons.mp nd2).1
 have ex : Ext F (upd F p o) := Ext.new hp.2
 refine ⟨upd F p o, l2, ⟨[], l2, rfl, ⟨rfl, upd_same⟩, b.mono ex⟩, ⟨λ a u e => ?_, λ c hc => ?_, (List.nodup_cons.mp nd2).2⟩⟩
 · by_cases z : a = p
   · subst z
     rw [upd_same] at e
     cases e
     exact hp.1
   · rw [upd_ne z] at e
     exact m.ex _ _ e
 · have q := m.own c (List.mem_append_right _ hc)
   refine ⟨q.1, ?_⟩
   have : c.1 ≠ p := λ z => np (List.mem_map.mpr ⟨c, hc, z⟩)
   rw [upd_ne this]
   exact q.2
theorem M.sp (h : M (sp2 R S :: Rs) H) : M (R :: S :: Rs) H := by
 obtain ⟨F, L, ⟨l1, l2, rfl, ⟨l3, l4, rfl, a, b⟩, c⟩, m⟩ := h
 exact ⟨F, _, ⟨l3, l4 ++ l2, by rw [List.append_assoc], a, l4, l2, rfl, b, c⟩, m⟩
theorem M.sp' (h : M (R :: S :: Rs) H) : M (sp2 R S :: Rs) H := by
 obtain ⟨F, L, ⟨l1, l2, rfl, a, l3, l4, rfl, b, c⟩, m⟩ := h
 exact ⟨F, _, ⟨l1 ++ l3, l4, by rw [List.append_assoc], ⟨l1, l3, rfl, a, b⟩, c⟩, m⟩
theorem M.ex {α : Type} {T : α -> Res} (h : M (exi T :: Rs) H) : ∃ x, M (T x :: Rs) H := by
 obtain ⟨F, L, ⟨l1, l2, rfl, ⟨x, a⟩, c⟩, m⟩ := h
 exact ⟨x, F, _, ⟨l1, l2, rfl, a, c⟩, m⟩
theorem M.ex' {α : Type} {T : α -> Res} (x : α) (h : M (T x :: Rs) H) : M (exi T :: Rs) H := by
 obtain ⟨F, L, ⟨l1, l2, rfl, a, c⟩, m⟩ := h
 exact ⟨F, _, ⟨l1, l2, rfl, ⟨x, a⟩, c⟩, m⟩
theorem M.pr {φ : Prop} (h : M (prp φ R :: Rs) H) : φ /\ M (R :: Rs) H := by
 obtain ⟨F, L, ⟨l1, l2, rfl, ⟨x, a⟩, c⟩, m⟩ := h
 exact ⟨x, F, _, ⟨l1, l2, rfl, a, c⟩, m⟩
theorem M.pr' {φ : Prop} (x : φ) (h : M (R :: Rs) H) : M (prp φ R :: Rs) H := by
 obtain ⟨F, L, ⟨l1, l2, rfl, a, c⟩, m⟩ := h
 exact ⟨F, _, ⟨l1, l2, rfl, ⟨x, a⟩, c⟩, m⟩
theorem perm_set : ∀ {Rs : List Res} (i : Nat) {R S : Res}, Rs[i]? = some R -> (S :: Rs.eraseIdx i).Perm (Rs.set i S)
 | [], i, R, S, h => by simp at h
 | T :: Rs, 0, R, S, h => .refl _
 | T :: Rs, i + 1, R, S, h => by
   have ih := perm_set (Rs := Rs) i (R := R) (S := S) (by simpa using h)
   exact (List.Perm.swap T S _).trans (List.Perm.cons T ih)
theorem M.putAt (h : M Rs H) (i : Nat) (e : Rs[i]? = some (pt p o)) : M (Rs.set i (pt p o')) (upd H p o') := ((h.at i e).put (o' := o')).perm (perm_set i e)
end
end RC

namespace RC
open PySem PySem.Spec PyProof.Rows L2
structure FnX (g : Bool) (P : Program) (w : World) (K : Fr) (mg : Str -> Option Value) (base : Heap) (CX : CXT) (k : Nat) (f : Addr) (fd : FuncData) (ps : List Str) (sp : Sp) : Prop where
 lenG : ∀ vs H Q E, sp vs H Q E -> vs.length = ps.length
 runG : ∀ (B : Around) (out : List Env) (t : Shared) (H : Hp) (args : Args) (bs : List (Str × Value)) (us : List Value) (vs : List V) (Q : VK) (E : XK), (g = true -> B.guards = some []) -> Room k B -> Env0 P w K mg base B out t H ->
   BindsTo t fd args bs -> bs.Perm (ps.zip us) -> Vals vs us -> sp vs H Q E -> codeAny (model P w) B (.call (.ref f) args) (CR CX out P w H t Q E) t
theorem zip_names {α β : Type} : ∀ (as : List α) (bs : List β), (as.zip bs).map (·.1) = as.take bs.length
 | [], _ => by simp
 | _ :: _, [] => rfl
 | a :: as, b :: bs => by
   show a :: (as.zip bs).map (·.1) = a :: as.take bs.length
   rw [zip_names as bs]
theorem bindL_perm {kd : Str -> Option NameKind} {l l' : List (Str × Value)} (p : l.Perm l') : (l.map (·.1)).Nodup -> ∀ m, bindL kd l m = bindL kd l' m := by
 induction p with
 | nil => exact λ _ _ => rfl
 | cons x _ ih =>
   intro nd m
   obtain ⟨n, v⟩ := x
   have nd2 := (List.nodup_cons.mp nd).2
   unfold bindL
   split <;> exact ih nd2 _
 | swap x y l =>
   intro nd m
   obtain ⟨n, v⟩ := x
   obtain ⟨n', v'⟩ := y
   have ne : n' ≠ n := λ e => (List.nodup_cons.mp nd).1 (by rw [e]; exact List.mem_cons_self)
   show bindL kd ((n', v') :: (n, v) :: l) m = bindL kd ((n, v) :: (n', v') :: l) m
   unfold bindL
   unfold bindL
   by_cases h1 : kd n' = some .local <;> by_cases h2 : kd n = some .local <;> simp only [h1, h2, if_true, if_false]
   all_goals try rfl
   congr 1
   funext z
   by_cases e1 : z = n
   · subst e1
     simp [Ne.symm ne]
   · simp [e1]
 | trans p q ih1 ih2 =>
   intro nd m
   rw [ih1 nd m, ih2 ((p.map _).nodup_iff.mp nd) m]
theorem bindC_perm {kd : Str -> Option NameKind} {l l' : List (Str × Value)} (p : l.Perm l') : (l.map (·.1)).Nodup -> ∀ m, bindC kd l m = bindC kd l' m := by
 induction p with
 | nil => exact λ _ _ => rfl
 | cons x _ ih =>
   intro nd m
   obtain ⟨n, v⟩ := x
   have nd2 := (List.nodup_cons.mp nd).2
   unfold bindC
   split <;> exact ih nd2 _
 | swap x y l =>
   intro nd m
   obtain ⟨n, v⟩ := x
   obtain ⟨n', v'⟩ := y
   have ne : n' ≠ n := λ e => (List.nodup_cons.mp nd).1 (by rw [e]; exact List.mem_cons_self)
   show bindC kd ((n', v') :: (n, v) :: l) m = bindC kd ((n, v) :: (n', v') :: l) m
   unfold bindC
   unfold bindC
   by_cases h1 : kd n' = some .local <;> by_cases h2 : kd n = some .local <;> simp only [h1, h2, if_true, if_false]
   all_goals try rfl
   congr 1
   funext z
   by_cases e1 : z = n
   · subst e1
     simp [Ne.symm ne]
   · simp [e1]
 | trans p q ih1 ih2 =>
   intro nd m
   rw [ih1 nd m, ih2 ((p.map _).nodup_iff.mp nd) m]
section
variable {g : Bool} {P : Program} {w : World} {K : Fr} {mg : Str -> Option Value} {base : Heap} {CX : CXT} {k : Nat} {f : Addr} {fd : FuncData} {ps : List Str} {sp : Sp}
theorem FnX.ok (F : FnX false P w K mg base CX k f fd ps sp) : FnOk P w K mg base CX k f fd ps sp :=
 ⟨F.lenG, λ B out t H args us vs Q E hr e b r h => F.runG B out t H args _ us vs Q E (λ z => nomatch z) hr e b (.refl _) r h⟩
theorem FnX.up {g' : Bool} (F : FnX g P w K mg base CX k f fd ps sp) (h : g = true -> g' = true) : FnX g' P w K mg base CX k f fd ps sp :=
 ⟨F.lenG, λ B out t H args bs us vs Q E gu hr e b p r hs => F.runG B out t H args bs us vs Q E (λ z => gu (h z)) hr e b p r hs⟩
theorem FnX.mono {j : Nat} (F : FnX g P w K mg base CX j f fd ps sp) (h : j <= k) : FnX g P w K mg base CX k f fd ps sp :=
 ⟨F.lenG, λ B out t H args bs us vs Q E gu hr e b p r hs => F.runG B out t H args bs us vs Q E gu (hr.mono h) e b p r hs⟩
theorem okX {x qual : Str} {params : Arguments} {body : List Stmt} {scope : Scope} {dvs : List V} {kws : List (Str × V)} {N : List Str} (D : FunD K x qual params body scope dvs kws f fd) (S : FnScope N ps scope)
   (hlen : ∀ vs H Q E, sp vs H Q E -> vs.length = ps.length)
   (hbody : ∀ (cdv : Value) (B : Around) (out : List Env) (t : Shared) (H : Hp) (vs : List V) (Q : VK) (E : XK), (g = true -> B.guards = some []) -> Room k (B.deeper (envOfC qual scope t.heap.objs.size f cdv)) -> sp vs H Q E ->
     ∃ tr, PSs (cxOf CX P w K mg base N qual scope f cdv B out t H E) body tr /\ tr { nx := λ _ H' => Q .non H', rt := Q } (start N vs) H) :
   FnX g P w K mg base CX (k + 1) f fd ps sp := by
 obtain ⟨⟨oc, od, dV, kV, doc, pm, an, cdv, ct, osl, rfl, lk, hcd, _, _⟩, _⟩ := D
 constructor
 · exact hlen
 intro B out t H args bs us vs Q E hg hr env hb hperm rel hsp
 have hin : K.In t.heap := env.mod.kin.keeps λ b o q => (env.bs b o q).1
 have hno : t.heap.NoLimit := env.mod.nolimit.keeps λ b o q => (env.bs b o q).1
 have hll := hlen _ _ _ _ hsp
 have nd : (bs.map (·.1)).Nodup := by
   refine (hperm.map _).nodup_iff.mpr ?_
   rw [zip_names, List.take_of_length_le (by rw [<- rel.length, hll]; exact Nat.le_refl _), <- S.pre]
   exact S.nd.sublist (List.take_sublist _ _)
 have hk : ∀ y ∈ bs, scope.names.lookup y.1 = some .local \/
     (scope.names.lookup y.1 = some .cell /\ ((cellsFrom (t.heap.objs.size + 1) scope.names []).lookup y.1).isSome = true) := by
   rintro ⟨n, v⟩ hy
   cases S.par n (List.of_mem_zip (hperm.mem_iff.mp hy)).1 with
   | inl q => exact .inl q
   | inr q => exact .inr ⟨q, PySem.W.cellsFrom_some _ _ _ (.inl q)⟩
 refine codeAny_call_function hr.depth (hin _ _ lk) rfl S.co S.gen rfl
   (PySem.W.codeRec_of hin hcd) (hb _ _ _ _ ?_)
 refine wpAny_newFunctionEnv_cells S.kind hk λ ev hev t1 ic => ?_
 subst hev
 rw [bindL_perm hperm nd, bindC_perm hperm nd] at ic
 refine ⟨hno.keeps ic.toInCall.keep, codeAny_func ?_⟩
 obtain ⟨tr, htr, hq⟩ := hbody cdv B out t H vs Q E hg (hr.deeper _) hsp
 have J : Inv (cxOf CX P w K mg base N qual scope f cdv B out t H E) [] (start N vs) H t1 :=
   inv_start S hr.hd env hll rel ic
 refine wpAny_mono (htr.run [] t1 (start N vs) H _ J hq) (λ fl t2 z => ?_) λ _ _ z => z
 cases fl with
 | next =>
   obtain ⟨s2, H2, J2, q2⟩ := z
   exact ⟨V.non, H2, J2.os, J2.bare, J2.base, J2.hok, rfl, q2⟩
 | ret u =>
   obtain ⟨v2, s2, H2, J2, r2, q2⟩ := z
   exact ⟨v2, H2, J2.os, J2.bare, J2.base, J2.hok, r2, q2⟩
 | brk =>
   obtain ⟨_, _, _, q2⟩ := z
   cases q2
 | cont =>
   obtain ⟨_, _, _, q2⟩ := z
   cases q2
end
section
variable {X : Cx} {g : Bool} {CX : CXT} {k n : Nat} {f : Addr} {fd : FuncData} {ps ps' ks : List Str} {sp : Sp} {ds : List Value} {dvs : List V} {E : XK}
theorem runX_fn {pins : List (Addr × Obj)} {σ : L2.St} {H : Hp} {s : Shared} {Q : VK} {us : List Value} {vs : List V} (F : FnX g X.prog X.w X.K X.mg X.base CX k f fd ps sp) (hg : g = true -> X.A.guards = some []) (hr : Room k X.A)
   (hb : Binds X.K fd ps ds) (hd : Vals dvs ds) (hx : Passes CX X E) (I : Inv X pins σ H s) (r : Vals vs us) (h : sp (vs ++ dvs) H Q E) :
   wpAny (model X.prog X.w) X.A (call (.ref f) us) (EP X pins σ Q) X.xe s := by
 have rr : Vals (vs ++ dvs) (us ++ ds) := r.append hd
 have ll : (us ++ ds).length = ps.length := rr.length.symm.trans (F.lenG _ _ _ _ h)
 have go := F.runG X.A X.stack s H ⟨us, []⟩ _ (us ++ ds) (vs ++ dvs) Q E hg hr I.env0 (hb s us I.kIn ll) (.refl _) rr h
 refine wpAny_call (codeAny_mono go λ res s' hq => ?_)
 match res, hq with
 | .error e, hq => exact hx pins σ H s e s' I hq
 | .ok (.ret u), hq => exact I.after hq
 | .ok .next, hq => cases hq
 | .ok .brk, hq => cases hq
 | .ok .cont, hq => cases hq
theorem pe_callX {x : Str} {e : Expr} {es : List Expr} {t : TA} {p pos : Pos} (F : FnX g X.prog X.w X.K X.mg X.base CX k f fd ps sp) (hgu : g = true -> X.A.guards = some []) (hr : Room k X.A) (hg : Gl X x) (hm : X.mg x = some (.ref f))
   (hk : PySem.W.keepIn X.K (.ref f) = true) (hb : Binds X.K fd ps ds) (hd : Vals dvs ds) (hx : Passes CX X E)
   (ha : PA X (e :: es) t) (hdb : (x == ("__debug__" : Str)) = false := by decide) (he : starEach (e :: es) X.env = (false, eval e X.env) :: starEach es X.env := by rfl)
   (hpl : (backTo pos (starEach es X.env)).any (·.1) = false := by rfl) : PE X (.Call (.Name x p) (e :: es) [] pos) (tCall sp dvs E t) := by
 constructor
 intro pins s σ H Q I h
 refine wpAny_Call_Name_kw (ld_glob I hg hm ?_ hdb)
 have body := thn (ha.run pos pins s σ H _ I h) (Q' := λ us s1 => X.K.In s1.heap /\ wpAny (model X.prog X.w) X.A (call (.ref f) us) (EP X pins σ Q) X.xe s1)
   λ us s1 ⟨vs, H1, I1, r1, q1⟩ => ⟨I1.kIn, runX_fn F hgu hr hb hd hx I1 r1 q1⟩
 exact PySem.W.callWith_K (h₀ := X.base) I.ok.mod.kin hk body he hpl
end
theorem law_callN {ND : Heap -> Prop} {P : Program} {w : World} {K : Fr} {mg mb : Str -> Option Value} {CX : CXT} {k : Nat} {fa a : Addr} {fd : FuncData} {x : Str} {sp : Sp} {s1 : Shared} {vs : List Value} {ns : List Int}
   (KX : K.In s1.heap) (hns : s1.heap.Ns mainGlobals mg) (hb : s1.heap.Ns builtinsNs mb) (hbb : ∀ x : Str, x ≠ "__name__" -> mb x = bootBuiltins x) (hlim : s1.heap.NoLimit) (hdig : ∀ h' : Heap, (∀ b o es ep, s1.heap.get? b = some o -> o.data = .dict es ep -> h'.get? b = some o) -> ND h') (hg : s1.gens = #[])
   (ha : s1.heap.get? a = some { cls := .type "list", data := .seq vs.toArray }) (hi : IntsAre vs ns) (hl : ns.length <= sizeLine) (hr : Room k callerA)
   (F : ∀ base : Heap, K.In base -> base.Ns mainGlobals mg -> ND base -> FnX true P w K mg base CX k fa fd [x] sp)
   (hbind : ∀ (s : Shared) (u : Value), BindsTo s fd ⟨[u], []⟩ [(x, u)])
   (hsp : ∀ H : Hp, SqL K H a (ns.map V.int) -> sp [.ref a] H (λ v _ => v = .bl true) λ _ _ _ => False)
   (hCX : ∀ H e s', CX [] H s1 (λ _ _ _ => False) e s' -> False) :
   codeAny (model P w) callerA (.call (.ref fa) ⟨[.ref a], []⟩) (λ r s' => r = .ok (.ret (.bool true)) /\ OldK s1.heap s'.heap /\ s'.os = s1.os /\ AllBare s'.gens) s1 := by
 have rv := vals_ints hi
 -- the abstract heap: the script alone, locked, unless it is one of the module's own objects
 obtain ⟨H, hS, hok, hA, hK, hO⟩ : ∃ H : Hp, SqL K H a (ns.map V.int) /\ HOk P w H s1.heap /\ (∀ b, H b ≠ none -> b = a) /\ (H a ≠ none -> K.lookup a = none) /\
     ∀ b u, H b = some u -> ∃ o v, u = .frz o v := by
   cases hk : K.lookup a with
   | some o =>
     have e := KX a o hk
     rw [ha] at e
     cases e
     refine ⟨λ _ => none, .inr ⟨_, vs.toArray, _, hk, rfl, rfl, rfl, ?_, by simpa using rv⟩, ?_, ?_, ?_, ?_⟩
     · rw [List.size_toArray, hi.length]
       exact hl
     · intro b u z
       cases (show (none : Option HO) = some u from z)
     · intro b z
       exact absurd rfl z
     · intro z
       exact absurd rfl z
     · intro b u z
       cases (show (none : Option HO) = some u from z)
   | none =>
     have at1 : upd (λ _ => none) a (.frz { cls := .type "list", data := .seq vs.toArray } (.lst (ns.map V.int))) a = some (HO.frz { cls := .type "list", data := .seq vs.toArray } (.lst (ns.map V.int))) := upd_same
     have at2 : ∀ b u, upd (λ _ => none) a (.frz { cls := .type "list", data := .seq vs.toArray } (.lst (ns.map V.int))) b = some u -> b = a /\ u = HO.frz { cls := .type "list", data := .seq vs.toArray } (.lst (ns.map V.int)) := by
       intro b u z
       by_cases q : b = a
       · subst q
         rw [upd_same] at z
         exact ⟨rfl, (Option.some.inj z).symm⟩
       · rw [upd_ne q] at z
         cases z
     refine ⟨_, .inl (.inr ⟨_, at1⟩), ?_, ?_, λ _ => rfl, ?_⟩
     · intro b u z
       obtain ⟨rfl, rfl⟩ := at2 b u z
       refine ⟨ha, ?_, vs, _, rv, ha⟩
       rw [List.length_map]
       exact hl
     · intro b z
       cases q : upd (λ _ => none) a (.frz { cls := .type "list", data := .seq vs.toArray } (.lst (ns.map V.int))) b with
       | none => exact absurd q z
       | some u => exact (at2 b u q).1
     · intro b u z
       exact ⟨_, _, (at2 b u z).2⟩
 have off : ∀ {b : Addr} {o : Obj} {es : Array DictEntry} {ep : Nat}, s1.heap.get? b = some o -> o.data = .dict es ep -> H b = none := by
   intro b o es ep e d
   cases q : H b with
   | none => rfl
   | some u =>
     have z : b = a := hA b (by rw [q]; simp)
     subst z
     rw [ha] at e
     cases e
     cases (show Data.seq vs.toArray _ = Data.dict es ep from d)
 have nsH : ∀ {b : Addr} {m : Str -> Option Value}, s1.heap.Ns b m -> (hidT s1.heap H).Ns b m := by
   rintro b m ⟨o, es, ep, e, d, r⟩
   exact ⟨o, es, ep, hidT_get e (off e d), d, r⟩
 have hKb : K.In (hidT s1.heap H) := by
   intro b o e
   refine hidT_get (KX b o e) ?_
   cases q : H b with
   | none => rfl
   | some u =>
     have z : b = a := hA b (by rw [q]; simp)
     subst z
     rw [hK (by rw [q]; simp)] at e
     cases e
 have hM : Mod K mg (hidT s1.heap H) := by
   obtain ⟨mc, h1, h2⟩ := hlim
   exact ⟨hKb, nsH hns, ⟨mb, nsH hb, hbb⟩, ⟨mc, nsH h1, h2⟩⟩
 have e0 : Env0 P w K mg (hidT s1.heap H) callerA [] s1 H := by
   refine ⟨rfl, hM, λ b o e => of_hidT e, Nat.le_of_eq (hidT_size _ _), trivial, λ b hb => ?_, hok, .of_eq hg⟩
   cases (show b ∈ ([] : List Addr) from hb)
 have go := (F _ hKb (nsH hns) (hdig _ λ b o es ep e d => hidT_get e (off e d))).runG callerA [] s1 H ⟨[.ref a], []⟩ _ [.ref a] [.ref a] _ _ (λ _ => rfl) hr e0 (hbind s1 (.ref a)) (.refl _) (.cons rfl .nil) (hsp H hS)
 refine codeAny_mono go λ res s' h => ?_
 match res, h with
 | .error e, h => exact (hCX H e s' h).elim
 | .ok .next, h => cases h
 | .ok .brk, h => cases h
 | .ok .cont, h => cases h
 | .ok (.ret u), h =>
   obtain ⟨v, H', os, bare, un, hok', r', q⟩ := h
   cases (show v = .bl true from q)
   cases (show u = Value.bool true from r')
   refine ⟨rfl, OldK.of_keep λ b o e => ?_, os, bare⟩
   cases q : H b with
   | none =>
     refine un.keep b o e q (λ z => ?_) (by simp)
     cases (show b ∈ ([] : List Addr) from z)
   | some u =>
     obtain ⟨ob, v2, rfl⟩ := hO b u q
     have z2 := un.frzs b ob _ q
     obtain ⟨e1, _⟩ := hok b _ q
     obtain ⟨e2, _⟩ := hok' b _ z2
     rw [e] at e1
     cases e1
     exact e2
theorem nd_keep {h h' : Heap} (x : h.NoDigits) (k : ∀ b o es ep, h.get? b = some o -> o.data = .dict es ep -> h'.get? b = some o) : h'.NoDigits := by
 obtain ⟨mc, ⟨o, es, ep, e, d, r⟩, q⟩ := x
 exact ⟨mc, ⟨o, es, ep, k _ _ _ _ e d, d, r⟩, q⟩
end RC

namespace RC
open PySem PySem.Spec PySem.Calls PySem.NumText PyProof.Rows L2
structure HidL (p : Prop) : Prop where
 out : p
def rRepS : R2 := λ x y H Q => ∃ (c : Nat) (n : Int), x = .str (SX.S [c]) /\ y = .int n /\ 1 <= n /\ n <= 100000 /\ Q (.str (SX.S (List.replicate n.toNat c))) H
theorem rep_one (c : Nat) : ∀ (k : Nat) (acc : Array Nat), (List.replicate k #[c]).foldl (· ++ ·) acc = acc ++ (List.replicate k c).toArray
 | 0, acc => by simp
 | k + 1, acc => by
   rw [List.replicate_succ, List.foldl_cons, rep_one c k, List.replicate_succ]
   refine Array.toList_inj.mp ?_
   simp only [Array.toList_append, List.toList_toArray, List.append_assoc]
   rfl
theorem op_repS {X : Cx} : OpR X (binaryOp .Mult) rRepS := by
 intro pins s σ H x y v u Q I rx ry h
 obtain ⟨c, n, rfl, rfl, h1, h2, q⟩ := h
 obtain ⟨t, rfl⟩ := rx
 obtain ⟨t2, rfl⟩ := ry
 have hl : (SX.S [c]).length = 1 := SX.S_len [c]
 refine PySem.P.mul_str (by rw [decide_eq_false (by omega), decide_eq_false (by omega)]; rfl) (λ _ _ => ?_) (λ _ _ => ?_) ?_
 · rw [hl]
   have : (1 : Int) <= (2 ^ 63 - 1) / n := (Int.le_ediv_iff_mul_le (by omega)).mpr (by omega)
   omega
 · rw [hl]
   unfold Builtin.Str.tooLong
   rw [decide_eq_false]
   have := sizeLine_eq
   omega
 · rw [if_neg (by omega)]
   by_cases e : n = 1
   · subst e
     rw [if_pos (by rfl)]
     exact ⟨.str _, H, I, ⟨_, rfl⟩, q⟩
   · rw [if_neg (by rw [hl]; simp [e])]
     have e2 : (⟨(List.replicate n.toNat (SX.S [c]).cps).foldl (· ++ ·) #[]⟩ : Str) = SX.S (List.replicate n.toNat c) := by
       show (⟨(List.replicate n.toNat #[c]).foldl (· ++ ·) #[]⟩ : Str) = _
       rw [rep_one]
       simp
     rw [e2]
     refine ⟨?_, ⟨.str _, H, I.tok _, ⟨_, rfl⟩, q⟩⟩
     rw [SX.S_len, List.length_replicate]
     have := sizeLine_eq
     omega
end RC

namespace RC
open PySem PySem.Spec PyProof.Rows L2
section
variable {X : Cx}
def rCatS (K : Fr) : R2 := λ x y H Q => ∃ l b xs zs, x = .ref l /\ y = .ref b /\ SqL K H l xs /\ SqL K H b zs /\ xs.length + zs.length <= sizeLine /\ ∀ p, H p = none -> Q (.ref p) (upd H p (.lst (xs ++ zs)))
theorem op_catS : OpR X (binaryOp .Add) (rCatS X.K) := by
 intro pins s σ H x y v u Q I rx ry h
 obtain ⟨l, b, xs, zs, rfl, rfl, hH, hB, hz, q⟩ := h
 cases rx
 cases ry
 obtain ⟨its, r, ⟨⟨cls, dd, data, sl⟩, n, ho, hc, _, hd⟩, _⟩ := I.list hH
 obtain ⟨its2, r2, ⟨⟨cls2, dd2, data2, sl2⟩, n2, ho2, hc2, _, hd2⟩, _⟩ := I.list hB
 simp only at hc hd hc2 hd2
 subst hc hd hc2 hd2
 have ea : its.toArray ++ its2.toArray = (its ++ its2).toArray := by simp
 have l1 := r.length
 have l2 := r2.length
 refine concat_meets ⟨_, ho, rfl⟩ ⟨_, ho2, rfl⟩ noFill_list_add seq_list_add PySem.F.slot_list_add PySem.F.entry_list_add (PySem.F.args_list_add_2 _ _) (list_addW l b its.toArray its2.toArray n n2 dd dd2 sl sl2 (by rw [List.size_toArray, List.size_toArray]; omega)) ⟨ho, ho2, ?_⟩
 rw [ea]
 exact ⟨.ref _, _, I.lnew (t' := s.toks) (r.append r2) (by rw [List.length_append]; omega), rfl, q _ I.fresh⟩
def uAdd (K : Fr) : R2 := λ x y H Q => rI0 (λ i j => .int (i + j)) x y H Q \/ (∃ i j, x = .str i /\ y = .str j /\ i.length + j.length <= sizeLine /\ Q (.str (i ++ j)) H) \/ rCatS K x y H Q \/ rCatT K x y H Q
theorem uo_add : OpR X (binaryOp .Add) (uAdd X.K) := op_add.or (op_add_str.or (op_catS.or op_catT))
def uSub : R2 := rI0 λ i j => .int (i - j)
theorem uo_sub : OpR X (binaryOp .Sub) uSub := op_sub
def uMul : R2 := λ x y H Q => rI CMul (λ i j => .int (i * j)) x y H Q \/ rI CMulW (λ i j => .int (i * j)) x y H Q \/ rRep x y H Q \/ rRepS x y H Q
theorem uo_mul : OpR X (binaryOp .Mult) uMul := op_mul.or (op_mulW.or (op_rep.or op_repS))
def uMod : R2 := rI (λ _ j => 0 < j) λ i j => .int (i % j)
theorem uo_mod : OpR X (binaryOp .Mod) uMod := op_mod
def uDiv : R2 := rI CDivW λ i j => .int (i / j)
theorem uo_div : OpR X (binaryOp .FloorDiv) uDiv := op_fdivW
def uPow : R2 := rI CPow λ i j => .int (i ^ j.toNat)
theorem uo_pow : OpR X (binaryOp .Pow) uPow := op_pow
def iAdd : R2 := λ x y H Q => rI0 (λ i j => .int (i + j)) x y H Q \/ rExt2 x y H Q
theorem io_add : OpR X (inplaceOp .Add) iAdd := iop_add.or iop_ext
def iSub : R2 := rI0 λ i j => .int (i - j)
theorem io_sub : OpR X (inplaceOp .Sub) iSub := iop_sub
def iMul : R2 := rI CMul λ i j => .int (i * j)
theorem io_mul : OpR X (inplaceOp .Mult) iMul := iop_mul
def iDiv : R2 := rI CDiv λ i j => .int (i / j)
theorem io_div : OpR X (inplaceOp .FloorDiv) iDiv := iop_fdiv
def uEq (K : Fr) : R2 := λ x y H Q => rEq x y H Q \/ rEqD K x y H Q
theorem uo_eq (hu : X.A.units + 64 < cLine) : OpR X (compareOp .Eq) (uEq X.K) := op_eq.or (op_eqD hu)
def uNe (K : Fr) : R2 := λ x y H Q => rNe x y H Q \/ rNeD K x y H Q
theorem uo_ne (hu : X.A.units + 64 < cLine) : OpR X (compareOp .NotEq) (uNe X.K) := op_ne.or (op_neD hu)
def uLt : R2 := rI0 λ i j => .bl (decide (i < j))
def uLe : R2 := rI0 λ i j => .bl (decide (i <= j))
def uGt : R2 := rI0 λ i j => .bl (decide (j < i))
def uGe : R2 := rI0 λ i j => .bl (decide (j <= i))
theorem uo_lt : OpR X (compareOp .Lt) uLt := op_lt
theorem uo_le : OpR X (compareOp .LtE) uLe := op_le
theorem uo_gt : OpR X (compareOp .Gt) uGt := op_gt
theorem uo_ge : OpR X (compareOp .GtE) uGe := op_ge
def gIx (K : Fr) : V -> V -> Hp -> VK -> Prop := λ o i H Q => (∃ (p : Addr) (xs : List V) (n : Int) (v : V), o = .ref p /\ i = .int n /\ SqL K H p xs /\ 0 <= n /\ xs[n.toNat]? = some v /\ Q v H) \/ ∃ p v, o = .ref p /\ DGet H p i (some v) /\ Q v H
theorem get_any (hu : X.A.units + 1 < cLine) : PGet X (gIx X.K) := by
 intro pins s σ H o i ov iv Q I r1 r2 h
 rcases h with ⟨p, xs, n, v, rfl, rfl, hs, h0, hx, q⟩ | ⟨p, v, rfl, hd, q⟩
 · cases (show ov = Value.ref p from r1)
   obtain ⟨tk, rfl⟩ := r2
   obtain ⟨its, rv, pl, hz⟩ := I.list hs
   obtain ⟨u, hu, ru⟩ := rv.get hx
   have hlt : n.toNat < xs.length := (List.getElem?_eq_some_iff.mp hx).1
   have hle : n < 2 ^ 63 := by
     have := line63
     omega
   exact wpAny_getItem_list pl.isList h0 hle (by simpa using hu) ⟨v, H, I, ru, q⟩
 · cases (show ov = Value.ref p from r1)
   exact d_getItem hu I hd r2 λ w' s' I' rw' => ⟨v, H, I', rw', q⟩
def uSet : V -> V -> V -> Hp -> (Hp -> Prop) -> Prop := λ o i v H Q => rSetL o i v H Q \/ ∃ p H', o = .ref p /\ DPut H p i v H' /\ Q H'
theorem set_any (hu : X.A.units + 1 < cLine) : PSet X uSet := by
 intro pins s σ H o i v ov iv u Q I r1 r2 r3 h
 rcases h with h | ⟨p, H', rfl, hd, q⟩
 · exact set_list pins s σ H o i v ov iv u Q I r1 r2 r3 h
 · cases (show ov = Value.ref p from r1)
   exact d_setItem hu I hd r2 r3 λ s' I' => ⟨H', I', q⟩
theorem ip_of {op : Operator} {r : R2} (h : OpR X (inplaceOp op) r) : PIp X op r := λ pins s σ H x y v u Q I a b q => h pins s σ H x y v u Q I a b q
def uLen (K : Fr) : List V -> Hp -> VK -> Prop := λ xs H Q => (∃ x n, xs = [x] /\ LenV K x H n /\ Q (.int n) H) \/ ∃ d kvs, xs = [.ref d] /\ Rd H d (.dK kvs) /\ Q (.int (kvs.length : Nat)) H
theorem call_lenRd : CallR X (.builtin "len") (λ xs H Q => ∃ a kvs, xs = [V.ref a] /\ Rd H a (.dK kvs) /\ Q (.int (kvs.length : Nat)) H) := by
 intro pins s σ H xs us Q I r h
 obtain ⟨a, kvs, rfl, ha, q⟩ := h
 obtain ⟨u, rfl, ru⟩ := vals1 r
 cases ru
 exact d_len I ha λ t s' I' => ⟨.int kvs.length, H, I', ⟨t, rfl⟩, q⟩
theorem cr_len : CallR X (.builtin "len") (uLen X.K) := call_len.or call_lenRd
theorem pe_globI {x : Str} {i : Int} {pos : Pos} (hg : Gl X x) (hm : ∃ t, X.mg x = some (.int i t)) (hd : (x == ("__debug__" : Str)) = false := by decide) : PE X (.Name x pos) (tC (.int i)) := by
 obtain ⟨t, hm⟩ := hm
 exact pe_glob hg hm ⟨t, rfl⟩ hd
def uIx (K : Fr) : R2 := rIx K
theorem ix_any : IxR X (uIx X.K) := ix_seq
def uSl (K : Fr) : V -> Option Int -> Option Int -> Hp -> VK -> Prop := λ x lo hi H Q => rSlL K x lo hi H Q \/ rSlT K x lo hi H Q
theorem sl_any : SlR X (uSl X.K) := sl_list.or sl_tup
end
section
variable {K : Fr} {σ : L2.St} {H : Hp} {Q : VK} {D : Ends} {t u : TS} {te ta tb tc : TE} {tt : TT} {Rs : List Res} {E : XK}
theorem g_seq (k : t { D with nx := u D } σ H) : tSeq t u D σ H := k
theorem g_next (k : D.nx σ H) : tNext D σ H := k
theorem g_asg {i : Nat} (k : te σ H λ x H1 => D.nx (σ.set i (some x)) H1) : tAsg te (gName i) D σ H := k
theorem g_asgX {g : TG} (k : te σ H λ x H1 => g x σ H1 D.nx) : tAsg te g D σ H := k
theorem g_drop (k : te σ H λ _ H1 => D.nx σ H1) : tDrop te D σ H := k
theorem g_ret (k : te σ H D.rt) : tRet te D σ H := k
theorem g_retN (k : D.rt .non H) : tRetN D σ H := k
theorem g_if (k : tt σ H λ b H1 => if b = true then t D σ H1 else u D σ H1) : tIfS tt t u D σ H := k
theorem g_nx {f r b c} (k : f σ H) : (Ends.mk f r b c).nx σ H := k
theorem g_rt {f b c} {r : VK} {v : V} (k : r v H) : (Ends.mk f r b c).rt v H := k
theorem g_bk {f b c} {r : VK} (k : b σ H) : (Ends.mk f r b c).bk σ H := k
theorem g_ct {f b c} {r : VK} (k : c σ H) : (Ends.mk f r b c).ct σ H := k
theorem g_var {i : Nat} {v : V} (h : σ[i]? = some (some v)) (k : Q v H) : tVar i σ H Q := ⟨v, h, k⟩
theorem g_c {v : V} (k : Q v H) : tC v σ H Q := k
theorem g_op {r : R2} (k : ta σ H λ x H1 => tb σ H1 λ y H2 => r x y H2 Q) : tOp r ta tb σ H Q := k
theorem g_un {r : V -> Hp -> VK -> Prop} (k : ta σ H λ x H1 => r x H1 Q) : tUn r ta σ H Q := k
theorem g_nil {Q : List V -> Hp -> Prop} (k : Q [] H) : tNil σ H Q := k
theorem g_cons {tr : TA} {Q : List V -> Hp -> Prop} (k : ta σ H λ x H1 => tr σ H1 λ xs H2 => Q (x :: xs) H2) : tCons ta tr σ H Q := k
theorem g_cb {r : List V -> Hp -> VK -> Prop} {t : TA} (k : t σ H λ vs H1 => r vs H1 Q) : tCB r t σ H Q := k
theorem g_call {sp : Sp} {dvs : List V} {t : TA} (k : t σ H λ vs H1 => sp (vs ++ dvs) H1 Q E) : tCall sp dvs E t σ H Q := k
def LstK (Q : VK) : List V -> Hp -> Prop := λ xs H1 => xs.length <= sizeLine /\ ∀ p, H1 p = none -> Q (.ref p) (upd H1 p (.lst xs))
def TupK (Q : VK) : List V -> Hp -> Prop := λ xs H1 => xs.length <= sizeLine /\ ∀ p, H1 p = none -> Q (.ref p) (upd H1 p (.tup xs))
theorem g_lst {t : TA} (k : t σ H (LstK Q)) : tLst t σ H Q := k
theorem g_tup {t : TA} (k : t σ H (TupK Q)) : tTup t σ H Q := k
theorem v_lst {xs : List V} (S : M Rs H) (hn : xs.length <= 100000) (k : ∀ p H', M (pt p (.lst xs) :: Rs) H' -> Q (.ref p) H') : LstK Q xs H :=
 ⟨Nat.le_trans hn (by decide), λ p hp => k p _ (S.new hp)⟩
theorem v_tup {xs : List V} (S : M Rs H) (hn : xs.length <= 100000) (k : ∀ p H', M (pt p (.tup xs) :: Rs) H' -> Q (.ref p) H') : TupK Q xs H :=
 ⟨Nat.le_trans hn (by decide), λ p hp => k p _ (S.new hp)⟩
theorem g_test {Q : Bool -> Hp -> Prop} (k : te σ H λ x H' => ∃ b, x = .bl b /\ Q b H') : tTest te σ H Q := k
theorem g_B {Q : Bool -> Hp -> Prop} (k : te σ H λ x H' => ∃ b, x = .bl b /\ Q b H') : tB te σ H Q := k
theorem g_bl {b : Bool} {Q : Bool -> Prop} (k : Q b) : ∃ c, V.bl b = .bl c /\ Q c := ⟨b, rfl, k⟩
theorem g_and {s : TT} {Q : Bool -> Hp -> Prop} (k : tt σ H λ c H1 => if c = true then s σ H1 Q else Q false H1) : tAnd tt s σ H Q := k
theorem g_or {s : TT} {Q : Bool -> Hp -> Prop} (k : tt σ H λ c H1 => if c = true then Q true H1 else s σ H1 Q) : tOr tt s σ H Q := k
theorem g_not {Q : Bool -> Hp -> Prop} (k : tt σ H λ c H1 => Q (!c) H1) : tNot tt σ H Q := k
theorem g_andV (k : ta σ H λ x H1 => ∃ c, x = .bl c /\ if c = true then tb σ H1 Q else Q (.bl false) H1) : tAndV ta tb σ H Q := k
theorem g_orV (k : ta σ H λ x H1 => ∃ c, x = .bl c /\ if c = true then Q (.bl true) H1 else tb σ H1 Q) : tOrV ta tb σ H Q := k
theorem g_notV (k : ta σ H λ x H1 => ∃ c, x = .bl c /\ Q (.bl (!c)) H1) : tNotV ta σ H Q := k
theorem g_ifE (k : tt σ H λ c H1 => if c = true then ta σ H1 Q else tb σ H1 Q) : tIf tt ta tb σ H Q := k
theorem g_chain {r r' : R2} (k : ta σ H λ x H1 => tb σ H1 λ y H2 => r x y H2 λ z H3 => ∃ k, z = .bl k /\ (if k = true then tc σ H3 λ w' H4 => r' y w' H4 Q else Q (.bl false) H3)) : tChain r r' ta tb tc σ H Q := k
theorem g_aug {i : Nat} {ti : TIp} {v : V} (h : σ[i]? = some (some v)) (k : te σ H λ y H1 => ti v y H1 λ z H2 => D.nx (σ.set i (some z)) H2) : tAug i te ti D σ H := ⟨v, h, k⟩
theorem g_augS {tget : V -> V -> Hp -> VK -> Prop} {tip : TIp} {tset : TSet} (k : ta σ H λ o H1 => tb σ H1 λ i H2 => tget o i H2 λ x H3 => te σ H3 λ y H4 => tip x y H4 λ z H5 => tset o i z H5 λ H6 => D.nx σ H6) :
   tAugS ta tb te tget tip tset D σ H := k
theorem g_sub {t3 : TSet} {v : V} {Q : L2.St -> Hp -> Prop} (k : ta σ H λ o H1 => tb σ H1 λ i H2 => t3 o i v H2 λ H3 => Q σ H3) : gSub ta tb t3 v σ H Q := k
theorem g_sl {r : V -> Option Int -> Option Int -> Hp -> VK -> Prop} {tl th : TO} (k : te σ H λ x H1 => tl σ H1 λ l H2 => th σ H2 λ u H3 => r x l u H3 Q) : tSl r te tl th σ H Q := k
theorem g_noPart {Q : Option Int -> Hp -> Prop} (k : Q none H) : tNoPart σ H Q := k
theorem g_part {Q : Option Int -> Hp -> Prop} (k : te σ H λ x H1 => ∃ i, x = .int i /\ Q (some i) H1) : tPart te σ H Q := k
theorem g_int {i : Int} {Q : Int -> Prop} (k : Q i) : ∃ j, V.int i = .int j /\ Q j := ⟨i, rfl, k⟩
theorem v_add {i j : Int} (k : Q (.int (i + j)) H) : uAdd K (.int i) (.int j) H Q := .inl ⟨i, j, rfl, rfl, k⟩
theorem v_sub {i j : Int} (k : Q (.int (i - j)) H) : uSub (.int i) (.int j) H Q := ⟨i, j, rfl, rfl, k⟩
theorem v_mul {i j : Int} (h : CMul i j \/ CMulW i j) (k : Q (.int (i * j)) H) : uMul (.int i) (.int j) H Q := h.elim (λ h => .inl ⟨i, j, rfl, rfl, h, k⟩) λ h => .inr (.inl ⟨i, j, rfl, rfl, h, k⟩)
theorem v_mod {i j : Int} (h : 0 < j) (k : Q (.int (i % j)) H) : uMod (.int i) (.int j) H Q := ⟨i, j, rfl, rfl, h, k⟩
theorem div_ok {i j : Int} (h : 0 < j /\ j < 2 ^ 64) : CDivW i j := wide_div (b := 64) h.1 (by omega) (by decide) (by decide)
theorem v_div {i j : Int} (h : 0 < j /\ j < 2 ^ 64) (k : Q (.int (i / j)) H) : uDiv (.int i) (.int j) H Q := ⟨i, j, rfl, rfl, div_ok h, k⟩
theorem v_iadd {i j : Int} (k : Q (.int (i + j)) H) : iAdd (.int i) (.int j) H Q := .inl ⟨i, j, rfl, rfl, k⟩
theorem v_isub {i j : Int} (k : Q (.int (i - j)) H) : iSub (.int i) (.int j) H Q := ⟨i, j, rfl, rfl, k⟩
theorem v_imul {i j : Int} (h : CMul i j) (k : Q (.int (i * j)) H) : iMul (.int i) (.int j) H Q := ⟨i, j, rfl, rfl, h, k⟩
theorem v_idiv {i j : Int} (h : CDiv i j) (k : Q (.int (i / j)) H) : iDiv (.int i) (.int j) H Q := ⟨i, j, rfl, rfl, h, k⟩
theorem v_lt {i j : Int} (k : Q (.bl (decide (i < j))) H) : uLt (.int i) (.int j) H Q := ⟨i, j, rfl, rfl, k⟩
theorem v_le {i j : Int} (k : Q (.bl (decide (i <= j))) H) : uLe (.int i) (.int j) H Q := ⟨i, j, rfl, rfl, k⟩
theorem v_gt {i j : Int} (k : Q (.bl (decide (j < i))) H) : uGt (.int i) (.int j) H Q := ⟨i, j, rfl, rfl, k⟩
theorem v_ge {i j : Int} (k : Q (.bl (decide (j <= i))) H) : uGe (.int i) (.int j) H Q := ⟨i, j, rfl, rfl, k⟩
theorem v_eqI {i j : Int} (k : Q (.bl (decide (i = j))) H) : uEq K (.int i) (.int j) H Q := .inl ⟨rfl, by
 have e : decide (V.int i = V.int j) = decide (i = j) := decide_eq_decide.mpr ⟨λ h => V.int.inj h, λ h => by rw [h]⟩
 rw [e]
 exact k⟩
theorem v_neI {i j : Int} (k : Q (.bl (!decide (i = j))) H) : uNe K (.int i) (.int j) H Q := .inl ⟨rfl, by
 have e : decide (V.int i = V.int j) = decide (i = j) := decide_eq_decide.mpr ⟨λ h => V.int.inj h, λ h => by rw [h]⟩
 rw [e]
 exact k⟩
theorem v_eqS {i j : Str} (k : Q (.bl (decide (i = j))) H) : uEq K (.str i) (.str j) H Q := .inl ⟨rfl, by
 have e : decide (V.str i = V.str j) = decide (i = j) := decide_eq_decide.mpr ⟨λ h => V.str.inj h, λ h => by rw [h]⟩
 rw [e]
 exact k⟩
theorem v_eqB {i j : Bool} (k : Q (.bl (decide (i = j))) H) : uEq K (.bl i) (.bl j) H Q := .inl ⟨rfl, by
 have e : decide (V.bl i = V.bl j) = decide (i = j) := decide_eq_decide.mpr ⟨λ h => V.bl.inj h, λ h => by rw [h]⟩
 rw [e]
 exact k⟩
theorem v_neB {i j : Bool} (k : Q (.bl (!decide (i = j))) H) : uNe K (.bl i) (.bl j) H Q := .inl ⟨rfl, by
 have e : decide (V.bl i = V.bl j) = decide (i = j) := decide_eq_decide.mpr ⟨λ h => V.bl.inj h, λ h => by rw [h]⟩
 rw [e]
 exact k⟩
theorem v_eqD {x y : V} {d e : PyData} (h1 : Dp K H x d) (h2 : Dp K H y e) (s1 : SeqAt.shaped d = true) (s2 : SeqAt.shaped e = true) (k : Q (.bl (PyData.eqv d e)) H) : uEq K x y H Q := .inr ⟨d, e, h1, h2, s1, s2, k⟩
theorem v_neD {x y : V} {d e : PyData} (h1 : Dp K H x d) (h2 : Dp K H y e) (s1 : SeqAt.shaped d = true) (s2 : SeqAt.shaped e = true) (k : Q (.bl (!PyData.eqv d e)) H) : uNe K x y H Q := .inr ⟨d, e, h1, h2, s1, s2, k⟩
theorem v_ixL {p : Addr} {xs : List V} {i : Int} {v : V} (h : SqL K H p xs) (ha : atI xs i = some v) (k : Q v H) : uIx K (.ref p) (.int i) H Q := .inl ⟨p, xs, i, v, rfl, rfl, h, ha, k⟩
theorem v_ixT {p : Addr} {xs : List V} {i : Int} {v : V} (h : SqT K H p xs) (ha : atI xs i = some v) (k : Q v H) : uIx K (.ref p) (.int i) H Q := .inr (.inl ⟨p, xs, i, v, rfl, rfl, h, ha, k⟩)
theorem v_get {p : Addr} {xs : List V} {n : Int} {v : V} (h : SqL K H p xs) (h0 : 0 <= n) (ha : xs[n.toNat]? = some v) (k : Q v H) : gIx K (.ref p) (.int n) H Q := .inl ⟨p, xs, n, v, rfl, rfl, h, h0, ha, k⟩
theorem ixN_int {n : Nat} {i : Int} (h0 : 0 <= i) (h1 : i < n) : ixN n i = some i.toNat := by
 unfold ixN
 rw [if_pos h0, if_pos h1]
theorem atI_int {α : Type} {xs : List α} {i : Int} {v : α} (h0 : 0 <= i) (h : xs[i.toNat]? = some v) : atI xs i = some v := by
 have hl := (List.getElem?_eq_some_iff.mp h).1
 unfold atI
 rw [ixN_int h0 (by omega)]
 exact h
theorem atI_ints {ns : List Int} {i : Int} (h0 : 0 <= i) (h1 : i < ns.length) : atI (ns.map V.int) i = some (.int (ns.getD i.toNat 0)) := by
 refine atI_int h0 ?_
 have hl : i.toNat < ns.length := by omega
 rw [List.getElem?_map, List.getElem?_eq_getElem hl, List.getD_eq_getElem?_getD, List.getElem?_eq_getElem hl]
 rfl
theorem v_set {p : Addr} {xs : List V} {n : Int} {j : Nat} {v : V} {Q : Hp -> Prop} (S : M Rs H) (i : Nat) (e : Rs[i]? = some (pt p (.lst xs))) (hj : ixN xs.length n = some j) (k : ∀ H', M (Rs.set i (pt p (.lst (xs.set j v)))) H' -> Q H') :
   uSet (.ref p) (.int n) v H Q := .inl ⟨p, xs, n, j, rfl, rfl, S.got i e, hj, k _ (S.putAt i e)⟩
theorem v_catS {a b : Addr} {xs ys : List V} (S : M Rs H) (h1 : SqL K H a xs) (h2 : SqL K H b ys) (hz : xs.length + ys.length <= 100000) (k : ∀ p H', M (pt p (.lst (xs ++ ys)) :: Rs) H' -> Q (.ref p) H') : uAdd K (.ref a) (.ref b) H Q :=
 .inr (.inr (.inl ⟨a, b, xs, ys, rfl, rfl, h1, h2, Nat.le_trans hz (by decide), λ p hp => k p _ (S.new hp)⟩))
theorem v_slL {a : Addr} {xs : List V} {lo hi : Option Int} (S : M Rs H) (h : SqL K H a xs) (k : ∀ p H', M (pt p (.lst (cutV xs lo hi)) :: Rs) H' -> Q (.ref p) H') : uSl K (.ref a) lo hi H Q :=
 .inl ⟨a, xs, rfl, h, λ p hp => k p _ (S.new hp)⟩
def RevK (K : Fr) (Q : VK) : VK := λ x H1 => ∃ a xs, x = .ref a /\ SqL K H1 a xs /\ ∀ p, H1 p = none -> Q (.ref p) (upd H1 p (.lst xs.reverse))
theorem g_rev (k : te σ H (RevK K Q)) : tRevL K te σ H Q := k
theorem v_lenL {a : Addr} {xs : List V} (h : SqL K H a xs) (k : Q (.int (xs.length : Nat)) H) : uLen K [.ref a] H Q := .inl ⟨_, _, rfl, .inl ⟨xs, h, rfl⟩, k⟩
theorem g_bm {T : String} {r : V -> List V -> Hp -> VK -> Prop} {t : TA} (k : te σ H λ x H1 => tyV K T x H1 /\ t σ H1 λ xs H2 => r x xs H2 Q) : tBM K T r te t σ H Q := k
theorem g_bm0 {T : String} {r : V -> List V -> Hp -> VK -> Prop} (k : te σ H λ x H1 => tyV K T x H1 /\ r x [] H1 Q) : tBM0 K T r te σ H Q := k
theorem v_tyL {a : Addr} {xs : List V} {φ : Prop} (h : SqL K H a xs) (k : φ) : tyV K "list" (.ref a) H /\ φ := ⟨.inl ⟨rfl, xs, h⟩, k⟩
theorem v_app {p : Addr} {xs : List V} {v : V} (S : M Rs H) (i : Nat) (e : Rs[i]? = some (pt p (.lst xs))) (hz : xs.length < 100000) (k : ∀ H', M (Rs.set i (pt p (.lst (xs ++ [v])))) H' -> Q .non H') : rAppend (.ref p) [v] H Q :=
 ⟨p, xs, v, rfl, rfl, S.got i e, Nat.lt_of_lt_of_le hz (by decide), k _ (S.putAt i e)⟩
theorem v_ifD {c : Prop} [Decidable c] {A B : Prop} (h1 : c -> A) (h2 : ¬ c -> B) : if decide c = true then A else B := by
 by_cases h : c
 · rw [decide_eq_true h]
   exact h1 h
 · rw [decide_eq_false h]
   exact h2 h
theorem v_ifT {A B : Prop} (k : A) : if true = true then A else B := k
theorem v_ifF {A B : Prop} (k : B) : if false = true then A else B := k
end
end RC
namespace RC
open PySem PySem.Spec PyProof.Rows L2
def fdOf (K : Fr) (f : Addr) : FuncData := match K.lookup f with
 | some ⟨_, _, .func fd, _⟩ => fd
 | _ => PySem.W.fnOf "" "" ⟨[], [], none, [], [], none, []⟩ [] ⟨.function, [], false, false, []⟩ .none .none .none .none none .none .none
theorem fd_of {K : Fr} {x q : Str} {ar : Arguments} {bd : List Stmt} {sc : Scope} {dvs : List V} {kws : List (Str × V)} {f : Addr} (h : ∃ fd, FunD K x q ar bd sc dvs kws f fd) : FunD K x q ar bd sc dvs kws f (fdOf K f) := by
 obtain ⟨fd, F⟩ := h
 have e : fdOf K f = fd := by
   obtain ⟨⟨oc, od, dV, kV, doc, pm, an, cdv, ct, osl, rfl, lk, _, _, _⟩, _⟩ := F
   unfold fdOf
   rw [lk]
 rw [e]
 exact F
def rdL (K : Fr) (a : Addr) (xs : List V) : Res := ⟨λ F l => l = [] /\ SqL K F a xs, λ _ _ _ e h => ⟨h.1, e.sqL h.2⟩⟩
theorem M.start {K : Fr} {H : Hp} {a : Addr} {xs : List V} (h : SqL K H a xs) : M [rdL K a xs] H :=
 ⟨H, [], ⟨[], [], rfl, ⟨rfl, h⟩, rfl⟩, ⟨Ext.refl H, (λ _ h => nomatch h), List.nodup_nil⟩⟩
theorem M.gotR {K : Fr} {Rs : List Res} {H : Hp} {a : Addr} {xs : List V} (h : M Rs H) (i : Nat) (e : Rs[i]? = some (rdL K a xs)) : SqL K H a xs := by
 obtain ⟨F, L, ⟨l1, l2, rfl, ⟨_, q⟩, b⟩, m⟩ := h.at i e
 exact m.ex.sqL q
def Ent (Rs : List Res) (φ : Hp -> Prop) : Prop := ∀ H, M Rs H -> φ H
def rAbs : List V -> Hp -> VK -> Prop := λ xs H Q => ∃ i, xs = [.int i] /\ Q (.int (if i < 0 then -i else i)) H
theorem cr_abs {X : Cx} : CallR X (.builtin "abs") rAbs := call_abs
def rListOf (K : Fr) : List V -> Hp -> VK -> Prop := λ xs H Q => ∃ p ys, xs = [.ref p] /\ (SqL K H p ys \/ SqT K H p ys) /\ ∀ l, H l = none -> Q (.ref l) (upd H l (.lst ys))
theorem cr_list {X : Cx} : CallR X (.type "list") (rListOf X.K) := call_list_of
theorem v_abs {i : Int} {H : Hp} {Q : VK} (k : Q (.int (if i < 0 then -i else i)) H) : rAbs [.int i] H Q := ⟨i, rfl, k⟩
theorem v_list {K : Fr} {Rs : List Res} {H : Hp} {Q : VK} {a : Addr} {xs : List V} (S : M Rs H) (h : SqL K H a xs \/ SqT K H a xs) (k : ∀ p H', M (pt p (.lst xs) :: Rs) H' -> Q (.ref p) H') : rListOf K [.ref a] H Q :=
 ⟨a, xs, rfl, h, λ p hp => k p _ (S.new hp)⟩
def rIsN : R2 := λ x y H Q => y = .non /\ Q (.bl (decide (x = .non))) H
def rNotN : R2 := λ x y H Q => y = .non /\ Q (.bl (!decide (x = .non))) H
end RC
namespace RC
open PySem PySem.Spec PyProof.Rows L2
def ForW (J : It) (g : TG) (tb : TS) (D : Ends) (σ : L2.St) (H1 : Hp) : Prop := ∃ W : Nat -> Nat -> L2.St -> Hp -> Prop, (∃ m, W 0 m σ H1) /\ ∀ i m σ H, W i m σ H ->
 (J.stop i H /\ D.nx σ H) \/ (J.go i H /\ ∃ N : L2.St -> Hp -> Prop, (∀ σ' H', N σ' H' -> ∃ m', m' < m /\ W (i + 1) m' σ' H') /\ ∀ x H', J.yld i H x H' -> g x σ H' λ σ2 H2 => tb { D with nx := N, ct := N, bk := D.nx } σ2 H2)
def LcW (J : It) (g : TG) (tt : TT) (te : TE) (vs : List Nat) (σ : L2.St) (Q : VK) (H1 : Hp) : Prop := ∀ D, H1 D = none -> ∃ W : Nat -> Nat -> Hp -> Prop, (∃ m, W 0 m (upd H1 D (.lst []))) /\ ∀ i m H, W i m H ->
 (J.stop i H /\ Q (.ref D) H) \/ (J.go i H /\ ∃ Nx : Hp -> Prop, (∀ H', Nx H' -> ∃ m', m' < m /\ W (i + 1) m' H') /\ ∀ x H', J.yld i H x H' -> g x (wipe σ vs) H' λ σ2 H2 => wipe σ2 vs = wipe σ vs /\ tt σ2 H2 λ b H3 =>
   if b = true then te σ2 H3 λ y H4 => ∃ acc, H4 D = some (.lst acc) /\ acc.length < sizeLine /\ Nx (upd H4 D (.lst (acc ++ [y]))) else Nx H3)
section
variable {K : Fr} {σ : L2.St} {H : Hp} {Q : VK} {D : Ends} {tb : TS} {te tl : TE} {ta : TA} {tt : TT} {g : TG} {vs : List Nat} {wi : TI} {J : It} {R : It -> Hp -> Prop} {a : Addr} {xs : List V} {Rs : List Res}
theorem g_for (k : wi σ H λ J H1 => ForW J g tb D σ H1) : tFor wi g tb D σ H := k
theorem g_lc (k : wi σ H λ J H1 => LcW J g tt te vs σ Q H1) : tLc wi g tt te vs σ H Q := k
def ItL (K : Fr) (R : It -> Hp -> Prop) : VK := λ x H1 => ∃ a, x = .ref a /\ (∃ xs, SqL K H1 a xs) /\ R (Itl K a) H1
def ItR (R : It -> Hp -> Prop) : List V -> Hp -> Prop := λ vs H1 => ∃ j : Int, vs = [.int j] /\ -(2 ^ 62) <= j /\ j < 2 ^ 62 /\ R (Itr 0 j.toNat) H1
def ItV (K : Fr) (R : It -> Hp -> Prop) : List V -> Hp -> Prop := λ vs H1 => ∃ (a : Addr) (xs : List V), vs = [.ref a] /\ SqL K H1 a xs /\ R (Itv K a xs.length) H1
theorem g_iList (k : tl σ H (ItL K R)) : iList K tl σ H R := k
theorem v_itL (h : SqL K H a xs) (k : R (Itl K a) H) : ItL K R (.ref a) H := ⟨a, rfl, ⟨xs, h⟩, k⟩
theorem g_iRng1 (k : ta σ H (ItR R)) : iRng1 ta σ H R := k
theorem v_itR {j : Int} (h : -(2 ^ 62) <= j /\ j < 2 ^ 62) (k : R (Itr 0 j.toNat) H) : ItR R [V.int j] H := ⟨j, rfl, h.1, h.2, k⟩
theorem g_iRev (k : ta σ H (ItV K R)) : iRev K ta σ H R := k
theorem v_itV (h : SqL K H a xs) (k : R (Itv K a xs.length) H) : ItV K R [V.ref a] H := ⟨a, xs, rfl, h, k⟩
theorem for_W {n : Nat} {G : Hp -> Prop} {Y : Nat -> Hp -> V -> Hp -> Prop} (w : Walk J n G Y) (Pv : Nat -> L2.St -> Hp -> Prop) (h0 : Pv 0 σ H) (hG : ∀ i σ H, i <= n -> Pv i σ H -> G H)
   (hs : ∀ i x σ H H', i < n -> Pv i σ H -> Y i H x H' -> g x σ H' λ σ2 H2 => tb { D with nx := Pv (i + 1), ct := Pv (i + 1), bk := D.nx } σ2 H2) (hd : ∀ σ H, Pv n σ H -> D.nx σ H) : ForW J g tb D σ H := for_it w Pv h0 hG hs hd
def PvM (P : Nat -> List V -> Prop) (E : Addr) (Rs : List Res) (i : Nat) (H : Hp) : Prop := ∃ acc, P i acc /\ M (pt E (.lst acc) :: Rs) H
def LcK (N : Hp -> Prop) (E : Addr) : VK := λ y H4 => ∃ acc, H4 E = some (.lst acc) /\ acc.length < sizeLine /\ N (upd H4 E (.lst (acc ++ [y])))
theorem lc_W {n : Nat} {G : Hp -> Prop} {Y : Nat -> Hp -> V -> Hp -> Prop} (w : Walk J n G Y) (S : M Rs H) (P : Nat -> List V -> Prop) (h0 : P 0 []) (hG : ∀ H, M Rs H -> G H)
   (hs : ∀ i x acc E H H', i < n -> P i acc -> M (pt E (.lst acc) :: Rs) H -> Y i H x H' -> g x (wipe σ vs) H' λ σ2 H2 => wipe σ2 vs = wipe σ vs /\ tt σ2 H2 λ b H3 => if b = true then te σ2 H3 (LcK (PvM P E Rs (i + 1)) E) else PvM P E Rs (i + 1) H3)
   (hd : ∀ E acc H, P n acc -> M (pt E (.lst acc) :: Rs) H -> Q (.ref E) H) : LcW J g tt te vs σ Q H := by
 intro E hE
 refine lc_it w (PvM P E Rs) ⟨[], h0, S.new hE⟩ (λ i H _ ⟨acc, _, S⟩ => hG H S.tl) (λ i x H H' hi ⟨acc, hp, S⟩ y => hs i x acc E H H' hi hp S y) λ H ⟨acc, hp, S⟩ => hd E acc H hp S
theorem lc_next {N : Hp -> Prop} {E : Addr} {y : V} {acc : List V} (S : M Rs H) (i : Nat) (e : Rs[i]? = some (pt E (.lst acc))) (hz : acc.length < 100000) (k : ∀ H', M (Rs.set i (pt E (.lst (acc ++ [y])))) H' -> N H') : LcK N E y H :=
 ⟨acc, S.got i e, Nat.lt_of_lt_of_le hz (by decide), k _ (S.putAt i e)⟩
theorem g_yes {Q : Bool -> Hp -> Prop} (k : Q true H) : tYes σ H Q := k
theorem g_name {i : Nat} {v : V} {Q : L2.St -> Hp -> Prop} (k : Q (σ.set i (some v)) H) : gName i v σ H Q := k
end
theorem ints_get {ns : List Int} {i : Nat} {x : V} (h : (ns.map V.int)[i]? = some x) : ∃ n, ns[i]? = some n /\ x = .int n := by
 rw [List.getElem?_map] at h
 cases e : ns[i]? with
 | none =>
   rw [e] at h
   cases h
 | some n =>
   rw [e] at h
   exact ⟨n, rfl, (Option.some.inj h).symm⟩
end RC
namespace RC
open PySem PySem.Spec PyProof.Rows L2
theorem cut_to (xs : List V) (k : Nat) : cutV xs none (some (k : Int)) = xs.take k := by
 unfold cutV
 rw [HT.sIx_none, HT.sIx_nat, List.drop_zero, Nat.sub_zero]
 rcases Nat.le_total k xs.length with h | h
 · rw [Nat.min_eq_left h]
 · rw [Nat.min_eq_right h, List.take_of_length_le (Nat.le_refl _), List.take_of_length_le h]
theorem g_wipe {a b : L2.St} {φ : Prop} (h : a = b) (k : φ) : a = b /\ φ := ⟨h, k⟩
end RC
namespace RC
open PySem PySem.Spec PyProof.Rows L2
def AllI (P : Int -> Prop) : List V -> Prop
 | [] => True
 | .int n :: r => P n /\ AllI P r
 | _ => False
theorem AllI.get {P : Int -> Prop} : ∀ {xs : List V}, AllI P xs -> ∀ {j : Nat}, j < xs.length -> ∃ n, P n /\ xs[j]? = some (.int n)
 | [], _, j, h => absurd h (Nat.not_lt_zero _)
 | .int n :: r, h, 0, _ => ⟨n, h.1, rfl⟩
 | .int n :: r, h, j + 1, hj => by
   obtain ⟨m, a, b⟩ := AllI.get h.2 (Nat.lt_of_succ_lt_succ hj)
   exact ⟨m, a, by simpa using b⟩
 | .non :: _, h, _, _ => h.elim
 | .bl _ :: _, h, _, _ => h.elim
 | .str _ :: _, h, _, _ => h.elim
 | .byt _ :: _, h, _, _ => h.elim
 | .flt _ :: _, h, _, _ => h.elim
 | .ref _ :: _, h, _, _ => h.elim
 | .ty _ :: _, h, _, _ => h.elim
end RC
namespace RC
theorem v_ifNT {A B : Prop} (k : B) : if (!true) = true then A else B := k
theorem v_ifNF {A B : Prop} (k : A) : if (!false) = true then A else B := k
end RC
namespace RC
open PySem PySem.Spec PyProof.Rows L2
def Sub (Rs' Rs : List Res) : Prop := ∀ F L, Sat F Rs L -> ∃ L1 L2, L.Perm (L1 ++ L2) /\ Sat F Rs' L1
theorem Sub.refl (Rs : List Res) : Sub Rs Rs := λ _ L h => ⟨L, [], by rw [List.append_nil], h⟩
theorem Sub.nil (Rs : List Res) : Sub [] Rs := λ _ L _ => ⟨[], L, .refl _, rfl⟩
theorem Sub.cons {Rs Rs' : List Res} {R : Res} (i : Nat) (e : Rs[i]? = some R) (h : Sub Rs' (Rs.eraseIdx i)) : Sub (R :: Rs') Rs := by
 intro F L s
 obtain ⟨L0, p0, l1, l2, rfl, a, b⟩ := s.perm (perm_at i e)
 obtain ⟨L1, L2, p1, c⟩ := h F l2 b
 refine ⟨l1 ++ L1, L2, p0.trans ?_, l1, L1, rfl, a, c⟩
 rw [List.append_assoc]
 exact p1.append_left l1
theorem Sub.tl {Rs Rs' : List Res} {R : Res} (h : Sub Rs' Rs) : Sub Rs' (R :: Rs) := by
 rintro F L ⟨l1, l2, rfl, a, b⟩
 obtain ⟨L1, L2, p1, c⟩ := h F l2 b
 refine ⟨L1, l1 ++ L2, (p1.append_left l1).trans ?_, c⟩
 rw [<- List.append_assoc, <- List.append_assoc]
 exact List.Perm.append_right _ List.perm_append_comm
theorem M.sub {Rs Rs' : List Res} {H : Hp} (q : Sub Rs' Rs) (h : M Rs H) : M Rs' H := by
 obtain ⟨F, L, a, m⟩ := h
 obtain ⟨L1, L2, p, b⟩ := q F L a
 have m2 := m.perm p
 refine ⟨F, L1, b, m2.ex, λ c hc => m2.own c (List.mem_append_left _ hc), ?_⟩
 have nd := m2.nd
 rw [List.map_append] at nd
 exact (List.nodup_append.mp nd).1
end RC
namespace RC
open PySem PySem.Spec PyProof.Rows L2
section
variable {X : Cx}
def rDIn : R2 := λ x y H Q => ∃ a o, y = .ref a /\ DGet H a x o /\ Q (.bl o.isSome) H
def rDNotIn : R2 := λ x y H Q => ∃ a o, y = .ref a /\ DGet H a x o /\ Q (.bl (!o.isSome)) H
theorem op_din (hu : X.A.units + 1 < cLine) : OpR X (compareOp .In) rDIn := by
 intro pins s σ H x y v u Q I rx ry h
 obtain ⟨a, o, rfl, g, q⟩ := h
 cases (show u = Value.ref a from ry)
 exact d_in hu I g rx λ s' I' => ⟨.bl o.isSome, H, I', rfl, q⟩
theorem op_dnotin (hu : X.A.units + 1 < cLine) : OpR X (compareOp .NotIn) rDNotIn := by
 intro pins s σ H x y v u Q I rx ry h
 obtain ⟨a, o, rfl, g, q⟩ := h
 cases (show u = Value.ref a from ry)
 exact d_notIn hu I g rx λ s' I' => ⟨.bl (!o.isSome), H, I', rfl, q⟩
def rInS : R2 := λ x y H Q => ∃ i j, x = .str i /\ y = .str j /\ Q (.bl (!(Builtin.Str.occurrences j i 0 j.length 1).isEmpty)) H
def rNotInS : R2 := λ x y H Q => ∃ i j, x = .str i /\ y = .str j /\ Q (.bl (!(!(Builtin.Str.occurrences j i 0 j.length 1).isEmpty))) H
def uIn (K : Fr) : R2 := λ x y H Q => rIn K false x y H Q \/ rInD K x y H Q \/ rDIn x y H Q \/ rInS x y H Q
def uNotIn (K : Fr) : R2 := λ x y H Q => rIn K true x y H Q \/ rNotInD K x y H Q \/ rDNotIn x y H Q \/ rNotInS x y H Q
theorem op_notN' : OpR X (compareOp .IsNot) rNotN := op_notN
end
section
variable {K : Fr} {σ : L2.St} {H : Hp} {Q : VK} {D : Ends} {Rs : List Res} {E : XK}
theorem v_neg {i : Int} (k : Q (.int (-i)) H) : rU (λ i => .int (-i)) (.int i) H Q := ⟨i, rfl, k⟩
theorem v_isN {x : V} (k : Q (.bl (decide (x = .non))) H) : rIsN x .non H Q := ⟨rfl, k⟩
theorem v_notN {x : V} (k : Q (.bl (!decide (x = .non))) H) : rNotN x .non H Q := ⟨rfl, k⟩
theorem g_par {i j : Nat} {ta : TA} (k : ta σ H λ vs H1 => ∃ v w, vs = [v, w] /\ D.nx ((σ.set i (some v)).set j (some w)) H1) : tPar i j ta D σ H := k
theorem v_two {x y : V} {P : V -> V -> Prop} (k : P x y) : ∃ v w, [x, y] = [v, w] /\ P v w := ⟨x, y, rfl, k⟩
theorem g_callN {n m : Nat} {sp : Sp} {gV : List V -> List V -> List V} {t tk : TA} (k : t σ H λ vs H1 => tk σ H1 λ zs H2 => vs.length = n /\ zs.length = m /\ sp (gV vs zs) H2 Q E) : tCallN n m sp gV E t tk σ H Q := k
theorem v_lens {a b : List V} {n m : Nat} {P : Prop} (h1 : a.length = n) (h2 : b.length = m) (k : P) : a.length = n /\ b.length = m /\ P := ⟨h1, h2, k⟩
theorem g_gtup {n : Nat} {t : TGs} {a : Addr} {xs : List V} {Q : L2.St -> Hp -> Prop} (h : SqT K H a xs) (hn : xs.length = n) (k : t xs σ H Q) : gTup K n t (.ref a) σ H Q := ⟨a, xs, rfl, h, hn, k⟩
theorem g_gnil {Q : L2.St -> Hp -> Prop} (k : Q σ H) : gNil [] σ H Q := ⟨rfl, k⟩
theorem g_gcons {t : TG} {u : TGs} {v : V} {r : List V} {Q : L2.St -> Hp -> Prop} (k : t v σ H λ σ' H' => u r σ' H' Q) : gCons t u (v :: r) σ H Q := ⟨v, r, rfl, k⟩
end
end RC
namespace RC
open PySem PySem.Spec PyProof.Rows L2
theorem lc_X {H : Hp} {σ : L2.St} {Q : VK} {te : TE} {tt : TT} {g : TG} {vs : List Nat} {J : It} {n : Nat} {G : Hp -> Prop} {Y : Nat -> Hp -> V -> Hp -> Prop} (w : Walk J n G Y) (Pv : Addr -> Nat -> Hp -> Prop) (h0 : ∀ E, H E = none -> Pv E 0 (upd H E (.lst [])))
   (hG : ∀ E i H, i <= n -> Pv E i H -> G H)
   (hs : ∀ E i x H H', i < n -> Pv E i H -> Y i H x H' -> g x (wipe σ vs) H' λ σ2 H2 => wipe σ2 vs = wipe σ vs /\ tt σ2 H2 λ b H3 => if b = true then te σ2 H3 (LcK (Pv E (i + 1)) E) else Pv E (i + 1) H3)
   (hd : ∀ E H, Pv E n H -> Q (.ref E) H) : LcW J g tt te vs σ Q H := by
 intro E hE
 exact lc_it w (Pv E) (h0 E hE) (hG E) (hs E) (hd E)
end RC
namespace RC
open PySem PySem.Spec PyProof.Rows L2
section
variable {K : Fr} {σ : L2.St} {H : Hp} {Q : VK} {D : Ends} {Rs : List Res}
theorem v_pow {i j : Int} (h : 0 <= j /\ j <= 1000000 /\ i.natAbs < 2 ^ 64) (k : Q (.int (i ^ j.toNat)) H) : uPow (.int i) (.int j) H Q := ⟨i, j, rfl, rfl, h, k⟩
def WhW (c : TT) (tb : TS) (D : Ends) (σ : L2.St) (H : Hp) : Prop := ∃ W : Nat -> L2.St -> Hp -> Prop, (∃ m, W m σ H) /\ ∀ m σ H, W m σ H ->
 c σ H λ b H1 => if b = true then ∃ N : L2.St -> Hp -> Prop, (∀ σ' H', N σ' H' -> ∃ m', m' < m /\ W m' σ' H') /\ tb { D with nx := N, ct := N, bk := D.nx } σ H1 else D.nx σ H1
theorem g_while {c : TT} {tb : TS} (k : WhW c tb D σ H) : tWhile c tb D σ H := k
end
end RC

namespace RC
open PySem PySem.Spec PyProof.Rows L2
theorem pas0 {X : Cx} {σ : L2.St} {E : XK} : PassesAt CX0 X σ E := λ _ _ _ _ _ _ z => z.elim
section
variable {X : Cx} {g : Bool} {CX : CXT} {k n : Nat} {f C : Addr} {fd : FuncData} {ps ps' ks : List Str} {sp : Sp} {ds : List Value} {dvs : List V} {W : WX} {x m : Str} {p pos apos : Pos} {e o : Expr} {es : List Expr} {ta : TE} {t : TA}
theorem ended {pins : List (Addr × Obj)} {σ : L2.St} {H : Hp} {s : Shared} {Q : VK} {E : XK} {c : Code} (I : Inv X pins σ H s) (hx : PassesAt CX X σ E) (h : codeAny (model X.prog X.w) X.A c (CR CX X.stack X.prog X.w H s Q E) s) :
   codeAny (model X.prog X.w) X.A c (λ r s' => match r with | .ok (.ret u) => EP X pins σ Q u s' | .ok _ => False | .error u => X.xe u s') s := by
 refine codeAny_mono h λ res s' hq => ?_
 match res, hq with
 | .error u, hq => exact hx pins H s u s' I hq
 | .ok (.ret u), hq => exact I.after hq
 | .ok .next, hq => cases hq
 | .ok .brk, hq => cases hq
 | .ok .cont, hq => cases hq
theorem runW {pins : List (Addr × Obj)} {σ : L2.St} {H : Hp} {s : Shared} {Q : VK} {E : XK} {us : List Value} {vs : List V} (F : FnX g X.prog X.w X.K X.mg X.base CX k f fd ps sp) (hg : g = true -> X.A.guards = some []) (hr : Room k X.A)
   (hb : Binds X.K fd ps ds) (hd : Vals dvs ds) (hx : PassesAt CX X σ E) (I : Inv X pins σ H s) (r : Vals vs us) (h : sp (vs ++ dvs) H Q E) :
   wpAny (model X.prog X.w) X.A (call (.ref f) us) (EP X pins σ Q) X.xe s := by
 have rr : Vals (vs ++ dvs) (us ++ ds) := r.append hd
 have ll : (us ++ ds).length = ps.length := rr.length.symm.trans (F.lenG _ _ _ _ h)
 have go := ended I hx (F.runG X.A X.stack s H ⟨us, []⟩ _ (us ++ ds) (vs ++ dvs) Q E hg hr I.env0 (hb s us I.kIn ll) (.refl _) rr h)
 refine wpAny_call (codeAny_mono go λ res s' hq => ?_)
 match res, hq with
 | .error _, hq => exact hq
 | .ok (.ret _), hq => exact hq
def tCallW (W : WX) (sp : Sp) (dvs : List V) (t : TA) : TE := λ σ H Q => t σ H λ vs H1 => sp (vs ++ dvs) H1 Q (WE W σ)
theorem pe_callW (F : FnX g X.prog X.w X.K X.mg X.base CX k f fd ps sp) (hgu : g = true -> X.A.guards = some []) (hr : Room k X.A) (hg : Gl X x) (hm : X.mg x = some (.ref f))
   (hk : PySem.W.keepIn X.K (.ref f) = true) (hb : Binds X.K fd ps ds) (hd : Vals dvs ds) (hx : ∀ σ, PassesAt CX X σ (WE W σ))
   (ha : PA X (e :: es) t) (hdb : (x == ("__debug__" : Str)) = false := by decide) (he : starEach (e :: es) X.env = (false, eval e X.env) :: starEach es X.env := by rfl)
   (hpl : (backTo pos (starEach es X.env)).any (·.1) = false := by rfl) : PE X (.Call (.Name x p) (e :: es) [] pos) (tCallW W sp dvs t) := by
 constructor
 intro pins s σ H Q I h
 refine wpAny_Call_Name_kw (ld_glob I hg hm ?_ hdb)
 have body := thn (ha.run pos pins s σ H _ I h) (Q' := λ us s1 => X.K.In s1.heap /\ wpAny (model X.prog X.w) X.A (call (.ref f) us) (EP X pins σ Q) X.xe s1)
   λ us s1 ⟨vs, H1, I1, r1, q1⟩ => ⟨I1.kIn, runW F hgu hr hb hd (hx σ) I1 r1 q1⟩
 exact PySem.W.callWith_K (h₀ := X.base) I.ok.mod.kin hk body he hpl
def tMethW (W : WX) (C : Addr) (m : Str) (sp : Sp) (dvs : List V) (ta : TE) (t : TA) : TE := λ σ H Q => ta σ H λ x H1 => ∃ a dx fs, x = .ref a /\ H1 a = some (.ins C dx fs) /\ fs.lookup m = none /\ t σ H1 λ vs H2 => sp (x :: (vs ++ dvs)) H2 Q (WE W σ)
theorem pe_methW {pl : Sem Bool} (he : PE X o ta) (c : Cls X.K C) (hm : Meth X.K C m f) (F : FnX g X.prog X.w X.K X.mg X.base CX k f fd ps sp) (hgu : g = true -> X.A.guards = some []) (hr : Room k X.A) (hb : Binds X.K fd ps ds) (hd : Vals dvs ds)
   (hx : ∀ σ, PassesAt CX X σ (WE W σ)) (ha : PA X (e :: es) t) (hst : starEach (e :: es) X.env = (false, eval e X.env) :: starEach es X.env := by rfl) (hpl : (backTo pos (starEach es X.env)).any (·.1) = false := by rfl)
   (ht : eval (.Call (.Attribute o m apos) (e :: es) [] pos) X.env = (do
     let ov <- eval o X.env
     standAt apos.atName
     let (f, first) <- holding [ov] (getMethod ov m pl)
     callWith pos f first (backTo pos (starEach (e :: es) X.env)) (backToKw pos (keywordEach [] X.env))) := by rfl) : PE X (.Call (.Attribute o m apos) (e :: es) [] pos) (tMethW W C m sp dvs ta t) := by
 constructor
 intro pins s σ H Q I h
 refine PySem.W.methodCall_KW (pl := pl) (thn (he.run pins s σ H _ I h) ?_) ht
 rintro u s1 ⟨x, H1, I1, rx, a, dx, fs, rfl, ea, hl, q⟩
 cases (show u = Value.ref a from rx)
 refine getmeth_ok I1 ea c hm hl ?_
 refine PySem.W.callWith_K (first := [.ref a]) (h₀ := X.base) I.ok.mod.kin hm.kp (thn (ha.run pos pins s1 σ H1 _ I1 q) ?_) hst hpl
 rintro us s2 ⟨vs, H2, I2, r, q2⟩
 exact ⟨I2.kIn, runW (us := .ref a :: us) (vs := .ref a :: vs) F hgu hr hb hd (hx σ) I2 (.cons rfl r) q2⟩
theorem pe_methW0 {pl : Sem Bool} (he : PE X o ta) (c : Cls X.K C) (hm : Meth X.K C m f) (F : FnX g X.prog X.w X.K X.mg X.base CX k f fd ps sp) (hgu : g = true -> X.A.guards = some []) (hr : Room k X.A) (hb : Binds X.K fd ps ds) (hd : Vals dvs ds)
   (hx : ∀ σ, PassesAt CX X σ (WE W σ))
   (ht : eval (.Call (.Attribute o m apos) [] [] pos) X.env = (do
     let ov <- eval o X.env
     standAt apos.atName
     let (f, first) <- holding [ov] (getMethod ov m pl)
     callWith pos f first (backTo pos (starEach [] X.env)) (backToKw pos (keywordEach [] X.env))) := by rfl) : PE X (.Call (.Attribute o m apos) [] [] pos) (tMethW W C m sp dvs ta tNil) := by
 constructor
 intro pins s σ H Q I h
 refine PySem.W.methodCall_KW (pl := pl) (thn (he.run pins s σ H _ I h) ?_) ht
 rintro u s1 ⟨x, H1, I1, rx, a, dx, fs, rfl, ea, hl, q⟩
 cases (show u = Value.ref a from rx)
 exact getmeth_ok I1 ea c hm hl (PySem.W.callWith_K0 (first := [.ref a]) I1.kIn hm.kp (runW (us := [.ref a]) (vs := [.ref a]) F hgu hr hb hd (hx σ) I1 (.cons rfl .nil) q))
def tMakeW (W : WX) (C : Addr) (sp : Sp) (dvs : List V) (t : TA) : TE := λ σ H Q => t σ H λ vs H1 => ∀ x dx, H1 x = none -> H1 dx = none -> dx ≠ x ->
 sp (.ref x :: (vs ++ dvs)) (upd (upd H1 dx (.own x)) x (.ins C dx [])) (λ v H2 => v = .non /\ Q (.ref x) H2) (WE W σ)
theorem runMk {pins : List (Addr × Obj)} {σ : L2.St} {H : Hp} {s : Shared} {Q : VK} {E : XK} {us : List Value} {vs : List V} (M : Mk X.K C f) (F : FnX g X.prog X.w X.K X.mg X.base CX k f fd ps sp) (hgu : g = true -> ((X.A.under (.builtin "type.__call__" ⟨.ref C :: us, []⟩)).guards = some []))
   (hr : Room (k + 1) X.A) (hb : Binds X.K fd ps ds) (hd : Vals dvs ds) (hx : PassesAt CX X σ E) (I : Inv X pins σ H s) (r : Vals vs us)
   (h : ∀ x dx, H x = none -> H dx = none -> dx ≠ x -> sp (.ref x :: (vs ++ dvs)) (upd (upd H dx (.own x)) x (.ins C dx [])) (λ v H2 => v = .non /\ Q (.ref x) H2) E) :
   wpAny (model X.prog X.w) X.A (call (.ref C) us) (EP X pins σ Q) X.xe s := by
 have hq := h (s.heap.objs.size + 1) s.heap.objs.size (I.hok.fresh (Nat.le_succ _)) (I.hok.fresh (Nat.le_refl _)) (Nat.ne_of_lt (Nat.lt_succ_self _))
 have I2 := Inv.made (C := C) I
 have r2 : Vals (V.ref (s.heap.objs.size + 1) :: (vs ++ dvs)) (Value.ref (s.heap.objs.size + 1) :: (us ++ ds)) := .cons rfl (r.append hd)
 have hl : (Value.ref (s.heap.objs.size + 1) :: us ++ ds).length = ps.length := r2.length.symm.trans (F.lenG _ _ _ _ hq)
 have go := F.runG (X.A.under (.builtin "type.__call__" ⟨.ref C :: us, []⟩)) X.stack _ _ ⟨Value.ref (s.heap.objs.size + 1) :: us, []⟩ _ (Value.ref (s.heap.objs.size + 1) :: (us ++ ds)) _ _ E hgu (hr.make C us []) (I2.env0.make C us [])
   (hb _ (Value.ref (s.heap.objs.size + 1) :: us) I2.kIn hl) (.refl _) r2 hq
 refine wpAny_call (make_map (f := f) I.kIn M.makes M.init (beq_iff_eq.mp M.fn) (codeAny_mono go λ res s' hq' => ?_))
 match res, hq' with
 | .error u, hq' => exact hx pins _ _ u s' I2 hq'
 | .ok (.ret u), hq' =>
   obtain ⟨v, H', I3, rv, ev, q3⟩ := I2.after hq'
   subst ev
   exact ⟨rv, ⟨V.ref (s.heap.objs.size + 1), H', I3, rfl, q3⟩⟩
 | .ok .next, hq' => cases hq'
 | .ok .brk, hq' => cases hq'
 | .ok .cont, hq' => cases hq'
theorem pe_makeW (M : Mk X.K C f) (F : FnX false X.prog X.w X.K X.mg X.base CX k f fd ps sp) (hr : Room (k + 1) X.A) (hg : Gl X x) (hm : X.mg x = some (.ref C)) (hb : Binds X.K fd ps ds) (hd : Vals dvs ds) (hx : ∀ σ, PassesAt CX X σ (WE W σ))
   (ha : PA X (e :: es) t) (hdb : (x == ("__debug__" : Str)) = false := by decide) (he : starEach (e :: es) X.env = (false, eval e X.env) :: starEach es X.env := by rfl) (hpl : (backTo pos (starEach es X.env)).any (·.1) = false := by rfl) :
   PE X (.Call (.Name x p) (e :: es) [] pos) (tMakeW W C sp dvs t) := by
 constructor
 intro pins s σ H Q I h
 refine wpAny_Call_Name_kw (ld_glob I hg hm ?_ hdb)
 have body := thn (ha.run pos pins s σ H _ I h) (Q' := λ us s1 => X.K.In s1.heap /\ wpAny (model X.prog X.w) X.A (call (.ref C) us) (EP X pins σ Q) X.xe s1)
   λ us s1 ⟨vs, H1, I1, r1, q1⟩ => ⟨I1.kIn, runMk M F (λ z => nomatch z) hr hb hd (hx σ) I1 r1 q1⟩
 exact PySem.W.callWith_K (h₀ := X.base) I.ok.mod.kin M.kp body he hpl
end
end RC

namespace RC
open PySem PySem.Spec PyProof.Rows L2
structure XcB (K : Fr) (C : Addr) (B newId initId : String) (bmB : List Value) : Prop where
 fb : ExcBaseFacts B newId initId bmB
 sf : StoreFacts B bmB "object.__setattr__" "object"
 ini : PySem.W.excInitIn K C bmB newId = true
 ovr : PySem.W.excOver K C bmB = true
 hd : PySem.W.hasDictIn K C = true
 sa : PySem.W.findIn K (.ref C) "__setattr__" = some (some (.builtin "object.__setattr__"))
 exC : PySem.W.subIn K (.ref C) (.type "BaseException") = some true
 tyC : PySem.W.typeIn K (.ref C) = some (.type "type")
 kC : PySem.W.keepIn K (.ref C) = true
theorem upd_self {H : Hp} {a : Addr} {o : HO} (e : H a = some o) : upd H a o = H := by
 funext b
 by_cases hb : b = a
 · rw [hb, upd_same, e]
 · rw [upd_ne hb]
section
variable {X : Cx} {pins : List (Addr × Obj)} {σ : L2.St} {H : Hp} {s : Shared} {a C : Addr} {f : Str} {y : V} {u : Value} {A : Around} {E : Value -> Shared -> Prop} {B newId initId : String} {bmB : List Value}
theorem x_set {Q : Unit -> Shared -> Prop} (T : XcB X.K C B newId initId bmB) (I : Inv X pins σ H s) (e : H a = some (exo a C none)) (hno : PySem.W.findIn X.K (.ref C) f = some none) (ry : RelV y u)
   (h : ∀ dx s', H dx = none -> dx ≠ a -> Inv X pins σ (upd (upd H dx (exd dx [(f, y)])) a (exo a C (some dx))) s' -> Q () s') : wpAny (model X.prog X.w) A (setAttr (.ref a) f u) Q E s := by
 obtain ⟨t1, ho⟩ := exo_at I.hok e
 obtain ⟨hp, g, d, t, os⟩ := s
 have ho2 : hp.get? a = some (PySem.W.excObj C t1 none .none) := ho
 obtain ⟨cd, hc, hcd⟩ := PySem.W.any_some T.hd
 refine PySem.W.set_plain I.kIn (ox := PySem.W.excObj C t1 none .none) (od := none) ⟨ho2, rfl, rfl, trivial⟩ T.sa ?_
 refine PySem.W.osa_openX (od := none) T.sf I.kIn ⟨ho2, rfl, rfl, trivial⟩ T.ovr (NoAttr.taker hno) λ b => ?_
 refine wpAny_bind (wpAny_pure (wpAny_bind (PySem.W.instanceDict_exc ho2 (PySem.W.looks_clsIn I.kIn hc) hcd ?_)))
 have hxs : a ≠ hp.objs.size := Nat.ne_of_lt (Heap.lt_size ho)
 refine HandSPX.store_in_new ?_ ?_
 · exact ⟨_, #[], _, (Heap.get?_update_ne _ _ _ _ hxs.symm).trans (Heap.get?_push_at rfl rfl), rfl, λ e he => absurd he (by simp), λ _ => rfl⟩
 intro h' tk' hn hs
 have hx1 : (hp.push (PySem.W.dictOf [] 0)).get? a = some (PySem.W.excObj C t1 none .none) := Heap.get?_push_of_some _ ho2
 have kp : ∀ b o, b ≠ a -> hp.get? b = some o -> h'.get? b = some o := λ b o hb q =>
   (hs.2 b (Nat.ne_of_lt (Heap.lt_size q))).trans ((Heap.get?_update_ne _ _ _ _ hb).trans (Heap.get?_push_of_some _ q))
 have hx : h'.get? a = some ({ cls := .ref C, dict := some hp.objs.size, data := .fields #[.ref t1, .none, .none, .none, .bool false, .none] } : Obj) := (hs.2 a hxs).trans (Heap.get?_update_self _ hx1 rfl)
 have hnd : H hp.objs.size = none := I.hok.fresh (Nat.le_refl _)
 have nd : ∀ {b : Addr} {o : Obj}, hp.get? b = some o -> b ≠ hp.objs.size := λ q => Nat.ne_of_lt (Heap.lt_size q)
 have na : ∀ {b : Addr}, H b = none -> b ≠ a := λ n z => by
   rw [z, e] at n
   cases n
 have un : Un X.fs [] H (upd (upd H hp.objs.size (exd hp.objs.size [(f, y)])) a (exo a C (some hp.objs.size))) hp h' := by
   constructor
   · exact λ b o q n _ _ => kp b o (na n) q
   · exact λ b o q n _ _ => ⟨o.slots, kp b o (na n) q⟩
   · intro b o q n _
     rw [upd_ne (na n), upd_ne (nd q)]
     exact n
   · intro b o q _
     by_cases hb : b = a
     · subst hb
       exact ⟨_, hx⟩
     · exact ⟨o, kp b o hb q⟩
   · intro b xs q
     rw [upd_ne (at_ne e q exo_tup), upd_ne (ne_of_none q hnd)]
     exact q
   · intro b o v q
     rw [upd_ne (at_ne e q exo_frz), upd_ne (ne_of_none q hnd)]
     exact q
   · intro b ps q
     refine ⟨#[], ?_⟩
     rw [upd_ne (at_ne e q exo_tbl), upd_ne (ne_of_none q hnd), q]
     simp
 refine h hp.objs.size _ hnd hxs.symm (I.un (t' := tk') un λ b o q => ?_)
 by_cases hb : b = a
 · subst hb
   rw [upd_same] at q
   cases q
   exact exo_ok hx
 rw [upd_ne hb] at q
 by_cases hd : b = hp.objs.size
 · subst hd
   rw [upd_same] at q
   cases q
   exact exd_ok hn (relO_put (fs := []) ry λ g => True.intro)
 rw [upd_ne hd] at q
 refine (I.hok b o q).stay (λ c v hc z => kp c v ?_ z) (λ c hc => ?_) (λ c xs hc => ?_)
 · rcases hc with hc | hc
   · subst hc
     exact hb
   · exact at_ne e hc exo_own
 · rw [upd_ne (at_ne e hc exo_own), upd_ne (ne_of_none hc hnd)]
   exact hc
 · rw [upd_ne (at_ne e hc exo_tup), upd_ne (ne_of_none hc hnd)]
   exact hc
theorem x_init {us : List Value} {Q : Value -> Shared -> Prop} (T : XcB X.K C B newId initId bmB) (I : Inv X pins σ H s) (e : H a = some (exo a C none)) (hl : us.length <= sizeLine) (h : ∀ s', Inv X pins σ H s' -> Q .none s') :
   wpAny (model X.prog X.w) A (call (.builtin initId) (.ref a :: us)) Q E s := by
 obtain ⟨nm, N, qn, bs, bm, hdct, sn, sub, ab, col, dd, k0, k1, k2, k3, k5, hC, hT⟩ := PySem.W.excInit_of I.kIn T.ini
 obtain ⟨t1, ho⟩ := exo_at I.hok e
 obtain ⟨hp, g, d, t, os⟩ := s
 refine wpAny_call (HandSPX.init_base T.fb hT hC ho hl λ h' t2 k hx => ?_)
 have J := I.write (t' := t) (x := a) (e := a) (o := exo a C none) (by rw [e]; exact True.intro) (.inl rfl) k ⟨_, hx⟩ (exo_ok hx)
 rw [upd_self e] at J
 exact h _ J
end
structure XcI (K : Fr) (D : Addr) (initId : String) : Prop where
 ga : PySem.W.specialIn K (.ref D) "__getattribute__" = some (some (.builtin "type.__getattribute__"))
 ty : PySem.W.typeIn K (.ref D) = some (.type "type")
 rd : PySem.W.readsIn K D (.type "type") = true
 fi : PySem.W.findCls K (.ref D) (.type "type") "__init__" = some (.val (.builtin initId))
def tXi (K : Fr) (initId : String) (ta : TA) : TE := λ σ H Q => ta σ H λ vs H1 => ∃ (a C : Addr) (ws : List V) (B newId : String) (bmB : List Value), vs = .ref a :: ws /\ ws.length <= 1000 /\ XcB K C B newId initId bmB /\ H1 a = some (exo a C none) /\ Q .non H1
def tXs (K : Fr) (f : Str) (to te : TE) : TS := λ D σ H => te σ H λ y H1 => to σ H1 λ x H2 => ∃ (a C : Addr) (B newId initId : String) (bmB : List Value), x = .ref a /\ XcB K C B newId initId bmB /\ PySem.W.findIn K (.ref C) f = some none /\
 H2 a = some (exo a C none) /\ ∀ dx, H2 dx = none -> dx ≠ a -> D.nx σ (upd (upd H2 dx (exd dx [(f, y)])) a (exo a C (some dx)))
def tXm (C : Addr) (sp : Sp) (ta : TA) : L2.St -> Hp -> XK -> Prop := λ σ H Q => ta σ H λ vs H1 => vs.length <= 1000 /\ ∀ a, H1 a = none -> sp (.ref a :: vs) (upd H1 a (exo a C none))
 (λ v H2 => v = .non /\ ∃ (d : Addr) (fs : List (Str × V)), H2 a = some (exo a C (some d)) /\ H2 d = some (exd d fs) /\ H1 d = none /\ Q (.ref C) (some d) (upd (del H2 a) d (.xd fs))) (λ _ _ _ => False)
section
variable {X : Cx} {o e : Expr} {es : List Expr} {to te : TE} {ta : TA} {f P : Str} {p p' p1 p2 pos : Pos} {C D : Addr} {initId : String}
theorem pe_xi {pl : Sem Bool} (hg : Gl X P) (hm : X.mg P = some (.ref D)) (T : XcI X.K D initId) (ha : PA X (e :: es) ta)
   (hc : eval (.Call (.Attribute (.Name P p1) "__init__" p2) (e :: es) [] pos) X.env = (do
     let ov <- eval (.Name P p1) X.env
     standAt p2.atName
     let (f, first) <- holding [ov] (getMethod ov "__init__" pl)
     callWith pos f first (backTo pos (starEach (e :: es) X.env)) (backToKw pos (keywordEach [] X.env))) := by rfl)
   (hh : PySem.W.handedIn (.builtin initId) = true := by decide +kernel) (hdb : (P == ("__debug__" : Str)) = false := by decide)
   (he : starEach (e :: es) X.env = (false, eval e X.env) :: starEach es X.env := by rfl) (hpl : (backTo pos (starEach es X.env)).any (·.1) = false := by rfl) :
   PE X (.Call (.Attribute (.Name P p1) "__init__" p2) (e :: es) [] pos) (tXi X.K initId ta) := by
 constructor
 intro pins s σ H Q I h
 refine PySem.W.methodCall_KW (ld_glob I hg hm ?_ hdb) hc
 obtain ⟨m, fr⟩ := I.fr
 refine PySem.W.method_of_cls fr I.ok.mod.kin T.ga (PySem.W.cls_val fr I.ok.mod.kin T.ty T.rd T.fi hh ?_)
 show wpAny _ _ (callWith pos (Value.builtin initId) [] (backTo pos (starEach (e :: es) X.env)) []) _ _ _
 refine PyProof.Rows.callWith_method1 (thn (ha.run pos pins _ σ H _ (I.tok _) h) ?_) he hpl
 rintro us s1 ⟨vs, H1, I1, r1, a, C, ws, B, newId, bmB, rfl, hl, T, ea, q⟩
 cases r1 with
 | @cons _ u0 _ ur ra rw' =>
   cases (show u0 = Value.ref a from ra)
   have hlen : ur.length <= sizeLine := by
     rw [<- Paired.length rw', sizeLine_eq]
     omega
   exact x_init T I1 ea hlen λ s' J => ⟨.non, H1, J, rfl, q⟩
theorem ps_xs (ho : PE X o to) (he : PE X e te) (hs : swapsWith e (some (.Attribute o f p')) pos.line X.env = pure false := by rfl) : PS X (.Assign [.Attribute o f p'] e pos) (tXs X.K f to te) := by
 constructor
 intro pins s σ H D I h
 refine plainObj_wpAny_Assign_Attribute (thn (he.run pins s σ H _ I h) ?_) hs
 rintro v s1 ⟨y, H1, I1, r1, q1⟩
 refine thn (ho.run pins s1 σ H1 _ I1 q1) ?_
 rintro u s2 ⟨x, H2, I2, r2, a, C, B, newId, initId, bmB, rfl, T, hno, ea, q⟩
 cases (show u = Value.ref a from r2)
 exact x_set T I2 ea hno r1 λ dx s' n ne J => ⟨σ, _, J, q dx n ne⟩
theorem pmk_x {CX : CXT} {x : Str} {C fI : Addr} {k : Nat} {fd : FuncData} {ps : List Str} {sp : Sp} {B newId : String} {bmB : List Value} (T : XcB X.K C B newId initId bmB) (iC : PySem.W.findIn X.K (.ref C) "__init__" = some (some (.ref fI))) (tI : PySem.W.typeIn X.K (.ref fI) = some (.type "function"))
   (F : FnX false X.prog X.w X.K X.mg X.base CX k fI fd ps sp) (hr : Room (k + 1) X.A) (hb : Binds X.K fd ps []) (hx : Passes CX X (λ _ _ _ => False)) (hg : Gl X x) (hm : X.mg x = some (.ref C)) (ha : PA X (e :: es) ta)
   (hdb : (x == ("__debug__" : Str)) = false := by decide) (he : starEach (e :: es) X.env = (false, eval e X.env) :: starEach es X.env := by rfl) (hpl : (backTo pos (starEach es X.env)).any (·.1) = false := by rfl) :
   PMk X (.Call (.Name x p) (e :: es) [] pos) (tXm C sp ta) := by
 intro pins s σ H Q I h
 refine wpAny_Call_Name_kw (ld_glob I hg hm ?_ hdb)
 refine PySem.W.callWith_K (h₀ := X.base) I.ok.mod.kin T.kC (thn (ha.run pos pins s σ H _ I h) ?_) he hpl
 rintro us s1 ⟨vs, H1, I1, r1, hz, q1⟩
 refine ⟨I1.kIn, ?_⟩
 show wpAny _ _ (call (.ref C) us) _ _ _
 obtain ⟨nm, N, qn, bs, bm, hdct, sn, sub, ab, col, dd, k0, k1, k2, k3, k5, hC, hT⟩ := PySem.W.excInit_of I1.kIn T.ini
 obtain ⟨hp, g, dr, tk, os⟩ := s1
 have hsz : hp.objs.size <= hp.objs.size + 1 := Nat.le_succ _
 have hq := q1 (hp.objs.size + 1) (I1.hok.fresh hsz)
 have kk : ∀ b o, hp.get? b = some o -> ((hp.push (PySem.W.kdv_tup us)).push (HandSPX.excO C hp.objs.size)).get? b = some o := λ b o z => Heap.get?_push_of_some _ (Heap.get?_push_of_some _ z)
 have hget : ((hp.push (PySem.W.kdv_tup us)).push (HandSPX.excO C hp.objs.size)).get? (hp.objs.size + 1) = some (HandSPX.excO C hp.objs.size) := by heap_get
 have I2 := I1.laid (t' := tk) (a := hp.objs.size + 1) (o := exo (hp.objs.size + 1) C none) (h' := (hp.push (PySem.W.kdv_tup us)).push (HandSPX.excO C hp.objs.size)) kk hsz (exo_ok hget)
 have r2 : Vals (V.ref (hp.objs.size + 1) :: vs) (Value.ref (hp.objs.size + 1) :: us) := .cons rfl r1
 have hl : (Value.ref (hp.objs.size + 1) :: us ++ []).length = ps.length := by
   rw [List.append_nil]
   exact r2.length.symm.trans (F.lenG _ _ _ _ hq)
 have hus : us.length <= sizeLine := by
   rw [<- Paired.length r1, sizeLine_eq]
   omega
 have hb2 := hb ⟨(hp.push (PySem.W.kdv_tup us)).push (HandSPX.excO C hp.objs.size), g, dr, tk, os⟩ (Value.ref (hp.objs.size + 1) :: us) I2.kIn hl
 rw [List.append_nil] at hb2
 have go := F.runG (X.A.under (.builtin "type.__call__" ⟨.ref C :: us, []⟩)) X.stack _ _ ⟨Value.ref (hp.objs.size + 1) :: us, []⟩ _ (Value.ref (hp.objs.size + 1) :: us) _ _ (λ _ _ _ => False) (λ z => nomatch z) (hr.make C us []) (I2.env0.make C us []) hb2 (.refl _) r2 hq
 refine wpAny_call (HandSPX.call_own T.fb hT hC (PySem.W.looks_findIn I1.kIn iC) (λ self => PySem.W.bind_fn I1.kIn self tI) hus (codeAny_mono go λ r s' hq' => ?_))
 match r, hq' with
 | .error er, hq' => exact hx pins σ _ _ er s' I2 hq'
 | .ok (.ret u), hq' =>
   obtain ⟨v, H2, os2, bare2, un2, hok2, rv, rfl, d, fs, ea, ed, hd1, q2⟩ := hq'
   obtain ⟨h2, g2, d2, t2, os'⟩ := s'
   exact ⟨rv, mk_end (raises_own T.exC T.tyC) I1 hsz kk un2 hok2 os2 bare2 ea ed hd1 q2⟩
 | .ok .next, hq' => cases hq'
 | .ok .brk, hq' => cases hq'
 | .ok .cont, hq' => cases hq'
end
end RC

namespace RC
open PySem PySem.Spec PyProof.Rows L2
def spX (C : Addr) (f : Str) : Sp := λ vs H Q _ => ∃ (a : Addr) (v : V), vs = [.ref a, v] /\ H a = some (exo a C none) /\ ∀ dx, H dx = none -> dx ≠ a -> Q .non (upd (upd H dx (exd dx [(f, v)])) a (exo a C (some dx)))
theorem lenX {C : Addr} {f : Str} (vs : List V) (H : Hp) (Q : VK) (E : XK) (h : spX C f vs H Q E) : vs.length = 2 := by
 obtain ⟨a, v, rfl, _⟩ := h
 rfl
def tXz (C : Addr) (f : Str) (te : TE) : L2.St -> Hp -> XK -> Prop := λ σ H Q => te σ H λ v H1 => ∀ d, H1 d = none -> Q (.ref C) (some d) (upd H1 d (.xd [(f, v)]))
theorem PE.wk {X : Cx} {e : Expr} {te : TE} (h : PE X e te) : PE X e (λ σ H Q => ∃ R : VK, te σ H R /\ ∀ v H1, R v H1 -> Q v H1) :=
 ⟨λ pins s σ H _ I ⟨R, h1, h2⟩ => thn (h.run pins s σ H R I h1) λ _ _ ⟨v, H1, I1, r, q⟩ => ⟨v, H1, I1, r, h2 v H1 q⟩⟩
theorem pmk_xz {X : Cx} {CX : CXT} {x f : Str} {C fI : Addr} {k : Nat} {fd : FuncData} {ps : List Str} {B newId initId : String} {bmB : List Value} {e : Expr} {te : TE} {p pos : Pos} (T : XcB X.K C B newId initId bmB) (iC : PySem.W.findIn X.K (.ref C) "__init__" = some (some (.ref fI)))
   (tI : PySem.W.typeIn X.K (.ref fI) = some (.type "function")) (F : FnX false X.prog X.w X.K X.mg X.base CX k fI fd ps (spX C f)) (hr : Room (k + 1) X.A) (hb : Binds X.K fd ps []) (hx : Passes CX X (λ _ _ _ => False)) (hg : Gl X x) (hm : X.mg x = some (.ref C)) (ha : PE X e te)
   (hdb : (x == ("__debug__" : Str)) = false := by decide) (he : starEach [e] X.env = (false, eval e X.env) :: starEach [] X.env := by rfl) :
   PMk X (.Call (.Name x p) [e] [] pos) (tXz C f te) := by
 have key : ∀ (Q : XK) (v : V) (H1 : Hp), (∀ d, H1 d = none -> Q (.ref C) (some d) (upd H1 d (.xd [(f, v)]))) -> [v].length <= 1000 /\ ∀ a, H1 a = none -> spX C f (.ref a :: [v]) (upd H1 a (exo a C none))
     (λ v H2 => v = .non /\ ∃ (d : Addr) (fs : List (Str × V)), H2 a = some (exo a C (some d)) /\ H2 d = some (exd d fs) /\ H1 d = none /\ Q (.ref C) (some d) (upd (del H2 a) d (.xd fs))) (λ _ _ _ => False) := by
   intro Q v H1 q
   refine ⟨by simp, λ a na => ⟨a, v, rfl, upd_same, λ dx hdx hne => ⟨rfl, dx, [(f, v)], upd_same, ?_, ?_, ?_⟩⟩⟩
   · rw [upd_ne hne, upd_same]
   · rw [upd_ne hne] at hdx
     exact hdx
   · have e1 : upd (del (upd (upd (upd H1 a (exo a C none)) dx (exd dx [(f, v)])) a (exo a C (some dx))) a) dx (.xd [(f, v)]) = upd H1 dx (.xd [(f, v)]) := by
       funext b
       by_cases hb : b = dx
       · subst hb
         rw [upd_same, upd_same]
       · rw [upd_ne hb, upd_ne hb]
         by_cases hba : b = a
         · subst hba
           rw [del_same, na]
         · rw [del_ne hba, upd_ne hba, upd_ne hb, upd_ne hba]
     rw [e1]
     rw [upd_ne hne] at hdx
     exact q dx hdx
 intro pins s σ H Q I h
 have hp := pa_cons (PE.wk ha) (pa_nil (X := X)) he
 exact pmk_x (p := p) (pos := pos) T iC tI F hr hb hx hg hm hp hdb he rfl pins s σ H Q I ⟨_, h, λ v H1 q => key Q v H1 q⟩
def tRz (W : WX) (C : Addr) (f : Str) (te : TE) : TS := λ _ σ H => te σ H λ v H1 => ∀ d, H1 d = none -> W (.ref C) (some d) σ (upd H1 d (.xd [(f, v)]))
theorem ps_rz {X : Cx} {W : WX} {CX : CXT} {x f : Str} {C fI : Addr} {k : Nat} {fd : FuncData} {ps : List Str} {B newId initId : String} {bmB : List Value} {e : Expr} {te : TE} {p pos pos' : Pos} (hc : X.calm = true) (tk : Takes X W) (T : XcB X.K C B newId initId bmB)
   (iC : PySem.W.findIn X.K (.ref C) "__init__" = some (some (.ref fI))) (tI : PySem.W.typeIn X.K (.ref fI) = some (.type "function")) (F : FnX false X.prog X.w X.K X.mg X.base CX k fI fd ps (spX C f)) (hr : Room (k + 1) X.A) (hb : Binds X.K fd ps []) (hx : Passes CX X (λ _ _ _ => False))
   (hg : Gl X x) (hm : X.mg x = some (.ref C)) (ha : PE X e te) (hdb : (x == ("__debug__" : Str)) = false := by decide) (he : starEach [e] X.env = (false, eval e X.env) :: starEach [] X.env := by rfl) :
   PS X (.Raise (some (.Call (.Name x p) [e] [] pos)) none pos') (tRz W C f te) := ps_raise hc tk (pmk_xz T iC tI F hr hb hx hg hm ha hdb he)
theorem pureX {K : Fr} {C : Addr} {f msg : Str} {B newId initId : String} {bmB : List Value} {N : List Str} (hN : start N [] = [none, none]) (T : XcB K C B newId initId bmB) (hno : PySem.W.findIn K (.ref C) f = some none) (vs : List V) (H : Hp) (Q : VK) (E : XK) (h : spX C f vs H Q E) :
   tSeq (tDrop (tXi K initId (tCons (tVar 0) (tCons (tC (.str msg)) tNil)))) (tXs K f (tVar 0) (tVar 1)) { nx := λ _ H' => Q .non H', rt := Q } (start N vs) H := by
 obtain ⟨a, v, rfl, ha, q⟩ := h
 have e : start N [V.ref a, v] = [some (V.ref a), some v] := by
   have l : N.length = 2 := by
     have := congrArg List.length hN
     simpa [L2.start] using this
   simp [L2.start, l]
 rw [e]
 exact ⟨_, rfl, a, C, [.str msg], B, newId, bmB, rfl, by simp, T, ha, v, rfl, _, rfl, a, C, B, newId, initId, bmB, rfl, T, hno, ha, q⟩

def TestOk (X : Cx) (t : Expr) (cs : List Value) : Prop := ∀ (a : Addr) (oe : Obj) (pn pins : List (Addr × Obj)) (σ : L2.St) (H : Hp) (s : Shared) (cls : Value) (b : Bool) (Q : Bool -> Shared -> Prop) (E : Value -> Shared -> Prop),
 Inv (X.suite a ((a, oe) :: pn)) pins σ H s -> PySem.W.Looks (model X.prog X.w) s.heap (typeOf (.ref a)) cls -> PySem.W.exmAny X.K cls cs = some b ->
   (∀ h', (∀ q o, s.heap.get? q = some o -> h'.get? q = some o) -> Q b { s with heap := h' }) ->
     wpAny (model X.prog X.w) (X.A.mark (some (.ref a))) (eval t X.env) (λ c s1 => wpAny (model X.prog X.w) (X.A.mark (some (.ref a))) (excMatches (.ref a) c) Q E s1) E s
section
variable {X : Cx} {x1 x2 x3 : Str} {c1 c2 c3 : Value} {p1 p2 p3 tp : Pos} {kk : Nat}
theorem nameAt {a : Addr} {oe : Obj} {pn pins : List (Addr × Obj)} {σ : L2.St} {H : Hp} {s : Shared} {Q : Value -> Shared -> Prop} {E : Value -> Shared -> Prop} (hc : Names X x1 c1) (I : Inv (X.suite a ((a, oe) :: pn)) pins σ H s) (q : Q c1 s) :
   wpAny (model X.prog X.w) (X.A.mark (some (.ref a))) (eval (.Name x1 p1) X.env) Q E s := by
 obtain ⟨hg, hdbg, hm | ⟨hm, hv, hnn⟩⟩ := hc
 · exact ld_glob (X := X.suite a ((a, oe) :: pn)) I hg hm q hdbg
 · exact ld_blt (X := X.suite a ((a, oe) :: pn)) I hg hm hv q hnn hdbg
theorem test3 (h1 : Names X x1 c1) (h2 : Names X x2 c2) (h3 : Names X x3 c3) : TestOk X (.Tuple [.Name x1 p1, .Name x2 p2, .Name x3 p3] kk tp) [c1, c2, c3] := by
 intro a oe pn pins σ H s cls b Q E I LT he q
 refine wpAny_Tuple (wpAny_items_cons (nameAt h1 I ?_))
 refine wpAny_items_cons (nameAt h2 I (wpAny_items_cons (nameAt h3 I (wpAny_items_nil ⟨by size_fits, ?_⟩))))
 have kp : ∀ q o, s.heap.get? q = some o -> (s.heap.push { cls := .type "tuple", data := .seq [c1, c2, c3].toArray }).get? q = some o := λ _ _ z => Heap.get?_push_of_some _ z
 exact (PySem.W.exm_tup3 (I.kIn.keeps kp) (LT.keeps kp) (Heap.get?_push_size s.heap rfl) he).here (q _ kp)
end
structure Hd where
 cs : List Value
 sl : Option Nat
 ts : Addr -> Value -> Option Addr -> TS
def Hd.put (σ : L2.St) (a : Addr) : Option Nat -> L2.St
 | none => σ
 | some i => σ.set i (some (.ref a))
def Hd.ends (D : Ends) : Option Nat -> Ends
 | none => D
 | some i => { nx := λ σ' H' => D.nx (σ'.set i none) H', rt := D.rt, bk := λ σ' H' => D.bk (σ'.set i none) H', ct := λ σ' H' => D.ct (σ'.set i none) H' }
def wTry (K : Fr) (W : WX) (D : Ends) : List Hd -> WX
 | [] => W
 | h :: r => λ cls d σ H => ∃ b, PySem.W.exmAny K cls h.cs = some b /\ (b = true -> ∀ a, H a = none -> h.ts a cls d (Hd.ends D h.sl) (Hd.put σ a h.sl) H) /\ (b = false -> wTry K W D r cls d σ H)
inductive HdOk (X : Cx) : List ExceptHandler -> List Hd -> Prop
 | nil : HdOk X [] []
 | plain {t : Expr} {cs : List Value} {ts : Addr -> Value -> Option Addr -> TS} {b₀ : Stmt} {suite : List Stmt} {pos : Pos} {hds : List ExceptHandler} {l : List Hd} (ht : TestOk X t cs)
     (hsu : ∀ (a : Addr) (oe : Obj) (cls : Value) (d : Option Addr) (pn : List (Addr × Obj)), Zc cls d oe -> (∃ vs, oe.data = .fields vs) -> PSs (X.suite a ((a, oe) :: pn)) (b₀ :: suite) (ts a cls d)) (r : HdOk X hds l) :
     HdOk X (.ExceptHandler (some t) none (b₀ :: suite) pos :: hds) (⟨cs, none, ts⟩ :: l)
 | named {t : Expr} {cs : List Value} {n : Str} {i : Nat} {ts : Addr -> Value -> Option Addr -> TS} {b₀ : Stmt} {suite : List Stmt} {pos : Pos} {hds : List ExceptHandler} {l : List Hd} (ht : TestOk X t cs) (hi : X.N[i]? = some n) (hln : X.env.kindOf n = some .local)
     (hsu : ∀ (a : Addr) (oe : Obj) (cls : Value) (d : Option Addr) (pn : List (Addr × Obj)), Zc cls d oe -> (∃ vs, oe.data = .fields vs) -> PSs (X.suite a ((a, oe) :: pn)) (b₀ :: suite) (ts a cls d)) (r : HdOk X hds l) :
     HdOk X (.ExceptHandler (some t) (some n) (b₀ :: suite) pos :: hds) (⟨cs, some i, ts⟩ :: l)
theorem flying_kept {B : Heap} {l : List Env} {a : Addr} {Z : Obj -> Prop} {h h' : Heap} (fl : HandSPX.FlyingZ B l a Z h) (k : ∀ b o, h.get? b = some o -> h'.get? b = some o) : HandSPX.FlyingZ B l a Z h' := by
 obtain ⟨f1, f2, f3, oe, vs, T, oT, ts, he, hz, hd, h1, hn, hne, hT, hdT, h3⟩ := fl
 exact ⟨λ b o q => k b o (f1 b o q), f2, f3.of_keeps λ b o q _ => ⟨o, k b o q, rfl⟩, oe, vs, T, oT, ts, k _ _ he, hz, hd, h1, hn, hne, k _ _ hT, hdT, h3⟩
section
variable {X : Cx} {body : List Stmt} {h₀ : ExceptHandler} {hds : List ExceptHandler} {l : List Hd} {pos : Pos} {tb : WX -> TS} {W : WX}
theorem ps_tryG (hs : X.stack = X.env :: X.outer) (hf : X.env.frame = some X.env.locals) (hN : X.N.Nodup) (tk : Takes X W)
   (hb : ∀ (W' : WX) (pn : List (Addr × Obj)) (xe : Value -> Shared -> Prop), Takes (X.tr pn xe) W' -> PassesOwn (model X.prog X.w) X.A X.env xe -> PSs (X.tr pn xe) body (tb W'))
   (hh : HdOk X (h₀ :: hds) l) : PS X (.Try body (h₀ :: hds) [] [] pos) (λ D σ H => tb (wTry X.K W D l) D σ H) := by
 constructor
 intro pins s σ H D I h
 have ok := I.ok
 have hfr : X.A.frames = some (X.env :: X.outer) := ok.frames.trans (by rw [hs])
 refine wpAny_Try_except ?_
 let xe : Value -> Shared -> Prop := λ e s₁ => wpAny (model X.prog X.w) X.A (noteFrame e X.env) (λ _ s₂ => wpAny (model X.prog X.w) X.A (setFlight e none)
   (λ _ s₃ => wpAny (model X.prog X.w) X.A (handleBy e X.env (h₀ :: hds)) (SP X pins D) X.xe s₃) X.xe s₂) X.xe s₁
 have tkb : Takes (X.tr (X.pn ++ pins) xe) (wTry X.K W D l) := by
   rintro u s' ⟨a, B, sI, pins', σ', H', cls, d, rfl, J', nb, up, sky, na, os, ag, w⟩
   have J : Inv X pins σ' H' sI := J'.ofTry ok
   have sky' : Sky B (X.env :: X.outer) a (Zc cls d) X.env.locals s'.heap := hs ▸ sky
   show wpAny (model X.prog X.w) X.A (noteFrame (.ref a) X.env) _ _ _
   refine Sky.land Zc.steady hfr hf sky' λ h3 fl3 up3 => ?_
   have main : ∀ {hds' : List ExceptHandler} {l' : List Hd}, HdOk X hds' l' -> wTry X.K W D l' cls d σ' H' -> ∀ h3, HandSPX.FlyingZ B (X.env :: X.outer) a (Zc cls d) h3 -> sI.heap.UpToSlots h3 ->
       wpAny (model X.prog X.w) X.A (handleBy (.ref a) X.env hds') (SP X pins D) X.xe { s' with heap := h3 } := by
     intro hds' l' hk
     have place : ∀ {h3 : Heap}, HandSPX.FlyingZ B (X.env :: X.outer) a (Zc cls d) h3 -> sI.heap.UpToSlots h3 ->
         ∃ oe, Zc cls d oe /\ (∃ vs, oe.data = .fields vs) /\ Inv (X.suite a ((a, oe) :: (X.pn ++ pins))) [] σ' H' { s' with heap := h3 } /\ PySem.W.Looks (model X.prog X.w) h3 (typeOf (.ref a)) cls := by
       intro h3 fl up
       have J3 : Inv X pins σ' H' { s' with heap := h3 } := J.landed nb fl.1 up os ag
       obtain ⟨oe, vs, he, hz, hd⟩ := fl.there
       have nfr : a ∉ frs (X.env :: X.outer) := λ hm => by
         obtain ⟨_, o', e', hnf⟩ := fl.2.2.1.mem hm
         rw [he] at e'
         cases e'
         exact hnf _ hd
       have nL : a ≠ X.env.locals := λ z => nfr (List.mem_filterMap.mpr ⟨X.env, List.mem_cons_self, by rw [hf, z]⟩)
       have nF : a ∉ X.fs := λ hm => by
         obtain ⟨e, he, q⟩ := List.mem_filterMap.mp hm
         exact nfr (List.mem_filterMap.mpr ⟨e, List.mem_cons_of_mem _ he, q⟩)
       exact ⟨oe, hz, ⟨vs, hd⟩, J3.suite he hd na nL nF, λ A Q E s k q => wpAny_typeOf_ref (k _ _ he) (by rw [hz.1]; exact q)⟩
     induction hk with
     | nil =>
       intro w h3 fl3 up3
       refine wpAny_handleBy_nil ?_
       obtain ⟨k1, k2, k3, oe, vs, T, oT, ts', he, hz, hd, h1, hr⟩ := id fl3
       unfold PySem.passOn
       refine wpAny_bind (wpAny_field he hd h1 ?_)
       rw [if_neg (show ¬ ((Value.ref T == Value.none) = true) from by simp)]
       have fin : wpAny (model X.prog X.w) X.A (setFlight (.ref a) X.env.frame) (λ _ s4 => wpAny (model X.prog X.w) X.A (throw (.ref a) : Sem Flow) (SP X pins D) X.xe s4) X.xe { s' with heap := h3 } := by
         rw [hf]
         refine HandSPX.setFlight_upZ fl3 λ h4 hh4 up4 => wpAny_throw (tk _ _ ⟨a, B, sI, pins, σ', H', cls, d, rfl, J, nb, up3.trans up4, .inr (.inr ?_), na, os, ag, w⟩)
         rw [hs]
         exact hh4
       first
         | exact wpAny_bind (wpAny_pure (wpAny_bind fin))
         | exact wpAny_bind fin
     | @plain t cs ts b₀ suite pos hds2 l2 ht hsu r ih =>
       rintro ⟨b, hb1, hyes, hno⟩ h3 fl3 up3
       obtain ⟨oe3, _, _, S3, LT⟩ := place fl3 up3
       refine wpAny_handleBy_cons (codeAny_handlers_test (ht a oe3 _ [] σ' H' _ cls b _ _ S3 LT hb1 λ h4 k4 => ?_)) (by intro q; cases q)
       have fl4 := flying_kept fl3 k4
       have up4 := up3.trans (Heap.UpToSlots.of_keeps k4)
       cases b with
       | true =>
         refine codeAny_handlers_suite ?_
         refine HandSPX.lands_againZ fl4 λ h5 fl5 up5 => ?_
         obtain ⟨oe5, hz5, hd5, S5, _⟩ := place fl5 (up4.trans up5)
         refine wpAny_mono ((hsu a oe5 cls d (X.pn ++ pins) hz5 hd5).run [] _ _ H' _ S5 (hyes rfl a na)) (λ f s6 hsp => ?_) (λ _ _ z => False.elim z)
         match f, hsp with
         | .next, ⟨σ6, H6, S6, q6⟩ => exact ⟨_, _, S6.unsuite ok, q6⟩
         | .brk, ⟨σ6, H6, S6, q6⟩ => exact ⟨_, _, S6.unsuite ok, q6⟩
         | .cont, ⟨σ6, H6, S6, q6⟩ => exact ⟨_, _, S6.unsuite ok, q6⟩
         | .ret u, ⟨v6, σ6, H6, S6, r6, q6⟩ => exact ⟨_, _, _, S6.unsuite ok, r6, q6⟩
       | false => exact ih (hno rfl) h4 fl4 up4
     | @named t cs n i ts b₀ suite pos hds2 l2 ht hi hln hsu r ih =>
       rintro ⟨b, hb1, hyes, hno⟩ h3 fl3 up3
       obtain ⟨oe3, _, _, S3, LT⟩ := place fl3 up3
       refine wpAny_handleBy_cons (codeAny_handlers_test (ht a oe3 _ [] σ' H' _ cls b _ _ S3 LT hb1 λ h4 k4 => ?_)) (by intro q; cases q)
       have fl4 := flying_kept fl3 k4
       have up4 := up3.trans (Heap.UpToSlots.of_keeps k4)
       cases b with
       | true =>
         refine codeAny_handlers_suite_as ?_
         refine HandSPX.lands_againZ fl4 λ h5 fl5 up5 => ?_
         obtain ⟨oe5, hz5, hd5, S5, _⟩ := place fl5 (up4.trans up5)
         refine store_ok (X := X.suite a ((a, oe5) :: (X.pn ++ pins))) (v := .ref a) S5 hN hi (.inl hln) rfl (λ s7 S7 => ?_) (.inr hln)
         refine wpAny_mono ((hsu a oe5 cls d (X.pn ++ pins) hz5 hd5).run [] s7 _ H' _ S7 (hyes rfl a na)) (λ f s6 hsp => ?_) (λ _ _ z => False.elim z)
         have end_ : ∀ {σ6 : L2.St} {H6 : Hp} {Q : Shared -> Prop}, Inv (X.suite a ((a, oe5) :: (X.pn ++ pins))) [] σ6 H6 s6 -> (∀ s7, Inv X pins (σ6.set i none) H6 s7 -> Q s7) ->
             wpAny (model X.prog X.w) X.A (do bindName X.env n .none; unbindBehindTheSuite X.env n pos) (λ _ s7 => Q s7) X.xe s6 := λ S6 hq => gone_ok (S6.unsuite ok) hN hi hln hq
         match f, hsp with
         | .next, ⟨σ6, H6, S6, q6⟩ => exact end_ S6 λ s7 J7 => ⟨_, _, J7, q6⟩
         | .brk, ⟨σ6, H6, S6, q6⟩ => exact end_ S6 λ s7 J7 => ⟨_, _, J7, q6⟩
         | .cont, ⟨σ6, H6, S6, q6⟩ => exact end_ S6 λ s7 J7 => ⟨_, _, J7, q6⟩
         | .ret u, ⟨v6, σ6, H6, S6, r6, q6⟩ => exact end_ S6 λ s7 J7 => ⟨_, _, _, J7, r6, q6⟩
       | false => exact ih (hno rfl) h4 fl4 up4
   exact main hh w h3 fl3 (up.trans up3)
 refine wpAny_mono ((hb (wTry X.K W D l) (X.pn ++ pins) xe tkb PassesOwn.looking).run [] s σ H D (I.toTry _) h) (λ f s1 hsp => ?_) (λ e s1 he => he)
 match f, hsp with
 | .next, ⟨σ', H', J', q⟩ => exact wpAny_execs_nil ⟨σ', H', J'.ofTry ok, q⟩
 | .brk, ⟨σ', H', J', q⟩ => exact ⟨σ', H', J'.ofTry ok, q⟩
 | .cont, ⟨σ', H', J', q⟩ => exact ⟨σ', H', J'.ofTry ok, q⟩
 | .ret u, ⟨v, σ', H', J', r, q⟩ => exact ⟨v, σ', H', J'.ofTry ok, r, q⟩
end
end RC

namespace RC
open PySem PySem.Spec PyProof.Rows L2
def KnX (K : Fr) (cls : Value) (d : Option Addr) (H : Hp) : Prop := ∃ D, cls = .ref D /\ ExcC K D /\ (d = none \/ ∃ dd fs, d = some dd /\ H dd = some (.xd fs))
def rIsX (K : Fr) (a : Addr) (cls : Value) (d : Option Addr) : List V -> Hp -> VK -> Prop := λ xs H Q => ∃ (c : V) (cv : Value) (b : Bool), xs = [.ref a, c] /\ KnX K cls d H /\ ClsV c cv /\ PySem.W.kitOne K cls cv = some b /\ Q (.bl b) H
def rIsXT (K : Fr) (a : Addr) (cls : Value) (d : Option Addr) : List V -> Hp -> VK -> Prop := λ xs H Q => ∃ (tp : Addr) (cs : List V) (us : List Value) (b : Bool), xs = [.ref a, .ref tp] /\ KnX K cls d H /\ H tp = some (.tup cs) /\ Paired ClsV cs us /\ PySem.W.kitAny K cls us = some b /\ Q (.bl b) H
def uIsX (K : Fr) (a : Addr) (cls : Value) (d : Option Addr) : List V -> Hp -> VK -> Prop := λ xs H Q => rIsX K a cls d xs H Q \/ rIsXT K a cls d xs H Q
def tXg (K : Fr) (a : Addr) (cls : Value) (d : Option Addr) (n : Str) (te : TE) : TE := λ σ H Q => te σ H λ x H1 => x = .ref a /\ ∃ D dd fs v, cls = .ref D /\ ExcC K D /\ PySem.W.findIn K (.ref D) n = some none /\ d = some dd /\ H1 dd = some (.xd fs) /\ fs.lookup n = some v /\ Q v H1
section
variable {X : Cx} {a D : Addr} {oe : Obj} {cls : Value} {d : Option Addr}
theorem inst_at {pins : List (Addr × Obj)} {σ : L2.St} {H : Hp} {s : Shared} (hp : (a, oe) ∈ X.pn) (hz : Zc (.ref D) d oe) (hf : ∃ vs, oe.data = .fields vs) (I : Inv X pins σ H s) (hd : d = none \/ ∃ dd fs, d = some dd /\ H dd = some (.xd fs)) :
   ∃ od, PySem.W.InstAt s.heap a oe D od := by
 obtain ⟨ha, _⟩ := I.pin (a, oe) (List.mem_append_left _ hp)
 obtain ⟨vs, hv⟩ := hf
 have nc : PySem.W.notCls oe = true := by
   unfold PySem.W.notCls
   rw [hv] <;> rfl
 rcases hd with rfl | ⟨dd, fs, rfl, e⟩
 · exact ⟨none, ha, hz.1, nc, by rw [hz.2]; trivial⟩
 · obtain ⟨mA, ⟨o, es, ep, e1, e2⟩, hr⟩ := (show ObjOk X.prog X.w H s.heap dd (.xd fs) from I.hok dd _ e)
   exact ⟨some o, ha, hz.1, nc, by rw [hz.2]; exact e1⟩
theorem kit_exc {K : Fr} {od : Option Obj} (C : ExcC K D) : PySem.W.KitX K (.ref a) (.ref D) (λ h => PySem.W.InstAt h a oe D od) :=
 PySem.W.kitx_exc (by obtain ⟨cd, hc, _⟩ := PySem.W.any_some C.hd; rw [hc]; rfl) C.hg C.hk C.hs C.ha C.hn C.ht C.hm
theorem cr_isX (hp : (a, oe) ∈ X.pn) (hz : Zc cls d oe) (hf : ∃ vs, oe.data = .fields vs) : CallR X (.builtin "isinstance") (uIsX X.K a cls d) := by
 intro pins s σ H xs us Q I r h
 rcases h with ⟨c, cv, b, rfl, ⟨D, rfl, C, hd⟩, k, e, q⟩ | ⟨tp, cs, ws, b, rfl, ⟨D, rfl, C, hd⟩, hT, k, e, q⟩
 · obtain ⟨u1, u2, rfl, r1, r2⟩ := vals2 r
   cases (show u1 = Value.ref a from r1)
   cases k.eq r2
   obtain ⟨od, J⟩ := inst_at hp hz hf I hd
   exact PySem.W.kia_one (kit_exc C) I.kIn J e (λ z => nomatch z) λ tk => ⟨.bl b, H, I.tok tk, rfl, q⟩
 · obtain ⟨u1, u2, rfl, r1, r2⟩ := vals2 r
   cases (show u1 = Value.ref a from r1)
   cases (show u2 = Value.ref tp from r2)
   obtain ⟨od, J⟩ := inst_at hp hz hf I hd
   obtain ⟨_, its, rv, o, h1, h2, n, h3⟩ := (show ObjOk X.prog X.w H s.heap tp (.tup cs) from I.hok tp _ hT)
   cases ClsV.all k rv
   obtain ⟨oc, od2, dt, sl⟩ := o
   simp only at h2 h3
   subst h2 h3
   exact PySem.W.kia_tup (kit_exc C) I.kIn J h1 e (λ z => nomatch z) λ tk => ⟨.bl b, H, I.tok tk, rfl, q⟩
theorem pe_xg {e : Expr} {te : TE} {pos : Pos} {n : Str} (hp : (a, oe) ∈ X.pn) (hz : Zc cls d oe) (hf : ∃ vs, oe.data = .fields vs) (he : PE X e te) (hb : attributeBase e n X.env (eval e X.env) = eval e X.env := by rfl) :
   PE X (.Attribute e n pos) (tXg X.K a cls d n te) := by
 constructor
 intro pins s σ H Q I h
 refine attr_of hb (thn (he.run pins s σ H _ I h) ?_)
 rintro u s1 ⟨x, H1, I1, rx, rfl, D, dd, fs, v, rfl, C, hno, rfl, ea, l, q⟩
 cases (show u = Value.ref a from rx)
 obtain ⟨ha, _⟩ := I1.pin (a, oe) (List.mem_append_left _ hp)
 obtain ⟨vs, hv⟩ := hf
 obtain ⟨mA, hns, hr⟩ := (show ObjOk X.prog X.w H1 s1.heap dd (.xd fs) from I1.hok dd _ ea)
 obtain ⟨od, ho, hl⟩ := lookIn_ns hns
 obtain ⟨u, hu, ru⟩ := RelO.some_of (v := v) (o := mA n) (by rw [<- l]; exact hr n)
 have nc : PySem.W.notCls oe = true := by
   unfold PySem.W.notCls
   rw [hv] <;> rfl
 have J : PySem.W.InstAt s1.heap a oe D (some od) := ⟨ha, hz.1, nc, by rw [hz.2]; exact ho⟩
 exact HandSPX.exc_get I1.kIn J C.hg C.hk C.hs (PySem.W.findObj_own C.hd hno rfl (by rw [hl, hu])) (handed_of ru) ⟨v, H1, I1.tok _, ru, q⟩
end
structure FnE (P : Program) (w : World) (K : Fr) (mg : Str -> Option Value) (base : Heap) (k : Nat) (f : Addr) (fd : FuncData) (x : Str) (sp : Addr -> Value -> Option Addr -> Hp -> VK -> Prop) : Prop where
 run : ∀ (A : Around) (outer : List Env) (s : Shared) (H : Hp) (args : Args) (Q : VK) (a : Addr) (oe : Obj) (cls : Value) (d : Option Addr), L2H.RoomH k A -> Zc cls d oe -> (∃ vs, oe.data = .fields vs) -> L2H.PinOk outer H s (a, oe) -> Env0 P w K mg base A outer s H ->
   BindsTo s fd args [(x, .ref a)] -> sp a cls d H Q -> codeAny (model P w) A (.call (.ref f) args) (CR CX0 outer P w H s Q E0) s
theorem okE {P : Program} {w : World} {K : Fr} {mg : Str -> Option Value} {base : Heap} {k : Nat} {f : Addr} {fd : FuncData} {x xq qual : Str} {params : Arguments} {body : List Stmt} {scope : Scope} {dvs : List V} {kws : List (Str × V)} {N : List Str}
   {sp : Addr -> Value -> Option Addr -> Hp -> VK -> Prop} (D : FunD K xq qual params body scope dvs kws f fd) (S : FnScope N [x] scope)
   (hbody : ∀ (cdv : Value) (B : Around) (out : List Env) (t : Shared) (H : Hp) (Q : VK) (a : Addr) (oe : Obj) (cls : Value) (d : Option Addr), L2H.RoomH k (B.deeper (envOfC qual scope t.heap.objs.size f cdv)) -> Zc cls d oe -> (∃ vs, oe.data = .fields vs) -> sp a cls d H Q ->
     ∃ tr, PSs (L2H.cxH CX0 P w K mg base N qual scope f cdv B out t H E0 (a, oe)) body tr /\ tr { nx := λ _ H' => Q .non H', rt := Q } (L2.start N [.ref a]) H) :
   FnE P w K mg base (k + 1) f fd x sp := by
 obtain ⟨⟨oc, od, dV, kV, doc, pm, an, cdv, ct, osl, rfl, lk, hcd, _, _⟩, _⟩ := D
 constructor
 intro A outer s H args Q a oe cls d hr hz hf hpin env hb hsp
 have hin : K.In s.heap := env.mod.kin.keeps λ b o q => (env.bs b o q).1
 have hno : s.heap.NoLimit := env.mod.nolimit.keeps λ b o q => (env.bs b o q).1
 have hk : ∀ y ∈ [x].zip [Value.ref a], scope.names.lookup y.1 = some .local \/ (scope.names.lookup y.1 = some .cell /\ ((cellsFrom (s.heap.objs.size + 1) scope.names []).lookup y.1).isSome = true) := by
   rintro ⟨n, v⟩ hy
   cases S.par n (List.of_mem_zip hy).1 with
   | inl q => exact .inl q
   | inr q => exact .inr ⟨q, PySem.W.cellsFrom_some _ _ _ (.inl q)⟩
 refine codeAny_call_function hr.depth (hin _ _ lk) rfl S.co S.gen rfl (PySem.W.codeRec_of hin hcd) (hb _ _ _ _ ?_)
 refine wpAny_newFunctionEnv_cells S.kind hk λ ev hev t1 ic => ?_
 subst hev
 refine ⟨hno.keeps ic.toInCall.keep, codeAny_func ?_⟩
 obtain ⟨tr, htr, hq⟩ := hbody cdv A outer s H Q a oe cls d (hr.deeper _) hz hf hsp
 have J : Inv (L2H.cxH CX0 P w K mg base N qual scope f cdv A outer s H E0 (a, oe)) [] (L2.start N [.ref a]) H t1 := L2H.inv_startH (us := [.ref a]) S hpin env rfl (.cons rfl .nil) ic
 refine wpAny_mono (htr.run [] t1 _ H _ J hq) (λ fl t2 z => ?_) λ _ _ z => z
 match fl, z with
 | .next, ⟨s2, H2, J2, q2⟩ => exact ⟨V.non, H2, J2.os, J2.bare, J2.base, J2.hok, rfl, q2⟩
 | .ret u, ⟨v2, s2, H2, J2, r2, q2⟩ => exact ⟨v2, H2, J2.os, J2.bare, J2.base, J2.hok, r2, q2⟩
 | .brk, ⟨_, _, _, q2⟩ => cases q2
 | .cont, ⟨_, _, _, q2⟩ => cases q2
def tCallE (a : Addr) (cls : Value) (d : Option Addr) (sp : Addr -> Value -> Option Addr -> Hp -> VK -> Prop) (te : TE) : TE := λ σ H Q => te σ H λ x H1 => x = .ref a /\ sp a cls d H1 Q
theorem pe_callE {X : Cx} {a f : Addr} {oe : Obj} {cls : Value} {d : Option Addr} {k : Nat} {fd : FuncData} {x px : Str} {sp : Addr -> Value -> Option Addr -> Hp -> VK -> Prop} {e : Expr} {te : TE} {p pos : Pos} (F : FnE X.prog X.w X.K X.mg X.base k f fd px sp) (hp : (a, oe) ∈ X.pn) (hz : Zc cls d oe)
   (hf : ∃ vs, oe.data = .fields vs) (hr : L2H.RoomH k X.A) (hg : Gl X x) (hm : X.mg x = some (.ref f)) (hk : PySem.W.keepIn X.K (.ref f) = true) (hb : Binds X.K fd [px] []) (ha : PE X e te)
   (hdb : (x == ("__debug__" : Str)) = false := by decide) (he : starEach [e] X.env = (false, eval e X.env) :: starEach [] X.env := by rfl) : PE X (.Call (.Name x p) [e] [] pos) (tCallE a cls d sp te) := by
 constructor
 intro pins s σ H Q I h
 refine wpAny_Call_Name_kw (ld_glob I hg hm ?_ hdb)
 have pa := pa_cons (PE.wk ha) (pa_nil (X := X)) he
 have body := thn (pa.run pos pins s σ H (λ vs H1 => vs = [.ref a] /\ sp a cls d H1 Q) I ⟨_, h, λ v H1 z => ⟨by rw [z.1], z.2⟩⟩) (Q' := λ us s1 => X.K.In s1.heap /\ wpAny (model X.prog X.w) X.A (call (.ref f) us) (EP X pins σ Q) X.xe s1) ?_
 · exact PySem.W.callWith_K (h₀ := X.base) I.ok.mod.kin hk body he rfl
 rintro us s1 ⟨vs, H1, I1, r1, rfl, q1⟩
 refine ⟨I1.kIn, ?_⟩
 obtain ⟨u, rfl, ru⟩ := vals1 r1
 cases (show u = Value.ref a from ru)
 have P1 := I1.pin (a, oe) (List.mem_append_left _ hp)
 have hpin : L2H.PinOk X.stack H1 s1 (a, oe) := ⟨P1.1, P1.2.1, λ hm => (List.mem_cons.mp (I1.stkSub a hm)).elim P1.2.2.1 P1.2.2.2.1, P1.2.2.2.2⟩
 have bb := hb s1 [.ref a] I1.kIn rfl
 have go := F.run X.A X.stack s1 H1 ⟨[.ref a], []⟩ Q a oe cls d hr hz hf hpin I1.env0 bb q1
 refine wpAny_call (codeAny_mono go λ r s' hq => ?_)
 match r, hq with
 | .error _, hq => exact hq.elim
 | .ok (.ret u), hq => exact I1.after hq
 | .ok .next, hq => cases hq
 | .ok .brk, hq => cases hq
 | .ok .cont, hq => cases hq
def obsF (fa : List (Fr -> Bool)) (fn : List He.DefD) (K : Fr) : He.AlD := ((fa.all λ f => f K) && fn.all λ d => d.ok K, fn.map λ d => He.fnW K d.at_)
def SaysF (fa : List (Fr -> Bool)) (fn : List He.DefD) (K : Fr) : Prop := obsF fa fn K = He.valD fn
section
variable {fa : List (Fr -> Bool)} {fn : List He.DefD} {K : Fr}
theorem SaysF.fact (c : SaysF fa fn K) (i : Nat) {f : Fr -> Bool} (h : fa[i]? = some f := by rfl) : f K = true := by
 have c1 : ((fa.all λ f => f K) && fn.all λ d => d.ok K) = true := congrArg (λ z : He.AlD => z.1) c
 exact List.all_eq_true.mp (Bool.and_eq_true_iff.mp c1).1 f (List.mem_of_getElem? h)
theorem SaysF.def_ (c : SaysF fa fn K) (i : Nat) {d : He.DefD} (h : fn[i]? = some d := by rfl) : ∃ fd, FunD K d.name d.qual d.params d.body d.scope (d.dvs K) (d.kws K) (He.fAd K d.at_) fd := by
 have c1 : ((fa.all λ f => f K) && fn.all λ d => d.ok K) = true := congrArg (λ z : He.AlD => z.1) c
 have e : fn.map (λ d => He.fnW K d.at_) = fn.map He.DefD.val := congrArg (λ z : He.AlD => z.2) c
 have e2 : (fn.map λ d => He.fnW K d.at_)[i]? = (fn.map He.DefD.val)[i]? := by rw [e]
 rw [List.getElem?_map, List.getElem?_map, h] at e2
 exact He.DefD.funD (Option.some.inj e2) (List.all_eq_true.mp (Bool.and_eq_true_iff.mp c1).2 d (List.mem_of_getElem? h))
end
end RC

theorem L2H.RoomH.units {k : Nat} {A : PySem.Around} (r : L2H.RoomH k A) : A.units + 64 < PySem.cLine := by
 have := r.un
 omega
theorem L2H.RoomH.u65 {k : Nat} {A : PySem.Around} (r : L2H.RoomH k A) : A.units + 65 < PySem.cLine := by
 have := r.un
 omega
theorem L2H.RoomH.u1 {k : Nat} {A : PySem.Around} (r : L2H.RoomH k A) : A.units + 1 < PySem.cLine := by
 have := r.un
 omega
theorem L2.Room.u65 {k : Nat} {A : PySem.Around} (r : L2.Room k A) : A.units + 65 < PySem.cLine := by
 have := r.un
 omega
theorem L2.Room.u1 {k : Nat} {A : PySem.Around} (r : L2.Room k A) : A.units + 1 < PySem.cLine := by
 have := r.un
 omega
namespace RC
open PySem PySem.Spec PyProof.Rows L2
def W0 : WX := λ _ _ _ _ => False
abbrev WT (E : XK) : WX := λ cls d _ H => E cls d H
theorem tk0 {X : Cx} : Takes X W0 := takes_none5
theorem okW {g : Bool} {P : Program} {w : World} {K : Fr} {mg : Str -> Option Value} {base : Heap} {k : Nat} {f : Addr} {fd : FuncData} {ps : List Str} {sp : Sp} {x qual : Str} {params : Arguments} {body : List Stmt} {scope : Scope} {dvs : List V} {kws : List (Str × V)} {N : List Str}
   (D : FunD K x qual params body scope dvs kws f fd) (S : FnScope N ps scope) (hlen : ∀ vs H Q E, sp vs H Q E -> vs.length = ps.length)
   (hbody : ∀ (cdv : Value) (B : Around) (out : List Env) (t : Shared) (H : Hp) (vs : List V) (Q : VK) (E : XK), (g = true -> B.guards = some []) -> Room k (B.deeper (envOfC qual scope t.heap.objs.size f cdv)) -> sp vs H Q E ->
     Takes (cxOf (L2.CX P w) P w K mg base N qual scope f cdv B out t H E) (WT E) -> PassesOwn (model P w) (cxOf (L2.CX P w) P w K mg base N qual scope f cdv B out t H E).A (cxOf (L2.CX P w) P w K mg base N qual scope f cdv B out t H E).env (cxOf (L2.CX P w) P w K mg base N qual scope f cdv B out t H E).xe ->
     ∃ tr, PSs (cxOf (L2.CX P w) P w K mg base N qual scope f cdv B out t H E) body tr /\ tr { nx := λ _ H' => Q .non H', rt := Q } (L2.start N vs) H) :
   FnX g P w K mg base (L2.CX P w) (k + 1) f fd ps sp :=
 okX D S hlen λ cdv B out t H vs Q E hg hr hs => hbody cdv B out t H vs Q E hg hr hs (takes_of rfl rfl rfl rfl) (passes_of rfl)
section
variable {X : Cx}
theorem uo_inU (hu : X.A.units + 65 < cLine) : OpR X (compareOp .In) (uIn X.K) := op_in_seq.or ((op_inD hu).or ((op_din (by omega)).or op_in_str))
theorem uo_notinU (hu : X.A.units + 65 < cLine) : OpR X (compareOp .NotIn) (uNotIn X.K) := op_notIn_seq.or ((op_notInD hu).or ((op_dnotin (by omega)).or op_notin_str))
def rIxK : R2 := λ x y H Q => ∃ a v, x = .ref a /\ DGet H a y (some v) /\ Q v H
theorem ix_dk (hu : X.A.units + 1 < cLine) : IxR X rIxK := by
 intro value slice pins s σ H x y v u Q I rx ry h hs
 obtain ⟨a, r, rfl, hd, q⟩ := h
 cases (show v = Value.ref a from rx)
 exact tail_any (dict_typeIs I hd) PySem.F.slot_dict_getitem.lookup (d_getItem hu I hd ry λ w' s3 I3 rw' => ⟨r, H, I3, rw', q⟩) hs
def rCntV (K : Fr) : V -> List V -> Hp -> VK -> Prop := λ x xs H Q => ∃ (a : Addr) (ys : List V) (y : V), x = V.ref a /\ xs = [y] /\ SqL K H a ys /\ flatV y = true /\ ys.all flatV = true /\ Q (.int ((ys.countP λ z => eqV z y) : Nat)) H
theorem countP_vals {y : V} : ∀ {ys : List V} {its : List Value}, Vals ys its -> ys.all flatV = true -> its.countP (eqU y) = ys.countP λ z => eqV z y
 | _, _, .nil, _ => rfl
 | _, _, .cons r t, h => by
   rw [List.all_cons, Bool.and_eq_true] at h
   rw [List.countP_cons, List.countP_cons, countP_vals t h.2, eqU_of r h.1]
theorem mt_countV : MtR X "list.count" (rCntV X.K) := by
 intro pins s σ H x xs v us Q I rx rxs h
 obtain ⟨a, ys, y, rfl, rfl, hs, fy, fys, q⟩ := h
 cases rx
 obtain ⟨u, rfl, ru⟩ := rxs.one
 obtain ⟨its, rv, ⟨⟨cls, dd, data, sl⟩, n, ho, hc, hdn, hd⟩, hlen⟩ := I.list hs
 simp only at hc hd
 subst hc hd
 refine call_meets PySem.F.slot_list_count ⟨_, ho, rfl⟩ PySem.F.entry_list_count (PySem.F.args_list_count_2 _ _)
   (SeqAt.list_countAt a its.toArray n dd sl u (eqU y)) ⟨ho, λ u' hu' => mem_eqAt ru fy rv fys u' (by simpa using hu'), ?_⟩
 refine ⟨.int _, H, I.tok _, ⟨s.toks, ?_⟩, q⟩
 have e : its.toArray.toList.countP (eqU y) = ys.countP λ z => eqV z y := countP_vals rv fys
 rw [e]
def rLenI (C : Addr) (sp : Sp) : List V -> Hp -> VK -> Prop := λ xs H Q => ∃ a dx fs, xs = [.ref a] /\ H a = some (.ins C dx fs) /\ sp [.ref a] H (λ v H' => ∃ n : Int, v = .int n /\ 0 <= n /\ n < 2 ^ 63 /\ Q (.int n) H') E0
theorem cr_lenI {C f : Addr} {k : Nat} {fd : FuncData} {ps : List Str} {sp : Sp} (hm : Meth X.K C "__len__" f) (F : FnX false X.prog X.w X.K X.mg X.base CX0 k f fd ps sp) (hr : Room (k + 1) X.A) (hb : Binds X.K fd ps []) : CallR X (.builtin "len") (rLenI C sp) := by
 intro pins s σ H xs us Q I r h
 obtain ⟨a, dx, fs, rfl, ea, q⟩ := h
 obtain ⟨u, rfl, ru⟩ := vals1 r
 cases (show u = Value.ref a from ru)
 obtain ⟨m, fr⟩ := I.fr
 obtain ⟨mA, O, _⟩ := ins_get I.hok ea
 obtain ⟨od, J, _⟩ := O.look
 refine PySem.W.len_K fr I.ok.mod.kin J hm.at_ hm.fn ?_
 have ll : ([Value.ref a] ++ []).length = ps.length := (F.lenG _ _ _ _ q).symm ▸ rfl
 have bb := hb s [.ref a] I.kIn ll
 have go := F.runG X.A.in1 X.stack s H ⟨[.ref a], []⟩ _ [.ref a] [.ref a] _ _ (λ z => nomatch z) hr.in1 I.env0.in1 bb (.refl _) (.cons rfl .nil) q
 refine wpAny_call (codeAny_mono go λ res s' hq => ?_)
 match res, hq with
 | .error _, hq => exact hq.elim
 | .ok (.ret u), hq =>
   obtain ⟨v, H', I', rv, n, rfl, h0, h1, q'⟩ := I.after hq
   obtain ⟨t, rfl⟩ := rv
   exact ⟨⟨h0, h1⟩, ⟨.int n, H', I'.tok _, ⟨_, rfl⟩, q'⟩⟩
 | .ok .next, hq => cases hq
 | .ok .brk, hq => cases hq
 | .ok .cont, hq => cases hq
end
def clsB : Stmt -> List Stmt
 | .ClassDef _ _ _ body _ _ _ _ _ _ _ => body
 | _ => []
abbrev mA (K : Fr) (c m : Str) : Addr := He.ma K (He.ga K c) m
def chB (K : Fr) (x : Str) (bmB : List Value) (newId : String) : Bool := PySem.W.excInitIn K (He.ga K x) bmB newId && (PySem.W.excOver K (He.ga K x) bmB && (PySem.W.hasDictIn K (He.ga K x) && (He.eqO (PySem.W.findIn K (.ref (He.ga K x)) "__setattr__") (some (some (.builtin "object.__setattr__"))) &&
 (decide (PySem.W.subIn K (.ref (He.ga K x)) (.type "BaseException") = some true) && (decide (PySem.W.typeIn K (.ref (He.ga K x)) = some (.type "type")) && PySem.W.keepIn K (.ref (He.ga K x)))))))
theorem chB_ok {K : Fr} {x : Str} {B newId initId : String} {bmB : List Value} (fb : ExcBaseFacts B newId initId bmB) (sf : StoreFacts B bmB "object.__setattr__" "object") (h : chB K x bmB newId = true) : XcB K (He.ga K x) B newId initId bmB := by
 obtain ⟨h1, h⟩ := He.ba h
 obtain ⟨h2, h⟩ := He.ba h
 obtain ⟨h3, h⟩ := He.ba h
 obtain ⟨h4, h⟩ := He.ba h
 obtain ⟨h5, h⟩ := He.ba h
 obtain ⟨h6, h7⟩ := He.ba h
 exact ⟨fb, sf, h1, h2, h3, He.eqO_ok h4, of_decide_eq_true h5, of_decide_eq_true h6, h7⟩
abbrev tlB (B : String) : List Value := [.type B, .type "Exception", .type "BaseException", .type "object"]
theorem chB_VE {K : Fr} {x : Str} (h : chB K x (tlB "ValueError") "ValueError.__new__" = true) : XcB K (He.ga K x) "ValueError" "ValueError.__new__" "ValueError.__init__" (tlB "ValueError") := chB_ok PySem.F.excBase_ValueError PySem.F.store_ValueError h
theorem chB_LE {K : Fr} {x : Str} (h : chB K x (tlB "LookupError") "LookupError.__new__" = true) : XcB K (He.ga K x) "LookupError" "LookupError.__new__" "LookupError.__init__" (tlB "LookupError") := chB_ok PySem.F.excBase_LookupError PySem.F.store_LookupError h
theorem chB_RE {K : Fr} {x : Str} (h : chB K x (tlB "RuntimeError") "RuntimeError.__new__" = true) : XcB K (He.ga K x) "RuntimeError" "RuntimeError.__new__" "RuntimeError.__init__" (tlB "RuntimeError") := chB_ok PySem.F.excBase_RuntimeError PySem.F.store_RuntimeError h
def chI (K : Fr) (x : Str) (initId : String) : Bool := He.eqO (PySem.W.specialIn K (.ref (He.ga K x)) "__getattribute__") (some (some (.builtin "type.__getattribute__"))) && (decide (PySem.W.typeIn K (.ref (He.ga K x)) = some (.type "type")) && (PySem.W.readsIn K (He.ga K x) (.type "type") &&
 (match PySem.W.findCls K (.ref (He.ga K x)) (.type "type") "__init__" with
   | some (.val (.builtin n)) => decide (n = initId)
   | _ => false)))
theorem chI_ok {K : Fr} {x : Str} {initId : String} (h : chI K x initId = true) : XcI K (He.ga K x) initId := by
 obtain ⟨h1, h⟩ := He.ba h
 obtain ⟨h2, h⟩ := He.ba h
 obtain ⟨h3, h4⟩ := He.ba h
 refine ⟨He.eqO_ok h1, of_decide_eq_true h2, h3, ?_⟩
 split at h4
 · rename_i n e
   rw [e, of_decide_eq_true h4]
 · cases h4
def chC (K : Fr) (x : Str) : Bool := He.eqO (PySem.W.findIn K (.ref (He.ga K x)) "__getattribute__") (some (some (.builtin "BaseException.__getattribute__"))) && (He.eqO (PySem.W.findIn K (.ref (He.ga K x)) "__getattr__") (some none) &&
 (decide (PySem.W.subIn K (.ref (He.ga K x)) (.type "BaseException") = some true) && (PySem.W.hasDictIn K (He.ga K x) && (He.eqO (PySem.W.findIn K (.ref (He.ga K x)) "__class__") (some (some (.builtin "object.__class__"))) &&
 (He.eqO (PySem.W.specialIn K (.builtin "object.__class__") "__get__") (some (some (.builtin "getset_descriptor.__get__"))) && (decide (PySem.W.takesIn K (.builtin "object.__class__") = some true) && decide (PySem.W.mroIn K (He.ga K x) (.type "object") = some true)))))))
theorem chC_ok {K : Fr} {x : Str} (h : chC K x = true) : ExcC K (He.ga K x) := by
 obtain ⟨h1, h⟩ := He.ba h
 obtain ⟨h2, h⟩ := He.ba h
 obtain ⟨h3, h⟩ := He.ba h
 obtain ⟨h4, h⟩ := He.ba h
 obtain ⟨h5, h⟩ := He.ba h
 obtain ⟨h6, h⟩ := He.ba h
 obtain ⟨h7, h8⟩ := He.ba h
 exact ⟨He.eqO_ok h1, He.eqO_ok h2, of_decide_eq_true h3, h4, He.eqO_ok h5, He.eqO_ok h6, of_decide_eq_true h7, of_decide_eq_true h8⟩
def chN (K : Fr) (x f : Str) : Bool := He.eqO (PySem.W.findIn K (.ref (He.ga K x)) f) (some none)
theorem chN_ok {K : Fr} {x f : Str} (h : chN K x f = true) : PySem.W.findIn K (.ref (He.ga K x)) f = some none := He.eqO_ok h
def chF (K : Fr) (x : Str) : Bool := He.eqO (PySem.W.findIn K (.ref (He.ga K x)) "__init__") (some (some (.ref (mA K x "__init__")))) && decide (PySem.W.typeIn K (.ref (mA K x "__init__")) = some (.type "function"))
theorem chF_ok {K : Fr} {x : Str} (h : chF K x = true) : PySem.W.findIn K (.ref (He.ga K x)) "__init__" = some (some (.ref (mA K x "__init__"))) /\ PySem.W.typeIn K (.ref (mA K x "__init__")) = some (.type "function") := ⟨He.eqO_ok (He.ba h).1, of_decide_eq_true (He.ba h).2⟩
def chM (K : Fr) (x y : Str) (b : Bool) : Bool := decide (PySem.W.exmOne K (.ref (He.ga K x)) (.ref (He.ga K y)) = some b)
theorem chM_ok {K : Fr} {x y : Str} {b : Bool} (h : chM K x y b = true) : PySem.W.exmOne K (.ref (He.ga K x)) (.ref (He.ga K y)) = some b := of_decide_eq_true h
def chK (K : Fr) (x y : Str) (b : Bool) : Bool := decide (PySem.W.kitOne K (.ref (He.ga K x)) (.ref (He.ga K y)) = some b)
theorem chK_ok {K : Fr} {x y : Str} {b : Bool} (h : chK K x y b = true) : PySem.W.kitOne K (.ref (He.ga K x)) (.ref (He.ga K y)) = some b := of_decide_eq_true h
theorem exm_cons {K : Fr} {cls c : Value} {cs : List Value} {b d : Bool} (h : PySem.W.exmOne K cls c = some b) (h2 : PySem.W.exmAny K cls cs = some d) : PySem.W.exmAny K cls (c :: cs) = some (b || d) := by
 unfold PySem.W.exmAny
 rw [h, h2]
def tTry (K : Fr) (W : WX) (tb : WX -> TS) (l : List Hd) : TS := λ D σ H => tb (wTry K W D l) D σ H
theorem ps_tryT {X : Cx} {body : List Stmt} {h₀ : ExceptHandler} {hds : List ExceptHandler} {l : List Hd} {pos : Pos} {tb : WX -> TS} {W : WX} (hs : X.stack = X.env :: X.outer) (hf : X.env.frame = some X.env.locals) (hN : X.N.Nodup) (tk : Takes X W)
   (hb : ∀ (W' : WX) (pn : List (Addr × Obj)) (xe : Value -> Shared -> Prop), Takes (X.tr pn xe) W' -> PassesOwn (model X.prog X.w) X.A X.env xe -> PSs (X.tr pn xe) body (tb W'))
   (hh : HdOk X (h₀ :: hds) l) : PS X (.Try body (h₀ :: hds) [] [] pos) (tTry X.K W tb l) := ps_tryG hs hf hN tk hb hh
theorem roomMark {k : Nat} {A : Around} {h : Option Value} (r : Room k A) : L2H.RoomH k (A.mark h) := ⟨r.dp, r.un⟩
def rDictD : List V -> Hp -> VK -> Prop := λ xs H Q => ∃ (a : Addr) (kvs : List (Key × V)), xs = [.ref a] /\ Rd H a (.dK kvs) /\ ∀ p, H p = none -> Q (.ref p) (upd H p (.dK kvs))
theorem cr_dictD {X : Cx} : CallR X (.type "dict") rDictD := call_dictD
end RC

namespace RC
open PySem PySem.Spec PyProof.Rows L2
def seenB (m a : Nat) : Bool := Nat.beq (Nat.land (Nat.shiftRight m a) 1) 1
def addNew {β : Type} : List Addr -> Nat -> List Addr -> (Nat -> List Addr -> β) -> β
 | [], m, acc, k => k m acc
 | a :: as, m, acc, k => match seenB m a with
   | true => addNew as m acc k
   | false => HandSHeadRun.frNat (Nat.lor m (Nat.shiftLeft 1 a)) λ m => addNew as m (a :: acc) k
def growB {β : Type} (g : Addr -> Option Obj) : List Addr -> Nat -> List Addr -> (Nat -> List Addr -> β) -> β
 | [], m, acc, k => k m acc
 | a :: as, m, acc, k => match g a with
   | some o => addNew (He.refsD o) m acc λ m acc => growB g as m acc k
   | none => growB g as m acc k
def levB (g : Addr -> Option Obj) : Nat -> List Addr -> Nat -> List Addr -> List Addr
 | 0, fr, _, all => all ++ fr
 | n + 1, fr, m, all => growB g fr m [] λ m f2 => levB g n f2 m (all ++ fr)
def startsB (g : Addr -> Option Obj) (n : Nat) : List Addr := levB g n [mainGlobals, cStatics] 0 []
def obsB (n : Nat) (fa : List (Fr -> Bool)) (fn : List He.DefD) (g : Addr -> Option Obj) : He.AlD := obsF fa fn (He.frG g (startsB g n))
def hookB (n : Nat) (fa : List (Fr -> Bool)) (fn : List He.DefD) : PySem.W.Hook where
 α := He.AlD
 obs := λ s => obsB n fa fn s.heap.get?
 val := λ _ => He.valD fn
 says := λ _ h => ∃ K : Fr, K.In h /\ SaysF fa fn K
 of := λ _ _ e => ⟨_, He.frG_in, e⟩
 keeps := λ _ _ _ ⟨K, hK, c⟩ k => ⟨K, PySem.W.Frag.In.keeps hK k, c⟩
theorem obsB_eq {n : Nat} {fa : List (Fr -> Bool)} {fn : List He.DefD} {g : Addr -> Option Obj} {s : Shared} (h : ∀ a, g a = s.heap.get? a) : obsB n fa fn g = (hookB n fa fn).obs s := by
 have e : g = s.heap.get? := funext h
 rw [e] <;> rfl
theorem mp3 {α β γ δ : Type} {x : Option α} {f : α -> β} {g : α -> γ} {h : α -> δ} {a : β} {b : γ} {c : δ} (h1 : x.map (λ s => (f s, g s)) = some (a, b)) (h2 : x.map h = some c) : x.map (λ s => (f s, g s, h s)) = some (a, b, c) := by
 cases x with
 | none => cases h1
 | some s =>
   cases h1
   cases h2
   rfl
theorem obsF_app {fa fa' : List (Fr -> Bool)} {fn fn' : List He.DefD} {K : Fr} (h1 : obsF fa fn K = He.valD fn) (h2 : obsF fa' fn' K = He.valD fn') : obsF (fa ++ fa') (fn ++ fn') K = He.valD (fn ++ fn') := by
 have a1 : ((fa.all λ f => f K) && fn.all λ d => d.ok K) = true := congrArg (λ z : He.AlD => z.1) h1
 have a2 : ((fa'.all λ f => f K) && fn'.all λ d => d.ok K) = true := congrArg (λ z : He.AlD => z.1) h2
 have b1 : fn.map (λ d => He.fnW K d.at_) = fn.map He.DefD.val := congrArg (λ z : He.AlD => z.2) h1
 have b2 : fn'.map (λ d => He.fnW K d.at_) = fn'.map He.DefD.val := congrArg (λ z : He.AlD => z.2) h2
 rw [Bool.and_eq_true] at a1 a2
 unfold obsF He.valD
 rw [List.all_append, List.all_append, a1.1, a1.2, a2.1, a2.2, List.map_append, List.map_append, b1, b2]
 rfl
theorem mpA {α : Type} {x : Option α} {n : Nat} {fa fa' : List (Fr -> Bool)} {fn fn' : List He.DefD} {g : α -> Addr -> Option Obj} (h1 : x.map (λ s => obsB n fa fn (g s)) = some (He.valD fn)) (h2 : x.map (λ s => obsB n fa' fn' (g s)) = some (He.valD fn')) :
   x.map (λ s => obsB n (fa ++ fa') (fn ++ fn') (g s)) = some (He.valD (fn ++ fn')) := by
 cases x with
 | none => cases h1
 | some s => exact congrArg some (obsF_app (Option.some.inj h1) (Option.some.inj h2))
section
open PySem.W PySem.Calls HandSHeadRun
theorem runEq {r : OpenRow} {q : Program} {H : Hook} {ob : SharedT -> H.α} {M : Nat} {loose : List PySem.Str} {w : World}
   (h1 : ∀ os, (endF (stepQ (denQ tabQ) r.prog w) M r.prog w os).map (λ s => (looksF r.prog (boot_heap w.params) s.abs, seenQ q loose (importedModules r.prog.main.body) (λ s => xlAt q [] s && recOk r.toRowW.records s) s.abs)) = some (true, openGood q loose))
   (h3 : ∀ os, (endF (stepQ (denQ tabQ) r.prog w) M r.prog w os).map (λ s => ob s) = some (H.val w)) : RunEq r q H ob M loose w := λ os => mp3 (h1 os) (h3 os)
end
end RC


namespace RC
open PySem PySem.Spec PyProof.Rows L2
open PyProof.Rows.KTD (tabLook)
end RC
namespace RC
open PySem PySem.Spec PyProof.Rows L2
def top (i : Nat) : Stmt := PySem.Challenge.pw_restorechain_k27_copied_and_shared.main.body.getD i (.Pass ⟨0, 0, 0, 0⟩)
def meth (i j : Nat) : Stmt := (clsB (top i)).getD j (.Pass ⟨0, 0, 0, 0⟩)
abbrev s_l_bag : Stmt := top 24
abbrev s_l_take : Stmt := top 25
abbrev s_l_signs : Stmt := top 33
abbrev s_l_pool : Stmt := top 34
abbrev s_is_whole : Stmt := top 13
abbrev s_is_room : Stmt := top 21
abbrev s_Shelf___init__ : Stmt := meth 22 0
abbrev s_Shelf_copied : Stmt := meth 22 16
abbrev s_l_copy : Stmt := top 27
abbrev s_l_sum : Stmt := top 30
abbrev s_l_drawn : Stmt := top 43
abbrev s_l_whole : Stmt := top 28
abbrev s_l_are_signs : Stmt := top 29
abbrev s_l_laid : Stmt := top 39
abbrev s_l_back : Stmt := top 31
abbrev s_l_is_seal : Stmt := top 32
abbrev s_l_sound : Stmt := top 38
abbrev s_l_due : Stmt := top 40
abbrev s_l_alike : Stmt := top 26
abbrev s_is_sign : Stmt := top 14
abbrev s_are_signs : Stmt := top 15
abbrev s_seal_of : Stmt := top 18
abbrev s_Shelf_free : Stmt := meth 22 14
abbrev s_Shelf_lay : Stmt := meth 22 1
abbrev s_is_seal : Stmt := top 16
abbrev s_Shelf_need_kept : Stmt := meth 22 2
abbrev s_Shelf_hold : Stmt := meth 22 3
abbrev s_Shelf_let_go : Stmt := meth 22 4
abbrev s_Shelf_harm : Stmt := meth 22 5
abbrev s_Shelf_lose : Stmt := meth 22 6
abbrev s_Shelf_heal : Stmt := meth 22 7
abbrev s_Shelf_held : Stmt := meth 22 8
abbrev s_Shelf_has_sound : Stmt := meth 22 9
abbrev s_Shelf_is_sound : Stmt := meth 22 10
abbrev s_Shelf_read : Stmt := meth 22 11
abbrev s_l_deed : Stmt := top 35
abbrev s_l_refusal : Stmt := top 36
abbrev s_l_said : Stmt := top 37
abbrev s_l_state_due : Stmt := top 42
abbrev s_Shelf_seals : Stmt := meth 22 12
abbrev s_Shelf_broken : Stmt := meth 22 13
abbrev s_Shelf___len__ : Stmt := meth 22 15
abbrev s_l_state : Stmt := top 41
abbrev s_l_as_due : Stmt := top 44
abbrev s_law : Stmt := top 45
abbrev s_Wrong___init__ : Stmt := meth 4 0
abbrev s_NoRoom___init__ : Stmt := meth 7 0
abbrev s_NoPiece___init__ : Stmt := meth 6 0
abbrev s_Unlike___init__ : Stmt := meth 5 0
abbrev s_Broken___init__ : Stmt := meth 8 0
def d_l_bag : He.DefD := ⟨("_law_bag", none), "_law_bag", "_law_bag", defArgs s_l_bag, defBody s_l_bag, defScope s_l_bag, [], []⟩
def d_l_take : He.DefD := ⟨("_law_take", none), "_law_take", "_law_take", defArgs s_l_take, defBody s_l_take, defScope s_l_take, [], []⟩
def d_l_signs : He.DefD := ⟨("_law_signs", none), "_law_signs", "_law_signs", defArgs s_l_signs, defBody s_l_signs, defScope s_l_signs, [], []⟩
def d_l_pool : He.DefD := ⟨("_law_pool", none), "_law_pool", "_law_pool", defArgs s_l_pool, defBody s_l_pool, defScope s_l_pool, [], []⟩
def d_is_whole : He.DefD := ⟨("is_whole", none), "is_whole", "is_whole", defArgs s_is_whole, defBody s_is_whole, defScope s_is_whole, [], []⟩
def d_is_room : He.DefD := ⟨("is_room", none), "is_room", "is_room", defArgs s_is_room, defBody s_is_room, defScope s_is_room, [], []⟩
def d_Shelf___init__ : He.DefD := ⟨("Shelf", some "__init__"), "__init__", "Shelf.__init__", defArgs s_Shelf___init__, defBody s_Shelf___init__, defScope s_Shelf___init__, [], []⟩
def d_Shelf_copied : He.DefD := ⟨("Shelf", some "copied"), "copied", "Shelf.copied", defArgs s_Shelf_copied, defBody s_Shelf_copied, defScope s_Shelf_copied, [], []⟩
def d_l_copy : He.DefD := ⟨("_law_copy", none), "_law_copy", "_law_copy", defArgs s_l_copy, defBody s_l_copy, defScope s_l_copy, [], []⟩
def d_l_sum : He.DefD := ⟨("_law_sum", none), "_law_sum", "_law_sum", defArgs s_l_sum, defBody s_l_sum, defScope s_l_sum, [], []⟩
def d_l_drawn : He.DefD := ⟨("_law_drawn", none), "_law_drawn", "_law_drawn", defArgs s_l_drawn, defBody s_l_drawn, defScope s_l_drawn, [], []⟩
def d_l_whole : He.DefD := ⟨("_law_whole", none), "_law_whole", "_law_whole", defArgs s_l_whole, defBody s_l_whole, defScope s_l_whole, [], []⟩
def d_l_are_signs : He.DefD := ⟨("_law_are_signs", none), "_law_are_signs", "_law_are_signs", defArgs s_l_are_signs, defBody s_l_are_signs, defScope s_l_are_signs, [], []⟩
def d_l_laid : He.DefD := ⟨("_law_laid", none), "_law_laid", "_law_laid", defArgs s_l_laid, defBody s_l_laid, defScope s_l_laid, [], []⟩
def d_l_back : He.DefD := ⟨("_law_back", none), "_law_back", "_law_back", defArgs s_l_back, defBody s_l_back, defScope s_l_back, [], []⟩
def d_l_is_seal : He.DefD := ⟨("_law_is_seal", none), "_law_is_seal", "_law_is_seal", defArgs s_l_is_seal, defBody s_l_is_seal, defScope s_l_is_seal, [], []⟩
def d_l_sound : He.DefD := ⟨("_law_sound", none), "_law_sound", "_law_sound", defArgs s_l_sound, defBody s_l_sound, defScope s_l_sound, [], []⟩
def d_l_due : He.DefD := ⟨("_law_due", none), "_law_due", "_law_due", defArgs s_l_due, defBody s_l_due, defScope s_l_due, [], []⟩
def d_l_alike : He.DefD := ⟨("_law_alike", none), "_law_alike", "_law_alike", defArgs s_l_alike, defBody s_l_alike, defScope s_l_alike, [], []⟩
def d_is_sign : He.DefD := ⟨("is_sign", none), "is_sign", "is_sign", defArgs s_is_sign, defBody s_is_sign, defScope s_is_sign, [], []⟩
def d_are_signs : He.DefD := ⟨("are_signs", none), "are_signs", "are_signs", defArgs s_are_signs, defBody s_are_signs, defScope s_are_signs, [], []⟩
def d_seal_of : He.DefD := ⟨("seal_of", none), "seal_of", "seal_of", defArgs s_seal_of, defBody s_seal_of, defScope s_seal_of, [], []⟩
def d_Shelf_free : He.DefD := ⟨("Shelf", some "free"), "free", "Shelf.free", defArgs s_Shelf_free, defBody s_Shelf_free, defScope s_Shelf_free, [], []⟩
def d_Shelf_lay : He.DefD := ⟨("Shelf", some "lay"), "lay", "Shelf.lay", defArgs s_Shelf_lay, defBody s_Shelf_lay, defScope s_Shelf_lay, [], []⟩
def d_is_seal : He.DefD := ⟨("is_seal", none), "is_seal", "is_seal", defArgs s_is_seal, defBody s_is_seal, defScope s_is_seal, [], []⟩
def d_Shelf_need_kept : He.DefD := ⟨("Shelf", some "need_kept"), "need_kept", "Shelf.need_kept", defArgs s_Shelf_need_kept, defBody s_Shelf_need_kept, defScope s_Shelf_need_kept, [], []⟩
def d_Shelf_hold : He.DefD := ⟨("Shelf", some "hold"), "hold", "Shelf.hold", defArgs s_Shelf_hold, defBody s_Shelf_hold, defScope s_Shelf_hold, [], []⟩
def d_Shelf_let_go : He.DefD := ⟨("Shelf", some "let_go"), "let_go", "Shelf.let_go", defArgs s_Shelf_let_go, defBody s_Shelf_let_go, defScope s_Shelf_let_go, [], []⟩
def d_Shelf_harm : He.DefD := ⟨("Shelf", some "harm"), "harm", "Shelf.harm", defArgs s_Shelf_harm, defBody s_Shelf_harm, defScope s_Shelf_harm, [], []⟩
def d_Shelf_lose : He.DefD := ⟨("Shelf", some "lose"), "lose", "Shelf.lose", defArgs s_Shelf_lose, defBody s_Shelf_lose, defScope s_Shelf_lose, [], []⟩
def d_Shelf_heal : He.DefD := ⟨("Shelf", some "heal"), "heal", "Shelf.heal", defArgs s_Shelf_heal, defBody s_Shelf_heal, defScope s_Shelf_heal, [], []⟩
def d_Shelf_held : He.DefD := ⟨("Shelf", some "held"), "held", "Shelf.held", defArgs s_Shelf_held, defBody s_Shelf_held, defScope s_Shelf_held, [], []⟩
def d_Shelf_has_sound : He.DefD := ⟨("Shelf", some "has_sound"), "has_sound", "Shelf.has_sound", defArgs s_Shelf_has_sound, defBody s_Shelf_has_sound, defScope s_Shelf_has_sound, [], []⟩
def d_Shelf_is_sound : He.DefD := ⟨("Shelf", some "is_sound"), "is_sound", "Shelf.is_sound", defArgs s_Shelf_is_sound, defBody s_Shelf_is_sound, defScope s_Shelf_is_sound, [], []⟩
def d_Shelf_read : He.DefD := ⟨("Shelf", some "read"), "read", "Shelf.read", defArgs s_Shelf_read, defBody s_Shelf_read, defScope s_Shelf_read, [], []⟩
def d_l_deed : He.DefD := ⟨("_law_deed", none), "_law_deed", "_law_deed", defArgs s_l_deed, defBody s_l_deed, defScope s_l_deed, [], []⟩
def d_l_refusal : He.DefD := ⟨("_law_refusal", none), "_law_refusal", "_law_refusal", defArgs s_l_refusal, defBody s_l_refusal, defScope s_l_refusal, [], []⟩
def d_l_said : He.DefD := ⟨("_law_said", none), "_law_said", "_law_said", defArgs s_l_said, defBody s_l_said, defScope s_l_said, [], []⟩
def d_l_state_due : He.DefD := ⟨("_law_state_due", none), "_law_state_due", "_law_state_due", defArgs s_l_state_due, defBody s_l_state_due, defScope s_l_state_due, [], []⟩
def d_Shelf_seals : He.DefD := ⟨("Shelf", some "seals"), "seals", "Shelf.seals", defArgs s_Shelf_seals, defBody s_Shelf_seals, defScope s_Shelf_seals, [], []⟩
def d_Shelf_broken : He.DefD := ⟨("Shelf", some "broken"), "broken", "Shelf.broken", defArgs s_Shelf_broken, defBody s_Shelf_broken, defScope s_Shelf_broken, [], []⟩
def d_Shelf___len__ : He.DefD := ⟨("Shelf", some "__len__"), "__len__", "Shelf.__len__", defArgs s_Shelf___len__, defBody s_Shelf___len__, defScope s_Shelf___len__, [], []⟩
def d_l_state : He.DefD := ⟨("_law_state", none), "_law_state", "_law_state", defArgs s_l_state, defBody s_l_state, defScope s_l_state, [], []⟩
def d_l_as_due : He.DefD := ⟨("_law_as_due", none), "_law_as_due", "_law_as_due", defArgs s_l_as_due, defBody s_l_as_due, defScope s_l_as_due, [], []⟩
def d_law : He.DefD := ⟨("law", none), "law", "law", defArgs s_law, defBody s_law, defScope s_law, [], []⟩
def d_Wrong___init__ : He.DefD := ⟨("Wrong", some "__init__"), "__init__", "Wrong.__init__", defArgs s_Wrong___init__, defBody s_Wrong___init__, defScope s_Wrong___init__, [], []⟩
def d_NoRoom___init__ : He.DefD := ⟨("NoRoom", some "__init__"), "__init__", "NoRoom.__init__", defArgs s_NoRoom___init__, defBody s_NoRoom___init__, defScope s_NoRoom___init__, [], []⟩
def d_NoPiece___init__ : He.DefD := ⟨("NoPiece", some "__init__"), "__init__", "NoPiece.__init__", defArgs s_NoPiece___init__, defBody s_NoPiece___init__, defScope s_NoPiece___init__, [], []⟩
def d_Unlike___init__ : He.DefD := ⟨("Unlike", some "__init__"), "__init__", "Unlike.__init__", defArgs s_Unlike___init__, defBody s_Unlike___init__, defScope s_Unlike___init__, [], []⟩
def d_Broken___init__ : He.DefD := ⟨("Broken", some "__init__"), "__init__", "Broken.__init__", defArgs s_Broken___init__, defBody s_Broken___init__, defScope s_Broken___init__, [], []⟩
def fn0 : List He.DefD := ([d_l_bag, d_l_take, d_l_signs, d_l_pool, d_is_whole, d_is_room, d_Shelf___init__, d_Shelf_copied, d_l_copy, d_l_sum, d_l_drawn, d_l_whole, d_l_are_signs, d_l_laid, d_l_back, d_l_is_seal, d_l_sound, d_l_due, d_l_alike, d_is_sign, d_are_signs, d_seal_of, d_Shelf_free, d_Shelf_lay, d_is_seal] : List He.DefD)
def fa0 : List (Fr -> Bool) := ([(λ K => (He.Fa.int "MOST_ROOM" 400).ok K), (λ K => (He.Fa.int "MOST_SIGN" 999).ok K), (λ K => (He.Fa.int "MOST_PIECE" 16).ok K), (λ K => (He.Fa.int "BASE" 1001).ok K), (λ K => (He.Fa.glo "_law_bag").ok K), (λ K => (He.Fa.glo "_law_take").ok K), (λ K => (He.Fa.glo "_law_signs").ok K), (λ K => (He.Fa.glo "_law_pool").ok K), (λ K => (He.Fa.glo "is_whole").ok K), (λ K => (He.Fa.glo "is_room").ok K), (λ K => (He.Fa.glo "_law_copy").ok K), (λ K => (He.Fa.glo "_law_sum").ok K), (λ K => (He.Fa.glo "_law_drawn").ok K), (λ K => (He.Fa.glo "_law_whole").ok K), (λ K => (He.Fa.glo "_law_are_signs").ok K), (λ K => (He.Fa.glo "_law_laid").ok K), (λ K => (He.Fa.glo "_law_back").ok K), (λ K => (He.Fa.glo "_law_is_seal").ok K), (λ K => (He.Fa.glo "_law_sound").ok K), (λ K => (He.Fa.glo "_law_due").ok K), (λ K => (He.Fa.glo "_law_alike").ok K), (λ K => (He.Fa.glo "is_sign").ok K), (λ K => (He.Fa.glo "are_signs").ok K), (λ K => (He.Fa.glo "seal_of").ok K), (λ K => (He.Fa.glo "is_seal").ok K), (λ K => (He.Fa.glo "_law_deed").ok K), (λ K => (He.Fa.glo "_law_refusal").ok K), (λ K => (He.Fa.glo "_law_said").ok K), (λ K => (He.Fa.glo "_law_state_due").ok K), (λ K => (He.Fa.glo "_law_state").ok K)] : List (Fr -> Bool)) ++ ([(λ K => (He.Fa.glo "_law_as_due").ok K), (λ K => (He.Fa.glo "law").ok K), (λ K => (He.Fa.glo "Wrong").ok K), (λ K => (He.Fa.glo "Shelf").ok K), (λ K => (He.Fa.glo "NoRoom").ok K), (λ K => (He.Fa.glo "NoPiece").ok K), (λ K => (He.Fa.glo "Unlike").ok K), (λ K => (He.Fa.glo "Broken").ok K), (λ K => (He.Fa.glo "StoreError").ok K), (λ K => (He.Fa.glo "Missing").ok K), (λ K => (He.Fa.glo "Halted").ok K), (λ K => (He.Fa.cls "Shelf").ok K), (λ K => (He.Fa.mkr "Shelf").ok K), (λ K => (He.Fa.noat "Shelf" "room").ok K), (λ K => (He.Fa.noat "Shelf" "counts").ok K), (λ K => (He.Fa.noat "Shelf" "bodies").ok K), (λ K => (He.Fa.meth "Shelf" "copied").ok K), (λ K => (He.Fa.meth "Shelf" "free").ok K), (λ K => (He.Fa.meth "Shelf" "lay").ok K), (λ K => (He.Fa.meth "Shelf" "need_kept").ok K), (λ K => (He.Fa.meth "Shelf" "hold").ok K), (λ K => (He.Fa.meth "Shelf" "let_go").ok K), (λ K => (He.Fa.meth "Shelf" "harm").ok K), (λ K => (He.Fa.meth "Shelf" "lose").ok K), (λ K => (He.Fa.meth "Shelf" "heal").ok K), (λ K => (He.Fa.meth "Shelf" "held").ok K), (λ K => (He.Fa.meth "Shelf" "has_sound").ok K), (λ K => (He.Fa.meth "Shelf" "is_sound").ok K), (λ K => (He.Fa.meth "Shelf" "read").ok K), (λ K => (He.Fa.meth "Shelf" "seals").ok K)] : List (Fr -> Bool)) ++ ([(λ K => (He.Fa.meth "Shelf" "broken").ok K), (λ K => (He.Fa.meth "Shelf" "__len__").ok K), (λ K => chB K "Wrong" (tlB "ValueError") "ValueError.__new__"), (λ K => chF K "Wrong"), (λ K => chC K "Wrong"), (λ K => chN K "Wrong" "at"), (λ K => chI K "StoreError" "ValueError.__init__"), (λ K => chM K "Wrong" "StoreError" true), (λ K => chM K "Wrong" "Missing" false)] : List (Fr -> Bool))
def fn1 : List He.DefD := ([d_Shelf_need_kept, d_Shelf_hold, d_Shelf_let_go, d_Shelf_harm, d_Shelf_lose, d_Shelf_heal, d_Shelf_held, d_Shelf_has_sound, d_Shelf_is_sound, d_Shelf_read, d_l_deed, d_l_refusal, d_l_said, d_l_state_due, d_Shelf_seals, d_Shelf_broken, d_Shelf___len__, d_l_state, d_l_as_due, d_law, d_Wrong___init__, d_NoRoom___init__, d_NoPiece___init__, d_Unlike___init__, d_Broken___init__] : List He.DefD)
def fa1 : List (Fr -> Bool) := ([(λ K => chM K "Wrong" "Halted" false), (λ K => chK K "Wrong" "Wrong" true), (λ K => chK K "Wrong" "NoRoom" false), (λ K => chK K "Wrong" "NoPiece" false), (λ K => chK K "Wrong" "Unlike" false), (λ K => chK K "Wrong" "Broken" false), (λ K => chB K "NoRoom" (tlB "RuntimeError") "RuntimeError.__new__"), (λ K => chF K "NoRoom"), (λ K => chC K "NoRoom"), (λ K => chN K "NoRoom" "room"), (λ K => chI K "Halted" "RuntimeError.__init__"), (λ K => chM K "NoRoom" "StoreError" false), (λ K => chM K "NoRoom" "Missing" false), (λ K => chM K "NoRoom" "Halted" true), (λ K => chK K "NoRoom" "Wrong" false), (λ K => chK K "NoRoom" "NoRoom" true), (λ K => chK K "NoRoom" "NoPiece" false), (λ K => chK K "NoRoom" "Unlike" false), (λ K => chK K "NoRoom" "Broken" false), (λ K => chB K "NoPiece" (tlB "LookupError") "LookupError.__new__"), (λ K => chF K "NoPiece"), (λ K => chC K "NoPiece"), (λ K => chN K "NoPiece" "seal"), (λ K => chI K "Missing" "LookupError.__init__"), (λ K => chM K "NoPiece" "StoreError" false), (λ K => chM K "NoPiece" "Missing" true), (λ K => chM K "NoPiece" "Halted" false), (λ K => chK K "NoPiece" "Wrong" false), (λ K => chK K "NoPiece" "NoRoom" false), (λ K => chK K "NoPiece" "NoPiece" true)] : List (Fr -> Bool)) ++ ([(λ K => chK K "NoPiece" "Unlike" false), (λ K => chK K "NoPiece" "Broken" false), (λ K => chB K "Unlike" (tlB "ValueError") "ValueError.__new__"), (λ K => chF K "Unlike"), (λ K => chC K "Unlike"), (λ K => chN K "Unlike" "seal"), (λ K => chM K "Unlike" "StoreError" true), (λ K => chM K "Unlike" "Missing" false), (λ K => chM K "Unlike" "Halted" false), (λ K => chK K "Unlike" "Wrong" false), (λ K => chK K "Unlike" "NoRoom" false), (λ K => chK K "Unlike" "NoPiece" false), (λ K => chK K "Unlike" "Unlike" true), (λ K => chK K "Unlike" "Broken" false), (λ K => chB K "Broken" (tlB "RuntimeError") "RuntimeError.__new__"), (λ K => chF K "Broken"), (λ K => chC K "Broken"), (λ K => chN K "Broken" "seal"), (λ K => chM K "Broken" "StoreError" false), (λ K => chM K "Broken" "Missing" false), (λ K => chM K "Broken" "Halted" true), (λ K => chK K "Broken" "Wrong" false), (λ K => chK K "Broken" "NoRoom" false), (λ K => chK K "Broken" "NoPiece" false), (λ K => chK K "Broken" "Unlike" false), (λ K => chK K "Broken" "Broken" true), (λ K => (He.Fa.free "abs").ok K), (λ K => (He.Fa.free "len").ok K), (λ K => (He.Fa.free "range").ok K), (λ K => (He.Fa.free "list").ok K)] : List (Fr -> Bool)) ++ ([(λ K => (He.Fa.free "isinstance").ok K), (λ K => (He.Fa.free "int").ok K), (λ K => (He.Fa.free "bool").ok K), (λ K => (He.Fa.free "dict").ok K), (λ K => (He.Fa.free "tuple").ok K), (λ K => (He.Fa.free "repr").ok K), (λ K => (He.Fa.free "reversed").ok K), (λ K => (He.Fa.free "sorted").ok K)] : List (Fr -> Bool))
def fn : List He.DefD := fn0 ++ (fn1)
def fa : List (Fr -> Bool) := fa0 ++ (fa1)
def names : List Str := (["StoreError", "Missing", "Halted", "Wrong", "Unlike", "NoPiece", "NoRoom", "Broken", "MOST_SIGN", "BASE", "MOST_PIECE", "is_whole", "is_sign", "are_signs", "is_seal", "seal_of", "MOST_ROOM", "is_room", "Shelf", "_law_bag", "_law_take", "_law_alike", "_law_copy", "_law_whole", "_law_are_signs", "_law_sum", "_law_back", "_law_is_seal", "_law_signs", "_law_pool"] : List Str) ++ (["_law_deed", "_law_refusal", "_law_said", "_law_sound", "_law_laid", "_law_due", "_law_state", "_law_state_due", "_law_drawn", "_law_as_due"] : List Str)
abbrev R : PySem.W.OpenRow := PySem.W.OpenLaw.row PySem.Challenge.rw_restorechain_k27_copied_and_shared
abbrev hk : PySem.W.Hook := hookB 5 fa fn
def ob (s : PySem.W.SharedT) : He.AlD := obsB 5 fa fn (HandSHeadRun.getT s)
theorem ob_eq (s : PySem.W.SharedT) : ob s = hk.obs s.abs := obsB_eq (HandSHeadRun.getT_eq s)
section
open PySem.W PySem.Calls HandSHeadRun
theorem runL (w : World) (os : OsState) : (endF (stepQ (denQ tabQ) R.prog w) 4000 R.prog w os).map (λ s => (looksF R.prog (boot_heap w.params) s.abs, seenQ (view R.prog [45]) names (importedModules R.prog.main.body) (λ s => xlAt (view R.prog [45]) [] s && recOk R.toRowW.records s) s.abs)) = some (true, openGood (view R.prog [45]) names) := by kernel_rfl
theorem runO0 (w : World) (os : OsState) : (endF (stepQ (denQ tabQ) R.prog w) 4000 R.prog w os).map (λ s => obsB 5 fa0 fn0 (getT s)) = some (He.valD fn0) := by kernel_rfl
theorem runO1 (w : World) (os : OsState) : (endF (stepQ (denQ tabQ) R.prog w) 4000 R.prog w os).map (λ s => obsB 5 fa1 fn1 (getT s)) = some (He.valD fn1) := by kernel_rfl
theorem runO (w : World) (os : OsState) : (endF (stepQ (denQ tabQ) R.prog w) 4000 R.prog w os).map (λ s => ob s) = some (hk.val w) := mpA (runO0 w os) (runO1 w os)
theorem run (w : World) : RunEq R (view R.prog [45]) hk ob 4000 names w := runEq (runL w) (runO w)
end
end RC
namespace RC
open PySem PySem.Spec PyProof.Rows L2
section
variable {K : Fr} {σ : L2.St} {H : Hp} {Q : VK} {D : Ends} {Rs : List Res} {E : XK} {W : WX} {sp : Sp} {dvs : List V} {t : TA} {ta te tb tc : TE} {C a : Addr} {m f : Str} {v : V}
theorem g_callW (k : t σ H λ vs H1 => sp (vs ++ dvs) H1 Q (WE W σ)) : tCallW W sp dvs t σ H Q := k
def MethK (W : WX) (C : Addr) (m : Str) (sp : Sp) (dvs : List V) (t : TA) (σ : L2.St) (Q : VK) : VK := λ x H1 => ∃ a dx fs, x = .ref a /\ H1 a = some (.ins C dx fs) /\ fs.lookup m = none /\ t σ H1 λ vs H2 => sp (x :: (vs ++ dvs)) H2 Q (WE W σ)
theorem g_meth (k : ta σ H (MethK W C m sp dvs t σ Q)) : tMethW W C m sp dvs ta t σ H Q := k
theorem v_meth {dx : Addr} {fs : List (Str × V)} (h : H a = some (.ins C dx fs)) (l : fs.lookup m = none) (k : t σ H λ vs H2 => sp (.ref a :: (vs ++ dvs)) H2 Q (WE W σ)) : MethK W C m sp dvs t σ Q (.ref a) H := ⟨a, dx, fs, rfl, h, l, k⟩
def MakeK (W : WX) (C : Addr) (sp : Sp) (dvs : List V) (σ : L2.St) (Q : VK) : List V -> Hp -> Prop := λ vs H1 => ∀ x dx, H1 x = none -> H1 dx = none -> dx ≠ x -> sp (.ref x :: (vs ++ dvs)) (upd (upd H1 dx (.own x)) x (.ins C dx [])) (λ v H2 => v = .non /\ Q (.ref x) H2) (WE W σ)
theorem g_make (k : t σ H (MakeK W C sp dvs σ Q)) : tMakeW W C sp dvs t σ H Q := k
theorem v_make {vs : List V} (S : M Rs H) (k : ∀ x dx H', M (pt x (.ins C dx []) :: pt dx (.own x) :: Rs) H' -> sp (.ref x :: (vs ++ dvs)) H' (λ v H2 => v = .non /\ Q (.ref x) H2) (WE W σ)) : MakeK W C sp dvs σ Q vs H := by
 intro x dx hx hdx hne
 exact k x dx _ ((S.new hdx).new (by rw [upd_ne (λ z => hne z.symm)]; exact hx))
def FldK (K : Fr) (f : Str) (Q : VK) : VK := λ x H1 => ∃ a C dx fs v, x = .ref a /\ H1 a = some (.ins C dx fs) /\ Cls K C /\ NoAttr K C f /\ fs.lookup f = some v /\ Q v H1
theorem g_fld (k : ta σ H (FldK K f Q)) : tFld K ta f σ H Q := k
theorem v_fld {dx : Addr} {fs : List (Str × V)} (h : H a = some (.ins C dx fs)) (c : Cls K C) (n : NoAttr K C f) (l : fs.lookup f = some v) (k : Q v H) : FldK K f Q (.ref a) H := ⟨a, C, dx, fs, v, rfl, h, c, n, l, k⟩
def SFldK (K : Fr) (f : Str) (y : V) (σ : L2.St) (D : Ends) : VK := λ x H2 => ∃ a C dx fs, x = .ref a /\ H2 a = some (.ins C dx fs) /\ Cls K C /\ NoAttr K C f /\ fs.length < 1000 /\ D.nx σ (upd H2 a (.ins C dx (putF f y fs)))
theorem g_sfld (k : te σ H λ y H1 => ta σ H1 (SFldK K f y σ D)) : sFld K ta te f D σ H := k
theorem v_sfld {dx : Addr} {fs : List (Str × V)} {y : V} (S : M Rs H) (i : Nat) (e : Rs[i]? = some (pt a (.ins C dx fs))) (c : Cls K C) (n : NoAttr K C f) (l : fs.length < 1000) (k : ∀ H', M (Rs.set i (pt a (.ins C dx (putF f y fs)))) H' -> D.nx σ H') : SFldK K f y σ D (.ref a) H :=
 ⟨a, C, dx, fs, rfl, S.got i e, c, n, l, k _ (S.putAt i e)⟩
def RzK (W : WX) (C : Addr) (f : Str) (σ : L2.St) : VK := λ v H1 => ∀ d, H1 d = none -> W (.ref C) (some d) σ (upd H1 d (.xd [(f, v)]))
theorem g_rz (k : te σ H (RzK W C f σ)) : tRz W C f te D σ H := k
theorem v_rz (S : M Rs H) (k : ∀ d H', M (pt d (.xd [(f, v)]) :: Rs) H' -> W (.ref C) (some d) σ H') : RzK W C f σ v H := λ d hd => k d _ (S.new hd)
theorem v_dnew (S : M Rs H) (k : ∀ d H', M (pt d (.dK []) :: Rs) H' -> Q (.ref d) H') : tDNewK σ H Q := λ d hd => k d _ (S.new hd)
def Pop1K (ty : TE) (σ : L2.St) (Q : VK) : VK := λ x H1 => ∃ a, x = .ref a /\ IsD H1 a /\ ty σ H1 λ y H2 => ∃ kvs k v, H2 a = some (.dK kvs) /\ y = kV k /\ valV kvs k = some v /\ Q v (upd H2 a (.dK (dropK kvs k)))
theorem g_dpop (k : ta σ H (Pop1K tb σ Q)) : tDPop1 ta tb σ H Q := k
def PopV (a : Addr) (Q : VK) : VK := λ y H2 => ∃ kvs k v, H2 a = some (.dK kvs) /\ y = kV k /\ valV kvs k = some v /\ Q v (upd H2 a (.dK (dropK kvs k)))
theorem v_dpop {kvs : List (Key × V)} (h : H a = some (.dK kvs)) (k : tb σ H (PopV a Q)) : Pop1K tb σ Q (.ref a) H := ⟨a, rfl, .inl ⟨kvs, .inl h⟩, k⟩
theorem v_ninK {kvs : List (Key × V)} {n : Int} (h : H a = some (.dK kvs)) (k : Q (.bl (!(valV kvs (Sum.inl n)).isSome)) H) : uNotIn K (.int n) (.ref a) H Q := .inr (.inr (.inl ⟨a, _, rfl, DGet.k (k := Sum.inl n) h, k⟩))
theorem v_lenD {kvs : List (Key × V)} (h : H a = some (.dK kvs)) (k : Q (.int (kvs.length : Nat)) H) : uLen K [.ref a] H Q := .inr ⟨a, kvs, rfl, .inl h, k⟩
theorem v_isi {x : V} {ty : Value} {c : String} {b : Bool} (h : TyX K H x ty) (e : PySem.W.kitOne K ty (.type c) = some b) (k : Q (.bl b) H) : rIsi K [x, .ty c] H Q := ⟨x, .ty c, ty, _, b, rfl, .ty c, h, e, k⟩
theorem g_callE {cls : Value} {d : Option Addr} {sp : Addr -> Value -> Option Addr -> Hp -> VK -> Prop} (k : te σ H λ x H1 => x = .ref a /\ sp a cls d H1 Q) : tCallE a cls d sp te σ H Q := k
theorem g_xg {cls : Value} {d : Option Addr} {n : Str} (k : te σ H λ x H1 => x = .ref a /\ ∃ D dd fs v, cls = .ref D /\ ExcC K D /\ PySem.W.findIn K (.ref D) n = some none /\ d = some dd /\ H1 dd = some (.xd fs) /\ fs.lookup n = some v /\ Q v H1) : tXg K a cls d n te σ H Q := k
theorem v_xg {D dd : Addr} {fs : List (Str × V)} {n : Str} (c : ExcC K D) (hn : PySem.W.findIn K (.ref D) n = some none) (h : H dd = some (.xd fs)) (l : fs.lookup n = some v) (k : Q v H) :
   V.ref a = .ref a /\ ∃ D' dd' fs' v', Value.ref D = .ref D' /\ ExcC K D' /\ PySem.W.findIn K (.ref D') n = some none /\ some dd = some dd' /\ H dd' = some (.xd fs') /\ fs'.lookup n = some v' /\ Q v' H := ⟨rfl, D, dd, fs, v, rfl, c, hn, rfl, h, l, k⟩
theorem v_isX {D dd B : Addr} {fs : List (Str × V)} {b : Bool} (c : ExcC K D) (h : H dd = some (.xd fs)) (e : PySem.W.kitOne K (.ref D) (.ref B) = some b) (k : Q (.bl b) H) : uIsX K a (.ref D) (some dd) [.ref a, .ref B] H Q :=
 .inl ⟨.ref B, .ref B, b, rfl, ⟨D, rfl, c, .inr ⟨dd, fs, rfl, h⟩⟩, .own B, e, k⟩
theorem g_try {tb : WX -> TS} {l : List Hd} (k : tb (wTry K W D l) D σ H) : tTry K W tb l D σ H := k
end
theorem sorted_eq : ∀ {xs ys : List Int}, xs.Perm ys -> xs.Pairwise (· <= ·) -> ys.Pairwise (· <= ·) -> xs = ys
 | [], ys, p, _, _ => (List.nil_perm.mp p).symm
 | x :: xs, [], p, _, _ => absurd p.length_eq (by simp)
 | x :: xs, y :: ys, p, h1, h2 => by
   obtain ⟨a1, a2⟩ := List.pairwise_cons.mp h1
   obtain ⟨b1, b2⟩ := List.pairwise_cons.mp h2
   have e : x = y := by
     have m1 : y ∈ x :: xs := p.mem_iff.mpr List.mem_cons_self
     have m2 : x ∈ y :: ys := p.mem_iff.mp List.mem_cons_self
     rcases List.mem_cons.mp m1 with z | z
     · exact z.symm
     · rcases List.mem_cons.mp m2 with w | w
       · exact w
       · have := a1 y z
         have := b1 x w
         omega
   subst e
   rw [sorted_eq (List.Perm.cons_inv p) a2 b2]
def srt (ks : List Int) : List Int := ks.mergeSort (λ a b => decide (a <= b))
theorem srt_perm (ks : List Int) : (srt ks).Perm ks := List.mergeSort_perm _ _
theorem srt_sorted (ks : List Int) : (srt ks).Pairwise (· <= ·) := by
 have h := List.pairwise_mergeSort (le := λ a b : Int => decide (a <= b)) (by intro a b c h1 h2; simp at *; omega) (by intro a b; simp; omega) ks
 exact h.imp λ z => by simpa using z
theorem srt_eq {xs ks : List Int} (p : xs.Perm ks) (h : xs.Pairwise (· <= ·)) : xs = srt ks := sorted_eq (p.trans (srt_perm ks).symm) h (srt_sorted ks)
theorem Ent.tl {Rs : List Res} {R : Res} {φ : Hp -> Prop} (h : Ent Rs φ) : Ent (R :: Rs) φ := λ H S => h H S.tl
theorem Ent.imp {Rs : List Res} {φ ψ : Hp -> Prop} (h : Ent Rs φ) (i : ∀ H, φ H -> ψ H) : Ent Rs ψ := λ H S => i H (h H S)
end RC

namespace RC
open PySem PySem.Spec PyProof.Rows L2
def rIntB : List V -> Hp -> VK -> Prop := λ xs H Q => ∃ b : Bool, xs = [.bl b] /\ Q (.int (if b then 1 else 0)) H
theorem cr_intB {X : Cx} : CallR X (.type "int") rIntB := by
 intro pins s σ H xs us Q I rs h
 obtain ⟨b, rfl, h⟩ := h
 cases rs with
 | cons r1 rs =>
   cases rs
   cases r1
   exact call_int_1 (meets_int_new_bool b) (show (Made.int _).post _ s from ⟨rfl, ⟨.int _, H, I.tok _, ⟨_, rfl⟩, h⟩⟩)
theorem v_intB {b : Bool} {H : Hp} {Q : VK} (k : Q (.int (if b then 1 else 0)) H) : rIntB [.bl b] H Q := ⟨b, rfl, k⟩
end RC

namespace RC
open PySem PySem.Spec PyProof.Rows L2
def kD : Key -> PyData
 | .inl i => .int i
 | .inr x => .str x
mutual
inductive Dq (K : Fr) (H : Hp) : V -> PyData -> Prop
 | non : Dq K H .non .none
 | bl (b : Bool) : Dq K H (.bl b) (.bool b)
 | int (i : Int) : Dq K H (.int i) (.int i)
 | str (x : Str) : Dq K H (.str x) (.str x)
 | lst {a : Addr} {vs : List V} {ds : List PyData} (h : SqL K H a vs) (q : DqAll K H vs ds) : Dq K H (.ref a) (.list ds)
 | tup {a : Addr} {vs : List V} {ds : List PyData} (h : SqT K H a vs) (q : DqAll K H vs ds) : Dq K H (.ref a) (.tuple ds)
 | dct {a : Addr} {od : Obj} {kvs : List (Key × V)} {ds : List (PyData × PyData)} (h : H a = some (.frz od (.dK kvs))) (q : DqKv K H kvs ds) : Dq K H (.ref a) (.dict ds)
inductive DqAll (K : Fr) (H : Hp) : List V -> List PyData -> Prop
 | nil : DqAll K H [] []
 | cons {v : V} {vs : List V} {d : PyData} {ds : List PyData} (h : Dq K H v d) (r : DqAll K H vs ds) : DqAll K H (v :: vs) (d :: ds)
inductive DqKv (K : Fr) (H : Hp) : List (Key × V) -> List (PyData × PyData) -> Prop
 | nil : DqKv K H [] []
 | cons {k : Key} {v : V} {vs : List (Key × V)} {d : PyData} {ds : List (PyData × PyData)} (h : Dq K H v d) (r : DqKv K H vs ds) : DqKv K H ((k, v) :: vs) ((kD k, d) :: ds)
end
mutual
theorem Dq_ext {K : Fr} {H H' : Hp} (e : Ext H H') : ∀ {v : V} {d : PyData}, Dq K H v d -> Dq K H' v d
 | _, _, .non => .non
 | _, _, .bl b => .bl b
 | _, _, .int i => .int i
 | _, _, .str x => .str x
 | _, _, .lst h q => .lst (e.sqL h) (DqAll_ext e q)
 | _, _, .tup h q => .tup (e.sqT h) (DqAll_ext e q)
 | _, _, .dct h q => .dct (e _ _ h) (DqKv_ext e q)
theorem DqAll_ext {K : Fr} {H H' : Hp} (e : Ext H H') : ∀ {vs : List V} {ds : List PyData}, DqAll K H vs ds -> DqAll K H' vs ds
 | _, _, .nil => .nil
 | _, _, .cons h r => .cons (Dq_ext e h) (DqAll_ext e r)
theorem DqKv_ext {K : Fr} {H H' : Hp} (e : Ext H H') : ∀ {vs : List (Key × V)} {ds : List (PyData × PyData)}, DqKv K H vs ds -> DqKv K H' vs ds
 | _, _, .nil => .nil
 | _, _, .cons h r => .cons (Dq_ext e h) (DqKv_ext e r)
end
mutual
theorem Dq.dp {K : Fr} {H : Hp} : ∀ {v : V} {d : PyData}, Dq K H v d -> d.hasDict = false -> Dp K H v d
 | _, _, .non, _ => .non
 | _, _, .bl b, _ => .bl b
 | _, _, .int i, _ => .int i
 | _, _, .str x, _ => .str x
 | _, _, .lst h q, n => .lst h (DqAll.dp q (by simpa only [PyData.hasDict] using n))
 | _, _, .tup h q, n => .tup h (DqAll.dp q (by simpa only [PyData.hasDict] using n))
 | _, _, .dct h q, n => by simp [PyData.hasDict] at n
theorem DqAll.dp {K : Fr} {H : Hp} : ∀ {vs : List V} {ds : List PyData}, DqAll K H vs ds -> PyData.hasDictAll ds = false -> DpAll K H vs ds
 | _, _, .nil, _ => .nil
 | _, _, .cons h r, n => by
   simp only [PyData.hasDictAll, Bool.or_eq_false_iff] at n
   exact .cons (Dq.dp h n.1) (DqAll.dp r n.2)
end
mutual
theorem Dp.dq {K : Fr} {H : Hp} : ∀ {v : V} {d : PyData}, Dp K H v d -> Dq K H v d
 | _, _, .non => .non
 | _, _, .bl b => .bl b
 | _, _, .int i => .int i
 | _, _, .str x => .str x
 | _, _, .lst h q => .lst h (DpAll.dq q)
 | _, _, .tup h q => .tup h (DpAll.dq q)
theorem DpAll.dq {K : Fr} {H : Hp} : ∀ {vs : List V} {ds : List PyData}, DpAll K H vs ds -> DqAll K H vs ds
 | _, _, .nil => .nil
 | _, _, .cons h r => .cons (Dp.dq h) (DpAll.dq r)
end
mutual
inductive Dn (K : Fr) (H : Hp) : V -> PyData -> Prop
 | non : Dn K H .non .none
 | bl (b : Bool) : Dn K H (.bl b) (.bool b)
 | int (i : Int) : Dn K H (.int i) (.int i)
 | str (x : Str) : Dn K H (.str x) (.str x)
 | lst {a : Addr} {vs : List V} {ds : List PyData} (h : SqL K H a vs) (q : DnAll K H vs ds) : Dn K H (.ref a) (.list ds)
 | tup {a : Addr} {vs : List V} {ds : List PyData} (h : SqT K H a vs) (q : DnAll K H vs ds) : Dn K H (.ref a) (.tuple ds)
 | dct {a : Addr} {kvs : List (Key × V)} {ds : List (PyData × PyData)} (h : Rd H a (.dK kvs)) (q : DnKv K H kvs ds) : Dn K H (.ref a) (.dict ds)
inductive DnAll (K : Fr) (H : Hp) : List V -> List PyData -> Prop
 | nil : DnAll K H [] []
 | cons {v : V} {vs : List V} {d : PyData} {ds : List PyData} (h : Dn K H v d) (r : DnAll K H vs ds) : DnAll K H (v :: vs) (d :: ds)
inductive DnKv (K : Fr) (H : Hp) : List (Key × V) -> List (PyData × PyData) -> Prop
 | nil : DnKv K H [] []
 | cons {k : Key} {v : V} {vs : List (Key × V)} {d : PyData} {ds : List (PyData × PyData)} (h : Dn K H v d) (r : DnKv K H vs ds) : DnKv K H ((k, v) :: vs) ((kD k, d) :: ds)
end
mutual
theorem Dq.dn {K : Fr} {H : Hp} : ∀ {v : V} {d : PyData}, Dq K H v d -> Dn K H v d
 | _, _, .non => .non
 | _, _, .bl b => .bl b
 | _, _, .int i => .int i
 | _, _, .str x => .str x
 | _, _, .lst h q => .lst h (DqAll.dn q)
 | _, _, .tup h q => .tup h (DqAll.dn q)
 | _, _, .dct h q => .dct (.inr ⟨_, h⟩) (DqKv.dn q)
theorem DqAll.dn {K : Fr} {H : Hp} : ∀ {vs : List V} {ds : List PyData}, DqAll K H vs ds -> DnAll K H vs ds
 | _, _, .nil => .nil
 | _, _, .cons h r => .cons (Dq.dn h) (DqAll.dn r)
theorem DqKv.dn {K : Fr} {H : Hp} : ∀ {vs : List (Key × V)} {ds : List (PyData × PyData)}, DqKv K H vs ds -> DnKv K H vs ds
 | _, _, .nil => .nil
 | _, _, .cons h r => .cons (Dq.dn h) (DqKv.dn r)
end
mutual
theorem Dn.dp {K : Fr} {H : Hp} : ∀ {v : V} {d : PyData}, Dn K H v d -> d.hasDict = false -> Dp K H v d
 | _, _, .non, _ => .non
 | _, _, .bl b, _ => .bl b
 | _, _, .int i, _ => .int i
 | _, _, .str x, _ => .str x
 | _, _, .lst h q, n => .lst h (DnAll.dp q (by simpa only [PyData.hasDict] using n))
 | _, _, .tup h q, n => .tup h (DnAll.dp q (by simpa only [PyData.hasDict] using n))
 | _, _, .dct h q, n => by simp [PyData.hasDict] at n
theorem DnAll.dp {K : Fr} {H : Hp} : ∀ {vs : List V} {ds : List PyData}, DnAll K H vs ds -> PyData.hasDictAll ds = false -> DpAll K H vs ds
 | _, _, .nil, _ => .nil
 | _, _, .cons h r, n => by
   simp only [PyData.hasDictAll, Bool.or_eq_false_iff] at n
   exact .cons (Dn.dp h n.1) (DnAll.dp r n.2)
end
abbrev eI : Int -> PyData := PyData.int
abbrev eB : Bool -> PyData := PyData.bool
abbrev eS : Str -> PyData := PyData.str
abbrev eN : Unit -> PyData := λ _ => PyData.none
abbrev eA : PyData -> PyData := id
def eL {α : Type} (e : α -> PyData) (xs : List α) : PyData := .list (xs.map e)
def eV {α : Type} (e : α -> PyData) (xs : List α) : PyData := .tuple (xs.map e)
def eP {α β : Type} (e : α -> PyData) (f : β -> PyData) (x : α × β) : PyData := .tuple [e x.1, f x.2]
def eT3 {α β γ : Type} (e : α -> PyData) (f : β -> PyData) (g : γ -> PyData) (x : α × β × γ) : PyData := .tuple [e x.1, f x.2.1, g x.2.2]
def eO {α : Type} (e : α -> PyData) : Option α -> PyData
 | none => .none
 | some x => e x
abbrev iI : Int -> Key := Sum.inl
abbrev iS : Str -> Key := Sum.inr
def eD {κ α : Type} (ik : κ -> Key) (e : α -> PyData) (m : List (κ × α)) : PyData := .dict (m.map λ p => (kD (ik p.1), e p.2))
def da (K : Fr) (v : V) (d : PyData) : Res := ⟨λ F l => l = [] /\ Dq K F v d, λ _ _ _ e h => ⟨h.1, Dq_ext e h.2⟩⟩
def daA (K : Fr) (vs : List V) (ds : List PyData) : Res := ⟨λ F l => l = [] /\ DqAll K F vs ds, λ _ _ _ e h => ⟨h.1, DqAll_ext e h.2⟩⟩
def EnF (Rs : List Res) (φ : Hp -> Prop) : Prop := ∀ F L, Sat F Rs L -> φ F
theorem Sat.get {F : Hp} : ∀ {Rs : List Res} {L : List Cell} (i : Nat) {R : Res}, Sat F Rs L -> Rs[i]? = some R -> ∃ l, R.on F l
 | [], L, i, R, _, e => by simp at e
 | S :: Rs, L, 0, R, ⟨l1, l2, _, a, _⟩, e => by
   have e : S = R := Option.some.inj e
   subst e
   exact ⟨l1, a⟩
 | S :: Rs, L, i + 1, R, ⟨l1, l2, _, _, b⟩, e => Sat.get i b (by simpa using e)
section
variable {K : Fr} {Rs R0 : List Res} {H : Hp} {v : V} {d : PyData} {vs : List V} {ds : List PyData} {φ ψ : Hp -> Prop}
theorem M.gotA (S : M Rs H) (i : Nat) (e : Rs[i]? = some (da K v d)) : Dq K H v d := by
 obtain ⟨F, L, s, m⟩ := S
 obtain ⟨l, h⟩ := s.get i e
 exact Dq_ext m.ex h.2
theorem EnF.at (i : Nat) (e : Rs[i]? = some (da K v d)) : EnF Rs (λ F => Dq K F v d) := λ F L s => by
 obtain ⟨l, h⟩ := s.get i e
 exact h.2
theorem EnF.all (h : ∀ F, φ F) : EnF Rs φ := λ F _ _ => h F
theorem EnF.imp (h : EnF Rs φ) (k : ∀ F, φ F -> ψ F) : EnF Rs ψ := λ F L s => k F (h F L s)
theorem EnF.tl {R : Res} (h : EnF Rs φ) : EnF (R :: Rs) φ := λ F L ⟨_, l2, _, _, b⟩ => h F l2 b
theorem EnF.nilA : EnF Rs (λ F => DqAll K F [] []) := λ _ _ _ => .nil
theorem EnF.consA (h : EnF Rs (λ F => Dq K F v d)) (r : EnF Rs (λ F => DqAll K F vs ds)) : EnF Rs (λ F => DqAll K F (v :: vs) (d :: ds)) := λ F L s => .cons (h F L s) (r F L s)
theorem M.of (S : M Rs H) (h : EnF Rs φ) (mono : ∀ F, Ext F H -> φ F -> ψ H) : ψ H := by
 obtain ⟨F, L, s, m⟩ := S
 exact mono F m.ex (h F L s)
theorem M.dq (S : M Rs H) (h : EnF Rs (λ F => Dq K F v d)) : Dq K H v d := by
 obtain ⟨F, L, s, m⟩ := S
 exact Dq_ext m.ex (h F L s)
theorem M.addA (S : M Rs H) (h : EnF Rs (λ F => Dq K F v d)) : M (da K v d :: Rs) H := by
 obtain ⟨F, L, s, m⟩ := S
 exact ⟨F, L, ⟨[], L, rfl, ⟨rfl, h F L s⟩, s⟩, m⟩
end
end RC

namespace RC
open PySem PySem.Spec PyProof.Rows L2
def forD {α β : Type} (f : α -> β -> (β -> Prop) -> Prop) : List α -> β -> (β -> Prop) -> Prop
 | [], s, k => k s
 | x :: xs, s, k => f x s λ s' => forD f xs s' k
def lcD {α β : Type} (f : α -> (Option β -> Prop) -> Prop) : List α -> List β -> (List β -> Prop) -> Prop
 | [], acc, k => k acc
 | x :: xs, acc, k => f x λ y => lcD f xs (acc ++ y.toList) k
def jn {β : Type} (m : (β -> Prop) -> Prop) (k : β -> Prop) : Prop := m k
abbrev sno {α : Type} (xs : List α) (x : α) : List α := xs ++ [x]
abbrev cat {α : Type} (xs ys : List α) : List α := xs ++ ys
def takeD (n : Int) (k : Int -> Prop) : Prop := (0 < n /\ n < 2 ^ 62) /\ ∀ v, 0 <= v -> v < n -> k v
def rng (n : Int) : List Int := (List.range n.toNat).map λ i => (0 : Int) + (i : Nat)
def cutL {α : Type} (xs : List α) (lo hi : Option Int) : List α := (xs.drop (HT.sIx xs.length 0 lo)).take (HT.sIx xs.length xs.length hi - HT.sIx xs.length 0 lo)
section
variable {K : Fr} {σ : L2.St} {H : Hp} {Q : VK} {D : Ends} {Rs : List Res} {E : XK} {t u : TS} {α β : Type}
theorem v_iff {b : Bool} {A B X Y : Prop} (hf : if b = true then X else Y) (h1 : b = true -> X -> A) (h2 : b = false -> Y -> B) : if b = true then A else B := by
 cases b with
 | true => exact h1 rfl (by simpa using hf)
 | false => exact h2 rfl (by simpa using hf)
theorem jn_cut {m : (β -> Prop) -> Prop} {KK : β -> Prop} (hf : jn m KK) (Inv : β -> L2.St -> Hp -> Prop)
   (h1 : ∀ (kk : β -> Prop) (N : L2.St -> Hp -> Prop), (∀ s σ H, kk s -> Inv s σ H -> N σ H) -> m kk -> t ⟨N, D.rt, D.bk, D.ct⟩ σ H)
   (h2 : ∀ s σ H, KK s -> Inv s σ H -> u D σ H) : tSeq t u D σ H := h1 KK (u D) h2 hf
theorem M.openQ {v : V} {ds : List PyData} (S : M (da K v (.list ds) :: Rs) H) : ∃ a vs, v = .ref a /\ M (rdL K a vs :: daA K vs ds :: Rs) H := by
 obtain ⟨F, L, ⟨l1, l2, rfl, ⟨rfl, e⟩, b⟩, m⟩ := S
 cases e with
 | lst h1 h2 => exact ⟨_, _, rfl, F, l2, ⟨[], l2, rfl, ⟨rfl, h1⟩, [], l2, rfl, ⟨rfl, h2⟩, b⟩, m⟩
theorem DqAll.len : ∀ {vs : List V} {ds : List PyData}, DqAll K H vs ds -> vs.length = ds.length
 | _, _, .nil => rfl
 | _, _, .cons _ r => by rw [List.length_cons, List.length_cons, DqAll.len r]
theorem DqAll.at : ∀ {vs : List V} {ds : List PyData}, DqAll K H vs ds -> ∀ {i : Nat} {v : V} {d : PyData}, vs[i]? = some v -> ds[i]? = some d -> Dq K H v d
 | _, _, .nil, i, v, d, h, _ => by simp at h
 | _, _, .cons a r, 0, v, d, h, g => by
   cases (Option.some.inj (show some _ = some v from h))
   cases (Option.some.inj (show some _ = some d from g))
   exact a
 | _, _, .cons a r, i + 1, v, d, h, g => DqAll.at r (by simpa using h) (by simpa using g)
theorem M.gotAA {vs : List V} {ds : List PyData} (S : M Rs H) (i : Nat) (e : Rs[i]? = some (daA K vs ds)) : DqAll K H vs ds := by
 obtain ⟨F, L, s, m⟩ := S
 obtain ⟨l, h⟩ := s.get i e
 exact DqAll_ext m.ex h.2
theorem M.elA {e : α -> PyData} {vs : List V} {xs : List α} {i : Nat} {v : V} {x : α} (S : M Rs H) (j : Nat) (hj : Rs[j]? = some (daA K vs (xs.map e))) (hv : vs[i]? = some v) (hx : xs[i]? = some x) : M (da K v (e x) :: Rs) H :=
 S.addA λ F L s => by
   obtain ⟨l, h⟩ := s.get j hj
   exact h.2.at hv (by rw [List.getElem?_map, hx]; rfl)
theorem for_lst {F : α -> β -> (β -> Prop) -> Prop} {e : α -> PyData} {xs : List α} {vs : List V} {s0 : β} {KK : β -> Prop} {a : Addr} {g : TG} {tb : TS} (hf : forD F xs s0 KK) (Inv : β -> L2.St -> Hp -> Prop) (h0 : Inv s0 σ H)
   (hrd : ∀ s σ H, Inv s σ H -> SqL K H a vs /\ DqAll K H vs (xs.map e))
   (hs : ∀ (i : Nat) v x s σ H (kk : β -> Prop), Inv s σ H -> vs[i]? = some v -> xs[i]? = some x -> F x s kk -> g v σ H λ σ2 H2 => tb ⟨λ σ H => ∃ s', kk s' /\ Inv s' σ H, D.rt, D.nx, λ σ H => ∃ s', kk s' /\ Inv s' σ H⟩ σ2 H2)
   (hd : ∀ s σ H, KK s -> Inv s σ H -> D.nx σ H) : ForW (Itl K a) g tb D σ H := by
 have hl : vs.length = xs.length := by
   have := (hrd s0 σ H h0).2.len
   rwa [List.length_map] at this
 refine for_W walk_list (λ i σ H => ∃ s, forD F (xs.drop i) s KK /\ Inv s σ H) ⟨s0, by simpa using hf, h0⟩ (λ i σ H _ ⟨s, _, h⟩ => (hrd s σ H h).1) ?_ ?_
 · rintro i v σ H H' hi ⟨s, hf, h⟩ ⟨rfl, hv⟩
   have hi2 : i < xs.length := by omega
   rw [List.drop_eq_getElem_cons hi2] at hf
   exact hs i v _ s σ H' _ h hv (List.getElem?_eq_getElem hi2) hf
 · rintro σ H ⟨s, hf, h⟩
   rw [hl, List.drop_length] at hf
   exact hd s σ H hf h
theorem rng_len (n : Int) : (rng n).length = n.toNat := by simp [rng]
theorem rng_get {n : Int} {i : Nat} (h : i < n.toNat) : (rng n)[i]? = some ((0 : Int) + (i : Nat)) := by
 unfold rng
 rw [List.getElem?_map, List.getElem?_range h]
 rfl
theorem for_rng {F : Int -> β -> (β -> Prop) -> Prop} {n : Int} {s0 : β} {KK : β -> Prop} {g : TG} {tb : TS} (hf : forD F (rng n) s0 KK) (Inv : β -> L2.St -> Hp -> Prop) (h0 : Inv s0 σ H)
   (hs : ∀ x s σ H (kk : β -> Prop), Inv s σ H -> F x s kk -> g (.int x) σ H λ σ2 H2 => tb ⟨λ σ H => ∃ s', kk s' /\ Inv s' σ H, D.rt, D.nx, λ σ H => ∃ s', kk s' /\ Inv s' σ H⟩ σ2 H2)
   (hd : ∀ s σ H, KK s -> Inv s σ H -> D.nx σ H) : ForW (Itr 0 n.toNat) g tb D σ H := by
 refine for_W walk_range (λ i σ H => ∃ s, forD F ((rng n).drop i) s KK /\ Inv s σ H) ⟨s0, by simpa using hf, h0⟩ (λ _ _ _ _ _ => trivial) ?_ ?_
 · rintro i v σ H H' hi ⟨s, hf, h⟩ ⟨rfl, rfl⟩
   have hi2 : i < (rng n).length := by rw [rng_len]; exact hi
   rw [List.drop_eq_getElem_cons hi2] at hf
   have e : (rng n)[i] = (0 : Int) + (i : Nat) := Option.some.inj ((List.getElem?_eq_getElem hi2).symm.trans (rng_get hi))
   rw [e] at hf
   exact hs _ s σ H' _ h hf
 · rintro σ H ⟨s, hf, h⟩
   rw [<- rng_len, List.drop_length] at hf
   exact hd s σ H hf h
def acR (K : Fr) (E : Addr) (ds : List PyData) : Res := exi λ vs => sp2 (pt E (.lst vs)) (daA K vs ds)
theorem acR_nil {E : Addr} (S : M (pt E (.lst []) :: Rs) H) : M (acR K E [] :: Rs) H := by
 obtain ⟨F, L, ⟨l1, l2, rfl, a, b⟩, m⟩ := S
 exact ⟨F, _, ⟨l1, l2, rfl, ⟨[], l1, [], by simp, a, rfl, .nil⟩, b⟩, m⟩
theorem acR_fix {E : Addr} {ds : List PyData} (S : M (acR K E ds :: Rs) H) : M (da K (.ref E) (.list ds) :: Rs) H := by
 obtain ⟨vs, S⟩ := S.ex
 obtain ⟨F, L, ⟨l1, l2, rfl, ⟨rfl, fp⟩, l3, l4, rfl, ⟨rfl, q⟩, b⟩, m⟩ := S.sp.fix
 exact ⟨F, l4, ⟨[], l4, rfl, ⟨rfl, .lst (.inl (.inl fp)) q⟩, b⟩, m⟩
theorem DqAll.snoc {v : V} {d : PyData} (h : Dq K H v d) : ∀ {vs : List V} {ds : List PyData}, DqAll K H vs ds -> DqAll K H (vs ++ [v]) (ds ++ [d])
 | _, _, .nil => .cons h .nil
 | _, _, .cons a r => .cons a (DqAll.snoc h r)
theorem acR_put {N : Hp -> Prop} {E : Addr} {ds : List PyData} {y : V} {d : PyData} (S : M Rs H) (j : Nat) (hj : Rs[j]? = some (acR K E ds)) (h : EnF Rs (λ F => Dq K F y d)) (hz : ds.length < 100000) (k : ∀ H', M (acR K E (ds ++ [d]) :: Rs.eraseIdx j) H' -> N H') : LcK N E y H := by
 have S0 : M (da K y d :: Rs) H := S.addA h
 have S1 : M (acR K E ds :: da K y d :: Rs.eraseIdx j) H := (S0.at (j + 1) (by simpa using hj))
 obtain ⟨vs, S2⟩ := S1.ex
 have S3 := S2.sp
 have hl : vs.length = ds.length := (S3.gotAA 1 rfl).len
 refine ⟨vs, S3.got 0 rfl, Nat.lt_of_lt_of_le (by rw [hl]; exact hz) (by decide), k _ ?_⟩
 have S4 := S3.putAt (o' := .lst (vs ++ [y])) 0 rfl
 obtain ⟨F, L, ⟨l1, l2, rfl, a, l3, l4, rfl, ⟨rfl, q⟩, l5, l6, rfl, ⟨rfl, q2⟩, b⟩, m⟩ := S4
 exact ⟨F, _, ⟨l1, l6, by simp, ⟨vs ++ [y], l1, [], by simp, a, rfl, DqAll.snoc q2 q⟩, b⟩, m⟩
theorem lc_lst {te : TE} {tt : TT} {g : TG} {ws : List Nat} {F : α -> (Option β -> Prop) -> Prop} {e : α -> PyData} {e' : β -> PyData} {xs : List α} {vs : List V} {KK : List β -> Prop} {a : Addr} (hf : xs.length <= 100000 /\ lcD F xs [] KK) (S : M Rs H)
   (hrd : ∀ H, M Rs H -> SqL K H a vs /\ DqAll K H vs (xs.map e))
   (hs : ∀ (i : Nat) v x (acc : List β) E H (kk : Option β -> Prop) (N : Hp -> Prop), (acc.map e').length < 100000 -> M (acR K E (acc.map e') :: Rs) H -> vs[i]? = some v -> xs[i]? = some x -> F x kk ->
     (∀ y H, kk (some y) -> M (acR K E (acc.map e' ++ [e' y]) :: Rs) H -> N H) -> (∀ H, kk none -> M (acR K E (acc.map e') :: Rs) H -> N H) -> g v (wipe σ ws) H λ σ2 H2 => wipe σ2 ws = wipe σ ws /\ tt σ2 H2 λ b H3 =>
     if b = true then te σ2 H3 (LcK N E) else N H3)
   (hd : ∀ E (acc : List β) H, KK acc -> M (acR K E (acc.map e') :: Rs) H -> Q (.ref E) H) : LcW (Itl K a) g tt te ws σ Q H := by
 obtain ⟨hz, hf⟩ := hf
 have hl : vs.length = xs.length := by
   have := (hrd H S).2.len
   rwa [List.length_map] at this
 refine lc_X walk_list (λ E i H => ∃ acc, lcD F (xs.drop i) acc KK /\ acc.length <= i /\ M (acR K E (acc.map e') :: Rs) H) (λ E hE => ⟨[], by simpa using hf, Nat.le_refl _, acR_nil (S.new hE)⟩) (λ E i H _ ⟨acc, _, _, S⟩ => (hrd H S.tl).1) ?_ ?_
 · rintro E i v H H' hi ⟨acc, hf, ha, S⟩ ⟨rfl, hv⟩
   have hi2 : i < xs.length := by omega
   rw [List.drop_eq_getElem_cons hi2] at hf
   refine hs i v _ acc E H' _ _ (by rw [List.length_map]; omega) S hv (List.getElem?_eq_getElem hi2) hf (λ y H hk S => ⟨acc ++ [y], hk, by rw [List.length_append]; simpa using ha, by rw [List.map_append]; exact S⟩) (λ H hk S => ⟨acc, ?_, by omega, S⟩)
   simpa using hk
 · rintro E H ⟨acc, hf, ha, S⟩
   rw [hl, List.drop_length] at hf
   exact hd E acc H hf S
theorem lc_rng {te : TE} {tt : TT} {g : TG} {ws : List Nat} {F : Int -> (Option β -> Prop) -> Prop} {e' : β -> PyData} {n : Int} {KK : List β -> Prop} (hf : (rng n).length <= 100000 /\ lcD F (rng n) [] KK) (S : M Rs H)
   (hs : ∀ x (acc : List β) E H (kk : Option β -> Prop) (N : Hp -> Prop), (acc.map e').length < 100000 -> M (acR K E (acc.map e') :: Rs) H -> F x kk ->
     (∀ y H, kk (some y) -> M (acR K E (acc.map e' ++ [e' y]) :: Rs) H -> N H) -> (∀ H, kk none -> M (acR K E (acc.map e') :: Rs) H -> N H) -> g (.int x) (wipe σ ws) H λ σ2 H2 => wipe σ2 ws = wipe σ ws /\ tt σ2 H2 λ b H3 =>
     if b = true then te σ2 H3 (LcK N E) else N H3)
   (hd : ∀ E (acc : List β) H, KK acc -> M (acR K E (acc.map e') :: Rs) H -> Q (.ref E) H) : LcW (Itr 0 n.toNat) g tt te ws σ Q H := by
 obtain ⟨hz, hf⟩ := hf
 rw [rng_len] at hz
 refine lc_X walk_range (λ E i H => ∃ acc, lcD F ((rng n).drop i) acc KK /\ acc.length <= i /\ M (acR K E (acc.map e') :: Rs) H) (λ E hE => ⟨[], by simpa using hf, Nat.le_refl _, acR_nil (S.new hE)⟩) (λ E i H _ _ => trivial) ?_ ?_
 · rintro E i v H H' hi ⟨acc, hf, ha, S⟩ ⟨rfl, rfl⟩
   have hi2 : i < (rng n).length := by rw [rng_len]; exact hi
   rw [List.drop_eq_getElem_cons hi2] at hf
   have e : (rng n)[i] = (0 : Int) + (i : Nat) := Option.some.inj ((List.getElem?_eq_getElem hi2).symm.trans (rng_get hi))
   rw [e] at hf
   refine hs _ acc E H' _ _ (by rw [List.length_map]; omega) S hf (λ y H hk S => ⟨acc ++ [y], hk, by rw [List.length_append]; simpa using ha, by rw [List.map_append]; exact S⟩) (λ H hk S => ⟨acc, ?_, by omega, S⟩)
   simpa using hk
 · rintro E H ⟨acc, hf, ha, S⟩
   rw [<- rng_len, List.drop_length] at hf
   exact hd E acc H hf S
theorem M.fixG {p : Addr} {o : HO} {R : Res} {φ : Hp -> Prop} (S : M (pt p o :: Rs) H) (h : EnF Rs φ) (k : ∀ F, φ F -> F p = some o -> R.on F []) : M (R :: Rs) H := by
 obtain ⟨F, L, ⟨l1, l2, rfl, ⟨rfl, fp⟩, s⟩, m⟩ := S.fix
 exact ⟨F, l2, ⟨[], l2, rfl, k F (h F l2 s) fp, s⟩, m⟩
theorem M.own {p : Addr} {vs : List V} {ds : List PyData} (S : M (pt p (.lst vs) :: Rs) H) (h : EnF Rs (λ F => DqAll K F vs ds)) : M (acR K p ds :: Rs) H := by
 obtain ⟨F, L, ⟨l1, l2, rfl, a, b⟩, m⟩ := S
 exact ⟨F, _, ⟨l1, l2, rfl, ⟨vs, l1, [], by simp, a, rfl, h F l2 b⟩, b⟩, m⟩
theorem v_lsto {vs : List V} {ds : List PyData} (S : M Rs H) (h : EnF Rs (λ F => DqAll K F vs ds)) (hn : vs.length <= 100000) (k : ∀ p H', M (acR K p ds :: Rs) H' -> Q (.ref p) H') : LstK Q vs H :=
 v_lst S hn λ p H' S' => k p H' (S'.own h)
theorem v_tupq {vs : List V} {ds : List PyData} (S : M Rs H) (h : EnF Rs (λ F => DqAll K F vs ds)) (hn : vs.length <= 100000) (k : ∀ p H', M (da K (.ref p) (.tuple ds) :: Rs) H' -> Q (.ref p) H') : TupK Q vs H :=
 v_tup S hn λ p H' S' => k p H' (S'.fixG h λ F q fp => ⟨rfl, .tup (.inl (.inl fp)) q⟩)
theorem atI_get {γ : Type} {xs : List γ} {i : Int} {x : γ} (h : atI xs i = some x) : ∃ j, ixN xs.length i = some j /\ xs[j]? = some x := by
 unfold atI at h
 cases e : ixN xs.length i with
 | none => rw [e] at h; cases h
 | some j => rw [e] at h; exact ⟨j, rfl, h⟩
theorem atI_of {γ : Type} {xs : List γ} {i : Int} {x : γ} {j : Nat} (h1 : ixN xs.length i = some j) (h2 : xs[j]? = some x) : atI xs i = some x := by
 unfold atI
 rw [h1]
 exact h2
theorem DqAll.get {vs : List V} {ds : List PyData} {j : Nat} {d : PyData} (q : DqAll K H vs ds) (h : ds[j]? = some d) : ∃ v, vs[j]? = some v /\ Dq K H v d := by
 have hj : j < vs.length := by rw [q.len]; exact (List.getElem?_eq_some_iff.mp h).1
 exact ⟨_, List.getElem?_eq_getElem hj, q.at (List.getElem?_eq_getElem hj) h⟩
theorem v_ixq {v : V} {ds : List PyData} {i : Int} {d : PyData} (S : M Rs H) (hj : EnF Rs (λ F => Dq K F v (.list ds)) \/ EnF Rs (λ F => Dq K F v (.tuple ds))) (hx : atI ds i = some d) (k : ∀ u, M (da K u d :: Rs) H -> Q u H) : uIx K v (.int i) H Q := by
 obtain ⟨j, h1, h2⟩ := atI_get hx
 obtain ⟨F, L, s, m⟩ := S
 rcases hj with hj | hj
 · cases hj F L s with
   | lst a q =>
     obtain ⟨u, h3, h4⟩ := q.get h2
     exact v_ixL (m.ex.sqL a) (atI_of (by rw [q.len]; exact h1) h3) (k u ⟨F, L, ⟨[], L, rfl, ⟨rfl, h4⟩, s⟩, m⟩)
 · cases hj F L s with
   | tup a q =>
     obtain ⟨u, h3, h4⟩ := q.get h2
     exact v_ixT (m.ex.sqT a) (atI_of (by rw [q.len]; exact h1) h3) (k u ⟨F, L, ⟨[], L, rfl, ⟨rfl, h4⟩, s⟩, m⟩)
theorem atI_map {γ δ : Type} {f : γ -> δ} {xs : List γ} {i : Int} {x : γ} (h : atI xs i = some x) : atI (xs.map f) i = some (f x) := by
 obtain ⟨j, h1, h2⟩ := atI_get h
 exact atI_of (by rw [List.length_map]; exact h1) (by rw [List.getElem?_map, h2]; rfl)
theorem v_ixl {e : α -> PyData} {v : V} {xs : List α} {i : Int} {x : α} (S : M Rs H) (j : Nat) (hj : Rs[j]? = some (da K v (eL e xs))) (hx : atI xs i = some x) (k : ∀ u, M (da K u (e x) :: Rs) H -> Q u H) : uIx K v (.int i) H Q :=
 v_ixq S (.inl (EnF.at j hj)) (atI_map hx) k
theorem v_ixo {e : α -> PyData} {p : Addr} {xs : List α} {i : Int} {x : α} (S : M Rs H) (j : Nat) (hj : Rs[j]? = some (acR K p (xs.map e))) (hx : atI xs i = some x) (k : ∀ u, M (da K u (e x) :: Rs) H -> Q u H) : uIx K (.ref p) (.int i) H Q := by
 obtain ⟨n, h1, h2⟩ := atI_get hx
 obtain ⟨vs, S1⟩ := (S.at j hj).ex
 have S2 := S1.sp
 have h3 : (xs.map e)[n]? = some (e x) := by rw [List.getElem?_map, h2]; rfl
 obtain ⟨u, h4, h5⟩ := (S2.gotAA 1 rfl).get h3
 have hl := (S2.gotAA 1 rfl).len
 rw [List.length_map] at hl
 refine v_ixL (SqL.of (S2.got 0 rfl)) (atI_of (by rw [hl]; exact h1) h4) (k u ?_)
 have S3 := S2.elA 1 rfl h4 h2
 obtain ⟨F, L, ⟨l0, l1, rfl, ⟨rfl, q⟩, l2, l3, rfl, a, l4, l5, rfl, ⟨rfl, q2⟩, b⟩, m⟩ := S3
 have b' : Sat F (acR K p (xs.map e) :: Rs.eraseIdx j) (l2 ++ l5) := ⟨l2, l5, rfl, ⟨vs, l2, [], by simp, a, rfl, q2⟩, b⟩
 obtain ⟨L', pp, sat⟩ := b'.perm (perm_at j hj).symm
 exact ⟨F, L', ⟨[], L', rfl, ⟨rfl, q⟩, sat⟩, m.perm (by simpa using pp)⟩
theorem Dq.intV {v : V} {i : Int} (h : Dq K H v (.int i)) : v = .int i := by cases h; rfl
theorem Dq.strV {v : V} {i : Str} (h : Dq K H v (.str i)) : v = .str i := by cases h; rfl
theorem Dq.blV {v : V} {i : Bool} (h : Dq K H v (.bool i)) : v = .bl i := by cases h; rfl
theorem DqAll.app : ∀ {vs ws : List V} {ds es : List PyData}, DqAll K H vs ds -> DqAll K H ws es -> DqAll K H (vs ++ ws) (ds ++ es)
 | _, _, _, _, .nil, h => h
 | _, _, _, _, .cons a r, h => .cons a (DqAll.app r h)
theorem cutL_map {γ δ : Type} (f : γ -> δ) (xs : List γ) (lo hi : Option Int) : cutL (xs.map f) lo hi = (cutL xs lo hi).map f := by
 unfold cutL
 rw [List.length_map, List.map_take, List.map_drop]
theorem len_ok {n : Nat} (h : Nat.ble n 100000 = true) : n <= 100000 := Nat.le_of_ble_eq_true h
theorem acR_fixL {e : α -> PyData} {E : Addr} {xs : List α} (S : M (acR K E (xs.map e) :: Rs) H) : M (da K (.ref E) (eL e xs) :: Rs) H := acR_fix S
theorem v_lenq {v : V} {ds : List PyData} (S : M Rs H) (h : EnF Rs (λ F => Dq K F v (.list ds)) \/ EnF Rs (λ F => Dq K F v (.tuple ds))) (k : Q (.int (ds.length : Nat)) H) : uLen K [v] H Q := by
 obtain ⟨F, L, s, m⟩ := S
 rcases h with h | h
 · cases h F L s with
   | lst a q => exact .inl ⟨_, _, rfl, .inl ⟨_, m.ex.sqL a, q.len.symm⟩, k⟩
 · cases h F L s with
   | tup a q => exact .inl ⟨_, _, rfl, .inr ⟨_, m.ex.sqT a, q.len.symm⟩, k⟩
theorem v_lenl {e : α -> PyData} {v : V} {xs : List α} (S : M Rs H) (j : Nat) (hj : Rs[j]? = some (da K v (eL e xs))) (k : Q (.int (xs.length : Nat)) H) : uLen K [v] H Q :=
 v_lenq S (.inl (EnF.at j hj)) (by rw [List.length_map]; exact k)
theorem v_leno {e : α -> PyData} {p : Addr} {xs : List α} (S : M Rs H) (j : Nat) (hj : Rs[j]? = some (acR K p (xs.map e))) (k : Q (.int (xs.length : Nat)) H) : uLen K [.ref p] H Q := by
 obtain ⟨vs, S1⟩ := (S.at j hj).ex
 have S2 := S1.sp
 have hl := (S2.gotAA 1 rfl).len
 rw [List.length_map] at hl
 exact v_lenL (SqL.of (S2.got 0 rfl)) (by rw [hl]; exact k)
theorem M.tyO {p : Addr} {ds : List PyData} {φ : Prop} (S : M Rs H) (j : Nat) (hj : Rs[j]? = some (acR K p ds)) (k : φ) : tyV K "list" (.ref p) H /\ φ := by
 obtain ⟨vs, S1⟩ := (S.at j hj).ex
 exact v_tyL (SqL.of (S1.sp.got 0 rfl)) k
theorem v_apo {p : Addr} {ds : List PyData} {y : V} {d : PyData} (S : M Rs H) (j : Nat) (hj : Rs[j]? = some (acR K p ds)) (h : EnF Rs (λ F => Dq K F y d)) (hz : ds.length < 100000) (k : ∀ H', M (acR K p (ds ++ [d]) :: Rs.eraseIdx j) H' -> Q .non H') : rAppend (.ref p) [y] H Q := by
 have S0 : M (da K y d :: Rs) H := S.addA h
 have S1 : M (acR K p ds :: da K y d :: Rs.eraseIdx j) H := (S0.at (j + 1) (by simpa using hj))
 obtain ⟨vs, S2⟩ := S1.ex
 have S3 := S2.sp
 have hl : vs.length = ds.length := (S3.gotAA 1 rfl).len
 refine v_app S3 0 rfl (by rw [hl]; exact hz) λ H' S4 => k H' ?_
 obtain ⟨F, L, ⟨l1, l2, rfl, a, l3, l4, rfl, ⟨rfl, q⟩, l5, l6, rfl, ⟨rfl, q2⟩, b⟩, m⟩ := S4
 exact ⟨F, _, ⟨l1, l6, by simp, ⟨vs ++ [y], l1, [], by simp, a, rfl, DqAll.snoc q2 q⟩, b⟩, m⟩
theorem v_apl {e : α -> PyData} {p : Addr} {xs : List α} {y : V} {x : α} (S : M Rs H) (j : Nat) (hj : Rs[j]? = some (acR K p (xs.map e))) (h : EnF Rs (λ F => Dq K F y (e x))) (hz : xs.length < 100000) (k : ∀ H', M (acR K p ((xs ++ [x]).map e) :: Rs.eraseIdx j) H' -> Q .non H') : rAppend (.ref p) [y] H Q :=
 v_apo S j hj h (by rw [List.length_map]; exact hz) λ H' S' => k H' (by rw [List.map_append]; exact S')
theorem DqAll.setA {v : V} {d : PyData} (h : Dq K H v d) : ∀ {vs : List V} {ds : List PyData}, DqAll K H vs ds -> ∀ n, DqAll K H (vs.set n v) (ds.set n d)
 | _, _, .nil, _ => .nil
 | _, _, .cons a r, 0 => .cons h r
 | _, _, .cons a r, n + 1 => .cons a (DqAll.setA h r n)
theorem v_setl {e : α -> PyData} {p : Addr} {xs : List α} {y : V} {x : α} {i : Int} {n : Nat} {Q : Hp -> Prop} (S : M Rs H) (j : Nat) (hj : Rs[j]? = some (acR K p (xs.map e))) (hx : ixN xs.length i = some n) (h : EnF Rs (λ F => Dq K F y (e x)))
   (k : ∀ H', M (acR K p ((xs.set n x).map e) :: Rs.eraseIdx j) H' -> Q H') : uSet (.ref p) (.int i) y H Q := by
 have S0 : M (da K y (e x) :: Rs) H := S.addA h
 have S1 : M (acR K p (xs.map e) :: da K y (e x) :: Rs.eraseIdx j) H := (S0.at (j + 1) (by simpa using hj))
 obtain ⟨vs, S2⟩ := S1.ex
 have S3 := S2.sp
 have hl : vs.length = xs.length := by
   have := (S3.gotAA 1 rfl).len
   rwa [List.length_map] at this
 refine v_set S3 0 rfl (j := n) (by rw [hl]; exact hx) λ H' S4 => k H' ?_
 obtain ⟨F, L, ⟨l1, l2, rfl, a, l3, l4, rfl, ⟨rfl, q⟩, l5, l6, rfl, ⟨rfl, q2⟩, b⟩, m⟩ := S4
 exact ⟨F, _, ⟨l1, l6, by simp, ⟨vs.set n y, l1, [], by simp, a, rfl, by rw [List.map_set]; exact DqAll.setA q2 q n⟩, b⟩, m⟩
end
end RC

namespace RC
open PySem PySem.Spec PyProof.Rows L2
section
variable {κ α : Type} [DecidableEq κ]
def lk (m : List (κ × α)) (k : κ) : Option α := (m.find? λ p => decide (p.1 = k)).map (·.2)
def pk (m : List (κ × α)) (k : κ) (x : α) : List (κ × α) := if (m.any λ p => decide (p.1 = k)) = true then m.map (λ p => if p.1 = k then (p.1, x) else p) else m ++ [(k, x)]
def dk (m : List (κ × α)) (k : κ) : List (κ × α) := m.filter λ p => decide (p.1 ≠ k)
def ks (m : List (κ × α)) : List κ := m.map (·.1)
theorem lk_cons (p : κ × α) (m : List (κ × α)) (k : κ) : lk (p :: m) k = if p.1 = k then some p.2 else lk m k := by
 unfold lk
 rw [List.find?_cons]
 by_cases h : p.1 = k
 · simp [h]
 · simp [h]
theorem any_lk (m : List (κ × α)) (k : κ) : (m.any λ p => decide (p.1 = k)) = (lk m k).isSome := by
 induction m with
 | nil => rfl
 | cons p m ih =>
   rw [List.any_cons, ih, lk_cons]
   by_cases h : p.1 = k
   · simp [h]
   · simp [h]
end
inductive TKv {κ α : Type} (K : Fr) (H : Hp) (ik : κ -> Key) (e : α -> PyData) : List (Key × V) -> List (κ × α) -> Prop
 | nil : TKv K H ik e [] []
 | cons {k : κ} {v : V} {x : α} {r : List (Key × V)} {m : List (κ × α)} (h : Dq K H v (e x)) (t : TKv K H ik e r m) : TKv K H ik e ((ik k, v) :: r) ((k, x) :: m)
section
variable {κ α : Type} {K : Fr} {H H' : Hp} {ik : κ -> Key} {e : α -> PyData} {kvs : List (Key × V)} {m : List (κ × α)}
theorem TKv.ext (x : Ext H H') : ∀ {kvs : List (Key × V)} {m : List (κ × α)}, TKv K H ik e kvs m -> TKv K H' ik e kvs m
 | _, _, .nil => .nil
 | _, _, .cons h t => .cons (Dq_ext x h) (TKv.ext x t)
theorem TKv.kv : ∀ {kvs : List (Key × V)} {m : List (κ × α)}, TKv K H ik e kvs m -> DqKv K H kvs (m.map λ p => (kD (ik p.1), e p.2))
 | _, _, .nil => .nil
 | _, _, .cons h t => .cons h (TKv.kv t)
theorem TKv.len : ∀ {kvs : List (Key × V)} {m : List (κ × α)}, TKv K H ik e kvs m -> kvs.length = m.length
 | _, _, .nil => rfl
 | _, _, .cons h t => by rw [List.length_cons, List.length_cons, TKv.len t]
theorem TKv.keys : ∀ {kvs : List (Key × V)} {m : List (κ × α)}, TKv K H ik e kvs m -> kvs.map (·.1) = (ks m).map ik
 | _, _, .nil => rfl
 | _, _, .cons h t => by
   have := TKv.keys t
   simp only [ks, List.map_cons] at this ⊢
   rw [this]
variable [DecidableEq κ]
theorem TKv.some (inj : ∀ a b, ik a = ik b -> a = b) {k : κ} {x : α} : ∀ {kvs : List (Key × V)} {m : List (κ × α)}, TKv K H ik e kvs m -> lk m k = some x -> ∃ v, valV kvs (ik k) = Option.some v /\ Dq K H v (e x)
 | _, _, .nil, h => by cases h
 | _, _, .cons (k := k') h t, g => by
   rw [lk_cons] at g
   by_cases z : k' = k
   · subst z
     rw [if_pos rfl] at g
     cases g
     exact ⟨_, valV_pos rfl, h⟩
   · rw [if_neg z] at g
     obtain ⟨v, a, b⟩ := TKv.some inj t g
     exact ⟨v, by rw [valV_neg (λ q => z (inj _ _ q))]; exact a, b⟩
theorem TKv.none (inj : ∀ a b, ik a = ik b -> a = b) {k : κ} : ∀ {kvs : List (Key × V)} {m : List (κ × α)}, TKv K H ik e kvs m -> lk m k = none -> valV kvs (ik k) = Option.none
 | _, _, .nil, h => rfl
 | _, _, .cons (k := k') h t, g => by
   rw [lk_cons] at g
   by_cases z : k' = k
   · subst z
     rw [if_pos rfl] at g
     cases g
   · rw [if_neg z] at g
     rw [valV_neg (λ q => z (inj _ _ q))]
     exact TKv.none inj t g
theorem TKv.isSome (inj : ∀ a b, ik a = ik b -> a = b) (t : TKv K H ik e kvs m) (k : κ) : (valV kvs (ik k)).isSome = (lk m k).isSome := by
 cases h : lk m k with
 | none =>
   rw [t.none inj h]
   rfl
 | some x =>
   obtain ⟨v, a, _⟩ := t.some inj h
   rw [a]
   rfl
theorem TKv.app {r : List (Key × V)} {n : List (κ × α)} (b : TKv K H ik e r n) : ∀ {kvs : List (Key × V)} {m : List (κ × α)}, TKv K H ik e kvs m -> TKv K H ik e (kvs ++ r) (m ++ n)
 | _, _, .nil => b
 | _, _, .cons h t => .cons h (TKv.app b t)
theorem TKv.upd (inj : ∀ a b, ik a = ik b -> a = b) {k : κ} {x : α} {v : V} (d : Dq K H v (e x)) : ∀ {kvs : List (Key × V)} {m : List (κ × α)}, TKv K H ik e kvs m ->
   TKv K H ik e (kvs.map λ kv => if kv.1 = ik k then (kv.1, v) else kv) (m.map λ p => if p.1 = k then (p.1, x) else p)
 | _, _, .nil => .nil
 | _, _, .cons (k := k') h t => by
   rw [List.map_cons, List.map_cons]
   by_cases z : k' = k
   · subst z
     rw [if_pos rfl, if_pos rfl]
     exact .cons d (TKv.upd inj d t)
   · rw [if_neg (λ q => z (inj _ _ q)), if_neg z]
     exact .cons h (TKv.upd inj d t)
theorem TKv.put (inj : ∀ a b, ik a = ik b -> a = b) {k : κ} {x : α} {v : V} (t : TKv K H ik e kvs m) (d : Dq K H v (e x)) : TKv K H ik e (putK kvs (ik k) v) (pk m k x) := by
 unfold putK pk
 rw [any_lk m k, valV_any (ik k) kvs, t.isSome inj]
 cases lk m k with
 | none =>
   rw [if_neg (by simp), if_neg (by simp)]
   exact TKv.app (.cons d .nil) t
 | some y =>
   rw [if_pos (by rfl), if_pos (by rfl)]
   exact TKv.upd inj d t
theorem TKv.drop (inj : ∀ a b, ik a = ik b -> a = b) {k : κ} : ∀ {kvs : List (Key × V)} {m : List (κ × α)}, TKv K H ik e kvs m -> TKv K H ik e (dropK kvs (ik k)) (dk m k)
 | _, _, .nil => .nil
 | _, _, .cons (k := k') h t => by
   have ih := TKv.drop (k := k) inj t
   unfold dropK dk at ih ⊢
   by_cases z : k' = k
   · subst z
     rw [List.filter_cons_of_neg (by simp), List.filter_cons_of_neg (by simp)]
     exact ih
   · rw [List.filter_cons_of_pos (by simpa using λ q => z (inj _ _ q)), List.filter_cons_of_pos (by simpa using z)]
     exact .cons h ih
end
theorem injI (a b : Int) (h : iI a = iI b) : a = b := Sum.inl.inj h
theorem injS (a b : Str) (h : iS a = iS b) : a = b := Sum.inr.inj h
section
variable {κ α : Type} {K : Fr} {ik : κ -> Key} {e : α -> PyData} {m : List (κ × α)} {Rs : List Res} {H : Hp} {Q : VK} {σ : L2.St} {D : Ends} {p : Addr}
def tkR (K : Fr) (ik : κ -> Key) (e : α -> PyData) (kvs : List (Key × V)) (m : List (κ × α)) : Res := ⟨λ F l => l = [] /\ TKv K F ik e kvs m, λ _ _ _ x h => ⟨h.1, TKv.ext x h.2⟩⟩
def adR (K : Fr) (ik : κ -> Key) (e : α -> PyData) (p : Addr) (m : List (κ × α)) : Res := exi λ kvs => sp2 (pt p (.dK kvs)) (tkR K ik e kvs m)
theorem M.gotT {kvs : List (Key × V)} (S : M Rs H) (i : Nat) (h : Rs[i]? = some (tkR K ik e kvs m)) : TKv K H ik e kvs m := by
 obtain ⟨F, L, s, mm⟩ := S
 obtain ⟨l, h⟩ := s.get i h
 exact TKv.ext mm.ex h.2
theorem adR_open (S : M Rs H) (j : Nat) (hj : Rs[j]? = some (adR K ik e p m)) : ∃ kvs, M (pt p (.dK kvs) :: tkR K ik e kvs m :: Rs.eraseIdx j) H := by
 obtain ⟨kvs, S1⟩ := (S.at j hj).ex
 exact ⟨kvs, S1.sp⟩
theorem adR_close {kvs : List (Key × V)} (S : M (pt p (.dK kvs) :: tkR K ik e kvs m :: Rs) H) : M (adR K ik e p m :: Rs) H := M.ex' (T := λ kvs => sp2 (pt p (.dK kvs)) (tkR K ik e kvs m)) kvs S.sp'
theorem v_dnewo (S : M Rs H) (k : ∀ p H', M (adR K ik e p ([] : List (κ × α)) :: Rs) H' -> Q (.ref p) H') : tDNewK σ H Q := v_dnew S λ p H' S' => k p H' (by
 obtain ⟨F, L, ⟨l1, l2, rfl, a, b⟩, mm⟩ := S'
 exact ⟨F, _, ⟨l1, l2, rfl, ⟨[], l1, [], by simp, a, rfl, .nil⟩, b⟩, mm⟩)
theorem M.gotDk (S : M Rs H) (j : Nat) (hj : Rs[j]? = some (adR K ik e p m)) : ∃ kvs, H p = some (.dK kvs) /\ TKv K H ik e kvs m := by
 obtain ⟨kvs, S1⟩ := adR_open S j hj
 exact ⟨kvs, S1.got 0 rfl, S1.gotT 1 rfl⟩
variable [DecidableEq κ]
theorem putd_core {k : κ} {x : α} {y : V} (inj : ∀ a b, ik a = ik b -> a = b) (S : M Rs H) (j : Nat) (hj : Rs[j]? = some (adR K ik e p m)) (h : EnF Rs (λ F => Dq K F y (e x))) :
   ∃ kvs, H p = some (.dK kvs) /\ kvs.length = m.length /\ M (adR K ik e p (pk m k x) :: Rs.eraseIdx j) (upd H p (.dK (putK kvs (ik k) y))) := by
 have S0 : M (da K y (e x) :: Rs) H := S.addA h
 obtain ⟨kvs, S1⟩ := adR_open S0 (j + 1) (by simpa using hj)
 have hl := (S1.gotT 1 rfl).len
 refine ⟨kvs, S1.got 0 rfl, hl, ?_⟩
 have S2 := S1.putAt (o' := .dK (putK kvs (ik k) y)) 0 rfl
 obtain ⟨F, L, ⟨l1, l2, rfl, a, l3, l4, rfl, ⟨rfl, t⟩, l5, l6, rfl, ⟨rfl, d⟩, b⟩, mm⟩ := S2
 exact ⟨F, _, ⟨l1, l6, by simp, ⟨_, l1, [], by simp, a, rfl, t.put inj d⟩, b⟩, mm⟩
theorem v_putdI {e : α -> PyData} {m : List (Int × α)} {n : Int} {x : α} {y : V} {Q : Hp -> Prop} (S : M Rs H) (j : Nat) (hj : Rs[j]? = some (adR K iI e p m)) (h : EnF Rs (λ F => Dq K F y (e x))) (hz : m.length < 100000)
   (k : ∀ H', M (adR K iI e p (pk m n x) :: Rs.eraseIdx j) H' -> Q H') : uSet (.ref p) (.int n) y H Q := by
 obtain ⟨kvs, h1, h2, S2⟩ := putd_core (k := n) injI S j hj h
 exact .inr ⟨p, _, rfl, DPut.k (k := Sum.inl n) h1 (Nat.lt_of_lt_of_le (by rw [h2]; exact hz) (by decide)), k _ S2⟩
def FzK (Q : VK) : VK := λ v H => Q v H \/ ∃ d u, H d = some u /\ Mut (some u) /\ ∀ od, Q v (upd H d (.frz od u))
def tFzE (t : TE) : TE := λ σ H Q => t σ H (FzK Q)
theorem pe_fz {X : Cx} {x : Expr} {t : TE} (h : PE X x t) : PE X x (tFzE t) := ⟨λ pins s σ H Q I hw => thn (h.run pins s σ H _ I hw) λ v s1 ⟨y, H1, I1, r, q⟩ => by
 rcases q with q | ⟨d, u, hd, mu, q⟩
 · exact ⟨y, H1, I1, r, q⟩
 · obtain ⟨od, I2⟩ := I1.lock hd mu
   exact ⟨y, _, I2, r, q od⟩⟩
theorem adR_frz {kvs : List (Key × V)} {od : Obj} (S : M (pt p (.dK kvs) :: tkR K ik e kvs m :: Rs) H) : M (da K (.ref p) (eD ik e m) :: Rs) (upd H p (.frz od (.dK kvs))) := by
 have S1 : M (pt p (.frz od (.dK kvs)) :: tkR K ik e kvs m :: Rs) (upd H p (.frz od (.dK kvs))) := S.putAt 0 rfl
 obtain ⟨F, L, ⟨l1, l2, rfl, ⟨rfl, fp⟩, l3, l4, rfl, ⟨rfl, t⟩, b⟩, mm⟩ := S1.fix
 exact ⟨F, l4, ⟨[], l4, rfl, ⟨rfl, .dct fp t.kv⟩, b⟩, mm⟩
theorem v_fzD {v : V} (S : M Rs H) (j : Nat) (hj : Rs[j]? = some (adR K ik e p m)) (k : ∀ H', M (da K (.ref p) (eD ik e m) :: Rs.eraseIdx j) H' -> Q v H') : FzK Q v H := by
 obtain ⟨kvs, S1⟩ := adR_open S j hj
 exact .inr ⟨p, .dK kvs, S1.got 0 rfl, trivial, λ od => k _ (adR_frz S1)⟩
end
end RC
namespace RC
open PySem PySem.Spec PyProof.Rows L2
def leS (a b : Str) : Bool := !ltCps b.cps.toList a.cps.toList
def srtS' (xs : List Str) : List Str := xs.mergeSort leS
section
variable {α : Type} {K : Fr} {e : α -> PyData} {Rs : List Res} {H : Hp} {Q : VK} {p : Addr}
theorem dqAll_ints : ∀ xs : List Int, DqAll K H (xs.map V.int) (xs.map eI)
 | [] => .nil
 | x :: r => .cons (.int x) (dqAll_ints r)
theorem M.ownI {q : Addr} {xs : List Int} (S : M (pt q (.lst (xs.map V.int)) :: Rs) H) : M (acR K q (xs.map eI) :: Rs) H := S.own (EnF.all λ F => dqAll_ints xs)
end
end RC

namespace RC
open PySem PySem.Spec PyProof.Rows L2
section
variable {α β : Type} {K : Fr} {σ : L2.St} {H : Hp} {Q : VK} {D : Ends} {Rs : List Res} {ta tb tc te : TE} {tt s : TT} {c1 c2 : Bool} {x y z : V} {p : Addr}
def Pu (te : TE) (σ : L2.St) (H : Hp) (x : V) : Prop := ∀ P : VK, P x H -> te σ H P
def PuT (tt : TT) (σ : L2.St) (H : Hp) (c : Bool) : Prop := ∀ P : Bool -> Hp -> Prop, P c H -> tt σ H P
theorem g_andP {P : Bool -> Hp -> Prop} (h1 : PuT tt σ H c1) (h2 : PuT s σ H c2) (k : P (c1 && c2) H) : tAnd tt s σ H P := h1 _ (by
 cases c1 with
 | true => exact h2 _ k
 | false => exact k)
theorem g_orP {P : Bool -> Hp -> Prop} (h1 : PuT tt σ H c1) (h2 : PuT s σ H c2) (k : P (c1 || c2) H) : tOr tt s σ H P := h1 _ (by
 cases c1 with
 | true => exact k
 | false => exact h2 _ k)
theorem g_andVP (h1 : Pu ta σ H (.bl c1)) (h2 : Pu tb σ H (.bl c2)) (k : Q (.bl (c1 && c2)) H) : tAndV ta tb σ H Q := h1 _ ⟨c1, rfl, by
 cases c1 with
 | true => exact h2 _ k
 | false => exact k⟩
theorem g_chainP {r r' : R2} (ha : Pu ta σ H x) (hb : Pu tb σ H y) (h1 : ∀ P : VK, P (.bl c1) H -> r x y H P) (hc : Pu tc σ H z) (h2 : ∀ P : VK, P (.bl c2) H -> r' y z H P) (k : Q (.bl (c1 && c2)) H) : tChain r r' ta tb tc σ H Q :=
 ha _ (hb _ (h1 _ ⟨c1, rfl, by
   cases c1 with
   | true => exact hc _ (h2 _ k)
   | false => exact k⟩))
theorem tt_cut {P : Bool -> Hp -> Prop} {m : (Bool -> Prop) -> Prop} {KK : Bool -> Prop} (hf : jn m KK) (Inv : Hp -> Prop) (h1 : ∀ (kk : Bool -> Prop) (P' : Bool -> Hp -> Prop), (∀ c H, kk c -> Inv H -> P' c H) -> m kk -> tt σ H P')
   (h2 : ∀ c H, KK c -> Inv H -> P c H) : tt σ H P := h1 KK P h2 hf
theorem te_cut {m : (Bool -> Prop) -> Prop} {KK : Bool -> Prop} (hf : jn m KK) (Inv : Hp -> Prop) (h1 : ∀ (kk : Bool -> Prop) (P' : VK), (∀ c H, kk c -> Inv H -> P' (.bl c) H) -> m kk -> te σ H P')
   (h2 : ∀ c H, KK c -> Inv H -> Q (.bl c) H) : te σ H Q := h1 KK Q h2 hf
theorem M.gotO {ds : List PyData} (S : M Rs H) (j : Nat) (hj : Rs[j]? = some (acR K p ds)) : Dq K H (.ref p) (.list ds) := by
 obtain ⟨vs, S1⟩ := (S.at j hj).ex
 exact .lst (SqL.of (S1.sp.got 0 rfl)) (S1.sp.gotAA 1 rfl)
abbrev EqOk (d : PyData) : Prop := SeqAt.shaped d = true
theorem EqOk.nodict {d : PyData} (h : EqOk d) : d.hasDict = false := PyData.hasDict_of_canLay d (SeqAt.canLay_of_shaped h)
theorem v_eqq {d e : PyData} (h1 : Dq K H x d) (h2 : Dq K H y e) (s1 : EqOk d) (s2 : EqOk e) (k : Q (.bl (PyData.eqv d e)) H) : uEq K x y H Q := v_eqD (h1.dp s1.nodict) (h2.dp s2.nodict) s1 s2 k
theorem v_neq {d e : PyData} (h1 : Dq K H x d) (h2 : Dq K H y e) (s1 : EqOk d) (s2 : EqOk e) (k : Q (.bl (!PyData.eqv d e)) H) : uNe K x y H Q := v_neD (h1.dp s1.nodict) (h2.dp s2.nodict) s1 s2 k
theorem M.openT3 {γ δ ε : Type} {e : γ -> PyData} {f : δ -> PyData} {g : ε -> PyData} {v : V} {q : γ × δ × ε} (S : M Rs H) (j : Nat) (hj : Rs[j]? = some (da K v (eT3 e f g q))) : ∃ a u w y, v = .ref a /\ SqT K H a [u, w, y] /\ M (da K u (e q.1) :: da K w (f q.2.1) :: da K y (g q.2.2) :: Rs) H := by
 obtain ⟨F, L, s, m⟩ := S
 cases EnF.at j hj F L s with
 | tup a t =>
   cases t with
   | cons d1 t =>
     cases t with
     | cons d2 t =>
       cases t with
       | cons d3 t =>
         cases t
         exact ⟨_, _, _, _, rfl, m.ex.sqT a, F, L, ⟨[], L, rfl, ⟨rfl, d1⟩, [], L, rfl, ⟨rfl, d2⟩, [], L, rfl, ⟨rfl, d3⟩, s⟩, m⟩
theorem v_itLe {a : Addr} {xs : List V} {v : V} {R : It -> Hp -> Prop} (e : v = .ref a) (h : SqL K H a xs) (k : R (Itl K a) H) : ItL K R v H := ⟨a, e, ⟨xs, h⟩, k⟩
theorem sqL_ty {a : Addr} {xs : List V} (h : SqL K H a xs) : TyX K H (.ref a) (.type "list") := by
 rcases h with (h | ⟨o, h⟩) | ⟨o, its, n, h, hc, _⟩
 · exact .base (.lst h)
 · exact .base (.frz h)
 · exact .kList h hc
theorem sqT_ty {a : Addr} {xs : List V} (h : SqT K H a xs) : TyX K H (.ref a) (.type "tuple") := by
 rcases h with (h | ⟨o, h⟩) | ⟨o, its, n, h, hc, _⟩
 · exact .base (.tup h)
 · exact .fTuple h
 · exact .kTuple h hc
def tyN : PyData -> String
 | .none => "NoneType"
 | .bool _ => "bool"
 | .int _ => "int"
 | .str _ => "str"
 | .list _ => "list"
 | .tuple _ => "tuple"
 | .dict _ => "dict"
def isA (c : String) (d : PyData) : Bool := decide (tyN d = c) || (decide (tyN d = "bool") && decide (c = "int"))
def rIsiD (K : Fr) : List V -> Hp -> VK -> Prop := λ xs H Q => ∃ (a : Addr) (kvs : List (Key × V)) (c : V) (u : Value) (b : Bool), xs = [.ref a, c] /\ ClsV c u /\ Rd H a (.dK kvs) /\ PySem.W.kitOne K (.type "dict") u = some b /\ Q (.bl b) H
theorem cr_isiD {X : Cx} : CallR X (.builtin "isinstance") (rIsiD X.K) := by
 intro pins s σ H xs us Q I r h
 obtain ⟨a, kvs, c, u, b, rfl, hc, hr, e, q⟩ := h
 obtain ⟨u1, u2, rfl, r1, r2⟩ := vals2 r
 cases (show u1 = Value.ref a from r1)
 have e2 := hc.eq r2
 subst e2
 obtain ⟨_, _, vs, _, o, es, ep, h1, h2, _⟩ := dk_rd I.hok hr
 exact PySem.W.kia_one PySem.W.kitx_dict I.kIn ⟨o, h1, h2.1⟩ e (λ z => nomatch z) λ tk => ⟨.bl b, H, I.tok tk, rfl, q⟩
def uIsi (K : Fr) : List V -> Hp -> VK -> Prop := λ xs H Q => rIsi K xs H Q \/ rIsiD K xs H Q
theorem cr_isiQ {X : Cx} : CallR X (.builtin "isinstance") (uIsi X.K) := call_isi.or cr_isiD
theorem Dn.ty {v : V} {d : PyData} (h : Dn K H v d) : TyX K H v (.type (tyN d)) \/ (∃ a kvs, v = .ref a /\ Rd H a (.dK kvs) /\ tyN d = "dict") := by
 cases h with
 | non => exact .inl (.base .non)
 | bl b => exact .inl (.base (.bl b))
 | int i => exact .inl (.base (.int i))
 | str x => exact .inl (.base (.str x))
 | lst h _ => exact .inl (sqL_ty h)
 | tup h _ => exact .inl (sqT_ty h)
 | dct h _ => exact .inr ⟨_, _, rfl, h, rfl⟩
theorem kit_all : ∀ t ∈ ["NoneType", "bool", "int", "str", "list", "tuple", "dict"], ∀ c ∈ ["int", "bool", "str", "list", "tuple", "dict"], kitB t c = some (decide (t = c) || (decide (t = "bool") && decide (c = "int"))) := by decide +kernel
theorem v_isq {v : V} {d : PyData} {c : String} {b : Bool} (h : Dn K H v d) (hc : c ∈ ["int", "bool", "str", "list", "tuple", "dict"]) (hb : isA c d = b) (k : Q (.bl b) H) : uIsi K [v, .ty c] H Q := by
 subst hb
 have kk := kit_ty (K := K) (kit_all (tyN d) (by cases d <;> simp [tyN]) c hc)
 rcases h.ty with z | ⟨a, kvs, rfl, hr, e⟩
 · exact .inl (v_isi z kk k)
 · rw [e] at kk
   refine .inr ⟨a, kvs, .ty c, _, _, rfl, .ty c, hr, kk, ?_⟩
   unfold isA at k
   rw [e] at k
   exact k
theorem M.spN2 {A B : Res} (S : M (sp2 A B :: Rs) H) : M (A :: B :: Rs) H := S.sp
theorem M.spN3 {A B C : Res} (S : M (sp2 A (sp2 B C) :: Rs) H) : M (A :: B :: C :: Rs) H := M.sub (.cons 2 rfl (.refl _)) (S.sp.at 1 rfl).spN2
theorem M.spN4 {A B C E : Res} (S : M (sp2 A (sp2 B (sp2 C E)) :: Rs) H) : M (A :: B :: C :: E :: Rs) H := M.sub (.cons 3 rfl (.refl _)) (S.sp.at 1 rfl).spN3
theorem M.spM2 {A B : Res} (S : M (A :: B :: Rs) H) : M (sp2 A B :: Rs) H := S.sp'
theorem M.spM3 {A B C : Res} (S : M (A :: B :: C :: Rs) H) : M (sp2 A (sp2 B C) :: Rs) H := ((M.spM2 (M.sub (.cons 1 rfl (.cons 1 rfl (.refl _))) S)).at 1 rfl).sp'
theorem M.spM4 {A B C E : Res} (S : M (A :: B :: C :: E :: Rs) H) : M (sp2 A (sp2 B (sp2 C E)) :: Rs) H := ((M.spM3 (M.sub (.cons 1 rfl (.cons 1 rfl (.cons 1 rfl (.refl _)))) S)).at 1 rfl).sp'
end
end RC

namespace RC
open PySem PySem.Spec PyProof.Rows L2
structure Fl {α : Type} (e : α -> PyData) (sv : α -> V) : Prop where
 to : ∀ {K : Fr} {H : Hp} {v : V} {x : α}, Dq K H v (e x) -> v = sv x
 of : ∀ (K : Fr) (H : Hp) (x : α), Dq K H (sv x) (e x)
theorem flI : Fl eI V.int := ⟨Dq.intV, λ _ _ x => .int x⟩
theorem flS : Fl eS V.str := ⟨Dq.strV, λ _ _ x => .str x⟩
theorem flB : Fl eB V.bl := ⟨Dq.blV, λ _ _ x => .bl x⟩
def Brw (R : Res) (K : Fr) (v : V) (d : PyData) : Prop := ∀ Rs H, M (R :: Rs) H -> Dq K H v d
section
variable {α β : Type} {e : α -> PyData} {sv : α -> V} {K : Fr} {σ : L2.St} {H : Hp} {Q : VK} {D : Ends} {Rs : List Res} {v w : V} {xs ys : List α} {p : Addr}
theorem Brw.da {d : PyData} : Brw (da K v d) K v d := λ _ _ S => S.gotA 0 rfl
theorem Brw.ac {ds : List PyData} : Brw (acR K p ds) K (.ref p) (.list ds) := λ _ _ S => S.gotO 0 rfl
theorem Fl.all (f : Fl e sv) : ∀ {vs : List V} {xs : List α}, DqAll K H vs (xs.map e) -> vs = xs.map sv
 | _, [], h => by cases h; rfl
 | _, x :: r, h => by
   cases h with
   | cons a t => rw [f.to a, Fl.all f t]; rfl
theorem Fl.ofA (f : Fl e sv) : ∀ xs : List α, DqAll K H (xs.map sv) (xs.map e)
 | [] => .nil
 | x :: r => .cons (f.of K H x) (Fl.ofA f r)
theorem Fl.lst (f : Fl e sv) (d : Dq K H v (eL e xs)) : ∃ a, v = .ref a /\ SqL K H a (xs.map sv) := by
 cases d with
 | lst h q => exact ⟨_, rfl, by rw [<- f.all q]; exact h⟩
theorem v_ixN (f : Fl e sv) (d : Dq K H v (eL e xs)) {i : Int} {x : α} (hx : atI xs i = some x) (k : Q (sv x) H) : uIx K v (.int i) H Q := by
 obtain ⟨a, rfl, h⟩ := f.lst d
 exact v_ixL h (atI_map hx) k
theorem v_lenN (d : Dq K H v (eL e xs)) (k : Q (.int (xs.length : Nat)) H) : uLen K [v] H Q := by
 cases d with
 | lst h q =>
   have := q.len
   rw [List.length_map] at this
   exact v_lenL h (by rw [this]; exact k)
theorem M.ownF (f : Fl e sv) {q : Addr} (S : M (pt q (.lst (xs.map sv)) :: Rs) H) : M (acR K q (xs.map e) :: Rs) H := S.own (EnF.all λ F => f.ofA xs)
theorem v_liN (f : Fl e sv) (S : M Rs H) (d : Dq K H v (eL e xs)) (k : ∀ p H', M (acR K p (xs.map e) :: Rs) H' -> Q (.ref p) H') : rListOf K [v] H Q := by
 obtain ⟨a, rfl, h⟩ := f.lst d
 exact v_list S (.inl h) λ p H' S' => k p H' (S'.ownF f)
theorem cutV_map (f : α -> V) (xs : List α) (lo hi : Option Int) : cutV (xs.map f) lo hi = (cutL xs lo hi).map f := cutL_map f xs lo hi
theorem v_slN (f : Fl e sv) (S : M Rs H) (d : Dq K H v (eL e xs)) {lo hi : Option Int} (k : ∀ p H', M (acR K p ((cutL xs lo hi).map e) :: Rs) H' -> Q (.ref p) H') : uSl K v lo hi H Q := by
 obtain ⟨a, rfl, h⟩ := f.lst d
 refine v_slL S h λ p H' S' => k p H' ?_
 rw [cutV_map] at S'
 exact S'.ownF f
theorem v_catN (f : Fl e sv) (S : M Rs H) (d : Dq K H v (eL e xs)) (d2 : Dq K H w (eL e ys)) (hz : xs.length + ys.length <= 100000) (k : ∀ p H', M (acR K p ((xs ++ ys).map e) :: Rs) H' -> Q (.ref p) H') : uAdd K v w H Q := by
 obtain ⟨a, rfl, h⟩ := f.lst d
 obtain ⟨b, rfl, h2⟩ := f.lst d2
 refine v_catS S h h2 (by rw [List.length_map, List.length_map]; exact hz) λ p H' S' => k p H' ?_
 rw [<- List.map_append] at S'
 exact S'.ownF f
theorem for_N (f : Fl e sv) {F : α -> β -> (β -> Prop) -> Prop} {s0 : β} {KK : β -> Prop} {g : TG} {tb : TS} (hf : forD F xs s0 KK) (Inv : β -> L2.St -> Hp -> Prop) (h0 : Inv s0 σ H)
   (hrd : ∀ s σ H, Inv s σ H -> Dq K H v (eL e xs))
   (hs : ∀ x s σ H (kk : β -> Prop), Inv s σ H -> F x s kk -> g (sv x) σ H λ σ2 H2 => tb ⟨λ σ H => ∃ s', kk s' /\ Inv s' σ H, D.rt, D.nx, λ σ H => ∃ s', kk s' /\ Inv s' σ H⟩ σ2 H2)
   (hd : ∀ s σ H, KK s -> Inv s σ H -> D.nx σ H) : ItL K (λ J H1 => ForW J g tb D σ H1) v H := by
 obtain ⟨a, rfl, h⟩ := f.lst (hrd s0 σ H h0)
 have hrd' : ∀ s σ H, Inv s σ H -> SqL K H a (xs.map sv) := λ s σ H h => by
   obtain ⟨b, eb, q⟩ := f.lst (hrd s σ H h)
   cases eb
   exact q
 refine v_itL h (for_lst (e := e) hf Inv h0 (λ s σ H h => ⟨hrd' s σ H h, f.ofA xs⟩) (λ i v x s σ H kk h hv hx hF => ?_) hd)
 rw [List.getElem?_map, hx] at hv
 cases hv
 exact hs x s σ H kk h hF
theorem lc_N (f : Fl e sv) {te : TE} {tt : TT} {g : TG} {ws : List Nat} {F : α -> (Option β -> Prop) -> Prop} {e' : β -> PyData} {KK : List β -> Prop} (hf : xs.length <= 100000 /\ lcD F xs [] KK) (S : M Rs H) (hrd : ∀ H, M Rs H -> Dq K H v (eL e xs))
   (hs : ∀ x (acc : List β) E H (kk : Option β -> Prop) (N : Hp -> Prop), (acc.map e').length < 100000 -> M (acR K E (acc.map e') :: Rs) H -> F x kk ->
     (∀ y H, kk (some y) -> M (acR K E (acc.map e' ++ [e' y]) :: Rs) H -> N H) -> (∀ H, kk none -> M (acR K E (acc.map e') :: Rs) H -> N H) -> g (sv x) (wipe σ ws) H λ σ2 H2 => wipe σ2 ws = wipe σ ws /\ tt σ2 H2 λ b H3 =>
     if b = true then te σ2 H3 (LcK N E) else N H3)
   (hd : ∀ E (acc : List β) H, KK acc -> M (acR K E (acc.map e') :: Rs) H -> Q (.ref E) H) : ItL K (λ J H1 => LcW J g tt te ws σ Q H1) v H := by
 obtain ⟨a, rfl, h⟩ := f.lst (hrd H S)
 refine v_itL h (lc_lst (e := e) hf S (λ H S => ⟨?_, f.ofA xs⟩) (λ i v x acc E H kk N hl S hv hx hF k1 k2 => ?_) hd)
 · obtain ⟨b, eb, q⟩ := f.lst (hrd H S)
   cases eb
   exact q
 · rw [List.getElem?_map, hx] at hv
   cases hv
   exact hs x acc E H kk N hl S hF k1 k2
end
end RC

namespace RC
open PySem PySem.Spec PyProof.Rows L2 SeqAt
section
variable {prog : Program} {w : World}
theorem tupEq (p q : Addr) (xs ys : Array Value) (m k : Nat) (dp dq : Option Addr) (tp tq : Array (Option Value)) (hz : xs.size = ys.size) : MeetsIn prog w (Builtin.«tuple.__eq__» ⟨[.ref p, .ref q], []⟩) (λ A R s => s.heap.get? p = some ⟨.type "tuple", dp, .seq xs m, tp⟩ /\ s.heap.get? q = some ⟨.type "tuple", dq, .seq ys k, tq⟩ /\
   (∀ j (i1 : j < xs.size) (i2 : j < ys.size), EqP prog w A.in1 s xs[j] ys[j] true) /\ R (.ok (.ret (.bool true))) s) := by
 intro A R s hh
 obtain ⟨h0, g0, d0, t0, o0⟩ := s
 obtain ⟨e1, e2, he, hR⟩ := hh
 have sb := AutoSeq1.sub_tuple_tuple
 have hl : (xs.toList.zip ys.toList).length = xs.size := by simp [hz]
 wp_walk using wpAny_loadPart' e1, wpAny_loadPart' e2, wpAny_forIn_list _ (λ r b s' => b.1 = none /\ s' = ⟨h0, g0, d0, t0, o0⟩ /\ ∃ i, r = (xs.toList.zip ys.toList).drop i) _
 case turn =>
   rintro ⟨x, y⟩ r b s' ⟨hb, rfl, i, hi⟩
   have lt : i < (xs.toList.zip ys.toList).length := by
     rcases Nat.lt_or_ge i (xs.toList.zip ys.toList).length with z | z
     · exact z
     · rw [List.drop_of_length_le z] at hi
       cases hi
   rw [List.drop_eq_getElem_cons lt] at hi
   obtain ⟨hxy, hr⟩ := List.cons.inj hi
   have i1 : i < xs.size := by omega
   have i2 : i < ys.size := by omega
   have ex : x = xs[i] := by simpa using congrArg Prod.fst hxy
   have ey : y = ys[i] := by simpa using congrArg Prod.snd hxy
   subst ex ey
   refine wpAny_bind (he i i1 i2 _ _ ?_)
   wp_walk
   exact ⟨rfl, rfl, i + 1, hr⟩
 case fin =>
   rintro ⟨b1, b2⟩ s' ⟨hb, rfl, i, hi⟩
   simp only at hb
   subst hb
   wp_walk
   show R (.ok (.ret (.bool (xs.size == ys.size)))) _
   rw [hz]
   simpa using hR
 case h => exact ⟨rfl, rfl, 0, rfl⟩
variable {A : Around} {s : Shared} {p q : Addr} {xs ys : Array Value}
theorem rc_tupEq (hp : s.heap.IsTuple p xs) (hq : s.heap.IsTuple q ys) (hz : xs.size = ys.size) (hu : A.units < cLine) (he : ∀ j (i1 : j < xs.size) (i2 : j < ys.size), EqP prog w A.in1 s xs[j] ys[j] true) (E Q : Value -> Shared -> Prop) (h : Q (.bool true) s) :
   wpAny (model prog w) A (richCompare .Eq (.ref p) (.ref q)) Q E s := by
 obtain ⟨⟨c1, d1, a1, b1⟩, o1, k1, n1, z1⟩ := id hp
 obtain ⟨⟨c2, d2, a2, b2⟩, o2, k2, n2, z2⟩ := id hq
 simp only at k1 z1 k2 z2
 subst k1 z1 k2 z2
 have t1 : s.TypeIs (.ref p) "tuple" := ⟨_, o1, rfl⟩
 have t2 : s.TypeIs (.ref q) "tuple" := ⟨_, o2, rfl⟩
 exact wpAny_richCompare_same_room (op := .Eq) t1 t2 F.slot_tuple_eq (call_meetsIn F.slot_tuple_eq t1 F.entry_tuple_eq (F.args_tuple_eq_2 _ _) (tupEq p q xs ys n1 n2 d1 d2 b1 b2 hz) ⟨o1, o2, he, (λ x => nomatch x), h⟩) hu
end
section
variable {prog : Program} {w : World} {A : Around} {s : Shared} {K : Type} [DecidableEq K] {knd : KeyKind prog w K}
end
end RC

namespace RC
open PySem PySem.Spec PyProof.Rows L2
def SysD (h : Heap) : Prop := ∃ o es ep, h.get? sysModules = some o /\ o.data = .dict es ep
def NDX (h : Heap) : Prop := h.NoDigits /\ SysD h
theorem SysD.keep {h h' : Heap} (x : SysD h) (k : ∀ b o, h.get? b = some o -> h'.get? b = some o) : SysD h' := by
 obtain ⟨o, es, ep, a, b⟩ := x
 exact ⟨o, es, ep, k _ _ a, b⟩
theorem SysD.ne {h : Heap} (x : SysD h) {a : Addr} {o : Obj} {vs : Array Value} {n : Nat} (e : h.get? a = some o) (d : o.data = .seq vs n) : a ≠ sysModules := by
 rintro rfl
 obtain ⟨o', es, ep, a1, b1⟩ := x
 rw [e] at a1
 cases a1
 rw [d] at b1
 cases b1
section
variable {X : Cx} {pins : List (Addr × Obj)} {σ : L2.St} {H : Hp} {s : Shared}
theorem key_reads {k : Key} {u : Value} {h : Heap} (hk : keyIs k u = true) : Reads h u (kD k) [] := by
 rcases keyIs_shape hk with ⟨i, t, rfl, rfl⟩ | ⟨x, t, rfl, rfl⟩
 · exact .int i t
 · exact .str x t
mutual
theorem Dn.reads (I : Inv X pins σ H s) (sy : SysD s.heap) : ∀ {v : V} {d : PyData}, Dn X.K H v d -> ∀ {u : Value}, RelV v u -> ∃ as, Reads s.heap u d as /\ sysModules ∉ as
 | _, _, .non, _, r => by cases r; exact ⟨_, .none, by simp⟩
 | _, _, .bl b, _, r => by cases r; exact ⟨_, .bool b, by simp⟩
 | _, _, .int i, _, r => by obtain ⟨t, rfl⟩ := r; exact ⟨_, .int i t, by simp⟩
 | _, _, .str x, _, r => by obtain ⟨t, rfl⟩ := r; exact ⟨_, .str x t, by simp⟩
 | _, _, .lst h q, _, r => by
   cases r
   obtain ⟨its, rv, ⟨o, n, ho, hc, _, hd⟩, _⟩ := I.list h
   obtain ⟨as, hr, hn⟩ := DnAll.reads I sy q rv
   refine ⟨_, .list ho hc hd hr, ?_⟩
   intro z
   rcases List.mem_cons.mp z with z | z
   · exact sy.ne ho hd z.symm
   · exact hn z
 | _, _, .tup h q, _, r => by
   cases r
   obtain ⟨its, rv, ⟨o, ho, hc, n, hd⟩, _⟩ := I.tuple h
   obtain ⟨as, hr, hn⟩ := DnAll.reads I sy q rv
   exact ⟨_, .tuple ho hc hd hr, hn⟩
 | _, _, .dct h q, _, r => by
   cases r
   obtain ⟨_, hm, vs, rv, o, es, ep, ho, hx, hd, hk, hp, _⟩ := dk_rd I.hok h
   obtain ⟨as, bs, h1, h2, n1, n2⟩ := DnKv.reads I sy q rv hp
   refine ⟨_, .dict ho hx.1 hd h1 h2, ?_⟩
   intro z
   rcases List.mem_cons.mp z with z | z
   · rw [<- z] at hm
     simp at hm
   · rcases List.mem_append.mp z with z | z
     · exact n1 z
     · exact n2 z
theorem DnAll.reads (I : Inv X pins σ H s) (sy : SysD s.heap) : ∀ {vs : List V} {ds : List PyData}, DnAll X.K H vs ds -> ∀ {us : List Value}, Vals vs us -> ∃ as, ReadsAll s.heap us ds as /\ sysModules ∉ as
 | _, _, .nil, _, r => by cases r; exact ⟨_, .nil, by simp⟩
 | _, _, .cons h t, _, r => by
   cases r with
   | cons r1 r2 =>
     obtain ⟨as, h1, n1⟩ := Dn.reads I sy h r1
     obtain ⟨bs, h2, n2⟩ := DnAll.reads I sy t r2
     exact ⟨_, .cons h1 h2, by simp [n1, n2]⟩
theorem DnKv.reads (I : Inv X pins σ H s) (sy : SysD s.heap) : ∀ {kvs : List (Key × V)} {ds : List (PyData × PyData)}, DnKv X.K H kvs ds -> ∀ {vs : List (Key × Value)} {es : List DictEntry}, KV kvs vs -> Pairs (mixKind X.prog X.w) es vs ->
   ∃ as bs, ReadsAll s.heap (es.map (·.key)) (ds.map (·.1)) as /\ ReadsAll s.heap (es.map (·.val)) (ds.map (·.2)) bs /\ sysModules ∉ as /\ sysModules ∉ bs
 | _, _, .nil, _, _, r, p => by
   cases r
   cases p
   exact ⟨_, _, .nil, .nil, by simp, by simp⟩
 | _, _, .cons h t, _, _, r, p => by
   cases r with
   | cons r1 r2 =>
     cases p with
     | cons k1 v1 p2 =>
       obtain ⟨e1, e2⟩ := r1
       obtain ⟨as, bs, h1, h2, n1, n2⟩ := DnKv.reads I sy t r2 p2
       rw [<- v1] at e2
       obtain ⟨cs, h3, n3⟩ := Dn.reads I sy h e2
       rw [<- e1] at k1
       exact ⟨_, _, .cons (key_reads k1) h1, .cons h3 h2, by simpa using n1, by simp [n3, n2]⟩
end
end
section
variable {X : Cx}
theorem SysD.now {pins : List (Addr × Obj)} {σ : L2.St} {H : Hp} {s : Shared} (x : SysD X.base) (I : Inv X pins σ H s) : SysD s.heap := x.keep λ b o e => (I.env0.bs b o e).1
def rReprQ (K : Fr) : List V -> Hp -> VK -> Prop := λ xs H Q => ∃ v d, xs = [v] /\ Dn K H v d /\ d.showable = true /\ d.depth <= 60 /\ d.shown.length <= sizeLine /\ Q (.str d.shown) H
theorem cr_reprQ (hy : SysD X.base) (hg : X.A.guards = some []) (hu : X.A.units + 64 < cLine) : CallR X (.builtin "repr") (rReprQ X.K) := by
 intro pins s σ H xs us Q I r h
 obtain ⟨v, d, rfl, hd, hs, hp, hz, q⟩ := h
 obtain ⟨u, rfl, ru⟩ := vals1 r
 obtain ⟨as, rd, ns⟩ := hd.reads I (hy.now I) ru
 cases hd with
 | non =>
   cases (show u = Value.none from ru)
   refine PySem.P.repr_of_none ⟨.str _, H, I.tok _, ⟨_, rfl⟩, ?_⟩
   simpa only [PyData.shown] using q
 | bl b =>
   cases (show u = Value.bool b from ru)
   refine PySem.P.repr_of_bool ⟨.str _, H, I.tok _, ⟨_, rfl⟩, ?_⟩
   simpa only [PyData.shown] using q
 | int i =>
   obtain ⟨t, rfl⟩ := ru
   refine PySem.P.repr_of_int (by simpa [PyData.showable] using hs) ⟨.str _, H, I.tok _, ⟨_, rfl⟩, ?_⟩
   simpa only [PyData.shown] using q
 | str x =>
   obtain ⟨t, rfl⟩ := ru
   refine PySem.P.repr_of_str ⟨.str _, H, I.tok _, ⟨_, rfl⟩, ?_⟩ (by simpa only [PyData.shown] using hz)
   simpa only [PyData.shown] using q
 | lst h1 h2 =>
   cases ru
   exact repr_of_reads' rd hs (λ _ => ns) hg (by omega) (λ _ _ e => e) (λ h' u tk k => ⟨.str _, H, I.kept k, ⟨_, rfl⟩, q⟩) hz
 | tup h1 h2 =>
   cases ru
   exact repr_of_reads' rd hs (λ _ => ns) hg (by omega) (λ _ _ e => e) (λ h' u tk k => ⟨.str _, H, I.kept k, ⟨_, rfl⟩, q⟩) hz
 | dct h1 h2 =>
   cases ru
   exact repr_of_reads' rd hs (λ _ => ns) hg (by omega) (λ _ _ e => e) (λ h' u tk k => ⟨.str _, H, I.kept k, ⟨_, rfl⟩, q⟩) hz
end
def EqQ (K : Fr) (H : Hp) (E : V -> V -> Prop) (x y : V) : Prop := EqR K H E x y \/
 (∃ a b ks ls, x = .ref a /\ y = .ref b /\ Rd H a (.dK ks) /\ Rd H b (.dK ls) /\ ks.length = ls.length /\ ∀ p ∈ ks, ∃ u, valV ls p.1 = some u /\ E p.2 u) \/
 ∃ a b xs ys, x = .ref a /\ y = .ref b /\ SqT K H a xs /\ SqT K H b ys /\ Paired E xs ys
theorem eqQ_run {X : Cx} {pins : List (Addr × Obj)} {σ : L2.St} {H : Hp} {s : Shared} (I : Inv X pins σ H s) {A : Around} {F : V -> V -> Prop} (hu : A.units < cLine)
   (ih : ∀ x y v u, F x y -> RelV x v -> RelV y u -> SeqAt.EqP X.prog X.w A.in1 s v u true) {x y : V} {v u : Value} (h : EqQ X.K H F x y) (rx : RelV x v) (ry : RelV y u) (E Q : Value -> Shared -> Prop) (q : Q (.bool true) s) :
   wpAny (model X.prog X.w) A (richCompare .Eq v u) Q E s := by
 rcases h with h | ⟨a, b, ks, ls, rfl, rfl, ha, hb, hl, hp⟩ | ⟨a, b, xs, ys, rfl, rfl, ha, hb, hp⟩
 · exact eqR_run I hu ih h rx ry E Q q
 · obtain rfl : v = Value.ref a := rx
   obtain rfl : u = Value.ref b := ry
   obtain ⟨_, na, wa, ka, oa⟩ := dk_rd I.hok ha
   obtain ⟨_, nb, wb, kb, ob⟩ := dk_rd I.hok hb
   have hz : wa.length = wb.length := by rw [<- ka.length, <- kb.length]; exact hl
   refine PySem.W.rcP_dicts na nb oa ob hu (λ _ => hits_run ih kb ka hp) E Q ?_
   simpa [hz] using q
 · obtain rfl : v = Value.ref a := rx
   obtain rfl : u = Value.ref b := ry
   obtain ⟨us, r1, p1, _⟩ := I.tuple ha
   obtain ⟨ws, r2, p2, _⟩ := I.tuple hb
   have hsz : us.toArray.size = ws.toArray.size := by
     rw [List.size_toArray, List.size_toArray, <- r1.length, <- r2.length]
     exact Paired.length hp
   refine rc_tupEq p1 p2 hsz hu (λ j h1 h2 => ?_) E Q q
   simpa using items_run ih hp r1 r2 j (by simpa using h1) (by simpa using h2)
def EqW (K : Fr) (H : Hp) : Nat -> V -> V -> Prop
 | 0 => λ _ _ => False
 | n + 1 => λ x y => (∃ d, Dp K H x d /\ Dp K H y d /\ SeqAt.shaped d = true) \/ EqQ K H (EqW K H n) x y
theorem shaped_depth {d : PyData} (h : SeqAt.shaped d = true) : d.canLay0 = true /\ d.depth <= 64 := by
 unfold SeqAt.shaped at h
 rw [Bool.and_eq_true] at h
 exact ⟨h.1, of_decide_eq_true h.2⟩
section
variable {X : Cx} {pins : List (Addr × Obj)} {σ : L2.St} {H : Hp} {s : Shared}
theorem eqW_run (I : Inv X pins σ H s) : ∀ (n : Nat) (A : Around), A.units + n + 65 < cLine -> ∀ (x y : V) (v u : Value), EqW X.K H n x y -> RelV x v -> RelV y u -> SeqAt.EqP X.prog X.w A s v u true
 | 0, _, _, _, _, _, _, h, _, _ => (show False from h).elim
 | n + 1, A, hu, x, y, v, u, h, rx, ry => by
   rcases h with ⟨d, d1, d2, sh⟩ | h
   · obtain ⟨as, r1⟩ := Dp.reads I d x v d1 rx
     obtain ⟨bs, r2⟩ := Dp.reads I d y u d2 ry
     have hd := shaped_depth sh
     have := SeqAt.eqAt_reads d d A s v u as bs r1 r2 hd.1 hd.1 (by omega)
     rw [SeqAt.eqv_refl d hd.1] at this
     exact this.eqP
   · have step := eqQ_run I (A := A) (by omega) (eqW_run I n A.in1 (by show A.units + 1 + n + 65 < cLine; omega)) h rx ry
     obtain ⟨a, b, rfl, rfl⟩ : ∃ a b, x = .ref a /\ y = .ref b := by
       rcases h with (⟨a, b, _, _, e1, e2, _⟩ | ⟨a, b, _, _, e1, e2, _⟩) | ⟨a, b, _, _, e1, e2, _⟩ | ⟨a, b, _, _, e1, e2, _⟩
       · exact ⟨a, b, e1, e2⟩
       · exact ⟨a, b, e1, e2⟩
       · exact ⟨a, b, e1, e2⟩
       · exact ⟨a, b, e1, e2⟩
     cases (show v = Value.ref a from rx)
     cases (show u = Value.ref b from ry)
     by_cases e : a = b
     · subst e
       exact (SeqAt.EqAt.same _).eqP
     · exact SeqAt.eqP_refs e step
end
mutual
def dOk : PyData -> Prop
 | .list ds => dOkA ds
 | .dict kvs => (kvs.map (·.1)).Nodup /\ dOkK kvs
 | .tuple ds => dOkA ds
 | .none => True
 | .bool _ => True
 | .int _ => True
 | .str x => SeqAt.shaped (.str x) = true
def dOkA : List PyData -> Prop
 | [] => True
 | d :: r => dOk d /\ dOkA r
def dOkK : List (PyData × PyData) -> Prop
 | [] => True
 | p :: r => dOk p.2 /\ dOkK r
end
section
variable {K : Fr} {H : Hp}
theorem kD_inj {a b : Key} (h : kD a = kD b) : a = b := by
 cases a <;> cases b <;> simp [kD] at h <;> rw [h]
theorem DnKv.key : ∀ {kvs : List (Key × V)} {ds : List (PyData × PyData)}, DnKv K H kvs ds -> ds.map (·.1) = (kvs.map (·.1)).map kD
 | _, _, .nil => rfl
 | _, _, .cons h t => by
   have := DnKv.key t
   simp only [List.map_cons] at this ⊢
   rw [this]
theorem nd_of_map {γ δ : Type} (f : γ -> δ) : ∀ {l : List γ}, (l.map f).Nodup -> l.Nodup
 | [], _ => List.nodup_nil
 | x :: r, h => by
   rw [List.map_cons, List.nodup_cons] at h
   exact List.nodup_cons.mpr ⟨λ z => h.1 (List.mem_map.mpr ⟨x, z, rfl⟩), nd_of_map f h.2⟩
theorem valV_nd : ∀ {ls : List (Key × V)} {i : Nat} {k : Key} {u : V}, (ls.map (·.1)).Nodup -> ls[i]? = some (k, u) -> valV ls k = some u
 | [], i, k, u, _, h => by simp at h
 | q :: r, 0, k, u, _, h => by
   cases (Option.some.inj (show some q = some (k, u) from h))
   exact valV_pos rfl
 | q :: r, i + 1, k, u, nd, h => by
   have nd' := List.nodup_cons.mp nd
   have h' : r[i]? = some (k, u) := by simpa using h
   rw [valV_neg]
   · exact valV_nd nd'.2 h'
   · intro e
     exact nd'.1 (List.mem_map.mpr ⟨(k, u), List.mem_of_getElem? h', e.symm⟩)
mutual
theorem Dn.eqW : ∀ {x y : V} {d : PyData} {n : Nat}, Dn K H x d -> Dn K H y d -> dOk d -> d.depth < n -> EqW K H n x y
 | _, _, _, 0, _, _, _, hn => absurd hn (Nat.not_lt_zero _)
 | _, _, _, n + 1, .non, h, _, _ => by cases h; exact .inl ⟨_, .non, .non, by decide⟩
 | _, _, _, n + 1, .bl b, h, _, _ => by cases h; exact .inl ⟨_, .bl b, .bl b, by cases b <;> decide⟩
 | _, _, _, n + 1, .int i, h, _, _ => by cases h; exact .inl ⟨_, .int i, .int i, rfl⟩
 | _, _, _, n + 1, .str z, h, ok, _ => by cases h; exact .inl ⟨_, .str z, .str z, ok⟩
 | _, _, _, n + 1, .tup a q, h, ok, hn => by
   cases h with
   | tup b q2 => exact .inr (.inr (.inr ⟨_, _, _, _, rfl, rfl, a, b, DnAll.eqW q q2 ok (by simpa [PyData.depth] using hn)⟩))
 | _, _, _, n + 1, .lst a q, h, ok, hn => by
   cases h with
   | lst b q2 => exact .inr (.inl (.inl ⟨_, _, _, _, rfl, rfl, a, b, DnAll.eqW q q2 ok (by simpa [PyData.depth] using hn)⟩))
 | _, _, _, n + 1, .dct (ds := ds) a q, h, ok, hn => by
   cases h with
   | @dct _ kvs2 _ b q2 =>
     have ok' : (ds.map (·.1)).Nodup /\ dOkK ds := ok
     have hl : PyData.depthKv ds < n := by simpa [PyData.depth] using hn
     obtain ⟨h1, h2⟩ := DnKv.eqW q q2 ok'.2 hl
     refine .inr (.inr (.inl ⟨_, _, _, _, rfl, rfl, a, b, h1, λ p hp => ?_⟩))
     obtain ⟨i, hi⟩ := List.getElem?_of_mem hp
     obtain ⟨u, hu, hw⟩ := h2 i p hi
     refine ⟨u, ?_, hw⟩
     have nd : (kvs2.map (·.1)).Nodup := by
       have := ok'.1
       rw [q2.key] at this
       exact nd_of_map _ this
     exact valV_nd nd hu
theorem DnKv.eqW : ∀ {xs ys : List (Key × V)} {ds : List (PyData × PyData)} {n : Nat}, DnKv K H xs ds -> DnKv K H ys ds -> dOkK ds -> PyData.depthKv ds < n ->
   xs.length = ys.length /\ ∀ (i : Nat) (p : Key × V), xs[i]? = some p -> ∃ u, ys[i]? = some (p.1, u) /\ EqW K H n p.2 u
 | _, _, _, _, .nil, h, _, _ => by
   cases h
   exact ⟨rfl, λ i p h => by simp at h⟩
 | _, _, _, n, .cons (k := k) (d := d) a t, h, ok, hn => by
   generalize hds : ((kD k, d) :: _ : List (PyData × PyData)) = dd at h
   cases h with
   | nil => cases hds
   | cons a2 t2 =>
     injection hds with e1 e2
     injection e1 with e3 e4
     have e5 := kD_inj e3
     subst e5
     subst e4
     subst e2
     have hn' := hn
     simp only [PyData.depthKv] at hn'
     obtain ⟨h1, h2⟩ := DnKv.eqW (n := n) t t2 ok.2 (by omega)
     refine ⟨by rw [List.length_cons, List.length_cons, h1], λ i p hp => ?_⟩
     cases i with
     | zero =>
       cases hp
       exact ⟨_, rfl, Dn.eqW a a2 ok.1 (show d.depth < n by omega)⟩
     | succ i =>
       obtain ⟨u, hu, hw⟩ := h2 i p (by simpa using hp)
       exact ⟨u, by simpa using hu, hw⟩
theorem DnAll.eqW : ∀ {xs ys : List V} {ds : List PyData} {n : Nat}, DnAll K H xs ds -> DnAll K H ys ds -> dOkA ds -> PyData.depthAll ds < n -> Paired (EqW K H n) xs ys
 | _, _, _, _, .nil, h, _, _ => by cases h; exact .nil
 | _, _, _, _, .cons a t, h, ok, hn => by
   cases h with
   | cons a2 t2 =>
     have hn' := hn
     simp only [PyData.depthAll] at hn'
     exact .cons (Dn.eqW a a2 ok.1 (by omega)) (DnAll.eqW t t2 ok.2 (by omega))
end
end
section
variable {X : Cx}
def rEqW (K : Fr) : R2 := λ x y H Q => ∃ d, Dn K H x d /\ Dn K H y d /\ dOk d /\ d.depth <= 60 /\ Q (.bl true) H
theorem op_eqW (hu : X.A.units + 128 < cLine) : OpR X (compareOp .Eq) (rEqW X.K) := by
 intro pins s σ H x y v u Q I rx ry h
 obtain ⟨d, d1, d2, ok, hd, q⟩ := h
 have w := Dn.eqW (n := 61) d1 d2 ok (by omega)
 rcases w with ⟨d', e1, e2, sh⟩ | w
 · refine op_eqD (X := X) (by omega) pins s σ H x y v u Q I rx ry ⟨d', d', e1, e2, sh, sh, ?_⟩
   rw [SeqAt.eqv_refl d' (shaped_depth sh).1]
   exact q
 · exact eqQ_run I (A := X.A) (by omega) (eqW_run I 60 X.A.in1 (by show X.A.units + 1 + 60 + 65 < cLine; omega)) w rx ry _ _ ⟨.bl true, H, I, rfl, q⟩
def uEqQ (K : Fr) : R2 := λ x y H Q => uEq K x y H Q \/ rEqW K x y H Q
theorem uo_eqQ (hu : X.A.units + 128 < cLine) : OpR X (compareOp .Eq) (uEqQ X.K) := (uo_eq (by omega)).or (op_eqW hu)
theorem units128 {k : Nat} {A : Around} (hr : Room k A) : A.units + 128 < cLine := by
 have := hr.un
 have := hr.dp
 omega
end
end RC

namespace RC
open PySem PySem.Spec PyProof.Rows L2
section
variable {κ α : Type} {K : Fr} {ik : κ -> Key} {e : α -> PyData} {m : List (κ × α)} {Rs : List Res} {H : Hp} {Q : VK} {σ : L2.St} {D : Ends} {p : Addr}
abbrev OE := Str × Addr × List Int
variable {es : List OE} {om : List (Str × List Int)}
def rDictP (K : Fr) : List V -> Hp -> VK -> Prop := λ xs H Q => ∃ (a : Addr) (ps : List Addr) (kvs : List (Key × V)), xs = [.ref a] /\ SqL K H a (ps.map V.ref) /\ Paired (λ p kv => SqT K H p [kV kv.1, kv.2]) ps kvs /\ ∀ p, H p = none -> Q (.ref p) (upd H p (.dK (mergeK [] kvs)))
theorem cr_dictP {X : Cx} (h : X.calm = true) : CallR X (.type "dict") (rDictP X.K) := call_dictP h
def dOf {κ γ : Type} [DecidableEq κ] (ps : List (κ × γ)) : List (κ × γ) := ps.foldl (λ acc q => pk acc q.1 q.2) []
end
section
variable {α β : Type} {K : Fr} {e : α -> PyData} {Rs : List Res} {H : Hp} {Q : VK} {σ : L2.St} {D : Ends} {p : Addr}
end
def jn2 {β γ : Type} (m : (β -> γ -> Prop) -> Prop) (k : β -> γ -> Prop) : Prop := m k
theorem tt_cutM {β : Type} {tt : TT} {σ : L2.St} {H : Hp} {P : Bool -> Hp -> Prop} {m : (Bool -> β -> Prop) -> Prop} {KK : Bool -> β -> Prop} (hf : jn2 m KK) (Inv : β -> Hp -> Prop) (h1 : ∀ (kk : Bool -> β -> Prop) (P' : Bool -> Hp -> Prop), (∀ c s H, kk c s -> Inv s H -> P' c H) -> m kk -> tt σ H P')
   (h2 : ∀ c s H, KK c s -> Inv s H -> P c H) : tt σ H P := h1 KK P h2 hf
theorem Dn.by_ {K : Fr} {H : Hp} {v : V} {d e : PyData} (h : d = e) (q : Dn K H v e) : Dn K H v d := h ▸ q
structure AlkOk (d : PyData) : Prop where
 ok : dOk d
 sh : d.showable = true
 dp : d.depth <= 60
 ln : d.shown.length <= sizeLine
structure ShQ (dp bk : Nat) (d : PyData) : Prop where
 ok : dOk d
 sh : d.showable = true
 lf : d.leavesShort 400 = true
 dp : d.depth <= dp
 bk : d.bulk <= bk
theorem ShQ.alk {dp bk : Nat} {d : PyData} (h : ShQ dp bk d) (h1 : dp <= 60) (h2 : bk <= 40000) : AlkOk d := by
 refine ⟨h.ok, h.sh, Nat.le_trans h.dp h1, ?_⟩
 have z := PyData.shown_le_bulk 400 (by decide) d h.lf
 have b := h.bk
 rw [sizeLine_eq]
 omega
theorem ShQ.up {dp bk dp' bk' : Nat} {d : PyData} (h : ShQ dp bk d) (h1 : dp <= dp') (h2 : bk <= bk') : ShQ dp' bk' d := ⟨h.ok, h.sh, h.lf, Nat.le_trans h.dp h1, Nat.le_trans h.bk h2⟩
theorem log2_lt {n : Int} (h : n.natAbs < 2 ^ 1000) : n.natAbs.log2 < 1920 := by
 rcases Nat.eq_zero_or_pos n.natAbs with e | e
 · rw [e]
   decide
 · have := (Nat.log2_lt (by omega)).mpr h
   omega
theorem ShQ.int {n : Int} (h : n.natAbs < 2 ^ 1000) : ShQ 0 0 (.int n) := by
 have l := log2_lt h
 refine ⟨trivial, by simpa [PyData.showable] using l, ?_, by simp [PyData.depth], by simp [PyData.bulk]⟩
 have q : (2 : Nat) ^ 1000 < 10 ^ 310 := by decide +kernel
 have z : (PySem.Str.ofString (toString n)).length <= 311 := by
   have := int_text_length_le10 (a := n) (k := 310) (by decide) (by omega)
   rw [PySem.ofString_length]
   exact this
 simp only [PyData.leavesShort, PyData.shown]
 exact decide_eq_true (Nat.le_trans z (show 311 <= 400 by decide))
theorem ShQ.all {dp bk : Nat} : ∀ {ds : List PyData}, (∀ d ∈ ds, ShQ dp bk d) -> dOkA ds /\ PyData.showableAll ds = true /\ PyData.leavesShortAll 400 ds = true /\ PyData.depthAll ds <= dp /\ PyData.bulkAll ds <= ds.length * (bk + 1)
 | [], _ => ⟨trivial, rfl, rfl, Nat.zero_le _, by simp [PyData.bulkAll]⟩
 | d :: ds, h => by
   have a := h d List.mem_cons_self
   obtain ⟨h0, h1, h2, h3, h4⟩ := ShQ.all λ x hx => h x (List.mem_cons_of_mem _ hx)
   refine ⟨⟨a.ok, h0⟩, by simp [PyData.showableAll, a.sh, h1], by simp [PyData.leavesShortAll, a.lf, h2], ?_, ?_⟩
   · simp only [PyData.depthAll]
     have := a.dp
     omega
   · simp only [PyData.bulkAll, List.length_cons]
     have := a.bk
     rw [Nat.add_mul]
     omega
theorem ShQ.list {dp bk : Nat} {ds : List PyData} (h : ∀ d ∈ ds, ShQ dp bk d) : ShQ (dp + 1) (ds.length * (bk + 1)) (.list ds) := by
 obtain ⟨h0, h1, h2, h3, h4⟩ := ShQ.all h
 refine ⟨h0, by simpa [PyData.showable] using h1, by simpa [PyData.leavesShort] using h2, ?_, by simpa [PyData.bulk] using h4⟩
 simp only [PyData.depth]
 omega
end RC

namespace RC
open PySem PySem.Spec PyProof.Rows L2
theorem walk_S {l : PySem.W.OpenLaw} {n k : Nat} {q : Program} {loose : List Str} {XP : (Str -> Option Value) -> Heap -> Prop} {YP : World -> Heap -> Prop} {d : DefRec} {CX : World -> CXT} {x : Str}
   (hi : importsNone q = true) (hn : l.most = some n) (hn2 : n <= sizeLine) (hdf : d.params.defaults = []) (hr : Room k callerA)
   (F : ∀ (w : World) (mg : Str -> Option Value) (fa : Addr) (h : Heap), YP w h -> h.Ns mainGlobals mg -> mg d.name = some (.ref fa) ->
     ∃ (K : Fr) (fd : FuncData) (sp : Sp), K.In h /\ (∀ (s : Shared) (u : Value), BindsTo s fd ⟨[u], []⟩ [(x, u)]) /\
       (∀ (H : Hp) (a : Addr) (ns : List Int), ns.length <= n -> SqL K H a (ns.map V.int) -> sp [.ref a] H (λ v _ => v = .bl true) λ _ _ _ => False) /\
       ∀ base : Heap, K.In base -> base.Ns mainGlobals mg -> NDX base -> FnX true l.prog w K mg base (CX w) k fa fd [x] sp)
   (hCX : ∀ (w : World) (H : Hp) (s : Shared) (e : Value) (s' : Shared), CX w [] H s (λ _ _ _ => False) e s' -> False) :
   PySem.W.WalkO q loose XP YP l.row.toRowW d [] (λ f vs => PySem.call f vs) := by
 refine Att.attach_call hn hdf ?_
 intro w s0 s1 mg mb fa o pm cd doc a vs ns G Y ho hd hcd hmg hobj hints hlen hgen
 obtain ⟨K, fd, sp, KX, hb, hsp, hF⟩ := F w mg fa _ Y G.T.g hmg
 exact law_callN KX G.T.g G.T.b G.T.builtins G.T.nolimit (λ h' kp => ⟨nd_keep G.T.nodigits kp, by
     obtain ⟨mm, ⟨o, es, ep, e, d, _⟩, _⟩ := (G.T.seer hi).mods
     exact ⟨o, es, ep, kp _ _ _ _ e d, d⟩⟩) hgen hobj hints
   (Nat.le_trans hlen hn2) hr hF hb (λ H hS => hsp H a ns hlen hS) (λ H e s' => hCX w H s1 e s')
end RC

namespace RC
open PySem PySem.Spec PyProof.Rows L2
def lcS {α β γ : Type} (f : α -> γ -> (Option β -> γ -> Prop) -> Prop) : List α -> γ -> List β -> (List β -> γ -> Prop) -> Prop
 | [], s, acc, k => k acc s
 | x :: xs, s, acc, k => f x s λ y s' => lcS f xs s' (acc ++ y.toList) k
def isNo : PyData -> Bool
 | .none => true
 | _ => false
def anyAt : PyData -> Int -> Option PyData
 | .list ds, i => atI ds i
 | .tuple ds, i => atI ds i
 | _, _ => none
section
variable {α β γ : Type} {K : Fr} {Rs : List Res} {H : Hp} {σ : L2.St} {Q : VK} {D : Ends} {v w : V} {d d' : PyData} {p : Addr} {e : α -> PyData} {xs ys : List α}
theorem M.cstA (S : M Rs H) (i : Nat) (h0 : Rs[i]? = some (da K v d)) (h : d = d') : M (da K v d' :: Rs) H := h ▸ M.addA S (EnF.at i h0)
theorem v_ixa {i : Int} {x : PyData} (S : M Rs H) (j : Nat) (hj : Rs[j]? = some (da K v d)) (hx : anyAt d i = some x) (k : ∀ u, M (da K u x :: Rs) H -> Q u H) : uIx K v (.int i) H Q := by
 cases d with
 | list ds => exact v_ixq S (.inl (EnF.at j hj)) hx k
 | tuple ds => exact v_ixq S (.inr (EnF.at j hj)) hx k
 | _ => cases hx
theorem isNo_eq (h : Dq K H v d) : isNo d = decide (v = .non) := by
 cases h <;> simp [isNo]
theorem v_notNa (h : Dq K H v d) (k : Q (.bl (!isNo d)) H) : rNotN v .non H Q := ⟨rfl, by rw [<- isNo_eq h]; exact k⟩
theorem v_dpopA {κ : Type} {ik : κ -> Key} {tb : TE} {m : List (κ × α)} (S : M Rs H) (j : Nat) (hj : Rs[j]? = some (adR K ik e p m)) (k : tb σ H (PopV p Q)) : Pop1K tb σ Q (.ref p) H := by
 obtain ⟨kvs, h, t⟩ := S.gotDk j hj
 exact v_dpop h k
theorem popd_core {κ : Type} [DecidableEq κ] {ik : κ -> Key} {m : List (κ × α)} {k : κ} {x : α} (inj : ∀ a b, ik a = ik b -> a = b) (S : M Rs H) (j : Nat) (hj : Rs[j]? = some (adR K ik e p m)) (hx : lk m k = some x) :
   ∃ kvs u, H p = some (.dK kvs) /\ valV kvs (ik k) = some u /\ M (da K u (e x) :: adR K ik e p (dk m k) :: Rs.eraseIdx j) (upd H p (.dK (dropK kvs (ik k)))) := by
 obtain ⟨kvs, S1⟩ := adR_open S j hj
 have S2 := S1.putAt (o' := .dK (dropK kvs (ik k))) 0 rfl
 obtain ⟨F, L, ⟨l1, l2, rfl, a, l3, l4, rfl, ⟨rfl, t⟩, b⟩, mm⟩ := id S2
 obtain ⟨u, h1, h2⟩ := t.some inj hx
 exact ⟨kvs, u, S1.got 0 rfl, h1, F, _, ⟨[], _, rfl, ⟨rfl, h2⟩, l1, l4, by simp, ⟨_, l1, [], by simp, a, rfl, t.drop inj⟩, b⟩, mm⟩
theorem v_popAI {m : List (Int × α)} {n : Int} {x : α} (S : M Rs H) (j : Nat) (hj : Rs[j]? = some (adR K iI e p m)) (hx : lk m n = some x) (k : ∀ u H', M (da K u (e x) :: adR K iI e p (dk m n) :: Rs.eraseIdx j) H' -> Q u H') : PopV p Q (.int n) H := by
 obtain ⟨kvs, u, h1, h2, S2⟩ := popd_core injI S j hj hx
 exact ⟨kvs, Sum.inl n, u, h1, rfl, h2, k u _ S2⟩
theorem v_hdY {W : WX} {cs : List Value} {sl : Option Nat} {ts : Addr -> Value -> Option Addr -> TS} {r : List Hd} {cls : Value} {dd : Option Addr} (h : PySem.W.exmAny K cls cs = some true) (k : ∀ a, ts a cls dd (Hd.ends D sl) (Hd.put σ a sl) H) : wTry K W D (⟨cs, sl, ts⟩ :: r) cls dd σ H :=
 ⟨true, h, λ _ a _ => k a, λ z => nomatch z⟩
theorem g_xgv {a C dd : Addr} {fs : List (Str × V)} {n : Str} {i : Nat} (hv : σ[i]? = some (some (.ref a))) (c : ExcC K C) (hn : PySem.W.findIn K (.ref C) n = some none) (h : H dd = some (.xd fs)) (l : fs.lookup n = some v) (k : Q v H) : tXg K a (.ref C) (some dd) n (tVar i) σ H Q :=
 g_xg (g_var hv (v_xg c hn h l k))
end
end RC

namespace RC
open PySem PySem.Spec PyProof.Rows L2
section
variable {X : Cx} {CX : CXT} {g : Bool} {k n : Nat} {f C : Addr} {fd : FuncData} {ps ks : List Str} {sp : Sp} {W : WX} {x m : Str} {p pos apos : Pos} {o e : Expr} {es : List Expr} {kws : List Keyword} {t tk : TA} {ta : TE} {gg : List Value -> List Value -> List Value} {gV : List V -> List V -> List V}
end
theorem Sat.got {F : Hp} : ∀ {Rs : List Res} {L : List Cell} (i : Nat) {R : Res}, Sat F Rs L -> Rs[i]? = some R -> ∃ l, R.on F l /\ ∀ c ∈ l, c ∈ L
 | [], L, i, R, _, e => by simp at e
 | S :: Rs, L, 0, R, ⟨l1, l2, h, a, _⟩, e => by
   have e : S = R := Option.some.inj e
   subst e
   exact ⟨l1, a, λ c hc => h ▸ List.mem_append_left _ hc⟩
 | S :: Rs, L, i + 1, R, ⟨l1, l2, h, _, b⟩, e => by
   obtain ⟨l, h1, h2⟩ := Sat.got i b (by simpa using e)
   exact ⟨l, h1, λ c hc => h ▸ List.mem_append_right _ (h2 c hc)⟩
section
variable {K : Fr} {κ α β : Type} {ik : κ -> Key} {e : α -> PyData} {Rs : List Res} {H : Hp} {Q : VK} {v : V} {p : Addr} {m : List (κ × α)} {σ : L2.St}
def DVs (K : Fr) (Rs : List Res) (H : Hp) (ik : κ -> Key) (e : α -> PyData) (v : V) (m : List (κ × α)) : Prop :=
 ∃ p kvs F L, v = .ref p /\ Rd H p (.dK kvs) /\ Sat F Rs L /\ MemC F L H /\ TKv K F ik e kvs m
theorem DqKv.tkv : ∀ {kvs : List (Key × V)} {m : List (κ × α)}, DqKv K H kvs (m.map λ p => (kD (ik p.1), e p.2)) -> TKv K H ik e kvs m
 | [], [], _ => .nil
 | [], q :: m, h => by cases h
 | _ :: _, [], h => by cases h
 | (k, v) :: kvs, q :: m, h => by
   generalize e1 : (((q :: m).map λ p => (kD (ik p.1), e p.2)) : List (PyData × PyData)) = ds at h
   cases h with
   | cons h r =>
     simp only [List.map_cons, List.cons.injEq, Prod.mk.injEq] at e1
     obtain ⟨⟨a, b⟩, c⟩ := e1
     subst b c
     cases kD_inj a
     exact .cons h (DqKv.tkv r)
theorem M.dvO (S : M Rs H) (j : Nat) (hj : Rs[j]? = some (adR K ik e p m)) : DVs K Rs H ik e (.ref p) m := by
 obtain ⟨F, L, s, mm⟩ := S
 obtain ⟨l, ⟨kvs, l1, l2, rfl, rfl, rfl, t⟩, hl⟩ := s.got j hj
 exact ⟨p, kvs, F, L, rfl, .inl (mm.own (p, .dK kvs) (hl _ (by simp))).1, s, mm, t⟩
theorem M.dvA (S : M Rs H) (j : Nat) (hj : Rs[j]? = some (da K v (eD ik e m))) : DVs K Rs H ik e v m := by
 obtain ⟨F, L, s, mm⟩ := S
 obtain ⟨l, ⟨rfl, h⟩, hl⟩ := s.got j hj
 cases h with
 | dct h q => exact ⟨_, _, F, L, rfl, .inr ⟨_, mm.ex _ _ h⟩, s, mm, q.tkv⟩
inductive DF where
 | own
 | lck (p : Addr) (od : Obj) (kvs : List (Key × V))
 | dat
 | fzd (p : Addr) (od : Obj) (kvs : List (Key × V))
theorem DVs.len (D : DVs K Rs H ik e v m) (k : Q (.int (m.length : Nat)) H) : uLen K [v] H Q := by
 obtain ⟨p, kvs, F, L, rfl, h, _, _, t⟩ := D
 exact .inr ⟨p, kvs, rfl, h, by rw [t.len]; exact k⟩
variable [DecidableEq κ]
theorem DVs.at (inj : ∀ a b, ik a = ik b -> a = b) {k : κ} {x : α} (D : DVs K Rs H ik e v m) (hx : lk m k = some x) : ∃ p kvs u, v = .ref p /\ Rd H p (.dK kvs) /\ valV kvs (ik k) = some u /\ M (da K u (e x) :: Rs) H := by
 obtain ⟨p, kvs, F, L, rfl, h, s, mm, t⟩ := D
 obtain ⟨u, h1, h2⟩ := t.some inj hx
 exact ⟨p, kvs, u, rfl, h, h1, F, L, ⟨[], L, rfl, ⟨rfl, h2⟩, s⟩, mm⟩
theorem DVs.has (inj : ∀ a b, ik a = ik b -> a = b) (k : κ) (D : DVs K Rs H ik e v m) : ∃ p kvs, v = .ref p /\ Rd H p (.dK kvs) /\ (valV kvs (ik k)).isSome = (lk m k).isSome := by
 obtain ⟨p, kvs, F, L, rfl, h, s, mm, t⟩ := D
 exact ⟨p, kvs, rfl, h, t.isSome inj k⟩
end
section
variable {K : Fr} {α β : Type} {e : α -> PyData} {Rs : List Res} {H : Hp} {Q : VK} {v : V} {p : Addr} {σ : L2.St}
theorem d_ixI {m : List (Int × α)} {n : Int} {x : α} (D : DVs K Rs H iI e v m) (hx : lk m n = some x) (k : ∀ u, M (da K u (e x) :: Rs) H -> Q u H) : rIxK v (.int n) H Q := by
 obtain ⟨p, kvs, u, rfl, h, h1, S⟩ := D.at injI hx
 exact ⟨p, u, rfl, .inl ⟨kvs, Sum.inl n, h, rfl, h1.symm⟩, k u S⟩
theorem d_ninI {m : List (Int × α)} {n : Int} (D : DVs K Rs H iI e v m) (k : Q (.bl (!(lk m n).isSome)) H) : uNotIn K (.int n) v H Q := by
 obtain ⟨p, kvs, rfl, h, e⟩ := D.has injI n
 exact .inr (.inr (.inl ⟨p, _, rfl, .inl ⟨kvs, Sum.inl n, h, rfl, rfl⟩, by rw [show (Sum.inl n : Key) = iI n from rfl, e]; exact k⟩))
theorem d_dict {κ : Type} {ik : κ -> Key} {m : List (κ × α)} (D : DVs K Rs H ik e v m) (k : ∀ q H', M (adR K ik e q m :: Rs) H' -> Q (.ref q) H') : rDictD [v] H Q := by
 obtain ⟨p, kvs, F, L, rfl, h, s, mm, t⟩ := D
 refine ⟨p, kvs, rfl, h, λ q hn => k q _ ?_⟩
 have S1 : M (tkR K ik e kvs m :: Rs) H := ⟨F, L, ⟨[], L, rfl, ⟨rfl, t⟩, s⟩, mm⟩
 exact adR_close (S1.new hn)
end
def tLkE (t : TE) : TE := λ σ H Q => t σ H Q \/ tLockE t σ H Q
theorem pe_lk {X : Cx} {x : Expr} {t : TE} (h : PE X x t) : PE X x (tLkE t) := ⟨λ pins s σ H Q I hw => hw.elim (λ q => h.run pins s σ H Q I q) (λ q => (pe_lock h).run pins s σ H Q I q)⟩
section
variable {K : Fr} {κ α β : Type} {ik : κ -> Key} {e : α -> PyData} {Rs : List Res} {H : Hp} {Q : VK} {v : V} {p : Addr} {m : List (κ × α)} {σ : L2.St} {od : Obj} {kvs : List (Key × V)}
theorem keys_at {sv : κ -> V} (hsv : ∀ q, kV (ik q) = sv q) (hk : kvs.map (·.1) = (ks m).map ik) {i : Nat} {k : Key} {u : V} (h : kvs[i]? = some (k, u)) : ∃ hi : i < (ks m).length, kV k = sv (ks m)[i] := by
 have h1 : (kvs.map (·.1))[i]? = some k := by rw [List.getElem?_map, h]; rfl
 rw [hk, List.getElem?_map] at h1
 rcases Nat.lt_or_ge i (ks m).length with hi | hi
 · rw [List.getElem?_eq_getElem hi] at h1
   have h1 : ik (ks m)[i] = k := Option.some.inj h1
   exact ⟨hi, by rw [<- h1]; exact hsv _⟩
 · rw [List.getElem?_eq_none hi] at h1
   cases h1
theorem lc_fz {te : TE} {tt : TT} {g : TG} {ws : List Nat} {F : κ -> (Option β -> Prop) -> Prop} {e' : β -> PyData} {KK : List β -> Prop} {R : Res} {sv : κ -> V} (hsv : ∀ q, kV (ik q) = sv q) (hk : kvs.map (·.1) = (ks m).map ik) (hf : (ks m).length <= 100000 /\ lcD F (ks m) [] KK)
   (S : M (R :: Rs) H) (hfr : ∀ Rs H, M (R :: Rs) H -> H p = some (.frz od (.dK kvs)))
   (hs : ∀ x (acc : List β) E H (kk : Option β -> Prop) (N : Hp -> Prop), (acc.map e').length < 100000 -> M (acR K E (acc.map e') :: R :: Rs) H -> F x kk ->
     (∀ y H, kk (some y) -> M (acR K E (acc.map e' ++ [e' y]) :: R :: Rs) H -> N H) -> (∀ H, kk none -> M (acR K E (acc.map e') :: R :: Rs) H -> N H) -> g (sv x) (wipe σ ws) H λ σ2 H2 => wipe σ2 ws = wipe σ ws /\ tt σ2 H2 λ b H3 =>
     if b = true then te σ2 H3 (LcK N E) else N H3)
   (hd : ∀ E (acc : List β) H, KK acc -> M (acR K E (acc.map e') :: R :: Rs) H -> Q (.ref E) H) : LcW (Itk p od kvs) g tt te ws σ Q H := by
 obtain ⟨hz, hf⟩ := hf
 have hl : kvs.length = (ks m).length := by
   have := congrArg List.length hk
   simpa using this
 refine lc_X walk_keys (λ E n H => ∃ acc, lcD F ((ks m).drop n) acc KK /\ acc.length <= n /\ M (acR K E (acc.map e') :: R :: Rs) H) (λ E hE => ⟨[], by simpa using hf, Nat.le_refl _, acR_nil (S.new hE)⟩) (λ E n H _ ⟨acc, _, _, S⟩ => hfr _ _ (S.at 1 rfl)) ?_ ?_
 · rintro E n v H H' hn ⟨acc, hf, ha, S⟩ ⟨rfl, k, u, hk', rfl⟩
   obtain ⟨hn2, ek⟩ := keys_at hsv hk hk'
   rw [List.drop_eq_getElem_cons hn2] at hf
   rw [ek]
   refine hs _ acc E H' _ _ (by rw [List.length_map]; omega) S hf (λ y H hk S => ⟨acc ++ [y], hk, by rw [List.length_append]; simpa using ha, by rw [List.map_append]; exact S⟩) (λ H hk S => ⟨acc, ?_, by omega, S⟩)
   simpa using hk
 · rintro E H ⟨acc, hf, ha, S⟩
   rw [hl, List.drop_length] at hf
   exact hd E acc H hf S
theorem M.openDk (S : M (da K v (eD ik e m) :: Rs) H) : ∃ p od kvs, v = .ref p /\ kvs.map (·.1) = (ks m).map ik /\ M (fz p (.frz od (.dK kvs)) :: tkR K ik e kvs m :: Rs) H := by
 obtain ⟨F, L, ⟨l1, l2, rfl, ⟨rfl, h⟩, b⟩, mm⟩ := S
 cases h with
 | dct h q => exact ⟨_, _, _, rfl, q.tkv.keys, F, l2, ⟨[], l2, rfl, ⟨rfl, h⟩, [], l2, rfl, ⟨rfl, q.tkv⟩, b⟩, mm⟩
end
end RC

namespace RC
open PySem PySem.Spec PyProof.Rows L2
section
variable {K : Fr} {α β : Type} {e : α -> PyData} {Rs : List Res} {H : Hp} {Q : VK} {v w : V} {p : Addr} {σ : L2.St}
theorem eqvA_ints : ∀ xs ys : List Int, PyData.eqvAll (xs.map eI) (ys.map eI) = decide (xs = ys)
 | [], [] => rfl
 | [], y :: ys => by simp [PyData.eqvAll]
 | x :: xs, [] => by simp [PyData.eqvAll]
 | x :: xs, y :: ys => by
   have ih := eqvA_ints xs ys
   simp only [List.map_cons, PyData.eqvAll, ih]
   by_cases z : x = y
   · subst z
     simp [PyData.eqv]
   · simp [PyData.eqv, z]
theorem eqv_LI (xs ys : List Int) : PyData.eqv (eL eI xs) (eL eI ys) = decide (xs = ys) := eqvA_ints xs ys
theorem canL_ints : ∀ xs : List Int, PyData.canLayAll0 (xs.map eI) = true
 | [] => rfl
 | x :: xs => by
   simp only [List.map_cons, PyData.canLayAll0, canL_ints xs, Bool.and_true]
   rfl
theorem depA_ints : ∀ xs : List Int, PyData.depthAll (xs.map eI) = 0
 | [] => rfl
 | x :: xs => by
   simp only [List.map_cons, PyData.depthAll, depA_ints xs]
   rfl
theorem shaped_LI (xs : List Int) : EqOk (eL eI xs) := by
 show SeqAt.shaped (.list (xs.map eI)) = true
 unfold SeqAt.shaped
 rw [Bool.and_eq_true]
 refine ⟨?_, decide_eq_true ?_⟩
 · simp only [PyData.canLay0]
   exact canL_ints xs
 · simp only [PyData.depth, depA_ints]
   omega
theorem v_eqLI {xs ys : List Int} (h1 : Dq K H v (eL eI xs)) (h2 : Dq K H w (eL eI ys)) (k : Q (.bl (decide (xs = ys))) H) : uEq K v w H Q := v_eqq h1 h2 (shaped_LI xs) (shaped_LI ys) (by rw [eqv_LI]; exact k)
theorem v_neLI {xs ys : List Int} (h1 : Dq K H v (eL eI xs)) (h2 : Dq K H w (eL eI ys)) (k : Q (.bl (!decide (xs = ys))) H) : uNe K v w H Q := v_neq h1 h2 (shaped_LI xs) (shaped_LI ys) (by rw [eqv_LI]; exact k)
theorem cnt_bl (b : Bool) : ∀ bs : List Bool, (bs.map V.bl).countP (λ z => eqV z (.bl b)) = bs.count b
 | [] => rfl
 | x :: bs => by
   simp only [List.map_cons, List.countP_cons, List.count_cons, cnt_bl b bs]
   cases x <;> cases b <;> rfl
theorem flat_bls : ∀ bs : List Bool, (bs.map V.bl).all flatV = true
 | [] => rfl
 | x :: bs => by
   rw [List.map_cons, List.all_cons, flat_bls bs]
   rfl
theorem v_cntB {bs : List Bool} {b : Bool} (h : Dq K H v (eL eB bs)) (k : Q (.int (bs.count b : Nat)) H) : rCntV K v [.bl b] H Q := by
 obtain ⟨a, rfl, hs⟩ := flB.lst h
 exact ⟨a, bs.map V.bl, .bl b, rfl, rfl, hs, rfl, flat_bls bs, by rw [cnt_bl]; exact k⟩
theorem M.tyA {xs : List α} {φ : Prop} (S : M Rs H) (j : Nat) (hj : Rs[j]? = some (da K v (eL e xs))) (k : φ) : tyV K "list" v H /\ φ := by
 have h := S.gotA j hj
 cases h with
 | lst h q => exact ⟨.inl ⟨rfl, _, h⟩, k⟩
def KeyK (R : It -> Hp -> Prop) : VK := λ x H1 => ∃ d o, x = .ref d /\ ((∃ kvs, H1 d = some (.frz o (.dK kvs)) /\ R (Itk d o kvs) H1) \/ ∃ kvs, H1 d = some (.frz o (.dT kvs)) /\ R (Itkt d o kvs) H1)
theorem g_iKeys {td : TE} {R : It -> Hp -> Prop} (k : td σ H (KeyK R)) : iKeys td σ H R := k
theorem v_itK {R : It -> Hp -> Prop} {od : Obj} {kvs : List (Key × V)} (ev : v = .ref p) (h : H p = some (.frz od (.dK kvs))) (k : R (Itk p od kvs) H) : KeyK R v H := ⟨p, od, ev, .inl ⟨kvs, h, k⟩⟩
theorem inV_int {n : Int} : ∀ xs : List Int, inV (.int n) (xs.map V.int) = decide (n ∈ xs)
 | [] => rfl
 | x :: xs => by
   have h := inV_int (n := n) xs
   unfold inV at h ⊢
   rw [List.map_cons, List.any_cons, h]
   show (decide (x = n) || decide (n ∈ xs)) = decide (n ∈ x :: xs)
   by_cases z : x = n
   · simp [z]
   · have : ¬ n = x := λ q => z q.symm
     simp [z, this]
theorem flat_ints : ∀ xs : List Int, (xs.map V.int).all flatV = true
 | [] => rfl
 | x :: xs => by rw [List.map_cons, List.all_cons, flat_ints xs]; rfl
theorem v_inLI {n : Int} {xs : List Int} (h : Dq K H v (eL eI xs)) (k : Q (.bl (decide (n ∈ xs))) H) : uIn K (.int n) v H Q := by
 obtain ⟨a, rfl, hs⟩ := flI.lst h
 exact .inl ⟨a, _, rfl, .inl hs, rfl, flat_ints xs, by rw [inV_int]; exact k⟩
theorem v_cntBc {bs : List Bool} {b : Bool} {n : Int} (h : Dq K H v (eL eB bs)) (e : ((bs.count b : Nat) : Int) = n) (k : Q (.int n) H) : rCntV K v [.bl b] H Q := v_cntB h (by rw [e]; exact k)
theorem v_ifcT {A B : Prop} {b : Bool} (h : b = true) (k : A) : if b = true then A else B := by rw [if_pos h]; exact k
theorem v_ifcF {A B : Prop} {b : Bool} (h : b = false) (k : B) : if b = true then A else B := by rw [h]; exact k
theorem v_powc {a b n : Int} (h : (0 : Int) <= b /\ b <= 1000000 /\ a.natAbs < 2 ^ 64) (e : a ^ b.toNat = n) (k : Q (.int n) H) : uPow (.int a) (.int b) H Q := v_pow h (by rw [e]; exact k)
theorem M.drp (S : M Rs H) (i : Nat) : M (Rs.eraseIdx i) H := by
 cases h : Rs[i]? with
 | none =>
   rw [List.eraseIdx_of_length_le (by simpa using h)]
   exact S
 | some R => exact (S.at i h).tl
end
end RC

namespace RC
open PySem PySem.Spec PyProof.Rows L2
theorem forD_inv {α β : Type} {f : α -> β -> (β -> Prop) -> Prop} (Inv : Nat -> β -> Prop) : ∀ {xs : List α} {s : β} {k : β -> Prop} {n : Nat}, Inv n s ->
   (∀ (i : Nat) x s (kk : β -> Prop), xs[i]? = some x -> Inv (n + i) s -> (∀ s', Inv (n + i + 1) s' -> kk s') -> f x s kk) -> (∀ s, Inv (n + xs.length) s -> k s) -> forD f xs s k
 | [], s, k, n, h0, _, hd => hd s h0
 | x :: xs, s, k, n, h0, hs, hd => by
   refine hs 0 x s _ rfl h0 λ s' h' => ?_
   refine forD_inv Inv (n := n + 1) h' (λ i y s kk hy hi hk => ?_) (λ s hi => hd s ?_)
   · refine hs (i + 1) y s kk (by simpa using hy) ?_ λ s' hs' => hk s' ?_
     · rw [show n + (i + 1) = n + 1 + i by omega]
       exact hi
     · rw [show n + 1 + i + 1 = n + (i + 1) + 1 by omega]
       exact hs'
   · rw [List.length_cons, show n + (xs.length + 1) = n + 1 + xs.length by omega]
     exact hi
theorem lcD_map {α β : Type} {f : α -> (Option β -> Prop) -> Prop} {k : List β -> Prop} (g : α -> β) : ∀ {xs : List α} {acc : List β}, (∀ x ∈ xs, ∀ kk : Option β -> Prop, kk (some (g x)) -> f x kk) -> k (acc ++ xs.map g) -> lcD f xs acc k
 | [], acc, _, h => by simpa [lcD] using h
 | x :: xs, acc, hs, h => by
   refine hs x List.mem_cons_self _ ?_
   refine lcD_map g (λ y hy => hs y (List.mem_cons_of_mem _ hy)) ?_
   simpa using h
theorem lcD_all {α β : Type} {f : α -> (Option β -> Prop) -> Prop} {k : List β -> Prop} (G : β -> Prop) : ∀ {xs : List α} {acc : List β}, (∀ x ∈ xs, ∀ kk : Option β -> Prop, (∀ y, G y -> kk (some y)) -> f x kk) -> (∀ y ∈ acc, G y) ->
   (∀ ys, (∀ y ∈ ys, G y) -> ys.length = acc.length + xs.length -> k ys) -> lcD f xs acc k
 | [], acc, _, ha, h => h acc ha rfl
 | x :: xs, acc, hs, ha, h => by
   refine hs x List.mem_cons_self _ λ y hy => ?_
   refine lcD_all G (λ z hz => hs z (List.mem_cons_of_mem _ hz)) (λ z hz => ?_) λ ys hys hl => h ys hys ?_
   · rcases List.mem_append.mp hz with hz | hz
     · exact ha z hz
     · have : z = y := by simpa using hz
       rw [this]
       exact hy
   · rw [hl]
     simp
     omega
def GN (s : Str) : Prop := 1 <= s.length /\ s.length <= 8 /\ ∀ c ∈ s.cps.toList, 97 <= c /\ c <= 122
def GC (ns : List Int) : Prop := ns.length <= 48 /\ ∀ n ∈ ns, 0 <= n /\ n <= 999
theorem tk {n : Int} {k : Int -> Prop} (h : 0 < n /\ n < 2 ^ 62) (g : ∀ v, 0 <= v -> v < n -> k v) : takeD n k := ⟨h, g⟩
theorem atI_ex {α : Type} {xs : List α} {i : Int} (h0 : 0 <= i) (h1 : i < xs.length) : ∃ x ∈ xs, atI xs i = some x := by
 have hl : i.toNat < xs.length := by omega
 exact ⟨xs[i.toNat], List.getElem_mem hl, atI_int h0 (List.getElem?_eq_getElem hl)⟩
theorem sIx_int {n d : Nat} {i : Int} (h : 0 <= i) : HT.sIx n d (some i) = min i.toNat n := by
 have := HT.sIx_nat n d i.toNat
 rwa [show ((i.toNat : Nat) : Int) = i by omega] at this
theorem cut_lo {α : Type} {xs : List α} {i : Int} (h : 0 <= i) : cutL xs (some i) none = xs.drop i.toNat := by
 unfold cutL
 rw [sIx_int h, HT.sIx_none]
 rcases Nat.le_total i.toNat xs.length with z | z
 · rw [Nat.min_eq_left z, List.take_of_length_le]
   rw [List.length_drop]
   exact Nat.le_refl _
 · rw [Nat.min_eq_right z, List.drop_of_length_le z, List.drop_of_length_le (Nat.le_refl _), List.take_nil]
structure GF (m : List (Str × List Int)) : Prop where
 nd : (ks m).Nodup
 nm : ∀ q ∈ m, GN q.1 /\ GC q.2
 ln : m.length <= 8
theorem GF.nil : GF [] := ⟨List.nodup_nil, (λ _ h => nomatch h), by decide⟩
theorem lk_mem {κ γ : Type} [DecidableEq κ] {m : List (κ × γ)} {n : κ} {x : γ} (h : lk m n = some x) : (n, x) ∈ m := by
 unfold lk at h
 cases e : m.find? λ p => decide (p.1 = n) with
 | none => rw [e] at h; cases h
 | some q =>
   rw [e] at h
   have h1 := List.mem_of_find?_eq_some e
   have h2 : q.1 = n := by simpa using List.find?_some e
   cases h
   rw [<- h2]
   exact h1
theorem lk_some {κ γ : Type} [DecidableEq κ] {m : List (κ × γ)} {n : κ} (h : n ∈ ks m) : ∃ x, lk m n = some x := by
 induction m with
 | nil => cases h
 | cons q m ih =>
   rw [lk_cons]
   by_cases z : q.1 = n
   · exact ⟨_, if_pos z⟩
   · rw [if_neg z]
     exact ih ((List.mem_cons.mp h).resolve_left λ e => z e.symm)
theorem pk_keys {κ γ : Type} [DecidableEq κ] {m : List (κ × γ)} {n : κ} {x : γ} : ks (pk m n x) = if (lk m n).isSome then ks m else ks m ++ [n] := by
 unfold pk
 rw [any_lk]
 split
 · unfold ks
   rw [List.map_map]
   refine List.map_congr_left λ q _ => ?_
   show (if q.1 = n then (q.1, x) else q).1 = q.1
   split <;> rfl
 · simp [ks]
theorem not_mem_of_lk {κ γ : Type} [DecidableEq κ] {m : List (κ × γ)} {n : κ} (h : lk m n = none) : n ∉ ks m := λ z => by
 obtain ⟨x, e⟩ := lk_some z
 rw [h] at e
 cases e
theorem GF.put {m : List (Str × List Int)} {n : Str} {ns : List Int} (g : GF m) (hn : GN n) (hc : GC ns) (hl : (lk m n).isSome = true \/ m.length < 8) : GF (pk m n ns) := by
 refine ⟨?_, λ q hq => ?_, ?_⟩
 · rw [pk_keys]
   cases e : lk m n with
   | none =>
     simp only [Option.isSome, Bool.false_eq_true, if_false]
     exact List.nodup_append.mpr ⟨g.nd, by simp, λ a ha b hb z => not_mem_of_lk e (by rw [<- show b = n by simpa using hb, <- z]; exact ha)⟩
   | some x => exact g.nd
 · unfold pk at hq
   split at hq
   · obtain ⟨p, hp, rfl⟩ := List.mem_map.mp hq
     have := g.nm p hp
     split
     · exact ⟨this.1, hc⟩
     · exact this
   · rcases List.mem_append.mp hq with hq | hq
     · exact g.nm q hq
     · rw [show q = (n, ns) by simpa using hq]
       exact ⟨hn, hc⟩
 · unfold pk
   rw [any_lk]
   have := g.ln
   split
   · rw [List.length_map]
     exact this
   · rename_i z
     rw [List.length_append]
     simp
     rcases hl with h | h
     · exact absurd h z
     · omega
def cont (m : List (Str × List Int)) : List (Str × List Int) := (srtS' (ks m)).map λ n => (n, (lk m n).getD [])
theorem ks_len {κ γ : Type} (m : List (κ × γ)) : (ks m).length = m.length := by simp [ks]
theorem GN.shq {s : Str} (g : GN s) : ShQ 0 8 (.str s) := by
 refine ⟨?_, rfl, ?_, by simp [PyData.depth], ?_⟩
 · show SeqAt.shaped (.str s) = true
   unfold SeqAt.shaped
   rw [Bool.and_eq_true]
   refine ⟨?_, by simp [PyData.depth]⟩
   simp only [PyData.canLay0, PyData.strOk]
   rw [Array.all_eq_true']
   intro c hc
   have := g.2.2 c (by simpa using hc)
   exact decide_eq_true (by omega)
 · simp only [PyData.leavesShort, List.all_eq_true]
   intro c hc
   have := g.2.2 c hc
   exact decide_eq_true (by omega)
 · exact g.2.1
theorem GC.shq {ns : List Int} (g : GC ns) : ShQ 1 48 (eL eI ns) := by
 have h := ShQ.list (dp := 0) (bk := 0) (ds := ns.map eI) λ d hd => by
   obtain ⟨n, hn, rfl⟩ := List.mem_map.mp hd
   have := g.2 n hn
   exact ShQ.int (Nat.lt_of_lt_of_le (show n.natAbs < 2 ^ 10 by omega) (by decide))
 rw [List.length_map] at h
 exact h.up (Nat.le_refl _) (by have := g.1; omega)
theorem nd_map {α β : Type} {f : α -> β} (inj : ∀ a b, f a = f b -> a = b) : ∀ {l : List α}, l.Nodup -> (l.map f).Nodup
 | [], _ => List.nodup_nil
 | x :: r, h => by
   obtain ⟨h1, h2⟩ := List.nodup_cons.mp h
   rw [List.map_cons]
   refine List.nodup_cons.mpr ⟨λ z => ?_, nd_map inj h2⟩
   obtain ⟨y, hy, e⟩ := List.mem_map.mp z
   rw [inj _ _ e] at hy
   exact h1 hy
end RC

namespace RC
open PySem PySem.Spec PyProof.Rows L2
section
variable {κ α β γ : Type} [DecidableEq κ]
def tr (f : α -> β) (m : List (κ × α)) : List (κ × β) := m.map λ p => (p.1, f p.2)
@[simp] theorem ks_tr (f : α -> β) (m : List (κ × α)) : ks (tr f m) = ks m := by simp [ks, tr]
@[simp] theorem len_tr (f : α -> β) (m : List (κ × α)) : (tr f m).length = m.length := by simp [tr]
@[simp] theorem lk_nil (k : κ) : lk ([] : List (κ × α)) k = none := rfl
theorem lk_tr (f : α -> β) (k : κ) : ∀ m : List (κ × α), lk (tr f m) k = (lk m k).map f
 | [] => rfl
 | p :: m => by
   show lk ((p.1, f p.2) :: tr f m) k = _
   rw [lk_cons, lk_cons, lk_tr f k m]
   split <;> rfl
theorem pk_tr (f : α -> β) (m : List (κ × α)) (k : κ) (x : α) : pk (tr f m) k (f x) = tr f (pk m k x) := by
 unfold pk
 have e : ((tr f m).any λ p => decide (p.1 = k)) = (m.any λ p => decide (p.1 = k)) := by simp [tr, List.any_map, Function.comp_def]
 rw [e]
 split
 · simp only [tr, List.map_map]
   congr 1
   funext p
   simp only [Function.comp]
   split <;> rfl
 · simp [tr]
theorem dk_tr (f : α -> β) (m : List (κ × α)) (k : κ) : dk (tr f m) k = tr f (dk m k) := by
 simp [dk, tr, List.filter_map, Function.comp_def]
theorem lk_pk (m : List (κ × α)) (k j : κ) (x : α) : lk (pk m k x) j = if j = k then some x else lk m j := by
 unfold pk
 split
 · rename_i h
   induction m with
   | nil => simp at h
   | cons p m ih =>
     rw [List.map_cons, lk_cons, lk_cons]
     by_cases z : p.1 = k
     · rw [if_pos z]
       by_cases y : j = k
       · subst y
         simp [z]
       · rw [if_neg (by rw [z]; exact λ q => y q.symm), if_neg y, if_neg (by rw [z]; exact λ q => y q.symm)]
         by_cases hh : (m.any λ p => decide (p.1 = k)) = true
         · rw [ih hh, if_neg y]
         · have : m.map (λ p => if p.1 = k then (p.1, x) else p) = m := by
             rw [List.map_congr_left (g := id), List.map_id]
             intro q hq
             have : ¬ q.1 = k := λ z => hh (List.any_eq_true.mpr ⟨q, hq, by simpa using z⟩)
             simp [this]
           rw [this]
     · rw [if_neg z]
       have hh : (m.any λ p => decide (p.1 = k)) = true := by simpa [z] using h
       by_cases y : p.1 = j
       · rw [if_pos y, if_pos y, if_neg (λ q => z (y.trans q))]
       · rw [if_neg y, if_neg y, ih hh]
 · rename_i h
   induction m with
   | nil =>
     show lk ([] ++ [(k, x)]) j = _
     rw [List.nil_append, lk_cons]
     by_cases y : j = k
     · subst y; simp
     · rw [if_neg (λ q => y q.symm), if_neg y]
   | cons p m ih =>
     have hp : ¬ p.1 = k := λ z => h (by simp [z])
     have hm : ¬ (m.any λ p => decide (p.1 = k)) = true := λ z => h (by rw [List.any_cons, z]; simp)
     rw [List.cons_append, lk_cons, lk_cons, ih hm]
     by_cases y : p.1 = j
     · rw [if_pos y, if_pos y, if_neg (λ q => hp (y.trans q))]
     · rw [if_neg y, if_neg y]
theorem lk_dk (m : List (κ × α)) (k j : κ) : lk (dk m k) j = if j = k then none else lk m j := by
 induction m with
 | nil => simp [dk]
 | cons p m ih =>
   unfold dk at ih ⊢
   rw [List.filter_cons]
   by_cases z : p.1 = k
   · rw [if_neg (by simp [z]), ih, lk_cons]
     by_cases y : j = k
     · rw [if_pos y, if_pos y]
     · rw [if_neg y, if_neg y, if_neg (λ q => y (q.symm.trans z))]
   · rw [if_pos (by simp [z]), lk_cons, lk_cons, ih]
     by_cases y : p.1 = j
     · rw [if_pos y, if_pos y, if_neg (λ q => z (y.trans q))]
     · rw [if_neg y, if_neg y]
theorem ks_dk (m : List (κ × α)) (k : κ) : ks (dk m k) = (ks m).filter λ q => decide (q ≠ k) := by
 simp only [ks, dk, List.filter_map]
 rfl
theorem mem_of_lk {m : List (κ × α)} {k : κ} {x : α} (h : lk m k = some x) : k ∈ ks m := List.mem_map.mpr ⟨_, lk_mem h, rfl⟩
theorem lk_iff {m : List (κ × α)} {k : κ} : (lk m k).isSome = true ↔ k ∈ ks m := by
 constructor
 · intro h
   obtain ⟨x, hx⟩ := Option.isSome_iff_exists.mp h
   exact mem_of_lk hx
 · intro h
   obtain ⟨x, hx⟩ := lk_some h
   rw [hx]
   rfl
theorem lk_none_iff {m : List (κ × α)} {k : κ} : lk m k = none ↔ k ∉ ks m := by
 constructor
 · exact not_mem_of_lk
 · intro h
   cases e : lk m k with
   | none => rfl
   | some x => exact absurd (mem_of_lk e) h
theorem pk_new {m : List (κ × α)} {k : κ} {x : α} (h : lk m k = none) : pk m k x = m ++ [(k, x)] := by
 unfold pk
 rw [any_lk, h]
 rfl
theorem ks_pk_old {m : List (κ × α)} {k : κ} {x : α} (h : (lk m k).isSome = true) : ks (pk m k x) = ks m := by rw [pk_keys, if_pos h]
theorem nd_pk {m : List (κ × α)} {k : κ} {x : α} (h : (ks m).Nodup) : (ks (pk m k x)).Nodup := by
 rw [pk_keys]
 split
 · exact h
 · rename_i z
   have hn : k ∉ ks m := λ q => z (lk_iff.mpr q)
   exact List.nodup_append.mpr ⟨h, by simp, λ a ha b hb => by
     have : b = k := by simpa using hb
     rw [this]
     exact λ e => hn (e ▸ ha)⟩
theorem nd_dk {m : List (κ × α)} {k : κ} (h : (ks m).Nodup) : (ks (dk m k)).Nodup := by
 rw [ks_dk]
 exact h.sublist List.filter_sublist
theorem lk_of_mem {m : List (κ × α)} (nd : (ks m).Nodup) {p : κ × α} (h : p ∈ m) : lk m p.1 = some p.2 := by
 induction m with
 | nil => cases h
 | cons q m ih =>
   have nd' := List.nodup_cons.mp (show (q.1 :: ks m).Nodup from nd)
   rw [lk_cons]
   rcases List.mem_cons.mp h with rfl | h
   · rw [if_pos rfl]
   · have hq : ¬ q.1 = p.1 := λ z => nd'.1 (by rw [z]; exact List.mem_map.mpr ⟨p, h, rfl⟩)
     rw [if_neg hq, ih nd'.2 h]
theorem mem_pk {m : List (κ × α)} {k : κ} {x : α} {q : κ × α} (h : q ∈ pk m k x) : q = (k, x) \/ (q ∈ m /\ q.1 ≠ k) \/ q ∈ m := by
 unfold pk at h
 split at h
 · obtain ⟨p, hp, e⟩ := List.mem_map.mp h
   split at e
   · rename_i z
     left
     rw [<- e, z]
   · right; right
     rw [<- e]
     exact hp
 · rcases List.mem_append.mp h with h | h
   · exact .inr (.inr h)
   · left
     simpa using h
theorem mem_dk {m : List (κ × α)} {k : κ} {q : κ × α} (h : q ∈ dk m k) : q ∈ m /\ q.1 ≠ k := by
 obtain ⟨h1, h2⟩ := List.mem_filter.mp h
 exact ⟨h1, by simpa using h2⟩
theorem dk_le (m : List (κ × α)) (k : κ) : (dk m k).length <= m.length := List.length_filter_le _ _
theorem dict_ext {m n : List (κ × α)} (nd : (ks m).Nodup) (hk : ks m = ks n) (h : ∀ k, lk m k = lk n k) : m = n := by
 have nd2 : (ks n).Nodup := hk ▸ nd
 have hl : m.length = n.length := by
   have := congrArg List.length hk
   simpa [ks] using this
 apply List.ext_getElem hl
 intro i h1 h2
 have e1 : (ks m)[i]? = some (m[i]).1 := by simp [ks, h1]
 have e2 : (ks n)[i]? = some (n[i]).1 := by simp [ks, h2]
 rw [hk, e2] at e1
 have e3 := Option.some.inj e1
 have a := lk_of_mem nd (List.getElem_mem h1)
 have b := lk_of_mem nd2 (List.getElem_mem h2)
 rw [h, <- e3, b] at a
 exact Prod.ext e3.symm (Option.some.inj a).symm
end
theorem lcD_fm {α β : Type} {f : α -> (Option β -> Prop) -> Prop} {k : List β -> Prop} (g : α -> Option β) : ∀ {xs : List α} {acc : List β}, (∀ x ∈ xs, ∀ kk : Option β -> Prop, kk (g x) -> f x kk) -> k (acc ++ xs.filterMap g) -> lcD f xs acc k
 | [], acc, _, h => by simpa [lcD] using h
 | x :: xs, acc, hs, h => by
   refine hs x List.mem_cons_self _ ?_
   cases e : g x with
   | none =>
     rw [List.filterMap_cons_none e] at h
     exact lcD_fm g (λ y hy => hs y (List.mem_cons_of_mem _ hy)) (by simpa using h)
   | some y =>
     rw [List.filterMap_cons_some e] at h
     refine lcD_fm g (λ y hy => hs y (List.mem_cons_of_mem _ hy)) ?_
     rw [List.append_assoc]
     exact h
theorem lcD_filter {α : Type} {f : α -> (Option α -> Prop) -> Prop} {k : List α -> Prop} (c : α -> Bool) {xs : List α} (hs : ∀ x ∈ xs, ∀ kk : Option α -> Prop, (if c x = true then kk (some x) else kk none) -> f x kk) (h : k (xs.filter c)) : lcD f xs [] k := by
 refine lcD_fm (λ x => if c x = true then some x else none) (λ x hx kk hk => hs x hx kk ?_) ?_
 · split
   · rename_i z; rw [if_pos z] at hk; exact hk
   · rename_i z; rw [if_neg z] at hk; exact hk
 · have : xs.filterMap (λ x => if c x = true then some x else none) = xs.filter c := by
     rw [<- List.filterMap_eq_filter]
     congr 1
   rw [this]
   exact h
theorem srtI_mem {xs : List Int} {x : Int} : x ∈ srt xs ↔ x ∈ xs := (srt_perm xs).mem_iff
theorem srtI_len (xs : List Int) : (srt xs).length = xs.length := (srt_perm xs).length_eq
theorem ShQ.tup {dp bk : Nat} {ds : List PyData} (h : ∀ d ∈ ds, ShQ dp bk d) : ShQ (dp + 1) (ds.length * (bk + 1)) (.tuple ds) := by
 obtain ⟨h0, h1, h2, h3, h4⟩ := ShQ.all h
 refine ⟨h0, by simpa [PyData.showable] using h1, by simpa [PyData.leavesShort] using h2, ?_, by simpa [PyData.bulk] using h4⟩
 simp only [PyData.depth]
 omega
theorem ShQ.non : ShQ 0 0 .none := ⟨trivial, rfl, rfl, by simp [PyData.depth], by simp [PyData.bulk]⟩
theorem ShQ.bl (b : Bool) : ShQ 0 0 (.bool b) := ⟨trivial, rfl, rfl, by simp [PyData.depth], by simp [PyData.bulk]⟩
def wdb (s : Str) : Bool := SeqAt.shaped (.str s) && ((PyData.str s).showable && ((PyData.str s).leavesShort 400 && decide (s.length <= 16)))
theorem ShQ.wd {s : Str} (h : wdb s = true) : ShQ 0 16 (.str s) := by
 simp only [wdb, Bool.and_eq_true, decide_eq_true_eq] at h
 exact ⟨h.1, h.2.1, h.2.2.1, by simp [PyData.depth], h.2.2.2⟩
end RC

namespace RC
open PySem PySem.Spec PyProof.Rows L2
structure Shn (dp sz : Nat) (d : PyData) : Prop where
 ok : dOk d
 sh : d.showable = true
 dp : d.depth <= dp
 ln : d.shown.length <= sz
structure ShnA (dp sz : Nat) (ds : List PyData) : Prop where
 ok : dOkA ds
 sh : PyData.showableAll ds = true
 dp : PyData.depthAll ds <= dp
 ln : ((PyData.shownAll ds).map (·.length)).sum + 2 * ds.length <= sz
theorem Shn.up {dp sz dp' sz' : Nat} {d : PyData} (h : Shn dp sz d) (h1 : dp <= dp') (h2 : sz <= sz') : Shn dp' sz' d := ⟨h.ok, h.sh, Nat.le_trans h.dp h1, Nat.le_trans h.ln h2⟩
theorem Shn.alk {dp sz : Nat} {d : PyData} (h : Shn dp sz d) (h1 : dp <= 60) (h2 : sz <= 16000000) : AlkOk d := ⟨h.ok, h.sh, Nat.le_trans h.dp h1, Nat.le_trans h.ln (Nat.le_trans h2 (by rw [sizeLine_eq]; decide))⟩
theorem ShQ.shn {dp bk : Nat} {d : PyData} (h : ShQ dp bk d) : Shn dp (402 * bk + 400) d := by
 refine ⟨h.ok, h.sh, h.dp, ?_⟩
 have z := PyData.shown_le_bulk 400 (by decide) d h.lf
 have b := h.bk
 omega
theorem ShnA.nil : ShnA 0 0 [] := ⟨trivial, rfl, Nat.le_refl _, Nat.le_refl _⟩
theorem ShnA.up {dp sz dp' sz' : Nat} {d : List PyData} (h : ShnA dp sz d) (h1 : dp <= dp') (h2 : sz <= sz') : ShnA dp' sz' d := ⟨h.ok, h.sh, Nat.le_trans h.dp h1, Nat.le_trans h.ln h2⟩
theorem ShnA.cons {dp s s' : Nat} {d : PyData} {ds : List PyData} (a : Shn dp s d) (b : ShnA dp s' ds) : ShnA dp (s + 2 + s') (d :: ds) := by
 have h1 := a.dp
 have h2 := b.dp
 have h3 := a.ln
 have h4 := b.ln
 refine ⟨⟨a.ok, b.ok⟩, by simp [PyData.showableAll, a.sh, b.sh], ?_, ?_⟩
 · simp only [PyData.depthAll]
   omega
 · simp only [PyData.shownAll, List.map_cons, List.sum_cons, List.length_cons]
   omega
theorem ShnA.all {dp s : Nat} : ∀ {ds : List PyData}, (∀ d ∈ ds, Shn dp s d) -> ShnA dp (ds.length * (s + 2)) ds
 | [], _ => ShnA.nil.up (Nat.zero_le _) (Nat.zero_le _)
 | d :: ds, h => by
   have a := h d List.mem_cons_self
   have b := ShnA.all λ x hx => h x (List.mem_cons_of_mem _ hx)
   refine (ShnA.cons a b).up (Nat.le_refl _) ?_
   rw [List.length_cons, Nat.add_mul]
   omega
theorem ShnA.app {dp s s' : Nat} : ∀ {ds es : List PyData}, ShnA dp s ds -> ShnA dp s' es -> ShnA dp (s + s') (ds ++ es)
 | [], es, a, b => b.up (Nat.le_refl _) (by omega)
 | d :: ds, es, a, b => by
   have h1 := a.dp
   have h4 := a.ln
   have h0 := a.ok
   have hs := a.sh
   simp only [PyData.depthAll] at h1
   simp only [PyData.shownAll, List.map_cons, List.sum_cons, List.length_cons] at h4
   simp only [PyData.showableAll, Bool.and_eq_true] at hs
   have c : ShnA dp (((PyData.shownAll ds).map (·.length)).sum + 2 * ds.length) ds := ⟨h0.2, hs.2, by omega, Nat.le_refl _⟩
   have e : Shn dp d.shown.length d := ⟨h0.1, hs.1, by omega, Nat.le_refl _⟩
   exact (ShnA.cons e (ShnA.app c b)).up (Nat.le_refl _) (by omega)
theorem Shn.list {dp s : Nat} {ds : List PyData} (h : ShnA dp s ds) : Shn (dp + 1) (s + 3) (.list ds) := by
 have h1 := h.dp
 have h2 := listText_len_le (PyData.shownAll ds)
 have h3 := PyData.shownAll_length ds
 have h4 := h.ln
 refine ⟨h.ok, by simpa [PyData.showable] using h.sh, ?_, ?_⟩
 · simp only [PyData.depth]
   omega
 · simp only [PyData.shown]
   omega
theorem Shn.tup {dp s : Nat} {ds : List PyData} (h : ShnA dp s ds) : Shn (dp + 1) (s + 3) (.tuple ds) := by
 have h1 := h.dp
 have h2 := tupleText_len_le (PyData.shownAll ds)
 have h3 := PyData.shownAll_length ds
 have h4 := h.ln
 refine ⟨h.ok, by simpa [PyData.showable] using h.sh, ?_, ?_⟩
 · simp only [PyData.depth]
   omega
 · simp only [PyData.shown]
   omega
theorem Shn.listE {α : Type} {e : α -> PyData} {dp s n : Nat} {xs : List α} (h : ∀ x ∈ xs, Shn dp s (e x)) (hl : xs.length <= n) : Shn (dp + 1) (n * (s + 2) + 3) (eL e xs) := by
 have := Shn.list (ShnA.all (ds := xs.map e) (dp := dp) (s := s) λ d hd => by
   obtain ⟨x, hx, rfl⟩ := List.mem_map.mp hd
   exact h x hx)
 rw [List.length_map] at this
 exact this.up (Nat.le_refl _) (Nat.add_le_add_right (Nat.mul_le_mul_right _ hl) _)
theorem Shn.int {n : Int} (k : Nat) (h0 : 0 < k) (hk : k <= 500) (h : n.natAbs < 10 ^ k) : Shn 0 (k + 1) (.int n) := by
 have l : n.natAbs.log2 < 1920 := by
   rcases Nat.eq_zero_or_pos n.natAbs with e | e
   · rw [e]
     decide
   · refine (Nat.log2_lt (by omega)).mpr (Nat.lt_of_lt_of_le h ?_)
     exact Nat.le_trans (Nat.pow_le_pow_right (by decide) hk) (by decide +kernel)
 refine ⟨trivial, by simpa [PyData.showable] using l, by simp [PyData.depth], ?_⟩
 have := int_text_length_le10 (a := n) (k := k) h0 h
 simp only [PyData.shown]
 rw [PySem.ofString_length]
 exact this
theorem Shn.non : Shn 0 4 .none := ⟨trivial, rfl, by simp [PyData.depth], by decide⟩
theorem Shn.bl (b : Bool) : Shn 0 5 (.bool b) := ⟨trivial, rfl, by simp [PyData.depth], by cases b <;> decide⟩
theorem Shn.wd {s : Str} (h : wdb s = true) : Shn 0 200 (.str s) := by
 simp only [wdb, Bool.and_eq_true, decide_eq_true_eq] at h
 refine ⟨h.1, h.2.1, by simp [PyData.depth], ?_⟩
 have hx : ∀ c ∈ s.cps.toList, c < 16 ^ 8 := by simpa only [PyData.leavesShort, List.all_eq_true, decide_eq_true_eq] using h.2.2.1
 have e := PySem.StrLaws.reprText_len s hx
 have l : s.length <= 16 := h.2.2.2
 simp only [PyData.shown]
 omega
theorem GN.shn {s : Str} (g : GN s) : Shn 0 100 (.str s) := by
 have q := g.shq
 refine ⟨q.ok, q.sh, q.dp, ?_⟩
 have hx : ∀ c ∈ s.cps.toList, c < 16 ^ 8 := λ c hc => by
   have := (g.2.2 c hc).2
   omega
 have e := PySem.StrLaws.reprText_len s hx
 have l : s.length <= 8 := g.2.1
 simp only [PyData.shown]
 omega
theorem Shn.dict {α : Type} {e : α -> PyData} {dp s n : Nat} {m : List (Str × α)} (nd : (ks m).Nodup) (h : ∀ q ∈ m, GN q.1 /\ Shn dp s (e q.2)) (hl : m.length <= n) : Shn (dp + 1) (n * (s + 104) + 3) (eD iS e m) := by
 have key : ∀ {m : List (Str × α)}, (∀ q ∈ m, GN q.1 /\ Shn dp s (e q.2)) -> dOkK (m.map λ p => (kD (iS p.1), e p.2)) /\ PyData.showableKv (m.map λ p => (kD (iS p.1), e p.2)) = true /\
     PyData.depthKv (m.map λ p => (kD (iS p.1), e p.2)) <= dp /\ ((PyData.shownKv (m.map λ p => (kD (iS p.1), e p.2))).map (·.length)).sum + 2 * m.length <= m.length * (s + 104) := by
   intro m
   induction m with
   | nil => exact λ _ => ⟨trivial, rfl, Nat.zero_le _, Nat.zero_le _⟩
   | cons q m ih =>
     intro h
     obtain ⟨h0, h1, h3, h4⟩ := ih λ z hz => h z (List.mem_cons_of_mem _ hz)
     obtain ⟨a, b⟩ := h q List.mem_cons_self
     have sa : Shn 0 100 (kD (iS q.1)) := a.shn
     have b1 := b.ln
     have b2 := sa.ln
     have b3 := b.dp
     have b4 := sa.dp
     refine ⟨⟨b.ok, h0⟩, ?_, ?_, ?_⟩
     · simp [PyData.showableKv, sa.sh, b.sh, h1]
     · simp only [List.map_cons, PyData.depthKv]
       omega
     · have e2 : ((kD (iS q.1)).shown ++ ": " ++ (e q.2).shown).length = (kD (iS q.1)).shown.length + 2 + (e q.2).shown.length := by
         rw [PySem.strLen_append, PySem.strLen_append]
         rfl
       simp only [List.map_cons, PyData.shownKv, List.sum_cons, List.length_cons]
       rw [Nat.add_mul]
       omega
 obtain ⟨h0, h1, h3, h4⟩ := key h
 have h5 := dictText_len_le (PyData.shownKv (m.map λ p => (kD (iS p.1), e p.2)))
 have h6 := PyData.shownKv_length (m.map λ p => (kD (iS p.1), e p.2))
 rw [List.length_map] at h6
 have h7 := Nat.mul_le_mul_right (s + 104) hl
 refine ⟨⟨?_, h0⟩, by simpa [PyData.showable, eD] using h1, ?_, ?_⟩
 · rw [List.map_map]
   have e : ((λ x : PyData × PyData => x.1) ∘ λ p : Str × α => (kD (iS p.1), e p.2)) = (λ n : Str => kD (iS n)) ∘ (λ p : Str × α => p.1) := rfl
   rw [e, <- List.map_map]
   exact nd_map (λ a b z => injS _ _ (kD_inj z)) nd
 · simp only [eD, PyData.depth]
   omega
 · simp only [eD, PyData.shown]
   omega
end RC

namespace RC
open PySem PySem.Spec PyProof.Rows L2
def stp (m : Nat) : Nat -> Nat -> Nat
 | 0, i => i
 | n + 1, i => stp m n ((i * 5 + 1) % (m + 1))
structure MOk (m : Nat) : Prop where
 get : ∀ j, j <= m -> ∃ b, b < m + 1 /\ stp m b 0 = j
 back : stp m (m + 1) 0 = 0
def occ (m : Nat) (ow : Array (Option Nat)) : List Nat := (List.range (m + 1)).filterMap λ j => ow.getD j none
structure OwI (m : Nat) (ow : Array (Option Nat)) (k : Nat) : Prop where
 sz : ow.size = m + 1
 pm : (occ m ow).Perm (List.range k)
theorem fm_congr {α β : Type} {f g : α -> Option β} : ∀ {l : List α}, (∀ x ∈ l, f x = g x) -> l.filterMap f = l.filterMap g
 | [], _ => rfl
 | x :: l, h => by
   rw [List.filterMap_cons, List.filterMap_cons, h x List.mem_cons_self, fm_congr λ y hy => h y (List.mem_cons_of_mem _ hy)]
theorem fm_all {α β : Type} {f : α -> Option β} : ∀ {l : List α}, (∀ x ∈ l, (f x).isSome = true) -> (l.filterMap f).length = l.length
 | [], _ => rfl
 | x :: l, h => by
   obtain ⟨y, hy⟩ := Option.isSome_iff_exists.mp (h x List.mem_cons_self)
   rw [List.filterMap_cons_some hy, List.length_cons, List.length_cons, fm_all λ z hz => h z (List.mem_cons_of_mem _ hz)]
theorem OwI.has {m k : Nat} {ow : Array (Option Nat)} (h : OwI m ow k) (hk : k <= m) : ∃ j, j <= m /\ (ow.getD j (some 0)).isNone = true := by
 rcases Classical.em (∃ j, j <= m /\ (ow.getD j (some 0)).isNone = true) with z | z
 · exact z
 · exfalso
   have all : ∀ j ∈ List.range (m + 1), (ow.getD j none).isSome = true := λ j hj => by
     have hl := List.mem_range.mp hj
     have : ¬ (ow.getD j (some 0)).isNone = true := λ q => z ⟨j, by omega, q⟩
     have e : ow.getD j none = ow.getD j (some 0) := by simp [Array.getD, h.sz, hl]
     rw [e]
     cases q : ow.getD j (some 0) with
     | none => rw [q] at this; exact absurd rfl this
     | some y => rfl
   have l1 := fm_all all
   have l2 := h.pm.length_eq
   simp only [occ] at l2
   rw [l1, List.length_range, List.length_range] at l2
   omega
theorem OwI.put {m k q : Nat} {ow : Array (Option Nat)} (h : OwI m ow k) (hq : (ow.getD q (some 0)).isNone = true) : OwI m (ow.setIfInBounds q (some k)) (k + 1) := by
 have hlt : q < ow.size := by
   rcases Nat.lt_or_ge q ow.size with z | z
   · exact z
   · simp [Array.getD, Nat.not_lt.mpr z] at hq
 have hn : ow.getD q none = none := by
   have e : ow.getD q none = ow.getD q (some 0) := by simp [Array.getD, hlt]
   rw [e]
   simpa using hq
 refine ⟨by simp [h.sz], ?_⟩
 have hs := h.sz
 have sp : List.range (m + 1) = List.range q ++ q :: (List.range' (q + 1) (m - q)) := by
   rw [List.range_eq_range', show m + 1 = q + (1 + (m - q)) by omega, <- List.range'_append_1, <- List.range'_append_1, List.range_eq_range']
   simp
 have ne : ∀ j, j ≠ q -> (ow.setIfInBounds q (some k)).getD j none = ow.getD j none := λ j hj => by
   simp only [Array.getD_eq_getD_getElem?]
   rw [Array.getElem?_setIfInBounds_ne (λ z => hj z.symm)]
 have same : (ow.setIfInBounds q (some k)).getD q none = some k := by
   simp only [Array.getD_eq_getD_getElem?]
   rw [Array.getElem?_setIfInBounds_self_of_lt hlt]
   rfl
 have a : occ m (ow.setIfInBounds q (some k)) = (List.range q).filterMap (λ j => ow.getD j none) ++ k :: (List.range' (q + 1) (m - q)).filterMap (λ j => ow.getD j none) := by
   unfold occ
   rw [sp, List.filterMap_append, List.filterMap_cons_some (f := λ j => (ow.setIfInBounds q (some k)).getD j none) same]
   congr 1
   · exact fm_congr λ j hj => ne j (by have := List.mem_range.mp hj; omega)
   · congr 1
     exact fm_congr λ j hj => ne j (by have := List.mem_range'_1.mp hj; omega)
 have b : occ m ow = (List.range q).filterMap (λ j => ow.getD j none) ++ (List.range' (q + 1) (m - q)).filterMap (λ j => ow.getD j none) := by
   unfold occ
   rw [sp, List.filterMap_append, List.filterMap_cons_none (f := λ j => ow.getD j none) hn]
 rw [a, List.range_succ]
 have p := h.pm
 rw [b] at p
 exact (List.perm_middle.trans (p.cons k)).trans (List.perm_append_singleton _ _).symm
end RC

namespace RC
open PySem PySem.Spec PyProof.Rows L2
def kyM : Value -> Key
 | .int i _ => .inl i
 | .str x _ => .inr x
 | _ => .inl 0
def GdM (w : World) (e : Int × Value) : Prop := keyIs (kyM e.2) e.2 = true /\ e.1 = keyH w (kyM e.2)
def kys (es : Array (Int × Value)) : List Key := es.toList.map λ e => kyM e.2
def SM (w : World) (h : Heap) (a : Addr) (L : List Key) : Prop :=
 ∃ o es ep t, h.get? a = some o /\ o.ExactSet /\ o.data = .set es ep t /\ (∀ e ∈ es.toList, GdM w e) /\ kys es = L /\ L.Nodup /\ es.size < scanBound /\ t.fits es.size = true /\ Ris t.place.toList /\ (w.params.followText "set-order" = true \/ t.led = true)
section
variable {P : Program} {w : World} {h h' : Heap} {a : Addr} {L : List Key}
theorem SM.keep (R : SM w h a L) (k : ∀ o, h.get? a = some o -> h'.get? a = some o) : SM w h' a L := by
 obtain ⟨o, es, ep, t, ho, r⟩ := R
 exact ⟨o, es, ep, t, k o ho, r⟩
end
section
variable {P : Program} {w : World} {A : Around} {E : Value -> Shared -> Prop} {s : Shared} {a : Addr} {L : List Key}
end
end RC

namespace RC
open PySem PySem.Spec PyProof.Rows L2
structure SX (w : World) (h : Heap) (a : Addr) (es : Array (Int × Value)) (ep : Nat) (t : SetTable) : Prop where
 ob : ∃ o, h.get? a = some o /\ o.ExactSet /\ o.data = .set es ep t
 gd : ∀ e ∈ es.toList, GdM w e
 nd : (kys es).Nodup
 sz : es.size < scanBound
 ft : t.fits es.size = true
 rs : Ris t.place.toList
 ld : w.params.followText "set-order" = true \/ t.led = true
theorem SX.keep {w : World} {h h' : Heap} {a : Addr} {es : Array (Int × Value)} {ep : Nat} {t : SetTable} (R : SX w h a es ep t) (k : ∀ o, h.get? a = some o -> h'.get? a = some o) : SX w h' a es ep t := by
 obtain ⟨o, a1, a2, a3⟩ := R.ob
 exact ⟨⟨o, k o a1, a2, a3⟩, R.gd, R.nd, R.sz, R.ft, R.rs, R.ld⟩
section
variable {P : Program} {w : World} {A : Around} {E : Value -> Shared -> Prop} {s : Shared} {a : Addr} {es : Array (Int × Value)} {ep : Nat} {t : SetTable}
end
section
variable {P : Program} {w : World} {A : Around} {E : Value -> Shared -> Prop} {s : Shared} {a b : Addr} {es eo : Array (Int × Value)} {ep eq : Nat} {t to : SetTable}
end
end RC

namespace RC
open PySem PySem.Spec PyProof.Rows L2
theorem nodup_le {α : Type} : ∀ {l m : List α}, l.Nodup -> (∀ x ∈ l, x ∈ m) -> l.length <= m.length
 | [], m, _, _ => Nat.zero_le _
 | x :: l, m, nd, h => by
   obtain ⟨n1, n2⟩ := List.nodup_cons.mp nd
   obtain ⟨a, b, rfl⟩ := List.append_of_mem (h x List.mem_cons_self)
   have := nodup_le (m := a ++ b) n2 λ y hy => by
     have := h y (List.mem_cons_of_mem _ hy)
     rcases List.mem_append.mp this with z | z
     · exact List.mem_append_left _ z
     · rcases List.mem_cons.mp z with z | z
       · exact absurd (z ▸ hy) n1
       · exact List.mem_append_right _ z
   rw [List.length_append] at this
   rw [List.length_cons, List.length_append, List.length_cons]
   omega
section
variable {P : Program} {w : World} {A : Around} {E : Value -> Shared -> Prop} {s : Shared} {a b : Addr} {es eo : Array (Int × Value)} {ep eq : Nat} {t to : SetTable}
structure Got (L0 : List Key) (ks L : List Key) : Prop where
 nd : L.Nodup
 mem : ∀ k, k ∈ L ↔ k ∈ L0 \/ k ∈ ks
theorem Got.nil {L0 : List Key} (h : L0.Nodup) : Got L0 [] L0 := ⟨h, λ k => by simp⟩
theorem Got.len {L0 ks L : List Key} (g : Got L0 ks L) : L.length <= L0.length + ks.length := by
 have := nodup_le g.nd λ k hk => List.mem_append.mpr ((g.mem k).mp hk)
 rwa [List.length_append] at this
end
end RC

namespace RC
open PySem PySem.Spec PyProof.Rows L2
section
variable {P : Program} {w : World} {A : Around} {E : Value -> Shared -> Prop} {s : Shared}
variable {a d : Addr} {es : Array (Int × Value)} {ep : Nat} {t : SetTable} {vs : List (Key × Value)}
end
end RC

namespace RC
open PySem PySem.Spec PyProof.Rows L2
section
variable {P : Program} {w : World} {A : Around} {E : Value -> Shared -> Prop} {s : Shared} {a b : Addr} {ea eb : Array (Int × Value)} {pa pb : Nat} {ta tb : SetTable}
end
end RC

namespace RC
open PySem PySem.Spec PyProof.Rows L2
section
variable {P : Program} {w : World} {A : Around} {E : Value -> Shared -> Prop} {s : Shared} {a : Addr} {es : Array (Int × Value)} {ep : Nat} {t : SetTable}
end
section
variable {P : Program} {w : World} {A : Around} {E : Value -> Shared -> Prop} {s : Shared}
end
def SetH (w : World) (a : Addr) (L : List Key) : HO := .ext λ h => SM w h a L
section
variable {X : Cx}
def rSetL (K : Fr) (w : World) : List V -> Hp -> VK -> Prop := λ xs H Q => ∃ (l : Addr) (ks : List Key), xs = [.ref l] /\ SqL K H l (ks.map kV) /\ ks.length < 4000 /\ ∀ p L, H p = none -> Got [] ks L -> Q (.ref p) (upd H p (SetH w p L))
end
end RC

namespace RC
open PySem PySem.Spec PyProof.Rows L2
section
variable {P : Program} {w : World} {A : Around} {E : Value -> Shared -> Prop} {s : Shared} {a b : Addr} {ea eb : Array (Int × Value)} {pa pb : Nat} {ta tb : SetTable} {es : Array (Int × Value)} {ep : Nat} {t : SetTable}
end
section
variable {P : Program} {w : World} {A : Around} {E : Value -> Shared -> Prop} {s : Shared} {a b : Addr} {ea eb : Array (Int × Value)} {pa pb : Nat} {ta tb : SetTable} {es : Array (Int × Value)} {ep : Nat} {t : SetTable}
structure Left (L0 ks L : List Key) : Prop where
 nd : L.Nodup
 mem : ∀ k, k ∈ L ↔ k ∈ L0 /\ k ∉ ks
end
section
variable {P : Program} {w : World} {A : Around} {E : Value -> Shared -> Prop} {s : Shared} {a b : Addr} {ea eb : Array (Int × Value)} {pa pb : Nat} {ta tb : SetTable}
end
end RC

namespace RC
open PySem PySem.Spec PyProof.Rows L2
def dd {α : Type} [DecidableEq α] : List α -> List α
 | [] => []
 | x :: xs => x :: (dd xs).filter λ y => decide (y ≠ x)
structure SIs {κ : Type} (ik : κ -> Key) (L : List Key) (xs : List κ) : Prop where
 nd : L.Nodup
 mem : ∀ q, q ∈ L ↔ q ∈ xs.map ik
theorem SIs.len {κ : Type} {ik : κ -> Key} {L : List Key} {xs : List κ} (h : SIs ik L xs) : L.length <= xs.length := by
 have := nodup_le h.nd λ q hq => (h.mem q).mp hq
 rwa [List.length_map] at this
theorem perm_of {α : Type} {l m : List α} (h1 : l.Nodup) (h2 : m.Nodup) (h : ∀ x, x ∈ l ↔ x ∈ m) : l.Perm m := by
 induction l generalizing m with
 | nil =>
   have : m = [] := List.eq_nil_iff_forall_not_mem.mpr λ x hx => nomatch (h x).mpr hx
   rw [this]
 | cons x l ih =>
   obtain ⟨n1, n2⟩ := List.nodup_cons.mp h1
   obtain ⟨a, b, rfl⟩ := List.append_of_mem ((h x).mp List.mem_cons_self)
   have nd2 : (x :: (a ++ b)).Nodup := List.perm_middle.nodup_iff.mp h2
   obtain ⟨n3, n4⟩ := List.nodup_cons.mp nd2
   refine (List.Perm.cons x (ih n2 n4 λ y => ?_)).trans List.perm_middle.symm
   constructor
   · intro hy
     have := (h y).mp (List.mem_cons_of_mem _ hy)
     rcases List.mem_append.mp this with z | z
     · exact List.mem_append_left _ z
     · rcases List.mem_cons.mp z with z | z
       · exact absurd (z ▸ hy) n1
       · exact List.mem_append_right _ z
   · intro hy
     have : y ∈ a ++ x :: b := by
       rcases List.mem_append.mp hy with z | z
       · exact List.mem_append_left _ z
       · exact List.mem_append_right _ (List.mem_cons_of_mem _ z)
     rcases List.mem_cons.mp ((h y).mpr this) with z | z
     · exact absurd (z ▸ hy) n3
     · exact z
section
variable {K : Fr} {α : Type} {e : α -> PyData} {Rs : List Res} {H : Hp} {Q : VK} {v : V} {a b : Addr} {σ : L2.St} {w : World}
end
end RC

namespace RC
open PySem PySem.Spec PyProof.Rows L2
def tkey (h : Heap) : Value -> Str
 | .ref a => match h.get? a with
   | some o => match o.data with
     | .seq xs _ => match (xs[0]? : Option Value) with
       | some (Value.str y _) => y
       | _ => ""
     | _ => ""
   | none => ""
 | _ => ""
def TxP (h : Heap) (v : Value) (y : Str) (u : Value) : Prop := ∃ a o t n, v = .ref a /\ h.get? a = some o /\ o.cls = .type "tuple" /\ o.data = .seq #[.str y t, u] n
theorem TxP.key {h : Heap} {v : Value} {y : Str} {u : Value} (p : TxP h v y u) : tkey h v = y := by
 obtain ⟨a, o, t, n, rfl, ho, hc, hd⟩ := p
 unfold tkey
 simp only [ho, hd]
 rfl
theorem TxP.keeps {h h' : Heap} {v : Value} {y : Str} {u : Value} (p : TxP h v y u) (k : ∀ b o, v = .ref b -> h.get? b = some o -> h'.get? b = some o) : TxP h' v y u := by
 obtain ⟨a, o, t, n, rfl, ho, hc, hd⟩ := p
 exact ⟨a, o, t, n, rfl, k _ _ rfl ho, hc, hd⟩
section
variable {prog : Program} {w : World} {A : Around} {s : Shared}
end
section
variable {X : Cx}
end
end RC

namespace RC
open PySem PySem.Spec PyProof.Rows L2
section
variable {K : Fr} {α : Type} {e : α -> PyData} {Rs : List Res} {H H' : Hp} {Q : VK} {v : V} {p : Addr}
end
section
variable {K : Fr} {α : Type} {e : α -> PyData} {Rs : List Res} {H H' : Hp} {Q : VK} {v : V} {p : Addr} {σ : L2.St}
end
section
variable {K : Fr} {α β γ : Type} {ea : α -> PyData} {eb : β -> PyData} {ec : γ -> PyData} {Rs : List Res} {H H' : Hp} {Q : VK} {v : V} {p : Addr} {σ : L2.St}
end
section
variable {K : Fr} {Rs : List Res} {H : Hp} {Q : VK} {v : V} {d : PyData} {ta tb : TE} {σ : L2.St}
def OrK (K : Fr) (tb : TE) (σ : L2.St) (Q : VK) : VK := λ x H1 => ∃ k, TruV K x H1 k /\ if k = true then Q x H1 else tb σ H1 Q
theorem g_orT (h : ta σ H (OrK K tb σ Q)) : tOrT K ta tb σ H Q := h
end
section
variable {K : Fr} {α κ : Type} {ik ik' : κ -> Key} {e e' : α -> PyData} {Rs : List Res} {H : Hp} {Q : VK} {v : V} {p : Addr} {m : List (κ × α)}
end
def wlN {β : Type} (F : β -> (β -> Prop) -> (β -> Prop) -> Prop) : Nat -> β -> (β -> Prop) -> Prop
 | 0, _, _ => False
 | n + 1, s, k => F s (λ s' => wlN F n s' k) k
def wlD {β : Type} (F : β -> (β -> Prop) -> (β -> Prop) -> Prop) (s : β) (k : β -> Prop) : Prop := ∃ n, wlN F n s k
def WhT (P : L2.St -> Hp -> Prop) (tb : TS) (D : Ends) (σ : L2.St) (H : Hp) : Prop := ∃ N : L2.St -> Hp -> Prop, (∀ σ' H', N σ' H' -> P σ' H') /\ tb { D with nx := N, ct := N, bk := D.nx } σ H
section
variable {β : Type} {F : β -> (β -> Prop) -> (β -> Prop) -> Prop} {s0 : β} {KK : β -> Prop} {tc : TT} {tb : TS} {D : Ends} {σ : L2.St} {H : Hp}
theorem wh_D (hf : wlD F s0 KK) (Inv : β -> L2.St -> Hp -> Prop) (h0 : Inv s0 σ H)
   (hs : ∀ s σ H (kk ke : β -> Prop) (P N : L2.St -> Hp -> Prop), Inv s σ H -> (∀ s σ H, kk s -> Inv s σ H -> P σ H) -> (∀ s σ H, ke s -> Inv s σ H -> N σ H) -> F s kk ke -> tc σ H λ b H1 => if b = true then WhT P tb ⟨N, D.rt, D.bk, D.ct⟩ σ H1 else N σ H1)
   (hd : ∀ s σ H, KK s -> Inv s σ H -> D.nx σ H) : WhW tc tb D σ H := by
 obtain ⟨n, hn⟩ := hf
 refine ⟨λ m σ H => ∃ s, wlN F m s KK /\ Inv s σ H, ⟨n, s0, hn, h0⟩, ?_⟩
 rintro m σ H ⟨s, hm, hI⟩
 cases m with
 | zero => exact hm.elim
 | succ m => exact hs s σ H (λ s' => wlN F m s' KK) KK (λ σ' H' => ∃ m', m' < m + 1 /\ ∃ s, wlN F m' s KK /\ Inv s σ' H') D.nx hI (λ s σ H h1 h2 => ⟨m, Nat.lt_succ_self _, s, h1, h2⟩) hd hm
theorem wh_yes {P : L2.St -> Hp -> Prop} {kk : β -> Prop} {Inv : β -> L2.St -> Hp -> Prop} (hP : ∀ s σ H, kk s -> Inv s σ H -> P σ H) (k : tb ⟨λ σ H => ∃ s', kk s' /\ Inv s' σ H, D.rt, D.nx, λ σ H => ∃ s', kk s' /\ Inv s' σ H⟩ σ H) : WhT P tb D σ H :=
 ⟨λ σ H => ∃ s', kk s' /\ Inv s' σ H, λ σ' H' ⟨s', h1, h2⟩ => hP s' σ' H' h1 h2, k⟩
end
section
variable {K : Fr} {κ α β : Type} {ik : κ -> Key} {e : α -> PyData} {Rs : List Res} {H : Hp} {v : V} {m : List (κ × α)} {σ : L2.St} {f : DF}
end
theorem v_par {v w : V} {σ : L2.St} {H : Hp} {D : Ends} {i j : Nat} (k : D.nx ((σ.set i (some v)).set j (some w)) H) : ∃ v' w', [v, w] = [v', w'] /\ D.nx ((σ.set i (some v')).set j (some w')) H := ⟨_, _, rfl, k⟩
end RC

namespace RC
open PySem PySem.Spec PyProof.Rows L2
section
variable {X : Cx}
end
section
variable {α β : Type} {K : Fr} {Rs : List Res} {H : Hp} {σ : L2.St} {Q : VK} {v : V} {p : Addr} {e : α -> PyData}
end
end RC

namespace RC
open PySem PySem.Spec PyProof.Rows L2
def dEq {κ α : Type} [DecidableEq κ] [DecidableEq α] (m n : List (κ × α)) : Bool := (m.length == n.length) && m.all λ p => decide (lk n p.1 = some p.2)
inductive HitsV (K : Fr) (H : Hp) (ls : List (Key × V)) : List (Key × V) -> Bool -> Prop
 | nil : HitsV K H ls [] true
 | miss {k : Key} {v : V} {r : List (Key × V)} (h : valV ls k = none) : HitsV K H ls ((k, v) :: r) false
 | hit {k : Key} {v u : V} {r : List (Key × V)} {d e : PyData} {b : Bool} (h : valV ls k = some u) (h1 : Dp K H v d) (h2 : Dp K H u e) (s1 : SeqAt.shaped d = true) (s2 : SeqAt.shaped e = true) (t : HitsV K H ls r b) : HitsV K H ls ((k, v) :: r) (PyData.eqv d e && b)
section
variable {X : Cx} {pins : List (Addr × Obj)} {σ : L2.St} {H : Hp} {s : Shared}
end
section
variable {X : Cx}
end
structure EqT {α : Type} [DecidableEq α] (e : α -> PyData) : Prop where
 sh : ∀ x, EqOk (e x)
 ev : ∀ x y, PyData.eqv (e x) (e y) = decide (x = y)
section
variable {κ α β : Type} [DecidableEq κ] [DecidableEq α] {K : Fr} {Rs : List Res} {H F : Hp} {σ : L2.St} {Q : VK} {v w : V} {p : Addr} {e : α -> PyData} {ik : κ -> Key} {m n : List (κ × α)}
theorem DVs.get {a : Addr} {k : κ} (inj : ∀ a b, ik a = ik b -> a = b) (D : DVs K Rs H ik e (.ref a) m) : ∃ o, DGet H a (kV (ik k)) o /\ ((lk m k = none /\ o = none) \/ ∃ x u, lk m k = some x /\ o = some u /\ M (da K u (e x) :: Rs) H) := by
 obtain ⟨p, kvs, F, L, e0, h1, s1, m1, t1⟩ := D
 cases e0
 refine ⟨valV kvs (ik k), .inl ⟨kvs, ik k, h1, rfl, rfl⟩, ?_⟩
 cases z : lk m k with
 | none => exact .inl ⟨rfl, t1.none inj z⟩
 | some x =>
   obtain ⟨u, hu, hd⟩ := t1.some inj z
   exact .inr ⟨x, u, rfl, hu, F, L, ⟨[], L, rfl, ⟨rfl, hd⟩, s1⟩, m1⟩
theorem isNo_Oe {e : α -> PyData} (hn : ∀ x, isNo (e x) = false) (x : Option α) : isNo (eO e x) = x.isNone := by
 cases x with
 | none => rfl
 | some x => exact hn x
theorem v_notOe {x : Option α} (hn : ∀ x, isNo (e x) = false) (h : Dq K H v (eO e x)) (k : Q (.bl (!x.isNone)) H) : rNotN v .non H Q := v_notNa h (by rw [isNo_Oe hn]; exact k)
end
section
variable {κ α : Type} [DecidableEq κ] {K : Fr} {Rs : List Res} {H : Hp} {Q : VK}
theorem v_dictpG {ek : κ -> PyData} {ik : κ -> Key} {e : α -> PyData} {v : V} {ps : List (κ × α)} (hk : ∀ {F : Hp} {v : V} {k : κ}, Dq K F v (ek k) -> v = kV (ik k)) (inj : ∀ a b, ik a = ik b -> a = b) (S : M Rs H) (j : Nat) (hj : Rs[j]? = some (da K v (eL (eP ek e) ps)))
   (k : ∀ p H', M (adR K ik e p (dOf ps) :: Rs) H' -> Q (.ref p) H') : rDictP K [v] H Q := by
 obtain ⟨F, L, s, mm⟩ := S
 cases EnF.at j hj F L s with
 | @lst a vs _ hs q =>
   have key : ∀ {ps : List (κ × α)} {vs : List V}, DqAll K F vs (ps.map (eP ek e)) -> ∃ as kvs, vs = as.map V.ref /\ Paired (λ p (kv : Key × V) => SqT K F p [kV kv.1, kv.2]) as kvs /\ TKv K F ik e kvs ps := by
     intro ps
     induction ps with
     | nil =>
       intro vs h
       cases h
       exact ⟨[], [], rfl, .nil, .nil⟩
     | cons q ps ih =>
       intro vs h
       cases h with
       | cons d t =>
         obtain ⟨as, kvs, rfl, h2, h3⟩ := ih t
         cases d with
         | @tup b ws _ hb ht =>
           cases ht with
           | cons d1 t1 =>
             cases t1 with
             | cons d2 t2 =>
               cases t2
               have e1 := hk d1
               subst e1
               exact ⟨b :: as, (ik q.1, _) :: kvs, rfl, .cons hb h2, .cons d2 h3⟩
   obtain ⟨as, kvs, rfl, h2, h3⟩ := key q
   refine ⟨a, as, kvs, rfl, mm.ex.sqL hs, Paired.mapP h2 λ p kv z => mm.ex.sqT z, λ p hp => k p _ ?_⟩
   have mg : ∀ {ps : List (κ × α)} {kvs acc : List (Key × V)} {ac : List (κ × α)}, TKv K F ik e kvs ps -> TKv K F ik e acc ac -> TKv K F ik e (mergeK acc kvs) (ps.foldl (λ acc q => pk acc q.1 q.2) ac) := by
     intro ps
     induction ps with
     | nil =>
       intro kvs acc ac h1 h2
       cases h1
       exact h2
     | cons q ps ih =>
       intro kvs acc ac h1 h2
       cases h1 with
       | @cons k' _ _ _ _ d t =>
         have z := ih t (h2.put (k := k') inj d)
         exact z
   have S0 : M (tkR K ik e (mergeK [] kvs) (dOf ps) :: Rs) H := ⟨F, L, ⟨[], L, rfl, ⟨rfl, mg h3 .nil⟩, s⟩, mm⟩
   exact adR_close (S0.new hp)
end
end RC

namespace RC
open PySem PySem.Spec PyProof.Rows L2
end RC

namespace RC
open PySem PySem.Spec PyProof.Rows L2
section
variable {prog : Program} {w : World} {A : Around} {I : Addr} {fp wr : List Addr} {n : Nat} {P : Nat -> Value -> Prop} {St : Nat -> Heap -> Prop}
end
section
variable {prog : Program} {w : World} {A : Around} {E : Value -> Shared -> Prop} {s : Shared}
end
end RC

namespace RC
open PySem PySem.Spec PyProof.Rows L2
def rSoDI : List V -> Hp -> VK -> Prop := λ xs H Q => ∃ (d : Addr) (kvs : List (Key × V)) (ns : List Int), xs = [.ref d] /\ Rd H d (.dK kvs) /\ kvs.map (·.1) = ns.map Sum.inl /\ ns.length <= 1000000 /\
 ∀ (ys : List Int) (p : Addr), ys.Perm ns -> ys.Pairwise (· <= ·) -> H p = none -> Q (.ref p) (upd H p (.lst (ys.map V.int)))
section
variable {X : Cx}
theorem so_big : 1000000 <= sizeLine := by rw [sizeLine_eq]; decide
theorem so_after {pins : List (Addr × Obj)} {σ : L2.St} {H : Hp} {s : Shared} {Q : VK} {h1 : Heap} {tk : Nat} {vs : List Value} {out : Array Value} {zs : List V} (I : Inv X pins σ H { s with heap := h1, toks := tk }) (rv : Vals zs out.toList) (hl : zs.length <= sizeLine)
   (q : ∀ p, H p = none -> Q (.ref p) (upd H p (.lst zs))) :
   EP X pins σ Q (.ref h1.objs.size) { s with heap := sortedHeap (h1.push (seqObj "list" vs.toArray 0)) h1.objs.size vs out, toks := tk } := by
 have at0 : (h1.push (seqObj "list" vs.toArray 0)).get? h1.objs.size = some (seqObj "list" vs.toArray 0) := Heap.get?_push_size _ rfl
 obtain ⟨ep, hep⟩ := sortedHeap_at (vs := vs) (out := out) at0
 have new : ObjOk X.prog X.w (upd H h1.objs.size (.lst zs)) (sortedHeap (h1.push (seqObj "list" vs.toArray 0)) h1.objs.size vs out) h1.objs.size (.lst zs) :=
   ⟨hl, out.toList, ep, rv, by rw [Array.toArray_toList]; exact hep⟩
 have keep : ∀ b u, h1.get? b = some u -> (sortedHeap (h1.push (seqObj "list" vs.toArray 0)) h1.objs.size vs out).get? b = some u := λ b u z => by
   have lt : b < h1.objs.size := Heap.lt_size z
   have lt2 : b < (h1.push (seqObj "list" vs.toArray 0)).objs.size := by
     rw [size_push']
     exact Nat.lt_succ_of_lt lt
   rw [sortedHeap_old (Nat.ne_of_lt lt) lt2]
   exact Heap.get?_push_of_some _ z
 have J := I.laid (t' := tk) keep (Nat.le_refl _) new
 exact ⟨.ref h1.objs.size, _, J, rfl, q _ (I.hok.fresh (Nat.le_refl _))⟩
theorem cr_soDI (calm : X.calm = true) : CallR X (.builtin "sorted") rSoDI := by
 intro pins s σ H xs us Q I r hw
 obtain ⟨d, kvs, ns, e0, hd, hks, hn, q⟩ := hw
 subst e0
 obtain ⟨u, e1, ru⟩ := vals1 r
 subst e1
 cases ru
 obtain ⟨_, lo, ws, rel, dd⟩ := dk_rd I.hok hd
 obtain ⟨ep, hat⟩ := dd.dictAt
 have key : ws.map (·.1) = ns.map Sum.inl := by rw [<- rel.keys]; exact hks
 have len : ws.length = ns.length := by simpa using congrArg List.length key
 have big := so_big
 refine Calls.call_function_entry kind_sorted plain_sorted entry_sorted (args_sorted1 _) ?_
 unfold Builtin.«sorted»
 refine wpAny_bind (m := checkCount "sorted" 1 1 _) (wpAny_pure ?_)
 refine wpAny_bind (PySem.W.kdu_collect (A := X.A.in1) (PySem.W.kdl_dict (knd := mixKind X.prog X.w) (kvs := ws) (ep := ep) lo) (I.ok.hd calm) hat (by omega) λ h1 tk acc hk ha => ?_)
 have la : acc.toList.length = ns.length := by rw [Array.length_toList, ha.1, len]
 have hIs : IntsAre acc.toList ns := by
   refine ints_each la λ j v z => ?_
   obtain ⟨kk, xx, z1, z2⟩ := ha.2 j v (by rw [<- Array.getElem?_toList]; exact z)
   have z3 : (ns.map Sum.inl)[j]? = some kk := by
     rw [<- key, List.getElem?_map, z1]
     rfl
   rw [List.getElem?_map] at z3
   obtain ⟨y, z4, rfl⟩ := Option.map_eq_some_iff.mp z3
   rcases keyIs_shape (show keyIs (Sum.inl y) v = true from z2) with ⟨i, t, ek, ev⟩ | ⟨i, t, ek, ev⟩
   · cases ek
     exact ⟨y, t, z4, ev⟩
   · cases ek
 have I1 : Inv X pins σ H { s with heap := h1, toks := tk } := I.kept hk
 refine wpAny_bind (wpAny_newList ?_ (by omega))
 show wpAny _ _ _ _ _ { s with heap := h1.push (seqObj "list" acc.toList.toArray 0), toks := tk }
 have at0 : (h1.push (seqObj "list" acc.toList.toArray 0)).get? h1.objs.size = some (seqObj "list" acc.toList.toArray 0) := Heap.get?_push_size _ rfl
 refine wpAny_bind (wpAny_holding (wpAny_call_entry slot_list_sort ⟨_, at0, rfl⟩ entry_list_sort (list_sort_treeAny at0 hIs (by omega) λ out ys o1 o2 o3 => ⟨_, rfl, ?_⟩) (args_list_sort _)))
 refine wpAny_pure ⟨_, rfl, so_after I1 (vals_of_ints o1) ?_ λ p hp => q ys p o2 o3 hp⟩
 rw [List.length_map, o2.length_eq]
 omega
end
section
variable {κ α : Type} {K : Fr} {Rs : List Res} {H : Hp} {Q : VK} {v : V} {e : α -> PyData}
theorem d_soI {m : List (Int × α)} (D : DVs K Rs H iI e v m) (hz : (ks m).length <= 1000000) (k : ∀ q H', M (acR K q ((srt (ks m)).map eI) :: Rs) H' -> Q (.ref q) H') : rSoDI [v] H Q := by
 obtain ⟨p, kvs, F, L, rfl, h, s, mm, t⟩ := D
 refine ⟨p, kvs, ks m, rfl, h, t.keys, hz, λ ys q hp hs hn => ?_⟩
 rw [srt_eq hp hs]
 exact k q _ (M.ownI (M.new ⟨F, L, s, mm⟩ hn))
end
end RC

namespace RC
open PySem PySem.Spec PyProof.Rows L2
section
variable {α β γ : Type} {e : α -> PyData} {sv : α -> V} {K : Fr} {σ : L2.St} {H : Hp} {Q : VK} {D : Ends} {Rs : List Res} {v w : V} {xs ys : List α} {p : Addr}
theorem for_revN (f : Fl e sv) {F : α -> β -> (β -> Prop) -> Prop} {s0 : β} {KK : β -> Prop} {g : TG} {tb : TS} (hf : forD F xs.reverse s0 KK) (Inv : β -> L2.St -> Hp -> Prop) (h0 : Inv s0 σ H)
   (hrd : ∀ s σ H, Inv s σ H -> Dq K H v (eL e xs))
   (hs : ∀ x s σ H (kk : β -> Prop), Inv s σ H -> F x s kk -> g (sv x) σ H λ σ2 H2 => tb ⟨λ σ H => ∃ s', kk s' /\ Inv s' σ H, D.rt, D.nx, λ σ H => ∃ s', kk s' /\ Inv s' σ H⟩ σ2 H2)
   (hd : ∀ s σ H, KK s -> Inv s σ H -> D.nx σ H) : ItV K (λ J H1 => ForW J g tb D σ H1) [v] H := by
 obtain ⟨a, rfl, h⟩ := f.lst (hrd s0 σ H h0)
 have hrd' : ∀ s σ H, Inv s σ H -> SqL K H a (xs.map sv) := λ s σ H h => by
   obtain ⟨b, eb, q⟩ := f.lst (hrd s σ H h)
   cases eb
   exact q
 have hl : (xs.map sv).length = xs.length := List.length_map _
 refine v_itV h (for_W walk_rev (λ i σ H => ∃ s, forD F (xs.reverse.drop i) s KK /\ Inv s σ H) ⟨s0, by simpa using hf, h0⟩ (λ i σ H _ ⟨s, _, h⟩ => hrd' s σ H h) ?_ ?_)
 · rintro i u σ H H' hi ⟨s, hf, h⟩ ⟨rfl, hv⟩
   rw [hl] at hi hv
   have hi2 : i < xs.reverse.length := by rw [List.length_reverse]; exact hi
   rw [List.drop_eq_getElem_cons hi2, List.getElem_reverse] at hf
   rw [List.getElem?_map, List.getElem?_eq_getElem (by omega)] at hv
   cases hv
   exact hs _ s σ H' _ h hf
 · rintro σ H ⟨s, hf, h⟩
   rw [hl, <- List.length_reverse, List.drop_length] at hf
   exact hd s σ H hf h
theorem lc_flS (f : Fl e sv) {te : TE} {tt : TT} {g : TG} {ws : List Nat} {F : α -> γ -> (Option β -> γ -> Prop) -> Prop} {e' : β -> PyData} {s0 : γ} {KK : List β -> γ -> Prop} (RsF : γ -> List Res) (hf : xs.length <= 100000 /\ lcS F xs s0 [] KK) (S : M (RsF s0) H) (hrd : ∀ s H, M (RsF s) H -> Dq K H v (eL e xs))
   (hs : ∀ x (s : γ) (acc : List β) E H (kk : Option β -> γ -> Prop) (N : Hp -> Prop), (acc.map e').length < 100000 -> M (acR K E (acc.map e') :: RsF s) H -> F x s kk ->
     (∀ y s' H, kk (some y) s' -> M (acR K E (acc.map e' ++ [e' y]) :: RsF s') H -> N H) -> (∀ s' H, kk none s' -> M (acR K E (acc.map e') :: RsF s') H -> N H) -> g (sv x) (wipe σ ws) H λ σ2 H2 => wipe σ2 ws = wipe σ ws /\ tt σ2 H2 λ b H3 =>
     if b = true then te σ2 H3 (LcK N E) else N H3)
   (hd : ∀ E (acc : List β) s H, KK acc s -> M (acR K E (acc.map e') :: RsF s) H -> Q (.ref E) H) : ItL K (λ J H1 => LcW J g tt te ws σ Q H1) v H := by
 obtain ⟨a, rfl, h⟩ := f.lst (hrd s0 H S)
 obtain ⟨hz, hf⟩ := hf
 have hl : (xs.map sv).length = xs.length := List.length_map _
 refine v_itL h (lc_X (walk_list (xs := xs.map sv)) (λ E i H => ∃ acc s, lcS F (xs.drop i) s acc KK /\ acc.length <= i /\ M (acR K E (acc.map e') :: RsF s) H) (λ E hE => ⟨[], s0, by simpa using hf, Nat.le_refl _, acR_nil (S.new hE)⟩) (λ E i H _ ⟨acc, s, _, _, S⟩ => ?_) ?_ ?_)
 · obtain ⟨b, eb, q⟩ := f.lst (hrd s H S.tl)
   cases eb
   exact q
 · rintro E i u H H' hi ⟨acc, s, hf, ha, S⟩ ⟨rfl, hv⟩
   rw [hl] at hi
   rw [List.drop_eq_getElem_cons hi] at hf
   rw [List.getElem?_map, List.getElem?_eq_getElem hi] at hv
   cases hv
   refine hs _ s acc E H' _ _ (by rw [List.length_map]; omega) S hf (λ y s' H hk S => ⟨acc ++ [y], s', hk, by rw [List.length_append]; simpa using ha, by rw [List.map_append]; exact S⟩) (λ s' H hk S => ⟨acc, s', ?_, by omega, S⟩)
   simpa using hk
 · rintro E H ⟨acc, s, hf, ha, S⟩
   rw [hl, List.drop_length] at hf
   exact hd E acc s H hf S
theorem d_gixI {m : List (Int × Int)} {n x : Int} (D : DVs K Rs H iI eI v m) (hx : lk m n = some x) (k : Q (.int x) H) : gIx K v (.int n) H Q := by
 obtain ⟨p, kvs, u, rfl, h1, h2, S2⟩ := D.at injI hx
 have := (S2.gotA 0 rfl).intV
 subst this
 exact .inr ⟨p, _, rfl, .inl ⟨kvs, Sum.inl n, h1, rfl, h2.symm⟩, k⟩
theorem v_idxBc {bs : List Bool} {b : Bool} {n : Nat} (h : Dq K H v (eL eB bs)) (h1 : bs[n]? = some b) (h2 : ∀ m, m < n -> bs[m]? = some (!b)) (k : Q (.int (n : Nat)) H) : rIndex K v [.bl b] H Q := by
 obtain ⟨a, rfl, hs⟩ := flB.lst h
 refine ⟨a, bs.map V.bl, .bl b, n, .bl b, rfl, rfl, hs, rfl, ?_, by rw [List.getElem?_map, h1]; rfl, by cases b <;> rfl, λ m z hm hz => ?_, k⟩
 · rw [List.all_eq_true]
   intro x hx
   obtain ⟨c, _, rfl⟩ := List.mem_map.mp hx
   rfl
 · rw [List.getElem?_map, h2 m hm] at hz
   cases hz
   cases b <;> rfl
end
end RC

namespace RC
open PySem PySem.Spec PyProof.Rows L2
section
variable {K : Fr} {H : Hp} {v w : V} {Q : VK} {Rs : List Res} {σ : L2.St} {D : Ends} {α β : Type} {e : α -> PyData} {xs : List α}
theorem div_okB {i j : Int} (h : 0 < j /\ j < 2 ^ 200) : CDivW i j := wide_div (b := 200) h.1 (by omega) (by decide) (by decide)
theorem v_divB {i j : Int} (h : 0 < j /\ j < 2 ^ 200) (k : Q (.int (i / j)) H) : uDiv (.int i) (.int j) H Q := ⟨i, j, rfl, rfl, div_okB h, k⟩
theorem v_inVI {n : Int} {xs : List Int} (h : Dq K H v (eV eI xs)) (k : Q (.bl (decide (n ∈ xs))) H) : uIn K (.int n) v H Q := by
 cases h with
 | tup a q =>
   exact .inl ⟨_, _, rfl, .inr ((flI.all q) ▸ a), rfl, flat_ints xs, by rw [inV_int]; exact k⟩
end
end RC

namespace RC
open PySem PySem.Spec PyProof.Rows L2
def cpOk : Nat -> PyData -> Prop
 | 0, d => match d with
   | .list _ => False
   | .tuple _ => False
   | .dict _ => False
   | _ => True
 | n + 1, d => match d with
   | .list ds => ds.length <= 1000 /\ ∀ x ∈ ds, cpOk n x
   | .tuple ds => ds.length <= 1000 /\ ∀ x ∈ ds, cpOk n x
   | .dict kvs => kvs.length <= 1000 /\ (kvs.map (·.1)).Nodup /\ ∀ p ∈ kvs, cpOk n p.2
   | _ => True
def spCp (K : Fr) : Nat -> Sp
 | 0 => λ _ _ _ _ => False
 | n + 1 => λ vs H Q _ => ∃ (Rs : List Res) (v : V) (d : PyData) (P : PyData -> Prop), vs = [v] /\ M (da K v (eA d) :: Rs) H /\ (cpOk n d /\ P d) /\ ∀ (r : PyData) (u : V) H', P r -> M (da K u (eA r) :: Rs) H' -> Q u H'
theorem len_cp {K : Fr} : ∀ (n : Nat) (vs : List V) (H : Hp) (Q : VK) (E : XK), spCp K n vs H Q E -> vs.length = 1
 | 0, _, _, _, _, h => h.elim
 | n + 1, _, _, _, _, ⟨_, _, _, _, e, _⟩ => by rw [e]; rfl
def rTupL (K : Fr) : List V -> Hp -> VK -> Prop := λ xs H Q => ∃ p ys, xs = [.ref p] /\ ((SqL K H p ys /\ ∀ l, H l = none -> Q (.ref l) (upd H l (.tup ys))) \/ (SqT K H p ys /\ Q (.ref p) H))
theorem cr_tupL {X : Cx} : CallR X (.type "tuple") (rTupL X.K) := call_tuple_of
abbrev tIsi (K : Fr) (c : String) : TT := tB (tCB (uIsi K) (tCons (tVar 0) (tCons (tC (.ty c)) tNil)))
abbrev tCpy (K : Fr) (sp : Sp) : TS := tSeq (tIfS (tIsi K "list") (tRet (tLc (iList K (tVar 0)) (gName 1) tYes (tCall sp [] E0 (tCons (tVar 1) tNil)) [1])) tNext)
 (tSeq (tIfS (tIsi K "tuple") (tRet (tCB (rTupL K) (tCons (tLc (iTup K (tVar 0)) (gName 1) tYes (tCall sp [] E0 (tCons (tVar 1) tNil)) [1]) tNil))) tNext)
 (tSeq (tIfS (tIsi K "dict") (tRet (tFzE (tCB (rDictP K) (tCons (tLkE (tLc (iKeys (tVar 0)) (gName 2) tYes (tTup (tCons (tVar 2) (tCons (tCall sp [] E0 (tCons (tOp rIxK (tVar 0) (tVar 2)) tNil)) tNil))) [2])) tNil)))) tNext)
 (tRet (tVar 0))))
section
variable {K : Fr} {H : Hp} {v w : V} {Q : VK} {Rs : List Res} {σ : L2.St} {α β : Type}
theorem lc_tup {te : TE} {tt : TT} {g : TG} {ws : List Nat} {F : α -> (Option β -> Prop) -> Prop} {e : α -> PyData} {e' : β -> PyData} {xs : List α} {vs : List V} {KK : List β -> Prop} {a : Addr} (hf : xs.length <= 100000 /\ lcD F xs [] KK) (S : M Rs H)
   (hrd : ∀ H, M Rs H -> SqT K H a vs /\ DqAll K H vs (xs.map e))
   (hs : ∀ (i : Nat) v x (acc : List β) E H (kk : Option β -> Prop) (N : Hp -> Prop), (acc.map e').length < 100000 -> M (acR K E (acc.map e') :: Rs) H -> vs[i]? = some v -> xs[i]? = some x -> F x kk ->
     (∀ y H, kk (some y) -> M (acR K E (acc.map e' ++ [e' y]) :: Rs) H -> N H) -> (∀ H, kk none -> M (acR K E (acc.map e') :: Rs) H -> N H) -> g v (wipe σ ws) H λ σ2 H2 => wipe σ2 ws = wipe σ ws /\ tt σ2 H2 λ b H3 =>
     if b = true then te σ2 H3 (LcK N E) else N H3)
   (hd : ∀ E (acc : List β) H, KK acc -> M (acR K E (acc.map e') :: Rs) H -> Q (.ref E) H) : LcW (Itt K a) g tt te ws σ Q H := by
 obtain ⟨hz, hf⟩ := hf
 have hl : vs.length = xs.length := by
   have := (hrd H S).2.len
   rwa [List.length_map] at this
 refine lc_X walk_tup (λ E i H => ∃ acc, lcD F (xs.drop i) acc KK /\ acc.length <= i /\ M (acR K E (acc.map e') :: Rs) H) (λ E hE => ⟨[], by simpa using hf, Nat.le_refl _, acR_nil (S.new hE)⟩) (λ E i H _ ⟨acc, _, _, S⟩ => (hrd H S.tl).1) ?_ ?_
 · rintro E i v H H' hi ⟨acc, hf, ha, S⟩ ⟨rfl, hv⟩
   have hi2 : i < xs.length := by omega
   rw [List.drop_eq_getElem_cons hi2] at hf
   refine hs i v _ acc E H' _ _ (by rw [List.length_map]; omega) S hv (List.getElem?_eq_getElem hi2) hf (λ y H hk S => ⟨acc ++ [y], hk, by rw [List.length_append]; simpa using ha, by rw [List.map_append]; exact S⟩) (λ H hk S => ⟨acc, ?_, by omega, S⟩)
   simpa using hk
 · rintro E H ⟨acc, hf, ha, S⟩
   rw [hl, List.drop_length] at hf
   exact hd E acc H hf S
theorem lcD_same : ∀ {xs : List PyData} {acc : List PyData} {ok : PyData -> Prop} {k : List PyData -> Prop}, (∀ x ∈ xs, ok x) -> k (acc ++ xs) -> lcD (λ x (kk : Option PyData -> Prop) => ok x /\ kk (some x)) xs acc k
 | [], acc, ok, k, _, h => by simpa [lcD] using h
 | x :: xs, acc, ok, k, ho, h => ⟨ho x List.mem_cons_self, lcD_same (λ y hy => ho y (List.mem_cons_of_mem _ hy)) (by simpa using h)⟩
theorem map_eA (ds : List PyData) : ds.map eA = ds := List.map_id _
theorem pure_cpL {n : Nat} {E : XK} {ds : List PyData} {P : PyData -> Prop} (S0 : M (da K v (.list ds) :: Rs) H) (ok : ds.length <= 1000 /\ ∀ x ∈ ds, cpOk n x) (hP : P (.list ds)) (hk : ∀ (r : PyData) (u : V) H', P r -> M (da K u (eA r) :: Rs) H' -> Q u H')
   : tLc (iList K (tVar 0)) (gName 1) tYes (tCall (spCp K (n + 1)) [] E0 (tCons (tVar 1) tNil)) [1] [some v, none, none] H Q := by
 refine g_lc (g_iList (g_var rfl ?_))
 obtain ⟨a, vs, ea, S1⟩ := (M.addA S0 (EnF.at 0 rfl)).openQ
 have S2 : M (rdL K a vs :: daA K vs (ds.map eA) :: da K v (.list ds) :: Rs) H := by rw [map_eA]; exact S1
 refine v_itLe ea (S2.gotR 0 rfl) ?_
 refine lc_lst (K := K) (e := eA) (e' := eA) (F := λ x kk => cpOk n x /\ kk (some x)) (KK := λ acc => acc = ds) ⟨by omega, lcD_same ok.2 (by simp)⟩ S2 (λ _ S => ⟨S.gotR 0 rfl, S.gotAA 1 rfl⟩) (λ i u x acc E2 H2 kk N hl S3 hv hx hf hp hn => ?_) (λ E2 acc H3 e S4 => ?_)
 · have S5 := S3.elA 2 rfl hv hx
   refine g_name (g_wipe rfl (g_yes (v_ifT (g_call (g_cons (g_var rfl (g_nil ⟨_, u, x, λ r => r = x, rfl, M.addA S5 (EnF.at 0 rfl), ⟨hf.1, rfl⟩, λ r u2 H4 er S6 => ?_⟩)))))))
   subst er
   refine acR_put S6 2 rfl (EnF.at 0 rfl) hl λ H5 S7 => ?_
   exact hp _ _ hf.2 (M.sub (.cons 0 rfl (.cons 2 rfl (.cons 2 rfl (.cons 2 rfl (.tl (.tl (.refl _))))))) S7)
 · subst e
   have S8 := acR_fix S4
   rw [map_eA] at S8
   exact hk _ _ _ hP (M.sub (.cons 0 rfl (.tl (.tl (.tl (.refl _))))) S8)
def rdT (K : Fr) (a : Addr) (vs : List V) : Res := ⟨λ F l => l = [] /\ SqT K F a vs, λ _ _ _ e h => ⟨h.1, e.sqT h.2⟩⟩
theorem M.gotTu {a : Addr} {vs : List V} (S : M Rs H) (i : Nat) (e : Rs[i]? = some (rdT K a vs)) : SqT K H a vs := by
 obtain ⟨F, L, s, m⟩ := S
 obtain ⟨l, h⟩ := s.get i e
 exact m.ex.sqT h.2
theorem M.openT {ds : List PyData} (S : M (da K v (.tuple ds) :: Rs) H) : ∃ a vs, v = .ref a /\ M (rdT K a vs :: daA K vs ds :: Rs) H := by
 obtain ⟨F, L, ⟨l1, l2, rfl, ⟨rfl, e⟩, b⟩, m⟩ := S
 cases e with
 | tup h1 h2 => exact ⟨_, _, rfl, F, l2, ⟨[], l2, rfl, ⟨rfl, h1⟩, [], l2, rfl, ⟨rfl, h2⟩, b⟩, m⟩
theorem pure_cpT {n : Nat} {ds : List PyData} {P : PyData -> Prop} (S0 : M (da K v (.tuple ds) :: Rs) H) (ok : ds.length <= 1000 /\ ∀ x ∈ ds, cpOk n x) (hP : P (.tuple ds)) (hk : ∀ (r : PyData) (u : V) H', P r -> M (da K u (eA r) :: Rs) H' -> Q u H')
   : tCB (rTupL K) (tCons (tLc (iTup K (tVar 0)) (gName 1) tYes (tCall (spCp K (n + 1)) [] E0 (tCons (tVar 1) tNil)) [1]) tNil) [some v, none, none] H Q := by
 obtain ⟨a, vs, ea, S1⟩ := (M.addA S0 (EnF.at 0 rfl)).openT
 have S2 : M (rdT K a vs :: daA K vs (ds.map eA) :: da K v (.tuple ds) :: Rs) H := by rw [map_eA]; exact S1
 refine g_cb (g_cons (g_lc (g_var rfl ⟨a, ea, ⟨vs, S2.gotTu 0 rfl⟩, ?_⟩)))
 refine lc_tup (K := K) (e := eA) (e' := eA) (F := λ x kk => cpOk n x /\ kk (some x)) (KK := λ acc => acc = ds) ⟨by omega, lcD_same ok.2 (by simp)⟩ S2 (λ _ S => ⟨S.gotTu 0 rfl, S.gotAA 1 rfl⟩) (λ i u x acc E2 H2 kk N hl S3 hv hx hf hp hn => ?_) (λ E2 acc H3 e S4 => ?_)
 · have S5 := S3.elA 2 rfl hv hx
   refine g_name (g_wipe rfl (g_yes (v_ifT (g_call (g_cons (g_var rfl (g_nil ⟨_, u, x, λ r => r = x, rfl, M.addA S5 (EnF.at 0 rfl), ⟨hf.1, rfl⟩, λ r u2 H4 er S6 => ?_⟩)))))))
   subst er
   refine acR_put S6 2 rfl (EnF.at 0 rfl) hl λ H5 S7 => ?_
   exact hp _ _ hf.2 (M.sub (.cons 0 rfl (.cons 2 rfl (.cons 2 rfl (.cons 2 rfl (.tl (.tl (.refl _))))))) S7)
 · subst e
   have S8 := acR_fix S4
   rw [map_eA] at S8
   obtain ⟨a2, vs2, e2, S9⟩ := (M.addA S8 (EnF.at 0 rfl)).openQ
   refine g_nil ⟨a2, vs2, by rw [e2], .inl ⟨S9.gotR 0 rfl, λ l hl => ?_⟩⟩
   have S10 := S9.new (o := .tup vs2) hl
   have S11 : M (da K (.ref l) (.tuple acc) :: _) _ := S10.fixG (φ := λ F => DqAll K F vs2 acc) (R := da K (.ref l) (.tuple acc)) (λ F L s => by
     obtain ⟨l, h⟩ := s.get 1 rfl
     exact h.2) λ F q fp => ⟨rfl, .tup (.inl (.inl fp)) q⟩
   exact hk _ _ _ hP (M.sub (.cons 0 rfl (.tl (.tl (.tl (.tl (.tl (.tl (.refl _)))))))) S11)
theorem DqKv.some_m : ∀ {kvs : List (Key × V)} {ds : List (PyData × PyData)}, DqKv K H kvs ds -> ∃ m : List (Key × PyData), ds = m.map λ p => (kD (id p.1), eA p.2)
 | _, _, .nil => ⟨[], rfl⟩
 | _, _, .cons (k := k) (d := d) h r => by
   obtain ⟨m, rfl⟩ := DqKv.some_m r
   exact ⟨(k, d) :: m, rfl⟩
theorem dOf_ndG {κ γ : Type} [DecidableEq κ] {m acc : List (κ × γ)} (h : (ks (acc ++ m)).Nodup) : m.foldl (λ acc q => pk acc q.1 q.2) acc = acc ++ m := by
 induction m generalizing acc with
 | nil => simp
 | cons q m ih =>
   have hx : q.1 ∉ ks acc := by
     unfold ks at h ⊢
     rw [List.map_append, List.map_cons, List.nodup_append] at h
     exact λ z => h.2.2 _ z _ List.mem_cons_self rfl
   have e1 : pk acc q.1 q.2 = acc ++ [q] := pk_new (lk_none_iff.mpr hx)
   rw [List.foldl_cons, e1, ih (by simpa using h)]
   simp
theorem keys_same {κ γ : Type} [DecidableEq κ] {m : List (κ × γ)} (nd : (ks m).Nodup) (d : γ) : (ks m).map (λ k => (k, (lk m k).getD d)) = m := by
 unfold ks
 rw [List.map_map]
 refine (List.map_congr_left λ q hq => ?_).trans (List.map_id _)
 have := lk_of_mem nd hq
 show (q.1, (lk m q.1).getD d) = q
 rw [this]
 rfl
theorem d_ixG {α : Type} {e : α -> PyData} {m : List (Key × α)} {n : Key} {x : α} (D : DVs K Rs H id e v m) (hx : lk m n = some x) (k : ∀ u, M (da K u (e x) :: Rs) H -> Q u H) : rIxK v (kV n) H Q := by
 obtain ⟨p, kvs, u, rfl, h, h1, S⟩ := D.at (λ _ _ e => e) hx
 exact ⟨p, u, rfl, .inl ⟨kvs, n, h, rfl, h1.symm⟩, k u S⟩
theorem dq_key (k : Key) : Dq K H (kV k) (kD k) := by
 cases k with
 | inl i => exact .int i
 | inr x => exact .str x
theorem dq_key' {k : Key} (h : Dq K H v (kD k)) : v = kV k := by
 cases k with
 | inl i => cases h; rfl
 | inr x => cases h; rfl
theorem pure_cpD {n : Nat} {ds : List (PyData × PyData)} {P : PyData -> Prop} (S0 : M (da K v (.dict ds) :: Rs) H) (ok : ds.length <= 1000 /\ (ds.map (·.1)).Nodup /\ ∀ p ∈ ds, cpOk n p.2) (hP : P (.dict ds)) (hk : ∀ (r : PyData) (u : V) H', P r -> M (da K u (eA r) :: Rs) H' -> Q u H')
   : tFzE (tCB (rDictP K) (tCons (tLkE (tLc (iKeys (tVar 0)) (gName 2) tYes (tTup (tCons (tVar 2) (tCons (tCall (spCp K (n + 1)) [] E0 (tCons (tOp rIxK (tVar 0) (tVar 2)) tNil)) tNil))) [2])) tNil)) [some v, none, none] H Q := by
 obtain ⟨m, rfl⟩ : ∃ m : List (Key × PyData), ds = m.map λ p => (kD (id p.1), eA p.2) := by
   obtain ⟨F, L, s, mm⟩ := S0
   cases EnF.at 0 rfl F L s with
   | dct h q => exact q.some_m
 have S0 : M (da K v (eD id eA m) :: Rs) H := S0
 have hP : P (eD id eA m) := hP
 obtain ⟨h1, h2, h3⟩ := ok
 rw [List.length_map] at h1
 have nd : (ks m).Nodup := by
   rw [List.map_map] at h2
   exact nd_of_map kD (by unfold ks; rw [List.map_map]; exact h2)
 obtain ⟨p, od, kvs, ep, hkv, S1⟩ := (M.addA S0 (EnF.at 0 rfl)).openDk
 show tCB _ _ _ _ (FzK Q)
 refine g_cb (g_cons (.inl (g_lc (g_iKeys (g_var rfl (v_itK ep (S1.gotF 0 rfl) ?_))))))
 refine lc_fz (K := K) (ik := id) (m := m) (β := Key × PyData) (e' := eP kD eA) (sv := kV) (F := λ k kk => ∃ d, lk m k = some d /\ cpOk n d /\ kk (some (k, d))) (KK := λ acc => acc = m) (λ _ => rfl) hkv ⟨by rw [ks_len]; omega, ?_⟩ S1 (λ _ _ S => S.gotF 0 rfl) (λ x acc E2 H2 kk N hl S3 hf hp hn => ?_) (λ E2 acc H3 e S4 => ?_)
 · refine lcD_map (λ k => (k, (lk m k).getD .none)) (λ k hk kk hkk => ?_) (by rw [List.nil_append, keys_same nd])
   obtain ⟨d, hd⟩ := lk_some hk
   rw [hd] at hkk
   exact ⟨d, hd, h3 (kD k, d) (List.mem_map.mpr ⟨(k, d), lk_mem hd, rfl⟩), hkk⟩
 · obtain ⟨d, hd, okd, hkk⟩ := hf
   refine g_name (g_wipe rfl (g_yes (v_ifT (g_tup (g_cons (g_var rfl (g_cons (g_call (g_cons (g_op (g_var rfl (g_var rfl (d_ixG (M.dvA S3 3 rfl) hd λ u S5 => ?_)))))))))))))
   refine g_nil ⟨_, u, d, λ r => r = d, rfl, S5, ⟨okd, rfl⟩, λ r u2 H4 er S6 => ?_⟩
   subst er
   refine g_nil (v_tupq (ds := [kD x, eA r]) S6 (EnF.consA (EnF.all λ _ => dq_key x) (EnF.consA (EnF.at 0 rfl) EnF.nilA)) (len_ok rfl) λ q H5 S7 => ?_)
   refine acR_put S7 2 rfl (EnF.at 0 rfl) hl λ H6 S8 => ?_
   exact hp (x, r) _ hkk (M.sub (.cons 0 rfl (.cons 2 rfl (.cons 2 rfl (.cons 2 rfl (.tl (.tl (.refl _))))))) S8)
 · subst e
   have S8 := acR_fixL S4
   refine g_nil (v_dictpG (ek := kD) (ik := id) (e := eA) (λ h => dq_key' h) (λ _ _ e => e) S8 0 rfl λ q H5 S9 => ?_)
   have e2 : dOf acc = acc := by
     have := dOf_ndG (m := acc) (acc := []) (by simpa using nd)
     simpa [dOf] using this
   rw [e2] at S9
   refine v_fzD S9 0 rfl λ H6 S10 => ?_
   exact hk _ _ _ hP (M.sub (.cons 0 rfl (.tl (.tl (.tl (.tl (.refl _)))))) S10)
theorem pure_cp (n : Nat) (vs : List V) (H : Hp) (Q : VK) (E : XK) (N : List Str) (hN : N.length = 3) (h : spCp K (n + 1) vs H Q E) : tCpy K (spCp K n) { nx := λ _ H' => Q .non H', rt := Q } (L2.start N vs) H := by
 obtain ⟨Rs, v, d, P, rfl, S0, ⟨ok, hP⟩, hk⟩ := h
 have es : L2.start N [v] = [some v, none, none] := by
   match N, hN with
   | [_, _, _], _ => rfl
 rw [es]
 have dn : RC.Dn K H v d := Dq.dn (M.gotA S0 0 rfl)
 have no : ∀ (c : String) (t u : TS) (D : Ends), c ∈ ["int", "bool", "str", "list", "tuple", "dict"] -> isA c d = false -> u D [some v, none, none] H -> tIfS (tIsi K c) t u D [some v, none, none] H := λ c t u D hc hi hu => by
   refine g_if (g_B (g_cb (g_cons (g_var rfl (g_cons (g_c (g_nil (v_isq dn hc hi (g_bl ?_)))))))))
   exact hu
 have yes : ∀ (c : String) (t u : TS) (D : Ends), c ∈ ["int", "bool", "str", "list", "tuple", "dict"] -> isA c d = true -> t D [some v, none, none] H -> tIfS (tIsi K c) t u D [some v, none, none] H := λ c t u D hc hi hu => by
   refine g_if (g_B (g_cb (g_cons (g_var rfl (g_cons (g_c (g_nil (v_isq dn hc hi (g_bl ?_)))))))))
   exact hu
 have fin : isA "list" d = false -> isA "tuple" d = false -> isA "dict" d = false -> tCpy K (spCp K n) { nx := λ _ H' => Q .non H', rt := Q } [some v, none, none] H := λ a b c => by
   refine g_seq (no "list" _ _ _ (by decide) a (g_next (g_nx ?_)))
   refine g_seq (no "tuple" _ _ _ (by decide) b (g_next (g_nx ?_)))
   refine g_seq (no "dict" _ _ _ (by decide) c (g_next (g_nx ?_)))
   exact g_ret (g_var rfl (hk d v H hP S0))
 cases d with
 | none => exact fin rfl rfl rfl
 | bool b => exact fin rfl rfl rfl
 | int i => exact fin rfl rfl rfl
 | str x => exact fin rfl rfl rfl
 | list ds =>
   cases n with
   | zero => exact ok.elim
   | succ n => exact g_seq (yes "list" _ _ _ (by decide) rfl (g_ret (pure_cpL (E := E) S0 ok hP hk)))
 | tuple ds =>
   cases n with
   | zero => exact ok.elim
   | succ n =>
     refine g_seq (no "list" _ _ _ (by decide) rfl (g_next (g_nx ?_)))
     exact g_seq (yes "tuple" _ _ _ (by decide) rfl (g_ret (pure_cpT S0 ok hP hk)))
 | dict ds =>
   cases n with
   | zero => exact ok.elim
   | succ n =>
     refine g_seq (no "list" _ _ _ (by decide) rfl (g_next (g_nx ?_)))
     refine g_seq (no "tuple" _ _ _ (by decide) rfl (g_next (g_nx ?_)))
     exact g_seq (yes "dict" _ _ _ (by decide) rfl (g_ret (pure_cpD S0 ok hP hk)))
end
end RC

namespace RC
open PySem PySem.Spec PyProof.Rows L2
section
variable {X : Cx} {x : Str} {C fI : Addr} {k : Nat} {fd : FuncData} {ps : List Str} {B newId initId : String} {bmB : List Value} {p pos pos' : Pos}
end
def emR : Res := ⟨λ _ l => l = [], λ _ _ _ _ h => h⟩
theorem M.addE {Rs : List Res} {H : Hp} (S : M Rs H) : M (emR :: Rs) H := by
 obtain ⟨F, L, s, m⟩ := S
 exact ⟨F, L, ⟨[], L, rfl, rfl, s⟩, m⟩
section
variable {K : Fr} {H : Hp} {Q : VK} {a D : Addr} {b : Bool}
end
end RC

namespace RC
open PySem PySem.Spec PyProof.Rows L2
section
variable {K : Fr} {H : Hp} {Q : VK} {Rs : List Res} {σ : L2.St} {κ α : Type} [DecidableEq κ] {ik : κ -> Key} {e : α -> PyData} {p : Addr}
inductive Prs (K : Fr) (F : Hp) (ik : κ -> Key) (e : α -> PyData) : List (V × V) -> List (κ × α) -> Prop
 | nil : Prs K F ik e [] []
 | cons {k : κ} {x : α} {v : V} {r : List (V × V)} {m : List (κ × α)} (h : Dq K F v (e x)) (t : Prs K F ik e r m) : Prs K F ik e ((kV (ik k), v) :: r) ((k, x) :: m)
end
end RC

namespace RC
open PySem PySem.Spec PyProof.Rows L2
section
variable {X : Cx} {CX : CXT} {g : Bool} {k n : Nat} {f C : Addr} {fd : FuncData} {ps ks : List Str} {sp : Sp} {W : WX} {x m : Str} {p pos apos : Pos} {o e : Expr} {es : List Expr} {kws : List Keyword} {t tk : TA} {gg : List Value -> List Value -> List Value} {gV : List V -> List V -> List V}
variable {σ : L2.St} {H : Hp} {Q : VK} {Rs : List Res} {l : Nat}
end
end RC

namespace RC
open PySem PySem.Spec PyProof.Rows L2
def vr {α : Type} (T : Addr -> α -> Res) (v : V) (x : α) : Res := exi λ p => prp (v = .ref p) (T p x)
def vrI {α : Type} (T : Addr -> α -> Res) (v : V) (x : Addr × α) : Res := prp (v = .ref x.1) (T x.1 x.2)
def vrD {α : Type} (K : Fr) (e : α -> PyData) (v : V) (x : α) : Res := da K v (e x)
def starR {α : Type} (A : V -> α -> Res) : List V -> List α -> Res
 | [], [] => emR
 | v :: vs, x :: xs => sp2 (A v x) (starR A vs xs)
 | _, _ => prp False emR
def lsR {α : Type} (A : V -> α -> Res) (p : Addr) (xs : List α) : Res := exi λ vs => sp2 (pt p (.lst vs)) (starR A vs xs)
def q1R {α : Type} (A : V -> α -> Res) (vs : List V) (x : α) : Res := exi λ u => prp (vs = [u]) (A u x)
def qcR {α β : Type} (A : V -> α -> Res) (Q : List V -> β -> Res) (vs : List V) (x : α × β) : Res := exi λ u => exi λ us => prp (vs = u :: us) (sp2 (A u x.1) (Q us x.2))
def tuR {α : Type} (Q : List V -> α -> Res) (p : Addr) (x : α) : Res := exi λ vs => sp2 (pt p (.tup vs)) (Q vs x)
def liR {α : Type} (Q : List V -> α -> Res) (p : Addr) (x : α) : Res := exi λ vs => sp2 (pt p (.lst vs)) (Q vs x)
section
variable {K : Fr} {α β γ δ : Type} {Rs : List Res} {H : Hp} {A : V -> α -> Res} {B : V -> β -> Res} {C : V -> γ -> Res} {D : V -> δ -> Res} {T : Addr -> α -> Res} {p : Addr} {Q : VK}
theorem M.vrC {x : α} (S : M (T p x :: Rs) H) : M (vr T (.ref p) x :: Rs) H := M.ex' p (M.pr' rfl S)
theorem M.vrO {x : α} {v : V} (S : M (vr T v x :: Rs) H) : ∃ p, v = .ref p /\ M (T p x :: Rs) H := by
 obtain ⟨p, S⟩ := S.ex
 exact ⟨p, S.pr⟩
theorem starR_len : ∀ {vs : List V} {xs : List α} {Rs : List Res}, M (starR A vs xs :: Rs) H -> vs.length = xs.length
 | [], [], _, _ => rfl
 | v :: vs, x :: xs, _, S => by
   have := starR_len (S.sp.at 1 rfl)
   simp [this]
 | [], _ :: _, _, S => (S.pr).1.elim
 | _ :: _, [], _, S => (S.pr).1.elim
theorem starR_open : ∀ {vs : List V} {xs : List α} {Rs : List Res} {n : Nat} {x : α}, M (starR A vs xs :: Rs) H -> xs[n]? = some x -> ∃ u, vs[n]? = some u /\ M (A u x :: starR A (vs.eraseIdx n) (xs.eraseIdx n) :: Rs) H
 | [], [], _, n, x, _, h => by simp at h
 | [], _ :: _, _, _, _, S, _ => (S.pr).1.elim
 | _ :: _, [], _, _, _, S, _ => (S.pr).1.elim
 | v :: vs, y :: xs, Rs, 0, x, S, h => by
   cases (Option.some.inj (show some y = some x from h))
   exact ⟨v, rfl, S.sp⟩
 | v :: vs, y :: xs, Rs, n + 1, x, S, h => by
   obtain ⟨u, hu, S2⟩ := starR_open (n := n) (x := x) (S.sp.at 1 rfl) (by simpa using h)
   refine ⟨u, by simpa using hu, ?_⟩
   have S3 : M (sp2 (A v y) (starR A (vs.eraseIdx n) (xs.eraseIdx n)) :: A u x :: Rs) H := M.sp' (M.sub (.cons 2 rfl (.cons 1 rfl (.refl _))) S2)
   exact M.sub (.cons 1 rfl (.refl _)) S3
theorem starR_close : ∀ {vs : List V} {xs : List α} {Rs : List Res} {n : Nat} {u : V} {y : α}, vs[n]? = some u -> n < xs.length -> M (A u y :: starR A (vs.eraseIdx n) (xs.eraseIdx n) :: Rs) H -> M (starR A vs (xs.set n y) :: Rs) H
 | [], _, _, n, u, y, h, _, _ => by simp at h
 | _ :: _, [], _, _, _, _, _, h, _ => by simp at h
 | v :: vs, x :: xs, Rs, 0, u, y, h, hl, S => by
   cases (Option.some.inj (show some v = some u from h))
   exact S.sp'
 | v :: vs, x :: xs, Rs, n + 1, u, y, h, hl, S => by
   have S2 : M (sp2 (A v x) (starR A (vs.eraseIdx n) (xs.eraseIdx n)) :: A u y :: Rs) H := M.sub (.cons 1 rfl (.refl _)) S
   have S3 := starR_close (vs := vs) (xs := xs) (n := n) (u := u) (y := y) (Rs := A v x :: Rs) (by simpa using h) (by simpa using hl) (M.sub (.cons 2 rfl (.cons 1 rfl (.refl _))) S2.sp)
   exact M.sp' (M.sub (.cons 1 rfl (.refl _)) S3)
theorem starR_put : ∀ {vs : List V} {xs : List α} {Rs : List Res} {u : V} {y : α}, M (A u y :: starR A vs xs :: Rs) H -> M (starR A (vs ++ [u]) (xs ++ [y]) :: Rs) H
 | [], [], _, u, y, S => M.sp' S
 | [], _ :: _, _, _, _, S => ((S.at 1 rfl).pr).1.elim
 | _ :: _, [], _, _, _, S => ((S.at 1 rfl).pr).1.elim
 | v :: vs, x :: xs, Rs, u, y, S => by
   have S2 := (S.at 1 rfl).sp
   have S3 := starR_put (vs := vs) (xs := xs) (u := u) (y := y) (Rs := A v x :: Rs) (M.sub (.cons 2 rfl (.cons 1 rfl (.cons 0 rfl (.refl _)))) S2)
   exact M.sp' (M.sub (.cons 1 rfl (.refl _)) S3)
theorem v_ixLs {xs : List α} {i : Int} {x : α} {n : Nat} (S : M Rs H) (j : Nat) (hj : Rs[j]? = some (lsR A p xs)) (hn : ixN xs.length i = some n) (hx : xs[n]? = some x)
   (k : ∀ u vs, vs[n]? = some u -> M (A u x :: pt p (.lst vs) :: starR A (vs.eraseIdx n) (xs.eraseIdx n) :: Rs.eraseIdx j) H -> Q u H) : uIx K (.ref p) (.int i) H Q := by
 obtain ⟨vs, S1⟩ := (S.at j hj).ex
 have S2 := S1.sp
 have hl := starR_len (S2.at 1 rfl)
 obtain ⟨u, hu, S3⟩ := starR_open (S2.at 1 rfl) hx
 have S4 : M (A u x :: pt p (.lst vs) :: starR A (vs.eraseIdx n) (xs.eraseIdx n) :: Rs.eraseIdx j) H := M.sub (.cons 0 rfl (.cons 1 rfl (.refl _))) S3
 exact v_ixL (SqL.of (S4.got 1 rfl)) (atI_of (by rw [hl]; exact hn) hu) (k u vs hu S4)
theorem lsR_close {vs : List V} {xs : List α} {n : Nat} {u : V} {x y : α} (hv : vs[n]? = some u) (hx : xs[n]? = some x) (S : M (A u y :: pt p (.lst vs) :: starR A (vs.eraseIdx n) (xs.eraseIdx n) :: Rs) H) : M (lsR A p (xs.set n y) :: Rs) H := by
 have hl : n < xs.length := by
   cases Nat.lt_or_ge n xs.length with
   | inl h => exact h
   | inr h => rw [List.getElem?_eq_none h] at hx; cases hx
 have S2 := starR_close (Rs := pt p (.lst vs) :: Rs) hv hl (M.sub (.cons 0 rfl (.cons 1 rfl (.refl _))) S)
 exact M.ex' vs (M.sp' (M.sub (.cons 1 rfl (.refl _)) S2))
theorem v_lenLs {xs : List α} (S : M Rs H) (j : Nat) (hj : Rs[j]? = some (lsR A p xs)) (k : Q (.int (xs.length : Nat)) H) : uLen K [.ref p] H Q := by
 obtain ⟨vs, S1⟩ := (S.at j hj).ex
 have S2 := S1.sp
 have hl := starR_len (S2.at 1 rfl)
 exact v_lenL (SqL.of (S2.got 0 rfl)) (by rw [hl]; exact k)
theorem M.tyLs {xs : List α} {φ : Prop} (S : M Rs H) (j : Nat) (hj : Rs[j]? = some (lsR A p xs)) (k : φ) : tyV K "list" (.ref p) H /\ φ := by
 obtain ⟨vs, S1⟩ := (S.at j hj).ex
 exact v_tyL (SqL.of (S1.sp.got 0 rfl)) k
theorem v_apLs {xs : List α} {u : V} {y : α} (S : M (A u y :: lsR A p xs :: Rs) H) (hz : xs.length < 100000) (k : ∀ H', M (lsR A p (xs ++ [y]) :: Rs) H' -> Q .non H') : rAppend (.ref p) [u] H Q := by
 obtain ⟨vs, S1⟩ := (S.at 1 rfl).ex
 have S2 := S1.sp
 have hl := starR_len (S2.at 1 rfl)
 refine v_app S2 0 rfl (by rw [hl]; exact hz) λ H' S4 => k H' ?_
 have S5 : M (A u y :: starR A vs xs :: pt p (.lst (vs ++ [u])) :: Rs) H' := M.sub (.cons 2 rfl (.cons 1 rfl (.refl _))) S4
 exact M.ex' _ (M.sp' (M.sub (.cons 1 rfl (.refl _)) (starR_put S5)))
theorem lsR_nil (S : M (pt p (.lst []) :: Rs) H) : M (lsR A p [] :: Rs) H := M.ex' [] (M.sp' (M.sub (.cons 1 rfl (.refl _)) S.addE))
theorem M.h1C {u : V} {x : α} (S : M (A u x :: Rs) H) : M (q1R A [u] x :: Rs) H := M.ex' u (M.pr' rfl S)
theorem M.h1O {vs : List V} {x : α} (S : M (q1R A vs x :: Rs) H) : ∃ u, vs = [u] /\ M (A u x :: Rs) H := by
 obtain ⟨u, S⟩ := S.ex
 exact ⟨u, S.pr⟩
theorem M.hcC {P : List V -> β -> Res} {u : V} {us : List V} {x : α} {y : β} (S : M (A u x :: P us y :: Rs) H) : M (qcR A P (u :: us) (x, y) :: Rs) H := M.ex' u (M.ex' us (M.pr' rfl S.sp'))
theorem M.hcO {P : List V -> β -> Res} {vs : List V} {x : α × β} (S : M (qcR A P vs x :: Rs) H) : ∃ u us, vs = u :: us /\ M (A u x.1 :: P us x.2 :: Rs) H := by
 obtain ⟨u, S⟩ := S.ex
 obtain ⟨us, S⟩ := S.ex
 obtain ⟨e, S⟩ := S.pr
 exact ⟨u, us, e, S.sp⟩
theorem M.hq2C {u w : V} {x : α} {y : β} (S : M (A u x :: B w y :: Rs) H) : M (qcR A (q1R B) [u, w] (x, y) :: Rs) H := M.hcC (M.sub (.cons 1 rfl (.refl _)) (M.h1C (M.sub (.cons 1 rfl (.refl _)) S)))
theorem M.hq2O {vs : List V} {x : α × β} (S : M (qcR A (q1R B) vs x :: Rs) H) : ∃ u w, vs = [u, w] /\ M (A u x.1 :: B w x.2 :: Rs) H := by
 obtain ⟨u, us, rfl, S1⟩ := S.hcO
 obtain ⟨w, rfl, S2⟩ := (S1.at 1 rfl).h1O
 exact ⟨u, w, rfl, S2.at 1 rfl⟩
theorem M.liC {P : List V -> α -> Res} {vs : List V} {x : α} (S : M (P vs x :: pt p (.lst vs) :: Rs) H) : M (liR P p x :: Rs) H := M.ex' vs (M.sp' (M.sub (.cons 1 rfl (.refl _)) S))
theorem M.liO {P : List V -> α -> Res} {x : α} (S : M (liR P p x :: Rs) H) : ∃ vs, M (P vs x :: pt p (.lst vs) :: Rs) H := by
 obtain ⟨vs, S⟩ := S.ex
 exact ⟨vs, S.sp.at 1 rfl⟩
end
end RC

namespace RC
open PySem PySem.Spec PyProof.Rows L2
section
variable {κ α : Type} [DecidableEq κ]
theorem atKey {m : List (κ × α)} {k : κ} {x : α} (h : lk m k = some x) : ∃ n : Nat, m[n]? = some (k, x) := by
 obtain ⟨n, hn, e⟩ := List.getElem_of_mem (lk_mem h)
 exact ⟨n, by rw [List.getElem?_eq_getElem hn, e]⟩
theorem ndAt {m : List (κ × α)} {k : κ} {x : α} {n : Nat} (nd : (ks m).Nodup) (h : m[n]? = some (k, x)) : lk m k = some x := lk_of_mem nd (List.mem_of_getElem? h)
theorem pkAt : ∀ {m : List (κ × α)} {k : κ} {x y : α} {n : Nat}, (ks m).Nodup -> m[n]? = some (k, x) -> pk m k y = m.set n (k, y)
 | [], k, x, y, n, _, h => by simp at h
 | q :: m, k, x, y, 0, nd, h => by
   cases (Option.some.inj (show some q = some (k, x) from h))
   have nd' := List.nodup_cons.mp (show (k :: ks m).Nodup from nd)
   unfold pk
   rw [if_pos (by simp), List.map_cons, if_pos rfl, List.set_cons_zero]
   congr 1
   refine (List.map_congr_left λ p hp => ?_).trans (List.map_id _)
   have : p.1 ≠ k := λ z => nd'.1 (by rw [<- z]; exact List.mem_map.mpr ⟨p, hp, rfl⟩)
   rw [if_neg this]
   rfl
 | q :: m, k, x, y, n + 1, nd, h => by
   have nd' := List.nodup_cons.mp (show (q.1 :: ks m).Nodup from nd)
   have h' : m[n]? = some (k, x) := by simpa using h
   have hk : q.1 ≠ k := λ z => nd'.1 (by rw [z]; exact List.mem_map.mpr ⟨_, List.mem_of_getElem? h', rfl⟩)
   have ih := pkAt (y := y) nd'.2 h'
   have hm := ndAt nd'.2 h'
   unfold pk at ih ⊢
   rw [any_lk, hm] at ih
   rw [any_lk, lk_cons, if_neg hk, hm]
   rw [if_pos (by rfl)] at ih ⊢
   rw [List.map_cons, if_neg hk, ih, List.set_cons_succ]
theorem dkAt : ∀ {m : List (κ × α)} {k : κ} {x : α} {n : Nat}, (ks m).Nodup -> m[n]? = some (k, x) -> dk m k = m.eraseIdx n
 | [], k, x, n, _, h => by simp at h
 | q :: m, k, x, 0, nd, h => by
   cases (Option.some.inj (show some q = some (k, x) from h))
   have nd' := List.nodup_cons.mp (show (k :: ks m).Nodup from nd)
   unfold dk
   rw [List.filter_cons_of_neg (by simp), List.eraseIdx_cons_zero]
   refine List.filter_eq_self.mpr λ p hp => ?_
   exact decide_eq_true λ z => nd'.1 (by rw [<- z]; exact List.mem_map.mpr ⟨p, hp, rfl⟩)
 | q :: m, k, x, n + 1, nd, h => by
   have nd' := List.nodup_cons.mp (show (q.1 :: ks m).Nodup from nd)
   have h' : m[n]? = some (k, x) := by simpa using h
   have hk : q.1 ≠ k := λ z => nd'.1 (by rw [z]; exact List.mem_map.mpr ⟨_, List.mem_of_getElem? h', rfl⟩)
   have ih := dkAt nd'.2 h'
   unfold dk at ih ⊢
   rw [List.filter_cons_of_pos (by simpa using hk), ih, List.eraseIdx_cons_succ]
end
def starK {κ α : Type} (ik : κ -> Key) (A : V -> α -> Res) : List (Key × V) -> List (κ × α) -> Res
 | [], [] => emR
 | kv :: kvs, q :: m => sp2 (prp (kv.1 = ik q.1) (A kv.2 q.2)) (starK ik A kvs m)
 | _, _ => prp False emR
def dvR {κ α : Type} (ik : κ -> Key) (A : V -> α -> Res) (p : Addr) (m : List (κ × α)) : Res := exi λ kvs => prp (ks m).Nodup (sp2 (pt p (.dK kvs)) (starK ik A kvs m))
section
variable {K : Fr} {κ α : Type} {Rs : List Res} {H : Hp} {A : V -> α -> Res} {ik : κ -> Key} {p : Addr} {Q : VK}
theorem starK_keys : ∀ {kvs : List (Key × V)} {m : List (κ × α)} {Rs : List Res}, M (starK ik A kvs m :: Rs) H -> kvs.map (·.1) = (ks m).map ik
 | [], [], _, _ => rfl
 | kv :: kvs, q :: m, _, S => by
   have := starK_keys (S.sp.at 1 rfl)
   have e := (S.sp).pr.1
   simp only [ks, List.map_cons] at this ⊢
   rw [e, this]
 | [], _ :: _, _, S => (S.pr).1.elim
 | _ :: _, [], _, S => (S.pr).1.elim
theorem starK_open : ∀ {kvs : List (Key × V)} {m : List (κ × α)} {Rs : List Res} {n : Nat} {k : κ} {x : α}, M (starK ik A kvs m :: Rs) H -> m[n]? = some (k, x) -> ∃ u, kvs[n]? = some (ik k, u) /\ M (A u x :: starK ik A (kvs.eraseIdx n) (m.eraseIdx n) :: Rs) H
 | [], [], _, n, k, x, _, h => by simp at h
 | [], _ :: _, _, _, _, _, S, _ => (S.pr).1.elim
 | _ :: _, [], _, _, _, _, S, _ => (S.pr).1.elim
 | kv :: kvs, y :: m, Rs, 0, k, x, S, h => by
   cases (Option.some.inj (show some y = some (k, x) from h))
   obtain ⟨e, S2⟩ := S.sp.pr
   exact ⟨kv.2, by rw [<- e]; rfl, S2⟩
 | kv :: kvs, y :: m, Rs, n + 1, k, x, S, h => by
   obtain ⟨u, hu, S2⟩ := starK_open (n := n) (k := k) (x := x) (S.sp.at 1 rfl) (by simpa using h)
   refine ⟨u, by simpa using hu, ?_⟩
   have S3 : M (sp2 (prp (kv.1 = ik y.1) (A kv.2 y.2)) (starK ik A (kvs.eraseIdx n) (m.eraseIdx n)) :: A u x :: Rs) H := M.sp' (M.sub (.cons 2 rfl (.cons 1 rfl (.refl _))) S2)
   exact M.sub (.cons 1 rfl (.refl _)) S3
theorem starK_repl : ∀ {kvs : List (Key × V)} {m : List (κ × α)} {Rs : List Res} {n : Nat} {k : κ} {u0 u : V} {x y : α}, kvs[n]? = some (ik k, u0) -> m[n]? = some (k, x) -> M (A u y :: starK ik A (kvs.eraseIdx n) (m.eraseIdx n) :: Rs) H -> M (starK ik A (kvs.set n (ik k, u)) (m.set n (k, y)) :: Rs) H
 | [], _, _, n, _, _, _, _, _, h, _, _ => by simp at h
 | _ :: _, [], _, _, _, _, _, _, _, _, h, _ => by simp at h
 | kv :: kvs, q :: m, Rs, 0, k, u0, u, x, y, h, g, S => M.sp' (M.pr' rfl S)
 | kv :: kvs, q :: m, Rs, n + 1, k, u0, u, x, y, h, g, S => by
   have S2 : M (sp2 (prp (kv.1 = ik q.1) (A kv.2 q.2)) (starK ik A (kvs.eraseIdx n) (m.eraseIdx n)) :: A u y :: Rs) H := M.sub (.cons 1 rfl (.refl _)) S
   have S3 := starK_repl (kvs := kvs) (m := m) (n := n) (k := k) (u0 := u0) (u := u) (x := x) (y := y) (Rs := prp (kv.1 = ik q.1) (A kv.2 q.2) :: Rs) (by simpa using h) (by simpa using g) (M.sub (.cons 2 rfl (.cons 1 rfl (.refl _))) S2.sp)
   exact M.sp' (M.sub (.cons 1 rfl (.refl _)) S3)
theorem set_same {γ : Type} : ∀ {xs : List γ} {n : Nat} {x : γ}, xs[n]? = some x -> xs.set n x = xs
 | [], n, x, h => by simp at h
 | y :: xs, 0, x, h => by cases (Option.some.inj (show some y = some x from h)); rfl
 | y :: xs, n + 1, x, h => by rw [List.set_cons_succ, set_same (by simpa using h)]
theorem starK_close {kvs : List (Key × V)} {m : List (κ × α)} {n : Nat} {k : κ} {u : V} {x y : α} (h : kvs[n]? = some (ik k, u)) (g : m[n]? = some (k, x)) (S : M (A u y :: starK ik A (kvs.eraseIdx n) (m.eraseIdx n) :: Rs) H) : M (starK ik A kvs (m.set n (k, y)) :: Rs) H := by
 have := starK_repl h g S
 rwa [set_same h] at this
theorem starK_put : ∀ {kvs : List (Key × V)} {m : List (κ × α)} {Rs : List Res} {k : κ} {u : V} {y : α}, M (A u y :: starK ik A kvs m :: Rs) H -> M (starK ik A (kvs ++ [(ik k, u)]) (m ++ [(k, y)]) :: Rs) H
 | [], [], _, k, u, y, S => M.sp' (M.pr' rfl S)
 | [], _ :: _, _, _, _, _, S => ((S.at 1 rfl).pr).1.elim
 | _ :: _, [], _, _, _, _, S => ((S.at 1 rfl).pr).1.elim
 | kv :: kvs, q :: m, Rs, k, u, y, S => by
   have S2 := (S.at 1 rfl).sp
   have S3 := starK_put (kvs := kvs) (m := m) (k := k) (u := u) (y := y) (Rs := prp (kv.1 = ik q.1) (A kv.2 q.2) :: Rs) (M.sub (.cons 2 rfl (.cons 1 rfl (.cons 0 rfl (.refl _)))) S2)
   exact M.sp' (M.sub (.cons 1 rfl (.refl _)) S3)
theorem ks_kv {kvs : List (Key × V)} {m : List (κ × α)} (h : kvs.map (·.1) = (ks m).map ik) (inj : ∀ a b, ik a = ik b -> a = b) (nd : (ks m).Nodup) : (ks kvs).Nodup := by
 show (kvs.map (·.1)).Nodup
 rw [h]
 exact nd_map inj nd
variable [DecidableEq κ]
theorem dvR_open (S : M Rs H) (j : Nat) {m : List (κ × α)} (hj : Rs[j]? = some (dvR ik A p m)) : ∃ kvs, (ks m).Nodup /\ kvs.map (·.1) = (ks m).map ik /\ M (pt p (.dK kvs) :: starK ik A kvs m :: Rs.eraseIdx j) H := by
 obtain ⟨kvs, S1⟩ := (S.at j hj).ex
 obtain ⟨nd, S2⟩ := S1.pr
 exact ⟨kvs, nd, starK_keys (S2.sp.at 1 rfl), S2.sp⟩
theorem dvR_mk {kvs : List (Key × V)} {m : List (κ × α)} (nd : (ks m).Nodup) (S : M (pt p (.dK kvs) :: starK ik A kvs m :: Rs) H) : M (dvR ik A p m :: Rs) H := M.ex' kvs (M.pr' nd S.sp')
theorem dvR_nil (S : M (pt p (.dK []) :: Rs) H) : M (dvR ik A p ([] : List (κ × α)) :: Rs) H := dvR_mk List.nodup_nil (M.sub (.cons 1 rfl (.refl _)) S.addE)
theorem v_dnewDV {σ : L2.St} (S : M Rs H) (k : ∀ p H', M (dvR ik A p ([] : List (κ × α)) :: Rs) H' -> Q (.ref p) H') : tDNewK σ H Q := v_dnew S λ p H' S' => k p H' (dvR_nil S')
theorem M.dvk {m : List (κ × α)} (inj : ∀ a b, ik a = ik b -> a = b) (S : M Rs H) (j : Nat) (hj : Rs[j]? = some (dvR ik A p m)) : ∃ kvs, H p = some (.dK kvs) /\ kvs.map (·.1) = (ks m).map ik /\ kvs.length = m.length /\ ∀ k, (valV kvs (ik k)).isSome = (lk m k).isSome := by
 obtain ⟨kvs, nd, hk, S1⟩ := dvR_open S j hj
 have hl : kvs.length = m.length := by
   have := congrArg List.length hk
   simpa [ks] using this
 refine ⟨kvs, S1.got 0 rfl, hk, hl, λ k => ?_⟩
 show (lk kvs (ik k)).isSome = _
 rw [Bool.eq_iff_iff, lk_iff, lk_iff]
 show ik k ∈ kvs.map (·.1) ↔ _
 rw [hk, List.mem_map]
 constructor
 · rintro ⟨a, ha, e⟩
   rwa [<- inj _ _ e]
 · exact λ h => ⟨k, h, rfl⟩
theorem v_lenDV {m : List (κ × α)} (inj : ∀ a b, ik a = ik b -> a = b) (S : M Rs H) (j : Nat) (hj : Rs[j]? = some (dvR ik A p m)) (k : Q (.int (m.length : Nat)) H) : uLen K [.ref p] H Q := by
 obtain ⟨kvs, h, _, hl, _⟩ := M.dvk inj S j hj
 exact v_lenD h (by rw [hl]; exact k)
end
section
variable {K : Fr} {α : Type} {Rs : List Res} {H : Hp} {A : V -> α -> Res} {p : Addr} {Q : VK}
theorem v_ninDVI {m : List (Int × α)} {n : Int} (S : M Rs H) (j : Nat) (hj : Rs[j]? = some (dvR iI A p m)) (k : Q (.bl (!(lk m n).isSome)) H) : uNotIn K (.int n) (.ref p) H Q := by
 obtain ⟨kvs, h, _, _, e⟩ := M.dvk injI S j hj
 exact v_ninK h (by rw [show (Sum.inl n : Key) = iI n from rfl, e]; exact k)
theorem v_soDVI {m : List (Int × α)} (S : M Rs H) (j : Nat) (hj : Rs[j]? = some (dvR iI A p m)) (hz : (ks m).length <= 1000000) (k : ∀ q H', M (acR K q ((srt (ks m)).map eI) :: Rs) H' -> Q (.ref q) H') : rSoDI [.ref p] H Q := by
 obtain ⟨kvs, h, t, _, _⟩ := M.dvk injI S j hj
 exact ⟨p, kvs, ks m, rfl, .inl h, t, hz, λ ys q hp hs hn => by
   rw [srt_eq hp hs]
   exact k q _ (S.new hn).ownI⟩
end
section
variable {K : Fr} {κ α : Type} [DecidableEq κ] {Rs : List Res} {H : Hp} {A : V -> α -> Res} {ik : κ -> Key} {p : Addr} {Q : VK}
theorem v_ixDV {m : List (κ × α)} {k : κ} {x : α} (inj : ∀ a b, ik a = ik b -> a = b) (S : M Rs H) (j : Nat) (hj : Rs[j]? = some (dvR ik A p m)) (hx : lk m k = some x)
   (c : ∀ u kvs n, kvs[n]? = some (ik k, u) -> m[n]? = some (k, x) -> (ks m).Nodup -> M (A u x :: pt p (.dK kvs) :: starK ik A (kvs.eraseIdx n) (m.eraseIdx n) :: Rs.eraseIdx j) H -> Q u H) : rIxK (.ref p) (kV (ik k)) H Q := by
 obtain ⟨kvs, nd, hk, S1⟩ := dvR_open S j hj
 obtain ⟨n, hn⟩ := atKey hx
 obtain ⟨u, hu, S2⟩ := starK_open (S1.at 1 rfl) hn
 have S3 : M (A u x :: pt p (.dK kvs) :: starK ik A (kvs.eraseIdx n) (m.eraseIdx n) :: Rs.eraseIdx j) H := M.sub (.cons 0 rfl (.cons 1 rfl (.refl _))) S2
 exact ⟨p, u, rfl, .inl ⟨kvs, ik k, .inl (S3.got 1 rfl), rfl, (ndAt (ks_kv hk inj nd) hu).symm⟩, c u kvs n hu hn nd S3⟩
theorem dvR_close {kvs : List (Key × V)} {m : List (κ × α)} {n : Nat} {k : κ} {u : V} {x y : α} (h : kvs[n]? = some (ik k, u)) (g : m[n]? = some (k, x)) (nd : (ks m).Nodup) (S : M (A u y :: pt p (.dK kvs) :: starK ik A (kvs.eraseIdx n) (m.eraseIdx n) :: Rs) H) : M (dvR ik A p (pk m k y) :: Rs) H := by
 have S1 := starK_close (Rs := pt p (.dK kvs) :: Rs) h g (M.sub (.cons 0 rfl (.cons 1 rfl (.refl _))) S)
 rw [<- pkAt (y := y) nd g] at S1
 exact dvR_mk (nd_pk nd) (M.sub (.cons 1 rfl (.refl _)) S1)
theorem v_putDV {m : List (κ × α)} {k : κ} {u : V} {y : α} {Q : Hp -> Prop} (inj : ∀ a b, ik a = ik b -> a = b) (S : M (A u y :: dvR ik A p m :: Rs) H) (hz : m.length < 100000) (c : ∀ H', M (dvR ik A p (pk m k y) :: Rs) H' -> Q H') : uSet (.ref p) (kV (ik k)) u H Q := by
 obtain ⟨kvs, nd, hk, S1⟩ := dvR_open S 1 rfl
 have hl : kvs.length = m.length := by
   have := congrArg List.length hk
   simpa [ks] using this
 refine .inr ⟨p, _, rfl, DPut.k (k := ik k) (S1.got 0 rfl) (Nat.lt_of_lt_of_le (by rw [hl]; exact hz) (by decide)), c _ ?_⟩
 have S2 : M (pt p (.dK (putK kvs (ik k) u)) :: starK ik A kvs m :: A u y :: Rs) (upd H p (.dK (putK kvs (ik k) u))) := S1.putAt 0 rfl
 have ndk := ks_kv hk inj nd
 cases e : lk m k with
 | some x =>
   obtain ⟨n, hn⟩ := atKey e
   obtain ⟨u0, hu, S3⟩ := starK_open (S2.at 1 rfl) hn
   have S4 := starK_repl (Rs := pt p (.dK (putK kvs (ik k) u)) :: Rs) (u := u) (y := y) hu hn (M.sub (.cons 3 rfl (.cons 1 rfl (.cons 1 rfl (.tl (.refl _))))) S3)
   have e2 : putK kvs (ik k) u = kvs.set n (ik k, u) := pkAt (m := kvs) ndk hu
   rw [<- pkAt (y := y) nd hn, <- e2] at S4
   exact dvR_mk (nd_pk nd) (M.sub (.cons 1 rfl (.refl _)) S4)
 | none =>
   have e1 : lk kvs (ik k) = none := by
     refine lk_none_iff.mpr λ z => ?_
     have z : ik k ∈ kvs.map (·.1) := z
     rw [hk] at z
     obtain ⟨a, ha, ea⟩ := List.mem_map.mp z
     exact lk_none_iff.mp e (by rw [<- inj _ _ ea]; exact ha)
   have e2 : putK kvs (ik k) u = kvs ++ [(ik k, u)] := pk_new (m := kvs) e1
   have S4 := starK_put (k := k) (Rs := pt p (.dK (putK kvs (ik k) u)) :: Rs) (M.sub (.cons 2 rfl (.cons 1 rfl (.refl _))) S2)
   rw [<- pk_new (x := y) e, <- e2] at S4
   exact dvR_mk (nd_pk nd) (M.sub (.cons 1 rfl (.refl _)) S4)
theorem v_dpopDV {tb : TE} {σ : L2.St} {m : List (κ × α)} (S : M Rs H) (j : Nat) (hj : Rs[j]? = some (dvR ik A p m)) (k : tb σ H (PopV p Q)) : Pop1K tb σ Q (.ref p) H := by
 obtain ⟨kvs, nd, hk, S1⟩ := dvR_open S j hj
 exact v_dpop (S1.got 0 rfl) k
theorem v_popDV {m : List (κ × α)} {k : κ} {x : α} (inj : ∀ a b, ik a = ik b -> a = b) (S : M Rs H) (j : Nat) (hj : Rs[j]? = some (dvR ik A p m)) (hx : lk m k = some x) (c : ∀ u H', M (A u x :: dvR ik A p (dk m k) :: Rs.eraseIdx j) H' -> Q u H') : PopV p Q (kV (ik k)) H := by
 obtain ⟨kvs, nd, hk, S1⟩ := dvR_open S j hj
 obtain ⟨n, hn⟩ := atKey hx
 obtain ⟨u, hu, S2⟩ := starK_open (S1.at 1 rfl) hn
 have ndk := ks_kv hk inj nd
 refine ⟨kvs, ik k, u, S1.got 0 rfl, rfl, ndAt ndk hu, c u _ ?_⟩
 have S3 := S2.putAt (o' := .dK (dropK kvs (ik k))) 2 rfl
 have e2 : dropK kvs (ik k) = kvs.eraseIdx n := dkAt (m := kvs) ndk hu
 rw [e2] at S3 ⊢
 have S4 : M (pt p (.dK (kvs.eraseIdx n)) :: starK ik A (kvs.eraseIdx n) (m.eraseIdx n) :: A u x :: Rs.eraseIdx j) _ := M.sub (.cons 2 rfl (.cons 1 rfl (.refl _))) S3
 rw [<- dkAt nd hn] at S4
 exact M.sub (.cons 1 rfl (.refl _)) (dvR_mk (nd_dk nd) S4)
end
end RC
namespace RC
open PySem PySem.Spec PyProof.Rows L2
section
variable {K : Fr} {κ α : Type} {Rs : List Res} {H : Hp} {A : V -> α -> Res} {ik : κ -> Key} {p : Addr} {Q : VK}
theorem dvR_same [DecidableEq κ] {kvs : List (Key × V)} {m : List (κ × α)} {n : Nat} {k : κ} {u : V} {x : α} (h : kvs[n]? = some (ik k, u)) (g : m[n]? = some (k, x)) (nd : (ks m).Nodup) (S : M (A u x :: pt p (.dK kvs) :: starK ik A (kvs.eraseIdx n) (m.eraseIdx n) :: Rs) H) : M (dvR ik A p m :: Rs) H := by
 have S1 := starK_close (Rs := pt p (.dK kvs) :: Rs) h g (M.sub (.cons 0 rfl (.cons 1 rfl (.refl _))) S)
 rw [set_same g] at S1
 exact dvR_mk nd (M.sub (.cons 1 rfl (.refl _)) S1)
theorem lsR_same {vs : List V} {xs : List α} {n : Nat} {u : V} {x : α} (hv : vs[n]? = some u) (hx : xs[n]? = some x) (S : M (A u x :: pt p (.lst vs) :: starR A (vs.eraseIdx n) (xs.eraseIdx n) :: Rs) H) : M (lsR A p xs :: Rs) H := by
 have := lsR_close hv hx S
 rwa [set_same hx] at this
end
theorem tx_cut {β : Type} {te : TE} {σ : L2.St} {H : Hp} {Q : VK} {m : (β -> Prop) -> Prop} {KK : β -> Prop} (hf : jn m KK) (Inv : β -> V -> Hp -> Prop)
   (h1 : ∀ (kk : β -> Prop) (P' : VK), (∀ x v H, kk x -> Inv x v H -> P' v H) -> m kk -> te σ H P') (h2 : ∀ x v H, KK x -> Inv x v H -> Q v H) : te σ H Q := h1 KK Q h2 hf
theorem v_setC {Rs : List Res} {H : Hp} {p : Addr} {xs : List V} {n : Int} {j : Nat} {v : V} {Q : Hp -> Prop} (S : M Rs H) (i : Nat) (e : Rs[i]? = some (pt p (.lst xs))) (hj : ixN xs.length n = some j) (k : ∀ H', M (Rs.set i (pt p (.lst (xs.set j v)))) H' -> Q H') : uSet (.ref p) (.int n) v H Q := v_set S i e hj k
section
variable {K : Fr} {Rs : List Res} {H : Hp} {Q : VK} {v : V} {α : Type} {σ : L2.St} {tb : TE}
theorem v_orL {e : α -> PyData} {xs : List α} {X Y : Prop} (h : Dq K H v (eL e xs)) (hf : if (!xs.isEmpty) = true then X else Y) (k1 : X -> Q v H) (k2 : Y -> tb σ H Q) : OrK K tb σ Q v H := by
 cases h with
 | @lst a vs ds h t =>
   cases xs with
   | nil =>
     cases t
     exact ⟨false, .inl ⟨_, h, rfl⟩, by simpa using k2 (by simpa using hf)⟩
   | cons x xs =>
     cases t with
     | cons d t => exact ⟨true, .inl ⟨_, h, rfl⟩, by simpa using k1 (by simpa using hf)⟩
end
end RC

namespace RC
open PySem PySem.Spec PyProof.Rows L2
inductive OD where
 | fz (d : PyData)
 | ol (l : List OD)
 | ot (l : List OD)
mutual
def OD.fgt : OD -> PyData
 | .fz d => d
 | .ol l => .list (OD.fgtAll l)
 | .ot l => .tuple (OD.fgtAll l)
def OD.fgtAll : List OD -> List PyData
 | [] => []
 | x :: xs => x.fgt :: OD.fgtAll xs
end
theorem OD.fgtAll_map : ∀ l : List OD, OD.fgtAll l = l.map OD.fgt
 | [] => rfl
 | x :: xs => by rw [List.map_cons, <- OD.fgtAll_map xs]; rfl
def OD.fzs {α : Type} (e : α -> PyData) (xs : List α) : List OD := xs.map λ x => .fz (e x)
theorem OD.fgt_fzs {α : Type} (e : α -> PyData) (xs : List α) : (OD.fzs e xs).map OD.fgt = xs.map e := by
 unfold OD.fzs
 rw [List.map_map]
 rfl
theorem OD.fgt_ol {α : Type} (e : α -> PyData) (xs : List α) : (OD.ol (OD.fzs e xs)).fgt = eL e xs := by
 show PyData.list (OD.fgtAll _) = _
 rw [OD.fgtAll_map, OD.fgt_fzs]
 rfl
mutual
def odR (K : Fr) : V -> OD -> Res
 | v, .fz d => da K v d
 | v, .ol l => exi λ p => prp (v = .ref p) (exi λ vs => sp2 (pt p (.lst vs)) (odRs K vs l))
 | v, .ot l => exi λ p => prp (v = .ref p) (exi λ vs => sp2 (pt p (.tup vs)) (odRs K vs l))
def odRs (K : Fr) : List V -> List OD -> Res
 | [], [] => emR
 | v :: vs, x :: xs => sp2 (odR K v x) (odRs K vs xs)
 | [], _ :: _ => prp False emR
 | _ :: _, [] => prp False emR
end
def tlR {α : Type} (A : V -> α -> Res) (p : Addr) (xs : List α) : Res := exi λ vs => sp2 (pt p (.tup vs)) (starR A vs xs)
section
variable {K : Fr} {Rs : List Res} {H : Hp} {Q : VK} {v : V} {p : Addr}
theorem odRs_star : ∀ (vs : List V) (l : List OD), odRs K vs l = starR (odR K) vs l
 | [], [] => rfl
 | v :: vs, x :: xs => by
   show sp2 (odR K v x) (odRs K vs xs) = sp2 (odR K v x) (starR (odR K) vs xs)
   rw [odRs_star vs xs]
 | [], _ :: _ => rfl
 | _ :: _, [] => rfl
theorem odR_ol (v : V) (l : List OD) : odR K v (.ol l) = vr (lsR (odR K)) v l := by
 show (exi λ p => prp (v = .ref p) (exi λ vs => sp2 (pt p (.lst vs)) (odRs K vs l))) = exi λ p => prp (v = .ref p) (exi λ vs => sp2 (pt p (.lst vs)) (starR (odR K) vs l))
 simp only [odRs_star]
theorem odR_ot (v : V) (l : List OD) : odR K v (.ot l) = vr (tlR (odR K)) v l := by
 show (exi λ p => prp (v = .ref p) (exi λ vs => sp2 (pt p (.tup vs)) (odRs K vs l))) = exi λ p => prp (v = .ref p) (exi λ vs => sp2 (pt p (.tup vs)) (starR (odR K) vs l))
 simp only [odRs_star]
theorem M.odO {x : OD} {l : List OD} (S : M (odR K v x :: Rs) H) (h : x = .ol l) : ∃ p, v = .ref p /\ M (lsR (odR K) p l :: Rs) H := by
 subst h
 rw [odR_ol] at S
 exact S.vrO
theorem M.odC {l : List OD} (S : M (lsR (odR K) p l :: Rs) H) : M (odR K (.ref p) (.ol l) :: Rs) H := by
 rw [odR_ol]
 exact M.vrC S
mutual
theorem M.gotOD : ∀ {x : OD} {v : V} {Rs : List Res}, M (odR K v x :: Rs) H -> Dn K H v x.fgt
 | .fz d, v, Rs, S => Dq.dn (M.gotA S 0 rfl)
 | .ol l, v, Rs, S => by
   obtain ⟨p, S1⟩ := S.ex
   obtain ⟨e, S2⟩ := S1.pr
   obtain ⟨vs, S3⟩ := S2.ex
   subst e
   exact .lst (SqL.of (S3.sp.got 0 rfl)) (M.gotODs (S3.sp.at 1 rfl))
 | .ot l, v, Rs, S => by
   obtain ⟨p, S1⟩ := S.ex
   obtain ⟨e, S2⟩ := S1.pr
   obtain ⟨vs, S3⟩ := S2.ex
   subst e
   exact .tup (.inl (.inl (S3.sp.got 0 rfl))) (M.gotODs (S3.sp.at 1 rfl))
theorem M.gotODs : ∀ {l : List OD} {vs : List V} {Rs : List Res}, M (odRs K vs l :: Rs) H -> DnAll K H vs (OD.fgtAll l)
 | [], [], _, _ => .nil
 | x :: xs, v :: vs, _, S => .cons (M.gotOD S.sp) (M.gotODs (S.sp.at 1 rfl))
 | _ :: _, [], _, S => (S.pr).1.elim
 | [], _ :: _, _, S => (S.pr).1.elim
end
theorem M.dnOD {x : OD} {R0 : List Res} (S : M R0 H) (i : Nat) (e : R0[i]? = some (odR K v x)) : Dn K H v x.fgt := M.gotOD (S.at i e)
theorem M.dnLO {l : List OD} {R0 : List Res} (S : M R0 H) (i : Nat) (e : R0[i]? = some (lsR (odR K) p l)) : Dn K H (.ref p) (.list (l.map OD.fgt)) := by
 rw [<- OD.fgtAll_map]
 exact M.gotOD (x := .ol l) (M.odC (S.at i e))
mutual
theorem M.frzOD : ∀ {x : OD} {v : V} {Rs : List Res}, M (odR K v x :: Rs) H -> M (da K v x.fgt :: Rs) H
 | .fz d, v, Rs, S => S
 | .ol l, v, Rs, S => by
   obtain ⟨p, S1⟩ := S.ex
   obtain ⟨e, S2⟩ := S1.pr
   obtain ⟨vs, S3⟩ := S2.ex
   subst e
   have S4 := M.frzODs (S3.sp.at 1 rfl)
   have S5 : M (pt p (.lst vs) :: daA K vs (OD.fgtAll l) :: Rs) H := S4.at 1 rfl
   exact M.sub (.cons 0 rfl (.tl (.refl _))) (S5.fixG (φ := λ F => DqAll K F vs (OD.fgtAll l)) (R := da K (.ref p) (.list (OD.fgtAll l))) (λ F L s => by
     obtain ⟨l, h⟩ := s.get 0 rfl
     exact h.2) λ F q fp => ⟨rfl, .lst (.inl (.inl fp)) q⟩)
 | .ot l, v, Rs, S => by
   obtain ⟨p, S1⟩ := S.ex
   obtain ⟨e, S2⟩ := S1.pr
   obtain ⟨vs, S3⟩ := S2.ex
   subst e
   have S4 := M.frzODs (S3.sp.at 1 rfl)
   have S5 : M (pt p (.tup vs) :: daA K vs (OD.fgtAll l) :: Rs) H := S4.at 1 rfl
   exact M.sub (.cons 0 rfl (.tl (.refl _))) (S5.fixG (φ := λ F => DqAll K F vs (OD.fgtAll l)) (R := da K (.ref p) (.tuple (OD.fgtAll l))) (λ F L s => by
     obtain ⟨l, h⟩ := s.get 0 rfl
     exact h.2) λ F q fp => ⟨rfl, .tup (.inl (.inl fp)) q⟩)
theorem M.frzODs : ∀ {l : List OD} {vs : List V} {Rs : List Res}, M (odRs K vs l :: Rs) H -> M (daA K vs (OD.fgtAll l) :: Rs) H
 | [], [], _, S => by
   obtain ⟨F, L, ⟨l1, l2, e, a, s⟩, m⟩ := S
   exact ⟨F, L, ⟨l1, l2, e, ⟨a, .nil⟩, s⟩, m⟩
 | x :: xs, v :: vs, Rs, S => by
   have S1 := M.frzOD S.sp
   have S2 := M.frzODs (S1.at 1 rfl)
   have S3 : M (da K v x.fgt :: daA K vs (OD.fgtAll xs) :: Rs) H := S2.at 1 rfl
   obtain ⟨F, L, ⟨l1, l2, rfl, ⟨rfl, h⟩, l3, l4, rfl, ⟨rfl, q⟩, s⟩, m⟩ := S3
   exact ⟨F, l4, ⟨[], l4, rfl, ⟨rfl, .cons h q⟩, s⟩, m⟩
 | _ :: _, [], _, S => (S.pr).1.elim
 | [], _ :: _, _, S => (S.pr).1.elim
end
theorem M.acOD {α : Type} {e : α -> PyData} {xs : List α} (S : M (acR K p (xs.map e) :: Rs) H) : M (odR K (.ref p) (.ol (OD.fzs e xs)) :: Rs) H := by
 obtain ⟨vs, S1⟩ := S.ex
 refine M.odC ?_
 have key : ∀ {vs : List V} {xs : List α} {Rs : List Res}, M (daA K vs (xs.map e) :: Rs) H -> M (starR (odR K) vs (OD.fzs e xs) :: Rs) H := by
   intro vs
   induction vs with
   | nil =>
     intro xs Rs S
     cases xs with
     | nil => exact S.tl.addE
     | cons x xs => have := (S.gotAA 0 rfl).len; simp at this
   | cons v vs ih =>
     intro xs Rs S
     cases xs with
     | nil => have := (S.gotAA 0 rfl).len; simp at this
     | cons x xs =>
       obtain ⟨F, L, ⟨l1, l2, rfl, ⟨rfl, q⟩, s⟩, m⟩ := S
       cases q with
       | cons h q =>
         have S2 : M (daA K vs (xs.map e) :: da K v (e x) :: Rs) H := ⟨F, l2, ⟨[], l2, rfl, ⟨rfl, q⟩, [], l2, rfl, ⟨rfl, h⟩, s⟩, m⟩
         have S3 := ih S2
         exact M.sp' (M.sub (.cons 1 rfl (.refl _)) S3)
 exact M.ex' vs (M.sp' (M.sub (.cons 1 rfl (.refl _)) (key (S1.sp.at 1 rfl))))
def OD.at : OD -> Int -> Option OD
 | .fz d, i => (anyAt d i).map .fz
 | .ol l, i => atI l i
 | .ot l, i => atI l i
theorem v_ixOD {x y : OD} {i : Int} {R0 : List Res} (S : M R0 H) (j : Nat) (hj : R0[j]? = some (odR K v x)) (h : x.at i = some y) (k : ∀ u, M (odR K u y :: R0.eraseIdx j) H -> Q u H) : uIx K v (.int i) H Q := by
 have S1 := S.at j hj
 cases x with
 | fz d =>
   cases e : anyAt d i with
   | none => rw [show OD.at (.fz d) i = (anyAt d i).map .fz from rfl, e] at h; cases h
   | some z =>
     rw [show OD.at (.fz d) i = (anyAt d i).map .fz from rfl, e] at h
     cases h
     exact v_ixa S1 0 rfl e λ u S2 => k u (M.sub (.cons 0 rfl (.tl (.refl _))) S2)
 | ol l =>
   obtain ⟨n, h1, h2⟩ := atI_get (show atI l i = some y from h)
   obtain ⟨p, rfl, S2⟩ := S1.odO rfl
   exact v_ixLs S2 0 rfl h1 h2 λ u vs _ S3 => k u (M.sub (.cons 0 rfl (.tl (.tl (.refl _)))) S3)
 | ot l =>
   obtain ⟨n, h1, h2⟩ := atI_get (show atI l i = some y from h)
   rw [odR_ot] at S1
   obtain ⟨p, rfl, S2⟩ := S1.vrO
   obtain ⟨vs, S3⟩ := S2.ex
   have S4 := S3.sp
   have hl := starR_len (S4.at 1 rfl)
   obtain ⟨u, hu, S5⟩ := starR_open (S4.at 1 rfl) h2
   have S6 : M (odR K u y :: pt p (.tup vs) :: R0.eraseIdx j) H := M.sub (.cons 0 rfl (.cons 1 rfl (.tl (.refl _)))) S5
   exact v_ixT (.inl (.inl (S6.got 1 rfl))) (atI_of (by rw [hl]; exact h1) hu) (k u (M.sub (.cons 0 rfl (.tl (.refl _))) S6))
end
theorem ixN_lt {n j : Nat} {i : Int} (h : ixN n i = some j) : j < n := by
 unfold ixN at h
 split at h
 · split at h
   · cases h; omega
   · cases h
 · split at h
   · cases h; omega
   · cases h
def eLO (l : List OD) : PyData := .list (l.map OD.fgt)
section
variable {K : Fr} {α : Type} {Rs : List Res} {H : Hp} {A : V -> α -> Res} {p : Addr}
theorem starR_repl : ∀ {vs : List V} {xs : List α} {Rs : List Res} {n : Nat} {u : V} {y : α}, n < xs.length -> M (A u y :: starR A (vs.eraseIdx n) (xs.eraseIdx n) :: Rs) H -> vs.length = xs.length -> M (starR A (vs.set n u) (xs.set n y) :: Rs) H
 | [], [], _, n, _, _, h, _, _ => by simp at h
 | [], _ :: _, _, _, _, _, _, _, h => by simp at h
 | _ :: _, [], _, _, _, _, _, _, h => by simp at h
 | v :: vs, x :: xs, Rs, 0, u, y, hl, S, _ => S.sp'
 | v :: vs, x :: xs, Rs, n + 1, u, y, hl, S, e => by
   have S2 : M (sp2 (A v x) (starR A (vs.eraseIdx n) (xs.eraseIdx n)) :: A u y :: Rs) H := M.sub (.cons 1 rfl (.refl _)) S
   have S3 := starR_repl (vs := vs) (xs := xs) (n := n) (u := u) (y := y) (Rs := A v x :: Rs) (by simpa using hl) (M.sub (.cons 2 rfl (.cons 1 rfl (.refl _))) S2.sp) (by simpa using e)
   exact M.sp' (M.sub (.cons 1 rfl (.refl _)) S3)
theorem v_setLs {xs : List α} {u : V} {y : α} {i : Int} {n : Nat} {Q : Hp -> Prop} (S : M (A u y :: lsR A p xs :: Rs) H) (hn : ixN xs.length i = some n) (k : ∀ H', M (lsR A p (xs.set n y) :: Rs) H' -> Q H') : uSet (.ref p) (.int i) u H Q := by
 obtain ⟨vs, S1⟩ := (S.at 1 rfl).ex
 have S2 := S1.sp
 have hl := starR_len (S2.at 1 rfl)
 have hlt : n < xs.length := by
   have := ixN_lt hn
   exact this
 refine v_set S2 0 rfl (j := n) (by rw [hl]; exact hn) λ H' S4 => k H' ?_
 have S5 : M (starR A vs xs :: A u y :: pt p (.lst (vs.set n u)) :: Rs) H' := M.sub (.cons 1 rfl (.cons 1 rfl (.refl _))) S4
 obtain ⟨u0, hu, S6⟩ := starR_open S5 (List.getElem?_eq_getElem hlt)
 have S7 := starR_repl (Rs := pt p (.lst (vs.set n u)) :: Rs) (u := u) (y := y) hlt (M.sub (.cons 2 rfl (.cons 1 rfl (.cons 1 rfl (.tl (.refl _))))) S6) hl
 exact M.ex' _ (M.sp' (M.sub (.cons 1 rfl (.refl _)) S7))
theorem lsR_mk {vs : List V} {xs : List α} (S : M (pt p (.lst vs) :: starR A vs xs :: Rs) H) : M (lsR A p xs :: Rs) H := M.ex' vs S.sp'
end
end RC

namespace RC
open PySem PySem.Spec PyProof.Rows L2
section
variable {σ : L2.St} {H : Hp} {D : Ends} {i j k : Nat} {ta : TA}
end
end RC

namespace RC
open PySem PySem.Spec PyProof.Rows L2
section
variable {K : Fr} {κ α : Type} {ik : κ -> Key} {e : α -> PyData} {m m2 : List (κ × α)} {Rs : List Res} {H : Hp} {Q : VK} {p : Addr} {v : V}
end
section
variable {X : Cx} {CX : CXT} {g : Bool} {k : Nat} {f : Addr} {fd : FuncData} {ps : List Str} {sp : Sp} {ds : List Value} {dvs : List V} {E : XK} {W : WX} {x : Str} {p pos : Pos}
end
section
variable {α : Type} {K : Fr} {Rs : List Res} {H : Hp} {Q : VK} {v : V} {e : α -> PyData}
end
end RC

namespace RC
open PySem PySem.Spec PyProof.Rows L2
section
open PySem.SeqAt AutoSeq1 MeetsSeq MeetsSeq2 MeetsSeq3 SeqRoads2
variable {prog : Program} {w : World}
end
inductive EqTD : PyData -> PyData -> Bool -> Prop
 | same {d : PyData} (h : dOk d) (hd : d.depth <= 60) : EqTD d d true
 | word {s t : Str} {x y : PyData} (h : s ≠ t) (h1 : EqOk (eS s)) (h2 : EqOk (eS t)) : EqTD (.tuple [.str s, x]) (.tuple [.str t, y]) false
 | dict {s : Str} {m n : List (Str × List Int)} (h : m ≠ n) (h1 : EqOk (eS s)) (hd : dEq m n = false) : EqTD (.tuple [.str s, eD iS (eL eI) m]) (.tuple [.str s, eD iS (eL eI) n]) false
section
variable {X : Cx} {pins : List (Addr × Obj)} {σ : L2.St} {H : Hp} {s : Shared}
theorem Dn.one (I : Inv X pins σ H s) (sy : SysD s.heap) {v : V} {u : Value} {d d' : PyData} (h1 : Dn X.K H v d) (h2 : Dn X.K H v d') (r : RelV v u) (c : d.canLay0 = true) : d = d' := by
 obtain ⟨as, r1, _⟩ := h1.reads I sy r
 obtain ⟨bs, r2, _⟩ := h2.reads I sy r
 exact SeqAt.Reads.unique _ _ _ _ _ c r1 r2
end
section
variable {X : Cx}
end
end RC

namespace RC
open PySem PySem.Spec PyProof.Rows L2
def lsW {α : Type} (A : V -> α -> Res) (p : Addr) (vs : List V) (xs : List α) : Res := sp2 (pt p (.lst vs)) (starR A vs xs)
section
variable {K : Fr} {α β γ : Type} {Rs : List Res} {H : Hp} {σ : L2.St} {D : Ends} {A : V -> α -> Res} {B : V -> β -> Res} {p : Addr} {Q : VK} {vs : List V} {xs : List α}
theorem lsR_W (S : M (lsR A p xs :: Rs) H) : ∃ vs, M (lsW A p vs xs :: Rs) H := S.ex
theorem lsW_R (S : M (lsW A p vs xs :: Rs) H) : M (lsR A p xs :: Rs) H := M.ex' vs S
theorem lsW_len (S : M Rs H) (j : Nat) (hj : Rs[j]? = some (lsW A p vs xs)) : SqL K H p vs /\ vs.length = xs.length := by
 have S1 : M (pt p (.lst vs) :: starR A vs xs :: Rs.eraseIdx j) H := (S.at j hj).sp
 exact ⟨SqL.of (S1.got 0 rfl), starR_len (S1.at 1 rfl)⟩
theorem lsW_open {n : Nat} {v : V} {x : α} (S : M Rs H) (j : Nat) (hj : Rs[j]? = some (lsW A p vs xs)) (hv : vs[n]? = some v) (hx : xs[n]? = some x) : M (A v x :: pt p (.lst vs) :: starR A (vs.eraseIdx n) (xs.eraseIdx n) :: Rs.eraseIdx j) H := by
 have S1 : M (pt p (.lst vs) :: starR A vs xs :: Rs.eraseIdx j) H := (S.at j hj).sp
 obtain ⟨u, hu, S3⟩ := starR_open (S1.at 1 rfl) hx
 rw [hv] at hu
 cases hu
 exact M.sub (.cons 0 rfl (.cons 1 rfl (.refl _))) S3
theorem lsW_close {n : Nat} {u : V} {x y : α} (hv : vs[n]? = some u) (hx : xs[n]? = some x) (S : M (A u y :: pt p (.lst vs) :: starR A (vs.eraseIdx n) (xs.eraseIdx n) :: Rs) H) : M (lsW A p vs (xs.set n y) :: Rs) H := by
 have hl : n < xs.length := by
   cases Nat.lt_or_ge n xs.length with
   | inl h => exact h
   | inr h => rw [List.getElem?_eq_none h] at hx; cases hx
 have S2 := starR_close (Rs := pt p (.lst vs) :: Rs) hv hl (M.sub (.cons 0 rfl (.cons 1 rfl (.refl _))) S)
 exact M.sp' (M.sub (.cons 1 rfl (.refl _)) S2)
theorem lsW_same {n : Nat} {u : V} {x : α} (hv : vs[n]? = some u) (hx : xs[n]? = some x) (S : M (A u x :: pt p (.lst vs) :: starR A (vs.eraseIdx n) (xs.eraseIdx n) :: Rs) H) : M (lsW A p vs xs :: Rs) H := by
 have := lsW_close hv hx S
 have e : xs.set n x = xs := by
   refine List.ext_getElem? λ i => ?_
   rw [List.getElem?_set]
   by_cases z : n = i
   · subst z
     rw [if_pos rfl, hx]
     have hl : n < xs.length := by
       cases Nat.lt_or_ge n xs.length with
       | inl h => exact h
       | inr h => rw [List.getElem?_eq_none h] at hx; cases hx
     rw [if_pos hl]
   · rw [if_neg z]
 rwa [e] at this
theorem for_lsI {F : Nat -> β -> (β -> Prop) -> Prop} {s0 : β} {KK : β -> Prop} {g : TG} {tb : TS} {n : Nat} (hf : forD F (List.range n) s0 KK) (Inv : β -> L2.St -> Hp -> Prop) (h0 : Inv s0 σ H) (hn : vs.length = n)
   (hrd : ∀ s σ H, Inv s σ H -> SqL K H p vs)
   (hs : ∀ (i : Nat) v s σ H (kk : β -> Prop), Inv s σ H -> vs[i]? = some v -> F i s kk -> g v σ H λ σ2 H2 => tb ⟨λ σ H => ∃ s', kk s' /\ Inv s' σ H, D.rt, D.nx, λ σ H => ∃ s', kk s' /\ Inv s' σ H⟩ σ2 H2)
   (hd : ∀ s σ H, KK s -> Inv s σ H -> D.nx σ H) : ForW (Itl K p) g tb D σ H := by
 refine for_W walk_list (λ i σ H => ∃ s, forD F ((List.range n).drop i) s KK /\ Inv s σ H) ⟨s0, by simpa using hf, h0⟩ (λ i σ H _ ⟨s, _, h⟩ => hrd s σ H h) ?_ ?_
 · rintro i v σ H H' hi ⟨s, hf, h⟩ ⟨rfl, hv⟩
   have hi2 : i < (List.range n).length := by rw [List.length_range]; omega
   rw [List.drop_eq_getElem_cons hi2, List.getElem_range] at hf
   exact hs i v s σ H' _ h hv hf
 · rintro σ H ⟨s, hf, h⟩
   rw [List.drop_of_length_le (by rw [List.length_range]; omega)] at hf
   exact hd s σ H hf h
theorem lsR_put {N : Hp -> Prop} {E : Addr} {ys : List β} {u : V} {y : β} (S : M (B u y :: lsR B E ys :: Rs) H) (hz : ys.length < 100000) (k : ∀ H', M (lsR B E (ys ++ [y]) :: Rs) H' -> N H') : LcK N E u H := by
 obtain ⟨ws, S1⟩ := (S.at 1 rfl).ex
 have S2 := S1.sp
 have hl := starR_len (S2.at 1 rfl)
 refine ⟨ws, S2.got 0 rfl, Nat.lt_of_lt_of_le (by rw [hl]; exact hz) (by decide), k _ ?_⟩
 have S3 := S2.putAt (o' := .lst (ws ++ [u])) 0 rfl
 have S4 : M (B u y :: starR B ws ys :: pt E (.lst (ws ++ [u])) :: Rs) _ := M.sub (.cons 2 rfl (.cons 1 rfl (.refl _))) S3
 exact M.ex' _ (M.sp' (M.sub (.cons 1 rfl (.refl _)) (starR_put S4)))
theorem M.odTC {l : List OD} (S : M (pt p (.tup vs) :: starR (odR K) vs l :: Rs) H) : M (odR K (.ref p) (.ot l) :: Rs) H := by
 rw [odR_ot]
 exact M.vrC (M.ex' vs S.sp')
end
end RC

namespace RC
open PySem PySem.Spec PyProof.Rows L2
section
variable {prog : Program} {w : World} {A : Around} {E : Value -> Shared -> Prop} {s : Shared}
end
section
variable {X : Cx}
end
section
variable {K : Fr} {F : Hp}
end
section
variable {K : Fr} {Rs : List Res} {H : Hp} {σ : L2.St} {α : Type} {e : α -> PyData} {l b : Addr} {xs ys : List α} {Q : L2.St -> Hp -> Prop}
end
end RC

namespace RC
open PySem PySem.Spec PyProof.Rows L2
section
variable {X : Cx}
end
section
variable {K : Fr} {α β γ : Type} {Rs : List Res} {H : Hp} {σ : L2.St} {a b : Addr} {Q : VK} {vs us : List V} {xs : List α} {ys : List γ}
end
section
variable {K : Fr} {κ α κ2 γ : Type} [DecidableEq κ] [DecidableEq κ2] {Rs : List Res} {H : Hp} {σ : L2.St} {p : Addr} {Q : VK} {od : Obj} {kvs : List (Key × V)} {ik : κ -> Key} {m : List (κ × α)}
end
end RC

namespace RC
open PySem PySem.Spec PyProof.Rows L2
section
variable {K : Fr} {α : Type} {H : Hp} {A : V -> α -> Res} {p : Addr} {e : α -> PyData}
end
end RC

namespace RC
open PySem PySem.Spec PyProof.Rows L2
def tkeyI (h : Heap) : Value -> Int
 | .ref a => match h.get? a with
   | some o => match o.data with
     | .seq xs _ => match (xs[0]? : Option Value) with
       | some (Value.int y _) => y
       | _ => 0
     | _ => 0
   | none => 0
 | _ => 0
def TxPI (h : Heap) (v : Value) (y : Int) (u : Value) : Prop := ∃ a o t n, v = .ref a /\ h.get? a = some o /\ o.cls = .type "tuple" /\ o.data = .seq #[.int y t, u] n
theorem TxPI.key {h : Heap} {v : Value} {y : Int} {u : Value} (p : TxPI h v y u) : tkeyI h v = y := by
 obtain ⟨a, o, t, n, rfl, ho, hc, hd⟩ := p
 unfold tkeyI
 simp only [ho, hd]
 rfl
theorem TxPI.keeps {h h' : Heap} {v : Value} {y : Int} {u : Value} (p : TxPI h v y u) (k : ∀ b o, v = .ref b -> h.get? b = some o -> h'.get? b = some o) : TxPI h' v y u := by
 obtain ⟨a, o, t, n, rfl, ho, hc, hd⟩ := p
 exact ⟨a, o, t, n, rfl, k _ _ rfl ho, hc, hd⟩
section
variable {prog : Program} {w : World} {A : Around} {s : Shared}
end
section
variable {X : Cx}
end
section
variable {K : Fr} {α : Type} {e : α -> PyData} {Rs : List Res} {H H' : Hp} {Q : VK} {v : V} {p : Addr}
end
section
variable {α : Type} {A : V -> α -> Res} {p : Addr} {Rs : List Res} {H : Hp}
end
end RC

namespace RC
open PySem PySem.Spec PyProof.Rows L2
open PySem.Sem (wp)
def sIt : Bool -> String
 | true => "tuple_iterator"
 | false => "list_iterator"
def SIt (f : Bool) (h : Heap) (a l : Addr) (i : Nat) : Prop := ∃ o, h.get? a = some o /\ o.cls = .type (sIt f) /\ o.data = .fields #[.ref l, .int i 0]
theorem SIt.at {f : Bool} {h h' : Heap} {a l : Addr} {i : Nat} (x : SIt f h a l i) (e : ∀ o, h.get? a = some o -> h'.get? a = some o) : SIt f h' a l i := let ⟨o, ho, r⟩ := x; ⟨o, e _ ho, r⟩
section
variable {prog : Program} {w : World} {A : Around} {E : Value -> Shared -> Prop} {s : Shared}
end
section
variable {prog : Program} {w : World} {A : Around} {E : Value -> Shared -> Prop} {s : Shared}

end
section
variable {X : Cx} {pins : List (Addr × Obj)} {σ : L2.St} {H : Hp} {s : Shared} {f : Bool} {a : Addr} {xs ys : List V}
end
section
variable {K : Fr} {f1 f2 f : Bool} {a b : Addr} {vs us : List V} {Rs : List Res} {H : Hp} {σ : L2.St} {Q : VK} {α γ β : Type} {xs : List α} {ys : List γ} {D : Ends}
end
end RC

namespace RC
open PySem PySem.Spec PyProof.Rows L2
section
variable {P : Program} {w : World} {A : Around} {E : Value -> Shared -> Prop} {s : Shared} {a : Addr} {es : Array (Int × Value)} {ep : Nat} {t : SetTable}
end
section
variable {X : Cx}
end
section
variable {K : Fr} {α : Type} {e : α -> PyData} {Rs : List Res} {H : Hp} {Q : VK} {v : V} {a b : Addr} {σ : L2.St} {w : World}
end
section
variable {prog : Program} {w : World} {A : Around} {R : Result -> Shared -> Prop} {s : Shared} {elt t0 i0 t1 i1 : Expr} {ifs0 ifs1 : List Expr} {scope : Scope} {pos : Pos} {it acc : Value} {env : Env}
end

section
variable {X : Cx}
end
end RC

namespace RC
open PySem PySem.Spec PyProof.Rows L2
section
variable {K : Fr} {w : World} {Rs : List Res} {H : Hp} {σ : L2.St} {Q : VK} {α κ : Type} {vs : List V} {xs : List α} {a p D : Addr} {e : α -> PyData} {L : List Key} {acc : List Int}
end
structure InsY (K : Fr) (C : Addr) : Prop where
 ha : PySem.W.findIn K (.ref C) "__class__" = some (some (.builtin "object.__class__"))
 hn : PySem.W.specialIn K (.builtin "object.__class__") "__get__" = some (some (.builtin "getset_descriptor.__get__"))
 ht : PySem.W.takesIn K (.builtin "object.__class__") = some true
 hm : PySem.W.mroIn K C (.type "object") = some true
end RC

namespace RC
open PySem PySem.Spec PyProof.Rows L2
section
variable {K : Fr} {κ α β γ κ2 : Type} [DecidableEq κ] [DecidableEq κ2] {Rs : List Res} {H : Hp} {σ : L2.St} {p : Addr} {Q : VK} {od : Obj} {kvs : List (Key × V)} {ik : κ -> Key} {m : List (κ × α)} {e : α -> PyData} {sv : κ -> V} {D : Ends}
end
end RC

namespace RC
open PySem PySem.Spec PyProof.Rows L2
section
variable {K : Fr} {Rs : List Res} {H : Hp} {Q : VK} {p q : Addr} {m : List ((Int × Int) × Bool)} {x : Int × Int} {σ : L2.St}
end
section
variable {X : Cx}
end
section
variable {K : Fr} {α κ : Type} {ik : κ -> Key} {e : α -> PyData} {Rs : List Res} {H H' : Hp} {Q : VK} {v : V} {p : Addr} {m : List (κ × α)}
end
section
variable {K : Fr} {α β : Type} {A : V -> α -> Res} {B : List V -> β -> Res} {e : α -> PyData} {es : β -> List PyData} {Rs : List Res} {H : Hp} {p : Addr}
end
section
variable {K : Fr} {α : Type} {A : V -> α -> Res} {Rs : List Res} {H : Hp} {p : Addr}
end
end RC

namespace RC
open PySem PySem.Spec PyProof.Rows L2
section
variable {K : Fr} {α : Type} {e : α -> PyData} {Rs : List Res} {H : Hp} {p : Addr} {vs : List V} {xs : List α} {Q : VK}
end
section
variable {K : Fr} {H : Hp} {Q : VK} {v w : V}
end
end RC

namespace RC
open PySem PySem.Spec PyProof.Rows L2
section
variable {X : Cx}
end
section
variable {K : Fr} {Rs : List Res} {H : Hp} {Q : VK} {w : World} {a b : Addr}
end
section
variable {Rs : List Res} {H : Hp}
end
end RC

namespace RC
open PySem PySem.Spec PyProof.Rows L2
section
variable {K : Fr} {Rs : List Res} {H : Hp} {σ : L2.St} {Q : VK} {α β γ : Type} {xs : List α} {ys : List β} {a q D : Addr} {e : α -> PyData} {eb : β -> PyData} {e' : γ -> PyData} {sv : α -> V} {svb : β -> V} {acc : List γ}
end
section
variable {X : Cx}
end
end RC

namespace RC
open PySem PySem.Spec PyProof.Rows L2
section
variable {K : Fr} {Rs : List Res} {H : Hp} {σ : L2.St} {Q : VK} {α β γ : Type} {xs : List α} {ys : List β} {a q D : Addr} {e : α -> PyData} {eb : β -> PyData} {e' : γ -> PyData} {sv : α -> V} {svb : β -> V} {acc : List γ}
end
def dvL {κ α : Type} (ik : κ -> Key) (A : V -> α -> Res) (p : Addr) (od : Obj) (kvs : List (Key × V)) (m : List (κ × α)) : Res := prp (ks m).Nodup (sp2 (pt p (.frz od (.dK kvs))) (starK ik A kvs m))
section
variable {K : Fr} {κ α β : Type} {ik : κ -> Key} {A : V -> α -> Res} {Rs : List Res} {H : Hp} {p : Addr} {m : List (κ × α)} {σ : L2.St} {od : Obj} {kvs : List (Key × V)} {Q : VK}
theorem dvL_frz (S : M (dvL ik A p od kvs m :: Rs) H) : H p = some (.frz od (.dK kvs)) := (S.pr.2.sp).got 0 rfl
theorem dv_unlock (S : M (dvL ik A p od kvs m :: Rs) H) : H p = some (.frz od (.dK kvs)) /\ M (dvR ik A p m :: Rs) (upd H p (.dK kvs)) := by
 refine ⟨dvL_frz S, ?_⟩
 obtain ⟨nd, S1⟩ := S.pr
 have S6 : M (pt p (.dK kvs) :: starK ik A kvs m :: Rs) (upd H p (.dK kvs)) := S1.sp.putAt 0 rfl
 exact M.ex' kvs (M.pr' nd S6.sp')
theorem dv_lock (S : M (dvR ik A p m :: Rs) H) : ∃ kvs, H p = some (.dK kvs) /\ kvs.map (·.1) = (ks m).map ik /\ ∀ od, M (dvL ik A p od kvs m :: Rs) (upd H p (.frz od (.dK kvs))) := by
 obtain ⟨kvs, S1⟩ := S.ex
 obtain ⟨nd, S2⟩ := S1.pr
 refine ⟨kvs, S2.sp.got 0 rfl, starK_keys (S2.sp.at 1 rfl), λ od => ?_⟩
 have S6 : M (pt p (.frz od (.dK kvs)) :: starK ik A kvs m :: Rs) (upd H p (.frz od (.dK kvs))) := S2.sp.putAt 0 rfl
 exact M.pr' nd S6.sp'
variable [DecidableEq κ]
theorem v_ixDVl {k : κ} {x : α} (inj : ∀ a b, ik a = ik b -> a = b) (S : M Rs H) (j : Nat) (hj : Rs[j]? = some (dvL ik A p od kvs m)) (hx : lk m k = some x)
   (c : ∀ u n, kvs[n]? = some (ik k, u) -> m[n]? = some (k, x) -> (ks m).Nodup -> M (A u x :: pt p (.frz od (.dK kvs)) :: starK ik A (kvs.eraseIdx n) (m.eraseIdx n) :: Rs.eraseIdx j) H -> Q u H) : rIxK (.ref p) (kV (ik k)) H Q := by
 obtain ⟨nd, S1⟩ := (S.at j hj).pr
 have S1 := S1.sp
 have hk := starK_keys (S1.at 1 rfl)
 obtain ⟨n, hn⟩ := atKey hx
 obtain ⟨u, hu, S2⟩ := starK_open (S1.at 1 rfl) hn
 have S3 : M (A u x :: pt p (.frz od (.dK kvs)) :: starK ik A (kvs.eraseIdx n) (m.eraseIdx n) :: Rs.eraseIdx j) H := M.sub (.cons 0 rfl (.cons 1 rfl (.refl _))) S2
 exact ⟨p, u, rfl, .inl ⟨kvs, ik k, .inr ⟨od, S3.got 1 rfl⟩, rfl, (ndAt (ks_kv hk inj nd) hu).symm⟩, c u n hu hn nd S3⟩
theorem dvL_same {n : Nat} {k : κ} {u : V} {x : α} (h : kvs[n]? = some (ik k, u)) (g : m[n]? = some (k, x)) (nd : (ks m).Nodup) (S : M (A u x :: pt p (.frz od (.dK kvs)) :: starK ik A (kvs.eraseIdx n) (m.eraseIdx n) :: Rs) H) : M (dvL ik A p od kvs m :: Rs) H := by
 have S1 := starK_close (Rs := pt p (.frz od (.dK kvs)) :: Rs) h g (M.sub (.cons 0 rfl (.cons 1 rfl (.refl _))) S)
 rw [set_same g] at S1
 exact M.pr' nd (M.sub (.cons 1 rfl (.refl _)) S1).sp'
end
end RC

namespace RC
open PySem PySem.Spec PyProof.Rows L2
section
variable {K : Fr} {α : Type} {e : α -> PyData} {Rs : List Res} {H : Hp} {Q : VK} {p q : Addr}
end
end RC

namespace RC
open PySem PySem.Spec PyProof.Rows L2
def nthR : List Res -> Nat -> Option Res
 | [], _ => none
 | R :: _, 0 => some R
 | _ :: Rs, n + 1 => nthR Rs n
def dropR : Nat -> List Res -> List Res
 | 0, Rs => Rs
 | _ + 1, [] => []
 | n + 1, _ :: Rs => dropR n Rs
def pkL (Bs tl : List Res) : List Nat -> List Res
 | [] => tl
 | j :: js => match nthR Bs j with
   | some R => R :: pkL Bs tl js
   | none => pkL Bs tl js
def notIn (j : Nat) : List Nat -> Bool
 | [] => true
 | i :: is => !(Nat.beq i j) && notIn j is
def okJ (n : Nat) : List Nat -> Bool
 | [] => true
 | j :: js => Nat.blt j n && (notIn j js && okJ n js)
theorem nthR_eq : ∀ (Bs : List Res) (n : Nat), nthR Bs n = Bs[n]?
 | [], n => by cases n <;> rfl
 | R :: Bs, 0 => rfl
 | R :: Bs, n + 1 => by
   rw [nthR, nthR_eq Bs n, List.getElem?_cons_succ]
theorem dropR_eq : ∀ (n : Nat) (Bs : List Res), dropR n Bs = Bs.drop n
 | 0, Bs => rfl
 | n + 1, [] => rfl
 | n + 1, R :: Bs => by
   rw [dropR, dropR_eq n Bs, List.drop_succ_cons]
theorem pkL_eq (Bs tl : List Res) : ∀ js : List Nat, pkL Bs tl js = js.filterMap (λ i => Bs[i]?) ++ tl
 | [] => rfl
 | j :: js => by
   rw [pkL, nthR_eq, pkL_eq Bs tl js, List.filterMap_cons]
   cases Bs[j]? <;> rfl
theorem notIn_ok {j : Nat} : ∀ {is : List Nat}, notIn j is = true -> j ∉ is
 | [], _ => λ h => nomatch h
 | i :: is, h => by
   obtain ⟨h1, h2⟩ := Bool.and_eq_true_iff.mp h
   intro hm
   rcases List.mem_cons.mp hm with e | e
   · subst e
     rw [show Nat.beq j j = true from Nat.beq_refl j] at h1
     cases h1
   · exact notIn_ok h2 e
theorem okJ_ok {n : Nat} : ∀ {js : List Nat}, okJ n js = true -> js.Nodup /\ ∀ j ∈ js, j < n
 | [], _ => ⟨List.nodup_nil, λ _ h => nomatch h⟩
 | j :: js, h => by
   obtain ⟨h1, h2⟩ := Bool.and_eq_true_iff.mp h
   obtain ⟨h3, h4⟩ := Bool.and_eq_true_iff.mp h2
   obtain ⟨i1, i2⟩ := okJ_ok h4
   refine ⟨List.nodup_cons.mpr ⟨notIn_ok h3, i1⟩, λ i hi => ?_⟩
   rcases List.mem_cons.mp hi with e | e
   · rw [e]
     exact Nat.le_of_ble_eq_true h1
   · exact i2 i e
theorem take_fm (Bs : List Res) (n : Nat) : (List.range n).filterMap (λ i => Bs[i]?) = Bs.take n := by
 induction n with
 | zero => rfl
 | succ n ih =>
   rw [List.range_succ, List.filterMap_append, ih, List.take_succ]
   cases e : Bs[n]? <;> simp [e]
theorem Sub.left (rest : List Res) : ∀ As : List Res, Sub As (As ++ rest)
 | [] => Sub.nil _
 | a :: As => Sub.cons 0 rfl (Sub.left rest As)
theorem M.pk {Bs : List Res} {H : Hp} (S : M Bs H) (n : Nat) (js : List Nat) (h : okJ n js = true) : M (pkL Bs (dropR n Bs) js) H := by
 obtain ⟨h1, h2⟩ := okJ_ok h
 rw [pkL_eq, dropR_eq]
 have hp : (js ++ (List.range n).filter λ i => !decide (i ∈ js)).Perm (List.range n) := by
   refine perm_of ?_ List.nodup_range λ x => ?_
   · refine List.nodup_append.mpr ⟨h1, List.nodup_range.sublist List.filter_sublist, λ a ha b hb e => ?_⟩
     subst e
     simp [ha] at hb
   · rw [List.mem_append, List.mem_filter, List.mem_range]
     constructor
     · rintro (h | h)
       · exact h2 x h
       · exact h.1
     · intro h
       by_cases z : x ∈ js
       · exact .inl z
       · exact .inr ⟨h, by simpa using z⟩
 have hq := (hp.filterMap λ i => Bs[i]?)
 rw [List.filterMap_append, take_fm] at hq
 have hr : ((js.filterMap (λ i => Bs[i]?) ++ Bs.drop n) ++ ((List.range n).filter λ i => !decide (i ∈ js)).filterMap (λ i => Bs[i]?)).Perm Bs := by
   have h3 := hq.append_right (Bs.drop n)
   rw [List.take_append_drop] at h3
   refine List.Perm.trans ?_ h3
   rw [List.append_assoc, List.append_assoc]
   exact List.Perm.append_left _ List.perm_append_comm
 refine M.sub (λ F L s => ?_) S
 obtain ⟨L0, p0, s0⟩ := s.perm hr.symm
 obtain ⟨L1, L2, p1, s1⟩ := Sub.left _ _ F L0 s0
 exact ⟨L1, L2, p0.trans p1, s1⟩
end RC

namespace RC
open PySem PySem.Spec PyProof.Rows L2
end RC

namespace RC
open PySem PySem.Spec PyProof.Rows L2
section
variable {K : Fr} {α : Type} {Rs : List Res} {H : Hp} {T : Addr -> α -> Res} {p : Addr} {Q : VK}
end
end RC

namespace RC
open PySem PySem.Spec PyProof.Rows L2
theorem FnX.or {g : Bool} {P : Program} {w : World} {K : Fr} {mg : Str -> Option Value} {base : Heap} {CX : CXT} {k : Nat} {f : Addr} {fd : FuncData} {ps : List Str} {s1 s2 : Sp}
   (F1 : FnX g P w K mg base CX k f fd ps s1) (F2 : FnX g P w K mg base CX k f fd ps s2) : FnX g P w K mg base CX k f fd ps (λ vs H Q E => s1 vs H Q E \/ s2 vs H Q E) :=
 ⟨λ vs H Q E h => h.elim (F1.lenG vs H Q E) (F2.lenG vs H Q E), λ B out t H args bs us vs Q E a b c d e f h => h.elim (F1.runG B out t H args bs us vs Q E a b c d e f) (F2.runG B out t H args bs us vs Q E a b c d e f)⟩
section
variable {K : Fr} {H : Hp} {v w : V} {Q : VK} {Rs : List Res} {σ : L2.St} {α β : Type}
theorem cpOk_li {n : Nat} {xs : List Int} (h : xs.length <= 1000) : cpOk (n + 1) ((eL eI) xs) := by
 refine ⟨by rw [List.length_map]; exact h, λ x hx => ?_⟩
 obtain ⟨i, _, rfl⟩ := List.mem_map.mp hx
 cases n <;> exact trivial
end
section
variable {κ α : Type} [DecidableEq κ] {K : Fr} {ik : κ -> Key} {e : α -> PyData} {m : List (κ × α)} {Rs : List Res} {H : Hp} {Q : VK} {σ : L2.St} {p : Addr}
end
end RC

namespace RC
open PySem PySem.Spec PyProof.Rows L2
section
variable {X : Cx}
end
section
variable {α : Type} {K : Fr} {e : α -> PyData} {m : List (Int × α)} {Rs : List Res} {H : Hp} {Q : VK} {p : Addr}
end
section
variable {α : Type} {K : Fr} {Rs : List Res} {H : Hp} {Q : VK} {v w : V} {p : Addr} {e : α -> PyData}
end
end RC

namespace RC
open PySem PySem.Spec PyProof.Rows L2
section
variable {K : Fr} {κ α β : Type} {ik : κ -> Key} {A : V -> α -> Res} {e : α -> PyData} {Rs : List Res} {H : Hp} {p : Addr} {m : List (κ × α)} {σ : L2.St} {od : Obj} {kvs : List (Key × V)} {Q : VK}
end
end RC

namespace RC
open PySem PySem.Spec PyProof.Rows L2
section
variable {K : Fr} {α : Type} {A : V -> α -> Res} {Rs : List Res} {H : Hp} {p : Addr} {Q : VK}
variable {vs : List V} {xs : List α} {n m : Nat} {u1 u2 : V} {x1 x2 y1 y2 : α}
end
section
open PySem.SeqAt PySem.AutoSeq1 PySem.MeetsSeq PySem.MeetsSeq2 PySem.MeetsSeq3
end
section
variable {K : Fr} {α : Type} {e : α -> PyData} {Rs : List Res} {H : Hp} {p : Addr} {Q : VK} {om : List (Str × List Int)}
end
section
variable {w : World} {K : Fr} {α κ : Type} {Rs : List Res} {H : Hp} {Q : VK} {σ : L2.St} {p q : Addr} {od : Obj} {kvs : List (Key × V)} {ik : κ -> Key} {m : List (κ × α)} {D : Addr} {L : List Key} {acc : List Int} {β : Type} {eb : β -> PyData} {svb : β -> V} {ys : List β}
end
section
variable {K : Fr} {κ α : Type} {ik : κ -> Key} {e : α -> PyData} {Rs : List Res} {H : Hp} {p b : Addr} {m m2 : List (κ × α)} {Q : VK}
end
end RC

namespace RC
open PySem PySem.Spec PyProof.Rows L2
section
variable {K : Fr} {H : Hp} {Q : VK} {Rs : List Res} {p : Addr}
end
end RC

namespace RC
open PySem PySem.Spec PyProof.Rows L2
def ForUG (G : Hp -> Prop) (g : TG) (tb : TS) (D : Ends) : List V -> L2.St -> Hp -> Prop
 | [], σ, H => G H /\ D.nx σ H
 | v :: r, σ, H => G H /\ g v σ H λ σ2 H2 => tb { D with nx := λ σ' H' => ForUG G g tb D r σ' H', ct := λ σ' H' => ForUG G g tb D r σ' H', bk := D.nx } σ2 H2
theorem ForUG.g {G : Hp -> Prop} {g : TG} {tb : TS} {D : Ends} : ∀ {vs : List V} {σ : L2.St} {H : Hp}, ForUG G g tb D vs σ H -> G H
 | [], _, _, h => h.1
 | _ :: _, _, _, h => h.1
def LcU (G : Hp -> Prop) (g : TG) (tt : TT) (te : TE) (ws : List Nat) (σ : L2.St) (E : Addr) (Z : Hp -> Prop) : List V -> Hp -> Prop
 | [], H => G H /\ Z H
 | v :: r, H => G H /\ g v (wipe σ ws) H λ σ2 H2 => wipe σ2 ws = wipe σ ws /\ tt σ2 H2 λ b H3 => if b = true then te σ2 H3 (LcK (λ H4 => LcU G g tt te ws σ E Z r H4) E) else LcU G g tt te ws σ E Z r H3
theorem LcU.g {G : Hp -> Prop} {g : TG} {tt : TT} {te : TE} {ws : List Nat} {σ : L2.St} {E : Addr} {Z : Hp -> Prop} : ∀ {vs : List V} {H : Hp}, LcU G g tt te ws σ E Z vs H -> G H
 | [], _, h => h.1
 | _ :: _, _, h => h.1
section
variable {K : Fr} {a : Addr} {vs : List V} {g : TG} {tt : TT} {te : TE} {ws : List Nat} {σ : L2.St} {Q : VK} {H : Hp}
end
section
variable {α : Type} {A : V -> α -> Res} {p : Addr} {x y z : α} {xs : List α} {Rs : List Res} {H : Hp}
end
end RC
namespace RC
open PySem PySem.Spec PyProof.Rows L2
end RC

namespace RC
open PySem PySem.Spec PyProof.Rows L2
section
variable {X : Cx} {pins : List (Addr × Obj)} {σ : L2.St} {H : Hp} {s : Shared}
end
section
variable {α : Type} {A : V -> α -> Res} {p : Addr} {x y : α} {Rs : List Res} {H : Hp}
end
end RC

namespace RC
open PySem PySem.Spec PyProof.Rows L2
section
variable {X : Cx}
end
section
variable {α : Type} {K : Fr} {e : α -> PyData} {m : List (Int × α)} {Rs : List Res} {H : Hp} {Q : VK} {v : V}
end
end RC

namespace RC
open PySem PySem.Spec PyProof.Rows L2
section
variable {α β γ : Type} {e : α -> PyData} {sv : α -> V} {K : Fr} {σ : L2.St} {H : Hp} {Q : VK} {D : Ends} {Rs : List Res} {v w : V} {xs ys : List α} {p : Addr}
end
section
variable {K : Fr} {Rs : List Res} {H : Hp} {v : V} {vs : List V}
end
end RC

namespace RC
open PySem PySem.Spec PyProof.Rows L2
section
variable {K : Fr} {Rs : List Res} {H : Hp} {Q : VK} {p : Addr} {xs : List Str} {x : Str}
end
end RC

namespace RC
open PySem PySem.Spec PyProof.Rows L2
section
variable {Rs : List Res} {H : Hp} {K : Fr} {κ α : Type} [DecidableEq κ] [DecidableEq α] {ik : κ -> Key} {e : α -> PyData} {m : List (κ × Option α)} {Q : VK}
end
section
variable {K : Fr} {α : Type} {A : V -> α -> Res} {Rs : List Res} {H : Hp} {p : Addr}
end
section
variable {σ : L2.St} {H : Hp} {D : Ends} {ta : TA} {R : It -> Hp -> Prop}
end
end RC

namespace RC
open PySem PySem.Spec PyProof.Rows L2
section
variable {K : Fr} {Rs : List Res} {H : Hp} {v u u1 u2 : V} {vs : List V} {p q : Addr} {d d1 d2 : PyData} {l : List OD} {xs : List Int}
end
section
variable {K : Fr} {H : Hp} {Q : VK} {Rs : List Res} {p : Addr}
end
end RC

namespace RC
open PySem PySem.Spec PyProof.Rows L2
section
variable {K : Fr} {α : Type} {f : α -> V} {Rs : List Res} {H : Hp} {Q : VK} {p q : Addr} {m : List ((Int × Int) × α)} {x : Int × Int} {σ : L2.St}
end
end RC

namespace RC
open PySem PySem.Spec PyProof.Rows L2
section
variable {X : Cx}
end
end RC

namespace RC
open PySem PySem.Spec PyProof.Rows L2
@[reducible] def teKT (K : Fr) (i : Nat) (tf : TE) : TE := tOp (uAdd K) (tVar i) (tTup (tCons (tOp rIxK tf (tVar i)) tNil))
section
variable {K : Fr} {Rs : List Res} {σ : L2.St} {E a p : Addr} {m : List ((Int × Int) × Int)} {i : Nat} {tf : TE} {ws : List Nat} {Z : Hp -> Prop} {k : Addr -> Int × Int} {all : List V}
end
end RC
namespace RC
open PySem PySem.Spec PyProof.Rows L2
section
variable {K : Fr} {Rs : List Res} {H : Hp} {Q : VK} {σ : L2.St} {p : Addr} {m : List ((Int × Int) × Int)} {i : Nat} {tf : TE} {ws : List Nat}
end
end RC
namespace RC
open PySem PySem.Spec PyProof.Rows L2
section
variable {β : Type} {K : Fr} {Rs : List Res} {σ : L2.St} {H : Hp} {Q : VK} {ws : List Nat}
end
end RC
namespace RC
open PySem PySem.Spec PyProof.Rows L2
end RC
namespace RC
open PySem PySem.Spec PyProof.Rows L2
end RC

namespace RC
open PySem PySem.Spec PyProof.Rows L2
section
variable {X : Cx}
end
end RC
namespace RC
open PySem PySem.Spec PyProof.Rows L2
section
variable {K : Fr} {Rs : List Res} {H : Hp} {Q : VK} {p : Addr}
end
end RC
namespace RC
open PySem PySem.Spec PyProof.Rows L2
section
variable {α β : Type} {K : Fr} {Rs : List Res} {σ : L2.St} {H : Hp} {Q : VK} {p : Addr} {vs : List V} {xs : List α}
end
end RC

namespace RC
open PySem PySem.Spec PyProof.Rows L2
section
variable {K : Fr} {H : Hp} {Q : VK} {v : V}
end
end RC

namespace RC
open PySem PySem.Spec PyProof.Rows L2
section
variable {K : Fr} {Rs : List Res} {H : Hp} {Q : VK} {σ : L2.St}
end
end RC

namespace RC
open PySem PySem.Spec PyProof.Rows L2
end RC

namespace RC
open PySem PySem.Spec PyProof.Rows L2
section
variable {g : TG} {tt : TT} {te : TE} {ws : List Nat} {σ : L2.St} {Q : VK} {H : Hp} {n : Nat}
end
section
variable {K : Fr} {H : Hp} {Q : VK} {v : V}
end
end RC

namespace RC
open PySem PySem.Spec PyProof.Rows L2
section
variable {X : Cx}
end
section
variable {K : Fr} {H : Hp} {Q : VK} {v w : V}
end
end RC

namespace RC
open PySem PySem.Spec PyProof.Rows L2 PySem.SeqAt
section
variable {M : Model} {prog : Program} {w : World} {A : Around} {E : Value -> Shared -> Prop} {s : Shared} {K : Fr} {x C L f : Addr} {ox : Obj} {od : Option Obj} {h₀ : Heap} {m : Str -> Option Value} {b tb : Value}
theorem ifBound_objNe {args : List Value} {Q : Option Value -> Shared -> Prop} (X : K.In s.heap) (I : PySem.W.InstAt s.heap x ox C od) (hs : PySem.W.findIn K (.ref C) "__ne__" = some (some (.builtin "object.__ne__")))
   (h : wpAny M A (call (.builtin "object.__ne__") (.ref x :: args)) (λ v => Q (some v)) E s) : wpAny M A (callSpecialIfBound? (.ref x) "__ne__" args) Q E s := by
 simp only [callSpecialIfBound?, bindSpecialIfBound?]
 refine wpAny_holding (wpAny_bind (wpAny_bind (wpAny_bind (I.type.here ((PySem.W.looks_findIn X hs).here ?_)))))
 refine wpAny_bind (wpAny_askSetting (wpAny_ite ?_))
 have fin : wpAny M A (call (.builtin "object.__ne__") ([.ref x] ++ args) >>= λ v => pure (some v)) Q E s := wpAny_bind (wpAny_mono h (λ v s' h' => wpAny_pure h') λ _ _ h' => h')
 split
 · exact wpAny_bind (wpAny_of_eq (F.cmp_object.ne.bind _) (wpAny_pure (by exact fin)))
 · exact wpAny_tryCatch (wpAny_bind (wpAny_of_eq (F.cmp_object.ne.bind _) (wpAny_pure (by exact fin))))
theorem call_objNe {Q : Value -> Shared -> Prop} (hu : A.units + 1 < cLine) (X : K.In s.heap) (I : PySem.W.InstAt s.heap x ox C od) (hm : PySem.W.mroIn K C (.type "object") = some true)
   (hs : PySem.W.findIn K (.ref C) "__eq__" = some (some (.ref f))) (hf : PySem.W.isFn K (.ref f) = true)
   (h : wpAny (model prog w) A.in1 (call (.ref f) [.ref x, b]) (λ v s' => ∃ r : Bool, v = .bool r /\ Q (.bool (!r)) s') E s) :
   wpAny (model prog w) A (call (.builtin "object.__ne__") [.ref x, b]) Q E s := by
 refine wpAny_call (codeAny_call_builtin F.cmp_object.ne.plain F.cmpEntry_ne (PySem.W.check_slot F.cmpKind_ne F.cmpSplit_ne (I.type.andThen (PySem.W.looks_mroIn X hm)) (F.cmpArgs_ne _ _) ?_))
 unfold Builtin.«object.__ne__»
 have hu1 : A.in1.units < cLine := hu
 have go : wpAny (model prog w) A.in1 (callSpecialIfBound? (.ref x) "__eq__" [b]) (λ o s' => ∃ r : Bool, o = some (.bool r) /\ Q (.bool (!r)) s') E s :=
   PySem.W.ifBound_K X I hs hf (wpAny_mono h (λ v s' z => by obtain ⟨r, e, q⟩ := z; exact ⟨r, by rw [e], q⟩) λ _ _ z => z)
 have last : ∀ (r : Bool) (s' : Shared), Q (.bool (!r)) s' -> wpAny (model prog w) A.in1 (do
     let d <- truthy (.bool r)
     ret (.bool !d)) (λ fin s' => ∃ v, fin = .done (.ret v) /\ Q v s') E s' := λ r s' q => by
   repeat wp_step
   exact ⟨_, rfl, q⟩
 refine wpAny_mono (Q := λ fin s' => ∃ v, fin = .done (.ret v) /\ Q v s') (E := E) ?_ (λ fin s' z => by obtain ⟨v, rfl, q⟩ := z; exact q) (λ _ _ z => z)
 repeat (first | with_reducible refine wpAny_cRoomFor hu1 ?_ | with_reducible refine wpAny_mono go ?_ (λ _ _ z => z) | wp_step)
 rintro o s' ⟨r, rfl, q⟩
 exact last r s' q
theorem cmpNe_K {Q : Value -> Shared -> Prop} (hu : A.units + 1 < cLine) (F : PyProof.Rows.Fr h₀ L s.heap m) (X₀ : K.In h₀) (I : PySem.W.InstAt s.heap x ox C od) (hb : PySem.W.Looks (model prog w) s.heap (typeOf b) tb) (hn : PySem.W.notFirst K C tb = true)
   (hm : PySem.W.mroIn K C (.type "object") = some true) (hne : PySem.W.findIn K (.ref C) "__ne__" = some (some (.builtin "object.__ne__"))) (hs : PySem.W.findIn K (.ref C) "__eq__" = some (some (.ref f))) (hf : PySem.W.isFn K (.ref f) = true)
   (h : wpAny (model prog w) A.in1 (call (.ref f) [.ref x, b]) (λ v s' => ∃ r : Bool, v = .bool r /\ Q (.bool (!r)) s') E s) : wpAny (model prog w) A (richCompare .NotEq (.ref x) b) Q E s := by
 have X := X₀.keeps F.keep
 have one : wpAny (model prog w) A (tryCompare (.ref x) (cmpInfo .NotEq).2.1 b) (λ r s' => ∃ v, r = some v /\ Q v s') E s := by
   unfold tryCompare
   refine wpAny_bind (ifBound_objNe X I hne ?_)
   have c1 : wpAny (model prog w) A (call (.builtin "object.__ne__") [.ref x, b]) (λ v s' => ∃ r : Bool, v = .bool r /\ Q v s') E s :=
     call_objNe (Q := λ v s' => ∃ r : Bool, v = .bool r /\ Q v s') hu X I hm hs hf (wpAny_mono h (λ v s' z => by obtain ⟨r, e, q⟩ := z; exact ⟨r, e, !r, rfl, q⟩) λ _ _ e => e)
   refine wpAny_mono c1 (λ v s' z => ?_) λ _ _ e => e
   obtain ⟨r, e, q⟩ := z
   subst e
   exact wpAny_pure ⟨_, rfl, q⟩
 unfold richCompare
 simp only [oneThing_ref]
 refine wpAny_holding (wpAny_bind (wpAny_cRoomFor (Nat.lt_of_succ_lt hu) ?_))
 refine wpAny_bind (I.type.here (wpAny_bind (hb.here ?_)))
 split
 · rename_i q
   have e : PySem.W.subIn K tb (.ref C) = some false := by
     rcases Bool.or_eq_true_iff.mp hn with e | e
     · rw [beq_iff_eq.mp e] at q; simp at q
     · exact beq_iff_eq.mp e
   refine wpAny_bind ((PySem.W.looks_subIn X e).here ?_)
   simp only [Bool.false_eq_true, if_false]
   refine wpAny_bind (wpAny_mono one (λ r s' z => ?_) λ _ _ e => e)
   obtain ⟨v, rfl, hq⟩ := z
   exact wpAny_pure hq
 · refine wpAny_bind (wpAny_pure ?_)
   simp only [Bool.false_eq_true, if_false]
   refine wpAny_bind (wpAny_mono one (λ r s' z => ?_) λ _ _ e => e)
   obtain ⟨v, rfl, hq⟩ := z
   exact wpAny_pure hq
end
theorem sub_bt {K : Fr} {C : Addr} : ∀ n ∈ ["NoneType", "bool", "int", "str", "list", "tuple", "dict"], PySem.W.subIn K (.type n) (.ref C) = some false := by
 have go : ∀ (n : String) (ts : List String), fastBuiltinMro n = some (ts.map Value.type) -> PySem.W.subIn K (.type n) (.ref C) = some false := λ n ts e => by
   show (fastBuiltinMro n).map (·.contains (.ref C)) = some false
   rw [e]
   show some ((ts.map Value.type).contains (.ref C)) = some false
   congr 1
   induction ts with
   | nil => rfl
   | cons t ts ih => simp
 intro n hn
 simp only [List.mem_cons, List.not_mem_nil, or_false] at hn
 rcases hn with rfl | rfl | rfl | rfl | rfl | rfl | rfl
 · exact go _ ["NoneType", "object"] (by decide +kernel)
 · exact go _ ["bool", "int", "object"] (by decide +kernel)
 · exact go _ ["int", "object"] (by decide +kernel)
 · exact go _ ["str", "object"] (by decide +kernel)
 · exact go _ ["list", "object"] (by decide +kernel)
 · exact go _ ["tuple", "object"] (by decide +kernel)
 · exact go _ ["dict", "object"] (by decide +kernel)
theorem looks_dn {X : Cx} {pins : List (Addr × Obj)} {σ : L2.St} {H : Hp} {s : Shared} {y : V} {u : Value} {d : PyData} (I : Inv X pins σ H s) (r : RelV y u) (h : Dn X.K H y d) :
   ∃ n ∈ ["NoneType", "bool", "int", "str", "list", "tuple", "dict"], ∀ M, PySem.W.Looks M s.heap (typeOf u) (.type n) := by
 refine ⟨tyN d, by cases d <;> simp [tyN], λ M => ?_⟩
 rcases h.ty with z | ⟨a, kvs, rfl, hr, e⟩
 · obtain ⟨P, Z, p, _⟩ := kit_of I r z
   exact Z.ty M _ I.kIn p
 · cases (show u = Value.ref a from r)
   obtain ⟨_, _, vs, _, o, es, ep, h1, h2, _⟩ := dk_rd I.hok hr
   rw [e]
   exact PySem.W.kitx_dict.ty M _ I.kIn ⟨o, h1, h2.1⟩
def rCmD (K : Fr) (neg : Bool) (C : Addr) (sp : Sp) : R2 := λ x y H Q => ∃ a d dx fs, x = .ref a /\ H a = some (.ins C dx fs) /\ Dn K H y d /\ sp [.ref a, y] H (λ v H' => ∃ r : Bool, v = .bl r /\ Q (.bl (if neg then !r else r)) H') (λ _ _ _ => False)
theorem op_eqD {X : Cx} {g : Bool} {k : Nat} {C f : Addr} {fd : FuncData} {ps : List Str} {sp : Sp} (hm : Meth X.K C "__eq__" f) (F : FnX g X.prog X.w X.K X.mg X.base CX0 k f fd ps sp) (hgu : g = true -> X.A.guards = some []) (hr : Room k X.A) (hb : Binds X.K fd ps []) : OpR X (compareOp .Eq) (rCmD X.K false C sp) := by
 intro pins s σ H x y v u Q I rx ry hq
 obtain ⟨a, d, dx, fs, rfl, ha, hd, hq⟩ := hq
 cases rx
 obtain ⟨mA, J, _⟩ := ins_get I.hok ha
 obtain ⟨od, J, _⟩ := J.look
 obtain ⟨m, hF⟩ := I.fr
 obtain ⟨n, hn, hl⟩ := looks_dn I ry hd
 show wpAny (model X.prog X.w) X.A (richCompare .Eq (.ref a) u) (EP X pins σ Q) X.xe s
 refine PySem.W.cmp_K (op := .Eq) (tb := .type n) hr.units0 hF I.ok.mod.kin J (hl _) (by unfold PySem.W.notFirst; rw [sub_bt n hn]; simp) hm.at_ hm.fn ?_
 refine wpAny_mono (runW (us := [.ref a, u]) (vs := [.ref a, y]) F hgu hr hb .nil pas0 I (.cons rfl (.cons ry .nil)) hq) (λ w s' z => ?_) λ _ _ x => x
 obtain ⟨y, H', I', ry, r, rfl, q⟩ := z
 cases ry
 exact ⟨.bl r, H', I', rfl, q⟩
theorem op_neD {X : Cx} {g : Bool} {k : Nat} {C f : Addr} {fd : FuncData} {ps : List Str} {sp : Sp} (hm : Meth X.K C "__eq__" f) (hmr : PySem.W.mroIn X.K C (.type "object") = some true)
   (hne : PySem.W.findIn X.K (.ref C) "__ne__" = some (some (.builtin "object.__ne__"))) (F : FnX g X.prog X.w X.K X.mg X.base CX0 k f fd ps sp) (hgu : g = true -> X.A.guards = some []) (hr : Room (k + 1) X.A) (hb : Binds X.K fd ps []) : OpR X (compareOp .NotEq) (rCmD X.K true C sp) := by
 intro pins s σ H x y v u Q I rx ry hq
 obtain ⟨a, d, dx, fs, rfl, ha, hd, hq⟩ := hq
 cases rx
 obtain ⟨mA, J, _⟩ := ins_get I.hok ha
 obtain ⟨od, J, _⟩ := J.look
 obtain ⟨m, hF⟩ := I.fr
 obtain ⟨n, hn, hl⟩ := looks_dn I ry hd
 show wpAny (model X.prog X.w) X.A (richCompare .NotEq (.ref a) u) (EP X pins σ Q) X.xe s
 refine cmpNe_K (tb := .type n) (by have := hr.units; omega) hF I.ok.mod.kin J (hl _) (by unfold PySem.W.notFirst; rw [sub_bt n hn]; simp) hmr hne hm.at_ hm.fn ?_
 have e0 : Env0 X.prog X.w X.K X.mg X.base X.A.in1 X.stack s H := by
   have e := I.env0
   exact ⟨e.frames, e.mod, e.bs, e.bsz, e.funs, e.frf, e.hok, e.bare⟩
 have hl := F.lenG _ _ _ _ hq
 have go := F.runG X.A.in1 X.stack s _ ⟨[.ref a, u], []⟩ _ [.ref a, u] [.ref a, y] _ _ hgu hr.in1 e0 (by simpa using hb s [.ref a, u] I.kIn (by simpa using hl)) (.refl _) (.cons rfl (.cons ry .nil)) hq
 refine wpAny_call (codeAny_mono go λ res s' z => ?_)
 match res, z with
 | .error e, z => exact z.elim
 | .ok (.ret u), z =>
   obtain ⟨y, H', I', ry, r, rfl, q⟩ := I.after z
   cases ry
   exact ⟨r, rfl, .bl (!r), H', I', rfl, q⟩
 | .ok .next, z => cases z
 | .ok .brk, z => cases z
 | .ok .cont, z => cases z
end RC

namespace RC
open PySem PySem.Spec PyProof.Rows L2
section
variable {σ : L2.St} {H : Hp} {Q : VK} {R : Str -> Hp -> Prop} {t : TE} {ts : List TE} {acc y : Str} {i : Int}
end
end RC

namespace RC
open PySem PySem.Spec PyProof.Rows L2
end RC

namespace RC
open PySem PySem.Spec PyProof.Rows L2 HT
section
variable {prog : Program} {w : World} {A : Around} {E : Value -> Shared -> Prop} {s : Shared}
end
section
variable {α : Type} {K : Fr} {Rs : List Res} {H : Hp} {σ : L2.St} {Q : VK} {v : V} {e : α -> PyData} {xs : List α} {te : TE}
end
end RC

namespace RC
open PySem PySem.Spec PyProof.Rows L2
open PyProof.Rows.KTD (TabOf Rows datumAt tabLook tab_of_look kt_dictFind_strs)
section
variable {X : Cx}
end
section
variable {δ : Type} {K : Fr} {R : δ -> V -> Prop} {x : Str} {D : List (Str × δ)}
end
section
variable {prog : Program} {w : World} {A : Around} {E : Value -> Shared -> Prop} {s : Shared} {a : Addr} {δ : Type} {R : δ -> Value -> Prop} {D : List (Str × δ)} {k : Str} {tk : Tok}
end
section
variable {X : Cx} {δ : Type} {R : δ -> V -> Prop} {a : Addr} {D : List (Str × δ)} {x : Str} {p apos cpos : Pos} {e : Expr} {ty : TE}
end
structure CallF (X : Cx) (E : XK) (f : Addr) (sp : Sp) : Prop where
 keep : PySem.W.keepIn X.K (.ref f) = true
 run : ∀ (pins : List (Addr × Obj)) (σ : L2.St) (H : Hp) (s : Shared) (Q : VK) (us : List Value) (vs : List V), Inv X pins σ H s -> Vals vs us -> sp vs H Q E -> wpAny (model X.prog X.w) X.A (call (.ref f) us) (EP X pins σ Q) X.xe s
section
variable {X : Cx}
end
section
variable {K : Fr} {Rs : List Res} {H : Hp} {Q : VK} {a : Addr}
end
end RC

namespace RC
open PySem PySem.Spec PyProof.Rows L2
section
variable {K : Fr} {Rs : List Res} {H : Hp} {Q : VK} {v : V}
end
section
variable {X : Cx} {o e : Expr} {to te : TE}
end
section
variable {K : Fr} {Rs : List Res} {H : Hp} {Q : VK} {v w : V}
end
end RC

namespace RC
open PySem PySem.Spec PyProof.Rows L2
open Sem (wp) in
section
variable {α β : Type} {e : α -> PyData} {K : Fr} {σ : L2.St} {H : Hp} {D : Ends} {v : V} {xs : List α}
end
end RC

namespace RC
open PySem PySem.Spec PyProof.Rows L2
section
variable {K : Fr} {Rs Rs2 : List Res} {R : Res} {H : Hp} {Q : VK} {v w : V}
mutual
theorem od_dq {F F' : Hp} (e : Ext F F') : ∀ {x : OD} {v : V} {c : List Cell}, (odR K v x).on F c -> (∀ q ∈ c, F' q.1 = some q.2) -> Dq K F' v x.fgt
 | .fz d, v, c, h, _ => Dq_ext e h.2
 | .ol l, v, c, h, g => by
   obtain ⟨p, rfl, vs, c1, c2, rfl, rfl, h2⟩ := h
   exact .lst (.inl (.inl (g (p, .lst vs) (List.mem_append_left _ (List.mem_singleton.mpr rfl))))) (ods_dq e h2 λ q hq => g q (List.mem_append_right _ hq))
 | .ot l, v, c, h, g => by
   obtain ⟨p, rfl, vs, c1, c2, rfl, rfl, h2⟩ := h
   exact .tup (.inl (.inl (g (p, .tup vs) (List.mem_append_left _ (List.mem_singleton.mpr rfl))))) (ods_dq e h2 λ q hq => g q (List.mem_append_right _ hq))
theorem ods_dq {F F' : Hp} (e : Ext F F') : ∀ {l : List OD} {vs : List V} {c : List Cell}, (odRs K vs l).on F c -> (∀ q ∈ c, F' q.1 = some q.2) -> DqAll K F' vs (OD.fgtAll l)
 | [], [], _, _, _ => .nil
 | x :: xs, v :: vs, c, h, g => by
   obtain ⟨c1, c2, rfl, h1, h2⟩ := h
   exact .cons (od_dq e h1 λ q hq => g q (List.mem_append_left _ hq)) (ods_dq e h2 λ q hq => g q (List.mem_append_right _ hq))
 | _ :: _, [], _, h, _ => h.1.elim
 | [], _ :: _, _, h, _ => h.1.elim
end
end
section
variable {α β γ : Type} {K : Fr} {B : V -> β -> Res} {Rs : List Res} {H : Hp} {Q : VK} {σ : L2.St} {a b : Addr} {f1 f2 : Bool} {vs us : List V} {xs : List α} {ys : List γ}
end
end RC

namespace RC
open PySem PySem.Spec PyProof.Rows L2
section
variable {K : Fr} {Rs : List Res} {H : Hp} {κ α : Type} {A : V -> α -> Res} {e : α -> PyData} {ik : κ -> Key} {p : Addr} {m : List (κ × α)} {od : Obj} {kvs : List (Key × V)}
def Free (R : Res) : Prop := ∀ F F' l, R.on F l -> R.on F' l
theorem Free.pt {a : Addr} {o : HO} : Free (pt a o) := λ _ _ _ h => h
def FreeA (Rs : List Res) : Prop := ∀ R ∈ Rs, Free R
theorem Sat.free {F F' : Hp} : ∀ {Rs : List Res} {l : List Cell}, FreeA Rs -> Sat F Rs l -> Sat F' Rs l
 | [], _, _, h => h
 | R :: Rs, _, g, ⟨l1, l2, e, a, b⟩ => ⟨l1, l2, e, g R List.mem_cons_self _ _ _ a, Sat.free (λ S hS => g S (List.mem_cons_of_mem _ hS)) b⟩
theorem Sat.app {F : Hp} {Rs2 : List Res} : ∀ {Rs1 : List Res} {l1 l2 : List Cell}, Sat F Rs1 l1 -> Sat F Rs2 l2 -> Sat F (Rs1 ++ Rs2) (l1 ++ l2)
 | [], l1, l2, h1, h2 => by
   have : l1 = [] := h1
   subst this
   exact h2
 | R :: Rs1, l1, l2, ⟨a, b, e, x, y⟩, h2 => by
   subst e
   exact ⟨a, b ++ l2, by rw [List.append_assoc], x, Sat.app y h2⟩
end
end RC

namespace RC
open PySem PySem.Spec PyProof.Rows L2
section
variable {K : Fr} {κ κ2 α γ : Type} [DecidableEq κ] [DecidableEq κ2] {ik : κ -> Key} {A : V -> α -> Res} {Rs : List Res} {H : Hp} {Q : VK} {σ : L2.St} {p : Addr} {m : List (κ × α)}
end
theorem merge_nd : ∀ {kvs acc : List (Key × V)}, ((acc ++ kvs).map (·.1)).Nodup -> mergeK acc kvs = acc ++ kvs
 | [], acc, _ => by
   show acc = _
   rw [List.append_nil]
 | (k, v) :: kvs, acc, h => by
   show mergeK (putK acc k v) kvs = _
   have nk : (acc.any λ kv => decide (kv.1 = k)) = false := by
     rw [List.any_eq_false]
     intro q hq z
     rw [List.map_append, List.nodup_append] at h
     exact h.2.2 q.1 (List.mem_map.mpr ⟨q, hq, rfl⟩) k (by simp) (of_decide_eq_true z)
   have e : putK acc k v = acc ++ [(k, v)] := by
     unfold putK
     rw [if_neg (by rw [nk]; decide)]
   rw [e, merge_nd (by rw [List.append_assoc]; exact h), List.append_assoc]
   rfl
section
variable {K : Fr} {α : Type} {B : V -> α -> Res} {H : Hp} {Q : VK}
end
section
variable {α β : Type} {e : α -> PyData} {sv : α -> V} {K : Fr} {B : V -> β -> Res} {σ : L2.St} {H : Hp} {Q : VK} {Rs : List Res} {v : V} {xs : List α}
end
section
variable {K : Fr} {α κ : Type} {ik ik' : κ -> Key} {e e' : α -> PyData} {Rs : List Res} {H : Hp} {Q : VK} {v : V} {p : Addr} {m : List (κ × α)}
end
end RC

namespace RC
open PySem PySem.Spec PyProof.Rows L2
section
variable {K : Fr} {κ α β : Type} [DecidableEq κ] {ik : κ -> Key} {A : V -> α -> Res} {Rs : List Res} {H : Hp} {p : Addr} {m : List (κ × α)} {σ : L2.St} {od : Obj} {kvs : List (Key × V)} {Q : VK} {e : α -> PyData}
end
end RC

namespace RC
open PySem PySem.Spec PyProof.Rows L2
section
variable {K : Fr} {α : Type} {A : V -> α -> Res} {H : Hp}
theorem starR_split : ∀ (n : Nat) {vs : List V} {xs : List α} {Rs : List Res}, M (starR A vs xs :: Rs) H -> M (starR A (vs.take n) (xs.take n) :: starR A (vs.drop n) (xs.drop n) :: Rs) H
 | 0, vs, xs, Rs, S => S.addE
 | n + 1, [], [], Rs, S => M.addE (by simpa using S)
 | n + 1, [], _ :: _, Rs, S => (S.pr).1.elim
 | n + 1, _ :: _, [], Rs, S => (S.pr).1.elim
 | n + 1, v :: vs, x :: xs, Rs, S => by
   have S2 := starR_split n (S.sp.at 1 rfl)
   have S3 : M (A v x :: starR A (vs.take n) (xs.take n) :: starR A (vs.drop n) (xs.drop n) :: Rs) H := M.sub (.cons 2 rfl (.cons 0 rfl (.cons 0 rfl (.refl _)))) S2
   exact S3.sp'
theorem slc_mk {c p : Addr} {n : Nat} {i : Int} {vs : List V} {xs : List α} {Rs : List Res} (hi : i = (n : Int)) (S : M (pt c (.lst (cutV vs none (some i))) :: lsW A p vs xs :: Rs) H) : M (lsW A c (vs.take n) (xs.take n) :: Rs) H := by
 subst hi
 rw [cut_to] at S
 have S1 : M (lsW A p vs xs :: pt c (.lst (vs.take n)) :: Rs) H := S.at 1 rfl
 have S2 : M (starR A vs xs :: pt c (.lst (vs.take n)) :: Rs) H := M.sub (.cons 1 rfl (.cons 1 rfl (.tl (.refl _)))) S1.sp
 have S3 := starR_split n S2
 exact M.sp' (M.sub (.cons 2 rfl (.cons 0 rfl (.tl (.refl _)))) S3)
end
section
variable {K : Fr} {κ α β : Type} [DecidableEq κ] {ik : κ -> Key} {A : V -> α -> Res} {B : V -> β -> Res} {Rs : List Res} {H : Hp} {Q : VK} {σ : L2.St} {p : Addr} {m : List (κ × α)} {od : Obj} {kvs : List (Key × V)}
theorem lo_fz {te : TE} {tt : TT} {g : TG} {ws : List Nat} {F : κ -> (Option β -> Prop) -> Prop} {KK : List β -> Prop} {R : Res} {sv : κ -> V} (hsv : ∀ q, kV (ik q) = sv q) (hk : kvs.map (·.1) = (ks m).map ik) (hf : (ks m).length <= 100000 /\ lcD F (ks m) [] KK)
   (S : M (R :: Rs) H) (hfr : ∀ Rs H, M (R :: Rs) H -> H p = some (.frz od (.dK kvs)))
   (hs : ∀ x (acc : List β) E H (kk : Option β -> Prop) (N : Hp -> Prop), acc.length < 100000 -> M (lsR B E acc :: R :: Rs) H -> F x kk ->
     (∀ y H, kk (some y) -> M (lsR B E (acc ++ [y]) :: R :: Rs) H -> N H) -> (∀ H, kk none -> M (lsR B E acc :: R :: Rs) H -> N H) -> g (sv x) (wipe σ ws) H λ σ2 H2 => wipe σ2 ws = wipe σ ws /\ tt σ2 H2 λ b H3 =>
     if b = true then te σ2 H3 (LcK N E) else N H3)
   (hd : ∀ E (acc : List β) H, KK acc -> M (lsR B E acc :: R :: Rs) H -> Q (.ref E) H) : LcW (Itk p od kvs) g tt te ws σ Q H := by
 obtain ⟨hz, hf⟩ := hf
 have hl : kvs.length = (ks m).length := by
   have := congrArg List.length hk
   simpa using this
 refine lc_X walk_keys (λ E n H => ∃ acc, lcD F ((ks m).drop n) acc KK /\ acc.length <= n /\ M (lsR B E acc :: R :: Rs) H) (λ E hE => ⟨[], by simpa using hf, Nat.le_refl _, lsR_nil (S.new hE)⟩) (λ E n H _ ⟨acc, _, _, S⟩ => hfr _ _ (S.at 1 rfl)) ?_ ?_
 · rintro E n v H H' hn ⟨acc, hf, ha, S⟩ ⟨rfl, k, u, hk', rfl⟩
   obtain ⟨hn2, ek⟩ := keys_at hsv hk hk'
   rw [List.drop_eq_getElem_cons hn2] at hf
   rw [ek]
   refine hs _ acc E H' _ _ (by omega) S hf (λ y H hk S => ⟨acc ++ [y], hk, by rw [List.length_append]; simpa using ha, S⟩) (λ H hk S => ⟨acc, ?_, by omega, S⟩)
   simpa using hk
 · rintro E H ⟨acc, hf, ha, S⟩
   rw [hl, List.drop_length] at hf
   exact hd E acc H hf S
theorem lo_kysDV {te td : TE} {tt : TT} {g : TG} {ws : List Nat} {sv : κ -> V} {F : κ -> (Option β -> Prop) -> Prop} {KK : List β -> Prop}
   (hsv : ∀ q, kV (ik q) = sv q) (hf : (ks m).length <= 100000 /\ lcD F (ks m) [] KK) (S : M (dvR ik A p m :: Rs) H)
   (htd : ∀ od kvs H' (Q' : VK), M (dvL ik A p od kvs m :: Rs) H' -> Q' (.ref p) H' -> td σ H' Q')
   (hs : ∀ od kvs x (acc : List β) E H (kk : Option β -> Prop) (N : Hp -> Prop), acc.length < 100000 -> M (lsR B E acc :: dvL ik A p od kvs m :: Rs) H -> F x kk ->
     (∀ y H, kk (some y) -> M (lsR B E (acc ++ [y]) :: dvL ik A p od kvs m :: Rs) H -> N H) -> (∀ H, kk none -> M (lsR B E acc :: dvL ik A p od kvs m :: Rs) H -> N H) -> g (sv x) (wipe σ ws) H λ σ2 H2 => wipe σ2 ws = wipe σ ws /\ tt σ2 H2 λ b H3 =>
     if b = true then te σ2 H3 (LcK N E) else N H3)
   (hd : ∀ E (acc : List β) H, KK acc -> M (lsR B E acc :: dvR ik A p m :: Rs) H -> Q (.ref E) H) : tLkE (tLc (iKeys td) g tt te ws) σ H Q := by
 obtain ⟨kvs, hp, hk, lk_⟩ := dv_lock S
 refine .inr ⟨p, .dK kvs, hp, trivial, λ od => ?_⟩
 have S1 := lk_ od
 refine htd od kvs _ _ S1 ⟨p, od, rfl, .inl ⟨kvs, dvL_frz S1, ?_⟩⟩
 refine lo_fz (Q := λ v H' => H' p = some (.frz od (.dK kvs)) /\ Q v (upd H' p (.dK kvs))) hsv hk hf S1 (λ _ _ S => dvL_frz S) (λ x acc E H kk N h1 h2 h3 h4 h5 => hs od kvs x acc E H kk N h1 h2 h3 h4 h5) ?_
 intro E acc H hK S
 obtain ⟨a, b⟩ := dv_unlock (M.at S 1 rfl)
 exact ⟨a, hd E acc _ hK (M.at b 1 rfl)⟩
end
section
variable {K : Fr} {α : Type} {B : V -> α -> Res} {H : Hp} {Q : VK}
theorem pairs_openI : ∀ {vs : List V} {ps : List (Int × α)} {Rs : List Res}, M (starR (vr (tuR (qcR (vrD K eI) (q1R B)))) vs ps :: Rs) H ->
   ∃ (as : List Addr) (kvs : List (Key × V)), vs = as.map V.ref /\ Paired (λ p kv => SqT K H p [kV kv.1, kv.2]) as kvs /\ M (starK iI B kvs ps :: Rs) H
 | [], [], Rs, S => ⟨[], [], rfl, .nil, S⟩
 | v :: vs, x :: ps, Rs, S => by
   have S1 : M (vr (tuR (qcR (vrD K eI) (q1R B))) v x :: starR (vr (tuR (qcR (vrD K eI) (q1R B)))) vs ps :: Rs) H := S.sp
   obtain ⟨p, rfl, S2⟩ := S1.vrO
   obtain ⟨us, S3⟩ := S2.ex
   have S5 : M (qcR (vrD K eI) (q1R B) us x :: pt p (.tup us) :: starR (vr (tuR (qcR (vrD K eI) (q1R B)))) vs ps :: Rs) H := M.at S3.sp 1 rfl
   obtain ⟨u, S6⟩ := S5.ex
   obtain ⟨us2, S7⟩ := S6.ex
   obtain ⟨rfl, S8⟩ := S7.pr
   have S9 := S8.sp
   have eu : u = .int x.1 := (S9.gotA 0 rfl).intV
   subst eu
   have S10 : M (q1R B us2 x.2 :: pt p (.tup (.int x.1 :: us2)) :: starR (vr (tuR (qcR (vrD K eI) (q1R B)))) vs ps :: Rs) H := S9.tl
   obtain ⟨w, S11⟩ := S10.ex
   obtain ⟨rfl, S12⟩ := S11.pr
   have hp : H p = some (.tup [.int x.1, w]) := S12.got 1 rfl
   have S13 : M (starR (vr (tuR (qcR (vrD K eI) (q1R B)))) vs ps :: B w x.2 :: Rs) H := M.sub (.cons 2 rfl (.cons 0 rfl (.tl (.refl _)))) S12
   obtain ⟨as, kvs, rfl, h1, S14⟩ := pairs_openI S13
   refine ⟨p :: as, (iI x.1, w) :: kvs, rfl, .cons (.inl (.inl hp)) h1, ?_⟩
   have S15 : M (B w x.2 :: starK iI B kvs ps :: Rs) H := M.sub (.cons 1 rfl (.refl _)) S14
   exact M.sp' (M.pr' rfl S15)
 | [], _ :: _, _, S => (S.pr).1.elim
 | _ :: _, [], _, S => (S.pr).1.elim
theorem v_dictDVI {a : Addr} {ps : List (Int × α)} {Rs : List Res} (S : M (lsR (vr (tuR (qcR (vrD K eI) (q1R B)))) a ps :: Rs) H) (nd : (ks ps).Nodup) (k : ∀ p H', M (dvR iI B p ps :: Rs) H' -> Q (.ref p) H') : rDictP K [.ref a] H Q := by
 obtain ⟨vs, S1⟩ := S.ex
 have S2 : M (starR (vr (tuR (qcR (vrD K eI) (q1R B)))) vs ps :: pt a (.lst vs) :: Rs) H := M.at S1.sp 1 rfl
 obtain ⟨as, kvs, rfl, h1, S3⟩ := pairs_openI S2
 refine ⟨a, as, kvs, rfl, SqL.of (S3.got 1 rfl), h1, λ p hp => k p _ ?_⟩
 have hk := starK_keys S3
 have e : mergeK [] kvs = kvs := by
   refine merge_nd ?_
   rw [List.nil_append, hk]
   exact nd_map (λ a b z => by injection z) nd
 rw [e]
 have S4 := S3.new (o := .dK kvs) hp
 have S5 : M (pt p (.dK kvs) :: starK iI B kvs ps :: Rs) _ := M.sub (.cons 0 rfl (.cons 0 rfl (.tl (.refl _)))) S4
 exact M.ex' kvs (M.pr' nd S5.sp')
end
abbrev rwR (K : Fr) : Addr -> (Int × Option (List Int)) -> Res := liR (qcR (vrD K eI) (q1R (vrD K (eO (eL eI)))))
def okR (x : Option (List Int)) : Prop := ∀ l, x = some l -> l.length <= 1000
def spCpM (K : Fr) : Sp := λ vs H Q _ => ∃ (Rs : List Res) (p : Addr) (x : Int × Option (List Int)), vs = [.ref p] /\ M (rwR K p x :: Rs) H /\ okR x.2 /\ ∀ (q : Addr) H', M (rwR K q x :: rwR K p x :: Rs) H' -> Q (.ref q) H'
theorem len_cpM {K : Fr} (vs : List V) (H : Hp) (Q : VK) (E : XK) (h : spCpM K vs H Q E) : vs.length = 1 := by
 obtain ⟨_, _, _, e, _⟩ := h
 rw [e]; rfl
section
variable {K : Fr} {H : Hp} {Q : VK} {Rs : List Res} {p : Addr}
theorem row_open {x : Int × Option (List Int)} (S : M (rwR K p x :: Rs) H) : ∃ w, M (pt p (.lst [.int x.1, w]) :: da K w (eO (eL eI) x.2) :: Rs) H := by
 obtain ⟨vs, S1⟩ := S.liO
 obtain ⟨u, S2⟩ := S1.ex
 obtain ⟨us, S3⟩ := S2.ex
 obtain ⟨rfl, S4⟩ := S3.pr
 have S5 := S4.sp
 have eu : u = .int x.1 := (S5.gotA 0 rfl).intV
 subst eu
 obtain ⟨w, S6⟩ := (S5.tl).ex
 obtain ⟨rfl, S7⟩ := S6.pr
 exact ⟨w, M.sub (.cons 1 rfl (.refl _)) S7⟩
theorem row_close {x : Int × Option (List Int)} {u w : V} (S : M (pt p (.lst [u, w]) :: da K u (eI x.1) :: da K w (eO (eL eI) x.2) :: Rs) H) : M (rwR K p x :: Rs) H := by
 refine M.liC (vs := [u, w]) ?_
 exact M.ex' u (M.ex' [w] (M.pr' rfl (M.sp' (M.sub (.cons 1 rfl (.refl _)) (M.ex' (T := λ z => prp ([w] = [z]) (da K z (eO (eL eI) x.2))) w (M.pr' rfl (M.sub (.cons 2 rfl (.cons 1 rfl (.cons 0 rfl (.refl _)))) S)))))))
theorem ok_row {n : Nat} {x : Option (List Int)} (h : okR x) : cpOk (n + 1) (eO (eL eI) x) := by
 cases x with
 | none => trivial
 | some l => exact cpOk_li (h l rfl)
theorem pure_cpM {n : Nat} {x : Int × Option (List Int)} (S0 : M (rwR K p x :: Rs) H) (ok : okR x.2) (hk : ∀ (q : Addr) H', M (rwR K q x :: rwR K p x :: Rs) H' -> Q (.ref q) H')
   : tLc (iList K (tVar 0)) (gName 1) tYes (tCall (spCp K (n + 2)) [] E0 (tCons (tVar 1) tNil)) [1] [some (.ref p), none, none] H Q := by
 obtain ⟨w, S1⟩ := row_open S0
 refine g_lc (g_iList (g_var rfl ?_))
 have S2 : M (daA K [.int x.1, w] ([eI x.1, eO (eL eI) x.2].map eA) :: pt p (.lst [.int x.1, w]) :: da K w (eO (eL eI) x.2) :: Rs) H := by
   have h : EnF (pt p (.lst [.int x.1, w]) :: da K w (eO (eL eI) x.2) :: Rs) λ F => DqAll K F [.int x.1, w] ([eI x.1, eO (eL eI) x.2].map eA) := EnF.consA (EnF.all λ _ => .int _) (EnF.consA (EnF.at 1 rfl) EnF.nilA)
   obtain ⟨F, L, s, m⟩ := S1
   exact ⟨F, L, ⟨[], L, rfl, ⟨rfl, h F L s⟩, s⟩, m⟩
 refine v_itL (SqL.of (S2.got 1 rfl)) ?_
 refine lc_lst (K := K) (e := eA) (e' := eA) (xs := [eI x.1, eO (eL eI) x.2]) (F := λ d kk => cpOk (n + 1) d /\ kk (some d)) (KK := λ acc => acc = [eI x.1, eO (eL eI) x.2]) ⟨by simp, lcD_same (λ d hd => ?_) (by simp)⟩ S2 (λ _ S => ⟨SqL.of (S.got 1 rfl), S.gotAA 0 rfl⟩) (λ i u y acc E2 H2 kk N hl S3 hv hx hf hp hn => ?_) (λ E2 acc H3 e S4 => ?_)
 · simp only [List.mem_cons, List.not_mem_nil, or_false] at hd
   rcases hd with rfl | rfl
   · trivial
   · exact ok_row ok
 · have S5 := S3.elA 1 rfl hv hx
   refine g_name (g_wipe rfl (g_yes (v_ifT (g_call (g_cons (g_var rfl (g_nil ⟨_, u, y, λ r => r = y, rfl, M.addA S5 (EnF.at 0 rfl), ⟨hf.1, rfl⟩, λ r u2 H4 er S6 => ?_⟩)))))))
   subst er
   refine acR_put S6 2 rfl (EnF.at 0 rfl) hl λ H5 S7 => ?_
   exact hp _ _ hf.2 (M.sub (.cons 0 rfl (.cons 2 rfl (.cons 2 rfl (.cons 2 rfl (.tl (.tl (.refl _))))))) S7)
 · subst e
   obtain ⟨vs, S5⟩ := S4.ex
   have S6 := S5.sp
   obtain ⟨a, b, rfl, da, db⟩ : ∃ a b, vs = [a, b] /\ EnF (daA K vs ([eI x.1, eO (eL eI) x.2].map eA) :: []) (λ F => Dq K F a (eI x.1)) /\ EnF (daA K vs ([eI x.1, eO (eL eI) x.2].map eA) :: []) (λ F => Dq K F b (eO (eL eI) x.2)) := by
     have q := S6.gotAA 1 rfl
     match vs, q.len with
     | [a, b], _ => exact ⟨a, b, rfl, λ F L s => by
         obtain ⟨l, h⟩ := s.get 0 rfl
         cases h.2 with
         | cons h1 _ => exact h1, λ F L s => by
         obtain ⟨l, h⟩ := s.get 0 rfl
         cases h.2 with
         | cons _ h2 => cases h2 with
           | cons h3 _ => exact h3⟩
   have S7 : M (RC.da K b (eO (eL eI) x.2) :: RC.da K a (eI x.1) :: pt E2 (.lst [a, b]) :: daA K [a, b] ([eI x.1, eO (eL eI) x.2].map eA) :: daA K [.int x.1, w] ([eI x.1, eO (eL eI) x.2].map eA) :: pt p (.lst [.int x.1, w]) :: RC.da K w (eO (eL eI) x.2) :: Rs) H3 :=
     (S6.addA λ F L s => by
       obtain ⟨l, h⟩ := s.get 1 rfl
       cases h.2 with
       | cons h1 _ => exact h1).addA λ F L s => by
       obtain ⟨l, h⟩ := s.get 2 rfl
       cases h.2 with
       | cons _ h2 => cases h2 with
         | cons h3 _ => exact h3
   have S8 : M (RC.da K (.int x.1) (eI x.1) :: RC.da K b (eO (eL eI) x.2) :: RC.da K a (eI x.1) :: pt E2 (.lst [a, b]) :: daA K [a, b] ([eI x.1, eO (eL eI) x.2].map eA) :: daA K [.int x.1, w] ([eI x.1, eO (eL eI) x.2].map eA) :: pt p (.lst [.int x.1, w]) :: RC.da K w (eO (eL eI) x.2) :: Rs) H3 := S7.addA (EnF.all λ _ => .int _)
   have S9 : M (pt p (.lst [.int x.1, w]) :: RC.da K (.int x.1) (eI x.1) :: RC.da K w (eO (eL eI) x.2) :: pt E2 (.lst [a, b]) :: RC.da K a (eI x.1) :: RC.da K b (eO (eL eI) x.2) :: Rs) H3 :=
     M.sub (.cons 6 rfl (.cons 0 rfl (.cons 5 rfl (.cons 2 rfl (.cons 1 rfl (.cons 0 rfl (.tl (.tl (.refl _))))))))) S8
   have S10 := row_close S9
   have S11 : M (pt E2 (.lst [a, b]) :: RC.da K a (eI x.1) :: RC.da K b (eO (eL eI) x.2) :: rwR K p x :: Rs) H3 := M.sub (.cons 1 rfl (.cons 1 rfl (.cons 1 rfl (.cons 0 rfl (.refl _))))) S10
   exact hk E2 _ (row_close S11)
theorem row_dn {x : Int × Option (List Int)} (S : M (rwR K p x :: Rs) H) : RC.Dn K H (.ref p) (.list [eI x.1, eO (eL eI) x.2]) := by
 obtain ⟨w, S1⟩ := row_open S
 exact .lst (SqL.of (S1.got 0 rfl)) (.cons (Dq.dn (.int _)) (.cons (Dq.dn (S1.gotA 1 rfl)) .nil))
theorem pure_cpWM (n : Nat) (vs : List V) (H : Hp) (Q : VK) (E : XK) (N : List Str) (hN : N.length = 3) (h : spCpM K vs H Q E) : tCpy K (spCp K (n + 2)) { nx := λ _ H' => Q .non H', rt := Q } (L2.start N vs) H := by
 obtain ⟨Rs, p, x, rfl, S0, ok, hk⟩ := h
 have es : L2.start N [V.ref p] = [some (.ref p), none, none] := by
   match N, hN with
   | [_, _, _], _ => rfl
 rw [es]
 have dn := row_dn S0
 refine g_seq (g_if (g_B (g_cb (g_cons (g_var rfl (g_cons (g_c (g_nil (v_isq (b := true) dn (by decide) rfl (g_bl ?_))))))))))
 exact g_ret (pure_cpM S0 ok hk)
end
section
variable {K : Fr} {H : Hp} {Q : VK} {Rs : List Res} {l : Addr}
theorem lk_own {α : Type} {q : Int × α} : ∀ {m : List (Int × α)}, (ks m).Nodup -> q ∈ m -> lk m q.1 = some q.2
 | y :: m, nd, hq => by
   rw [lk_cons]
   have nd : (y.1 :: ks m).Nodup := nd
   obtain ⟨n1, n2⟩ := List.nodup_cons.mp nd
   rcases List.mem_cons.mp hq with e | hm
   · rw [e, if_pos rfl]
   · have hne : y.1 ≠ q.1 := λ e => n1 (by rw [e]; exact List.mem_map.mpr ⟨q, hm, rfl⟩)
     rw [if_neg hne]
     exact lk_own n2 hm
abbrev mdR (K : Fr) : V -> List (Int × (Int × Option (List Int))) -> Res := vr (dvR iI (vr (rwR K)))
theorem v_cpm {sp : Sp} {i9 i5 i13 : Nat} {n : Int} {k : Nat} {ms : List (List (Int × (Int × Option (List Int))))} {m : List (Int × (Int × Option (List Int)))} {σ : L2.St} (hsp : ∀ vs H Q E, spCpM K vs H Q E -> sp vs H Q E)
   (h9 : σ[i9]? = some (some (.ref l))) (h5 : σ[i5]? = some (some (.int n)))
   (g9 : ∀ v, ((wipe σ [i13]).set i13 (some v))[i9]? = some (some (.ref l))) (g5 : ∀ v, ((wipe σ [i13]).set i13 (some v))[i5]? = some (some (.int n))) (g13 : ∀ v, ((wipe σ [i13]).set i13 (some v))[i13]? = some (some v)) (gw : ∀ v, wipe ((wipe σ [i13]).set i13 (some v)) [i13] = wipe σ [i13])
   (S : M (lsR (mdR K) l ms :: Rs) H) (hn : ixN ms.length n = some k) (hx : ms[k]? = some m) (hl : m.length <= 100000) (ok : ∀ q ∈ m, okR q.2.2) (hk : ∀ p H', M (dvR iI (vr (rwR K)) p m :: lsR (mdR K) l ms :: Rs) H' -> Q (.ref p) H') :
   tCB (rDictP K) (tCons (tLkE (tLc (iKeys (tOp (uIx K) (tVar i9) (tVar i5))) (gName i13) tYes (tTup (tCons (tVar i13) (tCons (tCall sp [] E0 (tCons (tOp rIxK (tOp (uIx K) (tVar i9) (tVar i5)) (tVar i13)) tNil)) tNil))) [i13])) tNil) σ H Q := by
 obtain ⟨vs, S1⟩ := lsR_W S
 have hlen := (lsW_len (K := K) S1 0 rfl).2
 have hkl : k < ms.length := (List.getElem?_eq_some_iff.mp hx).1
 obtain ⟨u, hu⟩ : ∃ u, vs[k]? = some u := ⟨vs[k]'(by omega), List.getElem?_eq_getElem (by omega)⟩
 have S2 : M (mdR K u m :: pt l (.lst vs) :: starR (mdR K) (vs.eraseIdx k) (ms.eraseIdx k) :: Rs) H := lsW_open S1 0 rfl hu hx
 obtain ⟨p, rfl, S3⟩ := S2.vrO
 have nd : (ks m).Nodup := by
   obtain ⟨kvs, T⟩ := S3.ex
   exact T.pr.1
 have hat : atI vs n = some (.ref p) := atI_of (by rw [hlen]; exact hn) hu
 refine g_cb (g_cons (lo_kysDV (β := Int × (Int × Option (List Int))) (B := vr (tuR (qcR (vrD K eI) (q1R (vr (rwR K)))))) (sv := V.int) (F := λ k kk => ∃ x, lk m k = some x /\ kk (some (k, x))) (KK := λ acc => acc = m) (λ _ => rfl) ⟨by rw [ks_len]; exact hl, ?_⟩ S3 (λ od kvs H' Q' T q => ?_) (λ od kvs x acc E H kk N hz T hf hp hN => ?_) λ E acc H2 e T => ?_))
 · refine lcD_map (λ k => (k, (lk m k).getD (0, none))) (λ k hk kk hkk => ?_) ?_
   · obtain ⟨x, hx⟩ := lk_some hk
     rw [hx] at hkk
     exact ⟨x, hx, hkk⟩
   · rw [List.nil_append]
     unfold ks
     rw [List.map_map]
     refine (List.map_congr_left (g := id) λ q hq => ?_).trans (List.map_id _)
     show (q.1, (lk m q.1).getD (0, none)) = q
     rw [lk_own nd hq]
     rfl
 · exact g_op (g_var h9 (g_var h5 (v_ixL (SqL.of (T.got 1 rfl)) hat q)))
 · obtain ⟨x', hx', hkk⟩ := hf
   have T1 : M (dvL iI (vr (rwR K)) p od kvs m :: lsR (vr (tuR (qcR (vrD K eI) (q1R (vr (rwR K)))))) E acc :: pt l (.lst vs) :: starR (mdR K) (vs.eraseIdx k) (ms.eraseIdx k) :: Rs) H := M.at T 1 rfl
   refine g_name (g_wipe (gw _) (g_yes (v_ifT (g_tup (g_cons (g_var (g13 _) (g_cons (g_call (g_cons (g_op (g_op (g_var (g9 _) (g_var (g5 _) (v_ixL (SqL.of (T1.got 2 rfl)) hat (g_var (g13 _) (v_ixDVl (ik := iI) (λ a b z => by injection z) T1 0 rfl hx' λ w j e1 e2 nd' T2 => ?_))))))))))))))))
   obtain ⟨r, rfl, T3⟩ := M.vrO (T := rwR K) T2
   refine g_nil (hsp _ _ _ _ ⟨_, r, x', rfl, T3, ok _ (lk_mem hx'), λ q H' T4 => ?_⟩)
   have T5 : M (vr (rwR K) (.ref r) x' :: pt p (.frz od (.dK kvs)) :: starK iI (vr (rwR K)) (kvs.eraseIdx j) (m.eraseIdx j) :: rwR K q x' :: lsR (vr (tuR (qcR (vrD K eI) (q1R (vr (rwR K)))))) E acc :: pt l (.lst vs) :: starR (mdR K) (vs.eraseIdx k) (ms.eraseIdx k) :: Rs) H' := M.vrC (M.sub (.cons 1 rfl (.cons 1 rfl (.cons 1 rfl (.cons 0 rfl (.refl _))))) T4)
   have T6 : M (dvL iI (vr (rwR K)) p od kvs m :: rwR K q x' :: lsR (vr (tuR (qcR (vrD K eI) (q1R (vr (rwR K)))))) E acc :: pt l (.lst vs) :: starR (mdR K) (vs.eraseIdx k) (ms.eraseIdx k) :: Rs) H' := dvL_same e1 e2 nd' T5
   refine g_nil (v_tup T6 (len_ok rfl) λ t H4 T7 => ?_)
   have T8 : M (vr (tuR (qcR (vrD K eI) (q1R (vr (rwR K))))) (.ref t) (x, x') :: lsR (vr (tuR (qcR (vrD K eI) (q1R (vr (rwR K)))))) E acc :: dvL iI (vr (rwR K)) p od kvs m :: pt l (.lst vs) :: starR (mdR K) (vs.eraseIdx k) (ms.eraseIdx k) :: Rs) H4 := by
     refine M.vrC (M.ex' [.int x, .ref q] ?_)
     have T9 : M (q1R (vr (rwR K)) [.ref q] x' :: pt t (.tup [.int x, .ref q]) :: lsR (vr (tuR (qcR (vrD K eI) (q1R (vr (rwR K)))))) E acc :: dvL iI (vr (rwR K)) p od kvs m :: pt l (.lst vs) :: starR (mdR K) (vs.eraseIdx k) (ms.eraseIdx k) :: Rs) H4 :=
       M.ex' (.ref q) (M.pr' rfl (M.vrC (M.sub (.cons 2 rfl (.cons 0 rfl (.cons 1 rfl (.cons 0 rfl (.refl _))))) T7)))
     have T10 := M.addA (K := K) (d := eI x) (v := .int x) T9 (EnF.all λ _ => .int _)
     have T11 : M (qcR (vrD K eI) (q1R (vr (rwR K))) [.int x, .ref q] (x, x') :: pt t (.tup [.int x, .ref q]) :: lsR (vr (tuR (qcR (vrD K eI) (q1R (vr (rwR K)))))) E acc :: dvL iI (vr (rwR K)) p od kvs m :: pt l (.lst vs) :: starR (mdR K) (vs.eraseIdx k) (ms.eraseIdx k) :: Rs) H4 := M.ex' (.int x) (M.ex' [.ref q] (M.pr' rfl (M.sp' T10)))
     exact M.sp' (M.at T11 1 rfl)
   exact lsR_put T8 hz λ H5 T9 => hp _ _ hkk T9
 · subst e
   refine g_nil (v_dictDVI T nd λ q H3 T2 => hk q _ ?_)
   have T3 : M (dvR iI (vr (rwR K)) p acc :: pt l (.lst vs) :: starR (mdR K) (vs.eraseIdx k) (ms.eraseIdx k) :: dvR iI (vr (rwR K)) q acc :: Rs) H3 := M.sub (.cons 1 rfl (.cons 1 rfl (.cons 1 rfl (.cons 0 rfl (.refl _))))) T2
   have T4 : M (lsW (mdR K) l vs ms :: dvR iI (vr (rwR K)) q acc :: Rs) H3 := lsW_same hu hx (M.vrC (T := dvR iI (vr (rwR K))) T3)
   exact M.at (lsW_R T4) 1 rfl
end
def rngD (i j : Int) : List Int := (List.range (i - j).toNat).map λ k : Nat => i - (k : Int)
theorem rngD_len (i j : Int) : (rngD i j).length = (i - j).toNat := by simp [rngD]
theorem rngD_get {i j : Int} {k : Nat} (h : k < (i - j).toNat) : (rngD i j)[k]? = some (i - (k : Nat)) := by
 unfold rngD
 rw [List.getElem?_map, List.getElem?_range h]
 rfl
section
variable {σ : L2.St} {H : Hp} {D : Ends} {ta : TA} {R : It -> Hp -> Prop}
def ItR3 (R : It -> Hp -> Prop) : List V -> Hp -> Prop := λ vs H1 => ∃ (i j c : Int) (n : Nat), vs = [.int i, .int j, .int c] /\ RgC i j c n /\ R (Itc i c n) H1
theorem g_iRng3 (k : ta σ H (ItR3 R)) : iRng3 ta σ H R := k
theorem v_itR3 {i j c : Int} (hc : c = -1) (h : (-(2 ^ 62) <= i /\ i < 2 ^ 62) /\ -(2 ^ 62) <= j /\ j < 2 ^ 62) (k : R (Itc i (-1) (i - j).toNat) H) : ItR3 R [V.int i, V.int j, V.int c] H := by
 subst hc
 refine ⟨i, j, -1, (i - j).toNat, rfl, RgC.neg h.1.1 h.1.2 h.2.1 h.2.2, k⟩
theorem for_rngD {β : Type} {F : Int -> β -> (β -> Prop) -> Prop} {i0 n : Int} {s0 : β} {KK : β -> Prop} {g : TG} {tb : TS} (hf : forD F (rngD i0 n) s0 KK) (Inv : β -> L2.St -> Hp -> Prop) (h0 : Inv s0 σ H)
   (hs : ∀ x s σ H (kk : β -> Prop), Inv s σ H -> F x s kk -> g (.int x) σ H λ σ2 H2 => tb ⟨λ σ H => ∃ s', kk s' /\ Inv s' σ H, D.rt, D.nx, λ σ H => ∃ s', kk s' /\ Inv s' σ H⟩ σ2 H2)
   (hd : ∀ s σ H, KK s -> Inv s σ H -> D.nx σ H) : ForW (Itc i0 (-1) (i0 - n).toNat) g tb D σ H := by
 refine for_W walk_rangeC (λ i σ H => ∃ s, forD F ((rngD i0 n).drop i) s KK /\ Inv s σ H) ⟨s0, by simpa using hf, h0⟩ (λ _ _ _ _ _ => trivial) ?_ ?_
 · rintro i v σ H H' hi ⟨s, hf, h⟩ ⟨rfl, rfl⟩
   have hi2 : i < (rngD i0 n).length := by rw [rngD_len]; exact hi
   rw [List.drop_eq_getElem_cons hi2] at hf
   have e : (rngD i0 n)[i] = i0 + (i : Nat) * (-1) := (Option.some.inj ((List.getElem?_eq_getElem hi2).symm.trans (rngD_get hi))).trans (by omega)
   rw [e] at hf
   exact hs _ s σ H' _ h hf
 · rintro σ H ⟨s, hf, h⟩
   rw [<- rngD_len, List.drop_length] at hf
   exact hd s σ H hf h
end
end RC

namespace RC
open PySem PySem.Spec PyProof.Rows L2
@[reducible] def oo2 {a0 a1 : Res} (r : List Res) : List Res := a0 :: a1 :: r
@[reducible] def oo3 {a0 a1 a2 : Res} (r : List Res) : List Res := a0 :: a1 :: a2 :: r
@[reducible] def oo4 {a0 a1 a2 a3 : Res} (r : List Res) : List Res := a0 :: a1 :: a2 :: a3 :: r
@[reducible] def oo5 {a0 a1 a2 a3 a4 : Res} (r : List Res) : List Res := a0 :: a1 :: a2 :: a3 :: a4 :: r
@[reducible] def oo6 {a0 a1 a2 a3 a4 a5 : Res} (r : List Res) : List Res := a0 :: a1 :: a2 :: a3 :: a4 :: a5 :: r
@[reducible] def oo7 {a0 a1 a2 a3 a4 a5 a6 : Res} (r : List Res) : List Res := a0 :: a1 :: a2 :: a3 :: a4 :: a5 :: a6 :: r
@[reducible] def oo8 {a0 a1 a2 a3 a4 a5 a6 a7 : Res} (r : List Res) : List Res := a0 :: a1 :: a2 :: a3 :: a4 :: a5 :: a6 :: a7 :: r
@[reducible] def oo9 {a0 a1 a2 a3 a4 a5 a6 a7 a8 : Res} (r : List Res) : List Res := a0 :: a1 :: a2 :: a3 :: a4 :: a5 :: a6 :: a7 :: a8 :: r
@[reducible] def oo10 {a0 a1 a2 a3 a4 a5 a6 a7 a8 a9 : Res} (r : List Res) : List Res := a0 :: a1 :: a2 :: a3 :: a4 :: a5 :: a6 :: a7 :: a8 :: a9 :: r
@[reducible] def oo11 {a0 a1 a2 a3 a4 a5 a6 a7 a8 a9 a10 : Res} (r : List Res) : List Res := a0 :: a1 :: a2 :: a3 :: a4 :: a5 :: a6 :: a7 :: a8 :: a9 :: a10 :: r
@[reducible] def oo12 {a0 a1 a2 a3 a4 a5 a6 a7 a8 a9 a10 a11 : Res} (r : List Res) : List Res := a0 :: a1 :: a2 :: a3 :: a4 :: a5 :: a6 :: a7 :: a8 :: a9 :: a10 :: a11 :: r
@[reducible] def oo13 {a0 a1 a2 a3 a4 a5 a6 a7 a8 a9 a10 a11 a12 : Res} (r : List Res) : List Res := a0 :: a1 :: a2 :: a3 :: a4 :: a5 :: a6 :: a7 :: a8 :: a9 :: a10 :: a11 :: a12 :: r
@[reducible] def oo14 {a0 a1 a2 a3 a4 a5 a6 a7 a8 a9 a10 a11 a12 a13 : Res} (r : List Res) : List Res := a0 :: a1 :: a2 :: a3 :: a4 :: a5 :: a6 :: a7 :: a8 :: a9 :: a10 :: a11 :: a12 :: a13 :: r
local macro_rules | `(tactic| walk_at "S") => `(tactic| assumption)
local macro_rules | `(tactic| walk_at "hp") => `(tactic| first
 | assumption
 | exact M.got (by assumption) 0 rfl | exact M.got (by assumption) 1 rfl | exact M.got (by assumption) 2 rfl | exact M.got (by assumption) 3 rfl | exact M.got (by assumption) 4 rfl
 | exact M.got (by assumption) 5 rfl | exact M.got (by assumption) 6 rfl | exact M.got (by assumption) 7 rfl | exact M.got (by assumption) 8 rfl
 | exact M.gotF (by assumption) 0 rfl | exact M.gotF (by assumption) 1 rfl | exact M.gotF (by assumption) 2 rfl | exact M.gotF (by assumption) 3 rfl | exact M.gotF (by assumption) 4 rfl
 | exact M.gotF (by assumption) 5 rfl | exact M.gotF (by assumption) 6 rfl | exact M.gotF (by assumption) 7 rfl | exact M.gotF (by assumption) 8 rfl)
local macro_rules | `(tactic| walk_at "sl") => `(tactic| first
 | assumption
 | exact SqL.of (by walk_at "hp")
 | exact M.gotR (by assumption) 0 rfl | exact M.gotR (by assumption) 1 rfl | exact M.gotR (by assumption) 2 rfl | exact M.gotR (by assumption) 3 rfl)
local macro_rules | `(tactic| walk_at "mul") => `(tactic| first
 | exact Or.inl (Or.inr ⟨by decide, by decide⟩) | exact Or.inl (Or.inl ⟨by decide, by decide⟩) | exact Or.inl (Or.inr ⟨by omega, by omega⟩) | exact Or.inl (Or.inl ⟨by omega, by omega⟩))
local macro_rules | `(tactic| walk_at "sq") => `(tactic| first | assumption | exact SqT.of (by walk_at "hp"))
local macro_rules | `(tactic| walk_at "sts") => `(tactic| first
 | with_reducible refine g_asg ?_
 | with_reducible refine g_asgX ?_
 | with_reducible refine g_drop ?_
 | with_reducible refine g_ret ?_
 | with_reducible refine g_retN ?_
 | with_reducible refine g_if ?_
 | with_reducible refine g_next ?_
 | with_reducible refine g_bk ?_
 | with_reducible refine g_ct ?_
 | with_reducible refine g_augS ?_
 | with_reducible refine g_for ?_
 | with_reducible refine g_while ?_
 | with_reducible refine g_par ?_
 | ((with_reducible refine' g_aug ?hh ?kk); (case hh => exact rfl)))
local macro_rules | `(tactic| walk_at "ev1") => `(tactic| first
 | with_reducible refine g_rt ?_
 | with_reducible refine g_lc ?_
 | with_reducible refine g_iList ?_
 | with_reducible refine g_iRng1 ?_
 | with_reducible refine g_iRev ?_
 | with_reducible refine g_yes ?_
 | ((with_reducible refine' g_wipe ?hh ?kk); (case hh => exact rfl))
 | with_reducible refine g_name ?_
 | ((with_reducible refine' g_var ?hh ?kk); (case hh => exact rfl))
 | with_reducible refine g_c ?_
 | with_reducible refine g_op ?_
 | with_reducible refine g_un ?_
 | with_reducible refine g_nil ?_
 | with_reducible refine g_cons ?_
 | with_reducible refine g_cb ?_
 | with_reducible refine g_call ?_
 | with_reducible refine g_lst ?_
 | with_reducible refine g_tup ?_
 | with_reducible refine g_test ?_
 | with_reducible refine g_B ?_
 | with_reducible refine g_bl ?_
 | with_reducible refine g_int ?_
 | with_reducible refine g_and ?_
 | with_reducible refine g_or ?_
 | with_reducible refine g_not ?_
 | with_reducible refine g_andV ?_
 | with_reducible refine g_orV ?_
 | with_reducible refine g_notV ?_
 | with_reducible refine g_ifE ?_
 | with_reducible refine g_chain ?_
 | with_reducible refine g_sub ?_
 | with_reducible refine g_sl ?_
 | with_reducible refine g_noPart ?_
 | with_reducible refine g_part ?_
 | with_reducible refine g_rev ?_
 | with_reducible refine g_bm ?_
 | with_reducible refine g_bm0 ?_
 | with_reducible refine v_add ?_
 | with_reducible refine v_sub ?_
 | with_reducible refine v_iadd ?_
 | with_reducible refine v_isub ?_
 | with_reducible refine v_lt ?_
 | with_reducible refine v_le ?_
 | with_reducible refine v_gt ?_
 | with_reducible refine v_ge ?_
 | with_reducible refine v_eqI ?_
 | with_reducible refine v_neI ?_
 | with_reducible refine v_eqS ?_
 | with_reducible refine v_eqB ?_
 | with_reducible refine v_neB ?_
 | ((with_reducible refine' v_mod ?hh ?kk); (case hh => first | decide | omega))
 | ((with_reducible refine' v_mul ?hh ?kk); (case hh => walk_at "mul"))
 | ((with_reducible refine' v_imul ?hh ?kk); (case hh => first | exact Or.inr ⟨by decide, by decide⟩ | exact Or.inl ⟨by decide, by decide⟩ | exact Or.inr ⟨by omega, by omega⟩ | exact Or.inl ⟨by omega, by omega⟩))
 | ((with_reducible refine' v_div ?hh ?kk); (case hh => first | decide | exact ⟨by omega, by omega⟩))
 | ((with_reducible refine' v_divB ?hh ?kk); (case hh => first | decide | exact ⟨by omega, by omega⟩))
 | ((with_reducible refine' v_idiv ?hh ?kk); (case hh => first | exact ⟨by decide, by decide⟩ | exact ⟨by omega, by omega⟩))
 | ((with_reducible refine' v_ixL ?hs ?hh ?kk); (case hs => walk_at "sl"); (case hh => exact rfl))
 | ((with_reducible refine' v_ixT ?hs ?hh ?kk); (case hs => walk_at "sq"); (case hh => exact rfl))
 | ((with_reducible refine' v_get ?hs ?h0 ?hh ?kk); (case hs => walk_at "sl"); (case h0 => decide); (case hh => exact rfl))
 | ((with_reducible refine' v_lenL ?hs ?kk); (case hs => walk_at "sl"))
 | ((with_reducible refine' v_pow ?hh ?kk); (case hh => decide +kernel))
 | with_reducible refine v_abs ?_
 | with_reducible refine v_neg ?_
 | with_reducible refine v_isN ?_
 | with_reducible refine v_notN ?_
 | with_reducible refine v_two ?_
 | with_reducible refine g_callN ?_
 | ((with_reducible refine' v_lens ?h1 ?h2 ?kk); (case h1 => exact rfl); (case h2 => exact rfl))
 | ((with_reducible refine' g_gtup ?h1 ?h2 ?kk); (case h1 => walk_at "sq"); (case h2 => exact rfl))
 | with_reducible refine g_gcons ?_
 | with_reducible refine g_gnil ?_
 | with_reducible refine v_ifNT ?_
 | with_reducible refine v_ifNF ?_
 | with_reducible refine v_ifT ?_
 | with_reducible refine v_ifF ?_)
local macro_rules | `(tactic| walk_at "ev") => `(tactic| repeat walk_at "ev1")
local macro_rules | `(tactic| walk_at "nx") => `(tactic| repeat with_reducible refine g_nx ?_)
local macro_rules | `(tactic| walk_at "st") => `(tactic| ((repeat first | with_reducible refine g_nx ?_ | with_reducible refine g_seq ?_); walk_at "sts"; walk_at "ev"))
local macro_rules | `(tactic| walk_at "go1") => `(tactic| first | with_reducible refine g_nx ?_ | with_reducible refine g_seq ?_ | walk_at "sts" | walk_at "ev1")
local macro_rules | `(tactic| walk_at "go") => `(tactic| repeat walk_at "go1")
local macro_rules | `(tactic| walk_at "sub1") => `(tactic| first
 | exact Sub.refl _ | exact Sub.nil _
 | refine Sub.cons 0 rfl ?_ | refine Sub.cons 1 rfl ?_ | refine Sub.cons 2 rfl ?_ | refine Sub.cons 3 rfl ?_ | refine Sub.cons 4 rfl ?_ | refine Sub.cons 5 rfl ?_ | refine Sub.cons 6 rfl ?_ | refine Sub.cons 7 rfl ?_
 | refine Sub.cons 8 rfl ?_ | refine Sub.cons 9 rfl ?_ | refine Sub.cons 10 rfl ?_ | refine Sub.cons 11 rfl ?_ | refine Sub.cons 12 rfl ?_ | refine Sub.cons 13 rfl ?_ | refine Sub.cons 14 rfl ?_ | refine Sub.cons 15 rfl ?_ | refine Sub.tl ?_)
local macro_rules | `(tactic| walk_at "sub") => `(tactic| (refine M.sub ?_ (by assumption); repeat walk_at "sub1"))
local macro_rules | `(tactic| walk_at "sts") => `(tactic| first
 | with_reducible refine g_sfld ?_
 | with_reducible refine g_rz ?_
 | with_reducible refine g_try ?_)
local macro_rules | `(tactic| walk_at "ev1") => `(tactic| first
 | with_reducible refine g_callW ?_
 | with_reducible refine g_meth ?_
 | with_reducible refine g_make ?_
 | with_reducible refine g_fld ?_
 | with_reducible refine g_dpop ?_
 | with_reducible refine g_callE ?_
 | with_reducible refine g_xg ?_)
abbrev bagO (x y z : Int) (cl : Addr) : HO := .lst [.int x, .int y, .int z, .ref cl]
structure BagOk (x y z : Int) (ns : List Int) : Prop where
 x0 : 0 <= x
 y0 : 0 <= y
 y1 : y < 2147483647
 z0 : 0 <= z
 nn : ∀ n ∈ ns, (0 : Int) <= n
def bagR (bag : Addr) : Res := exi λ (b : Int × Int × Int × Addr × List Int) => prp (BagOk b.1 b.2.1 b.2.2.1 b.2.2.2.2) (sp2 (pt bag (bagO b.1 b.2.1 b.2.2.1 b.2.2.2.1)) (pt b.2.2.2.1 (.lst (b.2.2.2.2.map V.int))))
theorem bag_open {bag : Addr} {Rs : List Res} {H : Hp} (S : M (bagR bag :: Rs) H) : ∃ x y z cl ns, BagOk x y z ns /\ M (pt bag (bagO x y z cl) :: pt cl (.lst (ns.map V.int)) :: Rs) H := by
 obtain ⟨⟨x, y, z, cl, ns⟩, S⟩ := S.ex
 obtain ⟨ok, S⟩ := S.pr
 exact ⟨x, y, z, cl, ns, ok, S.sp⟩
theorem bag_close {bag cl : Addr} {x y z : Int} {ns : List Int} {Rs : List Res} {H : Hp} (ok : BagOk x y z ns) (S : M (pt bag (bagO x y z cl) :: pt cl (.lst (ns.map V.int)) :: Rs) H) : M (bagR bag :: Rs) H :=
 M.ex' (T := λ (b : Int × Int × Int × Addr × List Int) => prp (BagOk b.1 b.2.1 b.2.2.1 b.2.2.2.2) (sp2 (pt bag (bagO b.1 b.2.1 b.2.2.1 b.2.2.2.1)) (pt b.2.2.2.1 (.lst (b.2.2.2.2.map V.int))))) (x, y, z, cl, ns) (M.pr' ok S.sp')
def sp_l_take (K : Fr) : Sp := λ vs H Q _ => ∃ (Rs : List Res) (bag : Addr) (many : Int), vs = [.ref bag, .int many] /\ M (bagR bag :: Rs) H /\ 0 < many /\ many < 2 ^ 120 /\
 ∀ v H', 0 <= v -> v < many -> M (bagR bag :: Rs) H' -> Q (.int v) H'
abbrev t_l_take_6 (K : Fr) : TS := (tSeq (tIfS (tTest (tOp uGe (tVar 4) (tC (.int 1000000000000000000)))) (tAsg (tVar 4) (gSub (tVar 0) (tC (.int 0)) uSet)) tNext)
 (tAsg (tOp uMod (tOp (uAdd K) (tOp (uAdd K) (tOp uMul (tOp (uIx K) (tVar 0) (tC (.int 1))) (tC (.int 48271))) (tOp uMod (tVar 4) (tC (.int 2147483647)))) (tOp uMul (tC (.int 7919)) (tOp (uIx K) (tVar 0) (tC (.int 2))))) (tC (.int 2147483647))) (gSub (tVar 0) (tC (.int 1)) uSet)))
abbrev t_l_take_5 (K : Fr) : TS := (tSeq (tAugS (tVar 0) (tC (.int 2)) (tC (.int 1)) (gIx K) iAdd uSet)
 (t_l_take_6 K))
abbrev t_l_take_3 (K : Fr) : TS := (tSeq (tIfS (tTest (tOp uLt (tOp (uIx K) (tVar 0) (tC (.int 2))) (tCB (uLen K) (tCons (tOp (uIx K) (tVar 0) (tC (.int 3))) tNil)))) (tAsg (tOp (uIx K) (tOp (uIx K) (tVar 0) (tC (.int 3))) (tOp (uIx K) (tVar 0) (tC (.int 2)))) (gName 4)) tNext)
 (t_l_take_5 K))
abbrev t_l_take_2 (K : Fr) : TS := (tSeq (tAsg (tC (.int 0)) (gName 4))
 (t_l_take_3 K))
abbrev t_l_take_11 (K : Fr) : TS := (tSeq (tAsg (tOp uDiv (tOp (uIx K) (tVar 0) (tC (.int 0))) (tVar 1)) (gSub (tVar 0) (tC (.int 0)) uSet))
 (tRet (tVar 5)))
abbrev t_l_take_10 (K : Fr) : TS := (tSeq (tAsg (tOp uMod (tOp (uIx K) (tVar 0) (tC (.int 0))) (tVar 1)) (gName 5))
 (t_l_take_11 K))
abbrev t_l_take_15 (K : Fr) : TS := (tSeq (tIfS (tTest (tOp uGt (tVar 1) (tC (.int 1000000)))) (tRet (tOp uMod (tOp (uAdd K) (tOp uMul (tVar 3) (tC (.int 1000000007))) (tVar 2)) (tVar 1))) tNext)
 (tRet (tOp uMod (tOp uDiv (tVar 3) (tC (.int 7))) (tVar 1))))
abbrev t_l_take_14 (K : Fr) : TS := (tSeq (tAsg (tOp uMod (tOp uMul (tOp uMod (tOp uMul (tVar 2) (tVar 2)) (tC (.int 998244353))) (tC (.int 30011))) (tC (.int 998244353))) (gName 3))
 (t_l_take_15 K))
abbrev t_l_take_13 (K : Fr) : TS := (tSeq (tAsg (tOp uMod (tOp uMul (tOp (uAdd K) (tOp (uIx K) (tVar 0) (tC (.int 1))) (tC (.int 1))) (tC (.int 39373))) (tC (.int 1000000007))) (gName 2))
 (t_l_take_14 K))
abbrev t_l_take_9 (K : Fr) : TS := (tSeq (tIfS (tTest (tOp uGt (tOp (uIx K) (tVar 0) (tC (.int 0))) (tC (.int 0)))) (t_l_take_10 K) tNext)
 (t_l_take_13 K))
abbrev t_l_take_1 (K : Fr) : TS := (tSeq (tIfS (tTest (tOp (uEq K) (tOp (uIx K) (tVar 0) (tC (.int 0))) (tC (.int 0)))) (t_l_take_2 K) tNext)
 (t_l_take_9 K))
abbrev t_l_take (K : Fr) : TS := (t_l_take_1 K)
theorem take_tail {K : Fr} {Q : VK} {Rs : List Res} {bag cl : Addr} {many x y z : Int} {ns : List Int} {c : Option V} {H : Hp} (m0 : 0 < many) (m1 : many < 2 ^ 120) (ok : BagOk x y z ns)
   (k : ∀ v H', 0 <= v -> v < many -> M (bagR bag :: Rs) H' -> Q (.int v) H') (S : M (pt bag (bagO x y z cl) :: pt cl (.lst (ns.map V.int)) :: Rs) H) :
   t_l_take_9 K { nx := λ _ H' => Q .non H', rt := Q } [some (V.ref bag), some (V.int many), none, none, c, none] H := by
 have x0 := ok.x0
 have y0 := ok.y0
 have y1 := ok.y1
 walk_at "go"
 refine v_ifD (λ h => ?_) (λ h => ?_)
 · walk_at "go"
   refine v_set S 0 rfl rfl λ H' S' => ?_
   have S2 : M (pt bag (bagO (x / many) y z cl) :: pt cl (.lst (ns.map V.int)) :: Rs) H' := S'
   walk_at "go"
   exact k _ _ (Int.emod_nonneg _ (by omega)) (Int.emod_lt_of_pos _ m0) (bag_close ⟨Int.ediv_nonneg x0 (Int.le_of_lt m0), y0, y1, ok.z0, ok.nn⟩ S2)
 · walk_at "go"
   have f0 := Int.emod_nonneg ((y + 1) * 39373) (show (1000000007 : Int) ≠ 0 by decide)
   have f1 := Int.emod_lt_of_pos ((y + 1) * 39373) (show (0 : Int) < 1000000007 by decide)
   walk_at "go"
   have g0 := Int.emod_nonneg ((y + 1) * 39373 % 1000000007 * ((y + 1) * 39373 % 1000000007) % 998244353 * 30011) (show (998244353 : Int) ≠ 0 by decide)
   have g1 := Int.emod_lt_of_pos ((y + 1) * 39373 % 1000000007 * ((y + 1) * 39373 % 1000000007) % 998244353 * 30011) (show (0 : Int) < 998244353 by decide)
   refine v_ifD (λ h => ?_) (λ h => ?_)
   · walk_at "go"
     exact k _ _ (Int.emod_nonneg _ (by omega)) (Int.emod_lt_of_pos _ m0) (bag_close ok S)
   · walk_at "go"
     exact k _ _ (Int.emod_nonneg _ (by omega)) (Int.emod_lt_of_pos _ m0) (bag_close ok S)
theorem take_mid {K : Fr} {Q : VK} {Rs : List Res} {bag cl : Addr} {many y z c : Int} {ns : List Int} {H : Hp} (m0 : 0 < many) (m1 : many < 2 ^ 120) (ok : BagOk 0 y z ns) (c0 : 0 <= c)
   (k : ∀ v H', 0 <= v -> v < many -> M (bagR bag :: Rs) H' -> Q (.int v) H') (S : M (pt bag (bagO 0 y z cl) :: pt cl (.lst (ns.map V.int)) :: Rs) H) :
   t_l_take_5 K { nx := t_l_take_9 K { nx := λ _ H' => Q .non H', rt := Q }, rt := Q } [some (V.ref bag), some (V.int many), none, none, some (.int c), none] H := by
 have y0 := ok.y0
 have y1 := ok.y1
 have z0 := ok.z0
 have fin : ∀ {x : Int} {H' : Hp}, 0 <= x -> M (pt bag (bagO x y (z + 1) cl) :: pt cl (.lst (ns.map V.int)) :: Rs) H' ->
     tAsg (tOp uMod (tOp (uAdd K) (tOp (uAdd K) (tOp uMul (tOp (uIx K) (tVar 0) (tC (.int 1))) (tC (.int 48271))) (tOp uMod (tVar 4) (tC (.int 2147483647)))) (tOp uMul (tC (.int 7919)) (tOp (uIx K) (tVar 0) (tC (.int 2))))) (tC (.int 2147483647))) (gSub (tVar 0) (tC (.int 1)) uSet)
       { nx := t_l_take_9 K { nx := λ _ H' => Q .non H', rt := Q }, rt := Q } [some (V.ref bag), some (V.int many), none, none, some (.int c), none] H' := by
   intro x H' x0 S
   walk_at "go"
   refine v_set S 0 rfl rfl λ H2 S' => ?_
   have S2 : M (pt bag (bagO x ((y * 48271 + c % 2147483647 + 7919 * (z + 1)) % 2147483647) (z + 1) cl) :: pt cl (.lst (ns.map V.int)) :: Rs) H2 := S'
   walk_at "nx"
   exact take_tail m0 m1 ⟨x0, Int.emod_nonneg _ (by decide), Int.emod_lt_of_pos _ (by decide), by omega, ok.nn⟩ k S2
 walk_at "go"
 refine v_set S 0 rfl rfl λ H' S' => ?_
 have S2 : M (pt bag (bagO 0 y (z + 1) cl) :: pt cl (.lst (ns.map V.int)) :: Rs) H' := S'
 walk_at "go"
 refine v_ifD (λ h => ?_) (λ h => ?_)
 · walk_at "go"
   refine v_set S2 0 rfl rfl λ H2 S' => ?_
   have S3 : M (pt bag (bagO c y (z + 1) cl) :: pt cl (.lst (ns.map V.int)) :: Rs) H2 := S'
   exact fin c0 S3
 · walk_at "st"
   exact fin (Int.le_refl 0) S2
theorem len_l_take {K : Fr} (vs : List V) (H : Hp) (Q : VK) (E : XK) (h : sp_l_take K vs H Q E) : vs.length = 2 := by
 obtain ⟨Rs, bag, many, rfl, _⟩ := h
 rfl
theorem pure_l_take {K : Fr} (vs : List V) (H : Hp) (Q : VK) (E : XK) (h : sp_l_take K vs H Q E) : t_l_take K { nx := λ _ H' => Q .non H', rt := Q } (start ["_law_bag_here", "_law_many", "_law_first", "_law_second", "_law_cell", "_law_value"] vs) H := by
 obtain ⟨Rs, bag, many, rfl, S, m0, m1, k⟩ := h
 obtain ⟨x, y, z, cl, ns, ok, S⟩ := bag_open S
 show t_l_take K _ [some (V.ref bag), some (V.int many), none, none, none, none] H
 walk_at "go"
 refine v_ifD (λ h => ?_) (λ h => ?_)
 · subst h
   walk_at "go"
   refine v_ifD (λ h => ?_) (λ h => ?_)
   · rw [List.length_map] at h
     walk_at "go"
     refine v_ixL (SqL.of (S.got 1 rfl)) (atI_ints ok.z0 h) ?_
     walk_at "nx"
     refine take_mid m0 m1 ok ?_ k S
     rw [List.getD_eq_getElem?_getD]
     cases e : ns[z.toNat]? with
     | none => exact Int.le_refl 0
     | some n => exact ok.nn n (List.mem_of_getElem? e)
   · walk_at "st"
     exact take_mid m0 m1 ok (Int.le_refl 0) k S
 · walk_at "st"
   exact take_tail m0 m1 ok k S
def sp_l_bag (K : Fr) : Sp := λ vs H Q _ => ∃ (Rs : List Res) (a : Addr) (ns : List Int), vs = [.ref a] /\ M Rs H /\ Ent Rs (λ H => SqL K H a (ns.map V.int)) /\ ns.length <= 63 /\ ∀ bag H', M (bagR bag :: Rs) H' -> Q (.ref bag) H'
theorem len_l_bag {K : Fr} (vs : List V) (H : Hp) (Q : VK) (E : XK) (h : sp_l_bag K vs H Q E) : vs.length = 1 := by
 obtain ⟨Rs, a, ns, rfl, _⟩ := h
 rfl
abbrev t_l_bag (K : Fr) : TS := (tRet (tLst (tCons (tC (.int 0)) (tCons (tC (.int 1234567891)) (tCons (tC (.int 0)) (tCons (tLc (iList K (tSl (uSl K) (tVar 0) tNoPart (tPart (tC (.int 63))))) (gName 1) tYes (tCB rAbs (tCons (tVar 1) tNil)) [1]) tNil))))))
theorem pure_l_bag {K : Fr} (vs : List V) (H : Hp) (Q : VK) (E : XK) (h : sp_l_bag K vs H Q E) : t_l_bag K { nx := λ _ H' => Q .non H', rt := Q } (start ["_law_script", "_law_cell"] vs) H := by
 obtain ⟨Rs, a, ns, rfl, S, hS, hl, k⟩ := h
 show t_l_bag K _ [some (V.ref a), none] H
 walk_at "go"
 refine v_slL S (hS H S) λ q H1 S1 => ?_
 rw [show cutV (ns.map V.int) none (some 63) = (ns.map V.int).take 63 from cut_to _ 63, <- List.map_take] at S1
 refine v_itL (SqL.of (S1.got 0 rfl)) ?_
 refine lc_W walk_list S1 (λ i acc => ∃ ms : List Int, acc = ms.map V.int /\ ms.length <= i /\ ∀ n ∈ ms, 0 <= n) ⟨[], rfl, Nat.le_refl _, (λ _ h => nomatch h)⟩ (λ H S => SqL.of (S.got 0 rfl)) ?_ ?_
 · intro i x acc E H H' hi hp S y
   obtain ⟨rfl, hx⟩ := y
   obtain ⟨n, _, rfl⟩ := ints_get hx
   obtain ⟨ms, rfl, hm, hn⟩ := hp
   walk_at "go"
   have hz : i < 63 := by
     rw [List.length_map, List.length_take] at hi
     omega
   refine lc_next S 0 rfl (by rw [List.length_map]; omega) λ H' S' => ?_
   refine ⟨_, ⟨ms ++ [if n < 0 then -n else n], by simp, by simp; omega, λ m h => ?_⟩, S'⟩
   rcases List.mem_append.mp h with h | h
   · exact hn m h
   · cases List.mem_singleton.mp h
     split <;> omega
 · rintro E acc H ⟨ms, rfl, _, hn⟩ S
   walk_at "go"
   refine v_lst S (by simp) λ p H' S' => ?_
   walk_at "go"
   have S2 : M (pt p (bagO 0 1234567891 0 E) :: pt E (.lst (ms.map V.int)) :: Rs) H' := (S'.at 2 rfl).tl
   exact k p H' (bag_close ⟨by decide, by decide, by decide, by decide, hn⟩ S2)
theorem u_take {K : Fr} {Rs : List Res} {H : Hp} {bag : Addr} {many : Int} {Q : VK} {E : XK} (S : M (bagR bag :: Rs) H) (h : 0 < many /\ many < 2 ^ 62) (k : ∀ v H', 0 <= v -> v < many -> M (bagR bag :: Rs) H' -> Q (.int v) H') :
   sp_l_take K ([.ref bag, .int many] ++ []) H Q E := ⟨Rs, bag, many, rfl, S, h.1, by omega, k⟩
def sp_l_alike (K : Fr) : Sp := λ vs H Q _ => ∃ (x y : V) (d : PyData), vs = [x, y] /\ Dn K H x d /\ Dn K H y d /\ AlkOk d /\ Q (.bl true) H
theorem len_l_alike {K : Fr} (vs : List V) (H : Hp) (Q : VK) (E : XK) (h : sp_l_alike K vs H Q E) : vs.length = 2 := by
 obtain ⟨x, y, d, rfl, _⟩ := h
 rfl
abbrev t_l_alike (K : Fr) : TS := (tRet (tAndV (tOp (uEqQ K) (tVar 0) (tVar 1)) (tOp (uEqQ K) (tCB (rReprQ K) (tCons (tVar 0) tNil)) (tCB (rReprQ K) (tCons (tVar 1) tNil)))))
theorem pure_l_alike {K : Fr} (vs : List V) (H : Hp) (Q : VK) (E : XK) (h : sp_l_alike K vs H Q E) : t_l_alike K { nx := λ _ H' => Q .non H', rt := Q } (L2.start ["_law_found", "_law_due"] vs) H := by
 obtain ⟨x, y, d, rfl, h1, h2, ok, k⟩ := h
 show t_l_alike K _ [some x, some y] H
 refine g_ret (g_andV (g_op (g_var rfl (g_var rfl (.inr ⟨d, h1, h2, ok.ok, ok.dp, g_bl (v_ifT ?_)⟩)))))
 refine g_op (g_cb (g_cons (g_var rfl (g_nil ⟨x, d, rfl, h1, ok.sh, ok.dp, ok.ln, ?_⟩))))
 refine g_cb (g_cons (g_var rfl (g_nil ⟨y, d, rfl, h2, ok.sh, ok.dp, ok.ln, ?_⟩)))
 refine .inl (v_eqS ?_)
 rw [decide_eq_true rfl]
 exact k
structure TxC (K : Fr) : Prop where
 cl_Shelf : Cls K (He.ga K "Shelf")
 na_Shelf_room : NoAttr K (He.ga K "Shelf") "room"
 na_Shelf_counts : NoAttr K (He.ga K "Shelf") "counts"
 na_Shelf_bodies : NoAttr K (He.ga K "Shelf") "bodies"
 xc_Wrong : ExcC K (He.ga K "Wrong")
 xn_Wrong_at : chN K "Wrong" "at" = true
 xm_Wrong_StoreError : PySem.W.exmOne K (.ref (He.ga K "Wrong")) (.ref (He.ga K "StoreError")) = some true
 xm_Wrong_Missing : PySem.W.exmOne K (.ref (He.ga K "Wrong")) (.ref (He.ga K "Missing")) = some false
 xm_Wrong_Halted : PySem.W.exmOne K (.ref (He.ga K "Wrong")) (.ref (He.ga K "Halted")) = some false
 xk_Wrong_Wrong : PySem.W.kitOne K (.ref (He.ga K "Wrong")) (.ref (He.ga K "Wrong")) = some true
 xk_Wrong_NoRoom : PySem.W.kitOne K (.ref (He.ga K "Wrong")) (.ref (He.ga K "NoRoom")) = some false
 xk_Wrong_NoPiece : PySem.W.kitOne K (.ref (He.ga K "Wrong")) (.ref (He.ga K "NoPiece")) = some false
 xk_Wrong_Unlike : PySem.W.kitOne K (.ref (He.ga K "Wrong")) (.ref (He.ga K "Unlike")) = some false
 xk_Wrong_Broken : PySem.W.kitOne K (.ref (He.ga K "Wrong")) (.ref (He.ga K "Broken")) = some false
 xc_NoRoom : ExcC K (He.ga K "NoRoom")
 xn_NoRoom_room : chN K "NoRoom" "room" = true
 xm_NoRoom_StoreError : PySem.W.exmOne K (.ref (He.ga K "NoRoom")) (.ref (He.ga K "StoreError")) = some false
 xm_NoRoom_Missing : PySem.W.exmOne K (.ref (He.ga K "NoRoom")) (.ref (He.ga K "Missing")) = some false
 xm_NoRoom_Halted : PySem.W.exmOne K (.ref (He.ga K "NoRoom")) (.ref (He.ga K "Halted")) = some true
 xk_NoRoom_Wrong : PySem.W.kitOne K (.ref (He.ga K "NoRoom")) (.ref (He.ga K "Wrong")) = some false
 xk_NoRoom_NoRoom : PySem.W.kitOne K (.ref (He.ga K "NoRoom")) (.ref (He.ga K "NoRoom")) = some true
 xk_NoRoom_NoPiece : PySem.W.kitOne K (.ref (He.ga K "NoRoom")) (.ref (He.ga K "NoPiece")) = some false
 xk_NoRoom_Unlike : PySem.W.kitOne K (.ref (He.ga K "NoRoom")) (.ref (He.ga K "Unlike")) = some false
 xk_NoRoom_Broken : PySem.W.kitOne K (.ref (He.ga K "NoRoom")) (.ref (He.ga K "Broken")) = some false
 xc_NoPiece : ExcC K (He.ga K "NoPiece")
 xn_NoPiece_seal : chN K "NoPiece" "seal" = true
 xm_NoPiece_StoreError : PySem.W.exmOne K (.ref (He.ga K "NoPiece")) (.ref (He.ga K "StoreError")) = some false
 xm_NoPiece_Missing : PySem.W.exmOne K (.ref (He.ga K "NoPiece")) (.ref (He.ga K "Missing")) = some true
 xm_NoPiece_Halted : PySem.W.exmOne K (.ref (He.ga K "NoPiece")) (.ref (He.ga K "Halted")) = some false
 xk_NoPiece_Wrong : PySem.W.kitOne K (.ref (He.ga K "NoPiece")) (.ref (He.ga K "Wrong")) = some false
 xk_NoPiece_NoRoom : PySem.W.kitOne K (.ref (He.ga K "NoPiece")) (.ref (He.ga K "NoRoom")) = some false
 xk_NoPiece_NoPiece : PySem.W.kitOne K (.ref (He.ga K "NoPiece")) (.ref (He.ga K "NoPiece")) = some true
 xk_NoPiece_Unlike : PySem.W.kitOne K (.ref (He.ga K "NoPiece")) (.ref (He.ga K "Unlike")) = some false
 xk_NoPiece_Broken : PySem.W.kitOne K (.ref (He.ga K "NoPiece")) (.ref (He.ga K "Broken")) = some false
 xc_Unlike : ExcC K (He.ga K "Unlike")
 xn_Unlike_seal : chN K "Unlike" "seal" = true
 xm_Unlike_StoreError : PySem.W.exmOne K (.ref (He.ga K "Unlike")) (.ref (He.ga K "StoreError")) = some true
 xm_Unlike_Missing : PySem.W.exmOne K (.ref (He.ga K "Unlike")) (.ref (He.ga K "Missing")) = some false
 xm_Unlike_Halted : PySem.W.exmOne K (.ref (He.ga K "Unlike")) (.ref (He.ga K "Halted")) = some false
 xk_Unlike_Wrong : PySem.W.kitOne K (.ref (He.ga K "Unlike")) (.ref (He.ga K "Wrong")) = some false
 xk_Unlike_NoRoom : PySem.W.kitOne K (.ref (He.ga K "Unlike")) (.ref (He.ga K "NoRoom")) = some false
 xk_Unlike_NoPiece : PySem.W.kitOne K (.ref (He.ga K "Unlike")) (.ref (He.ga K "NoPiece")) = some false
 xk_Unlike_Unlike : PySem.W.kitOne K (.ref (He.ga K "Unlike")) (.ref (He.ga K "Unlike")) = some true
 xk_Unlike_Broken : PySem.W.kitOne K (.ref (He.ga K "Unlike")) (.ref (He.ga K "Broken")) = some false
 xc_Broken : ExcC K (He.ga K "Broken")
 xn_Broken_seal : chN K "Broken" "seal" = true
 xm_Broken_StoreError : PySem.W.exmOne K (.ref (He.ga K "Broken")) (.ref (He.ga K "StoreError")) = some false
 xm_Broken_Missing : PySem.W.exmOne K (.ref (He.ga K "Broken")) (.ref (He.ga K "Missing")) = some false
 xm_Broken_Halted : PySem.W.exmOne K (.ref (He.ga K "Broken")) (.ref (He.ga K "Halted")) = some true
 xk_Broken_Wrong : PySem.W.kitOne K (.ref (He.ga K "Broken")) (.ref (He.ga K "Wrong")) = some false
 xk_Broken_NoRoom : PySem.W.kitOne K (.ref (He.ga K "Broken")) (.ref (He.ga K "NoRoom")) = some false
 xk_Broken_NoPiece : PySem.W.kitOne K (.ref (He.ga K "Broken")) (.ref (He.ga K "NoPiece")) = some false
 xk_Broken_Unlike : PySem.W.kitOne K (.ref (He.ga K "Broken")) (.ref (He.ga K "Unlike")) = some false
 xk_Broken_Broken : PySem.W.kitOne K (.ref (He.ga K "Broken")) (.ref (He.ga K "Broken")) = some true
inductive Ex where
 | Wrong (w : PyData)
 | NoRoom (w : PyData)
 | NoPiece (w : PyData)
 | Unlike (w : PyData)
 | Broken (w : PyData)
def Ex.cls : Ex -> Str
 | .Wrong _ => "Wrong"
 | .NoRoom _ => "NoRoom"
 | .NoPiece _ => "NoPiece"
 | .Unlike _ => "Unlike"
 | .Broken _ => "Broken"
def Ex.fld : Ex -> Str
 | .Wrong _ => "at"
 | .NoRoom _ => "room"
 | .NoPiece _ => "seal"
 | .Unlike _ => "seal"
 | .Broken _ => "seal"
def Ex.val : Ex -> PyData
 | .Wrong w => w
 | .NoRoom w => w
 | .NoPiece w => w
 | .Unlike w => w
 | .Broken w => w


def sp_l_copy (K : Fr) : Sp := λ vs H Q E => spCp K 8 vs H Q E \/ spCpM K vs H Q E
def p_is_whole (a_thing : Int) (P : Bool -> Prop) : Prop := P (true && (!false))
def sp_is_whole (K : Fr) : Sp := λ vs H Q _ => ∃ (Rs : List Res) (a_thing : Int) (P : Bool -> Prop), vs = [(V.int a_thing)] /\ M (Rs) H /\ p_is_whole a_thing P /\ ∀ (r : Bool) H', P r -> M (Rs) H' -> Q (V.bl r) H'
theorem len_is_whole {K : Fr} (vs : List V) (H : Hp) (Q : VK) (E : XK) (h : sp_is_whole K vs H Q E) : vs.length = 1 := by
 obtain ⟨Rs, a_thing, P, rfl, _⟩ := h
 rfl
abbrev t_is_whole (K : Fr) : TS := (tRet (tAndV (tCB (uIsi K) (tCons (tVar 0) (tCons (tC (.ty "int")) tNil))) (tNotV (tCB (uIsi K) (tCons (tVar 0) (tCons (tC (.ty "bool")) tNil))))))
theorem pure_is_whole {K : Fr} (vs : List V) (H : Hp) (Q : VK) (E : XK) (h : sp_is_whole K vs H Q E) : t_is_whole K { nx := λ _ H' => Q .non H', rt := Q } (L2.start ["thing"] vs) H := by
 obtain ⟨Rs, a_thing, P, rfl, S0, hf, hk⟩ := h
 show t_is_whole K _ [some (V.int a_thing)] H
 refine g_ret (g_andVP (c1 := true) (c2 := (!false)) (λ _ hq => ?_) (λ _ hq => ?_) ?_)
 ·
  refine g_cb (g_cons (g_var rfl (g_cons (g_c (g_nil (v_isq (.int _) (by decide) (b := true) rfl ?_))))))
  exact hq
 ·
  refine g_notV (g_cb (g_cons (g_var rfl (g_cons (g_c (g_nil (v_isq (.int _) (by decide) (b := false) rfl (g_bl ?_))))))))
  exact hq
 exact hk _ _ hf (M.pk S0 0 [] rfl)
def p_is_room (a_thing : Int) (P : Bool -> Prop) : Prop := jn (λ k5 => p_is_whole a_thing λ x7 => if x7 = true then (k5 ((decide (1 <= a_thing)) && (decide (a_thing <= 400)))) else (k5 false)) λ c1 => P c1
def sp_is_room (K : Fr) : Sp := λ vs H Q _ => ∃ (Rs : List Res) (a_thing : Int) (P : Bool -> Prop), vs = [(V.int a_thing)] /\ M (Rs) H /\ p_is_room a_thing P /\ ∀ (r : Bool) H', P r -> M (Rs) H' -> Q (V.bl r) H'
theorem len_is_room {K : Fr} (vs : List V) (H : Hp) (Q : VK) (E : XK) (h : sp_is_room K vs H Q E) : vs.length = 1 := by
 obtain ⟨Rs, a_thing, P, rfl, _⟩ := h
 rfl
abbrev t_is_room (K : Fr) : TS := (tRet (tAndV (tCall (sp_is_whole K) [] E0 (tCons (tVar 0) tNil)) (tChain uLe uLe (tC (.int 1)) (tVar 0) (tC (.int 400)))))
theorem pure_is_room {K : Fr} (vs : List V) (H : Hp) (Q : VK) (E : XK) (h : sp_is_room K vs H Q E) : t_is_room K { nx := λ _ H' => Q .non H', rt := Q } (L2.start ["thing"] vs) H := by
 obtain ⟨Rs, a_thing, P, rfl, S0, hf, hk⟩ := h
 show t_is_room K _ [some (V.int a_thing)] H
 refine g_ret ?_
 refine te_cut hf (λ H => M (Rs) H) (λ kk2 P3 hP4 hf => ?_) ?_
 ·
  refine g_andV (g_call (g_cons (g_var rfl (g_nil (⟨_, _, _, rfl, S0, hf, λ x7 H9 hf (S8 : M (Rs) H9) => ?_⟩)))))
  refine g_bl (v_iff hf (λ _ hf => ?_) (λ _ hf => ?_))
  ·
   refine g_chainP (c1 := (decide (1 <= a_thing))) (c2 := (decide (a_thing <= 400))) (λ _ hq => ?_) (λ _ hq => ?_) (λ _ hq => v_le hq) (λ _ hq => ?_) (λ _ hq => v_le hq) ?_
   ·
    refine g_c ?_
    exact hq
   ·
    refine g_var rfl ?_
    exact hq
   ·
    refine g_c ?_
    exact hq
   exact hP4 _ _ hf (M.pk S8 0 [] rfl)
  ·
   exact hP4 _ _ hf (M.pk S8 0 [] rfl)
 intro c1 H12 hf S11
 exact hk _ _ hf (M.sub (.refl _) S11)
def p_is_sign (a_thing : Int) (P : Bool -> Prop) : Prop := jn (λ k5 => p_is_whole a_thing λ x7 => if x7 = true then (k5 ((decide (0 <= a_thing)) && (decide (a_thing <= 999)))) else (k5 false)) λ c1 => P c1
def sp_is_sign (K : Fr) : Sp := λ vs H Q _ => ∃ (Rs : List Res) (a_thing : Int) (P : Bool -> Prop), vs = [(V.int a_thing)] /\ M (Rs) H /\ p_is_sign a_thing P /\ ∀ (r : Bool) H', P r -> M (Rs) H' -> Q (V.bl r) H'
theorem len_is_sign {K : Fr} (vs : List V) (H : Hp) (Q : VK) (E : XK) (h : sp_is_sign K vs H Q E) : vs.length = 1 := by
 obtain ⟨Rs, a_thing, P, rfl, _⟩ := h
 rfl
abbrev t_is_sign (K : Fr) : TS := (tRet (tAndV (tCall (sp_is_whole K) [] E0 (tCons (tVar 0) tNil)) (tChain uLe uLe (tC (.int 0)) (tVar 0) (tC (.int 999)))))
theorem pure_is_sign {K : Fr} (vs : List V) (H : Hp) (Q : VK) (E : XK) (h : sp_is_sign K vs H Q E) : t_is_sign K { nx := λ _ H' => Q .non H', rt := Q } (L2.start ["thing"] vs) H := by
 obtain ⟨Rs, a_thing, P, rfl, S0, hf, hk⟩ := h
 show t_is_sign K _ [some (V.int a_thing)] H
 refine g_ret ?_
 refine te_cut hf (λ H => M (Rs) H) (λ kk2 P3 hP4 hf => ?_) ?_
 ·
  refine g_andV (g_call (g_cons (g_var rfl (g_nil (⟨_, _, _, rfl, S0, hf, λ x7 H9 hf (S8 : M (Rs) H9) => ?_⟩)))))
  refine g_bl (v_iff hf (λ _ hf => ?_) (λ _ hf => ?_))
  ·
   refine g_chainP (c1 := (decide (0 <= a_thing))) (c2 := (decide (a_thing <= 999))) (λ _ hq => ?_) (λ _ hq => ?_) (λ _ hq => v_le hq) (λ _ hq => ?_) (λ _ hq => v_le hq) ?_
   ·
    refine g_c ?_
    exact hq
   ·
    refine g_var rfl ?_
    exact hq
   ·
    refine g_c ?_
    exact hq
   exact hP4 _ _ hf (M.pk S8 0 [] rfl)
  ·
   exact hP4 _ _ hf (M.pk S8 0 [] rfl)
 intro c1 H12 hf S11
 exact hk _ _ hf (M.sub (.refl _) S11)
def p_are_signs (a_thing : (List Int)) (a_fewest : Int) (a_most : Int) (P : Bool -> Prop) : Prop := if ((!true) || (!((decide (a_fewest <= ((a_thing).length : Int))) && (decide (((a_thing).length : Int) <= a_most))))) = true then (P false) else (forD (λ (x4 : Int) (s1 : Unit) (k2 : (Unit) -> Prop) => p_is_sign x4 λ x8 => if (!x8) = true then (P false) else (k2 ())) a_thing () λ s1 => P true)
def sp_are_signs (K : Fr) : Sp := λ vs H Q _ => ∃ (Rs : List Res) (R_a_thing : Res) (v_a_thing : V) (a_thing : (List Int)) (a_fewest : Int) (a_most : Int) (P : Bool -> Prop), vs = [v_a_thing, (V.int a_fewest), (V.int a_most)] /\ Brw R_a_thing K v_a_thing ((eL eI) a_thing) /\ M (R_a_thing :: Rs) H /\ p_are_signs a_thing a_fewest a_most P /\ ∀ (r : Bool) H', P r -> M (R_a_thing :: Rs) H' -> Q (V.bl r) H'
theorem len_are_signs {K : Fr} (vs : List V) (H : Hp) (Q : VK) (E : XK) (h : sp_are_signs K vs H Q E) : vs.length = 3 := by
 obtain ⟨Rs, R_a_thing, v_a_thing, a_thing, a_fewest, a_most, P, rfl, _⟩ := h
 rfl
abbrev t_are_signs_4 (K : Fr) : TS := (tIfS (tNot (tB (tCall (sp_is_sign K) [] E0 (tCons (tVar 3) tNil)))) (tRet (tC (.bl false))) tNext)
abbrev t_are_signs_3 (K : Fr) : TS := (tSeq (tFor (iList K (tVar 0)) (gName 3) (t_are_signs_4 K))
 (tRet (tC (.bl true))))
abbrev t_are_signs_1 (K : Fr) : TS := (tSeq (tIfS (tOr (tNot (tB (tCB (uIsi K) (tCons (tVar 0) (tCons (tC (.ty "list")) tNil))))) (tNot (tTest (tChain uLe uLe (tVar 1) (tCB (uLen K) (tCons (tVar 0) tNil)) (tVar 2))))) (tRet (tC (.bl false))) tNext)
 (t_are_signs_3 K))
abbrev t_are_signs (K : Fr) : TS := (t_are_signs_1 K)
theorem pure_are_signs {K : Fr} (vs : List V) (H : Hp) (Q : VK) (E : XK) (h : sp_are_signs K vs H Q E) : t_are_signs K { nx := λ _ H' => Q .non H', rt := Q } (L2.start ["thing", "fewest", "most", "sign"] vs) H := by
 obtain ⟨Rs, R_a_thing, v_a_thing, a_thing, a_fewest, a_most, P, rfl, h_a_thing, S0, hf, hk⟩ := h
 show t_are_signs K _ [some v_a_thing, some (V.int a_fewest), some (V.int a_most), none] H
 refine g_seq (g_if (g_orP (c1 := (!true)) (c2 := (!((decide (a_fewest <= ((a_thing).length : Int))) && (decide (((a_thing).length : Int) <= a_most))))) (λ _ hq => ?_) (λ _ hq => ?_) ?_))
 ·
  refine g_not (g_B (g_cb (g_cons (g_var rfl (g_cons (g_c (g_nil (v_isq (Dq.dn (h_a_thing _ _ (M.at S0 0 rfl))) (by decide) (b := true) rfl (g_bl ?_)))))))))
  exact hq
 ·
  refine g_not (g_test (g_chainP (c1 := (decide (a_fewest <= ((a_thing).length : Int)))) (c2 := (decide (((a_thing).length : Int) <= a_most))) (λ _ hq => ?_) (λ _ hq => ?_) (λ _ hq => v_le hq) (λ _ hq => ?_) (λ _ hq => v_le hq) ?_))
  ·
   refine g_var rfl ?_
   exact hq
  ·
   refine g_cb (g_cons (g_var rfl (g_nil (v_lenN (h_a_thing _ _ (M.at S0 0 rfl)) ?_))))
   exact hq
  ·
   refine g_var rfl ?_
   exact hq
  refine g_bl ?_
  exact hq
 refine v_iff hf (λ _ hf => ?_) (λ _ hf => ?_)
 ·
  refine g_ret (g_c ?_)
  exact hk _ _ hf (M.pk S0 1 [0] rfl)
 ·
  refine g_next (g_nx (g_seq (g_for (g_iList (g_var rfl ?_)))))
  refine for_N flI (K := K) (β := Unit) hf (λ (s1 : Unit) σ H' => ∃ (o5 : Option V), σ = [some v_a_thing, some (V.int a_fewest), some (V.int a_most), o5] /\ M (R_a_thing :: Rs) H') ⟨_, rfl, (M.pk S0 1 [0] rfl)⟩ (λ _ _ _ h => by obtain ⟨_, _, S⟩ := h; exact h_a_thing _ _ (S.at 0 rfl)) ?_ ?_
  ·
   rintro x4 s1 _ H7 kk3 ⟨o5, rfl, S6⟩ hf
   refine g_name (g_if (g_not (g_B (g_call (g_cons (g_var rfl (g_nil (⟨_, _, _, rfl, S6, hf, λ x8 H10 hf (S9 : M (_ :: Rs) H10) => ?_⟩))))))))
   refine g_bl (v_iff hf (λ _ hf => ?_) (λ _ hf => ?_))
   ·
    refine g_ret (g_c ?_)
    exact hk _ _ hf (M.pk S9 1 [0] rfl)
   ·
    refine g_next ?_
    exact ⟨_, hf, _, rfl, (M.pk S9 1 [0] rfl)⟩
  rintro s1 _ H13 hf ⟨o5, rfl, S12⟩
  refine g_nx ?_
  show (_ : TS) _ [some v_a_thing, some (V.int a_fewest), some (V.int a_most), o5] _
  refine g_ret (g_c ?_)
  exact hk _ _ hf (M.sub (.cons 0 rfl (.refl _)) S12)
def p_seal_of (a_signs : (List Int)) (P : Int -> Prop) : Prop := p_are_signs a_signs 1 16 λ x1 => if (!x1) = true then (False) else (forD (λ (x8 : Int) (s5 : Int) (k6 : (Int) -> Prop) => (CMul s5 1001 \/ CMulW s5 1001) /\ k6 (((s5 * 1001) + x8) + 1)) ((a_signs).reverse) 0 λ s5 => P s5)
def sp_seal_of (K : Fr) : Sp := λ vs H Q _ => ∃ (Rs : List Res) (R_a_signs : Res) (v_a_signs : V) (a_signs : (List Int)) (P : Int -> Prop), vs = [v_a_signs] /\ Brw R_a_signs K v_a_signs ((eL eI) a_signs) /\ M (R_a_signs :: Rs) H /\ p_seal_of a_signs P /\ ∀ (r : Int) H', P r -> M (R_a_signs :: Rs) H' -> Q (V.int r) H'
theorem len_seal_of {K : Fr} (vs : List V) (H : Hp) (Q : VK) (E : XK) (h : sp_seal_of K vs H Q E) : vs.length = 1 := by
 obtain ⟨Rs, R_a_signs, v_a_signs, a_signs, P, rfl, _⟩ := h
 rfl
abbrev t_seal_of_4 (K : Fr) : TS := (tSeq (tFor (iRev K (tCons (tVar 0) tNil)) (gName 2) (tAsg (tOp (uAdd K) (tOp (uAdd K) (tOp uMul (tVar 1) (tC (.int 1001))) (tVar 2)) (tC (.int 1))) (gName 1)))
 (tRet (tVar 1)))
abbrev t_seal_of_3 (K : Fr) : TS := (tSeq (tAsg (tC (.int 0)) (gName 1))
 (t_seal_of_4 K))
abbrev t_seal_of_1 (K : Fr) : TS := (tSeq (tIfS (tNot (tB (tCall (sp_are_signs K) [] E0 (tCons (tVar 0) (tCons (tC (.int 1)) (tCons (tC (.int 16)) tNil)))))) tNever tNext)
 (t_seal_of_3 K))
abbrev t_seal_of (K : Fr) : TS := (t_seal_of_1 K)
theorem pure_seal_of {K : Fr} (vs : List V) (H : Hp) (Q : VK) (E : XK) (h : sp_seal_of K vs H Q E) : t_seal_of K { nx := λ _ H' => Q .non H', rt := Q } (L2.start ["signs", "found", "sign"] vs) H := by
 obtain ⟨Rs, R_a_signs, v_a_signs, a_signs, P, rfl, h_a_signs, S0, hf, hk⟩ := h
 show t_seal_of K _ [some v_a_signs, none, none] H
 refine g_seq (g_if (g_not (g_B (g_call (g_cons (g_var rfl (g_cons (g_c (g_cons (g_c (g_nil (⟨_, _, _, _, _, _, _, rfl, h_a_signs, (M.at S0 0 rfl), hf, λ x1 H3 hf (S2 : M (_ :: Rs) H3) => ?_⟩))))))))))))
 refine g_bl (v_iff hf (λ _ hf => ?_) (λ _ hf => ?_))
 ·
  exact hf.elim
 ·
  refine g_next (g_nx (g_seq (g_asg (g_c (g_nx ?_)))))
  show (_ : TS) _ [some v_a_signs, some (V.int 0), none] _
  refine g_seq (g_for (g_iRev (g_cons (g_var rfl (g_nil ?_)))))
  refine for_revN flI (K := K) (β := Int) hf (λ (s5 : Int) σ H' => ∃ (o9 : Option V), σ = [some v_a_signs, some (V.int s5), o9] /\ M (R_a_signs :: Rs) H') ⟨_, rfl, (M.pk S2 1 [0] rfl)⟩ (λ _ _ _ h => by obtain ⟨_, _, S⟩ := h; exact h_a_signs _ _ (S.at 0 rfl)) ?_ ?_
  ·
   rintro x8 s5 _ H11 kk7 ⟨o9, rfl, S10⟩ hf
   obtain ⟨h12, hf⟩ := hf
   refine g_name (g_asg (g_op (g_op (g_op (g_var rfl (g_c (v_mul h12 (g_var rfl (v_add (g_c (v_add ?_)))))))))))
   exact ⟨_, hf, _, rfl, (M.sub (.cons 0 rfl (.refl _)) S10)⟩
  rintro s5 _ H14 hf ⟨o9, rfl, S13⟩
  refine g_nx ?_
  show (_ : TS) _ [some v_a_signs, some (V.int s5), o9] _
  refine g_ret (g_var rfl ?_)
  exact hk _ _ hf (M.sub (.cons 0 rfl (.refl _)) S13)
def p_is_seal (a_thing : Int) (P : Bool -> Prop) : Prop := jn (λ k5 => p_is_whole a_thing λ x7 => if (!x7) = true then (k5 true) else (k5 (decide (a_thing < 1)))) λ c1 => if c1 = true then (P false) else (((-(2 ^ 62) : Int) <= 16 /\ 16 < (2 ^ 62 : Int)) /\ forD (λ (x17 : Int) (s14 : Int) (k15 : (Int) -> Prop) => ((0 : Int) < 1001) /\ if (decide ((s14 % 1001) = 0)) = true then (P false) else ((CDiv s14 1001) /\ if (decide ((s14 / 1001) = 0)) = true then (P true) else (k15 (s14 / 1001)))) (rng 16) a_thing λ s14 => P false)
def sp_is_seal (K : Fr) : Sp := λ vs H Q _ => ∃ (Rs : List Res) (a_thing : Int) (P : Bool -> Prop), vs = [(V.int a_thing)] /\ M (Rs) H /\ p_is_seal a_thing P /\ ∀ (r : Bool) H', P r -> M (Rs) H' -> Q (V.bl r) H'
theorem len_is_seal {K : Fr} (vs : List V) (H : Hp) (Q : VK) (E : XK) (h : sp_is_seal K vs H Q E) : vs.length = 1 := by
 obtain ⟨Rs, a_thing, P, rfl, _⟩ := h
 rfl
abbrev t_is_seal_8 (K : Fr) : TS := (tIfS (tTest (tOp (uEq K) (tVar 1) (tC (.int 0)))) (tRet (tC (.bl true))) tNext)
abbrev t_is_seal_7 (K : Fr) : TS := (tSeq (tAug 1 (tC (.int 1001)) iDiv)
 (t_is_seal_8 K))
abbrev t_is_seal_5 (K : Fr) : TS := (tSeq (tIfS (tTest (tOp (uEq K) (tOp uMod (tVar 1) (tC (.int 1001))) (tC (.int 0)))) (tRet (tC (.bl false))) tNext)
 (t_is_seal_7 K))
abbrev t_is_seal_4 (K : Fr) : TS := (tSeq (tFor (iRng1 (tCons (tC (.int 16)) tNil)) (gName 2) (t_is_seal_5 K))
 (tRet (tC (.bl false))))
abbrev t_is_seal_3 (K : Fr) : TS := (tSeq (tAsg (tVar 0) (gName 1))
 (t_is_seal_4 K))
abbrev t_is_seal_1 (K : Fr) : TS := (tSeq (tIfS (tOr (tNot (tB (tCall (sp_is_whole K) [] E0 (tCons (tVar 0) tNil)))) (tTest (tOp uLt (tVar 0) (tC (.int 1))))) (tRet (tC (.bl false))) tNext)
 (t_is_seal_3 K))
abbrev t_is_seal (K : Fr) : TS := (t_is_seal_1 K)
theorem pure_is_seal {K : Fr} (vs : List V) (H : Hp) (Q : VK) (E : XK) (h : sp_is_seal K vs H Q E) : t_is_seal K { nx := λ _ H' => Q .non H', rt := Q } (L2.start ["thing", "rest", "turn"] vs) H := by
 obtain ⟨Rs, a_thing, P, rfl, S0, hf, hk⟩ := h
 show t_is_seal K _ [some (V.int a_thing), none, none] H
 refine g_seq (g_if ?_)
 refine tt_cut hf (λ H => M (Rs) H) (λ kk2 P3 hP4 hf => ?_) ?_
 ·
  refine g_or (g_not (g_B (g_call (g_cons (g_var rfl (g_nil (⟨_, _, _, rfl, S0, hf, λ x7 H9 hf (S8 : M (Rs) H9) => ?_⟩)))))))
  refine g_bl (v_iff hf (λ _ hf => ?_) (λ _ hf => ?_))
  ·
   exact hP4 _ _ hf (M.pk S8 0 [] rfl)
  ·
   refine g_test (g_op (g_var rfl (g_c (v_lt (g_bl ?_)))))
   exact hP4 _ _ hf (M.pk S8 0 [] rfl)
 intro c1 H12 hf S11
 refine v_iff hf (λ _ hf => ?_) (λ _ hf => ?_)
 ·
  refine g_ret (g_c ?_)
  exact hk _ _ hf (M.sub (.refl _) S11)
 ·
  refine g_next (g_nx (g_seq (g_asg (g_var rfl (g_nx ?_)))))
  show (_ : TS) _ [some (V.int a_thing), some (V.int a_thing), none] _
  obtain ⟨h13, hf⟩ := hf
  refine g_seq (g_for (g_iRng1 (g_cons (g_c (g_nil (v_itR h13 ?_))))))
  refine for_rng (β := Int) hf (λ (s14 : Int) σ H' => ∃ (o18 : Option V), σ = [some (V.int a_thing), some (V.int s14), o18] /\ M (Rs) H') ⟨_, rfl, (M.sub (.refl _) S11)⟩ ?_ ?_
  ·
   rintro x17 s14 _ H20 kk16 ⟨o18, rfl, S19⟩ hf
   obtain ⟨h21, hf⟩ := hf
   refine g_name (g_seq (g_if (g_test (g_op (g_op (g_var rfl (g_c (v_mod h21 (g_c (v_eqI (g_bl (v_iff hf (λ _ hf => ?_) (λ _ hf => ?_)))))))))))))
   ·
    refine g_ret (g_c ?_)
    exact hk _ _ hf (M.sub (.refl _) S19)
   ·
    obtain ⟨h22, hf⟩ := hf
    refine g_next (g_nx (g_seq (g_aug rfl (g_c (v_idiv h22 (g_nx ?_))))))
    show (_ : TS) _ [some (V.int a_thing), some (V.int (s14 / 1001)), some (V.int x17)] _
    refine g_if (g_test (g_op (g_var rfl (g_c (v_eqI (g_bl (v_iff hf (λ _ hf => ?_) (λ _ hf => ?_))))))))
    ·
     refine g_ret (g_c ?_)
     exact hk _ _ hf (M.sub (.refl _) S19)
    ·
     refine g_next ?_
     exact ⟨_, hf, _, rfl, (M.sub (.refl _) S19)⟩
  rintro s14 _ H24 hf ⟨o18, rfl, S23⟩
  refine g_nx ?_
  show (_ : TS) _ [some (V.int a_thing), some (V.int s14), o18] _
  refine g_ret (g_c ?_)
  exact hk _ _ hf (M.sub (.refl _) S23)
def R_Shelf (K : Fr) (a : Addr) (x : Int × (List (Int × Int)) × (List (Int × (Option (List Int))))) : Res := exi λ (dx : Addr) => exi λ (p1 : Addr) => exi λ (p2 : Addr) => sp2 (pt a (.ins (He.ga K "Shelf") dx [("room", (V.int x.1)), ("counts", (.ref p1)), ("bodies", (.ref p2))])) (sp2 (pt dx (.own a)) (sp2 (adR K iI eI p1 x.2.1) (adR K iI (eO (eL eI)) p2 x.2.2)))
theorem R_Shelf_open {K : Fr} {a : Addr} {x : Int × (List (Int × Int)) × (List (Int × (Option (List Int))))} {Rs : List Res} {H : Hp} (S : M (R_Shelf K a x :: Rs) H) : ∃ (dx : Addr) (p1 : Addr) (p2 : Addr), M (pt a (.ins (He.ga K "Shelf") dx [("room", (V.int x.1)), ("counts", (.ref p1)), ("bodies", (.ref p2))]) :: pt dx (.own a) :: adR K iI eI p1 x.2.1 :: adR K iI (eO (eL eI)) p2 x.2.2 :: Rs) H := by
 obtain ⟨dx, S⟩ := S.ex
 obtain ⟨p1, S⟩ := S.ex
 obtain ⟨p2, S⟩ := S.ex
 exact ⟨dx, p1, p2, M.spN4 S⟩
theorem R_Shelf_close {K : Fr} {a : Addr} {x : Int × (List (Int × Int)) × (List (Int × (Option (List Int))))} {Rs : List Res} {H : Hp} {dx : Addr} {p1 : Addr} {p2 : Addr} (S : M (pt a (.ins (He.ga K "Shelf") dx [("room", (V.int x.1)), ("counts", (.ref p1)), ("bodies", (.ref p2))]) :: pt dx (.own a) :: adR K iI eI p1 x.2.1 :: adR K iI (eO (eL eI)) p2 x.2.2 :: Rs) H) : M (R_Shelf K a x :: Rs) H := M.ex' dx <| M.ex' p1 <| M.ex' p2 <| M.spM4 S
theorem v_R_Shelf {K : Fr} {a : Addr} {x : Int × (List (Int × Int)) × (List (Int × (Option (List Int))))} {Rs : List Res} {H : Hp} {W : WX} {m : Str} {sp : Sp} {dvs : List V} {t : TA} {σ : L2.St} {Q : VK} (S : M Rs H) (i : Nat) (e : Rs[i]? = some (R_Shelf K a x)) (hm : ∀ (dx : Addr) (p1 : Addr) (p2 : Addr), List.lookup m ([("room", (V.int x.1)), ("counts", (.ref p1)), ("bodies", (.ref p2))] : List (Str × V)) = none)
   (k : t σ H λ vs H2 => sp (.ref a :: (vs ++ dvs)) H2 Q (WE W σ)) : MethK W (He.ga K "Shelf") m sp dvs t σ Q (.ref a) H := by
 obtain ⟨dx, p1, p2, S1⟩ := R_Shelf_open (S.at i e)
 exact v_meth (S1.got 0 rfl) (hm dx p1 p2) k
theorem v_len_Shelf {K : Fr} {a : Addr} {x : Int × (List (Int × Int)) × (List (Int × (Option (List Int))))} {Rs : List Res} {H : Hp} {sp : Sp} {Q : VK} (S : M Rs H) (i : Nat) (e : Rs[i]? = some (R_Shelf K a x)) (k : sp [.ref a] H (λ v H' => ∃ n : Int, v = .int n /\ 0 <= n /\ n < 2 ^ 63 /\ Q (.int n) H') E0) : rLenI (He.ga K "Shelf") sp [.ref a] H Q := by
 obtain ⟨dx, p1, p2, S1⟩ := R_Shelf_open (S.at i e)
 exact ⟨a, _, _, rfl, S1.got 0 rfl, k⟩
def p_Shelf___init__ (a_room : Int) (P : (Int × (List (Int × Int)) × (List (Int × (Option (List Int))))) -> Prop) : Prop := p_is_room a_room λ x1 => if (!x1) = true then (False) else (P (a_room, ([] : (List (Int × Int))), ([] : (List (Int × (Option (List Int)))))))
def sp_Shelf___init__ (K : Fr) : Sp := λ vs H Q _ => ∃ (Rs : List Res) (p_a_self d_a_self : Addr) (a_room : Int) (P : (Int × (List (Int × Int)) × (List (Int × (Option (List Int))))) -> Prop), vs = [(V.ref p_a_self), (V.int a_room)] /\ M (pt p_a_self (.ins (He.ga K "Shelf") d_a_self []) :: pt d_a_self (.own p_a_self) :: Rs) H /\ p_Shelf___init__ a_room P /\ ∀ (m0 : (Int × (List (Int × Int)) × (List (Int × (Option (List Int)))))) H', P m0 -> M (R_Shelf K p_a_self m0 :: Rs) H' -> Q .non H'
theorem len_Shelf___init__ {K : Fr} (vs : List V) (H : Hp) (Q : VK) (E : XK) (h : sp_Shelf___init__ K vs H Q E) : vs.length = 2 := by
 obtain ⟨Rs, p_a_self, d_a_self, a_room, P, rfl, _⟩ := h
 rfl
abbrev t_Shelf___init___4 (K : Fr) : TS := (tSeq (sFld K (tVar 0) tDNewK "counts")
 (sFld K (tVar 0) tDNewK "bodies"))
abbrev t_Shelf___init___3 (K : Fr) : TS := (tSeq (sFld K (tVar 0) (tVar 1) "room")
 (t_Shelf___init___4 K))
abbrev t_Shelf___init___1 (K : Fr) : TS := (tSeq (tIfS (tNot (tB (tCall (sp_is_room K) [] E0 (tCons (tVar 1) tNil)))) tNever tNext)
 (t_Shelf___init___3 K))
abbrev t_Shelf___init__ (K : Fr) : TS := (t_Shelf___init___1 K)
theorem pure_Shelf___init__ {K : Fr} (T : TxC K) (vs : List V) (H : Hp) (Q : VK) (E : XK) (h : sp_Shelf___init__ K vs H Q E) : t_Shelf___init__ K { nx := λ _ H' => Q .non H', rt := Q } (L2.start ["self", "room"] vs) H := by
 obtain ⟨Rs, p_a_self, d_a_self, a_room, P, rfl, S0, hf, hk⟩ := h
 show t_Shelf___init__ K _ [some (V.ref p_a_self), some (V.int a_room)] H
 refine g_seq (g_if (g_not (g_B (g_call (g_cons (g_var rfl (g_nil (⟨_, _, _, rfl, S0, hf, λ x1 H3 hf (S2 : M (oo2 Rs) H3) => ?_⟩))))))))
 refine g_bl (v_iff hf (λ _ hf => ?_) (λ _ hf => ?_))
 ·
  exact hf.elim
 ·
  refine g_next (g_nx (g_seq (g_sfld (g_var rfl (g_var rfl (v_sfld S2 0 rfl T.cl_Shelf T.na_Shelf_room (by simp) λ H6 (S5 : M (pt p_a_self (.ins (He.ga K "Shelf") d_a_self [("room", (V.int a_room))]) :: _ :: Rs) H6) => ?_))))))
  refine g_nx ?_
  show (_ : TS) _ [some (V.ref p_a_self), some (V.int a_room)] _
  refine g_seq (g_sfld (v_dnewo S5 λ p7 H9 (S8 : M (adR K iI eI p7 ([] : (List (Int × Int))) :: oo2 Rs) H9) => ?_))
  refine g_var rfl (v_sfld S8 1 rfl T.cl_Shelf T.na_Shelf_counts (by simp) λ H12 (S11 : M (_ :: pt p_a_self (.ins (He.ga K "Shelf") d_a_self [("room", (V.int a_room)), ("counts", (V.ref p7))]) :: _ :: Rs) H12) => ?_)
  refine g_nx ?_
  show (_ : TS) _ [some (V.ref p_a_self), some (V.int a_room)] _
  refine g_sfld (v_dnewo S11 λ p13 H15 (S14 : M (adR K iI (eO (eL eI)) p13 ([] : (List (Int × (Option (List Int))))) :: oo3 Rs) H15) => ?_)
  refine g_var rfl (v_sfld S14 2 rfl T.cl_Shelf T.na_Shelf_bodies (by simp) λ H18 (S17 : M (oo2 (pt p_a_self (.ins (He.ga K "Shelf") d_a_self [("room", (V.int a_room)), ("counts", (V.ref p7)), ("bodies", (V.ref p13))]) :: _ :: Rs)) H18) => ?_)
  have S19 : M (R_Shelf K p_a_self (a_room, ([] : (List (Int × Int))), ([] : (List (Int × (Option (List Int)))))) :: Rs) H18 := R_Shelf_close (M.pk S17 4 [2, 3, 1, 0] rfl)
  exact hk _ _ hf (M.pk S19 1 [0] rfl)
def p_Shelf_copied (a_self : (Int × (List (Int × Int)) × (List (Int × (Option (List Int)))))) (P : (Int × (List (Int × Int)) × (List (Int × (Option (List Int))))) -> Prop) : Prop := p_Shelf___init__ a_self.1 λ m15 => P (m15.1, a_self.2.1, a_self.2.2)
def sp_Shelf_copied (K : Fr) : Sp := λ vs H Q _ => ∃ (Rs : List Res) (p_a_self : Addr) (a_self : (Int × (List (Int × Int)) × (List (Int × (Option (List Int)))))) (P : (Int × (List (Int × Int)) × (List (Int × (Option (List Int))))) -> Prop), vs = [(V.ref p_a_self)] /\ M (R_Shelf K p_a_self a_self :: Rs) H /\ p_Shelf_copied a_self P /\ ∀ (r : (Int × (List (Int × Int)) × (List (Int × (Option (List Int)))))) (p : Addr) H', P r -> M (R_Shelf K p r :: R_Shelf K p_a_self a_self :: Rs) H' -> Q (.ref p) H'
theorem len_Shelf_copied {K : Fr} (vs : List V) (H : Hp) (Q : VK) (E : XK) (h : sp_Shelf_copied K vs H Q E) : vs.length = 1 := by
 obtain ⟨Rs, p_a_self, a_self, P, rfl, _⟩ := h
 rfl
abbrev t_Shelf_copied_3 (K : Fr) : TS := (tSeq (sFld K (tVar 1) (tCB rDictD (tCons (tFld K (tVar 0) "bodies") tNil)) "bodies")
 (tRet (tVar 1)))
abbrev t_Shelf_copied_2 (K : Fr) : TS := (tSeq (sFld K (tVar 1) (tCB rDictD (tCons (tFld K (tVar 0) "counts") tNil)) "counts")
 (t_Shelf_copied_3 K))
abbrev t_Shelf_copied_1 (K : Fr) : TS := (tSeq (tAsg (tMakeW W0 (He.ga K "Shelf") (sp_Shelf___init__ K) [] (tCons (tFld K (tVar 0) "room") tNil)) (gName 1))
 (t_Shelf_copied_2 K))
abbrev t_Shelf_copied (K : Fr) : TS := (t_Shelf_copied_1 K)
theorem pure_Shelf_copied {K : Fr} (T : TxC K) (vs : List V) (H : Hp) (Q : VK) (E : XK) (h : sp_Shelf_copied K vs H Q E) : t_Shelf_copied K { nx := λ _ H' => Q .non H', rt := Q } (L2.start ["self", "found"] vs) H := by
 obtain ⟨Rs, p_a_self, a_self, P, rfl, S0, hf, hk⟩ := h
 show t_Shelf_copied K _ [some (V.ref p_a_self), none] H
 obtain ⟨dx2, p3, p5, (S1 : M (pt p_a_self (.ins (He.ga K "Shelf") dx2 [("room", (V.int a_self.1)), ("counts", (V.ref p3)), ("bodies", (V.ref p5))]) :: pt dx2 (.own p_a_self) :: adR K iI eI p3 a_self.2.1 :: adR K iI (eO (eL eI)) p5 a_self.2.2 :: Rs) H)⟩ := R_Shelf_open (S0.at 0 rfl)
 refine g_seq (g_asg (g_make (g_cons (g_fld (g_var rfl (v_fld (S1.got 0 rfl) T.cl_Shelf T.na_Shelf_room rfl (g_nil (v_make S1 λ a9 dx10 H12 (S11 : M (pt a9 (.ins (He.ga K "Shelf") dx10 []) :: pt dx10 (.own a9) :: oo4 Rs) H12) => ?_))))))))
 refine ⟨_, _, _, _, _, rfl, (M.at (M.at S11 1 rfl) 1 rfl), hf, λ m15 H17 hf (S16 : M (R_Shelf K a9 m15 :: oo4 Rs) H17) => ?_⟩
 refine And.intro rfl (g_nx ?_)
 show (_ : TS) _ [some (V.ref p_a_self), some (V.ref a9)] _
 obtain ⟨dx21, p22, p24, (S20 : M (pt a9 (.ins (He.ga K "Shelf") dx21 [("room", (V.int m15.1)), ("counts", (V.ref p22)), ("bodies", (V.ref p24))]) :: pt dx21 (.own a9) :: adR K iI eI p22 m15.2.1 :: adR K iI (eO (eL eI)) p24 m15.2.2 :: oo4 Rs) H17)⟩ := R_Shelf_open (S16.at 0 rfl)
 refine g_seq (g_sfld (g_cb (g_cons (g_fld (g_var rfl (v_fld (S20.got 4 rfl) T.cl_Shelf T.na_Shelf_counts rfl (g_nil (d_dict (M.dvO S20 6 rfl) λ p28 H30 (S29 : M (adR K iI eI p28 a_self.2.1 :: oo8 Rs) H30) => ?_))))))))
 refine g_var rfl (v_sfld S29 1 rfl T.cl_Shelf T.na_Shelf_counts (by simp) λ H33 (S32 : M (_ :: pt a9 (.ins (He.ga K "Shelf") dx21 [("room", (V.int m15.1)), ("counts", (V.ref p28)), ("bodies", (V.ref p24))]) :: oo7 Rs) H33) => ?_)
 refine g_nx ?_
 show (_ : TS) _ [some (V.ref p_a_self), some (V.ref a9)] _
 refine g_seq (g_sfld (g_cb (g_cons (g_fld (g_var rfl (v_fld (S32.got 5 rfl) T.cl_Shelf T.na_Shelf_bodies rfl (g_nil (d_dict (M.dvO S32 8 rfl) λ p34 H36 (S35 : M (adR K iI (eO (eL eI)) p34 a_self.2.2 :: oo9 Rs) H36) => ?_))))))))
 refine g_var rfl (v_sfld S35 2 rfl T.cl_Shelf T.na_Shelf_bodies (by simp) λ H39 (S38 : M (oo2 (pt a9 (.ins (He.ga K "Shelf") dx21 [("room", (V.int m15.1)), ("counts", (V.ref p28)), ("bodies", (V.ref p34))]) :: oo7 Rs)) H39) => ?_)
 refine g_nx ?_
 show (_ : TS) _ [some (V.ref p_a_self), some (V.ref a9)] _
 refine g_ret (g_var rfl ?_)
 have S40 : M (R_Shelf K p_a_self a_self :: oo6 Rs) H39 := R_Shelf_close (M.pk S38 10 [6, 7, 8, 9, 0, 1, 2, 3, 4, 5] rfl)
 have S41 : M (R_Shelf K a9 (m15.1, a_self.2.1, a_self.2.2) :: oo3 Rs) H39 := R_Shelf_close (M.pk S40 7 [3, 4, 2, 1, 0, 5, 6] rfl)
 exact hk _ _ _ hf (M.pk S41 4 [0, 1] rfl)
def p_Shelf_free (a_self : (Int × (List (Int × Int)) × (List (Int × (Option (List Int)))))) (P : Int -> Prop) : Prop := P (a_self.1 - ((a_self.2.1).length : Int))
def sp_Shelf_free (K : Fr) : Sp := λ vs H Q _ => ∃ (Rs : List Res) (p_a_self : Addr) (a_self : (Int × (List (Int × Int)) × (List (Int × (Option (List Int)))))) (P : Int -> Prop), vs = [(V.ref p_a_self)] /\ M (R_Shelf K p_a_self a_self :: Rs) H /\ p_Shelf_free a_self P /\ ∀ (r : Int) H', P r -> M (R_Shelf K p_a_self a_self :: Rs) H' -> Q (V.int r) H'
theorem len_Shelf_free {K : Fr} (vs : List V) (H : Hp) (Q : VK) (E : XK) (h : sp_Shelf_free K vs H Q E) : vs.length = 1 := by
 obtain ⟨Rs, p_a_self, a_self, P, rfl, _⟩ := h
 rfl
abbrev t_Shelf_free (K : Fr) : TS := (tRet (tOp uSub (tFld K (tVar 0) "room") (tCB (uLen K) (tCons (tFld K (tVar 0) "counts") tNil))))
theorem pure_Shelf_free {K : Fr} (T : TxC K) (vs : List V) (H : Hp) (Q : VK) (E : XK) (h : sp_Shelf_free K vs H Q E) : t_Shelf_free K { nx := λ _ H' => Q .non H', rt := Q } (L2.start ["self"] vs) H := by
 obtain ⟨Rs, p_a_self, a_self, P, rfl, S0, hf, hk⟩ := h
 show t_Shelf_free K _ [some (V.ref p_a_self)] H
 obtain ⟨dx2, p3, p5, (S1 : M (pt p_a_self (.ins (He.ga K "Shelf") dx2 [("room", (V.int a_self.1)), ("counts", (V.ref p3)), ("bodies", (V.ref p5))]) :: pt dx2 (.own p_a_self) :: adR K iI eI p3 a_self.2.1 :: adR K iI (eO (eL eI)) p5 a_self.2.2 :: Rs) H)⟩ := R_Shelf_open (S0.at 0 rfl)
 refine g_ret (g_op (g_fld (g_var rfl (v_fld (S1.got 0 rfl) T.cl_Shelf T.na_Shelf_room rfl (g_cb (g_cons (g_fld (g_var rfl (v_fld (S1.got 0 rfl) T.cl_Shelf T.na_Shelf_counts rfl (g_nil (DVs.len (M.dvO S1 2 rfl) (v_sub ?_))))))))))))
 have S9 : M (R_Shelf K p_a_self a_self :: Rs) H := R_Shelf_close (M.pk S1 4 [0, 1, 2, 3] rfl)
 exact hk _ _ hf (M.pk S9 1 [0] rfl)
def p_Shelf___len__ (a_self : (Int × (List (Int × Int)) × (List (Int × (Option (List Int)))))) (P : Int -> Prop) : Prop := P ((a_self.2.1).length : Int)
def sp_Shelf___len__ (K : Fr) : Sp := λ vs H Q _ => ∃ (Rs : List Res) (p_a_self : Addr) (a_self : (Int × (List (Int × Int)) × (List (Int × (Option (List Int)))))) (P : Int -> Prop), vs = [(V.ref p_a_self)] /\ M (R_Shelf K p_a_self a_self :: Rs) H /\ p_Shelf___len__ a_self P /\ ∀ (r : Int) H', P r -> M (R_Shelf K p_a_self a_self :: Rs) H' -> Q (V.int r) H'
theorem len_Shelf___len__ {K : Fr} (vs : List V) (H : Hp) (Q : VK) (E : XK) (h : sp_Shelf___len__ K vs H Q E) : vs.length = 1 := by
 obtain ⟨Rs, p_a_self, a_self, P, rfl, _⟩ := h
 rfl
abbrev t_Shelf___len__ (K : Fr) : TS := (tRet (tCB (uLen K) (tCons (tFld K (tVar 0) "counts") tNil)))
theorem pure_Shelf___len__ {K : Fr} (T : TxC K) (vs : List V) (H : Hp) (Q : VK) (E : XK) (h : sp_Shelf___len__ K vs H Q E) : t_Shelf___len__ K { nx := λ _ H' => Q .non H', rt := Q } (L2.start ["self"] vs) H := by
 obtain ⟨Rs, p_a_self, a_self, P, rfl, S0, hf, hk⟩ := h
 show t_Shelf___len__ K _ [some (V.ref p_a_self)] H
 obtain ⟨dx2, p3, p5, (S1 : M (pt p_a_self (.ins (He.ga K "Shelf") dx2 [("room", (V.int a_self.1)), ("counts", (V.ref p3)), ("bodies", (V.ref p5))]) :: pt dx2 (.own p_a_self) :: adR K iI eI p3 a_self.2.1 :: adR K iI (eO (eL eI)) p5 a_self.2.2 :: Rs) H)⟩ := R_Shelf_open (S0.at 0 rfl)
 refine g_ret (g_cb (g_cons (g_fld (g_var rfl (v_fld (S1.got 0 rfl) T.cl_Shelf T.na_Shelf_counts rfl (g_nil (DVs.len (M.dvO S1 2 rfl) ?_)))))))
 have S9 : M (R_Shelf K p_a_self a_self :: Rs) H := R_Shelf_close (M.pk S1 4 [0, 1, 2, 3] rfl)
 exact hk _ _ hf (M.pk S9 1 [0] rfl)
def p_Shelf_need_kept (a_self : (Int × (List (Int × Int)) × (List (Int × (Option (List Int)))))) (a_seal : Int) (X : Ex -> Prop) (P : Unit -> Prop) : Prop := if (!(lk a_self.2.1 a_seal).isSome) = true then (X (Ex.NoPiece (eI a_seal))) else (P ())
def sp_Shelf_need_kept (K : Fr) : Sp := λ vs H Q E => ∃ (Rs : List Res) (p_a_self : Addr) (a_self : (Int × (List (Int × Int)) × (List (Int × (Option (List Int)))))) (a_seal : Int) (X : Ex -> Prop) (P : Unit -> Prop), vs = [(V.ref p_a_self), (V.int a_seal)] /\ M (R_Shelf K p_a_self a_self :: Rs) H /\ p_Shelf_need_kept a_self a_seal X P /\ (∀ (x : Ex) (d : Addr) (v : V) H', X x -> M (pt d (.xd [(x.fld, v)]) :: da K v x.val :: R_Shelf K p_a_self a_self :: Rs) H' -> E (.ref (He.ga K x.cls)) (some d) H') /\ ∀ (m0 : Unit) H', P m0 -> M (R_Shelf K p_a_self a_self :: Rs) H' -> Q .non H'
theorem len_Shelf_need_kept {K : Fr} (vs : List V) (H : Hp) (Q : VK) (E : XK) (h : sp_Shelf_need_kept K vs H Q E) : vs.length = 2 := by
 obtain ⟨Rs, p_a_self, a_self, a_seal, X, P, rfl, _⟩ := h
 rfl
abbrev t_Shelf_need_kept_1 (K : Fr) (W : WX) : TS := (tIfS (tTest (tOp (uNotIn K) (tVar 1) (tFld K (tVar 0) "counts"))) (tRz W (He.ga K "NoPiece") "seal" (tVar 1)) tNext)
abbrev t_Shelf_need_kept (K : Fr) (W : WX) : TS := (t_Shelf_need_kept_1 K W)
theorem pure_Shelf_need_kept {K : Fr} (T : TxC K) (vs : List V) (H : Hp) (Q : VK) (E : XK) (h : sp_Shelf_need_kept K vs H Q E) : t_Shelf_need_kept K (WT E) { nx := λ _ H' => Q .non H', rt := Q } (L2.start ["self", "seal"] vs) H := by
 obtain ⟨Rs, p_a_self, a_self, a_seal, X, P, rfl, S0, hf, hX, hk⟩ := h
 show t_Shelf_need_kept K (WT E) _ [some (V.ref p_a_self), some (V.int a_seal)] H
 obtain ⟨dx2, p3, p5, (S1 : M (pt p_a_self (.ins (He.ga K "Shelf") dx2 [("room", (V.int a_self.1)), ("counts", (V.ref p3)), ("bodies", (V.ref p5))]) :: pt dx2 (.own p_a_self) :: adR K iI eI p3 a_self.2.1 :: adR K iI (eO (eL eI)) p5 a_self.2.2 :: Rs) H)⟩ := R_Shelf_open (S0.at 0 rfl)
 refine g_if (g_test (g_op (g_var rfl (g_fld (g_var rfl (v_fld (S1.got 0 rfl) T.cl_Shelf T.na_Shelf_counts rfl (d_ninI (M.dvO S1 2 rfl) (g_bl (v_iff hf (λ _ hf => ?_) (λ _ hf => ?_))))))))))
 ·
  refine g_rz (g_var rfl ?_)
  have S9 : M (da K (V.int a_seal) (eI a_seal) :: oo4 Rs) H := M.addA S1 (EnF.all λ _ => .int (K := K) a_seal)
  refine v_rz S9 λ d11 H13 (S12 : M (pt d11 (.xd [("seal", (V.int a_seal))]) :: oo5 Rs) H13) => ?_
  have S15 : M (R_Shelf K p_a_self a_self :: oo2 Rs) H13 := R_Shelf_close (M.pk S12 6 [2, 3, 4, 5, 0, 1] rfl)
  exact hX (Ex.NoPiece (eI a_seal)) d11 (V.int a_seal) _ hf (M.pk S15 3 [1, 2, 0] rfl)
 ·
  refine g_next ?_
  have S16 : M (R_Shelf K p_a_self a_self :: Rs) H := R_Shelf_close (M.pk S1 4 [0, 1, 2, 3] rfl)
  exact hk _ _ hf (M.pk S16 1 [0] rfl)
def p_Shelf_has_sound (a_self : (Int × (List (Int × Int)) × (List (Int × (Option (List Int)))))) (a_seal : Int) (P : Bool -> Prop) : Prop := ∃ x9, lk a_self.2.2 a_seal = some x9 /\ jn (λ k18 => if (!(x9).isNone) = true then (jn (λ k25 => ∃ x33 : (List Int), x9 = some x33 /\ if (!decide (x33 = ([] : (List Int)))) = true then (p_seal_of x33 λ x38 => k25 (decide (x38 = a_seal))) else (k25 false)) λ c21 => k18 c21) else (k18 false)) λ c14 => P c14
def sp_Shelf_has_sound (K : Fr) : Sp := λ vs H Q _ => ∃ (Rs : List Res) (p_a_self : Addr) (a_self : (Int × (List (Int × Int)) × (List (Int × (Option (List Int)))))) (a_seal : Int) (P : Bool -> Prop), vs = [(V.ref p_a_self), (V.int a_seal)] /\ M (R_Shelf K p_a_self a_self :: Rs) H /\ p_Shelf_has_sound a_self a_seal P /\ ∀ (r : Bool) H', P r -> M (R_Shelf K p_a_self a_self :: Rs) H' -> Q (V.bl r) H'
theorem len_Shelf_has_sound {K : Fr} (vs : List V) (H : Hp) (Q : VK) (E : XK) (h : sp_Shelf_has_sound K vs H Q E) : vs.length = 2 := by
 obtain ⟨Rs, p_a_self, a_self, a_seal, P, rfl, _⟩ := h
 rfl
abbrev t_Shelf_has_sound_1 (K : Fr) : TS := (tSeq (tAsg (tOp rIxK (tFld K (tVar 0) "bodies") (tVar 1)) (gName 2))
 (tRet (tAndV (tOp rNotN (tVar 2) (tC .non)) (tAndV (tOp (uNe K) (tVar 2) (tLst tNil)) (tOp (uEq K) (tCall (sp_seal_of K) [] E0 (tCons (tVar 2) tNil)) (tVar 1))))))
abbrev t_Shelf_has_sound (K : Fr) : TS := (t_Shelf_has_sound_1 K)
theorem pure_Shelf_has_sound {K : Fr} (T : TxC K) (vs : List V) (H : Hp) (Q : VK) (E : XK) (h : sp_Shelf_has_sound K vs H Q E) : t_Shelf_has_sound K { nx := λ _ H' => Q .non H', rt := Q } (L2.start ["self", "seal", "body"] vs) H := by
 obtain ⟨Rs, p_a_self, a_self, a_seal, P, rfl, S0, hf, hk⟩ := h
 show t_Shelf_has_sound K _ [some (V.ref p_a_self), some (V.int a_seal), none] H
 obtain ⟨dx2, p3, p5, (S1 : M (pt p_a_self (.ins (He.ga K "Shelf") dx2 [("room", (V.int a_self.1)), ("counts", (V.ref p3)), ("bodies", (V.ref p5))]) :: pt dx2 (.own p_a_self) :: adR K iI eI p3 a_self.2.1 :: adR K iI (eO (eL eI)) p5 a_self.2.2 :: Rs) H)⟩ := R_Shelf_open (S0.at 0 rfl)
 refine g_seq (g_asg (g_op (g_fld (g_var rfl (v_fld (S1.got 0 rfl) T.cl_Shelf T.na_Shelf_bodies rfl (g_var rfl ?_))))))
 obtain ⟨x9, h10, hf⟩ := hf
 refine d_ixI (M.dvO S1 3 rfl) h10 λ u11 S12 => ?_
 refine g_nx ?_
 show (_ : TS) _ [some (V.ref p_a_self), some (V.int a_seal), some u11] _
 refine g_ret ?_
 have S20 : M (R_Shelf K p_a_self a_self :: da K u11 ((eO (eL eI)) x9) :: Rs) H := R_Shelf_close (M.sub (.cons 1 rfl (.cons 1 rfl (.cons 1 rfl (.cons 1 rfl (.refl _))))) S12)
 refine te_cut hf (λ H => M (R_Shelf K p_a_self a_self :: da K u11 ((eO (eL eI)) x9) :: Rs) H) (λ kk15 P16 hP17 hf => ?_) ?_
 ·
  refine g_andV (g_op (g_var rfl (g_c (v_notOe (λ _ => rfl) (M.gotA S20 1 rfl) (g_bl (v_iff hf (λ _ hf => ?_) (λ _ hf => ?_)))))))
  ·
   refine te_cut hf (λ H => M (R_Shelf K p_a_self a_self :: da K u11 ((eO (eL eI)) x9) :: Rs) H) (λ kk22 P23 hP24 hf => ?_) ?_
   ·
    refine g_andV (g_op (g_var rfl (g_lst (g_nil (v_lsto (ds := ([] : (List Int)).map eI) S20 EnF.nilA (len_ok rfl) λ p27 H29 (S28 : M (acR K p27 (([] : (List Int)).map eI) :: oo2 Rs) H29) => ?_)))))
    have S31 : M (da K (V.ref p27) ((eL eI) ([] : (List Int))) :: oo2 Rs) H29 := acR_fixL S28
    obtain ⟨x33, h34, hf⟩ := hf
    have S35 : M (da K u11 ((eL eI) x33) :: oo3 Rs) H29 := M.cstA S31 2 rfl (by rw [h34]; rfl)
    refine v_neLI (M.gotA S35 0 rfl) (M.gotA S35 1 rfl) (g_bl (v_iff hf (λ _ hf => ?_) (λ _ hf => ?_)))
    ·
     refine g_op (g_call (g_cons (g_var rfl (g_nil (⟨_, _, _, _, _, rfl, Brw.da, (M.addA S35 (EnF.at 0 rfl)), hf, λ x38 H40 hf (S39 : M (oo5 Rs) H40) => ?_⟩)))))
     refine g_var rfl (v_eqI ?_)
     exact hP24 _ _ hf (M.pk S39 5 [3, 4] rfl)
    ·
     exact hP24 _ _ hf (M.pk S35 4 [2, 3] rfl)
   intro c21 H43 hf S42
   exact hP17 _ _ hf (M.sub (.cons 0 rfl (.cons 0 rfl (.refl _))) S42)
  ·
   exact hP17 _ _ hf (M.pk S20 2 [0, 1] rfl)
 intro c14 H45 hf S44
 exact hk _ _ hf (M.sub (.cons 0 rfl (.tl (.refl _))) S44)
def p_Shelf_lay (a_self : (Int × (List (Int × Int)) × (List (Int × (Option (List Int)))))) (a_signs : (List Int)) (X : Ex -> (Int × (List (Int × Int)) × (List (Int × (Option (List Int))))) -> Prop) (P : Int -> (Int × (List (Int × Int)) × (List (Int × (Option (List Int))))) -> Prop) : Prop := p_are_signs a_signs 1 16 λ x1 => if (!x1) = true then (X (Ex.Wrong (eI 0)) a_self) else (p_seal_of a_signs λ x11 => jn (β := (Int × (List (Int × Int)) × (List (Int × (Option (List Int)))))) (λ k16 => if (!(lk a_self.2.1 x11).isSome) = true then (p_Shelf_free a_self λ x30 => if (decide (x30 = 0)) = true then (X (Ex.NoRoom (eI a_self.1)) a_self) else ((a_self.2.1).length < 100000 /\ k16 (a_self.1, (pk a_self.2.1 x11 0), a_self.2.2))) else (k16 a_self)) λ s15 => ∃ x73, lk s15.2.1 x11 = some x73 /\ (s15.2.1).length < 100000 /\ (s15.2.2).length < 100000 /\ P x11 (s15.1, (pk s15.2.1 x11 (x73 + 1)), (pk s15.2.2 x11 (some a_signs))))
def sp_Shelf_lay (K : Fr) : Sp := λ vs H Q E => ∃ (Rs : List Res) (p_a_self : Addr) (a_self : (Int × (List (Int × Int)) × (List (Int × (Option (List Int)))))) (R_a_signs : Res) (v_a_signs : V) (a_signs : (List Int)) (X : Ex -> (Int × (List (Int × Int)) × (List (Int × (Option (List Int))))) -> Prop) (P : Int -> (Int × (List (Int × Int)) × (List (Int × (Option (List Int))))) -> Prop), vs = [(V.ref p_a_self), v_a_signs] /\ Brw R_a_signs K v_a_signs ((eL eI) a_signs) /\ M (R_Shelf K p_a_self a_self :: R_a_signs :: Rs) H /\ p_Shelf_lay a_self a_signs X P /\ (∀ (x : Ex) (m1 : (Int × (List (Int × Int)) × (List (Int × (Option (List Int)))))) (d : Addr) (v : V) H', X x m1 -> M (pt d (.xd [(x.fld, v)]) :: da K v x.val :: R_Shelf K p_a_self m1 :: R_a_signs :: Rs) H' -> E (.ref (He.ga K x.cls)) (some d) H') /\ ∀ (r : Int) (m1 : (Int × (List (Int × Int)) × (List (Int × (Option (List Int)))))) H', P r m1 -> M (R_Shelf K p_a_self m1 :: R_a_signs :: Rs) H' -> Q (V.int r) H'
theorem len_Shelf_lay {K : Fr} (vs : List V) (H : Hp) (Q : VK) (E : XK) (h : sp_Shelf_lay K vs H Q E) : vs.length = 2 := by
 obtain ⟨Rs, p_a_self, a_self, R_a_signs, v_a_signs, a_signs, X, P, rfl, _⟩ := h
 rfl
abbrev t_Shelf_lay_5 (K : Fr) (W : WX) : TS := (tSeq (tIfS (tTest (tOp (uEq K) (tMethW W0 (He.ga K "Shelf") "free" (sp_Shelf_free K) [] (tVar 0) tNil) (tC (.int 0)))) (tRz W (He.ga K "NoRoom") "room" (tFld K (tVar 0) "room")) tNext)
 (tAsg (tC (.int 0)) (gSub (tFld K (tVar 0) "counts") (tVar 2) uSet)))
abbrev t_Shelf_lay_9 (K : Fr) (W : WX) : TS := (tSeq (tAsg (tCB (rListOf K) (tCons (tVar 1) tNil)) (gSub (tFld K (tVar 0) "bodies") (tVar 2) uSet))
 (tRet (tVar 2)))
abbrev t_Shelf_lay_8 (K : Fr) (W : WX) : TS := (tSeq (tAugS (tFld K (tVar 0) "counts") (tVar 2) (tC (.int 1)) (gIx K) iAdd uSet)
 (t_Shelf_lay_9 K W))
abbrev t_Shelf_lay_4 (K : Fr) (W : WX) : TS := (tSeq (tIfS (tTest (tOp (uNotIn K) (tVar 2) (tFld K (tVar 0) "counts"))) (t_Shelf_lay_5 K W) tNext)
 (t_Shelf_lay_8 K W))
abbrev t_Shelf_lay_3 (K : Fr) (W : WX) : TS := (tSeq (tAsg (tCall (sp_seal_of K) [] E0 (tCons (tVar 1) tNil)) (gName 2))
 (t_Shelf_lay_4 K W))
abbrev t_Shelf_lay_1 (K : Fr) (W : WX) : TS := (tSeq (tIfS (tNot (tB (tCall (sp_are_signs K) [] E0 (tCons (tVar 1) (tCons (tC (.int 1)) (tCons (tC (.int 16)) tNil)))))) (tRz W (He.ga K "Wrong") "at" (tC (.int 0))) tNext)
 (t_Shelf_lay_3 K W))
abbrev t_Shelf_lay (K : Fr) (W : WX) : TS := (t_Shelf_lay_1 K W)
theorem pure_Shelf_lay {K : Fr} (T : TxC K) (vs : List V) (H : Hp) (Q : VK) (E : XK) (h : sp_Shelf_lay K vs H Q E) : t_Shelf_lay K (WT E) { nx := λ _ H' => Q .non H', rt := Q } (L2.start ["self", "signs", "seal"] vs) H := by
 obtain ⟨Rs, p_a_self, a_self, R_a_signs, v_a_signs, a_signs, X, P, rfl, h_a_signs, S0, hf, hX, hk⟩ := h
 show t_Shelf_lay K (WT E) _ [some (V.ref p_a_self), some v_a_signs, none] H
 refine g_seq (g_if (g_not (g_B (g_call (g_cons (g_var rfl (g_cons (g_c (g_cons (g_c (g_nil (⟨_, _, _, _, _, _, _, rfl, h_a_signs, (M.at S0 1 rfl), hf, λ x1 H3 hf (S2 : M (oo2 Rs) H3) => ?_⟩))))))))))))
 refine g_bl (v_iff hf (λ _ hf => ?_) (λ _ hf => ?_))
 ·
  refine g_rz (g_c ?_)
  have S5 : M (da K (V.int 0) (eI 0) :: oo2 Rs) H3 := M.addA S2 (EnF.all λ _ => .int (K := K) 0)
  refine v_rz S5 λ d7 H9 (S8 : M (pt d7 (.xd [("at", (V.int 0))]) :: oo3 Rs) H9) => ?_
  exact hX (Ex.Wrong (eI 0)) _ d7 (V.int 0) _ hf (M.pk S8 4 [0, 1, 3, 2] rfl)
 ·
  refine g_next (g_nx (g_seq (g_asg (g_call (g_cons (g_var rfl (g_nil (⟨_, _, _, _, _, rfl, h_a_signs, (M.at S2 0 rfl), hf, λ x11 H13 hf (S12 : M (oo2 Rs) H13) => ?_⟩))))))))
  refine g_nx ?_
  show (_ : TS) _ [some (V.ref p_a_self), some v_a_signs, some (V.int x11)] _
  refine jn_cut (β := (Int × (List (Int × Int)) × (List (Int × (Option (List Int)))))) hf (λ (s15 : (Int × (List (Int × Int)) × (List (Int × (Option (List Int)))))) σ H' => σ = [some (V.ref p_a_self), some v_a_signs, some (V.int x11)] /\ M (R_Shelf K p_a_self s15 :: R_a_signs :: Rs) H') (λ kk17 N18 hN19 hf => ?_) ?_
  ·
   obtain ⟨dx22, p23, p25, (S21 : M (pt p_a_self (.ins (He.ga K "Shelf") dx22 [("room", (V.int a_self.1)), ("counts", (V.ref p23)), ("bodies", (V.ref p25))]) :: pt dx22 (.own p_a_self) :: adR K iI eI p23 a_self.2.1 :: adR K iI (eO (eL eI)) p25 a_self.2.2 :: _ :: Rs) H13)⟩ := R_Shelf_open (S12.at 1 rfl)
   refine g_if (g_test (g_op (g_var rfl (g_fld (g_var rfl (v_fld (S21.got 0 rfl) T.cl_Shelf T.na_Shelf_counts rfl (d_ninI (M.dvO S21 2 rfl) (g_bl (v_iff hf (λ _ hf => ?_) (λ _ hf => ?_))))))))))
   ·
    refine g_seq (g_if (g_test (g_op ?_)))
    have S29 : M (R_Shelf K p_a_self a_self :: _ :: Rs) H13 := R_Shelf_close (M.pk S21 5 [0, 1, 2, 3, 4] rfl)
    refine g_meth (g_var rfl (v_R_Shelf S29 0 rfl (λ _ _ _ => rfl) (g_nil (⟨_, _, _, _, rfl, (M.at S29 0 rfl), hf, λ x30 H32 hf (S31 : M (oo2 Rs) H32) => ?_⟩))))
    refine g_c (v_eqI (g_bl (v_iff hf (λ _ hf => ?_) (λ _ hf => ?_))))
    ·
     obtain ⟨dx35, p36, p38, (S34 : M (pt p_a_self (.ins (He.ga K "Shelf") dx35 [("room", (V.int a_self.1)), ("counts", (V.ref p36)), ("bodies", (V.ref p38))]) :: pt dx35 (.own p_a_self) :: adR K iI eI p36 a_self.2.1 :: adR K iI (eO (eL eI)) p38 a_self.2.2 :: _ :: Rs) H32)⟩ := R_Shelf_open (S31.at 0 rfl)
     refine g_rz (g_fld (g_var rfl (v_fld (S34.got 0 rfl) T.cl_Shelf T.na_Shelf_room rfl ?_)))
     have S42 : M (da K (V.int a_self.1) (eI a_self.1) :: oo5 Rs) H32 := M.addA S34 (EnF.all λ _ => .int (K := K) a_self.1)
     refine v_rz S42 λ d44 H46 (S45 : M (pt d44 (.xd [("room", (V.int a_self.1))]) :: oo6 Rs) H46) => ?_
     have S48 : M (R_Shelf K p_a_self a_self :: oo3 Rs) H46 := R_Shelf_close (M.pk S45 7 [2, 3, 4, 5, 0, 1, 6] rfl)
     exact hX (Ex.NoRoom (eI a_self.1)) _ d44 (V.int a_self.1) _ hf (M.pk S48 4 [1, 2, 0, 3] rfl)
    ·
     obtain ⟨dx50, p51, p53, (S49 : M (pt p_a_self (.ins (He.ga K "Shelf") dx50 [("room", (V.int a_self.1)), ("counts", (V.ref p51)), ("bodies", (V.ref p53))]) :: pt dx50 (.own p_a_self) :: adR K iI eI p51 a_self.2.1 :: adR K iI (eO (eL eI)) p53 a_self.2.2 :: _ :: Rs) H32)⟩ := R_Shelf_open (S31.at 0 rfl)
     refine g_next (g_nx (g_asgX (g_c (g_sub (g_fld (g_var rfl (v_fld (S49.got 0 rfl) T.cl_Shelf T.na_Shelf_counts rfl (g_var rfl ?_))))))))
     obtain ⟨h57, hf⟩ := hf
     refine v_putdI (e := eI) (x := 0) S49 2 rfl (EnF.all λ _ => .int _) h57 λ H59 (S58 : M (adR K iI eI p51 (pk a_self.2.1 x11 0) :: oo4 Rs) H59) => ?_
     have S61 : M (R_Shelf K p_a_self (a_self.1, (pk a_self.2.1 x11 0), a_self.2.2) :: _ :: Rs) H59 := R_Shelf_close (M.pk S58 5 [1, 2, 0, 3, 4] rfl)
     exact hN19 _ _ _ hf ⟨rfl, (M.pk S61 2 [0, 1] rfl)⟩
   ·
    refine g_next ?_
    have S62 : M (R_Shelf K p_a_self a_self :: _ :: Rs) H13 := R_Shelf_close (M.pk S21 5 [0, 1, 2, 3, 4] rfl)
    exact hN19 _ _ _ hf ⟨rfl, (M.pk S62 2 [0, 1] rfl)⟩
  rintro s15 _ H64 hf ⟨rfl, S63⟩
  obtain ⟨dx66, p67, p69, (S65 : M (pt p_a_self (.ins (He.ga K "Shelf") dx66 [("room", (V.int s15.1)), ("counts", (V.ref p67)), ("bodies", (V.ref p69))]) :: pt dx66 (.own p_a_self) :: adR K iI eI p67 s15.2.1 :: adR K iI (eO (eL eI)) p69 s15.2.2 :: _ :: Rs) H64)⟩ := R_Shelf_open (S63.at 0 rfl)
  refine g_seq (g_augS (g_fld (g_var rfl (v_fld (S65.got 0 rfl) T.cl_Shelf T.na_Shelf_counts rfl (g_var rfl ?_)))))
  obtain ⟨x73, h74, hf⟩ := hf
  refine d_gixI (M.dvO S65 2 rfl) h74 (g_c (v_iadd ?_))
  obtain ⟨h75, hf⟩ := hf
  refine v_putdI (e := eI) (x := (x73 + 1)) S65 2 rfl (EnF.all λ _ => .int _) h75 λ H77 (S76 : M (adR K iI eI p67 (pk s15.2.1 x11 (x73 + 1)) :: oo4 Rs) H77) => ?_
  refine g_nx ?_
  show (_ : TS) _ [some (V.ref p_a_self), some v_a_signs, some (V.int x11)] _
  refine g_seq (g_asgX (g_cb (g_cons (g_var rfl (g_nil (v_liN flI S76 (h_a_signs _ _ (M.at S76 4 rfl)) λ p79 H81 (S80 : M (acR K p79 (a_signs.map eI) :: oo5 Rs) H81) => ?_))))))
  have S83 : M (da K (V.ref p79) ((eL eI) a_signs) :: oo5 Rs) H81 := acR_fixL S80
  refine g_sub (g_fld (g_var rfl (v_fld (S83.got 2 rfl) T.cl_Shelf T.na_Shelf_bodies rfl (g_var rfl ?_))))
  obtain ⟨h85, hf⟩ := hf
  refine v_putdI (e := (eO (eL eI))) (x := (some a_signs)) S83 4 rfl (EnF.at 0 rfl) h85 λ H87 (S86 : M (adR K iI (eO (eL eI)) p69 (pk s15.2.2 x11 (some a_signs)) :: oo5 Rs) H87) => ?_
  refine g_nx ?_
  show (_ : TS) _ [some (V.ref p_a_self), some v_a_signs, some (V.int x11)] _
  have S89 : M (oo5 Rs) H87 := (M.drp S86 1)
  refine g_ret (g_var rfl ?_)
  have S90 : M (R_Shelf K p_a_self (s15.1, (pk s15.2.1 x11 (x73 + 1)), (pk s15.2.2 x11 (some a_signs))) :: _ :: Rs) H87 := R_Shelf_close (M.pk S89 5 [2, 3, 1, 0, 4] rfl)
  exact hk _ _ _ hf (M.pk S90 2 [0, 1] rfl)
def p_Shelf_hold (a_self : (Int × (List (Int × Int)) × (List (Int × (Option (List Int)))))) (a_seal : Int) (X : Ex -> (Int × (List (Int × Int)) × (List (Int × (Option (List Int))))) -> Prop) (P : (Int × (List (Int × Int)) × (List (Int × (Option (List Int))))) -> Prop) : Prop := p_is_seal a_seal λ x1 => if (!x1) = true then (X (Ex.Wrong (eI 0)) a_self) else (p_Shelf_need_kept a_self a_seal (λ x15 => X x15 a_self) λ _u11 => ∃ x30, lk a_self.2.1 a_seal = some x30 /\ (a_self.2.1).length < 100000 /\ P (a_self.1, (pk a_self.2.1 a_seal (x30 + 1)), a_self.2.2))
def sp_Shelf_hold (K : Fr) : Sp := λ vs H Q E => ∃ (Rs : List Res) (p_a_self : Addr) (a_self : (Int × (List (Int × Int)) × (List (Int × (Option (List Int)))))) (a_seal : Int) (X : Ex -> (Int × (List (Int × Int)) × (List (Int × (Option (List Int))))) -> Prop) (P : (Int × (List (Int × Int)) × (List (Int × (Option (List Int))))) -> Prop), vs = [(V.ref p_a_self), (V.int a_seal)] /\ M (R_Shelf K p_a_self a_self :: Rs) H /\ p_Shelf_hold a_self a_seal X P /\ (∀ (x : Ex) (m0 : (Int × (List (Int × Int)) × (List (Int × (Option (List Int)))))) (d : Addr) (v : V) H', X x m0 -> M (pt d (.xd [(x.fld, v)]) :: da K v x.val :: R_Shelf K p_a_self m0 :: Rs) H' -> E (.ref (He.ga K x.cls)) (some d) H') /\ ∀ (m0 : (Int × (List (Int × Int)) × (List (Int × (Option (List Int)))))) H', P m0 -> M (R_Shelf K p_a_self m0 :: Rs) H' -> Q .non H'
theorem len_Shelf_hold {K : Fr} (vs : List V) (H : Hp) (Q : VK) (E : XK) (h : sp_Shelf_hold K vs H Q E) : vs.length = 2 := by
 obtain ⟨Rs, p_a_self, a_self, a_seal, X, P, rfl, _⟩ := h
 rfl
abbrev t_Shelf_hold_3 (K : Fr) (W : WX) : TS := (tSeq (tDrop (tMethW W (He.ga K "Shelf") "need_kept" (sp_Shelf_need_kept K) [] (tVar 0) (tCons (tVar 1) tNil)))
 (tAugS (tFld K (tVar 0) "counts") (tVar 1) (tC (.int 1)) (gIx K) iAdd uSet))
abbrev t_Shelf_hold_1 (K : Fr) (W : WX) : TS := (tSeq (tIfS (tNot (tB (tCall (sp_is_seal K) [] E0 (tCons (tVar 1) tNil)))) (tRz W (He.ga K "Wrong") "at" (tC (.int 0))) tNext)
 (t_Shelf_hold_3 K W))
abbrev t_Shelf_hold (K : Fr) (W : WX) : TS := (t_Shelf_hold_1 K W)
theorem pure_Shelf_hold {K : Fr} (T : TxC K) (vs : List V) (H : Hp) (Q : VK) (E : XK) (h : sp_Shelf_hold K vs H Q E) : t_Shelf_hold K (WT E) { nx := λ _ H' => Q .non H', rt := Q } (L2.start ["self", "seal"] vs) H := by
 obtain ⟨Rs, p_a_self, a_self, a_seal, X, P, rfl, S0, hf, hX, hk⟩ := h
 show t_Shelf_hold K (WT E) _ [some (V.ref p_a_self), some (V.int a_seal)] H
 refine g_seq (g_if (g_not (g_B (g_call (g_cons (g_var rfl (g_nil (⟨_, _, _, rfl, S0, hf, λ x1 H3 hf (S2 : M (_ :: Rs) H3) => ?_⟩))))))))
 refine g_bl (v_iff hf (λ _ hf => ?_) (λ _ hf => ?_))
 ·
  refine g_rz (g_c ?_)
  have S5 : M (da K (V.int 0) (eI 0) :: _ :: Rs) H3 := M.addA S2 (EnF.all λ _ => .int (K := K) 0)
  refine v_rz S5 λ d7 H9 (S8 : M (pt d7 (.xd [("at", (V.int 0))]) :: oo2 Rs) H9) => ?_
  exact hX (Ex.Wrong (eI 0)) _ d7 (V.int 0) _ hf (M.pk S8 3 [0, 1, 2] rfl)
 ·
  refine g_next (g_nx (g_seq (g_drop (g_meth (g_var rfl (v_R_Shelf S2 0 rfl (λ _ _ _ => rfl) (g_cons (g_var rfl (g_nil (⟨_, _, _, _, _, _, rfl, (M.at S2 0 rfl), hf, λ x15 d16 v17 H19 hf (S18 : M (pt d16 (.xd [(x15.fld, v17)]) :: da K v17 x15.val :: _ :: Rs) H19) => ?_, λ _u11 H13 hf (S12 : M (_ :: Rs) H13) => ?_⟩))))))))))
  ·
   exact hX x15 _ d16 v17 _ hf (M.pk S18 3 [0, 1, 2] rfl)
  refine g_nx ?_
  show (_ : TS) _ [some (V.ref p_a_self), some (V.int a_seal)] _
  obtain ⟨dx23, p24, p26, (S22 : M (pt p_a_self (.ins (He.ga K "Shelf") dx23 [("room", (V.int a_self.1)), ("counts", (V.ref p24)), ("bodies", (V.ref p26))]) :: pt dx23 (.own p_a_self) :: adR K iI eI p24 a_self.2.1 :: adR K iI (eO (eL eI)) p26 a_self.2.2 :: Rs) H13)⟩ := R_Shelf_open (S12.at 0 rfl)
  refine g_augS (g_fld (g_var rfl (v_fld (S22.got 0 rfl) T.cl_Shelf T.na_Shelf_counts rfl (g_var rfl ?_))))
  obtain ⟨x30, h31, hf⟩ := hf
  refine d_gixI (M.dvO S22 2 rfl) h31 (g_c (v_iadd ?_))
  obtain ⟨h32, hf⟩ := hf
  refine v_putdI (e := eI) (x := (x30 + 1)) S22 2 rfl (EnF.all λ _ => .int _) h32 λ H34 (S33 : M (adR K iI eI p24 (pk a_self.2.1 a_seal (x30 + 1)) :: oo3 Rs) H34) => ?_
  have S36 : M (R_Shelf K p_a_self (a_self.1, (pk a_self.2.1 a_seal (x30 + 1)), a_self.2.2) :: Rs) H34 := R_Shelf_close (M.pk S33 4 [1, 2, 0, 3] rfl)
  exact hk _ _ hf (M.pk S36 1 [0] rfl)
def p_Shelf_let_go (a_self : (Int × (List (Int × Int)) × (List (Int × (Option (List Int)))))) (a_seal : Int) (X : Ex -> (Int × (List (Int × Int)) × (List (Int × (Option (List Int))))) -> Prop) (P : Bool -> (Int × (List (Int × Int)) × (List (Int × (Option (List Int))))) -> Prop) : Prop := p_is_seal a_seal λ x1 => if (!x1) = true then (X (Ex.Wrong (eI 0)) a_self) else (p_Shelf_need_kept a_self a_seal (λ x15 => X x15 a_self) λ _u11 => ∃ x30, lk a_self.2.1 a_seal = some x30 /\ (a_self.2.1).length < 100000 /\ ∃ x36, lk (pk a_self.2.1 a_seal (x30 - 1)) a_seal = some x36 /\ if (decide (0 < x36)) = true then (P false (a_self.1, (pk a_self.2.1 a_seal (x30 - 1)), a_self.2.2)) else (∃ x42, lk (pk a_self.2.1 a_seal (x30 - 1)) a_seal = some x42 /\ ∃ x50, lk a_self.2.2 a_seal = some x50 /\ P true (a_self.1, (dk (pk a_self.2.1 a_seal (x30 - 1)) a_seal), (dk a_self.2.2 a_seal))))
def sp_Shelf_let_go (K : Fr) : Sp := λ vs H Q E => ∃ (Rs : List Res) (p_a_self : Addr) (a_self : (Int × (List (Int × Int)) × (List (Int × (Option (List Int)))))) (a_seal : Int) (X : Ex -> (Int × (List (Int × Int)) × (List (Int × (Option (List Int))))) -> Prop) (P : Bool -> (Int × (List (Int × Int)) × (List (Int × (Option (List Int))))) -> Prop), vs = [(V.ref p_a_self), (V.int a_seal)] /\ M (R_Shelf K p_a_self a_self :: Rs) H /\ p_Shelf_let_go a_self a_seal X P /\ (∀ (x : Ex) (m1 : (Int × (List (Int × Int)) × (List (Int × (Option (List Int)))))) (d : Addr) (v : V) H', X x m1 -> M (pt d (.xd [(x.fld, v)]) :: da K v x.val :: R_Shelf K p_a_self m1 :: Rs) H' -> E (.ref (He.ga K x.cls)) (some d) H') /\ ∀ (r : Bool) (m1 : (Int × (List (Int × Int)) × (List (Int × (Option (List Int)))))) H', P r m1 -> M (R_Shelf K p_a_self m1 :: Rs) H' -> Q (V.bl r) H'
theorem len_Shelf_let_go {K : Fr} (vs : List V) (H : Hp) (Q : VK) (E : XK) (h : sp_Shelf_let_go K vs H Q E) : vs.length = 2 := by
 obtain ⟨Rs, p_a_self, a_self, a_seal, X, P, rfl, _⟩ := h
 rfl
abbrev t_Shelf_let_go_8 (K : Fr) (W : WX) : TS := (tSeq (tDrop (tDPop1 (tFld K (tVar 0) "bodies") (tVar 1)))
 (tRet (tC (.bl true))))
abbrev t_Shelf_let_go_7 (K : Fr) (W : WX) : TS := (tSeq (tDrop (tDPop1 (tFld K (tVar 0) "counts") (tVar 1)))
 (t_Shelf_let_go_8 K W))
abbrev t_Shelf_let_go_5 (K : Fr) (W : WX) : TS := (tSeq (tIfS (tTest (tOp uGt (tOp rIxK (tFld K (tVar 0) "counts") (tVar 1)) (tC (.int 0)))) (tRet (tC (.bl false))) tNext)
 (t_Shelf_let_go_7 K W))
abbrev t_Shelf_let_go_4 (K : Fr) (W : WX) : TS := (tSeq (tAugS (tFld K (tVar 0) "counts") (tVar 1) (tC (.int 1)) (gIx K) iSub uSet)
 (t_Shelf_let_go_5 K W))
abbrev t_Shelf_let_go_3 (K : Fr) (W : WX) : TS := (tSeq (tDrop (tMethW W (He.ga K "Shelf") "need_kept" (sp_Shelf_need_kept K) [] (tVar 0) (tCons (tVar 1) tNil)))
 (t_Shelf_let_go_4 K W))
abbrev t_Shelf_let_go_1 (K : Fr) (W : WX) : TS := (tSeq (tIfS (tNot (tB (tCall (sp_is_seal K) [] E0 (tCons (tVar 1) tNil)))) (tRz W (He.ga K "Wrong") "at" (tC (.int 0))) tNext)
 (t_Shelf_let_go_3 K W))
abbrev t_Shelf_let_go (K : Fr) (W : WX) : TS := (t_Shelf_let_go_1 K W)
theorem pure_Shelf_let_go {K : Fr} (T : TxC K) (vs : List V) (H : Hp) (Q : VK) (E : XK) (h : sp_Shelf_let_go K vs H Q E) : t_Shelf_let_go K (WT E) { nx := λ _ H' => Q .non H', rt := Q } (L2.start ["self", "seal"] vs) H := by
 obtain ⟨Rs, p_a_self, a_self, a_seal, X, P, rfl, S0, hf, hX, hk⟩ := h
 show t_Shelf_let_go K (WT E) _ [some (V.ref p_a_self), some (V.int a_seal)] H
 refine g_seq (g_if (g_not (g_B (g_call (g_cons (g_var rfl (g_nil (⟨_, _, _, rfl, S0, hf, λ x1 H3 hf (S2 : M (_ :: Rs) H3) => ?_⟩))))))))
 refine g_bl (v_iff hf (λ _ hf => ?_) (λ _ hf => ?_))
 ·
  refine g_rz (g_c ?_)
  have S5 : M (da K (V.int 0) (eI 0) :: _ :: Rs) H3 := M.addA S2 (EnF.all λ _ => .int (K := K) 0)
  refine v_rz S5 λ d7 H9 (S8 : M (pt d7 (.xd [("at", (V.int 0))]) :: oo2 Rs) H9) => ?_
  exact hX (Ex.Wrong (eI 0)) _ d7 (V.int 0) _ hf (M.pk S8 3 [0, 1, 2] rfl)
 ·
  refine g_next (g_nx (g_seq (g_drop (g_meth (g_var rfl (v_R_Shelf S2 0 rfl (λ _ _ _ => rfl) (g_cons (g_var rfl (g_nil (⟨_, _, _, _, _, _, rfl, (M.at S2 0 rfl), hf, λ x15 d16 v17 H19 hf (S18 : M (pt d16 (.xd [(x15.fld, v17)]) :: da K v17 x15.val :: _ :: Rs) H19) => ?_, λ _u11 H13 hf (S12 : M (_ :: Rs) H13) => ?_⟩))))))))))
  ·
   exact hX x15 _ d16 v17 _ hf (M.pk S18 3 [0, 1, 2] rfl)
  refine g_nx ?_
  show (_ : TS) _ [some (V.ref p_a_self), some (V.int a_seal)] _
  obtain ⟨dx23, p24, p26, (S22 : M (pt p_a_self (.ins (He.ga K "Shelf") dx23 [("room", (V.int a_self.1)), ("counts", (V.ref p24)), ("bodies", (V.ref p26))]) :: pt dx23 (.own p_a_self) :: adR K iI eI p24 a_self.2.1 :: adR K iI (eO (eL eI)) p26 a_self.2.2 :: Rs) H13)⟩ := R_Shelf_open (S12.at 0 rfl)
  refine g_seq (g_augS (g_fld (g_var rfl (v_fld (S22.got 0 rfl) T.cl_Shelf T.na_Shelf_counts rfl (g_var rfl ?_)))))
  obtain ⟨x30, h31, hf⟩ := hf
  refine d_gixI (M.dvO S22 2 rfl) h31 (g_c (v_isub ?_))
  obtain ⟨h32, hf⟩ := hf
  refine v_putdI (e := eI) (x := (x30 - 1)) S22 2 rfl (EnF.all λ _ => .int _) h32 λ H34 (S33 : M (adR K iI eI p24 (pk a_self.2.1 a_seal (x30 - 1)) :: oo3 Rs) H34) => ?_
  refine g_nx ?_
  show (_ : TS) _ [some (V.ref p_a_self), some (V.int a_seal)] _
  refine g_seq (g_if (g_test (g_op (g_op (g_fld (g_var rfl (v_fld (S33.got 1 rfl) T.cl_Shelf T.na_Shelf_counts rfl (g_var rfl ?_))))))))
  obtain ⟨x36, h37, hf⟩ := hf
  refine d_ixI (M.dvO S33 0 rfl) h37 λ u38 S39 => ?_
  obtain rfl := (S39.gotA 0 rfl).intV
  have S40 := S39.tl
  refine g_c (v_gt (g_bl (v_iff hf (λ _ hf => ?_) (λ _ hf => ?_))))
  ·
   refine g_ret (g_c ?_)
   have S41 : M (R_Shelf K p_a_self (a_self.1, (pk a_self.2.1 a_seal (x30 - 1)), a_self.2.2) :: Rs) H34 := R_Shelf_close (M.sub (.cons 1 rfl (.cons 1 rfl (.cons 0 rfl (.cons 0 rfl (.refl _))))) S40)
   exact hk _ _ _ hf (M.pk S41 1 [0] rfl)
  ·
   refine g_next (g_nx (g_seq (g_drop (g_dpop (g_fld (g_var rfl (v_fld (S40.got 1 rfl) T.cl_Shelf T.na_Shelf_counts rfl (v_dpopA S40 0 rfl (g_var rfl ?_)))))))))
   obtain ⟨x42, h43, hf⟩ := hf
   refine v_popAI S40 0 rfl h43 λ u44 H46 (S45 : M (da K u44 (eI x42) :: adR K iI eI p24 (dk (pk a_self.2.1 a_seal (x30 - 1)) a_seal) :: oo3 Rs) H46) => ?_
   obtain rfl := (S45.gotA 0 rfl).intV
   have S49 := S45.tl
   refine g_nx ?_
   show (_ : TS) _ [some (V.ref p_a_self), some (V.int a_seal)] _
   refine g_seq (g_drop (g_dpop (g_fld (g_var rfl (v_fld (S49.got 1 rfl) T.cl_Shelf T.na_Shelf_bodies rfl (v_dpopA S49 3 rfl (g_var rfl ?_)))))))
   obtain ⟨x50, h51, hf⟩ := hf
   refine v_popAI S49 3 rfl h51 λ u52 H54 (S53 : M (da K u52 ((eO (eL eI)) x50) :: adR K iI (eO (eL eI)) p26 (dk a_self.2.2 a_seal) :: oo3 Rs) H54) => ?_
   refine g_nx ?_
   show (_ : TS) _ [some (V.ref p_a_self), some (V.int a_seal)] _
   have S57 : M (oo4 Rs) H54 := (M.drp S53 0)
   refine g_ret (g_c ?_)
   have S58 : M (R_Shelf K p_a_self (a_self.1, (dk (pk a_self.2.1 a_seal (x30 - 1)) a_seal), (dk a_self.2.2 a_seal)) :: Rs) H54 := R_Shelf_close (M.pk S57 4 [2, 3, 1, 0] rfl)
   exact hk _ _ _ hf (M.pk S58 1 [0] rfl)
def p_Shelf_harm (a_self : (Int × (List (Int × Int)) × (List (Int × (Option (List Int)))))) (a_seal : Int) (a_signs : (List Int)) (X : Ex -> (Int × (List (Int × Int)) × (List (Int × (Option (List Int))))) -> Prop) (P : (Int × (List (Int × Int)) × (List (Int × (Option (List Int))))) -> Prop) : Prop := p_is_seal a_seal λ x1 => if (!x1) = true then (X (Ex.Wrong (eI 0)) a_self) else (p_are_signs a_signs 0 16 λ x11 => if (!x11) = true then (X (Ex.Wrong (eI 1)) a_self) else (p_Shelf_need_kept a_self a_seal (λ x25 => X x25 a_self) λ _u21 => (a_self.2.2).length < 100000 /\ P (a_self.1, a_self.2.1, (pk a_self.2.2 a_seal (some a_signs)))))
def sp_Shelf_harm (K : Fr) : Sp := λ vs H Q E => ∃ (Rs : List Res) (p_a_self : Addr) (a_self : (Int × (List (Int × Int)) × (List (Int × (Option (List Int)))))) (a_seal : Int) (R_a_signs : Res) (v_a_signs : V) (a_signs : (List Int)) (X : Ex -> (Int × (List (Int × Int)) × (List (Int × (Option (List Int))))) -> Prop) (P : (Int × (List (Int × Int)) × (List (Int × (Option (List Int))))) -> Prop), vs = [(V.ref p_a_self), (V.int a_seal), v_a_signs] /\ Brw R_a_signs K v_a_signs ((eL eI) a_signs) /\ M (R_Shelf K p_a_self a_self :: R_a_signs :: Rs) H /\ p_Shelf_harm a_self a_seal a_signs X P /\ (∀ (x : Ex) (m0 : (Int × (List (Int × Int)) × (List (Int × (Option (List Int)))))) (d : Addr) (v : V) H', X x m0 -> M (pt d (.xd [(x.fld, v)]) :: da K v x.val :: R_Shelf K p_a_self m0 :: R_a_signs :: Rs) H' -> E (.ref (He.ga K x.cls)) (some d) H') /\ ∀ (m0 : (Int × (List (Int × Int)) × (List (Int × (Option (List Int)))))) H', P m0 -> M (R_Shelf K p_a_self m0 :: R_a_signs :: Rs) H' -> Q .non H'
theorem len_Shelf_harm {K : Fr} (vs : List V) (H : Hp) (Q : VK) (E : XK) (h : sp_Shelf_harm K vs H Q E) : vs.length = 3 := by
 obtain ⟨Rs, p_a_self, a_self, a_seal, R_a_signs, v_a_signs, a_signs, X, P, rfl, _⟩ := h
 rfl
abbrev t_Shelf_harm_5 (K : Fr) (W : WX) : TS := (tSeq (tDrop (tMethW W (He.ga K "Shelf") "need_kept" (sp_Shelf_need_kept K) [] (tVar 0) (tCons (tVar 1) tNil)))
 (tAsg (tCB (rListOf K) (tCons (tVar 2) tNil)) (gSub (tFld K (tVar 0) "bodies") (tVar 1) uSet)))
abbrev t_Shelf_harm_3 (K : Fr) (W : WX) : TS := (tSeq (tIfS (tNot (tB (tCall (sp_are_signs K) [] E0 (tCons (tVar 2) (tCons (tC (.int 0)) (tCons (tC (.int 16)) tNil)))))) (tRz W (He.ga K "Wrong") "at" (tC (.int 1))) tNext)
 (t_Shelf_harm_5 K W))
abbrev t_Shelf_harm_1 (K : Fr) (W : WX) : TS := (tSeq (tIfS (tNot (tB (tCall (sp_is_seal K) [] E0 (tCons (tVar 1) tNil)))) (tRz W (He.ga K "Wrong") "at" (tC (.int 0))) tNext)
 (t_Shelf_harm_3 K W))
abbrev t_Shelf_harm (K : Fr) (W : WX) : TS := (t_Shelf_harm_1 K W)
theorem pure_Shelf_harm {K : Fr} (T : TxC K) (vs : List V) (H : Hp) (Q : VK) (E : XK) (h : sp_Shelf_harm K vs H Q E) : t_Shelf_harm K (WT E) { nx := λ _ H' => Q .non H', rt := Q } (L2.start ["self", "seal", "signs"] vs) H := by
 obtain ⟨Rs, p_a_self, a_self, a_seal, R_a_signs, v_a_signs, a_signs, X, P, rfl, h_a_signs, S0, hf, hX, hk⟩ := h
 show t_Shelf_harm K (WT E) _ [some (V.ref p_a_self), some (V.int a_seal), some v_a_signs] H
 refine g_seq (g_if (g_not (g_B (g_call (g_cons (g_var rfl (g_nil (⟨_, _, _, rfl, S0, hf, λ x1 H3 hf (S2 : M (oo2 Rs) H3) => ?_⟩))))))))
 refine g_bl (v_iff hf (λ _ hf => ?_) (λ _ hf => ?_))
 ·
  refine g_rz (g_c ?_)
  have S5 : M (da K (V.int 0) (eI 0) :: oo2 Rs) H3 := M.addA S2 (EnF.all λ _ => .int (K := K) 0)
  refine v_rz S5 λ d7 H9 (S8 : M (pt d7 (.xd [("at", (V.int 0))]) :: oo3 Rs) H9) => ?_
  exact hX (Ex.Wrong (eI 0)) _ d7 (V.int 0) _ hf (M.pk S8 4 [0, 1, 2, 3] rfl)
 ·
  refine g_next (g_nx (g_seq (g_if (g_not (g_B (g_call (g_cons (g_var rfl (g_cons (g_c (g_cons (g_c (g_nil (⟨_, _, _, _, _, _, _, rfl, h_a_signs, (M.at S2 1 rfl), hf, λ x11 H13 hf (S12 : M (oo2 Rs) H13) => ?_⟩))))))))))))))
  refine g_bl (v_iff hf (λ _ hf => ?_) (λ _ hf => ?_))
  ·
   refine g_rz (g_c ?_)
   have S15 : M (da K (V.int 1) (eI 1) :: oo2 Rs) H13 := M.addA S12 (EnF.all λ _ => .int (K := K) 1)
   refine v_rz S15 λ d17 H19 (S18 : M (pt d17 (.xd [("at", (V.int 1))]) :: oo3 Rs) H19) => ?_
   exact hX (Ex.Wrong (eI 1)) _ d17 (V.int 1) _ hf (M.pk S18 4 [0, 1, 3, 2] rfl)
  ·
   refine g_next (g_nx (g_seq (g_drop (g_meth (g_var rfl (v_R_Shelf S12 1 rfl (λ _ _ _ => rfl) (g_cons (g_var rfl (g_nil (⟨_, _, _, _, _, _, rfl, (M.at S12 1 rfl), hf, λ x25 d26 v27 H29 hf (S28 : M (pt d26 (.xd [(x25.fld, v27)]) :: da K v27 x25.val :: oo2 Rs) H29) => ?_, λ _u21 H23 hf (S22 : M (oo2 Rs) H23) => ?_⟩))))))))))
   ·
    exact hX x25 _ d26 v27 _ hf (M.pk S28 4 [0, 1, 2, 3] rfl)
   refine g_nx ?_
   show (_ : TS) _ [some (V.ref p_a_self), some (V.int a_seal), some v_a_signs] _
   refine g_asgX (g_cb (g_cons (g_var rfl (g_nil (v_liN flI S22 (h_a_signs _ _ (M.at S22 1 rfl)) λ p32 H34 (S33 : M (acR K p32 (a_signs.map eI) :: oo2 Rs) H34) => ?_)))))
   have S36 : M (da K (V.ref p32) ((eL eI) a_signs) :: oo2 Rs) H34 := acR_fixL S33
   obtain ⟨dx39, p40, p42, (S38 : M (pt p_a_self (.ins (He.ga K "Shelf") dx39 [("room", (V.int a_self.1)), ("counts", (V.ref p40)), ("bodies", (V.ref p42))]) :: pt dx39 (.own p_a_self) :: adR K iI eI p40 a_self.2.1 :: adR K iI (eO (eL eI)) p42 a_self.2.2 :: oo2 Rs) H34)⟩ := R_Shelf_open (S36.at 1 rfl)
   refine g_sub (g_fld (g_var rfl (v_fld (S38.got 0 rfl) T.cl_Shelf T.na_Shelf_bodies rfl (g_var rfl ?_))))
   obtain ⟨h46, hf⟩ := hf
   refine v_putdI (e := (eO (eL eI))) (x := (some a_signs)) S38 3 rfl (EnF.at 4 rfl) h46 λ H48 (S47 : M (adR K iI (eO (eL eI)) p42 (pk a_self.2.2 a_seal (some a_signs)) :: oo5 Rs) H48) => ?_
   have S50 : M (R_Shelf K p_a_self (a_self.1, a_self.2.1, (pk a_self.2.2 a_seal (some a_signs))) :: oo2 Rs) H48 := R_Shelf_close (M.pk S47 6 [1, 2, 3, 0, 4, 5] rfl)
   exact hk _ _ hf (M.pk S50 3 [0, 2] rfl)
def p_Shelf_lose (a_self : (Int × (List (Int × Int)) × (List (Int × (Option (List Int)))))) (a_seal : Int) (X : Ex -> (Int × (List (Int × Int)) × (List (Int × (Option (List Int))))) -> Prop) (P : (Int × (List (Int × Int)) × (List (Int × (Option (List Int))))) -> Prop) : Prop := p_is_seal a_seal λ x1 => if (!x1) = true then (X (Ex.Wrong (eI 0)) a_self) else (p_Shelf_need_kept a_self a_seal (λ x15 => X x15 a_self) λ _u11 => (a_self.2.2).length < 100000 /\ P (a_self.1, a_self.2.1, (pk a_self.2.2 a_seal (none : (Option (List Int))))))
def sp_Shelf_lose (K : Fr) : Sp := λ vs H Q E => ∃ (Rs : List Res) (p_a_self : Addr) (a_self : (Int × (List (Int × Int)) × (List (Int × (Option (List Int)))))) (a_seal : Int) (X : Ex -> (Int × (List (Int × Int)) × (List (Int × (Option (List Int))))) -> Prop) (P : (Int × (List (Int × Int)) × (List (Int × (Option (List Int))))) -> Prop), vs = [(V.ref p_a_self), (V.int a_seal)] /\ M (R_Shelf K p_a_self a_self :: Rs) H /\ p_Shelf_lose a_self a_seal X P /\ (∀ (x : Ex) (m0 : (Int × (List (Int × Int)) × (List (Int × (Option (List Int)))))) (d : Addr) (v : V) H', X x m0 -> M (pt d (.xd [(x.fld, v)]) :: da K v x.val :: R_Shelf K p_a_self m0 :: Rs) H' -> E (.ref (He.ga K x.cls)) (some d) H') /\ ∀ (m0 : (Int × (List (Int × Int)) × (List (Int × (Option (List Int)))))) H', P m0 -> M (R_Shelf K p_a_self m0 :: Rs) H' -> Q .non H'
theorem len_Shelf_lose {K : Fr} (vs : List V) (H : Hp) (Q : VK) (E : XK) (h : sp_Shelf_lose K vs H Q E) : vs.length = 2 := by
 obtain ⟨Rs, p_a_self, a_self, a_seal, X, P, rfl, _⟩ := h
 rfl
abbrev t_Shelf_lose_3 (K : Fr) (W : WX) : TS := (tSeq (tDrop (tMethW W (He.ga K "Shelf") "need_kept" (sp_Shelf_need_kept K) [] (tVar 0) (tCons (tVar 1) tNil)))
 (tAsg (tC .non) (gSub (tFld K (tVar 0) "bodies") (tVar 1) uSet)))
abbrev t_Shelf_lose_1 (K : Fr) (W : WX) : TS := (tSeq (tIfS (tNot (tB (tCall (sp_is_seal K) [] E0 (tCons (tVar 1) tNil)))) (tRz W (He.ga K "Wrong") "at" (tC (.int 0))) tNext)
 (t_Shelf_lose_3 K W))
abbrev t_Shelf_lose (K : Fr) (W : WX) : TS := (t_Shelf_lose_1 K W)
theorem pure_Shelf_lose {K : Fr} (T : TxC K) (vs : List V) (H : Hp) (Q : VK) (E : XK) (h : sp_Shelf_lose K vs H Q E) : t_Shelf_lose K (WT E) { nx := λ _ H' => Q .non H', rt := Q } (L2.start ["self", "seal"] vs) H := by
 obtain ⟨Rs, p_a_self, a_self, a_seal, X, P, rfl, S0, hf, hX, hk⟩ := h
 show t_Shelf_lose K (WT E) _ [some (V.ref p_a_self), some (V.int a_seal)] H
 refine g_seq (g_if (g_not (g_B (g_call (g_cons (g_var rfl (g_nil (⟨_, _, _, rfl, S0, hf, λ x1 H3 hf (S2 : M (_ :: Rs) H3) => ?_⟩))))))))
 refine g_bl (v_iff hf (λ _ hf => ?_) (λ _ hf => ?_))
 ·
  refine g_rz (g_c ?_)
  have S5 : M (da K (V.int 0) (eI 0) :: _ :: Rs) H3 := M.addA S2 (EnF.all λ _ => .int (K := K) 0)
  refine v_rz S5 λ d7 H9 (S8 : M (pt d7 (.xd [("at", (V.int 0))]) :: oo2 Rs) H9) => ?_
  exact hX (Ex.Wrong (eI 0)) _ d7 (V.int 0) _ hf (M.pk S8 3 [0, 1, 2] rfl)
 ·
  refine g_next (g_nx (g_seq (g_drop (g_meth (g_var rfl (v_R_Shelf S2 0 rfl (λ _ _ _ => rfl) (g_cons (g_var rfl (g_nil (⟨_, _, _, _, _, _, rfl, (M.at S2 0 rfl), hf, λ x15 d16 v17 H19 hf (S18 : M (pt d16 (.xd [(x15.fld, v17)]) :: da K v17 x15.val :: _ :: Rs) H19) => ?_, λ _u11 H13 hf (S12 : M (_ :: Rs) H13) => ?_⟩))))))))))
  ·
   exact hX x15 _ d16 v17 _ hf (M.pk S18 3 [0, 1, 2] rfl)
  refine g_nx ?_
  show (_ : TS) _ [some (V.ref p_a_self), some (V.int a_seal)] _
  obtain ⟨dx23, p24, p26, (S22 : M (pt p_a_self (.ins (He.ga K "Shelf") dx23 [("room", (V.int a_self.1)), ("counts", (V.ref p24)), ("bodies", (V.ref p26))]) :: pt dx23 (.own p_a_self) :: adR K iI eI p24 a_self.2.1 :: adR K iI (eO (eL eI)) p26 a_self.2.2 :: Rs) H13)⟩ := R_Shelf_open (S12.at 0 rfl)
  refine g_asgX (g_c (g_sub (g_fld (g_var rfl (v_fld (S22.got 0 rfl) T.cl_Shelf T.na_Shelf_bodies rfl (g_var rfl ?_))))))
  have S30 : M (da K V.non ((eO (eL eI)) (none : (Option (List Int)))) :: oo4 Rs) H13 := M.addA S22 (EnF.all λ _ => .non)
  obtain ⟨h32, hf⟩ := hf
  refine v_putdI (e := (eO (eL eI))) (x := (none : (Option (List Int)))) S30 4 rfl (EnF.at 0 rfl) h32 λ H34 (S33 : M (adR K iI (eO (eL eI)) p26 (pk a_self.2.2 a_seal (none : (Option (List Int)))) :: oo4 Rs) H34) => ?_
  have S36 : M (R_Shelf K p_a_self (a_self.1, a_self.2.1, (pk a_self.2.2 a_seal (none : (Option (List Int))))) :: _ :: Rs) H34 := R_Shelf_close (M.pk S33 5 [2, 3, 4, 0, 1] rfl)
  exact hk _ _ hf (M.pk S36 2 [0] rfl)
def p_Shelf_heal (a_self : (Int × (List (Int × Int)) × (List (Int × (Option (List Int)))))) (a_seal : Int) (a_signs : (List Int)) (X : Ex -> (Int × (List (Int × Int)) × (List (Int × (Option (List Int))))) -> Prop) (P : (Int × (List (Int × Int)) × (List (Int × (Option (List Int))))) -> Prop) : Prop := p_is_seal a_seal λ x1 => if (!x1) = true then (X (Ex.Wrong (eI 0)) a_self) else (p_are_signs a_signs 1 16 λ x11 => if (!x11) = true then (X (Ex.Wrong (eI 1)) a_self) else (p_Shelf_need_kept a_self a_seal (λ x25 => X x25 a_self) λ _u21 => p_seal_of a_signs λ x32 => if (!decide (x32 = a_seal)) = true then (X (Ex.Unlike (eI a_seal)) a_self) else ((a_self.2.2).length < 100000 /\ P (a_self.1, a_self.2.1, (pk a_self.2.2 a_seal (some a_signs))))))
def sp_Shelf_heal (K : Fr) : Sp := λ vs H Q E => ∃ (Rs : List Res) (p_a_self : Addr) (a_self : (Int × (List (Int × Int)) × (List (Int × (Option (List Int)))))) (a_seal : Int) (R_a_signs : Res) (v_a_signs : V) (a_signs : (List Int)) (X : Ex -> (Int × (List (Int × Int)) × (List (Int × (Option (List Int))))) -> Prop) (P : (Int × (List (Int × Int)) × (List (Int × (Option (List Int))))) -> Prop), vs = [(V.ref p_a_self), (V.int a_seal), v_a_signs] /\ Brw R_a_signs K v_a_signs ((eL eI) a_signs) /\ M (R_Shelf K p_a_self a_self :: R_a_signs :: Rs) H /\ p_Shelf_heal a_self a_seal a_signs X P /\ (∀ (x : Ex) (m0 : (Int × (List (Int × Int)) × (List (Int × (Option (List Int)))))) (d : Addr) (v : V) H', X x m0 -> M (pt d (.xd [(x.fld, v)]) :: da K v x.val :: R_Shelf K p_a_self m0 :: R_a_signs :: Rs) H' -> E (.ref (He.ga K x.cls)) (some d) H') /\ ∀ (m0 : (Int × (List (Int × Int)) × (List (Int × (Option (List Int)))))) H', P m0 -> M (R_Shelf K p_a_self m0 :: R_a_signs :: Rs) H' -> Q .non H'
theorem len_Shelf_heal {K : Fr} (vs : List V) (H : Hp) (Q : VK) (E : XK) (h : sp_Shelf_heal K vs H Q E) : vs.length = 3 := by
 obtain ⟨Rs, p_a_self, a_self, a_seal, R_a_signs, v_a_signs, a_signs, X, P, rfl, _⟩ := h
 rfl
abbrev t_Shelf_heal_6 (K : Fr) (W : WX) : TS := (tSeq (tIfS (tTest (tOp (uNe K) (tCall (sp_seal_of K) [] E0 (tCons (tVar 2) tNil)) (tVar 1))) (tRz W (He.ga K "Unlike") "seal" (tVar 1)) tNext)
 (tAsg (tCB (rListOf K) (tCons (tVar 2) tNil)) (gSub (tFld K (tVar 0) "bodies") (tVar 1) uSet)))
abbrev t_Shelf_heal_5 (K : Fr) (W : WX) : TS := (tSeq (tDrop (tMethW W (He.ga K "Shelf") "need_kept" (sp_Shelf_need_kept K) [] (tVar 0) (tCons (tVar 1) tNil)))
 (t_Shelf_heal_6 K W))
abbrev t_Shelf_heal_3 (K : Fr) (W : WX) : TS := (tSeq (tIfS (tNot (tB (tCall (sp_are_signs K) [] E0 (tCons (tVar 2) (tCons (tC (.int 1)) (tCons (tC (.int 16)) tNil)))))) (tRz W (He.ga K "Wrong") "at" (tC (.int 1))) tNext)
 (t_Shelf_heal_5 K W))
abbrev t_Shelf_heal_1 (K : Fr) (W : WX) : TS := (tSeq (tIfS (tNot (tB (tCall (sp_is_seal K) [] E0 (tCons (tVar 1) tNil)))) (tRz W (He.ga K "Wrong") "at" (tC (.int 0))) tNext)
 (t_Shelf_heal_3 K W))
abbrev t_Shelf_heal (K : Fr) (W : WX) : TS := (t_Shelf_heal_1 K W)
theorem pure_Shelf_heal {K : Fr} (T : TxC K) (vs : List V) (H : Hp) (Q : VK) (E : XK) (h : sp_Shelf_heal K vs H Q E) : t_Shelf_heal K (WT E) { nx := λ _ H' => Q .non H', rt := Q } (L2.start ["self", "seal", "signs"] vs) H := by
 obtain ⟨Rs, p_a_self, a_self, a_seal, R_a_signs, v_a_signs, a_signs, X, P, rfl, h_a_signs, S0, hf, hX, hk⟩ := h
 show t_Shelf_heal K (WT E) _ [some (V.ref p_a_self), some (V.int a_seal), some v_a_signs] H
 refine g_seq (g_if (g_not (g_B (g_call (g_cons (g_var rfl (g_nil (⟨_, _, _, rfl, S0, hf, λ x1 H3 hf (S2 : M (oo2 Rs) H3) => ?_⟩))))))))
 refine g_bl (v_iff hf (λ _ hf => ?_) (λ _ hf => ?_))
 ·
  refine g_rz (g_c ?_)
  have S5 : M (da K (V.int 0) (eI 0) :: oo2 Rs) H3 := M.addA S2 (EnF.all λ _ => .int (K := K) 0)
  refine v_rz S5 λ d7 H9 (S8 : M (pt d7 (.xd [("at", (V.int 0))]) :: oo3 Rs) H9) => ?_
  exact hX (Ex.Wrong (eI 0)) _ d7 (V.int 0) _ hf (M.pk S8 4 [0, 1, 2, 3] rfl)
 ·
  refine g_next (g_nx (g_seq (g_if (g_not (g_B (g_call (g_cons (g_var rfl (g_cons (g_c (g_cons (g_c (g_nil (⟨_, _, _, _, _, _, _, rfl, h_a_signs, (M.at S2 1 rfl), hf, λ x11 H13 hf (S12 : M (oo2 Rs) H13) => ?_⟩))))))))))))))
  refine g_bl (v_iff hf (λ _ hf => ?_) (λ _ hf => ?_))
  ·
   refine g_rz (g_c ?_)
   have S15 : M (da K (V.int 1) (eI 1) :: oo2 Rs) H13 := M.addA S12 (EnF.all λ _ => .int (K := K) 1)
   refine v_rz S15 λ d17 H19 (S18 : M (pt d17 (.xd [("at", (V.int 1))]) :: oo3 Rs) H19) => ?_
   exact hX (Ex.Wrong (eI 1)) _ d17 (V.int 1) _ hf (M.pk S18 4 [0, 1, 3, 2] rfl)
  ·
   refine g_next (g_nx (g_seq (g_drop (g_meth (g_var rfl (v_R_Shelf S12 1 rfl (λ _ _ _ => rfl) (g_cons (g_var rfl (g_nil (⟨_, _, _, _, _, _, rfl, (M.at S12 1 rfl), hf, λ x25 d26 v27 H29 hf (S28 : M (pt d26 (.xd [(x25.fld, v27)]) :: da K v27 x25.val :: oo2 Rs) H29) => ?_, λ _u21 H23 hf (S22 : M (oo2 Rs) H23) => ?_⟩))))))))))
   ·
    exact hX x25 _ d26 v27 _ hf (M.pk S28 4 [0, 1, 2, 3] rfl)
   refine g_nx ?_
   show (_ : TS) _ [some (V.ref p_a_self), some (V.int a_seal), some v_a_signs] _
   refine g_seq (g_if (g_test (g_op (g_call (g_cons (g_var rfl (g_nil (⟨_, _, _, _, _, rfl, h_a_signs, (M.at S22 1 rfl), hf, λ x32 H34 hf (S33 : M (oo2 Rs) H34) => ?_⟩))))))))
   refine g_var rfl (v_neI (g_bl (v_iff hf (λ _ hf => ?_) (λ _ hf => ?_))))
   ·
    refine g_rz (g_var rfl ?_)
    have S36 : M (da K (V.int a_seal) (eI a_seal) :: oo2 Rs) H34 := M.addA S33 (EnF.all λ _ => .int (K := K) a_seal)
    refine v_rz S36 λ d38 H40 (S39 : M (pt d38 (.xd [("seal", (V.int a_seal))]) :: oo3 Rs) H40) => ?_
    exact hX (Ex.Unlike (eI a_seal)) _ d38 (V.int a_seal) _ hf (M.pk S39 4 [0, 1, 3, 2] rfl)
   ·
    refine g_next (g_nx (g_asgX (g_cb (g_cons (g_var rfl (g_nil (v_liN flI S33 (h_a_signs _ _ (M.at S33 0 rfl)) λ p42 H44 (S43 : M (acR K p42 (a_signs.map eI) :: oo2 Rs) H44) => ?_)))))))
    have S46 : M (da K (V.ref p42) ((eL eI) a_signs) :: oo2 Rs) H44 := acR_fixL S43
    obtain ⟨dx49, p50, p52, (S48 : M (pt p_a_self (.ins (He.ga K "Shelf") dx49 [("room", (V.int a_self.1)), ("counts", (V.ref p50)), ("bodies", (V.ref p52))]) :: pt dx49 (.own p_a_self) :: adR K iI eI p50 a_self.2.1 :: adR K iI (eO (eL eI)) p52 a_self.2.2 :: oo2 Rs) H44)⟩ := R_Shelf_open (S46.at 2 rfl)
    refine g_sub (g_fld (g_var rfl (v_fld (S48.got 0 rfl) T.cl_Shelf T.na_Shelf_bodies rfl (g_var rfl ?_))))
    obtain ⟨h56, hf⟩ := hf
    refine v_putdI (e := (eO (eL eI))) (x := (some a_signs)) S48 3 rfl (EnF.at 4 rfl) h56 λ H58 (S57 : M (adR K iI (eO (eL eI)) p52 (pk a_self.2.2 a_seal (some a_signs)) :: oo5 Rs) H58) => ?_
    have S60 : M (R_Shelf K p_a_self (a_self.1, a_self.2.1, (pk a_self.2.2 a_seal (some a_signs))) :: oo2 Rs) H58 := R_Shelf_close (M.pk S57 6 [1, 2, 3, 0, 4, 5] rfl)
    exact hk _ _ hf (M.pk S60 3 [0, 2] rfl)
def p_Shelf_held (a_self : (Int × (List (Int × Int)) × (List (Int × (Option (List Int)))))) (a_seal : Int) (X : Ex -> Prop) (P : Int -> Prop) : Prop := p_is_seal a_seal λ x1 => if (!x1) = true then (X (Ex.Wrong (eI 0))) else (p_Shelf_need_kept a_self a_seal (λ x15 => X x15) λ _u11 => ∃ x30, lk a_self.2.1 a_seal = some x30 /\ P x30)
def sp_Shelf_held (K : Fr) : Sp := λ vs H Q E => ∃ (Rs : List Res) (p_a_self : Addr) (a_self : (Int × (List (Int × Int)) × (List (Int × (Option (List Int)))))) (a_seal : Int) (X : Ex -> Prop) (P : Int -> Prop), vs = [(V.ref p_a_self), (V.int a_seal)] /\ M (R_Shelf K p_a_self a_self :: Rs) H /\ p_Shelf_held a_self a_seal X P /\ (∀ (x : Ex) (d : Addr) (v : V) H', X x -> M (pt d (.xd [(x.fld, v)]) :: da K v x.val :: R_Shelf K p_a_self a_self :: Rs) H' -> E (.ref (He.ga K x.cls)) (some d) H') /\ ∀ (r : Int) H', P r -> M (R_Shelf K p_a_self a_self :: Rs) H' -> Q (V.int r) H'
theorem len_Shelf_held {K : Fr} (vs : List V) (H : Hp) (Q : VK) (E : XK) (h : sp_Shelf_held K vs H Q E) : vs.length = 2 := by
 obtain ⟨Rs, p_a_self, a_self, a_seal, X, P, rfl, _⟩ := h
 rfl
abbrev t_Shelf_held_3 (K : Fr) (W : WX) : TS := (tSeq (tDrop (tMethW W (He.ga K "Shelf") "need_kept" (sp_Shelf_need_kept K) [] (tVar 0) (tCons (tVar 1) tNil)))
 (tRet (tOp rIxK (tFld K (tVar 0) "counts") (tVar 1))))
abbrev t_Shelf_held_1 (K : Fr) (W : WX) : TS := (tSeq (tIfS (tNot (tB (tCall (sp_is_seal K) [] E0 (tCons (tVar 1) tNil)))) (tRz W (He.ga K "Wrong") "at" (tC (.int 0))) tNext)
 (t_Shelf_held_3 K W))
abbrev t_Shelf_held (K : Fr) (W : WX) : TS := (t_Shelf_held_1 K W)
theorem pure_Shelf_held {K : Fr} (T : TxC K) (vs : List V) (H : Hp) (Q : VK) (E : XK) (h : sp_Shelf_held K vs H Q E) : t_Shelf_held K (WT E) { nx := λ _ H' => Q .non H', rt := Q } (L2.start ["self", "seal"] vs) H := by
 obtain ⟨Rs, p_a_self, a_self, a_seal, X, P, rfl, S0, hf, hX, hk⟩ := h
 show t_Shelf_held K (WT E) _ [some (V.ref p_a_self), some (V.int a_seal)] H
 refine g_seq (g_if (g_not (g_B (g_call (g_cons (g_var rfl (g_nil (⟨_, _, _, rfl, S0, hf, λ x1 H3 hf (S2 : M (_ :: Rs) H3) => ?_⟩))))))))
 refine g_bl (v_iff hf (λ _ hf => ?_) (λ _ hf => ?_))
 ·
  refine g_rz (g_c ?_)
  have S5 : M (da K (V.int 0) (eI 0) :: _ :: Rs) H3 := M.addA S2 (EnF.all λ _ => .int (K := K) 0)
  refine v_rz S5 λ d7 H9 (S8 : M (pt d7 (.xd [("at", (V.int 0))]) :: oo2 Rs) H9) => ?_
  exact hX (Ex.Wrong (eI 0)) d7 (V.int 0) _ hf (M.pk S8 3 [0, 1, 2] rfl)
 ·
  refine g_next (g_nx (g_seq (g_drop (g_meth (g_var rfl (v_R_Shelf S2 0 rfl (λ _ _ _ => rfl) (g_cons (g_var rfl (g_nil (⟨_, _, _, _, _, _, rfl, (M.at S2 0 rfl), hf, λ x15 d16 v17 H19 hf (S18 : M (pt d16 (.xd [(x15.fld, v17)]) :: da K v17 x15.val :: _ :: Rs) H19) => ?_, λ _u11 H13 hf (S12 : M (_ :: Rs) H13) => ?_⟩))))))))))
  ·
   exact hX x15 d16 v17 _ hf (M.pk S18 3 [0, 1, 2] rfl)
  refine g_nx ?_
  show (_ : TS) _ [some (V.ref p_a_self), some (V.int a_seal)] _
  obtain ⟨dx23, p24, p26, (S22 : M (pt p_a_self (.ins (He.ga K "Shelf") dx23 [("room", (V.int a_self.1)), ("counts", (V.ref p24)), ("bodies", (V.ref p26))]) :: pt dx23 (.own p_a_self) :: adR K iI eI p24 a_self.2.1 :: adR K iI (eO (eL eI)) p26 a_self.2.2 :: Rs) H13)⟩ := R_Shelf_open (S12.at 0 rfl)
  refine g_ret (g_op (g_fld (g_var rfl (v_fld (S22.got 0 rfl) T.cl_Shelf T.na_Shelf_counts rfl (g_var rfl ?_)))))
  obtain ⟨x30, h31, hf⟩ := hf
  refine d_ixI (M.dvO S22 2 rfl) h31 λ u32 S33 => ?_
  obtain rfl := (S33.gotA 0 rfl).intV
  have S34 := S33.tl
  have S35 : M (R_Shelf K p_a_self a_self :: Rs) H13 := R_Shelf_close (M.sub (.cons 0 rfl (.cons 0 rfl (.cons 0 rfl (.cons 0 rfl (.refl _))))) S34)
  exact hk _ _ hf (M.pk S35 1 [0] rfl)
def p_Shelf_is_sound (a_self : (Int × (List (Int × Int)) × (List (Int × (Option (List Int)))))) (a_seal : Int) (X : Ex -> Prop) (P : Bool -> Prop) : Prop := p_is_seal a_seal λ x1 => if (!x1) = true then (X (Ex.Wrong (eI 0))) else (p_Shelf_need_kept a_self a_seal (λ x15 => X x15) λ _u11 => p_Shelf_has_sound a_self a_seal λ x22 => P x22)
def sp_Shelf_is_sound (K : Fr) : Sp := λ vs H Q E => ∃ (Rs : List Res) (p_a_self : Addr) (a_self : (Int × (List (Int × Int)) × (List (Int × (Option (List Int)))))) (a_seal : Int) (X : Ex -> Prop) (P : Bool -> Prop), vs = [(V.ref p_a_self), (V.int a_seal)] /\ M (R_Shelf K p_a_self a_self :: Rs) H /\ p_Shelf_is_sound a_self a_seal X P /\ (∀ (x : Ex) (d : Addr) (v : V) H', X x -> M (pt d (.xd [(x.fld, v)]) :: da K v x.val :: R_Shelf K p_a_self a_self :: Rs) H' -> E (.ref (He.ga K x.cls)) (some d) H') /\ ∀ (r : Bool) H', P r -> M (R_Shelf K p_a_self a_self :: Rs) H' -> Q (V.bl r) H'
theorem len_Shelf_is_sound {K : Fr} (vs : List V) (H : Hp) (Q : VK) (E : XK) (h : sp_Shelf_is_sound K vs H Q E) : vs.length = 2 := by
 obtain ⟨Rs, p_a_self, a_self, a_seal, X, P, rfl, _⟩ := h
 rfl
abbrev t_Shelf_is_sound_3 (K : Fr) (W : WX) : TS := (tSeq (tDrop (tMethW W (He.ga K "Shelf") "need_kept" (sp_Shelf_need_kept K) [] (tVar 0) (tCons (tVar 1) tNil)))
 (tRet (tMethW W0 (He.ga K "Shelf") "has_sound" (sp_Shelf_has_sound K) [] (tVar 0) (tCons (tVar 1) tNil))))
abbrev t_Shelf_is_sound_1 (K : Fr) (W : WX) : TS := (tSeq (tIfS (tNot (tB (tCall (sp_is_seal K) [] E0 (tCons (tVar 1) tNil)))) (tRz W (He.ga K "Wrong") "at" (tC (.int 0))) tNext)
 (t_Shelf_is_sound_3 K W))
abbrev t_Shelf_is_sound (K : Fr) (W : WX) : TS := (t_Shelf_is_sound_1 K W)
theorem pure_Shelf_is_sound {K : Fr} (T : TxC K) (vs : List V) (H : Hp) (Q : VK) (E : XK) (h : sp_Shelf_is_sound K vs H Q E) : t_Shelf_is_sound K (WT E) { nx := λ _ H' => Q .non H', rt := Q } (L2.start ["self", "seal"] vs) H := by
 obtain ⟨Rs, p_a_self, a_self, a_seal, X, P, rfl, S0, hf, hX, hk⟩ := h
 show t_Shelf_is_sound K (WT E) _ [some (V.ref p_a_self), some (V.int a_seal)] H
 refine g_seq (g_if (g_not (g_B (g_call (g_cons (g_var rfl (g_nil (⟨_, _, _, rfl, S0, hf, λ x1 H3 hf (S2 : M (_ :: Rs) H3) => ?_⟩))))))))
 refine g_bl (v_iff hf (λ _ hf => ?_) (λ _ hf => ?_))
 ·
  refine g_rz (g_c ?_)
  have S5 : M (da K (V.int 0) (eI 0) :: _ :: Rs) H3 := M.addA S2 (EnF.all λ _ => .int (K := K) 0)
  refine v_rz S5 λ d7 H9 (S8 : M (pt d7 (.xd [("at", (V.int 0))]) :: oo2 Rs) H9) => ?_
  exact hX (Ex.Wrong (eI 0)) d7 (V.int 0) _ hf (M.pk S8 3 [0, 1, 2] rfl)
 ·
  refine g_next (g_nx (g_seq (g_drop (g_meth (g_var rfl (v_R_Shelf S2 0 rfl (λ _ _ _ => rfl) (g_cons (g_var rfl (g_nil (⟨_, _, _, _, _, _, rfl, (M.at S2 0 rfl), hf, λ x15 d16 v17 H19 hf (S18 : M (pt d16 (.xd [(x15.fld, v17)]) :: da K v17 x15.val :: _ :: Rs) H19) => ?_, λ _u11 H13 hf (S12 : M (_ :: Rs) H13) => ?_⟩))))))))))
  ·
   exact hX x15 d16 v17 _ hf (M.pk S18 3 [0, 1, 2] rfl)
  refine g_nx ?_
  show (_ : TS) _ [some (V.ref p_a_self), some (V.int a_seal)] _
  refine g_ret (g_meth (g_var rfl (v_R_Shelf S12 0 rfl (λ _ _ _ => rfl) (g_cons (g_var rfl (g_nil (⟨_, _, _, _, _, rfl, (M.at S12 0 rfl), hf, λ x22 H24 hf (S23 : M (_ :: Rs) H24) => ?_⟩)))))))
  exact hk _ _ hf (M.pk S23 1 [0] rfl)
def p_Shelf_read (a_self : (Int × (List (Int × Int)) × (List (Int × (Option (List Int)))))) (a_seal : Int) (X : Ex -> Prop) (P : (List Int) -> Prop) : Prop := p_is_seal a_seal λ x1 => if (!x1) = true then (X (Ex.Wrong (eI 0))) else (p_Shelf_need_kept a_self a_seal (λ x15 => X x15) λ _u11 => p_Shelf_has_sound a_self a_seal λ x22 => if (!x22) = true then (X (Ex.Broken (eI a_seal))) else (∃ x40, lk a_self.2.2 a_seal = some x40 /\ ∃ x45 : (List Int), x40 = some x45 /\ P x45))
def sp_Shelf_read (K : Fr) : Sp := λ vs H Q E => ∃ (Rs : List Res) (p_a_self : Addr) (a_self : (Int × (List (Int × Int)) × (List (Int × (Option (List Int)))))) (a_seal : Int) (X : Ex -> Prop) (P : (List Int) -> Prop), vs = [(V.ref p_a_self), (V.int a_seal)] /\ M (R_Shelf K p_a_self a_self :: Rs) H /\ p_Shelf_read a_self a_seal X P /\ (∀ (x : Ex) (d : Addr) (v : V) H', X x -> M (pt d (.xd [(x.fld, v)]) :: da K v x.val :: R_Shelf K p_a_self a_self :: Rs) H' -> E (.ref (He.ga K x.cls)) (some d) H') /\ ∀ (r : (List Int)) (p : Addr) H', P r -> M (acR K p (r.map eI) :: R_Shelf K p_a_self a_self :: Rs) H' -> Q (.ref p) H'
theorem len_Shelf_read {K : Fr} (vs : List V) (H : Hp) (Q : VK) (E : XK) (h : sp_Shelf_read K vs H Q E) : vs.length = 2 := by
 obtain ⟨Rs, p_a_self, a_self, a_seal, X, P, rfl, _⟩ := h
 rfl
abbrev t_Shelf_read_4 (K : Fr) (W : WX) : TS := (tSeq (tIfS (tNot (tB (tMethW W0 (He.ga K "Shelf") "has_sound" (sp_Shelf_has_sound K) [] (tVar 0) (tCons (tVar 1) tNil)))) (tRz W (He.ga K "Broken") "seal" (tVar 1)) tNext)
 (tRet (tCB (rListOf K) (tCons (tOp rIxK (tFld K (tVar 0) "bodies") (tVar 1)) tNil))))
abbrev t_Shelf_read_3 (K : Fr) (W : WX) : TS := (tSeq (tDrop (tMethW W (He.ga K "Shelf") "need_kept" (sp_Shelf_need_kept K) [] (tVar 0) (tCons (tVar 1) tNil)))
 (t_Shelf_read_4 K W))
abbrev t_Shelf_read_1 (K : Fr) (W : WX) : TS := (tSeq (tIfS (tNot (tB (tCall (sp_is_seal K) [] E0 (tCons (tVar 1) tNil)))) (tRz W (He.ga K "Wrong") "at" (tC (.int 0))) tNext)
 (t_Shelf_read_3 K W))
abbrev t_Shelf_read (K : Fr) (W : WX) : TS := (t_Shelf_read_1 K W)
theorem pure_Shelf_read {K : Fr} (T : TxC K) (vs : List V) (H : Hp) (Q : VK) (E : XK) (h : sp_Shelf_read K vs H Q E) : t_Shelf_read K (WT E) { nx := λ _ H' => Q .non H', rt := Q } (L2.start ["self", "seal"] vs) H := by
 obtain ⟨Rs, p_a_self, a_self, a_seal, X, P, rfl, S0, hf, hX, hk⟩ := h
 show t_Shelf_read K (WT E) _ [some (V.ref p_a_self), some (V.int a_seal)] H
 refine g_seq (g_if (g_not (g_B (g_call (g_cons (g_var rfl (g_nil (⟨_, _, _, rfl, S0, hf, λ x1 H3 hf (S2 : M (_ :: Rs) H3) => ?_⟩))))))))
 refine g_bl (v_iff hf (λ _ hf => ?_) (λ _ hf => ?_))
 ·
  refine g_rz (g_c ?_)
  have S5 : M (da K (V.int 0) (eI 0) :: _ :: Rs) H3 := M.addA S2 (EnF.all λ _ => .int (K := K) 0)
  refine v_rz S5 λ d7 H9 (S8 : M (pt d7 (.xd [("at", (V.int 0))]) :: oo2 Rs) H9) => ?_
  exact hX (Ex.Wrong (eI 0)) d7 (V.int 0) _ hf (M.pk S8 3 [0, 1, 2] rfl)
 ·
  refine g_next (g_nx (g_seq (g_drop (g_meth (g_var rfl (v_R_Shelf S2 0 rfl (λ _ _ _ => rfl) (g_cons (g_var rfl (g_nil (⟨_, _, _, _, _, _, rfl, (M.at S2 0 rfl), hf, λ x15 d16 v17 H19 hf (S18 : M (pt d16 (.xd [(x15.fld, v17)]) :: da K v17 x15.val :: _ :: Rs) H19) => ?_, λ _u11 H13 hf (S12 : M (_ :: Rs) H13) => ?_⟩))))))))))
  ·
   exact hX x15 d16 v17 _ hf (M.pk S18 3 [0, 1, 2] rfl)
  refine g_nx ?_
  show (_ : TS) _ [some (V.ref p_a_self), some (V.int a_seal)] _
  refine g_seq (g_if (g_not (g_B (g_meth (g_var rfl (v_R_Shelf S12 0 rfl (λ _ _ _ => rfl) (g_cons (g_var rfl (g_nil (⟨_, _, _, _, _, rfl, (M.at S12 0 rfl), hf, λ x22 H24 hf (S23 : M (_ :: Rs) H24) => ?_⟩))))))))))
  refine g_bl (v_iff hf (λ _ hf => ?_) (λ _ hf => ?_))
  ·
   refine g_rz (g_var rfl ?_)
   have S26 : M (da K (V.int a_seal) (eI a_seal) :: _ :: Rs) H24 := M.addA S23 (EnF.all λ _ => .int (K := K) a_seal)
   refine v_rz S26 λ d28 H30 (S29 : M (pt d28 (.xd [("seal", (V.int a_seal))]) :: oo2 Rs) H30) => ?_
   exact hX (Ex.Broken (eI a_seal)) d28 (V.int a_seal) _ hf (M.pk S29 3 [0, 1, 2] rfl)
  ·
   obtain ⟨dx33, p34, p36, (S32 : M (pt p_a_self (.ins (He.ga K "Shelf") dx33 [("room", (V.int a_self.1)), ("counts", (V.ref p34)), ("bodies", (V.ref p36))]) :: pt dx33 (.own p_a_self) :: adR K iI eI p34 a_self.2.1 :: adR K iI (eO (eL eI)) p36 a_self.2.2 :: Rs) H24)⟩ := R_Shelf_open (S23.at 0 rfl)
   refine g_next (g_nx (g_ret (g_cb (g_cons (g_op (g_fld (g_var rfl (v_fld (S32.got 0 rfl) T.cl_Shelf T.na_Shelf_bodies rfl (g_var rfl ?_)))))))))
   obtain ⟨x40, h41, hf⟩ := hf
   refine d_ixI (M.dvO S32 3 rfl) h41 λ u42 S43 => ?_
   refine g_nil ?_
   obtain ⟨x45, h46, hf⟩ := hf
   have S47 : M (da K u42 ((eL eI) x45) :: da K u42 ((eO (eL eI)) x40) :: oo4 Rs) H24 := M.cstA S43 0 rfl (by rw [h46]; rfl)
   refine v_liN flI S47 (M.gotA S47 0 rfl) λ p49 H51 (S50 : M (acR K p49 (x45.map eI) :: oo6 Rs) H51) => ?_
   have S53 : M (R_Shelf K p_a_self a_self :: oo3 Rs) H51 := R_Shelf_close (M.pk S50 7 [3, 4, 5, 6, 0, 1, 2] rfl)
   exact hk _ _ _ hf (M.pk S53 4 [1, 0] rfl)
def p_Shelf_seals (a_self : (Int × (List (Int × Int)) × (List (Int × (Option (List Int)))))) (P : (List Int) -> Prop) : Prop := (ks a_self.2.1).length <= 1000000 /\ P (srt (ks a_self.2.1))
def sp_Shelf_seals (K : Fr) : Sp := λ vs H Q _ => ∃ (Rs : List Res) (p_a_self : Addr) (a_self : (Int × (List (Int × Int)) × (List (Int × (Option (List Int)))))) (P : (List Int) -> Prop), vs = [(V.ref p_a_self)] /\ M (R_Shelf K p_a_self a_self :: Rs) H /\ p_Shelf_seals a_self P /\ ∀ (r : (List Int)) (p : Addr) H', P r -> M (acR K p (r.map eI) :: R_Shelf K p_a_self a_self :: Rs) H' -> Q (.ref p) H'
theorem len_Shelf_seals {K : Fr} (vs : List V) (H : Hp) (Q : VK) (E : XK) (h : sp_Shelf_seals K vs H Q E) : vs.length = 1 := by
 obtain ⟨Rs, p_a_self, a_self, P, rfl, _⟩ := h
 rfl
abbrev t_Shelf_seals (K : Fr) : TS := (tRet (tCB rSoDI (tCons (tFld K (tVar 0) "counts") tNil)))
theorem pure_Shelf_seals {K : Fr} (T : TxC K) (vs : List V) (H : Hp) (Q : VK) (E : XK) (h : sp_Shelf_seals K vs H Q E) : t_Shelf_seals K { nx := λ _ H' => Q .non H', rt := Q } (L2.start ["self"] vs) H := by
 obtain ⟨Rs, p_a_self, a_self, P, rfl, S0, hf, hk⟩ := h
 show t_Shelf_seals K _ [some (V.ref p_a_self)] H
 obtain ⟨dx2, p3, p5, (S1 : M (pt p_a_self (.ins (He.ga K "Shelf") dx2 [("room", (V.int a_self.1)), ("counts", (V.ref p3)), ("bodies", (V.ref p5))]) :: pt dx2 (.own p_a_self) :: adR K iI eI p3 a_self.2.1 :: adR K iI (eO (eL eI)) p5 a_self.2.2 :: Rs) H)⟩ := R_Shelf_open (S0.at 0 rfl)
 refine g_ret (g_cb (g_cons (g_fld (g_var rfl (v_fld (S1.got 0 rfl) T.cl_Shelf T.na_Shelf_counts rfl (g_nil ?_))))))
 obtain ⟨h9, hf⟩ := hf
 refine d_soI (M.dvO S1 2 rfl) h9 λ p10 H12 (S11 : M (acR K p10 ((srt (ks a_self.2.1)).map eI) :: oo4 Rs) H12) => ?_
 have S14 : M (R_Shelf K p_a_self a_self :: _ :: Rs) H12 := R_Shelf_close (M.pk S11 5 [1, 2, 3, 4, 0] rfl)
 exact hk _ _ _ hf (M.pk S14 2 [1, 0] rfl)
def p_Shelf_broken (a_self : (Int × (List (Int × Int)) × (List (Int × (Option (List Int)))))) (P : (List Int) -> Prop) : Prop := (ks a_self.2.1).length <= 1000000 /\ ((srt (ks a_self.2.1))).length <= 100000 /\ lcD (λ (x20 : Int) (k27 : Option Int -> Prop) => p_Shelf_has_sound a_self x20 λ x28 => if (!x28) = true then (k27 (some x20)) else (k27 none)) (srt (ks a_self.2.1)) [] λ acc17 => P acc17
def sp_Shelf_broken (K : Fr) : Sp := λ vs H Q _ => ∃ (Rs : List Res) (p_a_self : Addr) (a_self : (Int × (List (Int × Int)) × (List (Int × (Option (List Int)))))) (P : (List Int) -> Prop), vs = [(V.ref p_a_self)] /\ M (R_Shelf K p_a_self a_self :: Rs) H /\ p_Shelf_broken a_self P /\ ∀ (r : (List Int)) (p : Addr) H', P r -> M (acR K p (r.map eI) :: R_Shelf K p_a_self a_self :: Rs) H' -> Q (.ref p) H'
theorem len_Shelf_broken {K : Fr} (vs : List V) (H : Hp) (Q : VK) (E : XK) (h : sp_Shelf_broken K vs H Q E) : vs.length = 1 := by
 obtain ⟨Rs, p_a_self, a_self, P, rfl, _⟩ := h
 rfl
abbrev t_Shelf_broken (K : Fr) : TS := (tRet (tLc (iList K (tCB rSoDI (tCons (tFld K (tVar 0) "counts") tNil))) (gName 1) (tNot (tB (tMethW W0 (He.ga K "Shelf") "has_sound" (sp_Shelf_has_sound K) [] (tVar 0) (tCons (tVar 1) tNil)))) (tVar 1) [1]))
theorem pure_Shelf_broken {K : Fr} (T : TxC K) (vs : List V) (H : Hp) (Q : VK) (E : XK) (h : sp_Shelf_broken K vs H Q E) : t_Shelf_broken K { nx := λ _ H' => Q .non H', rt := Q } (L2.start ["self", "seal"] vs) H := by
 obtain ⟨Rs, p_a_self, a_self, P, rfl, S0, hf, hk⟩ := h
 show t_Shelf_broken K _ [some (V.ref p_a_self), none] H
 obtain ⟨dx4, p5, p7, (S3 : M (pt p_a_self (.ins (He.ga K "Shelf") dx4 [("room", (V.int a_self.1)), ("counts", (V.ref p5)), ("bodies", (V.ref p7))]) :: pt dx4 (.own p_a_self) :: adR K iI eI p5 a_self.2.1 :: adR K iI (eO (eL eI)) p7 a_self.2.2 :: Rs) H)⟩ := R_Shelf_open (S0.at 0 rfl)
 refine g_ret (g_lc (g_iList (g_cb (g_cons (g_fld (g_var rfl (v_fld (S3.got 0 rfl) T.cl_Shelf T.na_Shelf_counts rfl (g_nil ?_))))))))
 obtain ⟨h11, hf⟩ := hf
 refine d_soI (M.dvO S3 2 rfl) h11 λ p12 H14 (S13 : M (acR K p12 ((srt (ks a_self.2.1)).map eI) :: oo4 Rs) H14) => ?_
 have S16 : M (R_Shelf K p_a_self a_self :: _ :: Rs) H14 := R_Shelf_close (M.pk S13 5 [1, 2, 3, 4, 0] rfl)
 refine lc_N flI (K := K) (e' := eI) hf S16 (λ _ S => S.gotO 1 rfl) (λ x20 acc17 E18 H26 kk19 N21 hl22 S25 hf hp23 hn24 => ?_) (λ E18 acc17 H35 hf S34 => ?_)
 ·
  refine g_name (g_wipe rfl (g_not (g_B (g_meth (g_var rfl (v_R_Shelf S25 1 rfl (λ _ _ _ => rfl) (g_cons (g_var rfl (g_nil (⟨_, _, _, _, _, rfl, (M.at S25 1 rfl), hf, λ x28 H30 hf (S29 : M (_ :: acR K E18 (acc17.map eI) :: _ :: Rs) H30) => ?_⟩))))))))))
  refine g_bl (v_iff hf (λ _ hf => ?_) (λ _ hf => ?_))
  ·
   refine g_var rfl (acR_put S29 1 rfl (EnF.all λ _ => .int _) hl22 λ H33 (S32 : M (acR K E18 (acc17.map eI ++ [eI x20]) :: oo2 Rs) H33) => ?_)
   exact hp23 _ _ hf (M.pk S32 3 [0, 1, 2] rfl)
  ·
   exact hn24 _ hf (M.pk S29 3 [1, 0, 2] rfl)
 exact hk _ _ _ hf (M.sub (.cons 0 rfl (.cons 0 rfl (.tl (.refl _)))) S34)
def p_l_whole (a_thing : Int) (a_low : Int) (a_high : Int) (P : Bool -> Prop) : Prop := P (true && ((!false) && ((decide (a_low <= a_thing)) && (decide (a_thing <= a_high)))))
def sp_l_whole (K : Fr) : Sp := λ vs H Q _ => ∃ (Rs : List Res) (a_thing : Int) (a_low : Int) (a_high : Int) (P : Bool -> Prop), vs = [(V.int a_thing), (V.int a_low), (V.int a_high)] /\ M (Rs) H /\ p_l_whole a_thing a_low a_high P /\ ∀ (r : Bool) H', P r -> M (Rs) H' -> Q (V.bl r) H'
theorem len_l_whole {K : Fr} (vs : List V) (H : Hp) (Q : VK) (E : XK) (h : sp_l_whole K vs H Q E) : vs.length = 3 := by
 obtain ⟨Rs, a_thing, a_low, a_high, P, rfl, _⟩ := h
 rfl
abbrev t_l_whole (K : Fr) : TS := (tRet (tAndV (tCB (uIsi K) (tCons (tVar 0) (tCons (tC (.ty "int")) tNil))) (tAndV (tNotV (tCB (uIsi K) (tCons (tVar 0) (tCons (tC (.ty "bool")) tNil)))) (tChain uLe uLe (tVar 1) (tVar 0) (tVar 2)))))
theorem pure_l_whole {K : Fr} (vs : List V) (H : Hp) (Q : VK) (E : XK) (h : sp_l_whole K vs H Q E) : t_l_whole K { nx := λ _ H' => Q .non H', rt := Q } (L2.start ["_law_thing", "_law_low", "_law_high"] vs) H := by
 obtain ⟨Rs, a_thing, a_low, a_high, P, rfl, S0, hf, hk⟩ := h
 show t_l_whole K _ [some (V.int a_thing), some (V.int a_low), some (V.int a_high)] H
 refine g_ret (g_andVP (c1 := true) (c2 := ((!false) && ((decide (a_low <= a_thing)) && (decide (a_thing <= a_high))))) (λ _ hq => ?_) (λ _ hq => ?_) ?_)
 ·
  refine g_cb (g_cons (g_var rfl (g_cons (g_c (g_nil (v_isq (.int _) (by decide) (b := true) rfl ?_))))))
  exact hq
 ·
  refine g_andVP (c1 := (!false)) (c2 := ((decide (a_low <= a_thing)) && (decide (a_thing <= a_high)))) (λ _ hq => ?_) (λ _ hq => ?_) ?_
  ·
   refine g_notV (g_cb (g_cons (g_var rfl (g_cons (g_c (g_nil (v_isq (.int _) (by decide) (b := false) rfl (g_bl ?_))))))))
   exact hq
  ·
   refine g_chainP (c1 := (decide (a_low <= a_thing))) (c2 := (decide (a_thing <= a_high))) (λ _ hq => ?_) (λ _ hq => ?_) (λ _ hq => v_le hq) (λ _ hq => ?_) (λ _ hq => v_le hq) ?_
   ·
    refine g_var rfl ?_
    exact hq
   ·
    refine g_var rfl ?_
    exact hq
   ·
    refine g_var rfl ?_
    exact hq
   exact hq
  exact hq
 exact hk _ _ hf (M.pk S0 0 [] rfl)
def p_l_are_signs (a_thing : (List Int)) (a_fewest : Int) (a_many : Int) (P : Bool -> Prop) : Prop := if ((!true) || (!((decide (a_fewest <= ((a_thing).length : Int))) && (decide (((a_thing).length : Int) <= a_many))))) = true then (P false) else ((a_thing).length <= 100000 /\ lcD (λ (x6 : Int) (k13 : Option Int -> Prop) => p_l_whole x6 0 999 λ x14 => if (!x14) = true then (k13 (some x6)) else (k13 none)) a_thing [] λ acc3 => P (decide (acc3 = ([] : (List Int)))))
def sp_l_are_signs (K : Fr) : Sp := λ vs H Q _ => ∃ (Rs : List Res) (v_a_thing : V) (a_thing : (List Int)) (a_fewest : Int) (a_many : Int) (P : Bool -> Prop), vs = [v_a_thing, (V.int a_fewest), (V.int a_many)] /\ M (da K v_a_thing ((eL eI) a_thing) :: Rs) H /\ p_l_are_signs a_thing a_fewest a_many P /\ ∀ (r : Bool) H', P r -> M (Rs) H' -> Q (V.bl r) H'
theorem len_l_are_signs {K : Fr} (vs : List V) (H : Hp) (Q : VK) (E : XK) (h : sp_l_are_signs K vs H Q E) : vs.length = 3 := by
 obtain ⟨Rs, v_a_thing, a_thing, a_fewest, a_many, P, rfl, _⟩ := h
 rfl
abbrev t_l_are_signs_1 (K : Fr) : TS := (tSeq (tIfS (tOr (tNot (tB (tCB (uIsi K) (tCons (tVar 0) (tCons (tC (.ty "list")) tNil))))) (tNot (tTest (tChain uLe uLe (tVar 1) (tCB (uLen K) (tCons (tVar 0) tNil)) (tVar 2))))) (tRet (tC (.bl false))) tNext)
 (tRet (tOp (uEq K) (tLc (iList K (tVar 0)) (gName 3) (tNot (tB (tCall (sp_l_whole K) [] E0 (tCons (tVar 3) (tCons (tC (.int 0)) (tCons (tC (.int 999)) tNil)))))) (tVar 3) [3]) (tLst tNil))))
abbrev t_l_are_signs (K : Fr) : TS := (t_l_are_signs_1 K)
theorem pure_l_are_signs {K : Fr} (vs : List V) (H : Hp) (Q : VK) (E : XK) (h : sp_l_are_signs K vs H Q E) : t_l_are_signs K { nx := λ _ H' => Q .non H', rt := Q } (L2.start ["_law_thing", "_law_fewest", "_law_many", "_law_one"] vs) H := by
 obtain ⟨Rs, v_a_thing, a_thing, a_fewest, a_many, P, rfl, S0, hf, hk⟩ := h
 show t_l_are_signs K _ [some v_a_thing, some (V.int a_fewest), some (V.int a_many), none] H
 refine g_seq (g_if (g_orP (c1 := (!true)) (c2 := (!((decide (a_fewest <= ((a_thing).length : Int))) && (decide (((a_thing).length : Int) <= a_many))))) (λ _ hq => ?_) (λ _ hq => ?_) ?_))
 ·
  refine g_not (g_B (g_cb (g_cons (g_var rfl (g_cons (g_c (g_nil (v_isq (Dq.dn (M.gotA S0 0 rfl)) (by decide) (b := true) rfl (g_bl ?_)))))))))
  exact hq
 ·
  refine g_not (g_test (g_chainP (c1 := (decide (a_fewest <= ((a_thing).length : Int)))) (c2 := (decide (((a_thing).length : Int) <= a_many))) (λ _ hq => ?_) (λ _ hq => ?_) (λ _ hq => v_le hq) (λ _ hq => ?_) (λ _ hq => v_le hq) ?_))
  ·
   refine g_var rfl ?_
   exact hq
  ·
   refine g_cb (g_cons (g_var rfl (g_nil (v_lenN (M.gotA S0 0 rfl) ?_))))
   exact hq
  ·
   refine g_var rfl ?_
   exact hq
  refine g_bl ?_
  exact hq
 refine v_iff hf (λ _ hf => ?_) (λ _ hf => ?_)
 ·
  refine g_ret (g_c ?_)
  exact hk _ _ hf (M.pk S0 1 [] rfl)
 ·
  refine g_next (g_nx (g_ret (g_op (g_lc (g_iList (g_var rfl ?_))))))
  refine lc_N flI (K := K) (e' := eI) hf S0 (λ _ S => S.gotA 0 rfl) (λ x6 acc3 E4 H12 kk5 N7 hl8 S11 hf hp9 hn10 => ?_) (λ E4 acc3 H21 hf S20 => ?_)
  ·
   refine g_name (g_wipe rfl (g_not (g_B (g_call (g_cons (g_var rfl (g_cons (g_c (g_cons (g_c (g_nil (⟨_, _, _, _, _, rfl, S11, hf, λ x14 H16 hf (S15 : M (acR K E4 (acc3.map eI) :: _ :: Rs) H16) => ?_⟩))))))))))))
   refine g_bl (v_iff hf (λ _ hf => ?_) (λ _ hf => ?_))
   ·
    refine g_var rfl (acR_put S15 0 rfl (EnF.all λ _ => .int _) hl8 λ H19 (S18 : M (acR K E4 (acc3.map eI ++ [eI x6]) :: _ :: Rs) H19) => ?_)
    exact hp9 _ _ hf (M.pk S18 2 [0, 1] rfl)
   ·
    exact hn10 _ hf (M.pk S15 2 [0, 1] rfl)
  have S23 : M (da K (V.ref E4) ((eL eI) acc3) :: _ :: Rs) H21 := acR_fixL S20
  refine g_lst (g_nil (v_lsto (ds := ([] : (List Int)).map eI) S23 EnF.nilA (len_ok rfl) λ p25 H27 (S26 : M (acR K p25 (([] : (List Int)).map eI) :: oo2 Rs) H27) => ?_))
  have S29 : M (da K (V.ref p25) ((eL eI) ([] : (List Int))) :: oo2 Rs) H27 := acR_fixL S26
  refine v_eqLI (M.gotA S29 1 rfl) (M.gotA S29 0 rfl) ?_
  exact hk _ _ hf (M.pk S29 3 [] rfl)
def p_l_sum (a_signs_here : (List Int)) (P : Int -> Prop) : Prop := forD (λ (x4 : Int) (s1 : Int × Int) (k2 : (Int × Int) -> Prop) => (CMul (x4 + 1) s1.2 \/ CMulW (x4 + 1) s1.2) /\ (CMul s1.2 1001) /\ k2 ((s1.1 + ((x4 + 1) * s1.2)), (s1.2 * 1001))) a_signs_here (0, 1) λ s1 => P s1.1
def sp_l_sum (K : Fr) : Sp := λ vs H Q _ => ∃ (Rs : List Res) (R_a_signs_here : Res) (v_a_signs_here : V) (a_signs_here : (List Int)) (P : Int -> Prop), vs = [v_a_signs_here] /\ Brw R_a_signs_here K v_a_signs_here ((eL eI) a_signs_here) /\ M (R_a_signs_here :: Rs) H /\ p_l_sum a_signs_here P /\ ∀ (r : Int) H', P r -> M (R_a_signs_here :: Rs) H' -> Q (V.int r) H'
theorem len_l_sum {K : Fr} (vs : List V) (H : Hp) (Q : VK) (E : XK) (h : sp_l_sum K vs H Q E) : vs.length = 1 := by
 obtain ⟨Rs, R_a_signs_here, v_a_signs_here, a_signs_here, P, rfl, _⟩ := h
 rfl
abbrev t_l_sum_4 (K : Fr) : TS := (tSeq (tAug 1 (tOp uMul (tOp (uAdd K) (tVar 3) (tC (.int 1))) (tVar 2)) iAdd)
 (tAug 2 (tC (.int 1001)) iMul))
abbrev t_l_sum_3 (K : Fr) : TS := (tSeq (tFor (iList K (tVar 0)) (gName 3) (t_l_sum_4 K))
 (tRet (tVar 1)))
abbrev t_l_sum_2 (K : Fr) : TS := (tSeq (tAsg (tC (.int 1)) (gName 2))
 (t_l_sum_3 K))
abbrev t_l_sum_1 (K : Fr) : TS := (tSeq (tAsg (tC (.int 0)) (gName 1))
 (t_l_sum_2 K))
abbrev t_l_sum (K : Fr) : TS := (t_l_sum_1 K)
theorem pure_l_sum {K : Fr} (vs : List V) (H : Hp) (Q : VK) (E : XK) (h : sp_l_sum K vs H Q E) : t_l_sum K { nx := λ _ H' => Q .non H', rt := Q } (L2.start ["_law_signs_here", "_law_found", "_law_times", "_law_sign"] vs) H := by
 obtain ⟨Rs, R_a_signs_here, v_a_signs_here, a_signs_here, P, rfl, h_a_signs_here, S0, hf, hk⟩ := h
 show t_l_sum K _ [some v_a_signs_here, none, none, none] H
 refine g_seq (g_asg (g_c (g_nx ?_)))
 show (_ : TS) _ [some v_a_signs_here, some (V.int 0), none, none] _
 refine g_seq (g_asg (g_c (g_nx ?_)))
 show (_ : TS) _ [some v_a_signs_here, some (V.int 0), some (V.int 1), none] _
 refine g_seq (g_for (g_iList (g_var rfl ?_)))
 refine for_N flI (K := K) (β := Int × Int) hf (λ (s1 : Int × Int) σ H' => ∃ (o5 : Option V), σ = [some v_a_signs_here, some (V.int s1.1), some (V.int s1.2), o5] /\ M (R_a_signs_here :: Rs) H') ⟨_, rfl, (M.pk S0 1 [0] rfl)⟩ (λ _ _ _ h => by obtain ⟨_, _, S⟩ := h; exact h_a_signs_here _ _ (S.at 0 rfl)) ?_ ?_
 ·
  rintro x4 s1 _ H7 kk3 ⟨o5, rfl, S6⟩ hf
  obtain ⟨h8, hf⟩ := hf
  refine g_name (g_seq (g_aug rfl (g_op (g_op (g_var rfl (g_c (v_add (g_var rfl (v_mul h8 (v_iadd (g_nx ?_)))))))))))
  show (_ : TS) _ [some v_a_signs_here, some (V.int (s1.1 + ((x4 + 1) * s1.2))), some (V.int s1.2), some (V.int x4)] _
  obtain ⟨h9, hf⟩ := hf
  refine g_aug rfl (g_c (v_imul h9 ?_))
  exact ⟨_, hf, _, rfl, (M.sub (.cons 0 rfl (.refl _)) S6)⟩
 rintro s1 _ H11 hf ⟨o5, rfl, S10⟩
 refine g_nx ?_
 show (_ : TS) _ [some v_a_signs_here, some (V.int s1.1), some (V.int s1.2), o5] _
 refine g_ret (g_var rfl ?_)
 exact hk _ _ hf (M.sub (.cons 0 rfl (.refl _)) S10)
def p_l_back (a_number : Int) (P : (Option (List Int)) -> Prop) : Prop := wlD (λ (s5 : (List Int) × Int) (k6 k7 : ((List Int) × Int) -> Prop) => if ((decide (0 < s5.2)) && (decide (((s5.1).length : Int) < 17))) = true then (((0 : Int) < 1001) /\ (s5.1).length < 100000 /\ ((0 : Int) < 1001 /\ 1001 < (2 ^ 64 : Int)) /\ k6 ((sno s5.1 ((s5.2 % 1001) - 1)), (s5.2 / 1001))) else (k7 (s5.1, s5.2))) (([] : (List Int)), a_number) λ s5 => jn (λ k29 => if (decide (s5.1 = ([] : (List Int)))) = true then (k29 true) else (k29 ((decide (16 < ((s5.1).length : Int))) || (decide ((-1) ∈ s5.1))))) λ c25 => if c25 = true then (P (none : (Option (List Int)))) else (P (some s5.1))
def sp_l_back (K : Fr) : Sp := λ vs H Q _ => ∃ (Rs : List Res) (a_number : Int) (P : (Option (List Int)) -> Prop), vs = [(V.int a_number)] /\ M (Rs) H /\ p_l_back a_number P /\ ∀ (r : (Option (List Int))) (v : V) H', P r -> M (da K v ((eO (eL eI)) r) :: Rs) H' -> Q v H'
theorem len_l_back {K : Fr} (vs : List V) (H : Hp) (Q : VK) (E : XK) (h : sp_l_back K vs H Q E) : vs.length = 1 := by
 obtain ⟨Rs, a_number, P, rfl, _⟩ := h
 rfl
abbrev t_l_back_3 (K : Fr) : TS := (tSeq (tDrop (tBM K "list" rAppend (tVar 2) (tCons (tOp uSub (tOp uMod (tVar 1) (tC (.int 1001))) (tC (.int 1))) tNil)))
 (tAsg (tOp uDiv (tVar 1) (tC (.int 1001))) (gName 1)))
abbrev t_l_back_5 (K : Fr) : TS := (tSeq (tIfS (tOr (tTest (tOp (uEq K) (tVar 2) (tLst tNil))) (tOr (tTest (tOp uGt (tCB (uLen K) (tCons (tVar 2) tNil)) (tC (.int 16)))) (tTest (tOp (uIn K) (tUn (rU λ i => .int (-i)) (tC (.int 1))) (tVar 2))))) (tRet (tC .non)) tNext)
 (tRet (tVar 2)))
abbrev t_l_back_2 (K : Fr) : TS := (tSeq (tWhile (tAnd (tTest (tOp uGt (tVar 1) (tC (.int 0)))) (tTest (tOp uLt (tCB (uLen K) (tCons (tVar 2) tNil)) (tC (.int 17))))) (t_l_back_3 K))
 (t_l_back_5 K))
abbrev t_l_back_1 (K : Fr) : TS := (tSeq (tPar 1 2 (tCons (tVar 0) (tCons (tLst tNil) tNil)))
 (t_l_back_2 K))
abbrev t_l_back (K : Fr) : TS := (t_l_back_1 K)
theorem pure_l_back {K : Fr} (vs : List V) (H : Hp) (Q : VK) (E : XK) (h : sp_l_back K vs H Q E) : t_l_back K { nx := λ _ H' => Q .non H', rt := Q } (L2.start ["_law_number", "_law_rest", "_law_found"] vs) H := by
 obtain ⟨Rs, a_number, P, rfl, S0, hf, hk⟩ := h
 show t_l_back K _ [some (V.int a_number), none, none] H
 refine g_seq (g_par (g_cons (g_var rfl (g_cons (g_lst (g_nil (v_lsto (ds := ([] : (List Int)).map eI) S0 EnF.nilA (len_ok rfl) λ p1 H3 (S2 : M (acR K p1 (([] : (List Int)).map eI) :: Rs) H3) => ?_)))))))
 refine g_nil (v_par (g_nx ?_))
 show (_ : TS) _ [some (V.int a_number), some (V.int a_number), some (V.ref p1)] _
 refine g_seq (g_while ?_)
 refine wh_D (β := (List Int) × Int) hf (λ (s5 : (List Int) × Int) σ H' => σ = [some (V.int a_number), some (V.int s5.2), some (V.ref p1)] /\ M (acR K p1 (s5.1.map eI) :: Rs) H') ⟨rfl, (M.pk S2 1 [0] rfl)⟩ ?_ ?_
 ·
  rintro s5 _ H16 kk8 kk9 P10 N11 ⟨rfl, S15⟩ hP12 hN13 hf
  refine g_andP (c1 := (decide (0 < s5.2))) (c2 := (decide (((s5.1).length : Int) < 17))) (λ _ hq => ?_) (λ _ hq => ?_) ?_
  ·
   refine g_test (g_op (g_var rfl (g_c (v_gt (g_bl ?_)))))
   exact hq
  ·
   refine g_test (g_op (g_cb (g_cons (g_var rfl (g_nil (v_lenN (M.gotO S15 0 rfl) (g_c (v_lt (g_bl ?_)))))))))
   exact hq
  refine v_iff hf (λ _ hf => ?_) (λ _ hf => ?_)
  ·
   obtain ⟨h17, hf⟩ := hf
   refine wh_yes hP12 (g_seq (g_drop (g_bm (g_var rfl (M.tyO S15 0 rfl (g_cons (g_op (g_op (g_var rfl (g_c (v_mod h17 (g_c (v_sub (g_nil ?_))))))))))))))
   obtain ⟨h18, hf⟩ := hf
   refine v_apl (e := eI) (x := ((s5.2 % 1001) - 1)) S15 0 rfl (EnF.all λ _ => .int _) h18 λ H20 (S19 : M (acR K p1 ((sno s5.1 ((s5.2 % 1001) - 1)).map eI) :: Rs) H20) => ?_
   refine g_nx ?_
   show (_ : TS) _ [some (V.int a_number), some (V.int s5.2), some (V.ref p1)] _
   obtain ⟨h22, hf⟩ := hf
   refine g_asg (g_op (g_var rfl (g_c (v_div h22 ?_))))
   exact ⟨_, hf, rfl, (M.pk S19 1 [0] rfl)⟩
  ·
   exact hN13 _ _ _ hf ⟨rfl, (M.sub (.cons 0 rfl (.refl _)) S15)⟩
 rintro s5 _ H24 hf ⟨rfl, S23⟩
 refine g_nx ?_
 show (_ : TS) _ [some (V.int a_number), some (V.int s5.2), some (V.ref p1)] _
 refine g_seq (g_if ?_)
 refine tt_cut hf (λ H => M (acR K p1 (s5.1.map eI) :: Rs) H) (λ kk26 P27 hP28 hf => ?_) ?_
 ·
  refine g_or (g_test (g_op (g_var rfl (g_lst (g_nil (v_lsto (ds := ([] : (List Int)).map eI) S23 EnF.nilA (len_ok rfl) λ p31 H33 (S32 : M (acR K p31 (([] : (List Int)).map eI) :: _ :: Rs) H33) => ?_))))))
  have S35 : M (da K (V.ref p31) ((eL eI) ([] : (List Int))) :: _ :: Rs) H33 := acR_fixL S32
  refine v_eqLI (M.gotO S35 1 rfl) (M.gotA S35 0 rfl) (g_bl (v_iff hf (λ _ hf => ?_) (λ _ hf => ?_)))
  ·
   exact hP28 _ _ hf (M.pk S35 2 [1] rfl)
  ·
   refine g_orP (c1 := (decide (16 < ((s5.1).length : Int)))) (c2 := (decide ((-1) ∈ s5.1))) (λ _ hq => ?_) (λ _ hq => ?_) ?_
   ·
    refine g_test (g_op (g_cb (g_cons (g_var rfl (g_nil (v_lenN (M.gotO S35 1 rfl) (g_c (v_gt (g_bl ?_)))))))))
    exact hq
   ·
    refine g_test (g_op (g_un (g_c (v_neg (g_var rfl (v_inLI (M.gotO S35 1 rfl) (g_bl ?_)))))))
    exact hq
   exact hP28 _ _ hf (M.pk S35 2 [1] rfl)
 intro c25 H38 hf S37
 refine v_iff hf (λ _ hf => ?_) (λ _ hf => ?_)
 ·
  refine g_ret (g_c ?_)
  have S39 : M (da K V.non ((eO (eL eI)) (none : (Option (List Int)))) :: acR K p1 (s5.1.map eI) :: Rs) H38 := M.addA S37 (EnF.all λ _ => .non)
  exact hk _ _ _ hf (M.pk S39 2 [0] rfl)
 ·
  refine g_next (g_nx (g_ret (g_var rfl ?_)))
  have S41 : M (da K (V.ref p1) ((eL eI) s5.1) :: Rs) H38 := acR_fixL S37
  exact hk _ _ _ hf (M.pk S41 1 [0] rfl)
def p_l_is_seal (a_thing : Int) (P : Bool -> Prop) : Prop := jn (λ k5 => p_l_whole a_thing 1 1017136682386200395472334329460382190380680136017001 λ x7 => if x7 = true then (p_l_back a_thing λ x11 => k5 (!(x11).isNone)) else (k5 false)) λ c1 => P c1
def sp_l_is_seal (K : Fr) : Sp := λ vs H Q _ => ∃ (Rs : List Res) (a_thing : Int) (P : Bool -> Prop), vs = [(V.int a_thing)] /\ M (Rs) H /\ p_l_is_seal a_thing P /\ ∀ (r : Bool) H', P r -> M (Rs) H' -> Q (V.bl r) H'
theorem len_l_is_seal {K : Fr} (vs : List V) (H : Hp) (Q : VK) (E : XK) (h : sp_l_is_seal K vs H Q E) : vs.length = 1 := by
 obtain ⟨Rs, a_thing, P, rfl, _⟩ := h
 rfl
abbrev t_l_is_seal (K : Fr) : TS := (tRet (tAndV (tCall (sp_l_whole K) [] E0 (tCons (tVar 0) (tCons (tC (.int 1)) (tCons (tOp uPow (tC (.int 1001)) (tC (.int 17))) tNil)))) (tOp rNotN (tCall (sp_l_back K) [] E0 (tCons (tVar 0) tNil)) (tC .non))))
theorem pure_l_is_seal {K : Fr} (vs : List V) (H : Hp) (Q : VK) (E : XK) (h : sp_l_is_seal K vs H Q E) : t_l_is_seal K { nx := λ _ H' => Q .non H', rt := Q } (L2.start ["_law_thing"] vs) H := by
 obtain ⟨Rs, a_thing, P, rfl, S0, hf, hk⟩ := h
 show t_l_is_seal K _ [some (V.int a_thing)] H
 refine g_ret ?_
 refine te_cut hf (λ H => M (Rs) H) (λ kk2 P3 hP4 hf => ?_) ?_
 ·
  refine g_andV (g_call (g_cons (g_var rfl (g_cons (g_c (g_cons (g_op (g_c (g_c (v_powc (n := 1017136682386200395472334329460382190380680136017001) (by decide) (by decide) (g_nil (⟨_, _, _, _, _, rfl, S0, hf, λ x7 H9 hf (S8 : M (Rs) H9) => ?_⟩))))))))))))
  refine g_bl (v_iff hf (λ _ hf => ?_) (λ _ hf => ?_))
  ·
   refine g_op (g_call (g_cons (g_var rfl (g_nil (⟨_, _, _, rfl, S8, hf, λ x11 u14 H13 hf (S12 : M (da K u14 ((eO (eL eI)) x11) :: Rs) H13) => ?_⟩)))))
   refine g_c (v_notOe (λ _ => rfl) (M.gotA S12 0 rfl) ?_)
   exact hP4 _ _ hf (M.pk S12 1 [] rfl)
  ·
   exact hP4 _ _ hf (M.pk S8 0 [] rfl)
 intro c1 H17 hf S16
 exact hk _ _ hf (M.sub (.refl _) S16)
def p_l_signs  (P : (List Int) -> Prop) : Prop := takeD 16 λ n2 => takeD 4 λ n10 => ∃ x15, atI ([1, 2, (1 + n2), 16]) n10 = some x15 /\ takeD 3 λ n23 => ∃ x28, atI ([1000, 2, 1000] : List Int) n23 = some x28 /\ ((-(2 ^ 62) : Int) <= x15 /\ x15 < (2 ^ 62 : Int)) /\ (rng x15).length <= 100000 /\ lcD (λ (x37 : Int) (k44 : Option Int -> Prop) => takeD x28 λ n46 => k44 (some n46)) (rng x15) [] λ acc34 => jn (β := (List Int)) (λ k55 => takeD 6 λ n61 => if (decide (n61 = 0)) = true then (takeD x15 λ n65 => ∃ m68, ixN (acc34).length n65 = some m68 /\ k55 (acc34.set m68 999)) else (k55 acc34)) λ s54 => P s54
def sp_l_signs (K : Fr) : Sp := λ vs H Q _ => ∃ (Rs : List Res) (a_bag_here : Addr) (P : (List Int) -> Prop), vs = [(V.ref a_bag_here)] /\ M (bagR a_bag_here :: Rs) H /\ p_l_signs P /\ ∀ (r : (List Int)) (v : V) H', P r -> M (da K v ((eL eI) r) :: bagR a_bag_here :: Rs) H' -> Q v H'
theorem len_l_signs {K : Fr} (vs : List V) (H : Hp) (Q : VK) (E : XK) (h : sp_l_signs K vs H Q E) : vs.length = 1 := by
 obtain ⟨Rs, a_bag_here, P, rfl, _⟩ := h
 rfl
abbrev t_l_signs_4 (K : Fr) : TS := (tSeq (tIfS (tTest (tOp (uEq K) (tCall (sp_l_take K) [] E0 (tCons (tVar 0) (tCons (tC (.int 6)) tNil))) (tC (.int 0)))) (tAsg (tC (.int 999)) (gSub (tVar 3) (tCall (sp_l_take K) [] E0 (tCons (tVar 0) (tCons (tVar 1) tNil))) uSet)) tNext)
 (tRet (tVar 3)))
abbrev t_l_signs_3 (K : Fr) : TS := (tSeq (tAsg (tLc (iRng1 (tCons (tVar 1) tNil)) (gName 4) tYes (tCall (sp_l_take K) [] E0 (tCons (tVar 0) (tCons (tVar 2) tNil))) [4]) (gName 3))
 (t_l_signs_4 K))
abbrev t_l_signs_2 (K : Fr) : TS := (tSeq (tAsg (tOp (uIx K) (tLst (tCons (tC (.int 1000)) (tCons (tC (.int 2)) (tCons (tC (.int 1000)) tNil)))) (tCall (sp_l_take K) [] E0 (tCons (tVar 0) (tCons (tC (.int 3)) tNil)))) (gName 2))
 (t_l_signs_3 K))
abbrev t_l_signs_1 (K : Fr) : TS := (tSeq (tAsg (tOp (uIx K) (tLst (tCons (tC (.int 1)) (tCons (tC (.int 2)) (tCons (tOp (uAdd K) (tC (.int 1)) (tCall (sp_l_take K) [] E0 (tCons (tVar 0) (tCons (tC (.int 16)) tNil)))) (tCons (tC (.int 16)) tNil))))) (tCall (sp_l_take K) [] E0 (tCons (tVar 0) (tCons (tC (.int 4)) tNil)))) (gName 1))
 (t_l_signs_2 K))
abbrev t_l_signs (K : Fr) : TS := (t_l_signs_1 K)
theorem pure_l_signs {K : Fr} (vs : List V) (H : Hp) (Q : VK) (E : XK) (h : sp_l_signs K vs H Q E) : t_l_signs K { nx := λ _ H' => Q .non H', rt := Q } (L2.start ["_law_bag_here", "_law_many", "_law_top", "_law_found", "_law_k"] vs) H := by
 obtain ⟨Rs, a_bag_here, P, rfl, S0, hf, hk⟩ := h
 show t_l_signs K _ [some (V.ref a_bag_here), none, none, none, none] H
 refine g_seq (g_asg (g_op (g_lst (g_cons (g_c (g_cons (g_c (g_cons (g_op (g_c (g_call (g_cons (g_var rfl (g_cons (g_c (g_nil ?_))))))))))))))))
 obtain ⟨h1, hf⟩ := hf
 refine u_take (S0.at 0 rfl) h1 λ n2 H4 n2l n2u (S3 : M (_ :: Rs) H4) => ?_
 replace hf := hf n2 n2l n2u
 refine v_add (g_cons (g_c (g_nil (v_lsto (ds := ([1, 2, (1 + n2), 16]).map eI) S3 (EnF.consA (EnF.all λ _ => .int _) (EnF.consA (EnF.all λ _ => .int _) (EnF.consA (EnF.all λ _ => .int _) (EnF.consA (EnF.all λ _ => .int _) EnF.nilA)))) (len_ok rfl) λ p5 H7 (S6 : M (acR K p5 (([1, 2, (1 + n2), 16]).map eI) :: _ :: Rs) H7) => ?_))))
 refine g_call (g_cons (g_var rfl (g_cons (g_c (g_nil ?_)))))
 obtain ⟨h9, hf⟩ := hf
 refine u_take (S6.at 1 rfl) h9 λ n10 H12 n10l n10u (S11 : M (oo2 Rs) H12) => ?_
 replace hf := hf n10 n10l n10u
 have S13 : M (da K (V.ref p5) ((eL eI) ([1, 2, (1 + n2), 16])) :: _ :: Rs) H12 := acR_fixL (S11.at 1 rfl)
 obtain ⟨x15, h16, hf⟩ := hf
 refine v_ixN flI (M.gotA S13 0 rfl) h16 (g_nx ?_)
 show (_ : TS) _ [some (V.ref a_bag_here), some (V.int x15), none, none, none] _
 have S17 : M (_ :: Rs) H12 := (M.drp S13 0)
 refine g_seq (g_asg (g_op (g_lst (g_cons (g_c (g_cons (g_c (g_cons (g_c (g_nil (v_lsto (ds := ([1000, 2, 1000] : List Int).map eI) S17 (EnF.consA (EnF.all λ _ => .int _) (EnF.consA (EnF.all λ _ => .int _) (EnF.consA (EnF.all λ _ => .int _) EnF.nilA))) (len_ok rfl) λ p18 H20 (S19 : M (acR K p18 (([1000, 2, 1000] : List Int).map eI) :: _ :: Rs) H20) => ?_)))))))))))
 refine g_call (g_cons (g_var rfl (g_cons (g_c (g_nil ?_)))))
 obtain ⟨h22, hf⟩ := hf
 refine u_take (S19.at 1 rfl) h22 λ n23 H25 n23l n23u (S24 : M (oo2 Rs) H25) => ?_
 replace hf := hf n23 n23l n23u
 have S26 : M (da K (V.ref p18) ((eL eI) ([1000, 2, 1000] : List Int)) :: _ :: Rs) H25 := acR_fixL (S24.at 1 rfl)
 obtain ⟨x28, h29, hf⟩ := hf
 refine v_ixN flI (M.gotA S26 0 rfl) h29 (g_nx ?_)
 show (_ : TS) _ [some (V.ref a_bag_here), some (V.int x15), some (V.int x28), none, none] _
 have S30 : M (_ :: Rs) H25 := (M.drp S26 0)
 obtain ⟨h33, hf⟩ := hf
 refine g_seq (g_asg (g_lc (g_iRng1 (g_cons (g_var rfl (g_nil (v_itR h33 ?_)))))))
 refine lc_rng (K := K) (e' := eI) hf S30 (λ x37 acc34 E35 H43 kk36 N38 hl39 S42 hf hp40 hn41 => ?_) (λ E35 acc34 H52 hf S51 => ?_)
 ·
  refine g_name (g_wipe rfl (g_yes (v_ifT (g_call (g_cons (g_var rfl (g_cons (g_var rfl (g_nil ?_)))))))))
  obtain ⟨h45, hf⟩ := hf
  refine u_take (S42.at 1 rfl) h45 λ n46 H48 n46l n46u (S47 : M (_ :: acR K E35 (acc34.map eI) :: Rs) H48) => ?_
  replace hf := hf n46 n46l n46u
  refine acR_put S47 1 rfl (EnF.all λ _ => .int _) hl39 λ H50 (S49 : M (acR K E35 (acc34.map eI ++ [eI n46]) :: _ :: Rs) H50) => ?_
  exact hp40 _ _ hf (M.pk S49 2 [0, 1] rfl)
 refine g_nx ?_
 show (_ : TS) _ [some (V.ref a_bag_here), some (V.int x15), some (V.int x28), some (V.ref E35), none] _
 refine jn_cut (β := (List Int)) hf (λ (s54 : (List Int)) σ H' => σ = [some (V.ref a_bag_here), some (V.int x15), some (V.int x28), some (V.ref E35), none] /\ M (acR K E35 (s54.map eI) :: bagR a_bag_here :: Rs) H') (λ kk56 N57 hN58 hf => ?_) ?_
 ·
  refine g_if (g_test (g_op (g_call (g_cons (g_var rfl (g_cons (g_c (g_nil ?_))))))))
  obtain ⟨h60, hf⟩ := hf
  refine u_take (S51.at 1 rfl) h60 λ n61 H63 n61l n61u (S62 : M (_ :: acR K E35 (acc34.map eI) :: Rs) H63) => ?_
  replace hf := hf n61 n61l n61u
  refine g_c (v_eqI (g_bl (v_iff hf (λ _ hf => ?_) (λ _ hf => ?_))))
  ·
   refine g_asgX (g_c (g_sub (g_var rfl (g_call (g_cons (g_var rfl (g_cons (g_var rfl (g_nil ?_)))))))))
   obtain ⟨h64, hf⟩ := hf
   refine u_take (S62.at 0 rfl) h64 λ n65 H67 n65l n65u (S66 : M (oo2 Rs) H67) => ?_
   replace hf := hf n65 n65l n65u
   obtain ⟨m68, h69, hf⟩ := hf
   refine v_setl (e := eI) (x := 999) S66 1 rfl h69 (EnF.all λ _ => .int _) λ H71 (S70 : M (acR K E35 ((acc34.set m68 999).map eI) :: _ :: Rs) H71) => ?_
   exact hN58 _ _ _ hf ⟨rfl, (M.pk S70 2 [0, 1] rfl)⟩
  ·
   refine g_next ?_
   exact hN58 _ _ _ hf ⟨rfl, (M.pk S62 2 [1, 0] rfl)⟩
 rintro s54 _ H74 hf ⟨rfl, S73⟩
 refine g_ret (g_var rfl ?_)
 have S75 : M (da K (V.ref E35) ((eL eI) s54) :: _ :: Rs) H74 := acR_fixL S73
 exact hk _ _ _ hf (M.pk S75 2 [0, 1] rfl)
def p_l_pool  (P : (List (List Int)) -> Prop) : Prop := p_l_signs λ x1 => takeD 5 λ n12 => ((-(2 ^ 62) : Int) <= (1 + n12) /\ (1 + n12) < (2 ^ 62 : Int)) /\ forD (λ (x19 : Int) (s16 : (List (List Int))) (k17 : ((List (List Int))) -> Prop) => takeD ((s16).length : Int) λ n27 => ∃ x30, atI s16 n27 = some x30 /\ takeD 1000 λ n41 => takeD ((x30).length : Int) λ n45 => ∃ m48, ixN (x30).length n45 = some m48 /\ takeD 1000 λ n54 => jn (β := (List Int)) (λ k70 => if (!((cutL (x30.set m48 n41) (some 1) none)).isEmpty) = true then (k70 (cutL (x30.set m48 n41) (some 1) none)) else (k70 ([n54]))) λ x65 => ((x30.set m48 n41)).length + ([n54]).length <= 100000 /\ p_l_signs λ x93 => takeD 4 λ n103 => ∃ x108, atI ([(x30.set m48 n41), x65, (cutL (cat (x30.set m48 n41) ([n54])) (some (-16)) none), x93]) n103 = some x108 /\ (s16).length < 100000 /\ k17 (sno s16 x108)) (rng (1 + n12)) ([x1]) λ s16 => P s16
def sp_l_pool (K : Fr) : Sp := λ vs H Q _ => ∃ (Rs : List Res) (a_bag_here : Addr) (P : (List (List Int)) -> Prop), vs = [(V.ref a_bag_here)] /\ M (bagR a_bag_here :: Rs) H /\ p_l_pool P /\ ∀ (r : (List (List Int))) (v : V) H', P r -> M (da K v ((eL (eL eI)) r) :: bagR a_bag_here :: Rs) H' -> Q v H'
theorem len_l_pool {K : Fr} (vs : List V) (H : Hp) (Q : VK) (E : XK) (h : sp_l_pool K vs H Q E) : vs.length = 1 := by
 obtain ⟨Rs, a_bag_here, P, rfl, _⟩ := h
 rfl
abbrev t_l_pool_5 (K : Fr) : TS := (tSeq (tAsg (tLst (tCons (tCall (sp_l_take K) [] E0 (tCons (tVar 0) (tCons (tC (.int 1000)) tNil))) tNil)) (gName 4))
 (tDrop (tBM K "list" rAppend (tVar 1) (tCons (tOp (uIx K) (tLst (tCons (tVar 3) (tCons (tOrT K (tSl (uSl K) (tVar 3) (tPart (tC (.int 1))) tNoPart) (tVar 4)) (tCons (tSl (uSl K) (tOp (uAdd K) (tVar 3) (tVar 4)) (tPart (tUn (rU λ i => .int (-i)) (tC (.int 16)))) tNoPart) (tCons (tCall (sp_l_signs K) [] E0 (tCons (tVar 0) tNil)) tNil))))) (tCall (sp_l_take K) [] E0 (tCons (tVar 0) (tCons (tC (.int 4)) tNil)))) tNil))))
abbrev t_l_pool_4 (K : Fr) : TS := (tSeq (tAsg (tCall (sp_l_take K) [] E0 (tCons (tVar 0) (tCons (tC (.int 1000)) tNil))) (gSub (tVar 3) (tCall (sp_l_take K) [] E0 (tCons (tVar 0) (tCons (tCB (uLen K) (tCons (tVar 3) tNil)) tNil))) uSet))
 (t_l_pool_5 K))
abbrev t_l_pool_3 (K : Fr) : TS := (tSeq (tAsg (tCB (rListOf K) (tCons (tOp (uIx K) (tVar 1) (tCall (sp_l_take K) [] E0 (tCons (tVar 0) (tCons (tCB (uLen K) (tCons (tVar 1) tNil)) tNil)))) tNil)) (gName 3))
 (t_l_pool_4 K))
abbrev t_l_pool_2 (K : Fr) : TS := (tSeq (tFor (iRng1 (tCons (tOp (uAdd K) (tC (.int 1)) (tCall (sp_l_take K) [] E0 (tCons (tVar 0) (tCons (tC (.int 5)) tNil)))) tNil)) (gName 2) (t_l_pool_3 K))
 (tRet (tVar 1)))
abbrev t_l_pool_1 (K : Fr) : TS := (tSeq (tAsg (tLst (tCons (tCall (sp_l_signs K) [] E0 (tCons (tVar 0) tNil)) tNil)) (gName 1))
 (t_l_pool_2 K))
abbrev t_l_pool (K : Fr) : TS := (t_l_pool_1 K)
theorem pure_l_pool {K : Fr} (vs : List V) (H : Hp) (Q : VK) (E : XK) (h : sp_l_pool K vs H Q E) : t_l_pool K { nx := λ _ H' => Q .non H', rt := Q } (L2.start ["_law_bag_here", "_law_found", "_law_k", "_law_signs_here", "_law_more"] vs) H := by
 obtain ⟨Rs, a_bag_here, P, rfl, S0, hf, hk⟩ := h
 show t_l_pool K _ [some (V.ref a_bag_here), none, none, none, none] H
 refine g_seq (g_asg (g_lst (g_cons (g_call (g_cons (g_var rfl (g_nil (⟨_, _, _, rfl, (M.at S0 0 rfl), hf, λ x1 u4 H3 hf (S2 : M (da K u4 ((eL eI) x1) :: _ :: Rs) H3) => ?_⟩))))))))
 refine g_nil (v_lsto (ds := ([x1]).map (eL eI)) S2 (EnF.consA (EnF.at 0 rfl) EnF.nilA) (len_ok rfl) λ p6 H8 (S7 : M (acR K p6 (([x1]).map (eL eI)) :: oo2 Rs) H8) => ?_)
 refine g_nx ?_
 show (_ : TS) _ [some (V.ref a_bag_here), some (V.ref p6), none, none, none] _
 have S10 : M (oo2 Rs) H8 := (M.drp S7 1)
 refine g_seq (g_for (g_iRng1 (g_cons (g_op (g_c (g_call (g_cons (g_var rfl (g_cons (g_c (g_nil ?_)))))))))))
 obtain ⟨h11, hf⟩ := hf
 refine u_take (S10.at 1 rfl) h11 λ n12 H14 n12l n12u (S13 : M (oo2 Rs) H14) => ?_
 replace hf := hf n12 n12l n12u
 obtain ⟨h15, hf⟩ := hf
 refine v_add (g_nil (v_itR h15 ?_))
 refine for_rng (β := (List (List Int))) hf (λ (s16 : (List (List Int))) σ H' => ∃ (o21 : Option V) (o22 : Option V) (o23 : Option V), σ = [some (V.ref a_bag_here), some (V.ref p6), o21, o22, o23] /\ M (acR K p6 (s16.map (eL eI)) :: bagR a_bag_here :: Rs) H') ⟨_, _, _, rfl, (M.pk S13 2 [1, 0] rfl)⟩ ?_ ?_
 ·
  rintro x19 s16 _ H25 kk18 ⟨o21, o22, o23, rfl, S24⟩ hf
  refine g_name (g_seq (g_asg (g_cb (g_cons (g_op (g_var rfl (g_call (g_cons (g_var rfl (g_cons (g_cb (g_cons (g_var rfl (g_nil (v_leno S24 0 rfl (g_nil ?_))))))))))))))))
  obtain ⟨h26, hf⟩ := hf
  refine u_take (S24.at 1 rfl) h26 λ n27 H29 n27l n27u (S28 : M (oo2 Rs) H29) => ?_
  replace hf := hf n27 n27l n27u
  obtain ⟨x30, h31, hf⟩ := hf
  refine v_ixo S28 1 rfl h31 λ u32 S33 => ?_
  refine g_nil (v_liN flI S33 (M.gotA S33 0 rfl) λ p35 H37 (S36 : M (acR K p35 (x30.map eI) :: da K u32 ((eL eI) x30) :: oo2 Rs) H37) => ?_)
  refine g_nx ?_
  show (_ : TS) _ [some (V.ref a_bag_here), some (V.ref p6), some (V.int x19), some (V.ref p35), o23] _
  have S39 : M (oo3 Rs) H37 := (M.drp S36 1)
  refine g_seq (g_asgX (g_call (g_cons (g_var rfl (g_cons (g_c (g_nil ?_)))))))
  obtain ⟨h40, hf⟩ := hf
  refine u_take (S39.at 1 rfl) h40 λ n41 H43 n41l n41u (S42 : M (oo3 Rs) H43) => ?_
  replace hf := hf n41 n41l n41u
  refine g_sub (g_var rfl (g_call (g_cons (g_var rfl (g_cons (g_cb (g_cons (g_var rfl (g_nil (v_lenN (M.gotO S42 1 rfl) (g_nil ?_)))))))))))
  obtain ⟨h44, hf⟩ := hf
  refine u_take (S42.at 0 rfl) h44 λ n45 H47 n45l n45u (S46 : M (oo3 Rs) H47) => ?_
  replace hf := hf n45 n45l n45u
  obtain ⟨m48, h49, hf⟩ := hf
  refine v_setl (e := eI) (x := n41) S46 1 rfl h49 (EnF.all λ _ => .int _) λ H51 (S50 : M (acR K p35 ((x30.set m48 n41).map eI) :: oo2 Rs) H51) => ?_
  refine g_nx ?_
  show (_ : TS) _ [some (V.ref a_bag_here), some (V.ref p6), some (V.int x19), some (V.ref p35), o23] _
  refine g_seq (g_asg (g_lst (g_cons (g_call (g_cons (g_var rfl (g_cons (g_c (g_nil ?_)))))))))
  obtain ⟨h53, hf⟩ := hf
  refine u_take (S50.at 1 rfl) h53 λ n54 H56 n54l n54u (S55 : M (oo3 Rs) H56) => ?_
  replace hf := hf n54 n54l n54u
  refine g_nil (v_lsto (ds := ([n54]).map eI) S55 (EnF.consA (EnF.all λ _ => .int _) EnF.nilA) (len_ok rfl) λ p57 H59 (S58 : M (acR K p57 (([n54]).map eI) :: oo3 Rs) H59) => ?_)
  have S61 : M (da K (V.ref p57) ((eL eI) ([n54])) :: oo3 Rs) H59 := acR_fixL S58
  refine g_nx ?_
  show (_ : TS) _ [some (V.ref a_bag_here), some (V.ref p6), some (V.int x19), some (V.ref p35), some (V.ref p57)] _
  refine g_drop (g_bm (g_var rfl (M.tyO S61 3 rfl (g_cons (g_op (g_lst (g_cons (g_var rfl ?_))))))))
  have S63 : M (da K (V.ref p35) ((eL eI) (x30.set m48 n41)) :: oo3 Rs) H59 := acR_fixL (S61.at 2 rfl)
  refine g_cons ?_
  refine tx_cut (β := (List Int)) hf (λ (x : (List Int)) v H => M (da K v ((eL eI) x) :: da K (V.ref p35) ((eL eI) (x30.set m48 n41)) :: da K (V.ref p57) ((eL eI) ([n54])) :: bagR a_bag_here :: acR K p6 (s16.map (eL eI)) :: Rs) H) (λ kk67 P68 hP69 hf => ?_) ?_
  ·
   refine g_orT (g_sl (g_var rfl (g_part (g_c (g_int (g_noPart (v_slN flI S63 (M.gotA S63 0 rfl) λ p71 H73 (S72 : M (acR K p71 ((cutL (x30.set m48 n41) (some 1) none).map eI) :: oo4 Rs) H73) => ?_)))))))
   have S75 : M (da K (V.ref p71) ((eL eI) (cutL (x30.set m48 n41) (some 1) none)) :: oo4 Rs) H73 := acR_fixL S72
   refine v_orL (M.gotA S75 0 rfl) hf (λ hf => ?_) (λ hf => ?_)
   ·
    exact hP69 _ _ _ hf (M.sub (.cons 0 rfl (.cons 1 rfl (.cons 1 rfl (.cons 1 rfl (.cons 1 rfl (.tl (.refl _))))))) (M.addA S75 (EnF.at 0 rfl)))
   ·
    refine g_var rfl ?_
    exact hP69 _ _ _ hf (M.sub (.cons 0 rfl (.cons 1 rfl (.cons 1 rfl (.cons 1 rfl (.cons 1 rfl (.tl (.refl _))))))) (M.addA S75 (EnF.at 2 rfl)))
  intro x65 v66 H78 hf S77
  refine g_cons (g_sl (g_op (g_var rfl (g_var rfl ?_))))
  obtain ⟨h80, hf⟩ := hf
  refine v_catN flI S77 (M.gotA S77 1 rfl) (M.gotA S77 2 rfl) h80 λ p81 H83 (S82 : M (acR K p81 ((cat (x30.set m48 n41) ([n54])).map eI) :: da K v66 ((eL eI) x65) :: da K (V.ref p35) ((eL eI) (x30.set m48 n41)) :: da K (V.ref p57) ((eL eI) ([n54])) :: bagR a_bag_here :: acR K p6 (s16.map (eL eI)) :: Rs) H83) => ?_
  have S85 : M (da K (V.ref p81) ((eL eI) (cat (x30.set m48 n41) ([n54]))) :: oo5 Rs) H83 := acR_fixL S82
  refine g_part (g_un (g_c (v_neg (g_int (g_noPart (v_slN flI S85 (M.gotA S85 0 rfl) λ p87 H89 (S88 : M (acR K p87 ((cutL (cat (x30.set m48 n41) ([n54])) (some (-16)) none).map eI) :: oo6 Rs) H89) => ?_))))))
  have S91 : M (da K (V.ref p87) ((eL eI) (cutL (cat (x30.set m48 n41) ([n54])) (some (-16)) none)) :: oo6 Rs) H89 := acR_fixL S88
  refine g_cons (g_call (g_cons (g_var rfl (g_nil (⟨_, _, _, rfl, (M.at S91 5 rfl), hf, λ x93 u96 H95 hf (S94 : M (da K u96 ((eL eI) x93) :: oo7 Rs) H95) => ?_⟩)))))
  refine g_nil (v_lsto (ds := ([(x30.set m48 n41), x65, (cutL (cat (x30.set m48 n41) ([n54])) (some (-16)) none), x93]).map (eL eI)) S94 (EnF.consA (EnF.at 5 rfl) (EnF.consA (EnF.at 4 rfl) (EnF.consA (EnF.at 2 rfl) (EnF.consA (EnF.at 0 rfl) EnF.nilA)))) (len_ok rfl) λ p98 H100 (S99 : M (acR K p98 (([(x30.set m48 n41), x65, (cutL (cat (x30.set m48 n41) ([n54])) (some (-16)) none), x93]).map (eL eI)) :: oo8 Rs) H100) => ?_)
  refine g_call (g_cons (g_var rfl (g_cons (g_c (g_nil ?_)))))
  obtain ⟨h102, hf⟩ := hf
  refine u_take (S99.at 2 rfl) h102 λ n103 H105 n103l n103u (S104 : M (oo9 Rs) H105) => ?_
  replace hf := hf n103 n103l n103u
  have S106 : M (da K (V.ref p98) ((eL (eL eI)) ([(x30.set m48 n41), x65, (cutL (cat (x30.set m48 n41) ([n54])) (some (-16)) none), x93])) :: oo8 Rs) H105 := acR_fixL (S104.at 1 rfl)
  obtain ⟨x108, h109, hf⟩ := hf
  refine v_ixl S106 0 rfl h109 λ u110 S111 => ?_
  refine g_nil ?_
  obtain ⟨h113, hf⟩ := hf
  refine v_apl (e := (eL eI)) (x := x108) S111 9 rfl (EnF.at 0 rfl) h113 λ H115 (S114 : M (acR K p6 ((sno s16 x108).map (eL eI)) :: da K u110 ((eL eI) x108) :: oo8 Rs) H115) => ?_
  exact ⟨_, hf, _, _, _, rfl, (M.pk S114 10 [0, 3] rfl)⟩
 rintro s16 _ H118 hf ⟨o21, o22, o23, rfl, S117⟩
 refine g_nx ?_
 show (_ : TS) _ [some (V.ref a_bag_here), some (V.ref p6), o21, o22, o23] _
 refine g_ret (g_var rfl ?_)
 have S119 : M (da K (V.ref p6) ((eL (eL eI)) s16) :: _ :: Rs) H118 := acR_fixL S117
 exact hk _ _ _ hf (M.pk S119 2 [0, 1] rfl)
def p_l_refusal (x : Ex) (P : PyData -> Prop) : Prop := match x with
 | .Wrong w => ([true, false, false, false]).length + ([false]).length <= 100000 /\ P ((eP eS eA) (("wrong" : Str), w))
 | .NoRoom w => ([false, true, false, false]).length + ([false]).length <= 100000 /\ P ((eP eS eA) (("room" : Str), w))
 | .NoPiece w => ([false, false, true, false]).length + ([false]).length <= 100000 /\ ∃ x75, atI ([("piece" : Str), ("unlike" : Str), ("broken" : Str)]) (2 - 2) = some x75 /\ P ((eP eS eA) (x75, w))
 | .Unlike w => ([false, false, false, true]).length + ([false]).length <= 100000 /\ ∃ x107, atI ([("piece" : Str), ("unlike" : Str), ("broken" : Str)]) (3 - 2) = some x107 /\ P ((eP eS eA) (x107, w))
 | .Broken w => ([false, false, false, false]).length + ([true]).length <= 100000 /\ ∃ x139, atI ([("piece" : Str), ("unlike" : Str), ("broken" : Str)]) (4 - 2) = some x139 /\ P ((eP eS eA) (x139, w))
def sp_l_refusal (K : Fr) (a : Addr) (cls : Value) (d : Option Addr) (H : Hp) (Q : VK) : Prop := ∃ (Rs : List Res) (dd : Addr) (v : V) (x : Ex) (P : PyData -> Prop), cls = .ref (He.ga K x.cls) /\ d = some dd /\ M (pt dd (.xd [(x.fld, v)]) :: da K v x.val :: Rs) H /\ p_l_refusal x P /\ ∀ (r : PyData) (u : V) H', P r -> M (da K u (eA r) :: pt dd (.xd [(x.fld, v)]) :: da K v x.val :: Rs) H' -> Q u H'
abbrev t_l_refusal_8 (K : Fr) (a : Addr) (cls : Value) (d : Option Addr) : TS := (tSeq (tIfS (tTest (tOp (uEq K) (tVar 2) (tC (.int 1)))) (tRet (tTup (tCons (tC (.str "room")) (tCons (tXg K a cls d "room" (tVar 0)) tNil)))) tNext)
 (tRet (tTup (tCons (tOp (uIx K) (tLst (tCons (tC (.str "piece")) (tCons (tC (.str "unlike")) (tCons (tC (.str "broken")) tNil)))) (tOp uSub (tVar 2) (tC (.int 2)))) (tCons (tXg K a cls d "seal" (tVar 0)) tNil)))))
abbrev t_l_refusal_6 (K : Fr) (a : Addr) (cls : Value) (d : Option Addr) : TS := (tSeq (tIfS (tTest (tOp (uEq K) (tVar 2) (tC (.int 0)))) (tRet (tTup (tCons (tC (.str "wrong")) (tCons (tXg K a cls d "at" (tVar 0)) tNil)))) tNext)
 (t_l_refusal_8 K a cls d))
abbrev t_l_refusal_5 (K : Fr) (a : Addr) (cls : Value) (d : Option Addr) : TS := (tSeq (tAsg (tBM K "list" (rIndex K) (tVar 1) (tCons (tC (.bl true)) tNil)) (gName 2))
 (t_l_refusal_6 K a cls d))
abbrev t_l_refusal_3 (K : Fr) (a : Addr) (cls : Value) (d : Option Addr) : TS := (tSeq (tIfS (tTest (tOp (uNe K) (tBM K "list" (rCntV K) (tVar 1) (tCons (tC (.bl true)) tNil)) (tC (.int 1)))) (tRet (tTup (tCons (tC (.str "other")) tNil))) tNext)
 (t_l_refusal_5 K a cls d))
abbrev t_l_refusal_2 (K : Fr) (a : Addr) (cls : Value) (d : Option Addr) : TS := (tSeq (tAsg (tOp (uAdd K) (tVar 1) (tLst (tCons (tCB (uIsX K a cls d) (tCons (tVar 0) (tCons (tC (.ref (He.ga K "Broken"))) tNil))) tNil))) (gName 1))
 (t_l_refusal_3 K a cls d))
abbrev t_l_refusal_1 (K : Fr) (a : Addr) (cls : Value) (d : Option Addr) : TS := (tSeq (tAsg (tLst (tCons (tCB (uIsX K a cls d) (tCons (tVar 0) (tCons (tC (.ref (He.ga K "Wrong"))) tNil))) (tCons (tCB (uIsX K a cls d) (tCons (tVar 0) (tCons (tC (.ref (He.ga K "NoRoom"))) tNil))) (tCons (tCB (uIsX K a cls d) (tCons (tVar 0) (tCons (tC (.ref (He.ga K "NoPiece"))) tNil))) (tCons (tCB (uIsX K a cls d) (tCons (tVar 0) (tCons (tC (.ref (He.ga K "Unlike"))) tNil))) tNil))))) (gName 1))
 (t_l_refusal_2 K a cls d))
abbrev t_l_refusal (K : Fr) (a : Addr) (cls : Value) (d : Option Addr) : TS := (t_l_refusal_1 K a cls d)
theorem pure_l_refusal {K : Fr} (T : TxC K) (a : Addr) (cls : Value) (d : Option Addr) (H : Hp) (Q : VK) (h : sp_l_refusal K a cls d H Q) : t_l_refusal K a cls d { nx := λ _ H' => Q .non H', rt := Q } (L2.start ["_law_e", "_law_some", "_law_at"] [.ref a]) H := by
 obtain ⟨Rs, dd, v, x, P, rfl, rfl, S0, hf, hk⟩ := h
 show t_l_refusal K a _ _ _ [some (V.ref a), none, none] H
 cases x with
 | Wrong w =>
   refine g_seq (g_asg (g_lst (g_cons (g_cb (g_cons (g_var rfl (g_cons (g_c (g_nil (v_isX T.xc_Wrong (S0.got 0 rfl) T.xk_Wrong_Wrong (g_cons (g_cb (g_cons (g_var rfl (g_cons (g_c (g_nil (v_isX T.xc_Wrong (S0.got 0 rfl) T.xk_Wrong_NoRoom (g_cons (g_cb (g_cons (g_var rfl (g_cons (g_c (g_nil (v_isX T.xc_Wrong (S0.got 0 rfl) T.xk_Wrong_NoPiece (g_cons (g_cb (g_cons (g_var rfl (g_cons (g_c (g_nil (v_isX T.xc_Wrong (S0.got 0 rfl) T.xk_Wrong_Unlike (g_nil (v_lsto (ds := ([true, false, false, false]).map eB) S0 (EnF.consA (EnF.all λ _ => .bl _) (EnF.consA (EnF.all λ _ => .bl _) (EnF.consA (EnF.all λ _ => .bl _) (EnF.consA (EnF.all λ _ => .bl _) EnF.nilA)))) (len_ok rfl) λ p1 H3 (S2 : M (acR K p1 (([true, false, false, false]).map eB) :: pt dd (.xd [("at", v)]) :: da K v w :: Rs) H3) => ?_))))))))))))))))))))))))))))))))))))
   have S5 : M (da K (V.ref p1) ((eL eB) ([true, false, false, false])) :: pt dd (.xd [("at", v)]) :: da K v w :: Rs) H3 := acR_fixL S2
   refine g_nx ?_
   show (_ : TS) _ [some (V.ref a), some (V.ref p1), none] _
   refine g_seq (g_asg (g_op (g_var rfl (g_lst (g_cons (g_cb (g_cons (g_var rfl (g_cons (g_c (g_nil (v_isX T.xc_Wrong (S5.got 1 rfl) T.xk_Wrong_Broken (g_nil (v_lsto (ds := ([false]).map eB) S5 (EnF.consA (EnF.all λ _ => .bl _) EnF.nilA) (len_ok rfl) λ p7 H9 (S8 : M (acR K p7 (([false]).map eB) :: da K (V.ref p1) ((eL eB) ([true, false, false, false])) :: pt dd (.xd [("at", v)]) :: da K v w :: Rs) H9) => ?_))))))))))))))
   have S11 : M (da K (V.ref p7) ((eL eB) ([false])) :: da K (V.ref p1) ((eL eB) ([true, false, false, false])) :: pt dd (.xd [("at", v)]) :: da K v w :: Rs) H9 := acR_fixL S8
   obtain ⟨h13, hf⟩ := hf
   refine v_catN flB S11 (M.gotA S11 1 rfl) (M.gotA S11 0 rfl) h13 λ p14 H16 (S15 : M (acR K p14 ((cat ([true, false, false, false]) ([false])).map eB) :: da K (V.ref p7) ((eL eB) ([false])) :: da K (V.ref p1) ((eL eB) ([true, false, false, false])) :: pt dd (.xd [("at", v)]) :: da K v w :: Rs) H16) => ?_
   have S18 : M (da K (V.ref p14) ((eL eB) (cat ([true, false, false, false]) ([false]))) :: da K (V.ref p7) ((eL eB) ([false])) :: da K (V.ref p1) ((eL eB) ([true, false, false, false])) :: pt dd (.xd [("at", v)]) :: da K v w :: Rs) H16 := acR_fixL S15
   refine g_nx ?_
   show (_ : TS) _ [some (V.ref a), some (V.ref p14), none] _
   have S20 : M (da K (V.ref p14) ((eL eB) (cat ([true, false, false, false]) ([false]))) :: pt dd (.xd [("at", v)]) :: da K v w :: Rs) H16 := (M.drp (M.drp S18 2) 1)
   refine g_seq (g_if (g_test (g_op (g_bm (g_var rfl (M.tyA S20 0 rfl (g_cons (g_c (g_nil (v_cntBc (n := 1) (M.gotA S20 0 rfl) (by decide) (g_c (v_neI (g_bl (v_ifcF (by decide) (g_next (g_nx (g_seq (g_asg (g_bm (g_var rfl (M.tyA S20 0 rfl (g_cons (g_c (g_nil (v_idxBc (n := 0) (M.gotA S20 0 rfl) rfl (by decide) (g_nx ?_))))))))))))))))))))))))))
   show (_ : TS) _ [some (V.ref a), some (V.ref p14), some (V.int 0)] _
   refine g_seq (g_if (g_test (g_op (g_var rfl (g_c (v_eqI (g_bl (v_ifcT (by decide) (g_ret (g_tup (g_cons (g_c (g_cons (g_xgv rfl T.xc_Wrong (chN_ok T.xn_Wrong_at) (S20.got 1 rfl) rfl (g_nil (v_tupq S20 (EnF.consA (EnF.all λ _ => .str _) (EnF.consA (EnF.at 2 rfl) EnF.nilA)) (len_ok rfl) λ p21 H23 (S22 : M (da K (V.ref p21) ((eP eS eA) (("wrong" : Str), w)) :: da K (V.ref p14) ((eL eB) (cat ([true, false, false, false]) ([false]))) :: pt dd (.xd [("at", v)]) :: da K v w :: Rs) H23) => ?_))))))))))))))))
   exact hk _ _ _ hf (M.sub (.cons 0 rfl (.cons 1 rfl (.cons 1 rfl (.tl (.refl _))))) S22)
 | NoRoom w =>
   refine g_seq (g_asg (g_lst (g_cons (g_cb (g_cons (g_var rfl (g_cons (g_c (g_nil (v_isX T.xc_NoRoom (S0.got 0 rfl) T.xk_NoRoom_Wrong (g_cons (g_cb (g_cons (g_var rfl (g_cons (g_c (g_nil (v_isX T.xc_NoRoom (S0.got 0 rfl) T.xk_NoRoom_NoRoom (g_cons (g_cb (g_cons (g_var rfl (g_cons (g_c (g_nil (v_isX T.xc_NoRoom (S0.got 0 rfl) T.xk_NoRoom_NoPiece (g_cons (g_cb (g_cons (g_var rfl (g_cons (g_c (g_nil (v_isX T.xc_NoRoom (S0.got 0 rfl) T.xk_NoRoom_Unlike (g_nil (v_lsto (ds := ([false, true, false, false]).map eB) S0 (EnF.consA (EnF.all λ _ => .bl _) (EnF.consA (EnF.all λ _ => .bl _) (EnF.consA (EnF.all λ _ => .bl _) (EnF.consA (EnF.all λ _ => .bl _) EnF.nilA)))) (len_ok rfl) λ p25 H27 (S26 : M (acR K p25 (([false, true, false, false]).map eB) :: pt dd (.xd [("room", v)]) :: da K v w :: Rs) H27) => ?_))))))))))))))))))))))))))))))))))))
   have S29 : M (da K (V.ref p25) ((eL eB) ([false, true, false, false])) :: pt dd (.xd [("room", v)]) :: da K v w :: Rs) H27 := acR_fixL S26
   refine g_nx ?_
   show (_ : TS) _ [some (V.ref a), some (V.ref p25), none] _
   refine g_seq (g_asg (g_op (g_var rfl (g_lst (g_cons (g_cb (g_cons (g_var rfl (g_cons (g_c (g_nil (v_isX T.xc_NoRoom (S29.got 1 rfl) T.xk_NoRoom_Broken (g_nil (v_lsto (ds := ([false]).map eB) S29 (EnF.consA (EnF.all λ _ => .bl _) EnF.nilA) (len_ok rfl) λ p31 H33 (S32 : M (acR K p31 (([false]).map eB) :: da K (V.ref p25) ((eL eB) ([false, true, false, false])) :: pt dd (.xd [("room", v)]) :: da K v w :: Rs) H33) => ?_))))))))))))))
   have S35 : M (da K (V.ref p31) ((eL eB) ([false])) :: da K (V.ref p25) ((eL eB) ([false, true, false, false])) :: pt dd (.xd [("room", v)]) :: da K v w :: Rs) H33 := acR_fixL S32
   obtain ⟨h37, hf⟩ := hf
   refine v_catN flB S35 (M.gotA S35 1 rfl) (M.gotA S35 0 rfl) h37 λ p38 H40 (S39 : M (acR K p38 ((cat ([false, true, false, false]) ([false])).map eB) :: da K (V.ref p31) ((eL eB) ([false])) :: da K (V.ref p25) ((eL eB) ([false, true, false, false])) :: pt dd (.xd [("room", v)]) :: da K v w :: Rs) H40) => ?_
   have S42 : M (da K (V.ref p38) ((eL eB) (cat ([false, true, false, false]) ([false]))) :: da K (V.ref p31) ((eL eB) ([false])) :: da K (V.ref p25) ((eL eB) ([false, true, false, false])) :: pt dd (.xd [("room", v)]) :: da K v w :: Rs) H40 := acR_fixL S39
   refine g_nx ?_
   show (_ : TS) _ [some (V.ref a), some (V.ref p38), none] _
   have S44 : M (da K (V.ref p38) ((eL eB) (cat ([false, true, false, false]) ([false]))) :: pt dd (.xd [("room", v)]) :: da K v w :: Rs) H40 := (M.drp (M.drp S42 2) 1)
   refine g_seq (g_if (g_test (g_op (g_bm (g_var rfl (M.tyA S44 0 rfl (g_cons (g_c (g_nil (v_cntBc (n := 1) (M.gotA S44 0 rfl) (by decide) (g_c (v_neI (g_bl (v_ifcF (by decide) (g_next (g_nx (g_seq (g_asg (g_bm (g_var rfl (M.tyA S44 0 rfl (g_cons (g_c (g_nil (v_idxBc (n := 1) (M.gotA S44 0 rfl) rfl (by decide) (g_nx ?_))))))))))))))))))))))))))
   show (_ : TS) _ [some (V.ref a), some (V.ref p38), some (V.int 1)] _
   refine g_seq (g_if (g_test (g_op (g_var rfl (g_c (v_eqI (g_bl (v_ifcF (by decide) (g_next (g_nx (g_seq (g_if (g_test (g_op (g_var rfl (g_c (v_eqI (g_bl (v_ifcT (by decide) (g_ret (g_tup (g_cons (g_c (g_cons (g_xgv rfl T.xc_NoRoom (chN_ok T.xn_NoRoom_room) (S44.got 1 rfl) rfl (g_nil (v_tupq S44 (EnF.consA (EnF.all λ _ => .str _) (EnF.consA (EnF.at 2 rfl) EnF.nilA)) (len_ok rfl) λ p45 H47 (S46 : M (da K (V.ref p45) ((eP eS eA) (("room" : Str), w)) :: da K (V.ref p38) ((eL eB) (cat ([false, true, false, false]) ([false]))) :: pt dd (.xd [("room", v)]) :: da K v w :: Rs) H47) => ?_)))))))))))))))))))))))))))
   exact hk _ _ _ hf (M.sub (.cons 0 rfl (.cons 1 rfl (.cons 1 rfl (.tl (.refl _))))) S46)
 | NoPiece w =>
   refine g_seq (g_asg (g_lst (g_cons (g_cb (g_cons (g_var rfl (g_cons (g_c (g_nil (v_isX T.xc_NoPiece (S0.got 0 rfl) T.xk_NoPiece_Wrong (g_cons (g_cb (g_cons (g_var rfl (g_cons (g_c (g_nil (v_isX T.xc_NoPiece (S0.got 0 rfl) T.xk_NoPiece_NoRoom (g_cons (g_cb (g_cons (g_var rfl (g_cons (g_c (g_nil (v_isX T.xc_NoPiece (S0.got 0 rfl) T.xk_NoPiece_NoPiece (g_cons (g_cb (g_cons (g_var rfl (g_cons (g_c (g_nil (v_isX T.xc_NoPiece (S0.got 0 rfl) T.xk_NoPiece_Unlike (g_nil (v_lsto (ds := ([false, false, true, false]).map eB) S0 (EnF.consA (EnF.all λ _ => .bl _) (EnF.consA (EnF.all λ _ => .bl _) (EnF.consA (EnF.all λ _ => .bl _) (EnF.consA (EnF.all λ _ => .bl _) EnF.nilA)))) (len_ok rfl) λ p49 H51 (S50 : M (acR K p49 (([false, false, true, false]).map eB) :: pt dd (.xd [("seal", v)]) :: da K v w :: Rs) H51) => ?_))))))))))))))))))))))))))))))))))))
   have S53 : M (da K (V.ref p49) ((eL eB) ([false, false, true, false])) :: pt dd (.xd [("seal", v)]) :: da K v w :: Rs) H51 := acR_fixL S50
   refine g_nx ?_
   show (_ : TS) _ [some (V.ref a), some (V.ref p49), none] _
   refine g_seq (g_asg (g_op (g_var rfl (g_lst (g_cons (g_cb (g_cons (g_var rfl (g_cons (g_c (g_nil (v_isX T.xc_NoPiece (S53.got 1 rfl) T.xk_NoPiece_Broken (g_nil (v_lsto (ds := ([false]).map eB) S53 (EnF.consA (EnF.all λ _ => .bl _) EnF.nilA) (len_ok rfl) λ p55 H57 (S56 : M (acR K p55 (([false]).map eB) :: da K (V.ref p49) ((eL eB) ([false, false, true, false])) :: pt dd (.xd [("seal", v)]) :: da K v w :: Rs) H57) => ?_))))))))))))))
   have S59 : M (da K (V.ref p55) ((eL eB) ([false])) :: da K (V.ref p49) ((eL eB) ([false, false, true, false])) :: pt dd (.xd [("seal", v)]) :: da K v w :: Rs) H57 := acR_fixL S56
   obtain ⟨h61, hf⟩ := hf
   refine v_catN flB S59 (M.gotA S59 1 rfl) (M.gotA S59 0 rfl) h61 λ p62 H64 (S63 : M (acR K p62 ((cat ([false, false, true, false]) ([false])).map eB) :: da K (V.ref p55) ((eL eB) ([false])) :: da K (V.ref p49) ((eL eB) ([false, false, true, false])) :: pt dd (.xd [("seal", v)]) :: da K v w :: Rs) H64) => ?_
   have S66 : M (da K (V.ref p62) ((eL eB) (cat ([false, false, true, false]) ([false]))) :: da K (V.ref p55) ((eL eB) ([false])) :: da K (V.ref p49) ((eL eB) ([false, false, true, false])) :: pt dd (.xd [("seal", v)]) :: da K v w :: Rs) H64 := acR_fixL S63
   refine g_nx ?_
   show (_ : TS) _ [some (V.ref a), some (V.ref p62), none] _
   have S68 : M (da K (V.ref p62) ((eL eB) (cat ([false, false, true, false]) ([false]))) :: pt dd (.xd [("seal", v)]) :: da K v w :: Rs) H64 := (M.drp (M.drp S66 2) 1)
   refine g_seq (g_if (g_test (g_op (g_bm (g_var rfl (M.tyA S68 0 rfl (g_cons (g_c (g_nil (v_cntBc (n := 1) (M.gotA S68 0 rfl) (by decide) (g_c (v_neI (g_bl (v_ifcF (by decide) (g_next (g_nx (g_seq (g_asg (g_bm (g_var rfl (M.tyA S68 0 rfl (g_cons (g_c (g_nil (v_idxBc (n := 2) (M.gotA S68 0 rfl) rfl (by decide) (g_nx ?_))))))))))))))))))))))))))
   show (_ : TS) _ [some (V.ref a), some (V.ref p62), some (V.int 2)] _
   refine g_seq (g_if (g_test (g_op (g_var rfl (g_c (v_eqI (g_bl (v_ifcF (by decide) (g_next (g_nx (g_seq (g_if (g_test (g_op (g_var rfl (g_c (v_eqI (g_bl (v_ifcF (by decide) (g_next (g_nx (g_ret (g_tup (g_cons (g_op (g_lst (g_cons (g_c (g_cons (g_c (g_cons (g_c (g_nil (v_lsto (ds := ([("piece" : Str), ("unlike" : Str), ("broken" : Str)]).map eS) S68 (EnF.consA (EnF.all λ _ => .str _) (EnF.consA (EnF.all λ _ => .str _) (EnF.consA (EnF.all λ _ => .str _) EnF.nilA))) (len_ok rfl) λ p69 H71 (S70 : M (acR K p69 (([("piece" : Str), ("unlike" : Str), ("broken" : Str)]).map eS) :: da K (V.ref p62) ((eL eB) (cat ([false, false, true, false]) ([false]))) :: pt dd (.xd [("seal", v)]) :: da K v w :: Rs) H71) => ?_))))))))))))))))))))))))))))))))))
   refine g_op (g_var rfl (g_c (v_sub ?_)))
   have S73 : M (da K (V.ref p69) ((eL eS) ([("piece" : Str), ("unlike" : Str), ("broken" : Str)])) :: da K (V.ref p62) ((eL eB) (cat ([false, false, true, false]) ([false]))) :: pt dd (.xd [("seal", v)]) :: da K v w :: Rs) H71 := acR_fixL S70
   obtain ⟨x75, h76, hf⟩ := hf
   refine v_ixN flS (M.gotA S73 0 rfl) h76 (g_cons (g_xgv rfl T.xc_NoPiece (chN_ok T.xn_NoPiece_seal) (S73.got 2 rfl) rfl (g_nil (v_tupq S73 (EnF.consA (EnF.all λ _ => .str _) (EnF.consA (EnF.at 3 rfl) EnF.nilA)) (len_ok rfl) λ p77 H79 (S78 : M (da K (V.ref p77) ((eP eS eA) (x75, w)) :: da K (V.ref p69) ((eL eS) ([("piece" : Str), ("unlike" : Str), ("broken" : Str)])) :: da K (V.ref p62) ((eL eB) (cat ([false, false, true, false]) ([false]))) :: pt dd (.xd [("seal", v)]) :: da K v w :: Rs) H79) => ?_))))
   exact hk _ _ _ hf (M.sub (.cons 0 rfl (.cons 2 rfl (.cons 2 rfl (.tl (.tl (.refl _)))))) S78)
 | Unlike w =>
   refine g_seq (g_asg (g_lst (g_cons (g_cb (g_cons (g_var rfl (g_cons (g_c (g_nil (v_isX T.xc_Unlike (S0.got 0 rfl) T.xk_Unlike_Wrong (g_cons (g_cb (g_cons (g_var rfl (g_cons (g_c (g_nil (v_isX T.xc_Unlike (S0.got 0 rfl) T.xk_Unlike_NoRoom (g_cons (g_cb (g_cons (g_var rfl (g_cons (g_c (g_nil (v_isX T.xc_Unlike (S0.got 0 rfl) T.xk_Unlike_NoPiece (g_cons (g_cb (g_cons (g_var rfl (g_cons (g_c (g_nil (v_isX T.xc_Unlike (S0.got 0 rfl) T.xk_Unlike_Unlike (g_nil (v_lsto (ds := ([false, false, false, true]).map eB) S0 (EnF.consA (EnF.all λ _ => .bl _) (EnF.consA (EnF.all λ _ => .bl _) (EnF.consA (EnF.all λ _ => .bl _) (EnF.consA (EnF.all λ _ => .bl _) EnF.nilA)))) (len_ok rfl) λ p81 H83 (S82 : M (acR K p81 (([false, false, false, true]).map eB) :: pt dd (.xd [("seal", v)]) :: da K v w :: Rs) H83) => ?_))))))))))))))))))))))))))))))))))))
   have S85 : M (da K (V.ref p81) ((eL eB) ([false, false, false, true])) :: pt dd (.xd [("seal", v)]) :: da K v w :: Rs) H83 := acR_fixL S82
   refine g_nx ?_
   show (_ : TS) _ [some (V.ref a), some (V.ref p81), none] _
   refine g_seq (g_asg (g_op (g_var rfl (g_lst (g_cons (g_cb (g_cons (g_var rfl (g_cons (g_c (g_nil (v_isX T.xc_Unlike (S85.got 1 rfl) T.xk_Unlike_Broken (g_nil (v_lsto (ds := ([false]).map eB) S85 (EnF.consA (EnF.all λ _ => .bl _) EnF.nilA) (len_ok rfl) λ p87 H89 (S88 : M (acR K p87 (([false]).map eB) :: da K (V.ref p81) ((eL eB) ([false, false, false, true])) :: pt dd (.xd [("seal", v)]) :: da K v w :: Rs) H89) => ?_))))))))))))))
   have S91 : M (da K (V.ref p87) ((eL eB) ([false])) :: da K (V.ref p81) ((eL eB) ([false, false, false, true])) :: pt dd (.xd [("seal", v)]) :: da K v w :: Rs) H89 := acR_fixL S88
   obtain ⟨h93, hf⟩ := hf
   refine v_catN flB S91 (M.gotA S91 1 rfl) (M.gotA S91 0 rfl) h93 λ p94 H96 (S95 : M (acR K p94 ((cat ([false, false, false, true]) ([false])).map eB) :: da K (V.ref p87) ((eL eB) ([false])) :: da K (V.ref p81) ((eL eB) ([false, false, false, true])) :: pt dd (.xd [("seal", v)]) :: da K v w :: Rs) H96) => ?_
   have S98 : M (da K (V.ref p94) ((eL eB) (cat ([false, false, false, true]) ([false]))) :: da K (V.ref p87) ((eL eB) ([false])) :: da K (V.ref p81) ((eL eB) ([false, false, false, true])) :: pt dd (.xd [("seal", v)]) :: da K v w :: Rs) H96 := acR_fixL S95
   refine g_nx ?_
   show (_ : TS) _ [some (V.ref a), some (V.ref p94), none] _
   have S100 : M (da K (V.ref p94) ((eL eB) (cat ([false, false, false, true]) ([false]))) :: pt dd (.xd [("seal", v)]) :: da K v w :: Rs) H96 := (M.drp (M.drp S98 2) 1)
   refine g_seq (g_if (g_test (g_op (g_bm (g_var rfl (M.tyA S100 0 rfl (g_cons (g_c (g_nil (v_cntBc (n := 1) (M.gotA S100 0 rfl) (by decide) (g_c (v_neI (g_bl (v_ifcF (by decide) (g_next (g_nx (g_seq (g_asg (g_bm (g_var rfl (M.tyA S100 0 rfl (g_cons (g_c (g_nil (v_idxBc (n := 3) (M.gotA S100 0 rfl) rfl (by decide) (g_nx ?_))))))))))))))))))))))))))
   show (_ : TS) _ [some (V.ref a), some (V.ref p94), some (V.int 3)] _
   refine g_seq (g_if (g_test (g_op (g_var rfl (g_c (v_eqI (g_bl (v_ifcF (by decide) (g_next (g_nx (g_seq (g_if (g_test (g_op (g_var rfl (g_c (v_eqI (g_bl (v_ifcF (by decide) (g_next (g_nx (g_ret (g_tup (g_cons (g_op (g_lst (g_cons (g_c (g_cons (g_c (g_cons (g_c (g_nil (v_lsto (ds := ([("piece" : Str), ("unlike" : Str), ("broken" : Str)]).map eS) S100 (EnF.consA (EnF.all λ _ => .str _) (EnF.consA (EnF.all λ _ => .str _) (EnF.consA (EnF.all λ _ => .str _) EnF.nilA))) (len_ok rfl) λ p101 H103 (S102 : M (acR K p101 (([("piece" : Str), ("unlike" : Str), ("broken" : Str)]).map eS) :: da K (V.ref p94) ((eL eB) (cat ([false, false, false, true]) ([false]))) :: pt dd (.xd [("seal", v)]) :: da K v w :: Rs) H103) => ?_))))))))))))))))))))))))))))))))))
   refine g_op (g_var rfl (g_c (v_sub ?_)))
   have S105 : M (da K (V.ref p101) ((eL eS) ([("piece" : Str), ("unlike" : Str), ("broken" : Str)])) :: da K (V.ref p94) ((eL eB) (cat ([false, false, false, true]) ([false]))) :: pt dd (.xd [("seal", v)]) :: da K v w :: Rs) H103 := acR_fixL S102
   obtain ⟨x107, h108, hf⟩ := hf
   refine v_ixN flS (M.gotA S105 0 rfl) h108 (g_cons (g_xgv rfl T.xc_Unlike (chN_ok T.xn_Unlike_seal) (S105.got 2 rfl) rfl (g_nil (v_tupq S105 (EnF.consA (EnF.all λ _ => .str _) (EnF.consA (EnF.at 3 rfl) EnF.nilA)) (len_ok rfl) λ p109 H111 (S110 : M (da K (V.ref p109) ((eP eS eA) (x107, w)) :: da K (V.ref p101) ((eL eS) ([("piece" : Str), ("unlike" : Str), ("broken" : Str)])) :: da K (V.ref p94) ((eL eB) (cat ([false, false, false, true]) ([false]))) :: pt dd (.xd [("seal", v)]) :: da K v w :: Rs) H111) => ?_))))
   exact hk _ _ _ hf (M.sub (.cons 0 rfl (.cons 2 rfl (.cons 2 rfl (.tl (.tl (.refl _)))))) S110)
 | Broken w =>
   refine g_seq (g_asg (g_lst (g_cons (g_cb (g_cons (g_var rfl (g_cons (g_c (g_nil (v_isX T.xc_Broken (S0.got 0 rfl) T.xk_Broken_Wrong (g_cons (g_cb (g_cons (g_var rfl (g_cons (g_c (g_nil (v_isX T.xc_Broken (S0.got 0 rfl) T.xk_Broken_NoRoom (g_cons (g_cb (g_cons (g_var rfl (g_cons (g_c (g_nil (v_isX T.xc_Broken (S0.got 0 rfl) T.xk_Broken_NoPiece (g_cons (g_cb (g_cons (g_var rfl (g_cons (g_c (g_nil (v_isX T.xc_Broken (S0.got 0 rfl) T.xk_Broken_Unlike (g_nil (v_lsto (ds := ([false, false, false, false]).map eB) S0 (EnF.consA (EnF.all λ _ => .bl _) (EnF.consA (EnF.all λ _ => .bl _) (EnF.consA (EnF.all λ _ => .bl _) (EnF.consA (EnF.all λ _ => .bl _) EnF.nilA)))) (len_ok rfl) λ p113 H115 (S114 : M (acR K p113 (([false, false, false, false]).map eB) :: pt dd (.xd [("seal", v)]) :: da K v w :: Rs) H115) => ?_))))))))))))))))))))))))))))))))))))
   have S117 : M (da K (V.ref p113) ((eL eB) ([false, false, false, false])) :: pt dd (.xd [("seal", v)]) :: da K v w :: Rs) H115 := acR_fixL S114
   refine g_nx ?_
   show (_ : TS) _ [some (V.ref a), some (V.ref p113), none] _
   refine g_seq (g_asg (g_op (g_var rfl (g_lst (g_cons (g_cb (g_cons (g_var rfl (g_cons (g_c (g_nil (v_isX T.xc_Broken (S117.got 1 rfl) T.xk_Broken_Broken (g_nil (v_lsto (ds := ([true]).map eB) S117 (EnF.consA (EnF.all λ _ => .bl _) EnF.nilA) (len_ok rfl) λ p119 H121 (S120 : M (acR K p119 (([true]).map eB) :: da K (V.ref p113) ((eL eB) ([false, false, false, false])) :: pt dd (.xd [("seal", v)]) :: da K v w :: Rs) H121) => ?_))))))))))))))
   have S123 : M (da K (V.ref p119) ((eL eB) ([true])) :: da K (V.ref p113) ((eL eB) ([false, false, false, false])) :: pt dd (.xd [("seal", v)]) :: da K v w :: Rs) H121 := acR_fixL S120
   obtain ⟨h125, hf⟩ := hf
   refine v_catN flB S123 (M.gotA S123 1 rfl) (M.gotA S123 0 rfl) h125 λ p126 H128 (S127 : M (acR K p126 ((cat ([false, false, false, false]) ([true])).map eB) :: da K (V.ref p119) ((eL eB) ([true])) :: da K (V.ref p113) ((eL eB) ([false, false, false, false])) :: pt dd (.xd [("seal", v)]) :: da K v w :: Rs) H128) => ?_
   have S130 : M (da K (V.ref p126) ((eL eB) (cat ([false, false, false, false]) ([true]))) :: da K (V.ref p119) ((eL eB) ([true])) :: da K (V.ref p113) ((eL eB) ([false, false, false, false])) :: pt dd (.xd [("seal", v)]) :: da K v w :: Rs) H128 := acR_fixL S127
   refine g_nx ?_
   show (_ : TS) _ [some (V.ref a), some (V.ref p126), none] _
   have S132 : M (da K (V.ref p126) ((eL eB) (cat ([false, false, false, false]) ([true]))) :: pt dd (.xd [("seal", v)]) :: da K v w :: Rs) H128 := (M.drp (M.drp S130 2) 1)
   refine g_seq (g_if (g_test (g_op (g_bm (g_var rfl (M.tyA S132 0 rfl (g_cons (g_c (g_nil (v_cntBc (n := 1) (M.gotA S132 0 rfl) (by decide) (g_c (v_neI (g_bl (v_ifcF (by decide) (g_next (g_nx (g_seq (g_asg (g_bm (g_var rfl (M.tyA S132 0 rfl (g_cons (g_c (g_nil (v_idxBc (n := 4) (M.gotA S132 0 rfl) rfl (by decide) (g_nx ?_))))))))))))))))))))))))))
   show (_ : TS) _ [some (V.ref a), some (V.ref p126), some (V.int 4)] _
   refine g_seq (g_if (g_test (g_op (g_var rfl (g_c (v_eqI (g_bl (v_ifcF (by decide) (g_next (g_nx (g_seq (g_if (g_test (g_op (g_var rfl (g_c (v_eqI (g_bl (v_ifcF (by decide) (g_next (g_nx (g_ret (g_tup (g_cons (g_op (g_lst (g_cons (g_c (g_cons (g_c (g_cons (g_c (g_nil (v_lsto (ds := ([("piece" : Str), ("unlike" : Str), ("broken" : Str)]).map eS) S132 (EnF.consA (EnF.all λ _ => .str _) (EnF.consA (EnF.all λ _ => .str _) (EnF.consA (EnF.all λ _ => .str _) EnF.nilA))) (len_ok rfl) λ p133 H135 (S134 : M (acR K p133 (([("piece" : Str), ("unlike" : Str), ("broken" : Str)]).map eS) :: da K (V.ref p126) ((eL eB) (cat ([false, false, false, false]) ([true]))) :: pt dd (.xd [("seal", v)]) :: da K v w :: Rs) H135) => ?_))))))))))))))))))))))))))))))))))
   refine g_op (g_var rfl (g_c (v_sub ?_)))
   have S137 : M (da K (V.ref p133) ((eL eS) ([("piece" : Str), ("unlike" : Str), ("broken" : Str)])) :: da K (V.ref p126) ((eL eB) (cat ([false, false, false, false]) ([true]))) :: pt dd (.xd [("seal", v)]) :: da K v w :: Rs) H135 := acR_fixL S134
   obtain ⟨x139, h140, hf⟩ := hf
   refine v_ixN flS (M.gotA S137 0 rfl) h140 (g_cons (g_xgv rfl T.xc_Broken (chN_ok T.xn_Broken_seal) (S137.got 2 rfl) rfl (g_nil (v_tupq S137 (EnF.consA (EnF.all λ _ => .str _) (EnF.consA (EnF.at 3 rfl) EnF.nilA)) (len_ok rfl) λ p141 H143 (S142 : M (da K (V.ref p141) ((eP eS eA) (x139, w)) :: da K (V.ref p133) ((eL eS) ([("piece" : Str), ("unlike" : Str), ("broken" : Str)])) :: da K (V.ref p126) ((eL eB) (cat ([false, false, false, false]) ([true]))) :: pt dd (.xd [("seal", v)]) :: da K v w :: Rs) H143) => ?_))))
   exact hk _ _ _ hf (M.sub (.cons 0 rfl (.cons 2 rfl (.cons 2 rfl (.tl (.tl (.refl _)))))) S142)
def p_l_deed (a_shelf : (Int × (List (Int × Int)) × (List (Int × (Option (List Int)))))) (a_way : Int) (a_seal : Int) (a_signs_here : (List Int)) (X : Ex -> (Int × (List (Int × Int)) × (List (Int × (Option (List Int))))) -> Prop) (P : PyData -> (Int × (List (Int × Int)) × (List (Int × (Option (List Int))))) -> Prop) : Prop := if (decide (a_way = 0)) = true then (p_Shelf_lay a_shelf a_signs_here (λ x7 m6 => X x7 m6) λ x1 m2 => P (eI x1) m2) else (if (decide (a_way = 1)) = true then (p_Shelf_hold a_shelf a_seal (λ x21 m20 => X x21 m20) λ m16 => P (eN ()) m16) else (if (decide (a_way = 2)) = true then (p_Shelf_let_go a_shelf a_seal (λ x36 m35 => X x36 m35) λ x30 m31 => P (eB x30) m31) else (if (decide (a_way = 3)) = true then (p_Shelf_harm a_shelf a_seal a_signs_here (λ x50 m49 => X x50 m49) λ m45 => P (eN ()) m45) else (if (decide (a_way = 4)) = true then (p_Shelf_lose a_shelf a_seal (λ x64 m63 => X x64 m63) λ m59 => P (eN ()) m59) else (if (decide (a_way = 5)) = true then (p_Shelf_heal a_shelf a_seal a_signs_here (λ x78 m77 => X x78 m77) λ m73 => P (eN ()) m73) else (if (decide (a_way = 6)) = true then (p_Shelf_held a_shelf a_seal (λ x91 => X x91 a_shelf) λ x87 => P (eI x87) a_shelf) else (if (decide (a_way = 7)) = true then (p_Shelf_is_sound a_shelf a_seal (λ x104 => X x104 a_shelf) λ x100 => P (eB x100) a_shelf) else (p_Shelf_read a_shelf a_seal (λ x118 => X x118 a_shelf) λ x113 => P ((eL eI) x113) a_shelf))))))))
def sp_l_deed_0 (K : Fr) : Sp := λ vs H Q E => ∃ (Rs : List Res) (p_a_shelf : Addr) (a_shelf : (Int × (List (Int × Int)) × (List (Int × (Option (List Int)))))) (a_way : Int) (a_seal : Int) (R_a_signs_here : Res) (v_a_signs_here : V) (a_signs_here : (List Int)) (X : Ex -> (Int × (List (Int × Int)) × (List (Int × (Option (List Int))))) -> Prop) (P : PyData -> (Int × (List (Int × Int)) × (List (Int × (Option (List Int))))) -> Prop), vs = [(V.ref p_a_shelf), (V.int a_way), (V.int a_seal), v_a_signs_here] /\ Brw R_a_signs_here K v_a_signs_here ((eL eI) a_signs_here) /\ M (R_Shelf K p_a_shelf a_shelf :: R_a_signs_here :: Rs) H /\ p_l_deed a_shelf a_way a_seal a_signs_here X P /\ (∀ (x : Ex) (m1 : (Int × (List (Int × Int)) × (List (Int × (Option (List Int)))))) (d : Addr) (v : V) H', X x m1 -> M (pt d (.xd [(x.fld, v)]) :: da K v x.val :: R_Shelf K p_a_shelf m1 :: R_a_signs_here :: Rs) H' -> E (.ref (He.ga K x.cls)) (some d) H') /\ ∀ (r : PyData) (m1 : (Int × (List (Int × Int)) × (List (Int × (Option (List Int)))))) (v : V) H', P r m1 -> M (da K v (eA r) :: R_Shelf K p_a_shelf m1 :: R_a_signs_here :: Rs) H' -> Q v H'
theorem len_l_deed_0 {K : Fr} (vs : List V) (H : Hp) (Q : VK) (E : XK) (h : sp_l_deed_0 K vs H Q E) : vs.length = 4 := by
 obtain ⟨Rs, p_a_shelf, a_shelf, a_way, a_seal, R_a_signs_here, v_a_signs_here, a_signs_here, X, P, rfl, _⟩ := h
 rfl
def p_l_deed_o (a_shelf : (Int × (List (Int × Int)) × (List (Int × (Option (List Int)))))) (a_way : Int) (a_seal : Int) (a_signs_here : (List Int)) (X : Ex -> (Int × (List (Int × Int)) × (List (Int × (Option (List Int))))) -> Prop) (P : OD -> (Int × (List (Int × Int)) × (List (Int × (Option (List Int))))) -> Prop) : Prop := if (decide (a_way = 0)) = true then (False) else (if (decide (a_way = 1)) = true then (False) else (if (decide (a_way = 2)) = true then (False) else (if (decide (a_way = 3)) = true then (False) else (if (decide (a_way = 4)) = true then (False) else (if (decide (a_way = 5)) = true then (False) else (if (decide (a_way = 6)) = true then (False) else (if (decide (a_way = 7)) = true then (False) else (p_Shelf_read a_shelf a_seal (λ x6 => X x6 a_shelf) λ x1 => P (OD.ol (OD.fzs eI x1)) a_shelf))))))))
def sp_l_deed_o (K : Fr) : Sp := λ vs H Q E => ∃ (Rs : List Res) (p_a_shelf : Addr) (a_shelf : (Int × (List (Int × Int)) × (List (Int × (Option (List Int)))))) (a_way : Int) (a_seal : Int) (R_a_signs_here : Res) (v_a_signs_here : V) (a_signs_here : (List Int)) (X : Ex -> (Int × (List (Int × Int)) × (List (Int × (Option (List Int))))) -> Prop) (P : OD -> (Int × (List (Int × Int)) × (List (Int × (Option (List Int))))) -> Prop), vs = [(V.ref p_a_shelf), (V.int a_way), (V.int a_seal), v_a_signs_here] /\ Brw R_a_signs_here K v_a_signs_here ((eL eI) a_signs_here) /\ M (R_Shelf K p_a_shelf a_shelf :: R_a_signs_here :: Rs) H /\ p_l_deed_o a_shelf a_way a_seal a_signs_here X P /\ (∀ (x : Ex) (m1 : (Int × (List (Int × Int)) × (List (Int × (Option (List Int)))))) (d : Addr) (v : V) H', X x m1 -> M (pt d (.xd [(x.fld, v)]) :: da K v x.val :: R_Shelf K p_a_shelf m1 :: R_a_signs_here :: Rs) H' -> E (.ref (He.ga K x.cls)) (some d) H') /\ ∀ (r : OD) (m1 : (Int × (List (Int × Int)) × (List (Int × (Option (List Int)))))) (v : V) H', P r m1 -> M (odR K v r :: R_Shelf K p_a_shelf m1 :: R_a_signs_here :: Rs) H' -> Q v H'
theorem len_l_deed_o {K : Fr} (vs : List V) (H : Hp) (Q : VK) (E : XK) (h : sp_l_deed_o K vs H Q E) : vs.length = 4 := by
 obtain ⟨Rs, p_a_shelf, a_shelf, a_way, a_seal, R_a_signs_here, v_a_signs_here, a_signs_here, X, P, rfl, _⟩ := h
 rfl
def sp_l_deed (K : Fr) : Sp := λ vs H Q E => sp_l_deed_0 K vs H Q E \/ sp_l_deed_o K vs H Q E
theorem len_l_deed {K : Fr} (vs : List V) (H : Hp) (Q : VK) (E : XK) (h : sp_l_deed K vs H Q E) : vs.length = 4 := h.elim (len_l_deed_0 vs H Q E) λ h => len_l_deed_o vs H Q E h
abbrev t_l_deed_15 (K : Fr) (W : WX) : TS := (tSeq (tIfS (tTest (tOp (uEq K) (tVar 1) (tC (.int 7)))) (tRet (tMethW W (He.ga K "Shelf") "is_sound" (sp_Shelf_is_sound K) [] (tVar 0) (tCons (tVar 2) tNil))) tNext)
 (tRet (tMethW W (He.ga K "Shelf") "read" (sp_Shelf_read K) [] (tVar 0) (tCons (tVar 2) tNil))))
abbrev t_l_deed_13 (K : Fr) (W : WX) : TS := (tSeq (tIfS (tTest (tOp (uEq K) (tVar 1) (tC (.int 6)))) (tRet (tMethW W (He.ga K "Shelf") "held" (sp_Shelf_held K) [] (tVar 0) (tCons (tVar 2) tNil))) tNext)
 (t_l_deed_15 K W))
abbrev t_l_deed_11 (K : Fr) (W : WX) : TS := (tSeq (tIfS (tTest (tOp (uEq K) (tVar 1) (tC (.int 5)))) (tRet (tMethW W (He.ga K "Shelf") "heal" (sp_Shelf_heal K) [] (tVar 0) (tCons (tVar 2) (tCons (tVar 3) tNil)))) tNext)
 (t_l_deed_13 K W))
abbrev t_l_deed_9 (K : Fr) (W : WX) : TS := (tSeq (tIfS (tTest (tOp (uEq K) (tVar 1) (tC (.int 4)))) (tRet (tMethW W (He.ga K "Shelf") "lose" (sp_Shelf_lose K) [] (tVar 0) (tCons (tVar 2) tNil))) tNext)
 (t_l_deed_11 K W))
abbrev t_l_deed_7 (K : Fr) (W : WX) : TS := (tSeq (tIfS (tTest (tOp (uEq K) (tVar 1) (tC (.int 3)))) (tRet (tMethW W (He.ga K "Shelf") "harm" (sp_Shelf_harm K) [] (tVar 0) (tCons (tVar 2) (tCons (tVar 3) tNil)))) tNext)
 (t_l_deed_9 K W))
abbrev t_l_deed_5 (K : Fr) (W : WX) : TS := (tSeq (tIfS (tTest (tOp (uEq K) (tVar 1) (tC (.int 2)))) (tRet (tMethW W (He.ga K "Shelf") "let_go" (sp_Shelf_let_go K) [] (tVar 0) (tCons (tVar 2) tNil))) tNext)
 (t_l_deed_7 K W))
abbrev t_l_deed_3 (K : Fr) (W : WX) : TS := (tSeq (tIfS (tTest (tOp (uEq K) (tVar 1) (tC (.int 1)))) (tRet (tMethW W (He.ga K "Shelf") "hold" (sp_Shelf_hold K) [] (tVar 0) (tCons (tVar 2) tNil))) tNext)
 (t_l_deed_5 K W))
abbrev t_l_deed_1 (K : Fr) (W : WX) : TS := (tSeq (tIfS (tTest (tOp (uEq K) (tVar 1) (tC (.int 0)))) (tRet (tMethW W (He.ga K "Shelf") "lay" (sp_Shelf_lay K) [] (tVar 0) (tCons (tVar 3) tNil))) tNext)
 (t_l_deed_3 K W))
abbrev t_l_deed (K : Fr) (W : WX) : TS := (t_l_deed_1 K W)
theorem pure_l_deed_0 {K : Fr} (T : TxC K) (vs : List V) (H : Hp) (Q : VK) (E : XK) (h : sp_l_deed_0 K vs H Q E) : t_l_deed K (WT E) { nx := λ _ H' => Q .non H', rt := Q } (L2.start ["_law_shelf", "_law_way", "_law_seal", "_law_signs_here"] vs) H := by
 obtain ⟨Rs, p_a_shelf, a_shelf, a_way, a_seal, R_a_signs_here, v_a_signs_here, a_signs_here, X, P, rfl, h_a_signs_here, S0, hf, hX, hk⟩ := h
 show t_l_deed K (WT E) _ [some (V.ref p_a_shelf), some (V.int a_way), some (V.int a_seal), some v_a_signs_here] H
 refine g_seq (g_if (g_test (g_op (g_var rfl (g_c (v_eqI (g_bl (v_iff hf (λ _ hf => ?_) (λ _ hf => ?_)))))))))
 ·
  refine g_ret (g_meth (g_var rfl (v_R_Shelf S0 0 rfl (λ _ _ _ => rfl) (g_cons (g_var rfl (g_nil (⟨_, _, _, _, _, _, _, _, rfl, h_a_signs_here, (M.at (M.at S0 1 rfl) 1 rfl), hf, λ x7 m6 d8 v9 H11 hf (S10 : M (pt d8 (.xd [(x7.fld, v9)]) :: da K v9 x7.val :: R_Shelf K p_a_shelf m6 :: _ :: Rs) H11) => ?_, λ x1 m2 H4 hf (S3 : M (R_Shelf K p_a_shelf m2 :: _ :: Rs) H4) => ?_⟩)))))))
  ·
   exact hX x7 _ d8 v9 _ hf (M.pk S10 4 [0, 1, 2, 3] rfl)
  have S14 : M (da K (V.int x1) (eI x1) :: oo2 Rs) H4 := M.addA S3 (EnF.all λ _ => .int (K := K) x1)
  exact hk _ _ _ _ hf (M.pk S14 3 [0, 1, 2] rfl)
 ·
  refine g_next (g_nx (g_seq (g_if (g_test (g_op (g_var rfl (g_c (v_eqI (g_bl (v_iff hf (λ _ hf => ?_) (λ _ hf => ?_)))))))))))
  ·
   refine g_ret (g_meth (g_var rfl (v_R_Shelf S0 0 rfl (λ _ _ _ => rfl) (g_cons (g_var rfl (g_nil (⟨_, _, _, _, _, _, rfl, (M.at S0 0 rfl), hf, λ x21 m20 d22 v23 H25 hf (S24 : M (pt d22 (.xd [(x21.fld, v23)]) :: da K v23 x21.val :: R_Shelf K p_a_shelf m20 :: _ :: Rs) H25) => ?_, λ m16 H18 hf (S17 : M (R_Shelf K p_a_shelf m16 :: _ :: Rs) H18) => ?_⟩)))))))
   ·
    exact hX x21 _ d22 v23 _ hf (M.pk S24 4 [0, 1, 2, 3] rfl)
   have S28 : M (da K V.non (eN ()) :: oo2 Rs) H18 := M.addA S17 (EnF.all λ _ => .non)
   exact hk _ _ _ _ hf (M.pk S28 3 [0, 1, 2] rfl)
  ·
   refine g_next (g_nx (g_seq (g_if (g_test (g_op (g_var rfl (g_c (v_eqI (g_bl (v_iff hf (λ _ hf => ?_) (λ _ hf => ?_)))))))))))
   ·
    refine g_ret (g_meth (g_var rfl (v_R_Shelf S0 0 rfl (λ _ _ _ => rfl) (g_cons (g_var rfl (g_nil (⟨_, _, _, _, _, _, rfl, (M.at S0 0 rfl), hf, λ x36 m35 d37 v38 H40 hf (S39 : M (pt d37 (.xd [(x36.fld, v38)]) :: da K v38 x36.val :: R_Shelf K p_a_shelf m35 :: _ :: Rs) H40) => ?_, λ x30 m31 H33 hf (S32 : M (R_Shelf K p_a_shelf m31 :: _ :: Rs) H33) => ?_⟩)))))))
    ·
     exact hX x36 _ d37 v38 _ hf (M.pk S39 4 [0, 1, 2, 3] rfl)
    have S43 : M (da K (V.bl x30) (eB x30) :: oo2 Rs) H33 := M.addA S32 (EnF.all λ _ => .bl (K := K) x30)
    exact hk _ _ _ _ hf (M.pk S43 3 [0, 1, 2] rfl)
   ·
    refine g_next (g_nx (g_seq (g_if (g_test (g_op (g_var rfl (g_c (v_eqI (g_bl (v_iff hf (λ _ hf => ?_) (λ _ hf => ?_)))))))))))
    ·
     refine g_ret (g_meth (g_var rfl (v_R_Shelf S0 0 rfl (λ _ _ _ => rfl) (g_cons (g_var rfl (g_cons (g_var rfl (g_nil (⟨_, _, _, _, _, _, _, _, _, rfl, h_a_signs_here, (M.at (M.at S0 1 rfl) 1 rfl), hf, λ x50 m49 d51 v52 H54 hf (S53 : M (pt d51 (.xd [(x50.fld, v52)]) :: da K v52 x50.val :: R_Shelf K p_a_shelf m49 :: _ :: Rs) H54) => ?_, λ m45 H47 hf (S46 : M (R_Shelf K p_a_shelf m45 :: _ :: Rs) H47) => ?_⟩)))))))))
     ·
      exact hX x50 _ d51 v52 _ hf (M.pk S53 4 [0, 1, 2, 3] rfl)
     have S57 : M (da K V.non (eN ()) :: oo2 Rs) H47 := M.addA S46 (EnF.all λ _ => .non)
     exact hk _ _ _ _ hf (M.pk S57 3 [0, 1, 2] rfl)
    ·
     refine g_next (g_nx (g_seq (g_if (g_test (g_op (g_var rfl (g_c (v_eqI (g_bl (v_iff hf (λ _ hf => ?_) (λ _ hf => ?_)))))))))))
     ·
      refine g_ret (g_meth (g_var rfl (v_R_Shelf S0 0 rfl (λ _ _ _ => rfl) (g_cons (g_var rfl (g_nil (⟨_, _, _, _, _, _, rfl, (M.at S0 0 rfl), hf, λ x64 m63 d65 v66 H68 hf (S67 : M (pt d65 (.xd [(x64.fld, v66)]) :: da K v66 x64.val :: R_Shelf K p_a_shelf m63 :: _ :: Rs) H68) => ?_, λ m59 H61 hf (S60 : M (R_Shelf K p_a_shelf m59 :: _ :: Rs) H61) => ?_⟩)))))))
      ·
       exact hX x64 _ d65 v66 _ hf (M.pk S67 4 [0, 1, 2, 3] rfl)
      have S71 : M (da K V.non (eN ()) :: oo2 Rs) H61 := M.addA S60 (EnF.all λ _ => .non)
      exact hk _ _ _ _ hf (M.pk S71 3 [0, 1, 2] rfl)
     ·
      refine g_next (g_nx (g_seq (g_if (g_test (g_op (g_var rfl (g_c (v_eqI (g_bl (v_iff hf (λ _ hf => ?_) (λ _ hf => ?_)))))))))))
      ·
       refine g_ret (g_meth (g_var rfl (v_R_Shelf S0 0 rfl (λ _ _ _ => rfl) (g_cons (g_var rfl (g_cons (g_var rfl (g_nil (⟨_, _, _, _, _, _, _, _, _, rfl, h_a_signs_here, (M.at (M.at S0 1 rfl) 1 rfl), hf, λ x78 m77 d79 v80 H82 hf (S81 : M (pt d79 (.xd [(x78.fld, v80)]) :: da K v80 x78.val :: R_Shelf K p_a_shelf m77 :: _ :: Rs) H82) => ?_, λ m73 H75 hf (S74 : M (R_Shelf K p_a_shelf m73 :: _ :: Rs) H75) => ?_⟩)))))))))
       ·
        exact hX x78 _ d79 v80 _ hf (M.pk S81 4 [0, 1, 2, 3] rfl)
       have S85 : M (da K V.non (eN ()) :: oo2 Rs) H75 := M.addA S74 (EnF.all λ _ => .non)
       exact hk _ _ _ _ hf (M.pk S85 3 [0, 1, 2] rfl)
      ·
       refine g_next (g_nx (g_seq (g_if (g_test (g_op (g_var rfl (g_c (v_eqI (g_bl (v_iff hf (λ _ hf => ?_) (λ _ hf => ?_)))))))))))
       ·
        refine g_ret (g_meth (g_var rfl (v_R_Shelf S0 0 rfl (λ _ _ _ => rfl) (g_cons (g_var rfl (g_nil (⟨_, _, _, _, _, _, rfl, (M.at S0 0 rfl), hf, λ x91 d92 v93 H95 hf (S94 : M (pt d92 (.xd [(x91.fld, v93)]) :: da K v93 x91.val :: oo2 Rs) H95) => ?_, λ x87 H89 hf (S88 : M (oo2 Rs) H89) => ?_⟩)))))))
        ·
         exact hX x91 _ d92 v93 _ hf (M.pk S94 4 [0, 1, 2, 3] rfl)
        have S98 : M (da K (V.int x87) (eI x87) :: oo2 Rs) H89 := M.addA S88 (EnF.all λ _ => .int (K := K) x87)
        exact hk _ _ _ _ hf (M.pk S98 3 [0, 1, 2] rfl)
       ·
        refine g_next (g_nx (g_seq (g_if (g_test (g_op (g_var rfl (g_c (v_eqI (g_bl (v_iff hf (λ _ hf => ?_) (λ _ hf => ?_)))))))))))
        ·
         refine g_ret (g_meth (g_var rfl (v_R_Shelf S0 0 rfl (λ _ _ _ => rfl) (g_cons (g_var rfl (g_nil (⟨_, _, _, _, _, _, rfl, (M.at S0 0 rfl), hf, λ x104 d105 v106 H108 hf (S107 : M (pt d105 (.xd [(x104.fld, v106)]) :: da K v106 x104.val :: oo2 Rs) H108) => ?_, λ x100 H102 hf (S101 : M (oo2 Rs) H102) => ?_⟩)))))))
         ·
          exact hX x104 _ d105 v106 _ hf (M.pk S107 4 [0, 1, 2, 3] rfl)
         have S111 : M (da K (V.bl x100) (eB x100) :: oo2 Rs) H102 := M.addA S101 (EnF.all λ _ => .bl (K := K) x100)
         exact hk _ _ _ _ hf (M.pk S111 3 [0, 1, 2] rfl)
        ·
         refine g_next (g_nx (g_ret (g_meth (g_var rfl (v_R_Shelf S0 0 rfl (λ _ _ _ => rfl) (g_cons (g_var rfl (g_nil (⟨_, _, _, _, _, _, rfl, (M.at S0 0 rfl), hf, λ x118 d119 v120 H122 hf (S121 : M (pt d119 (.xd [(x118.fld, v120)]) :: da K v120 x118.val :: oo2 Rs) H122) => ?_, λ x113 u116 H115 hf (S114 : M (acR K u116 (x113.map eI) :: oo2 Rs) H115) => ?_⟩)))))))))
         ·
          exact hX x118 _ d119 v120 _ hf (M.pk S121 4 [0, 1, 2, 3] rfl)
         have S125 : M (da K (V.ref u116) ((eL eI) x113) :: oo2 Rs) H115 := acR_fixL S114
         exact hk _ _ _ _ hf (M.pk S125 3 [0, 1, 2] rfl)
theorem pure_l_deed_o {K : Fr} (T : TxC K) (vs : List V) (H : Hp) (Q : VK) (E : XK) (h : sp_l_deed_o K vs H Q E) : t_l_deed K (WT E) { nx := λ _ H' => Q .non H', rt := Q } (L2.start ["_law_shelf", "_law_way", "_law_seal", "_law_signs_here"] vs) H := by
 obtain ⟨Rs, p_a_shelf, a_shelf, a_way, a_seal, R_a_signs_here, v_a_signs_here, a_signs_here, X, P, rfl, h_a_signs_here, S0, hf, hX, hk⟩ := h
 show t_l_deed K (WT E) _ [some (V.ref p_a_shelf), some (V.int a_way), some (V.int a_seal), some v_a_signs_here] H
 refine g_seq (g_if (g_test (g_op (g_var rfl (g_c (v_eqI (g_bl (v_iff hf (λ _ hf => ?_) (λ _ hf => ?_)))))))))
 ·
  exact hf.elim
 ·
  refine g_next (g_nx (g_seq (g_if (g_test (g_op (g_var rfl (g_c (v_eqI (g_bl (v_iff hf (λ _ hf => ?_) (λ _ hf => ?_)))))))))))
  ·
   exact hf.elim
  ·
   refine g_next (g_nx (g_seq (g_if (g_test (g_op (g_var rfl (g_c (v_eqI (g_bl (v_iff hf (λ _ hf => ?_) (λ _ hf => ?_)))))))))))
   ·
    exact hf.elim
   ·
    refine g_next (g_nx (g_seq (g_if (g_test (g_op (g_var rfl (g_c (v_eqI (g_bl (v_iff hf (λ _ hf => ?_) (λ _ hf => ?_)))))))))))
    ·
     exact hf.elim
    ·
     refine g_next (g_nx (g_seq (g_if (g_test (g_op (g_var rfl (g_c (v_eqI (g_bl (v_iff hf (λ _ hf => ?_) (λ _ hf => ?_)))))))))))
     ·
      exact hf.elim
     ·
      refine g_next (g_nx (g_seq (g_if (g_test (g_op (g_var rfl (g_c (v_eqI (g_bl (v_iff hf (λ _ hf => ?_) (λ _ hf => ?_)))))))))))
      ·
       exact hf.elim
      ·
       refine g_next (g_nx (g_seq (g_if (g_test (g_op (g_var rfl (g_c (v_eqI (g_bl (v_iff hf (λ _ hf => ?_) (λ _ hf => ?_)))))))))))
       ·
        exact hf.elim
       ·
        refine g_next (g_nx (g_seq (g_if (g_test (g_op (g_var rfl (g_c (v_eqI (g_bl (v_iff hf (λ _ hf => ?_) (λ _ hf => ?_)))))))))))
        ·
         exact hf.elim
        ·
         refine g_next (g_nx (g_ret (g_meth (g_var rfl (v_R_Shelf S0 0 rfl (λ _ _ _ => rfl) (g_cons (g_var rfl (g_nil (⟨_, _, _, _, _, _, rfl, (M.at S0 0 rfl), hf, λ x6 d7 v8 H10 hf (S9 : M (pt d7 (.xd [(x6.fld, v8)]) :: da K v8 x6.val :: oo2 Rs) H10) => ?_, λ x1 u4 H3 hf (S2 : M (acR K u4 (x1.map eI) :: oo2 Rs) H3) => ?_⟩)))))))))
         ·
          exact hX x6 _ d7 v8 _ hf (M.pk S9 4 [0, 1, 2, 3] rfl)
         have S14 : M (odR K (V.ref u4) (OD.ol (OD.fzs eI x1)) :: oo2 Rs) H3 := M.acOD (M.at S2 0 rfl)
         exact hk _ _ _ _ hf (M.pk S14 3 [0, 1, 2] rfl)
theorem pure_l_deed {K : Fr} (T : TxC K) (vs : List V) (H : Hp) (Q : VK) (E : XK) (h : sp_l_deed K vs H Q E) : t_l_deed K (WT E) { nx := λ _ H' => Q .non H', rt := Q } (L2.start ["_law_shelf", "_law_way", "_law_seal", "_law_signs_here"] vs) H := h.elim (pure_l_deed_0 T vs H Q E) λ h => pure_l_deed_o T vs H Q E h
def p_l_said (a_shelf : (Int × (List (Int × Int)) × (List (Int × (Option (List Int)))))) (a_way : Int) (a_seal : Int) (a_signs_here : (List Int)) (P : PyData -> (Int × (List (Int × Int)) × (List (Int × (Option (List Int))))) -> Prop) : Prop := jn (β := PyData × (Int × (List (Int × Int)) × (List (Int × (Option (List Int)))))) (λ k4 => p_l_deed a_shelf a_way a_seal a_signs_here (λ x19 m17 => p_l_refusal x19 λ x27 => P x27 m17) λ x12 m13 => k4 (x12, m13)) λ s3 => P ((eP eS eA) (("told" : Str), s3.1)) s3.2
def sp_l_said_0 (K : Fr) : Sp := λ vs H Q _ => ∃ (Rs : List Res) (p_a_shelf : Addr) (a_shelf : (Int × (List (Int × Int)) × (List (Int × (Option (List Int)))))) (a_way : Int) (a_seal : Int) (R_a_signs_here : Res) (v_a_signs_here : V) (a_signs_here : (List Int)) (P : PyData -> (Int × (List (Int × Int)) × (List (Int × (Option (List Int))))) -> Prop), vs = [(V.ref p_a_shelf), (V.int a_way), (V.int a_seal), v_a_signs_here] /\ Brw R_a_signs_here K v_a_signs_here ((eL eI) a_signs_here) /\ M (R_Shelf K p_a_shelf a_shelf :: R_a_signs_here :: Rs) H /\ p_l_said a_shelf a_way a_seal a_signs_here P /\ ∀ (r : PyData) (m1 : (Int × (List (Int × Int)) × (List (Int × (Option (List Int)))))) (v : V) H', P r m1 -> M (da K v (eA r) :: R_Shelf K p_a_shelf m1 :: R_a_signs_here :: Rs) H' -> Q v H'
theorem len_l_said_0 {K : Fr} (vs : List V) (H : Hp) (Q : VK) (E : XK) (h : sp_l_said_0 K vs H Q E) : vs.length = 4 := by
 obtain ⟨Rs, p_a_shelf, a_shelf, a_way, a_seal, R_a_signs_here, v_a_signs_here, a_signs_here, P, rfl, _⟩ := h
 rfl
def p_l_said_o (a_shelf : (Int × (List (Int × Int)) × (List (Int × (Option (List Int)))))) (a_way : Int) (a_seal : Int) (a_signs_here : (List Int)) (P : OD -> (Int × (List (Int × Int)) × (List (Int × (Option (List Int))))) -> Prop) : Prop := jn (β := OD × (Int × (List (Int × Int)) × (List (Int × (Option (List Int)))))) (λ k4 => p_l_deed_o a_shelf a_way a_seal a_signs_here (λ x19 m17 => p_l_refusal x19 λ x27 => P (OD.fz (eA x27)) m17) λ x12 m13 => k4 (x12, m13)) λ s3 => P (OD.ot [(OD.fz (eS ("told" : Str))), s3.1]) s3.2
def sp_l_said_o (K : Fr) : Sp := λ vs H Q _ => ∃ (Rs : List Res) (p_a_shelf : Addr) (a_shelf : (Int × (List (Int × Int)) × (List (Int × (Option (List Int)))))) (a_way : Int) (a_seal : Int) (R_a_signs_here : Res) (v_a_signs_here : V) (a_signs_here : (List Int)) (P : OD -> (Int × (List (Int × Int)) × (List (Int × (Option (List Int))))) -> Prop), vs = [(V.ref p_a_shelf), (V.int a_way), (V.int a_seal), v_a_signs_here] /\ Brw R_a_signs_here K v_a_signs_here ((eL eI) a_signs_here) /\ M (R_Shelf K p_a_shelf a_shelf :: R_a_signs_here :: Rs) H /\ p_l_said_o a_shelf a_way a_seal a_signs_here P /\ ∀ (r : OD) (m1 : (Int × (List (Int × Int)) × (List (Int × (Option (List Int)))))) (v : V) H', P r m1 -> M (odR K v r :: R_Shelf K p_a_shelf m1 :: R_a_signs_here :: Rs) H' -> Q v H'
theorem len_l_said_o {K : Fr} (vs : List V) (H : Hp) (Q : VK) (E : XK) (h : sp_l_said_o K vs H Q E) : vs.length = 4 := by
 obtain ⟨Rs, p_a_shelf, a_shelf, a_way, a_seal, R_a_signs_here, v_a_signs_here, a_signs_here, P, rfl, _⟩ := h
 rfl
def sp_l_said (K : Fr) : Sp := λ vs H Q E => sp_l_said_0 K vs H Q E \/ sp_l_said_o K vs H Q E
theorem len_l_said {K : Fr} (vs : List V) (H : Hp) (Q : VK) (E : XK) (h : sp_l_said K vs H Q E) : vs.length = 4 := h.elim (len_l_said_0 vs H Q E) λ h => len_l_said_o vs H Q E h
abbrev t_l_said_2 (K : Fr) : TS := (tSeq (tTry K W0 (λ W => (tAsg (tCallW W (sp_l_deed K) [] (tCons (tVar 0) (tCons (tVar 1) (tCons (tVar 2) (tCons (tVar 3) tNil))))) (gName 4))) [⟨[.ref (He.ga K "StoreError"), .ref (He.ga K "Missing"), .ref (He.ga K "Halted")], some 5, λ a cls d => (tRet (tCallE a cls d (sp_l_refusal K) (tVar 5)))⟩])
 (tRet (tTup (tCons (tC (.str "told")) (tCons (tVar 4) tNil)))))
abbrev t_l_said_1 (K : Fr) : TS := (tSeq (tAsg (tC .non) (gName 4))
 (t_l_said_2 K))
abbrev t_l_said (K : Fr) : TS := (t_l_said_1 K)
theorem pure_l_said_0 {K : Fr} (T : TxC K) (vs : List V) (H : Hp) (Q : VK) (E : XK) (h : sp_l_said_0 K vs H Q E) : t_l_said K { nx := λ _ H' => Q .non H', rt := Q } (L2.start ["_law_shelf", "_law_way", "_law_seal", "_law_signs_here", "_law_found", "_law_e"] vs) H := by
 obtain ⟨Rs, p_a_shelf, a_shelf, a_way, a_seal, R_a_signs_here, v_a_signs_here, a_signs_here, P, rfl, h_a_signs_here, S0, hf, hk⟩ := h
 show t_l_said K _ [some (V.ref p_a_shelf), some (V.int a_way), some (V.int a_seal), some v_a_signs_here, none, none] H
 refine g_seq (g_asg (g_c ?_))
 have S1 : M (da K V.non (eN ()) :: oo2 Rs) H := M.addA S0 (EnF.all λ _ => .non)
 refine g_nx ?_
 show (_ : TS) _ [some (V.ref p_a_shelf), some (V.int a_way), some (V.int a_seal), some v_a_signs_here, some V.non, none] _
 refine jn_cut (β := PyData × (Int × (List (Int × Int)) × (List (Int × (Option (List Int)))))) hf (λ (s3 : PyData × (Int × (List (Int × Int)) × (List (Int × (Option (List Int)))))) σ H' => ∃ (u8 : V) (o11 : Option V), σ = [some (V.ref p_a_shelf), some (V.int a_way), some (V.int a_seal), some v_a_signs_here, some u8, o11] /\ M (da K u8 (eA s3.1) :: R_Shelf K p_a_shelf s3.2 :: R_a_signs_here :: Rs) H') (λ kk5 N6 hN7 hf => ?_) ?_
 ·
  refine g_try (g_asg (g_callW (g_cons (g_var rfl (g_cons (g_var rfl (g_cons (g_var rfl (g_cons (g_var rfl (g_nil (.inl (⟨_, _, _, _, _, _, _, _, _, _, rfl, h_a_signs_here, (M.at (M.at S1 2 rfl) 2 rfl), hf, λ x19 m17 d20 v21 H23 hf (S22 : M (pt d20 (.xd [(x19.fld, v21)]) :: da K v21 x19.val :: R_Shelf K p_a_shelf m17 :: oo2 Rs) H23) => ?_, λ x12 m13 u16 H15 hf (S14 : M (da K u16 (eA x12) :: R_Shelf K p_a_shelf m13 :: oo2 Rs) H15) => ?_⟩)))))))))))))
  ·
   refine v_hdY ?_ λ a26 => ?_
   ·
    cases x19 with
    | Wrong w => exact (exm_cons T.xm_Wrong_StoreError (exm_cons T.xm_Wrong_Missing (exm_cons T.xm_Wrong_Halted rfl)))
    | NoRoom w => exact (exm_cons T.xm_NoRoom_StoreError (exm_cons T.xm_NoRoom_Missing (exm_cons T.xm_NoRoom_Halted rfl)))
    | NoPiece w => exact (exm_cons T.xm_NoPiece_StoreError (exm_cons T.xm_NoPiece_Missing (exm_cons T.xm_NoPiece_Halted rfl)))
    | Unlike w => exact (exm_cons T.xm_Unlike_StoreError (exm_cons T.xm_Unlike_Missing (exm_cons T.xm_Unlike_Halted rfl)))
    | Broken w => exact (exm_cons T.xm_Broken_StoreError (exm_cons T.xm_Broken_Missing (exm_cons T.xm_Broken_Halted rfl)))
   refine g_ret (g_callE (g_var rfl (⟨rfl, _, d20, _, x19, _, rfl, rfl, (M.pk S22 5 [0, 1, 2, 3, 4] rfl), hf, λ x27 u28 H30 hf (S29 : M (da K u28 (eA x27) :: oo5 Rs) H30) => ?_⟩)))
   exact hk _ _ _ _ hf (M.pk S29 6 [0, 3, 4] rfl)
  exact hN7 _ _ _ hf ⟨_, _, rfl, (M.pk S14 4 [0, 1, 2] rfl)⟩
 rintro s3 _ H33 hf ⟨u8, o11, rfl, S32⟩
 refine g_ret (g_tup (g_cons (g_c (g_cons (g_var rfl (g_nil (v_tupq S32 (EnF.consA (EnF.all λ _ => .str _) (EnF.consA (EnF.at 0 rfl) EnF.nilA)) (len_ok rfl) λ p34 H36 (S35 : M (da K (V.ref p34) ((eP eS eA) (("told" : Str), s3.1)) :: oo3 Rs) H36) => ?_)))))))
 exact hk _ _ _ _ hf (M.pk S35 4 [0, 2, 3] rfl)
theorem pure_l_said_o {K : Fr} (T : TxC K) (vs : List V) (H : Hp) (Q : VK) (E : XK) (h : sp_l_said_o K vs H Q E) : t_l_said K { nx := λ _ H' => Q .non H', rt := Q } (L2.start ["_law_shelf", "_law_way", "_law_seal", "_law_signs_here", "_law_found", "_law_e"] vs) H := by
 obtain ⟨Rs, p_a_shelf, a_shelf, a_way, a_seal, R_a_signs_here, v_a_signs_here, a_signs_here, P, rfl, h_a_signs_here, S0, hf, hk⟩ := h
 show t_l_said K _ [some (V.ref p_a_shelf), some (V.int a_way), some (V.int a_seal), some v_a_signs_here, none, none] H
 refine g_seq (g_asg (g_c ?_))
 have S2 : M (odR K V.non (OD.fz (eN ())) :: oo2 Rs) H := M.addA S0 (EnF.all λ _ => .non)
 refine g_nx ?_
 show (_ : TS) _ [some (V.ref p_a_shelf), some (V.int a_way), some (V.int a_seal), some v_a_signs_here, some V.non, none] _
 refine jn_cut (β := OD × (Int × (List (Int × Int)) × (List (Int × (Option (List Int)))))) hf (λ (s3 : OD × (Int × (List (Int × Int)) × (List (Int × (Option (List Int)))))) σ H' => ∃ (u8 : V) (o11 : Option V), σ = [some (V.ref p_a_shelf), some (V.int a_way), some (V.int a_seal), some v_a_signs_here, some u8, o11] /\ M (odR K u8 s3.1 :: R_Shelf K p_a_shelf s3.2 :: R_a_signs_here :: Rs) H') (λ kk5 N6 hN7 hf => ?_) ?_
 ·
  refine g_try (g_asg (g_callW (g_cons (g_var rfl (g_cons (g_var rfl (g_cons (g_var rfl (g_cons (g_var rfl (g_nil (.inr (⟨_, _, _, _, _, _, _, _, _, _, rfl, h_a_signs_here, (M.at (M.at S2 2 rfl) 2 rfl), hf, λ x19 m17 d20 v21 H23 hf (S22 : M (pt d20 (.xd [(x19.fld, v21)]) :: da K v21 x19.val :: R_Shelf K p_a_shelf m17 :: oo2 Rs) H23) => ?_, λ x12 m13 u16 H15 hf (S14 : M (odR K u16 x12 :: R_Shelf K p_a_shelf m13 :: oo2 Rs) H15) => ?_⟩)))))))))))))
  ·
   refine v_hdY ?_ λ a26 => ?_
   ·
    cases x19 with
    | Wrong w => exact (exm_cons T.xm_Wrong_StoreError (exm_cons T.xm_Wrong_Missing (exm_cons T.xm_Wrong_Halted rfl)))
    | NoRoom w => exact (exm_cons T.xm_NoRoom_StoreError (exm_cons T.xm_NoRoom_Missing (exm_cons T.xm_NoRoom_Halted rfl)))
    | NoPiece w => exact (exm_cons T.xm_NoPiece_StoreError (exm_cons T.xm_NoPiece_Missing (exm_cons T.xm_NoPiece_Halted rfl)))
    | Unlike w => exact (exm_cons T.xm_Unlike_StoreError (exm_cons T.xm_Unlike_Missing (exm_cons T.xm_Unlike_Halted rfl)))
    | Broken w => exact (exm_cons T.xm_Broken_StoreError (exm_cons T.xm_Broken_Missing (exm_cons T.xm_Broken_Halted rfl)))
   refine g_ret (g_callE (g_var rfl (⟨rfl, _, d20, _, x19, _, rfl, rfl, (M.pk S22 5 [0, 1, 2, 3, 4] rfl), hf, λ x27 u28 H30 hf (S29 : M (da K u28 (eA x27) :: oo5 Rs) H30) => ?_⟩)))
   have S33 : M (odR K u28 (OD.fz (eA x27)) :: oo6 Rs) H30 := M.addA S29 (EnF.at 0 rfl)
   exact hk _ _ _ _ hf (M.pk S33 7 [0, 4, 5] rfl)
  exact hN7 _ _ _ hf ⟨_, _, rfl, (M.pk S14 4 [0, 1, 2] rfl)⟩
 rintro s3 _ H35 hf ⟨u8, o11, rfl, S34⟩
 refine g_ret (g_tup (g_cons (g_c (g_cons (g_var rfl (g_nil ?_))))))
 refine v_tup S34 (len_ok rfl) λ p36 H38 (S37 : M (pt p36 (.tup [(V.str ("told" : Str)), u8]) :: oo3 Rs) H38) => ?_
 have S41 : M (starR (odR K) [] [] :: oo4 Rs) H38 := M.addE S37
 have S42 : M (oo5 Rs) H38 := M.at S41 2 rfl
 have S44 : M (starR (odR K) [u8] [s3.1] :: oo3 Rs) H38 := M.sp' (M.pk S42 5 [0, 1, 2, 3, 4] rfl)
 have S46 : M (odR K (V.str ("told" : Str)) (OD.fz (eS ("told" : Str))) :: oo4 Rs) H38 := M.addA S44 (EnF.all λ _ => .str _)
 have S47 : M (oo5 Rs) H38 := M.at S46 0 rfl
 have S49 : M (starR (odR K) [(V.str ("told" : Str)), u8] [(OD.fz (eS ("told" : Str))), s3.1] :: oo3 Rs) H38 := M.sp' (M.pk S47 5 [0, 1, 2, 3, 4] rfl)
 have S51 : M (odR K (V.ref p36) (OD.ot [(OD.fz (eS ("told" : Str))), s3.1]) :: oo2 Rs) H38 := M.odTC (M.pk S49 4 [1, 0, 2, 3] rfl)
 exact hk _ _ _ _ hf (M.pk S51 3 [0, 1, 2] rfl)
theorem pure_l_said {K : Fr} (T : TxC K) (vs : List V) (H : Hp) (Q : VK) (E : XK) (h : sp_l_said K vs H Q E) : t_l_said K { nx := λ _ H' => Q .non H', rt := Q } (L2.start ["_law_shelf", "_law_way", "_law_seal", "_law_signs_here", "_law_found", "_law_e"] vs) H := h.elim (pure_l_said_0 T vs H Q E) λ h => pure_l_said_o T vs H Q E h
def p_l_sound (a_model : (List (Int × (Int × (Option (List Int)))))) (a_seal : Int) (P : Bool -> Prop) : Prop := ∃ x1, lk a_model a_seal = some x1 /\ jn (λ k36 => if (!(x1.2).isNone) = true then (jn (λ k53 => ∃ x61 : (List Int), x1.2 = some x61 /\ if (!decide (x61 = ([] : (List Int)))) = true then (p_l_sum x61 λ x66 => k53 (decide (x66 = a_seal))) else (k53 false)) λ c49 => k36 c49) else (k36 false)) λ c32 => P c32
def sp_l_sound (K : Fr) : Sp := λ vs H Q _ => ∃ (Rs : List Res) (p_a_model : Addr) (a_model : (List (Int × (Int × (Option (List Int)))))) (a_seal : Int) (P : Bool -> Prop), vs = [(V.ref p_a_model), (V.int a_seal)] /\ M (dvR iI (vr (liR (qcR (vrD K eI) (q1R (vrD K (eO (eL eI))))))) p_a_model a_model :: Rs) H /\ p_l_sound a_model a_seal P /\ ∀ (r : Bool) H', P r -> M (dvR iI (vr (liR (qcR (vrD K eI) (q1R (vrD K (eO (eL eI))))))) p_a_model a_model :: Rs) H' -> Q (V.bl r) H'
theorem len_l_sound {K : Fr} (vs : List V) (H : Hp) (Q : VK) (E : XK) (h : sp_l_sound K vs H Q E) : vs.length = 2 := by
 obtain ⟨Rs, p_a_model, a_model, a_seal, P, rfl, _⟩ := h
 rfl
abbrev t_l_sound_1 (K : Fr) : TS := (tSeq (tAsg (tOp (uIx K) (tOp rIxK (tVar 0) (tVar 1)) (tC (.int 1))) (gName 2))
 (tRet (tAndV (tOp rNotN (tVar 2) (tC .non)) (tAndV (tOp (uNe K) (tVar 2) (tLst tNil)) (tOp (uEq K) (tCall (sp_l_sum K) [] E0 (tCons (tVar 2) tNil)) (tVar 1))))))
abbrev t_l_sound (K : Fr) : TS := (t_l_sound_1 K)
theorem pure_l_sound {K : Fr} (vs : List V) (H : Hp) (Q : VK) (E : XK) (h : sp_l_sound K vs H Q E) : t_l_sound K { nx := λ _ H' => Q .non H', rt := Q } (L2.start ["_law_model", "_law_seal", "_law_body"] vs) H := by
 obtain ⟨Rs, p_a_model, a_model, a_seal, P, rfl, S0, hf, hk⟩ := h
 show t_l_sound K _ [some (V.ref p_a_model), some (V.int a_seal), none] H
 refine g_seq (g_asg (g_op (g_op (g_var rfl (g_var rfl ?_)))))
 obtain ⟨x1, h2, hf⟩ := hf
 refine v_ixDV (k := a_seal) injI S0 0 rfl h2 λ u3 kvs4 n5 hu6 hn7 nd8 (S9 : M (vr (liR (qcR (vrD K eI) (q1R (vrD K (eO (eL eI)))))) u3 x1 :: pt p_a_model (.dK kvs4) :: starK iI (vr (liR (qcR (vrD K eI) (q1R (vrD K (eO (eL eI))))))) (kvs4.eraseIdx n5) (a_model.eraseIdx n5) :: Rs) H) => ?_
 obtain ⟨p13, rfl, S14⟩ := M.vrO S9
 have S16 : M (liR (qcR (vrD K eI) (q1R (vrD K (eO (eL eI))))) p13 x1 :: oo2 Rs) H := S14
 obtain ⟨vs17, S18⟩ := M.liO (M.at S16 0 rfl)
 obtain ⟨u19, u20, rfl, S21⟩ := M.hq2O S18
 have S25 : M (vrD K eI u19 x1.1 :: vrD K (eO (eL eI)) u20 x1.2 :: pt p13 (.lst [u19, u20]) :: oo2 Rs) H := M.at S21 0 rfl
 have S27 : M (da K u19 (eI x1.1) :: oo4 Rs) H := S25
 obtain rfl := (S27.gotA 0 rfl).intV
 have S28 : M (_ :: pt p13 (.lst [(V.int x1.1), u20]) :: oo2 Rs) H := M.tl S27
 have S29 : M (oo4 Rs) H := M.at S28 0 rfl
 have S31 : M (da K u20 ((eO (eL eI)) x1.2) :: oo3 Rs) H := S29
 refine g_c (v_ixL (SqL.of (S31.got 1 rfl)) (i := 1) rfl (g_nx ?_))
 show (_ : TS) _ [some (V.ref p_a_model), some (V.int a_seal), some u20] _
 refine g_ret ?_
 have S39 : M (vrD K (eO (eL eI)) u20 x1.2 :: oo4 Rs) H := M.addA S31 (EnF.at 0 rfl)
 have S41 : M (vrD K eI (V.int x1.1) x1.1 :: oo5 Rs) H := M.addA S39 (EnF.all λ _ => .int _)
 have S43 : M (qcR (vrD K eI) (q1R (vrD K (eO (eL eI)))) [(V.int x1.1), u20] x1 :: oo4 Rs) H := M.hq2C S41
 have S45 : M (liR (qcR (vrD K eI) (q1R (vrD K (eO (eL eI))))) p13 x1 :: oo3 Rs) H := M.liC (M.pk S43 5 [0, 2, 1, 3, 4] rfl)
 have S47 : M (vr (liR (qcR (vrD K eI) (q1R (vrD K (eO (eL eI)))))) (V.ref p13) x1 :: oo3 Rs) H := M.vrC (M.at S45 0 rfl)
 have S48 : M (dvR iI (vr (liR (qcR (vrD K eI) (q1R (vrD K (eO (eL eI))))))) p_a_model a_model :: _ :: Rs) H := dvR_same hu6 hn7 nd8 (M.pk S47 4 [0, 2, 3, 1] rfl)
 refine te_cut hf (λ H => M (dvR iI (vr (liR (qcR (vrD K eI) (q1R (vrD K (eO (eL eI))))))) p_a_model a_model :: da K u20 ((eO (eL eI)) x1.2) :: Rs) H) (λ kk33 P34 hP35 hf => ?_) ?_
 ·
  refine g_andV (g_op (g_var rfl (g_c (v_notOe (λ _ => rfl) (M.gotA S48 1 rfl) (g_bl (v_iff hf (λ _ hf => ?_) (λ _ hf => ?_)))))))
  ·
   refine te_cut hf (λ H => M (dvR iI (vr (liR (qcR (vrD K eI) (q1R (vrD K (eO (eL eI))))))) p_a_model a_model :: da K u20 ((eO (eL eI)) x1.2) :: Rs) H) (λ kk50 P51 hP52 hf => ?_) ?_
   ·
    refine g_andV (g_op (g_var rfl (g_lst (g_nil (v_lsto (ds := ([] : (List Int)).map eI) S48 EnF.nilA (len_ok rfl) λ p55 H57 (S56 : M (acR K p55 (([] : (List Int)).map eI) :: oo2 Rs) H57) => ?_)))))
    have S59 : M (da K (V.ref p55) ((eL eI) ([] : (List Int))) :: oo2 Rs) H57 := acR_fixL S56
    obtain ⟨x61, h62, hf⟩ := hf
    have S63 : M (da K u20 ((eL eI) x61) :: oo3 Rs) H57 := M.cstA S59 2 rfl (by rw [h62]; rfl)
    refine v_neLI (M.gotA S63 0 rfl) (M.gotA S63 1 rfl) (g_bl (v_iff hf (λ _ hf => ?_) (λ _ hf => ?_)))
    ·
     refine g_op (g_call (g_cons (g_var rfl (g_nil (⟨_, _, _, _, _, rfl, Brw.da, (M.addA S63 (EnF.at 0 rfl)), hf, λ x66 H68 hf (S67 : M (oo5 Rs) H68) => ?_⟩)))))
     refine g_var rfl (v_eqI ?_)
     exact hP52 _ _ hf (M.pk S67 5 [3, 4] rfl)
    ·
     exact hP52 _ _ hf (M.pk S63 4 [2, 3] rfl)
   intro c49 H71 hf S70
   exact hP35 _ _ hf (M.sub (.cons 0 rfl (.cons 0 rfl (.refl _))) S70)
  ·
   exact hP35 _ _ hf (M.pk S48 2 [0, 1] rfl)
 intro c32 H73 hf S72
 exact hk _ _ hf (M.sub (.cons 0 rfl (.tl (.refl _))) S72)
def p_l_laid (a_model : (List (Int × (Int × (Option (List Int)))))) (a_room : Int) (a_signs_here : (List Int)) (P : PyData -> (List (Int × (Int × (Option (List Int))))) -> Prop) : Prop := p_l_are_signs a_signs_here 1 16 λ x2 => if (!x2) = true then (P ((eP eS eI) (("wrong" : Str), 0)) a_model) else (p_l_sum a_signs_here λ x11 => if ((!(lk a_model x11).isSome) && (decide (a_room <= ((a_model).length : Int)))) = true then (P ((eP eS eI) (("room" : Str), a_room)) a_model) else (jn (β := (List (Int × (Int × (Option (List Int)))))) (λ k21 => if (!(lk a_model x11).isSome) = true then ((a_model).length < 100000 /\ k21 (pk a_model x11 (0, (none : (Option (List Int)))))) else (k21 a_model)) λ s20 => ∃ x48, lk s20 x11 = some x48 /\ (s20).length < 100000 /\ P ((eP eS eI) (("told" : Str), x11)) (pk s20 x11 ((x48.1 + 1), (some a_signs_here)))))
def sp_l_laid (K : Fr) : Sp := λ vs H Q _ => ∃ (Rs : List Res) (p_a_model : Addr) (a_model : (List (Int × (Int × (Option (List Int)))))) (a_room : Int) (v_a_signs_here : V) (a_signs_here : (List Int)) (P : PyData -> (List (Int × (Int × (Option (List Int))))) -> Prop), vs = [(V.ref p_a_model), (V.int a_room), v_a_signs_here] /\ M (dvR iI (vr (liR (qcR (vrD K eI) (q1R (vrD K (eO (eL eI))))))) p_a_model a_model :: da K v_a_signs_here ((eL eI) a_signs_here) :: Rs) H /\ p_l_laid a_model a_room a_signs_here P /\ ∀ (r : PyData) (m1 : (List (Int × (Int × (Option (List Int)))))) (v : V) H', P r m1 -> M (da K v (eA r) :: dvR iI (vr (liR (qcR (vrD K eI) (q1R (vrD K (eO (eL eI))))))) p_a_model m1 :: Rs) H' -> Q v H'
theorem len_l_laid {K : Fr} (vs : List V) (H : Hp) (Q : VK) (E : XK) (h : sp_l_laid K vs H Q E) : vs.length = 3 := by
 obtain ⟨Rs, p_a_model, a_model, a_room, v_a_signs_here, a_signs_here, P, rfl, _⟩ := h
 rfl
abbrev t_l_laid_8 (K : Fr) : TS := (tSeq (tAsg (tLst (tCons (tOp (uAdd K) (tOp (uIx K) (tOp rIxK (tVar 0) (tVar 3)) (tC (.int 0))) (tC (.int 1))) (tCons (tCB (rListOf K) (tCons (tVar 2) tNil)) tNil))) (gSub (tVar 0) (tVar 3) uSet))
 (tRet (tTup (tCons (tC (.str "told")) (tCons (tVar 3) tNil)))))
abbrev t_l_laid_6 (K : Fr) : TS := (tSeq (tIfS (tTest (tOp (uNotIn K) (tVar 3) (tVar 0))) (tAsg (tLst (tCons (tC (.int 0)) (tCons (tC .non) tNil))) (gSub (tVar 0) (tVar 3) uSet)) tNext)
 (t_l_laid_8 K))
abbrev t_l_laid_4 (K : Fr) : TS := (tSeq (tIfS (tAnd (tTest (tOp (uNotIn K) (tVar 3) (tVar 0))) (tTest (tOp uGe (tCB (uLen K) (tCons (tVar 0) tNil)) (tVar 1)))) (tRet (tTup (tCons (tC (.str "room")) (tCons (tVar 1) tNil)))) tNext)
 (t_l_laid_6 K))
abbrev t_l_laid_3 (K : Fr) : TS := (tSeq (tAsg (tCall (sp_l_sum K) [] E0 (tCons (tVar 2) tNil)) (gName 3))
 (t_l_laid_4 K))
abbrev t_l_laid_1 (K : Fr) : TS := (tSeq (tIfS (tNot (tB (tCall (sp_l_are_signs K) [] E0 (tCons (tVar 2) (tCons (tC (.int 1)) (tCons (tC (.int 16)) tNil)))))) (tRet (tTup (tCons (tC (.str "wrong")) (tCons (tC (.int 0)) tNil)))) tNext)
 (t_l_laid_3 K))
abbrev t_l_laid (K : Fr) : TS := (t_l_laid_1 K)
theorem pure_l_laid {K : Fr} (vs : List V) (H : Hp) (Q : VK) (E : XK) (h : sp_l_laid K vs H Q E) : t_l_laid K { nx := λ _ H' => Q .non H', rt := Q } (L2.start ["_law_model", "_law_room", "_law_signs_here", "_law_seal"] vs) H := by
 obtain ⟨Rs, p_a_model, a_model, a_room, v_a_signs_here, a_signs_here, P, rfl, S0, hf, hk⟩ := h
 show t_l_laid K _ [some (V.ref p_a_model), some (V.int a_room), some v_a_signs_here, none] H
 refine g_seq (g_if (g_not (g_B (g_call (g_cons (g_var rfl (g_cons (g_c (g_cons (g_c (g_nil (⟨_, _, _, _, _, _, rfl, (M.addA S0 (EnF.at 1 rfl)), hf, λ x2 H4 hf (S3 : M (oo2 Rs) H4) => ?_⟩))))))))))))
 refine g_bl (v_iff hf (λ _ hf => ?_) (λ _ hf => ?_))
 ·
  refine g_ret (g_tup (g_cons (g_c (g_cons (g_c (g_nil (v_tupq S3 (EnF.consA (EnF.all λ _ => .str _) (EnF.consA (EnF.all λ _ => .int _) EnF.nilA)) (len_ok rfl) λ p6 H8 (S7 : M (da K (V.ref p6) ((eP eS eI) (("wrong" : Str), 0)) :: oo2 Rs) H8) => ?_)))))))
  exact hk _ _ _ _ hf (M.pk S7 3 [0, 1] rfl)
 ·
  refine g_next (g_nx (g_seq (g_asg (g_call (g_cons (g_var rfl (g_nil (⟨_, _, _, _, _, rfl, Brw.da, (M.addA S3 (EnF.at 1 rfl)), hf, λ x11 H13 hf (S12 : M (oo3 Rs) H13) => ?_⟩))))))))
  refine g_nx ?_
  show (_ : TS) _ [some (V.ref p_a_model), some (V.int a_room), some v_a_signs_here, some (V.int x11)] _
  have S15 : M (oo2 Rs) H13 := (M.drp S12 0)
  refine g_seq (g_if (g_andP (c1 := (!(lk a_model x11).isSome)) (c2 := (decide (a_room <= ((a_model).length : Int)))) (λ _ hq => ?_) (λ _ hq => ?_) ?_))
  ·
   refine g_test (g_op (g_var rfl (g_var rfl (v_ninDVI S15 0 rfl (g_bl ?_)))))
   exact hq
  ·
   refine g_test (g_op (g_cb (g_cons (g_var rfl (g_nil (v_lenDV injI S15 0 rfl (g_var rfl (v_ge (g_bl ?_)))))))))
   exact hq
  refine v_iff hf (λ _ hf => ?_) (λ _ hf => ?_)
  ·
   refine g_ret (g_tup (g_cons (g_c (g_cons (g_var rfl (g_nil (v_tupq S15 (EnF.consA (EnF.all λ _ => .str _) (EnF.consA (EnF.all λ _ => .int _) EnF.nilA)) (len_ok rfl) λ p16 H18 (S17 : M (da K (V.ref p16) ((eP eS eI) (("room" : Str), a_room)) :: oo2 Rs) H18) => ?_)))))))
   exact hk _ _ _ _ hf (M.pk S17 3 [0, 1] rfl)
  ·
   refine g_next (g_nx ?_)
   show (_ : TS) _ [some (V.ref p_a_model), some (V.int a_room), some v_a_signs_here, some (V.int x11)] _
   refine jn_cut (β := (List (Int × (Int × (Option (List Int)))))) hf (λ (s20 : (List (Int × (Int × (Option (List Int)))))) σ H' => σ = [some (V.ref p_a_model), some (V.int a_room), some v_a_signs_here, some (V.int x11)] /\ M (dvR iI (vr (liR (qcR (vrD K eI) (q1R (vrD K (eO (eL eI))))))) p_a_model s20 :: da K v_a_signs_here ((eL eI) a_signs_here) :: Rs) H') (λ kk22 N23 hN24 hf => ?_) ?_
   ·
    refine g_if (g_test (g_op (g_var rfl (g_var rfl (v_ninDVI S15 0 rfl (g_bl (v_iff hf (λ _ hf => ?_) (λ _ hf => ?_))))))))
    ·
     refine g_asgX (g_lst (g_cons (g_c (g_cons (g_c (g_nil (v_lst S15 (len_ok rfl) λ p26 H28 (S27 : M (pt p26 (.lst [(V.int 0), V.non]) :: oo2 Rs) H28) => ?_)))))))
     have S30 : M (da K V.non ((eO (eL eI)) (none : (Option (List Int)))) :: oo3 Rs) H28 := M.addA S27 (EnF.all λ _ => .non)
     have S33 : M (vrD K (eO (eL eI)) V.non (none : (Option (List Int))) :: oo4 Rs) H28 := M.addA S30 (EnF.at 0 rfl)
     have S35 : M (vrD K eI (V.int 0) 0 :: oo5 Rs) H28 := M.addA S33 (EnF.all λ _ => .int _)
     have S37 : M (qcR (vrD K eI) (q1R (vrD K (eO (eL eI)))) [(V.int 0), V.non] (0, (none : (Option (List Int)))) :: oo4 Rs) H28 := M.hq2C S35
     have S39 : M (liR (qcR (vrD K eI) (q1R (vrD K (eO (eL eI))))) p26 (0, (none : (Option (List Int)))) :: oo3 Rs) H28 := M.liC (M.pk S37 5 [0, 2, 1, 3, 4] rfl)
     refine g_sub (g_var rfl (g_var rfl ?_))
     have S41 : M (vr (liR (qcR (vrD K eI) (q1R (vrD K (eO (eL eI)))))) (V.ref p26) (0, (none : (Option (List Int)))) :: oo3 Rs) H28 := M.vrC (M.at S39 0 rfl)
     obtain ⟨h42, hf⟩ := hf
     refine v_putDV (k := x11) injI (M.pk S41 4 [0, 2, 1, 3] rfl) h42 λ H44 (S43 : M (dvR iI (vr (liR (qcR (vrD K eI) (q1R (vrD K (eO (eL eI))))))) p_a_model (pk a_model x11 (0, (none : (Option (List Int))))) :: oo2 Rs) H44) => ?_
     exact hN24 _ _ _ hf ⟨rfl, (M.pk S43 3 [0, 2] rfl)⟩
    ·
     refine g_next ?_
     exact hN24 _ _ _ hf ⟨rfl, (M.pk S15 2 [0, 1] rfl)⟩
   rintro s20 _ H47 hf ⟨rfl, S46⟩
   refine g_seq (g_asgX (g_lst (g_cons (g_op (g_op (g_op (g_var rfl (g_var rfl ?_))))))))
   obtain ⟨x48, h49, hf⟩ := hf
   refine v_ixDV (k := x11) injI S46 0 rfl h49 λ u50 kvs51 n52 hu53 hn54 nd55 (S56 : M (vr (liR (qcR (vrD K eI) (q1R (vrD K (eO (eL eI)))))) u50 x48 :: pt p_a_model (.dK kvs51) :: starK iI (vr (liR (qcR (vrD K eI) (q1R (vrD K (eO (eL eI))))))) (kvs51.eraseIdx n52) (s20.eraseIdx n52) :: _ :: Rs) H47) => ?_
   obtain ⟨p60, rfl, S61⟩ := M.vrO S56
   have S63 : M (liR (qcR (vrD K eI) (q1R (vrD K (eO (eL eI))))) p60 x48 :: oo3 Rs) H47 := S61
   obtain ⟨vs64, S65⟩ := M.liO (M.at S63 0 rfl)
   obtain ⟨u66, u67, rfl, S68⟩ := M.hq2O S65
   have S72 : M (vrD K eI u66 x48.1 :: vrD K (eO (eL eI)) u67 x48.2 :: pt p60 (.lst [u66, u67]) :: oo3 Rs) H47 := M.at S68 0 rfl
   have S74 : M (da K u66 (eI x48.1) :: oo5 Rs) H47 := S72
   obtain rfl := (S74.gotA 0 rfl).intV
   have S75 : M (_ :: pt p60 (.lst [(V.int x48.1), u67]) :: oo3 Rs) H47 := M.tl S74
   have S76 : M (oo5 Rs) H47 := M.at S75 0 rfl
   have S78 : M (da K u67 ((eO (eL eI)) x48.2) :: oo4 Rs) H47 := S76
   refine g_c (v_ixL (SqL.of (S78.got 1 rfl)) (i := 0) rfl (g_c (v_add (g_cons (g_cb (g_cons (g_var rfl (g_nil (v_liN flI S78 (M.gotA S78 4 rfl) λ p79 H81 (S80 : M (acR K p79 (a_signs_here.map eI) :: oo5 Rs) H81) => ?_)))))))))
   refine g_nil (v_lst S80 (len_ok rfl) λ p83 H85 (S84 : M (pt p83 (.lst [(V.int (x48.1 + 1)), (V.ref p79)]) :: oo6 Rs) H85) => ?_)
   have S87 : M (da K (V.ref p79) ((eL eI) a_signs_here) :: oo6 Rs) H85 := acR_fixL (S84.at 1 rfl)
   have S90 : M (vrD K (eO (eL eI)) (V.ref p79) (some a_signs_here) :: oo7 Rs) H85 := M.addA S87 (EnF.at 0 rfl)
   have S92 : M (vrD K eI (V.int (x48.1 + 1)) (x48.1 + 1) :: oo8 Rs) H85 := M.addA S90 (EnF.all λ _ => .int _)
   have S94 : M (qcR (vrD K eI) (q1R (vrD K (eO (eL eI)))) [(V.int (x48.1 + 1)), (V.ref p79)] ((x48.1 + 1), (some a_signs_here)) :: oo7 Rs) H85 := M.hq2C S92
   have S96 : M (liR (qcR (vrD K eI) (q1R (vrD K (eO (eL eI))))) p83 ((x48.1 + 1), (some a_signs_here)) :: oo6 Rs) H85 := M.liC (M.pk S94 8 [0, 2, 1, 3, 4, 5, 6, 7] rfl)
   refine g_sub (g_var rfl (g_var rfl ?_))
   have S98 : M (vrD K (eO (eL eI)) u67 x48.2 :: oo7 Rs) H85 := M.addA S96 (EnF.at 2 rfl)
   have S100 : M (vrD K eI (V.int x48.1) x48.1 :: oo8 Rs) H85 := M.addA S98 (EnF.all λ _ => .int _)
   have S102 : M (qcR (vrD K eI) (q1R (vrD K (eO (eL eI)))) [(V.int x48.1), u67] x48 :: oo7 Rs) H85 := M.hq2C S100
   have S104 : M (liR (qcR (vrD K eI) (q1R (vrD K (eO (eL eI))))) p60 x48 :: oo6 Rs) H85 := M.liC (M.pk S102 8 [0, 4, 1, 2, 3, 5, 6, 7] rfl)
   have S106 : M (vr (liR (qcR (vrD K eI) (q1R (vrD K (eO (eL eI)))))) (V.ref p60) x48 :: oo6 Rs) H85 := M.vrC (M.at S104 0 rfl)
   have S107 : M (dvR iI (vr (liR (qcR (vrD K eI) (q1R (vrD K (eO (eL eI))))))) p_a_model s20 :: oo4 Rs) H85 := dvR_same hu53 hn54 nd55 (M.pk S106 7 [0, 4, 5, 1, 2, 3, 6] rfl)
   have S109 : M (vr (liR (qcR (vrD K eI) (q1R (vrD K (eO (eL eI)))))) (V.ref p83) ((x48.1 + 1), (some a_signs_here)) :: oo4 Rs) H85 := M.vrC (M.at S107 1 rfl)
   obtain ⟨h110, hf⟩ := hf
   refine v_putDV (k := x11) injI (M.pk S109 5 [0, 1, 2, 3, 4] rfl) h110 λ H112 (S111 : M (dvR iI (vr (liR (qcR (vrD K eI) (q1R (vrD K (eO (eL eI))))))) p_a_model (pk s20 x11 ((x48.1 + 1), (some a_signs_here))) :: oo3 Rs) H112) => ?_
   refine g_nx ?_
   show (_ : TS) _ [some (V.ref p_a_model), some (V.int a_room), some v_a_signs_here, some (V.int x11)] _
   have S114 : M (oo2 Rs) H112 := (M.drp (M.drp S111 2) 1)
   refine g_ret (g_tup (g_cons (g_c (g_cons (g_var rfl (g_nil (v_tupq S114 (EnF.consA (EnF.all λ _ => .str _) (EnF.consA (EnF.all λ _ => .int _) EnF.nilA)) (len_ok rfl) λ p115 H117 (S116 : M (da K (V.ref p115) ((eP eS eI) (("told" : Str), x11)) :: oo2 Rs) H117) => ?_)))))))
   exact hk _ _ _ _ hf (M.pk S116 3 [0, 1] rfl)
def p_l_due (a_model : (List (Int × (Int × (Option (List Int)))))) (a_room : Int) (a_way : Int) (a_seal : Int) (a_signs_here : (List Int)) (P : PyData -> (List (Int × (Int × (Option (List Int))))) -> Prop) : Prop := if (decide (a_way = 0)) = true then (p_l_laid a_model a_room a_signs_here λ x2 m3 => P x2 m3) else (p_l_is_seal a_seal λ x8 => if (!x8) = true then (P ((eP eS eI) (("wrong" : Str), 0)) a_model) else (jn (λ k20 => if (decide (a_way ∈ ([3, 5] : List Int))) = true then (((0 : Int) < 5 /\ 5 < (2 ^ 64 : Int)) /\ p_l_are_signs a_signs_here (a_way / 5) 16 λ x28 => k20 (!x28)) else (k20 false)) λ c16 => if c16 = true then (P ((eP eS eI) (("wrong" : Str), 1)) a_model) else (if (!(lk a_model a_seal).isSome) = true then (P ((eP eS eI) (("piece" : Str), a_seal)) a_model) else (if (decide (a_way ∈ ([1, 2] : List Int))) = true then (∃ x46, lk a_model a_seal = some x46 /\ (CMul 2 a_way \/ CMulW 2 a_way) /\ jn (β := (List (Int × (Int × (Option (List Int)))))) (λ k93 => ∃ x98, lk (pk a_model a_seal ((x46.1 + (3 - (2 * a_way))), x46.2)) a_seal = some x98 /\ if (decide (x98.1 = 0)) = true then (∃ x140, lk (pk a_model a_seal ((x46.1 + (3 - (2 * a_way))), x46.2)) a_seal = some x140 /\ k93 (dk (pk a_model a_seal ((x46.1 + (3 - (2 * a_way))), x46.2)) a_seal)) else (k93 (pk a_model a_seal ((x46.1 + (3 - (2 * a_way))), x46.2)))) λ s92 => ∃ x171, atI ([eN (), eB (!(lk s92 a_seal).isSome)] : List PyData) (a_way - 1) = some x171 /\ P ((eP eS eA) (("told" : Str), x171)) s92) else (jn (λ k184 => if (decide (a_way = 5)) = true then (p_l_sum a_signs_here λ x187 => k184 (!decide (x187 = a_seal))) else (k184 false)) λ c180 => if c180 = true then (P ((eP eS eI) (("unlike" : Str), a_seal)) a_model) else (if (decide (a_way < 6)) = true then (∃ x215, atI ([(eL eI) a_signs_here, eN (), (eL eI) a_signs_here] : List PyData) (a_way - 3) = some x215 /\ ∃ x220, lk a_model a_seal = some x220 /\ ∃ x251 : (Option (List Int)), x215 = (eO (eL eI)) x251 /\ P ((eP eS eN) (("told" : Str), ())) (pk a_model a_seal (x220.1, x251))) else (if (decide (a_way = 6)) = true then (∃ x273, lk a_model a_seal = some x273 /\ P ((eP eS eI) (("told" : Str), x273.1)) a_model) else (if (decide (a_way = 7)) = true then (p_l_sound a_model a_seal λ x319 => P ((eP eS eB) (("told" : Str), x319)) a_model) else (p_l_sound a_model a_seal λ x327 => if x327 = true then (p_l_back a_seal λ x331 => P ((eP eS (eO (eL eI))) (("told" : Str), x331)) a_model) else (P ((eP eS eI) (("broken" : Str), a_seal)) a_model))))))))))
def sp_l_due (K : Fr) : Sp := λ vs H Q _ => ∃ (Rs : List Res) (p_a_model : Addr) (a_model : (List (Int × (Int × (Option (List Int)))))) (a_room : Int) (a_way : Int) (a_seal : Int) (v_a_signs_here : V) (a_signs_here : (List Int)) (P : PyData -> (List (Int × (Int × (Option (List Int))))) -> Prop), vs = [(V.ref p_a_model), (V.int a_room), (V.int a_way), (V.int a_seal), v_a_signs_here] /\ M (dvR iI (vr (liR (qcR (vrD K eI) (q1R (vrD K (eO (eL eI))))))) p_a_model a_model :: da K v_a_signs_here ((eL eI) a_signs_here) :: Rs) H /\ p_l_due a_model a_room a_way a_seal a_signs_here P /\ ∀ (r : PyData) (m1 : (List (Int × (Int × (Option (List Int)))))) (v : V) H', P r m1 -> M (da K v (eA r) :: dvR iI (vr (liR (qcR (vrD K eI) (q1R (vrD K (eO (eL eI))))))) p_a_model m1 :: Rs) H' -> Q v H'
theorem len_l_due {K : Fr} (vs : List V) (H : Hp) (Q : VK) (E : XK) (h : sp_l_due K vs H Q E) : vs.length = 5 := by
 obtain ⟨Rs, p_a_model, a_model, a_room, a_way, a_seal, v_a_signs_here, a_signs_here, P, rfl, _⟩ := h
 rfl
abbrev t_l_due_11 (K : Fr) : TS := (tSeq (tIfS (tTest (tOp (uEq K) (tOp (uIx K) (tOp rIxK (tVar 0) (tVar 3)) (tC (.int 0))) (tC (.int 0)))) (tDrop (tDPop1 (tVar 0) (tVar 3))) tNext)
 (tRet (tTup (tCons (tC (.str "told")) (tCons (tOp (uIx K) (tLst (tCons (tC .non) (tCons (tOp (uNotIn K) (tVar 3) (tVar 0)) tNil))) (tOp uSub (tVar 2) (tC (.int 1)))) tNil)))))
abbrev t_l_due_10 (K : Fr) : TS := (tSeq (tAugS (tOp rIxK (tVar 0) (tVar 3)) (tC (.int 0)) (tOp uSub (tC (.int 3)) (tOp uMul (tC (.int 2)) (tVar 2))) (gIx K) iAdd uSet)
 (t_l_due_11 K))
abbrev t_l_due_17 (K : Fr) : TS := (tSeq (tAsg (tOp (uIx K) (tLst (tCons (tCB (rListOf K) (tCons (tVar 4) tNil)) (tCons (tC .non) (tCons (tCB (rListOf K) (tCons (tVar 4) tNil)) tNil)))) (tOp uSub (tVar 2) (tC (.int 3)))) (gSub (tOp rIxK (tVar 0) (tVar 3)) (tC (.int 1)) uSet))
 (tRet (tTup (tCons (tC (.str "told")) (tCons (tC .non) tNil)))))
abbrev t_l_due_23 (K : Fr) : TS := (tSeq (tIfS (tB (tCall (sp_l_sound K) [] E0 (tCons (tVar 0) (tCons (tVar 3) tNil)))) (tRet (tTup (tCons (tC (.str "told")) (tCons (tCall (sp_l_back K) [] E0 (tCons (tVar 3) tNil)) tNil)))) tNext)
 (tRet (tTup (tCons (tC (.str "broken")) (tCons (tVar 3) tNil)))))
abbrev t_l_due_21 (K : Fr) : TS := (tSeq (tIfS (tTest (tOp (uEq K) (tVar 2) (tC (.int 7)))) (tRet (tTup (tCons (tC (.str "told")) (tCons (tCall (sp_l_sound K) [] E0 (tCons (tVar 0) (tCons (tVar 3) tNil))) tNil)))) tNext)
 (t_l_due_23 K))
abbrev t_l_due_19 (K : Fr) : TS := (tSeq (tIfS (tTest (tOp (uEq K) (tVar 2) (tC (.int 6)))) (tRet (tTup (tCons (tC (.str "told")) (tCons (tOp (uIx K) (tOp rIxK (tVar 0) (tVar 3)) (tC (.int 0))) tNil)))) tNext)
 (t_l_due_21 K))
abbrev t_l_due_16 (K : Fr) : TS := (tSeq (tIfS (tTest (tOp uLt (tVar 2) (tC (.int 6)))) (t_l_due_17 K) tNext)
 (t_l_due_19 K))
abbrev t_l_due_14 (K : Fr) : TS := (tSeq (tIfS (tAnd (tTest (tOp (uEq K) (tVar 2) (tC (.int 5)))) (tTest (tOp (uNe K) (tCall (sp_l_sum K) [] E0 (tCons (tVar 4) tNil)) (tVar 3)))) (tRet (tTup (tCons (tC (.str "unlike")) (tCons (tVar 3) tNil)))) tNext)
 (t_l_due_16 K))
abbrev t_l_due_9 (K : Fr) : TS := (tSeq (tIfS (tTest (tOp (uIn K) (tVar 2) (tTup (tCons (tC (.int 1)) (tCons (tC (.int 2)) tNil))))) (t_l_due_10 K) tNext)
 (t_l_due_14 K))
abbrev t_l_due_7 (K : Fr) : TS := (tSeq (tIfS (tTest (tOp (uNotIn K) (tVar 3) (tVar 0))) (tRet (tTup (tCons (tC (.str "piece")) (tCons (tVar 3) tNil)))) tNext)
 (t_l_due_9 K))
abbrev t_l_due_5 (K : Fr) : TS := (tSeq (tIfS (tAnd (tTest (tOp (uIn K) (tVar 2) (tTup (tCons (tC (.int 3)) (tCons (tC (.int 5)) tNil))))) (tNot (tB (tCall (sp_l_are_signs K) [] E0 (tCons (tVar 4) (tCons (tOp uDiv (tVar 2) (tC (.int 5))) (tCons (tC (.int 16)) tNil))))))) (tRet (tTup (tCons (tC (.str "wrong")) (tCons (tC (.int 1)) tNil)))) tNext)
 (t_l_due_7 K))
abbrev t_l_due_3 (K : Fr) : TS := (tSeq (tIfS (tNot (tB (tCall (sp_l_is_seal K) [] E0 (tCons (tVar 3) tNil)))) (tRet (tTup (tCons (tC (.str "wrong")) (tCons (tC (.int 0)) tNil)))) tNext)
 (t_l_due_5 K))
abbrev t_l_due_1 (K : Fr) : TS := (tSeq (tIfS (tTest (tOp (uEq K) (tVar 2) (tC (.int 0)))) (tRet (tCall (sp_l_laid K) [] E0 (tCons (tVar 0) (tCons (tVar 1) (tCons (tVar 4) tNil))))) tNext)
 (t_l_due_3 K))
abbrev t_l_due (K : Fr) : TS := (t_l_due_1 K)
theorem pure_l_due {K : Fr} (vs : List V) (H : Hp) (Q : VK) (E : XK) (h : sp_l_due K vs H Q E) : t_l_due K { nx := λ _ H' => Q .non H', rt := Q } (L2.start ["_law_model", "_law_room", "_law_way", "_law_seal", "_law_signs_here"] vs) H := by
 obtain ⟨Rs, p_a_model, a_model, a_room, a_way, a_seal, v_a_signs_here, a_signs_here, P, rfl, S0, hf, hk⟩ := h
 show t_l_due K _ [some (V.ref p_a_model), some (V.int a_room), some (V.int a_way), some (V.int a_seal), some v_a_signs_here] H
 refine g_seq (g_if (g_test (g_op (g_var rfl (g_c (v_eqI (g_bl (v_iff hf (λ _ hf => ?_) (λ _ hf => ?_)))))))))
 ·
  refine g_ret (g_call (g_cons (g_var rfl (g_cons (g_var rfl (g_cons (g_var rfl (g_nil (⟨_, _, _, _, _, _, _, rfl, (M.at (M.addA S0 (EnF.at 1 rfl)) 1 rfl), hf, λ x2 m3 u6 H5 hf (S4 : M (da K u6 (eA x2) :: dvR iI (vr (liR (qcR (vrD K eI) (q1R (vrD K (eO (eL eI))))))) p_a_model m3 :: _ :: Rs) H5) => ?_⟩)))))))))
  exact hk _ _ _ _ hf (M.pk S4 3 [0, 1] rfl)
 ·
  refine g_next (g_nx (g_seq (g_if (g_not (g_B (g_call (g_cons (g_var rfl (g_nil (⟨_, _, _, rfl, S0, hf, λ x8 H10 hf (S9 : M (oo2 Rs) H10) => ?_⟩))))))))))
  refine g_bl (v_iff hf (λ _ hf => ?_) (λ _ hf => ?_))
  ·
   refine g_ret (g_tup (g_cons (g_c (g_cons (g_c (g_nil (v_tupq S9 (EnF.consA (EnF.all λ _ => .str _) (EnF.consA (EnF.all λ _ => .int _) EnF.nilA)) (len_ok rfl) λ p12 H14 (S13 : M (da K (V.ref p12) ((eP eS eI) (("wrong" : Str), 0)) :: oo2 Rs) H14) => ?_)))))))
   exact hk _ _ _ _ hf (M.pk S13 3 [0, 1] rfl)
  ·
   refine g_next (g_nx (g_seq (g_if ?_)))
   refine tt_cut hf (λ H => M (dvR iI (vr (liR (qcR (vrD K eI) (q1R (vrD K (eO (eL eI))))))) p_a_model a_model :: da K v_a_signs_here ((eL eI) a_signs_here) :: Rs) H) (λ kk17 P18 hP19 hf => ?_) ?_
   ·
    refine g_and (g_test (g_op (g_var rfl (g_tup (g_cons (g_c (g_cons (g_c (g_nil (v_tupq S9 (EnF.consA (EnF.all λ _ => .int _) (EnF.consA (EnF.all λ _ => .int _) EnF.nilA)) (len_ok rfl) λ p22 H24 (S23 : M (da K (V.ref p22) ((eV eI) [3, 5]) :: oo2 Rs) H24) => ?_))))))))))
    refine v_inVI (M.gotA S23 0 rfl) (g_bl (v_iff hf (λ _ hf => ?_) (λ _ hf => ?_)))
    ·
     obtain ⟨h26, hf⟩ := hf
     refine g_not (g_B (g_call (g_cons (g_var rfl (g_cons (g_op (g_var rfl (g_c (v_div h26 (g_cons (g_c (g_nil (⟨_, _, _, _, _, _, rfl, (M.addA S23 (EnF.at 2 rfl)), hf, λ x28 H30 hf (S29 : M (oo3 Rs) H30) => ?_⟩)))))))))))))
     refine g_bl ?_
     exact hP19 _ _ hf (M.pk S29 3 [1, 2] rfl)
    ·
     exact hP19 _ _ hf (M.pk S23 3 [1, 2] rfl)
   intro c16 H33 hf S32
   refine v_iff hf (λ _ hf => ?_) (λ _ hf => ?_)
   ·
    refine g_ret (g_tup (g_cons (g_c (g_cons (g_c (g_nil (v_tupq S32 (EnF.consA (EnF.all λ _ => .str _) (EnF.consA (EnF.all λ _ => .int _) EnF.nilA)) (len_ok rfl) λ p34 H36 (S35 : M (da K (V.ref p34) ((eP eS eI) (("wrong" : Str), 1)) :: dvR iI (vr (liR (qcR (vrD K eI) (q1R (vrD K (eO (eL eI))))))) p_a_model a_model :: da K v_a_signs_here ((eL eI) a_signs_here) :: Rs) H36) => ?_)))))))
    exact hk _ _ _ _ hf (M.pk S35 3 [0, 1] rfl)
   ·
    refine g_next (g_nx (g_seq (g_if (g_test (g_op (g_var rfl (g_var rfl (v_ninDVI S32 0 rfl (g_bl (v_iff hf (λ _ hf => ?_) (λ _ hf => ?_)))))))))))
    ·
     refine g_ret (g_tup (g_cons (g_c (g_cons (g_var rfl (g_nil (v_tupq S32 (EnF.consA (EnF.all λ _ => .str _) (EnF.consA (EnF.all λ _ => .int _) EnF.nilA)) (len_ok rfl) λ p38 H40 (S39 : M (da K (V.ref p38) ((eP eS eI) (("piece" : Str), a_seal)) :: dvR iI (vr (liR (qcR (vrD K eI) (q1R (vrD K (eO (eL eI))))))) p_a_model a_model :: da K v_a_signs_here ((eL eI) a_signs_here) :: Rs) H40) => ?_)))))))
     exact hk _ _ _ _ hf (M.pk S39 3 [0, 1] rfl)
    ·
     refine g_next (g_nx (g_seq (g_if (g_test (g_op (g_var rfl (g_tup (g_cons (g_c (g_cons (g_c (g_nil (v_tupq S32 (EnF.consA (EnF.all λ _ => .int _) (EnF.consA (EnF.all λ _ => .int _) EnF.nilA)) (len_ok rfl) λ p42 H44 (S43 : M (da K (V.ref p42) ((eV eI) [1, 2]) :: dvR iI (vr (liR (qcR (vrD K eI) (q1R (vrD K (eO (eL eI))))))) p_a_model a_model :: da K v_a_signs_here ((eL eI) a_signs_here) :: Rs) H44) => ?_)))))))))))))
     refine v_inVI (M.gotA S43 0 rfl) (g_bl (v_iff hf (λ _ hf => ?_) (λ _ hf => ?_)))
     ·
      refine g_seq (g_augS (g_op (g_var rfl (g_var rfl ?_))))
      obtain ⟨x46, h47, hf⟩ := hf
      refine v_ixDV (k := a_seal) injI S43 1 rfl h47 λ u48 kvs49 n50 hu51 hn52 nd53 (S54 : M (vr (liR (qcR (vrD K eI) (q1R (vrD K (eO (eL eI)))))) u48 x46 :: pt p_a_model (.dK kvs49) :: starK iI (vr (liR (qcR (vrD K eI) (q1R (vrD K (eO (eL eI))))))) (kvs49.eraseIdx n50) (a_model.eraseIdx n50) :: oo2 Rs) H44) => ?_
      obtain ⟨p58, rfl, S59⟩ := M.vrO S54
      have S61 : M (liR (qcR (vrD K eI) (q1R (vrD K (eO (eL eI))))) p58 x46 :: oo4 Rs) H44 := S59
      refine g_c ?_
      obtain ⟨vs62, S63⟩ := M.liO (M.at S61 0 rfl)
      obtain ⟨u64, u65, rfl, S66⟩ := M.hq2O S63
      have S70 : M (vrD K eI u64 x46.1 :: vrD K (eO (eL eI)) u65 x46.2 :: pt p58 (.lst [u64, u65]) :: oo4 Rs) H44 := M.at S66 0 rfl
      have S72 : M (da K u64 (eI x46.1) :: oo6 Rs) H44 := S70
      obtain rfl := (S72.gotA 0 rfl).intV
      have S73 : M (_ :: pt p58 (.lst [(V.int x46.1), u65]) :: oo4 Rs) H44 := M.tl S72
      have S74 : M (oo6 Rs) H44 := M.at S73 0 rfl
      have S76 : M (da K u65 ((eO (eL eI)) x46.2) :: oo5 Rs) H44 := S74
      obtain ⟨h77, hf⟩ := hf
      refine v_get (SqL.of (S76.got 1 rfl)) (n := 0) (by decide) rfl (g_op (g_c (g_op (g_c (g_var rfl (v_mul h77 (v_sub (v_iadd ?_))))))))
      refine v_setC S76 1 rfl (n := 0) (j := 0) rfl λ H79 (S78 : M (_ :: pt p58 (.lst [(V.int (x46.1 + (3 - (2 * a_way)))), u65]) :: oo4 Rs) H79) => ?_
      refine g_nx ?_
      show (_ : TS) _ [some (V.ref p_a_model), some (V.int a_room), some (V.int a_way), some (V.int a_seal), some v_a_signs_here] _
      have S80 : M (oo5 Rs) H79 := (M.drp S78 4)
      have S82 : M (vrD K (eO (eL eI)) u65 x46.2 :: oo5 Rs) H79 := M.addA S80 (EnF.at 0 rfl)
      have S84 : M (vrD K eI (V.int (x46.1 + (3 - (2 * a_way)))) (x46.1 + (3 - (2 * a_way))) :: oo6 Rs) H79 := M.addA S82 (EnF.all λ _ => .int _)
      have S86 : M (qcR (vrD K eI) (q1R (vrD K (eO (eL eI)))) [(V.int (x46.1 + (3 - (2 * a_way)))), u65] ((x46.1 + (3 - (2 * a_way))), x46.2) :: oo5 Rs) H79 := M.hq2C S84
      have S88 : M (liR (qcR (vrD K eI) (q1R (vrD K (eO (eL eI))))) p58 ((x46.1 + (3 - (2 * a_way))), x46.2) :: oo4 Rs) H79 := M.liC (M.pk S86 6 [0, 2, 1, 3, 4, 5] rfl)
      have S90 : M (vr (liR (qcR (vrD K eI) (q1R (vrD K (eO (eL eI)))))) (V.ref p58) ((x46.1 + (3 - (2 * a_way))), x46.2) :: oo4 Rs) H79 := M.vrC (M.at S88 0 rfl)
      have S91 : M (dvR iI (vr (liR (qcR (vrD K eI) (q1R (vrD K (eO (eL eI))))))) p_a_model (pk a_model a_seal ((x46.1 + (3 - (2 * a_way))), x46.2)) :: oo2 Rs) H79 := dvR_close hu51 hn52 nd53 (M.pk S90 5 [0, 2, 3, 1, 4] rfl)
      refine jn_cut (β := (List (Int × (Int × (Option (List Int)))))) hf (λ (s92 : (List (Int × (Int × (Option (List Int)))))) σ H' => σ = [some (V.ref p_a_model), some (V.int a_room), some (V.int a_way), some (V.int a_seal), some v_a_signs_here] /\ M (dvR iI (vr (liR (qcR (vrD K eI) (q1R (vrD K (eO (eL eI))))))) p_a_model s92 :: da K u65 ((eO (eL eI)) x46.2) :: da K v_a_signs_here ((eL eI) a_signs_here) :: Rs) H') (λ kk94 N95 hN96 hf => ?_) ?_
      ·
       refine g_if (g_test (g_op (g_op (g_op (g_var rfl (g_var rfl ?_))))))
       obtain ⟨x98, h99, hf⟩ := hf
       refine v_ixDV (k := a_seal) injI S91 0 rfl h99 λ u100 kvs101 n102 hu103 hn104 nd105 (S106 : M (vr (liR (qcR (vrD K eI) (q1R (vrD K (eO (eL eI)))))) u100 x98 :: pt p_a_model (.dK kvs101) :: starK iI (vr (liR (qcR (vrD K eI) (q1R (vrD K (eO (eL eI))))))) (kvs101.eraseIdx n102) ((pk a_model a_seal ((x46.1 + (3 - (2 * a_way))), x46.2)).eraseIdx n102) :: oo2 Rs) H79) => ?_
       obtain ⟨p110, rfl, S111⟩ := M.vrO S106
       have S113 : M (liR (qcR (vrD K eI) (q1R (vrD K (eO (eL eI))))) p110 x98 :: oo4 Rs) H79 := S111
       obtain ⟨vs114, S115⟩ := M.liO (M.at S113 0 rfl)
       obtain ⟨u116, u117, rfl, S118⟩ := M.hq2O S115
       have S122 : M (vrD K eI u116 x98.1 :: vrD K (eO (eL eI)) u117 x98.2 :: pt p110 (.lst [u116, u117]) :: oo4 Rs) H79 := M.at S118 0 rfl
       have S124 : M (da K u116 (eI x98.1) :: oo6 Rs) H79 := S122
       obtain rfl := (S124.gotA 0 rfl).intV
       have S125 : M (_ :: pt p110 (.lst [(V.int x98.1), u117]) :: oo4 Rs) H79 := M.tl S124
       have S126 : M (oo6 Rs) H79 := M.at S125 0 rfl
       have S128 : M (da K u117 ((eO (eL eI)) x98.2) :: oo5 Rs) H79 := S126
       refine g_c (v_ixL (SqL.of (S128.got 1 rfl)) (i := 0) rfl (g_c (v_eqI (g_bl (v_iff hf (λ _ hf => ?_) (λ _ hf => ?_))))))
       ·
        refine g_drop (g_dpop (g_var rfl ?_))
        have S130 : M (vrD K (eO (eL eI)) u117 x98.2 :: oo6 Rs) H79 := M.addA S128 (EnF.at 0 rfl)
        have S132 : M (vrD K eI (V.int x98.1) x98.1 :: oo7 Rs) H79 := M.addA S130 (EnF.all λ _ => .int _)
        have S134 : M (qcR (vrD K eI) (q1R (vrD K (eO (eL eI)))) [(V.int x98.1), u117] x98 :: oo6 Rs) H79 := M.hq2C S132
        have S136 : M (liR (qcR (vrD K eI) (q1R (vrD K (eO (eL eI))))) p110 x98 :: oo5 Rs) H79 := M.liC (M.pk S134 7 [0, 2, 1, 3, 4, 5, 6] rfl)
        have S138 : M (vr (liR (qcR (vrD K eI) (q1R (vrD K (eO (eL eI)))))) (V.ref p110) x98 :: oo5 Rs) H79 := M.vrC (M.at S136 0 rfl)
        have S139 : M (dvR iI (vr (liR (qcR (vrD K eI) (q1R (vrD K (eO (eL eI))))))) p_a_model (pk a_model a_seal ((x46.1 + (3 - (2 * a_way))), x46.2)) :: oo3 Rs) H79 := dvR_same hu103 hn104 nd105 (M.pk S138 6 [0, 2, 3, 1, 4, 5] rfl)
        refine v_dpopDV S139 0 rfl (g_var rfl ?_)
        obtain ⟨x140, h141, hf⟩ := hf
        refine v_popDV (k := a_seal) injI S139 0 rfl h141 λ u142 H144 (S143 : M (vr (liR (qcR (vrD K eI) (q1R (vrD K (eO (eL eI)))))) u142 x140 :: dvR iI (vr (liR (qcR (vrD K eI) (q1R (vrD K (eO (eL eI))))))) p_a_model (dk (pk a_model a_seal ((x46.1 + (3 - (2 * a_way))), x46.2)) a_seal) :: oo3 Rs) H144) => ?_
        obtain ⟨p147, rfl, S148⟩ := M.vrO S143
        have S150 : M (liR (qcR (vrD K eI) (q1R (vrD K (eO (eL eI))))) p147 x140 :: oo4 Rs) H144 := S148
        exact hN96 _ _ _ hf ⟨rfl, (M.pk S150 5 [1, 3, 4] rfl)⟩
       ·
        refine g_next ?_
        have S152 : M (vrD K (eO (eL eI)) u117 x98.2 :: oo6 Rs) H79 := M.addA S128 (EnF.at 0 rfl)
        have S154 : M (vrD K eI (V.int x98.1) x98.1 :: oo7 Rs) H79 := M.addA S152 (EnF.all λ _ => .int _)
        have S156 : M (qcR (vrD K eI) (q1R (vrD K (eO (eL eI)))) [(V.int x98.1), u117] x98 :: oo6 Rs) H79 := M.hq2C S154
        have S158 : M (liR (qcR (vrD K eI) (q1R (vrD K (eO (eL eI))))) p110 x98 :: oo5 Rs) H79 := M.liC (M.pk S156 7 [0, 2, 1, 3, 4, 5, 6] rfl)
        have S160 : M (vr (liR (qcR (vrD K eI) (q1R (vrD K (eO (eL eI)))))) (V.ref p110) x98 :: oo5 Rs) H79 := M.vrC (M.at S158 0 rfl)
        have S161 : M (dvR iI (vr (liR (qcR (vrD K eI) (q1R (vrD K (eO (eL eI))))))) p_a_model (pk a_model a_seal ((x46.1 + (3 - (2 * a_way))), x46.2)) :: oo3 Rs) H79 := dvR_same hu103 hn104 nd105 (M.pk S160 6 [0, 2, 3, 1, 4, 5] rfl)
        exact hN96 _ _ _ hf ⟨rfl, (M.pk S161 4 [0, 2, 3] rfl)⟩
      rintro s92 _ H163 hf ⟨rfl, S162⟩
      have S164 : M (oo2 Rs) H163 := (M.drp S162 1)
      refine g_ret (g_tup (g_cons (g_c (g_cons (g_op (g_lst (g_cons (g_c (g_cons (g_op (g_var rfl (g_var rfl (v_ninDVI S164 0 rfl (g_nil (v_lsto (ds := ([eN (), eB (!(lk s92 a_seal).isSome)] : List PyData).map eA) S164 (EnF.consA (EnF.all λ _ => .non) (EnF.consA (EnF.all λ _ => .bl _) EnF.nilA)) (len_ok rfl) λ p165 H167 (S166 : M (acR K p165 (([eN (), eB (!(lk s92 a_seal).isSome)] : List PyData).map eA) :: oo2 Rs) H167) => ?_)))))))))))))))
      refine g_op (g_var rfl (g_c (v_sub ?_)))
      have S169 : M (da K (V.ref p165) ((eL eA) ([eN (), eB (!(lk s92 a_seal).isSome)] : List PyData)) :: oo2 Rs) H167 := acR_fixL S166
      obtain ⟨x171, h172, hf⟩ := hf
      refine v_ixl S169 0 rfl h172 λ u173 S174 => ?_
      refine g_nil (v_tupq S174 (EnF.consA (EnF.all λ _ => .str _) (EnF.consA (EnF.at 0 rfl) EnF.nilA)) (len_ok rfl) λ p176 H178 (S177 : M (da K (V.ref p176) ((eP eS eA) (("told" : Str), x171)) :: da K u173 (eA x171) :: oo3 Rs) H178) => ?_)
      exact hk _ _ _ _ hf (M.pk S177 5 [0, 3] rfl)
     ·
      refine g_next (g_nx (g_seq (g_if ?_)))
      refine tt_cut hf (λ H => M (da K (V.ref p42) ((eV eI) [1, 2]) :: dvR iI (vr (liR (qcR (vrD K eI) (q1R (vrD K (eO (eL eI))))))) p_a_model a_model :: da K v_a_signs_here ((eL eI) a_signs_here) :: Rs) H) (λ kk181 P182 hP183 hf => ?_) ?_
      ·
       refine g_and (g_test (g_op (g_var rfl (g_c (v_eqI (g_bl (v_iff hf (λ _ hf => ?_) (λ _ hf => ?_))))))))
       ·
        refine g_test (g_op (g_call (g_cons (g_var rfl (g_nil (⟨_, _, _, _, _, rfl, Brw.da, (M.addA S43 (EnF.at 2 rfl)), hf, λ x187 H189 hf (S188 : M (oo4 Rs) H189) => ?_⟩))))))
        refine g_var rfl (v_neI (g_bl ?_))
        exact hP183 _ _ hf (M.pk S188 4 [1, 2, 3] rfl)
       ·
        exact hP183 _ _ hf (M.pk S43 3 [0, 1, 2] rfl)
      intro c180 H192 hf S191
      refine v_iff hf (λ _ hf => ?_) (λ _ hf => ?_)
      ·
       refine g_ret (g_tup (g_cons (g_c (g_cons (g_var rfl (g_nil (v_tupq S191 (EnF.consA (EnF.all λ _ => .str _) (EnF.consA (EnF.all λ _ => .int _) EnF.nilA)) (len_ok rfl) λ p193 H195 (S194 : M (da K (V.ref p193) ((eP eS eI) (("unlike" : Str), a_seal)) :: da K (V.ref p42) ((eV eI) [1, 2]) :: dvR iI (vr (liR (qcR (vrD K eI) (q1R (vrD K (eO (eL eI))))))) p_a_model a_model :: da K v_a_signs_here ((eL eI) a_signs_here) :: Rs) H195) => ?_)))))))
       exact hk _ _ _ _ hf (M.pk S194 4 [0, 2] rfl)
      ·
       refine g_next (g_nx (g_seq (g_if (g_test (g_op (g_var rfl (g_c (v_lt (g_bl (v_iff hf (λ _ hf => ?_) (λ _ hf => ?_)))))))))))
       ·
        refine g_seq (g_asgX (g_op (g_lst (g_cons (g_cb (g_cons (g_var rfl (g_nil (v_liN flI S191 (M.gotA S191 2 rfl) λ p197 H199 (S198 : M (acR K p197 (a_signs_here.map eI) :: da K (V.ref p42) ((eV eI) [1, 2]) :: dvR iI (vr (liR (qcR (vrD K eI) (q1R (vrD K (eO (eL eI))))))) p_a_model a_model :: da K v_a_signs_here ((eL eI) a_signs_here) :: Rs) H199) => ?_)))))))))
        have S201 : M (da K (V.ref p197) ((eL eI) a_signs_here) :: oo3 Rs) H199 := acR_fixL S198
        refine g_cons (g_c (g_cons (g_cb (g_cons (g_var rfl (g_nil (v_liN flI S201 (M.gotA S201 3 rfl) λ p203 H205 (S204 : M (acR K p203 (a_signs_here.map eI) :: oo4 Rs) H205) => ?_)))))))
        have S207 : M (da K (V.ref p203) ((eL eI) a_signs_here) :: oo4 Rs) H205 := acR_fixL S204
        refine g_nil (v_lsto (ds := ([(eL eI) a_signs_here, eN (), (eL eI) a_signs_here] : List PyData).map eA) S207 (EnF.consA (EnF.at 1 rfl) (EnF.consA (EnF.all λ _ => .non) (EnF.consA (EnF.at 0 rfl) EnF.nilA))) (len_ok rfl) λ p209 H211 (S210 : M (acR K p209 (([(eL eI) a_signs_here, eN (), (eL eI) a_signs_here] : List PyData).map eA) :: oo5 Rs) H211) => ?_)
        refine g_op (g_var rfl (g_c (v_sub ?_)))
        have S213 : M (da K (V.ref p209) ((eL eA) ([(eL eI) a_signs_here, eN (), (eL eI) a_signs_here] : List PyData)) :: oo5 Rs) H211 := acR_fixL S210
        obtain ⟨x215, h216, hf⟩ := hf
        refine v_ixl S213 0 rfl h216 λ u217 S218 => ?_
        refine g_sub (g_op (g_var rfl (g_var rfl ?_)))
        obtain ⟨x220, h221, hf⟩ := hf
        refine v_ixDV (k := a_seal) injI S218 5 rfl h221 λ u222 kvs223 n224 hu225 hn226 nd227 (S228 : M (vr (liR (qcR (vrD K eI) (q1R (vrD K (eO (eL eI)))))) u222 x220 :: pt p_a_model (.dK kvs223) :: starK iI (vr (liR (qcR (vrD K eI) (q1R (vrD K (eO (eL eI))))))) (kvs223.eraseIdx n224) (a_model.eraseIdx n224) :: da K u217 (eA x215) :: oo5 Rs) H211) => ?_
        obtain ⟨p232, rfl, S233⟩ := M.vrO S228
        have S235 : M (liR (qcR (vrD K eI) (q1R (vrD K (eO (eL eI))))) p232 x220 :: oo8 Rs) H211 := S233
        refine g_c ?_
        obtain ⟨vs236, S237⟩ := M.liO (M.at S235 0 rfl)
        obtain ⟨u238, u239, rfl, S240⟩ := M.hq2O S237
        have S244 : M (vrD K eI u238 x220.1 :: vrD K (eO (eL eI)) u239 x220.2 :: pt p232 (.lst [u238, u239]) :: oo8 Rs) H211 := M.at S240 0 rfl
        have S246 : M (da K u238 (eI x220.1) :: oo10 Rs) H211 := S244
        obtain rfl := (S246.gotA 0 rfl).intV
        have S247 : M (_ :: pt p232 (.lst [(V.int x220.1), u239]) :: oo8 Rs) H211 := M.tl S246
        have S248 : M (oo10 Rs) H211 := M.at S247 0 rfl
        have S250 : M (da K u239 ((eO (eL eI)) x220.2) :: oo9 Rs) H211 := S248
        obtain ⟨x251, h252, hf⟩ := hf
        have S253 := M.cstA S250 4 rfl h252
        refine v_setC S253 2 rfl (n := 1) (j := 1) rfl λ H256 (S255 : M (da K u217 ((eO (eL eI)) x251) :: _ :: pt p232 (.lst [(V.int x220.1), u217]) :: oo8 Rs) H256) => ?_
        refine g_nx ?_
        show (_ : TS) _ [some (V.ref p_a_model), some (V.int a_room), some (V.int a_way), some (V.int a_seal), some v_a_signs_here] _
        have S257 : M (oo5 Rs) H256 := (M.drp (M.drp (M.drp (M.drp (M.drp (M.drp S255 9) 8) 7) 6) 5) 1)
        refine g_ret (g_tup (g_cons (g_c (g_cons (g_c (g_nil (v_tupq S257 (EnF.consA (EnF.all λ _ => .str _) (EnF.consA (EnF.all λ _ => .non) EnF.nilA)) (len_ok rfl) λ p258 H260 (S259 : M (da K (V.ref p258) ((eP eS eN) (("told" : Str), ())) :: oo5 Rs) H260) => ?_)))))))
        have S263 : M (vrD K (eO (eL eI)) u217 x251 :: oo6 Rs) H260 := M.addA S259 (EnF.at 1 rfl)
        have S265 : M (vrD K eI (V.int x220.1) x220.1 :: oo7 Rs) H260 := M.addA S263 (EnF.all λ _ => .int _)
        have S267 : M (qcR (vrD K eI) (q1R (vrD K (eO (eL eI)))) [(V.int x220.1), u217] (x220.1, x251) :: oo6 Rs) H260 := M.hq2C S265
        have S269 : M (liR (qcR (vrD K eI) (q1R (vrD K (eO (eL eI))))) p232 (x220.1, x251) :: oo5 Rs) H260 := M.liC (M.pk S267 7 [0, 3, 1, 2, 4, 5, 6] rfl)
        have S271 : M (vr (liR (qcR (vrD K eI) (q1R (vrD K (eO (eL eI)))))) (V.ref p232) (x220.1, x251) :: oo5 Rs) H260 := M.vrC (M.at S269 0 rfl)
        have S272 : M (dvR iI (vr (liR (qcR (vrD K eI) (q1R (vrD K (eO (eL eI))))))) p_a_model (pk a_model a_seal (x220.1, x251)) :: oo3 Rs) H260 := dvR_close hu225 hn226 nd227 (M.pk S271 6 [0, 3, 4, 1, 2, 5] rfl)
        exact hk _ _ _ _ hf (M.pk S272 4 [1, 0] rfl)
       ·
        refine g_next (g_nx (g_seq (g_if (g_test (g_op (g_var rfl (g_c (v_eqI (g_bl (v_iff hf (λ _ hf => ?_) (λ _ hf => ?_)))))))))))
        ·
         refine g_ret (g_tup (g_cons (g_c (g_cons (g_op (g_op (g_var rfl (g_var rfl ?_))))))))
         obtain ⟨x273, h274, hf⟩ := hf
         refine v_ixDV (k := a_seal) injI S191 1 rfl h274 λ u275 kvs276 n277 hu278 hn279 nd280 (S281 : M (vr (liR (qcR (vrD K eI) (q1R (vrD K (eO (eL eI)))))) u275 x273 :: pt p_a_model (.dK kvs276) :: starK iI (vr (liR (qcR (vrD K eI) (q1R (vrD K (eO (eL eI))))))) (kvs276.eraseIdx n277) (a_model.eraseIdx n277) :: da K (V.ref p42) ((eV eI) [1, 2]) :: da K v_a_signs_here ((eL eI) a_signs_here) :: Rs) H192) => ?_
         obtain ⟨p285, rfl, S286⟩ := M.vrO S281
         have S288 : M (liR (qcR (vrD K eI) (q1R (vrD K (eO (eL eI))))) p285 x273 :: oo4 Rs) H192 := S286
         obtain ⟨vs289, S290⟩ := M.liO (M.at S288 0 rfl)
         obtain ⟨u291, u292, rfl, S293⟩ := M.hq2O S290
         have S297 : M (vrD K eI u291 x273.1 :: vrD K (eO (eL eI)) u292 x273.2 :: pt p285 (.lst [u291, u292]) :: oo4 Rs) H192 := M.at S293 0 rfl
         have S299 : M (da K u291 (eI x273.1) :: oo6 Rs) H192 := S297
         obtain rfl := (S299.gotA 0 rfl).intV
         have S300 : M (_ :: pt p285 (.lst [(V.int x273.1), u292]) :: oo4 Rs) H192 := M.tl S299
         have S301 : M (oo6 Rs) H192 := M.at S300 0 rfl
         have S303 : M (da K u292 ((eO (eL eI)) x273.2) :: oo5 Rs) H192 := S301
         refine g_c (v_ixL (SqL.of (S303.got 1 rfl)) (i := 0) rfl (g_nil (v_tupq S303 (EnF.consA (EnF.all λ _ => .str _) (EnF.consA (EnF.all λ _ => .int _) EnF.nilA)) (len_ok rfl) λ p304 H306 (S305 : M (da K (V.ref p304) ((eP eS eI) (("told" : Str), x273.1)) :: oo6 Rs) H306) => ?_)))
         have S309 : M (vrD K (eO (eL eI)) u292 x273.2 :: oo7 Rs) H306 := M.addA S305 (EnF.at 1 rfl)
         have S311 : M (vrD K eI (V.int x273.1) x273.1 :: oo8 Rs) H306 := M.addA S309 (EnF.all λ _ => .int _)
         have S313 : M (qcR (vrD K eI) (q1R (vrD K (eO (eL eI)))) [(V.int x273.1), u292] x273 :: oo7 Rs) H306 := M.hq2C S311
         have S315 : M (liR (qcR (vrD K eI) (q1R (vrD K (eO (eL eI))))) p285 x273 :: oo6 Rs) H306 := M.liC (M.pk S313 8 [0, 3, 1, 2, 4, 5, 6, 7] rfl)
         have S317 : M (vr (liR (qcR (vrD K eI) (q1R (vrD K (eO (eL eI)))))) (V.ref p285) x273 :: oo6 Rs) H306 := M.vrC (M.at S315 0 rfl)
         have S318 : M (dvR iI (vr (liR (qcR (vrD K eI) (q1R (vrD K (eO (eL eI))))))) p_a_model a_model :: oo4 Rs) H306 := dvR_same hu278 hn279 nd280 (M.pk S317 7 [0, 3, 4, 1, 2, 5, 6] rfl)
         exact hk _ _ _ _ hf (M.pk S318 5 [1, 0] rfl)
        ·
         refine g_next (g_nx (g_seq (g_if (g_test (g_op (g_var rfl (g_c (v_eqI (g_bl (v_iff hf (λ _ hf => ?_) (λ _ hf => ?_)))))))))))
         ·
          refine g_ret (g_tup (g_cons (g_c (g_cons (g_call (g_cons (g_var rfl (g_cons (g_var rfl (g_nil (⟨_, _, _, _, _, rfl, (M.at S191 1 rfl), hf, λ x319 H321 hf (S320 : M (dvR iI (vr (liR (qcR (vrD K eI) (q1R (vrD K (eO (eL eI))))))) p_a_model a_model :: da K (V.ref p42) ((eV eI) [1, 2]) :: da K v_a_signs_here ((eL eI) a_signs_here) :: Rs) H321) => ?_⟩)))))))))))
          refine g_nil (v_tupq S320 (EnF.consA (EnF.all λ _ => .str _) (EnF.consA (EnF.all λ _ => .bl _) EnF.nilA)) (len_ok rfl) λ p323 H325 (S324 : M (da K (V.ref p323) ((eP eS eB) (("told" : Str), x319)) :: oo3 Rs) H325) => ?_)
          exact hk _ _ _ _ hf (M.pk S324 4 [0, 1] rfl)
         ·
          refine g_next (g_nx (g_seq (g_if (g_B (g_call (g_cons (g_var rfl (g_cons (g_var rfl (g_nil (⟨_, _, _, _, _, rfl, (M.at S191 1 rfl), hf, λ x327 H329 hf (S328 : M (dvR iI (vr (liR (qcR (vrD K eI) (q1R (vrD K (eO (eL eI))))))) p_a_model a_model :: da K (V.ref p42) ((eV eI) [1, 2]) :: da K v_a_signs_here ((eL eI) a_signs_here) :: Rs) H329) => ?_⟩)))))))))))
          refine g_bl (v_iff hf (λ _ hf => ?_) (λ _ hf => ?_))
          ·
           refine g_ret (g_tup (g_cons (g_c (g_cons (g_call (g_cons (g_var rfl (g_nil (⟨_, _, _, rfl, S328, hf, λ x331 u334 H333 hf (S332 : M (da K u334 ((eO (eL eI)) x331) :: oo3 Rs) H333) => ?_⟩)))))))))
           refine g_nil (v_tupq S332 (EnF.consA (EnF.all λ _ => .str _) (EnF.consA (EnF.at 0 rfl) EnF.nilA)) (len_ok rfl) λ p336 H338 (S337 : M (da K (V.ref p336) ((eP eS (eO (eL eI))) (("told" : Str), x331)) :: oo4 Rs) H338) => ?_)
           exact hk _ _ _ _ hf (M.pk S337 5 [0, 2] rfl)
          ·
           refine g_next (g_nx (g_ret (g_tup (g_cons (g_c (g_cons (g_var rfl (g_nil (v_tupq S328 (EnF.consA (EnF.all λ _ => .str _) (EnF.consA (EnF.all λ _ => .int _) EnF.nilA)) (len_ok rfl) λ p340 H342 (S341 : M (da K (V.ref p340) ((eP eS eI) (("broken" : Str), a_seal)) :: oo3 Rs) H342) => ?_)))))))))
           exact hk _ _ _ _ hf (M.pk S341 4 [0, 1] rfl)
def p_l_state (a_shelf : (Int × (List (Int × Int)) × (List (Int × (Option (List Int)))))) (P : (List OD) -> (Int × (List (Int × Int)) × (List (Int × (Option (List Int))))) -> Prop) : Prop := p_Shelf_seals a_shelf λ x1 => p_Shelf_broken a_shelf λ x6 => p_Shelf_free a_shelf λ x11 => p_Shelf___len__ a_shelf λ x15 => ((0 : Int) <= x15 /\ x15 < (2 ^ 63 : Int)) /\ p_Shelf_seals a_shelf λ x47 => forD (λ (x55 : Int) (s52 : (List OD) × (Int × (List (Int × Int)) × (List (Int × (Option (List Int)))))) (k53 : ((List OD) × (Int × (List (Int × Int)) × (List (Int × (Option (List Int)))))) -> Prop) => (([6, 7, 8] : List Int)).length <= 100000 /\ lcS (λ (x71 : Int) (s79 : (Int × (List (Int × Int)) × (List (Int × (Option (List Int)))))) (k78 : Option PyData -> (Int × (List (Int × Int)) × (List (Int × (Option (List Int))))) -> Prop) => p_l_said s79 x71 x55 ([] : (List Int)) λ x88 m89 => k78 (some x88) m89) ([6, 7, 8] : List Int) s52.2 [] λ acc68 s79 => (s52.1).length < 100000 /\ k53 ((sno s52.1 (OD.ol (OD.fzs eA acc68))), s79)) x47 (([(OD.ol (OD.fzs eI x1)), (OD.ol (OD.fzs eI x6)), (OD.fz (eI x11)), (OD.fz (eI x15))] : (List OD)), a_shelf) λ s52 => P s52.1 s52.2
def sp_l_state (K : Fr) : Sp := λ vs H Q _ => ∃ (Rs : List Res) (p_a_shelf : Addr) (a_shelf : (Int × (List (Int × Int)) × (List (Int × (Option (List Int)))))) (P : (List OD) -> (Int × (List (Int × Int)) × (List (Int × (Option (List Int))))) -> Prop), vs = [(V.ref p_a_shelf)] /\ M (R_Shelf K p_a_shelf a_shelf :: Rs) H /\ p_l_state a_shelf P /\ ∀ (r : (List OD)) (m1 : (Int × (List (Int × Int)) × (List (Int × (Option (List Int)))))) (p : Addr) H', P r m1 -> M (lsR (odR K) p r :: R_Shelf K p_a_shelf m1 :: Rs) H' -> Q (.ref p) H'
theorem len_l_state {K : Fr} (vs : List V) (H : Hp) (Q : VK) (E : XK) (h : sp_l_state K vs H Q E) : vs.length = 1 := by
 obtain ⟨Rs, p_a_shelf, a_shelf, P, rfl, _⟩ := h
 rfl
abbrev t_l_state_2 (K : Fr) : TS := (tSeq (tFor (iList K (tMethW W0 (He.ga K "Shelf") "seals" (sp_Shelf_seals K) [] (tVar 0) tNil)) (gName 2) (tDrop (tBM K "list" rAppend (tVar 1) (tCons (tLc (iList K (tLst (tCons (tC (.int 6)) (tCons (tC (.int 7)) (tCons (tC (.int 8)) tNil))))) (gName 3) tYes (tCall (sp_l_said K) [] E0 (tCons (tVar 0) (tCons (tVar 3) (tCons (tVar 2) (tCons (tLst tNil) tNil))))) [3]) tNil))))
 (tRet (tVar 1)))
abbrev t_l_state_1 (K : Fr) : TS := (tSeq (tAsg (tLst (tCons (tMethW W0 (He.ga K "Shelf") "seals" (sp_Shelf_seals K) [] (tVar 0) tNil) (tCons (tMethW W0 (He.ga K "Shelf") "broken" (sp_Shelf_broken K) [] (tVar 0) tNil) (tCons (tMethW W0 (He.ga K "Shelf") "free" (sp_Shelf_free K) [] (tVar 0) tNil) (tCons (tCB (rLenI (He.ga K "Shelf") (sp_Shelf___len__ K)) (tCons (tVar 0) tNil)) tNil))))) (gName 1))
 (t_l_state_2 K))
abbrev t_l_state (K : Fr) : TS := (t_l_state_1 K)
theorem pure_l_state {K : Fr} (T : TxC K) (vs : List V) (H : Hp) (Q : VK) (E : XK) (h : sp_l_state K vs H Q E) : t_l_state K { nx := λ _ H' => Q .non H', rt := Q } (L2.start ["_law_shelf", "_law_found", "_law_seal", "_law_way"] vs) H := by
 obtain ⟨Rs, p_a_shelf, a_shelf, P, rfl, S0, hf, hk⟩ := h
 show t_l_state K _ [some (V.ref p_a_shelf), none, none, none] H
 refine g_seq (g_asg (g_lst (g_cons (g_meth (g_var rfl (v_R_Shelf S0 0 rfl (λ _ _ _ => rfl) (g_nil (⟨_, _, _, _, rfl, (M.at S0 0 rfl), hf, λ x1 u4 H3 hf (S2 : M (acR K u4 (x1.map eI) :: _ :: Rs) H3) => ?_⟩))))))))
 refine g_cons (g_meth (g_var rfl (v_R_Shelf S2 1 rfl (λ _ _ _ => rfl) (g_nil (⟨_, _, _, _, rfl, (M.at S2 1 rfl), hf, λ x6 u9 H8 hf (S7 : M (acR K u9 (x6.map eI) :: oo2 Rs) H8) => ?_⟩)))))
 refine g_cons (g_meth (g_var rfl (v_R_Shelf S7 1 rfl (λ _ _ _ => rfl) (g_nil (⟨_, _, _, _, rfl, (M.at S7 1 rfl), hf, λ x11 H13 hf (S12 : M (oo3 Rs) H13) => ?_⟩)))))
 refine g_cons (g_cb (g_cons (g_var rfl (g_nil (v_len_Shelf S12 0 rfl (⟨_, _, _, _, rfl, (S12.at 0 rfl), hf, λ x15 H17 hf (S16 : M (oo3 Rs) H17) => ?_⟩))))))
 obtain ⟨h18, hf⟩ := hf
 refine ⟨_, rfl, h18.1, h18.2, ?_⟩
 refine g_nil ?_
 refine v_lst S16 (len_ok rfl) λ p19 H21 (S20 : M (pt p19 (.lst [(V.ref u4), (V.ref u9), (V.int x11), (V.int x15)]) :: oo3 Rs) H21) => ?_
 have S24 : M (starR (odR K) [] [] :: oo4 Rs) H21 := M.addE S20
 have S26 : M (odR K (V.int x15) (OD.fz (eI x15)) :: oo5 Rs) H21 := M.addA S24 (EnF.all λ _ => .int _)
 have S27 : M (oo6 Rs) H21 := M.at S26 0 rfl
 have S29 : M (starR (odR K) [(V.int x15)] [(OD.fz (eI x15))] :: oo4 Rs) H21 := M.sp' (M.pk S27 6 [0, 1, 2, 3, 4, 5] rfl)
 have S31 : M (odR K (V.int x11) (OD.fz (eI x11)) :: oo5 Rs) H21 := M.addA S29 (EnF.all λ _ => .int _)
 have S32 : M (oo6 Rs) H21 := M.at S31 0 rfl
 have S34 : M (starR (odR K) [(V.int x11), (V.int x15)] [(OD.fz (eI x11)), (OD.fz (eI x15))] :: oo4 Rs) H21 := M.sp' (M.pk S32 6 [0, 1, 2, 3, 4, 5] rfl)
 have S36 : M (odR K (V.ref u9) (OD.ol (OD.fzs eI x6)) :: oo4 Rs) H21 := M.acOD (M.at S34 3 rfl)
 have S37 : M (oo5 Rs) H21 := M.at S36 0 rfl
 have S39 : M (starR (odR K) [(V.ref u9), (V.int x11), (V.int x15)] [(OD.ol (OD.fzs eI x6)), (OD.fz (eI x11)), (OD.fz (eI x15))] :: oo3 Rs) H21 := M.sp' (M.pk S37 5 [0, 1, 2, 3, 4] rfl)
 have S41 : M (odR K (V.ref u4) (OD.ol (OD.fzs eI x1)) :: oo3 Rs) H21 := M.acOD (M.at S39 3 rfl)
 have S42 : M (oo4 Rs) H21 := M.at S41 0 rfl
 have S44 : M (starR (odR K) [(V.ref u4), (V.ref u9), (V.int x11), (V.int x15)] [(OD.ol (OD.fzs eI x1)), (OD.ol (OD.fzs eI x6)), (OD.fz (eI x11)), (OD.fz (eI x15))] :: oo2 Rs) H21 := M.sp' (M.pk S42 4 [0, 1, 2, 3] rfl)
 have S46 : M (lsR (odR K) p19 ([(OD.ol (OD.fzs eI x1)), (OD.ol (OD.fzs eI x6)), (OD.fz (eI x11)), (OD.fz (eI x15))] : (List OD)) :: _ :: Rs) H21 := lsR_mk (M.pk S44 3 [1, 0, 2] rfl)
 refine g_nx ?_
 show (_ : TS) _ [some (V.ref p_a_shelf), some (V.ref p19), none, none] _
 refine g_seq (g_for (g_iList (g_meth (g_var rfl (v_R_Shelf S46 1 rfl (λ _ _ _ => rfl) (g_nil (⟨_, _, _, _, rfl, (M.at S46 1 rfl), hf, λ x47 u50 H49 hf (S48 : M (acR K u50 (x47.map eI) :: oo2 Rs) H49) => ?_⟩)))))))
 refine for_N flI (K := K) (β := (List OD) × (Int × (List (Int × Int)) × (List (Int × (Option (List Int)))))) hf (λ (s52 : (List OD) × (Int × (List (Int × Int)) × (List (Int × (Option (List Int)))))) σ H' => ∃ (o58 : Option V) (o59 : Option V), σ = [some (V.ref p_a_shelf), some (V.ref p19), o58, o59] /\ M (lsR (odR K) p19 s52.1 :: R_Shelf K p_a_shelf s52.2 :: acR K u50 (x47.map eI) :: Rs) H') ⟨_, _, rfl, (M.pk S48 3 [2, 1, 0] rfl)⟩ (λ _ _ _ h => by obtain ⟨_, _, _, S⟩ := h; exact S.gotO 2 rfl) ?_ ?_
 ·
  rintro x55 s52 _ H61 kk54 ⟨o58, o59, rfl, S60⟩ hf
  refine g_name (g_drop (g_bm (g_var rfl (M.tyLs S60 0 rfl (g_cons (g_lc (g_iList (g_lst (g_cons (g_c (g_cons (g_c (g_cons (g_c (g_nil (v_lsto (ds := ([6, 7, 8] : List Int).map eI) S60 (EnF.consA (EnF.all λ _ => .int _) (EnF.consA (EnF.all λ _ => .int _) (EnF.consA (EnF.all λ _ => .int _) EnF.nilA))) (len_ok rfl) λ p64 H66 (S65 : M (acR K p64 (([6, 7, 8] : List Int).map eI) :: oo3 Rs) H66) => ?_))))))))))))))))
  refine lc_flS flI (K := K) (e' := eA) (λ (s79 : (Int × (List (Int × Int)) × (List (Int × (Option (List Int)))))) => R_Shelf K p_a_shelf s79 :: acR K p64 (([6, 7, 8] : List Int).map eI) :: lsR (odR K) p19 s52.1 :: acR K u50 (x47.map eI) :: Rs) hf (M.pk S65 4 [2, 0, 1, 3] rfl) (λ _ _ S => S.gotO 1 rfl) (λ x71 s79 acc68 E69 H77 kk70 N72 hl73 S76 hf hp74 hn75 => ?_) (λ E69 acc68 s79 H98 hf S97 => ?_)
  ·
   refine g_name (g_wipe rfl (g_yes (v_ifT (g_call (g_cons (g_var rfl (g_cons (g_var rfl (g_cons (g_var rfl (g_cons (g_lst (g_nil (v_lsto (ds := ([] : (List Int)).map eI) S76 EnF.nilA (len_ok rfl) λ p81 H83 (S82 : M (acR K p81 (([] : (List Int)).map eI) :: acR K E69 (acc68.map eA) :: R_Shelf K p_a_shelf s79 :: oo3 Rs) H83) => ?_))))))))))))))
   have S85 : M (da K (V.ref p81) ((eL eI) ([] : (List Int))) :: oo5 Rs) H83 := acR_fixL S82
   refine g_nil (.inl (⟨_, _, _, _, _, _, _, _, _, rfl, Brw.da, (M.at (M.addA S85 (EnF.at 0 rfl)) 3 rfl), hf, λ x88 m89 u92 H91 hf (S90 : M (da K u92 (eA x88) :: R_Shelf K p_a_shelf m89 :: oo6 Rs) H91) => ?_⟩))
   refine acR_put S90 4 rfl (EnF.at 0 rfl) hl73 λ H95 (S94 : M (acR K E69 (acc68.map eA ++ [eA x88]) :: oo7 Rs) H95) => ?_
   exact hp74 _ _ _ hf (M.pk S94 8 [0, 2, 5, 6, 7] rfl)
  refine g_nil ?_
  have S101 : M (odR K (V.ref E69) (OD.ol (OD.fzs eA acc68)) :: R_Shelf K p_a_shelf s79 :: oo3 Rs) H98 := M.acOD (M.at S97 0 rfl)
  have S102 : M (oo5 Rs) H98 := M.at S101 0 rfl
  obtain ⟨h103, hf⟩ := hf
  refine v_apLs (M.pk S102 5 [0, 3, 1, 2, 4] rfl) h103 λ H105 (S104 : M (lsR (odR K) p19 (sno s52.1 (OD.ol (OD.fzs eA acc68))) :: oo3 Rs) H105) => ?_
  exact ⟨_, hf, _, _, rfl, (M.pk S104 4 [0, 1, 3] rfl)⟩
 rintro s52 _ H108 hf ⟨o58, o59, rfl, S107⟩
 refine g_nx ?_
 show (_ : TS) _ [some (V.ref p_a_shelf), some (V.ref p19), o58, o59] _
 refine g_ret (g_var rfl ?_)
 exact hk _ _ _ _ hf (M.sub (.cons 0 rfl (.cons 0 rfl (.tl (.refl _)))) S107)
def p_l_state_due (a_model : (List (Int × (Int × (Option (List Int)))))) (a_room : Int) (P : (List PyData) -> (List (Int × (Int × (Option (List Int))))) -> Prop) : Prop := (ks a_model).length <= 1000000 /\ ((srt (ks a_model))).length <= 100000 /\ lcD (λ (x11 : Int) (k18 : Option Int -> Prop) => p_l_sound a_model x11 λ x19 => if (!x19) = true then (k18 (some x11)) else (k18 none)) (srt (ks a_model)) [] λ acc8 => (ks a_model).length <= 1000000 /\ (ks a_model).length <= 1000000 /\ forD (λ (x50 : Int) (s47 : (List PyData) × (List (Int × (Int × (Option (List Int)))))) (k48 : ((List PyData) × (List (Int × (Int × (Option (List Int)))))) -> Prop) => (([6, 7, 8] : List Int)).length <= 100000 /\ lcS (λ (x66 : Int) (s74 : (List (Int × (Int × (Option (List Int)))))) (k73 : Option PyData -> (List (Int × (Int × (Option (List Int))))) -> Prop) => p_l_due s74 a_room x66 x50 ([] : (List Int)) λ x83 m84 => k73 (some x83) m84) ([6, 7, 8] : List Int) s47.2 [] λ acc63 s74 => (s47.1).length < 100000 /\ k48 ((sno s47.1 ((eL eA) acc63)), s74)) (srt (ks a_model)) (([(eL eI) (srt (ks a_model)), (eL eI) acc8, eI (a_room - ((a_model).length : Int)), eI ((a_model).length : Int)] : List PyData), a_model) λ s47 => P s47.1 s47.2
def sp_l_state_due (K : Fr) : Sp := λ vs H Q _ => ∃ (Rs : List Res) (p_a_model : Addr) (a_model : (List (Int × (Int × (Option (List Int)))))) (a_room : Int) (P : (List PyData) -> (List (Int × (Int × (Option (List Int))))) -> Prop), vs = [(V.ref p_a_model), (V.int a_room)] /\ M (dvR iI (vr (liR (qcR (vrD K eI) (q1R (vrD K (eO (eL eI))))))) p_a_model a_model :: Rs) H /\ p_l_state_due a_model a_room P /\ ∀ (r : (List PyData)) (m1 : (List (Int × (Int × (Option (List Int)))))) (v : V) H', P r m1 -> M (da K v ((eL eA) r) :: dvR iI (vr (liR (qcR (vrD K eI) (q1R (vrD K (eO (eL eI))))))) p_a_model m1 :: Rs) H' -> Q v H'
theorem len_l_state_due {K : Fr} (vs : List V) (H : Hp) (Q : VK) (E : XK) (h : sp_l_state_due K vs H Q E) : vs.length = 2 := by
 obtain ⟨Rs, p_a_model, a_model, a_room, P, rfl, _⟩ := h
 rfl
abbrev t_l_state_due_3 (K : Fr) : TS := (tSeq (tFor (iList K (tCB rSoDI (tCons (tVar 0) tNil))) (gName 4) (tDrop (tBM K "list" rAppend (tVar 3) (tCons (tLc (iList K (tLst (tCons (tC (.int 6)) (tCons (tC (.int 7)) (tCons (tC (.int 8)) tNil))))) (gName 5) tYes (tCall (sp_l_due K) [] E0 (tCons (tVar 0) (tCons (tVar 1) (tCons (tVar 5) (tCons (tVar 4) (tCons (tLst tNil) tNil)))))) [5]) tNil))))
 (tRet (tVar 3)))
abbrev t_l_state_due_2 (K : Fr) : TS := (tSeq (tAsg (tLst (tCons (tCB rSoDI (tCons (tVar 0) tNil)) (tCons (tVar 2) (tCons (tOp uSub (tVar 1) (tCB (uLen K) (tCons (tVar 0) tNil))) (tCons (tCB (uLen K) (tCons (tVar 0) tNil)) tNil))))) (gName 3))
 (t_l_state_due_3 K))
abbrev t_l_state_due_1 (K : Fr) : TS := (tSeq (tAsg (tLc (iList K (tCB rSoDI (tCons (tVar 0) tNil))) (gName 4) (tNot (tB (tCall (sp_l_sound K) [] E0 (tCons (tVar 0) (tCons (tVar 4) tNil))))) (tVar 4) [4]) (gName 2))
 (t_l_state_due_2 K))
abbrev t_l_state_due (K : Fr) : TS := (t_l_state_due_1 K)
theorem pure_l_state_due {K : Fr} (vs : List V) (H : Hp) (Q : VK) (E : XK) (h : sp_l_state_due K vs H Q E) : t_l_state_due K { nx := λ _ H' => Q .non H', rt := Q } (L2.start ["_law_model", "_law_room", "_law_bad", "_law_found", "_law_seal", "_law_way"] vs) H := by
 obtain ⟨Rs, p_a_model, a_model, a_room, P, rfl, S0, hf, hk⟩ := h
 show t_l_state_due K _ [some (V.ref p_a_model), some (V.int a_room), none, none, none, none] H
 refine g_seq (g_asg (g_lc (g_iList (g_cb (g_cons (g_var rfl (g_nil ?_)))))))
 obtain ⟨h3, hf⟩ := hf
 refine v_soDVI S0 0 rfl h3 λ p4 H6 (S5 : M (acR K p4 ((srt (ks a_model)).map eI) :: _ :: Rs) H6) => ?_
 refine lc_N flI (K := K) (e' := eI) hf S5 (λ _ S => S.gotO 0 rfl) (λ x11 acc8 E9 H17 kk10 N12 hl13 S16 hf hp14 hn15 => ?_) (λ E9 acc8 H26 hf S25 => ?_)
 ·
  refine g_name (g_wipe rfl (g_not (g_B (g_call (g_cons (g_var rfl (g_cons (g_var rfl (g_nil (⟨_, _, _, _, _, rfl, (M.at S16 2 rfl), hf, λ x19 H21 hf (S20 : M (_ :: acR K E9 (acc8.map eI) :: _ :: Rs) H21) => ?_⟩))))))))))
  refine g_bl (v_iff hf (λ _ hf => ?_) (λ _ hf => ?_))
  ·
   refine g_var rfl (acR_put S20 1 rfl (EnF.all λ _ => .int _) hl13 λ H24 (S23 : M (acR K E9 (acc8.map eI ++ [eI x11]) :: oo2 Rs) H24) => ?_)
   exact hp14 _ _ hf (M.pk S23 3 [0, 2, 1] rfl)
  ·
   exact hn15 _ hf (M.pk S20 3 [1, 2, 0] rfl)
 have S28 : M (da K (V.ref E9) ((eL eI) acc8) :: oo2 Rs) H26 := acR_fixL S25
 refine g_nx ?_
 show (_ : TS) _ [some (V.ref p_a_model), some (V.int a_room), some (V.ref E9), none, none, none] _
 refine g_seq (g_asg (g_lst (g_cons (g_cb (g_cons (g_var rfl (g_nil ?_)))))))
 obtain ⟨h30, hf⟩ := hf
 refine v_soDVI S28 2 rfl h30 λ p31 H33 (S32 : M (acR K p31 ((srt (ks a_model)).map eI) :: oo3 Rs) H33) => ?_
 have S35 : M (da K (V.ref p31) ((eL eI) (srt (ks a_model))) :: oo3 Rs) H33 := acR_fixL S32
 refine g_cons (g_var rfl (g_cons (g_op (g_var rfl (g_cb (g_cons (g_var rfl (g_nil (v_lenDV injI S35 3 rfl (v_sub (g_cons (g_cb (g_cons (g_var rfl (g_nil (v_lenDV injI S35 3 rfl (g_nil (v_lsto (ds := ([(eL eI) (srt (ks a_model)), (eL eI) acc8, eI (a_room - ((a_model).length : Int)), eI ((a_model).length : Int)] : List PyData).map eA) S35 (EnF.consA (EnF.at 0 rfl) (EnF.consA (EnF.at 1 rfl) (EnF.consA (EnF.all λ _ => .int _) (EnF.consA (EnF.all λ _ => .int _) EnF.nilA)))) (len_ok rfl) λ p37 H39 (S38 : M (acR K p37 (([(eL eI) (srt (ks a_model)), (eL eI) acc8, eI (a_room - ((a_model).length : Int)), eI ((a_model).length : Int)] : List PyData).map eA) :: oo4 Rs) H39) => ?_))))))))))))))))))
 refine g_nx ?_
 show (_ : TS) _ [some (V.ref p_a_model), some (V.int a_room), some (V.ref E9), some (V.ref p37), none, none] _
 have S41 : M (oo4 Rs) H39 := (M.drp S38 1)
 refine g_seq (g_for (g_iList (g_cb (g_cons (g_var rfl (g_nil ?_))))))
 obtain ⟨h42, hf⟩ := hf
 refine v_soDVI S41 3 rfl h42 λ p43 H45 (S44 : M (acR K p43 ((srt (ks a_model)).map eI) :: oo4 Rs) H45) => ?_
 refine for_N flI (K := K) (β := (List PyData) × (List (Int × (Int × (Option (List Int)))))) hf (λ (s47 : (List PyData) × (List (Int × (Int × (Option (List Int)))))) σ H' => ∃ (o53 : Option V) (o54 : Option V), σ = [some (V.ref p_a_model), some (V.int a_room), some (V.ref E9), some (V.ref p37), o53, o54] /\ M (acR K p37 (s47.1.map eA) :: dvR iI (vr (liR (qcR (vrD K eI) (q1R (vrD K (eO (eL eI))))))) p_a_model s47.2 :: acR K p43 ((srt (ks a_model)).map eI) :: da K (V.ref E9) ((eL eI) acc8) :: acR K p4 ((srt (ks a_model)).map eI) :: Rs) H') ⟨_, _, rfl, (M.pk S44 5 [1, 4, 0, 2, 3] rfl)⟩ (λ _ _ _ h => by obtain ⟨_, _, _, S⟩ := h; exact S.gotO 2 rfl) ?_ ?_
 ·
  rintro x50 s47 _ H56 kk49 ⟨o53, o54, rfl, S55⟩ hf
  refine g_name (g_drop (g_bm (g_var rfl (M.tyO S55 0 rfl (g_cons (g_lc (g_iList (g_lst (g_cons (g_c (g_cons (g_c (g_cons (g_c (g_nil (v_lsto (ds := ([6, 7, 8] : List Int).map eI) S55 (EnF.consA (EnF.all λ _ => .int _) (EnF.consA (EnF.all λ _ => .int _) (EnF.consA (EnF.all λ _ => .int _) EnF.nilA))) (len_ok rfl) λ p59 H61 (S60 : M (acR K p59 (([6, 7, 8] : List Int).map eI) :: oo5 Rs) H61) => ?_))))))))))))))))
  refine lc_flS flI (K := K) (e' := eA) (λ (s74 : (List (Int × (Int × (Option (List Int)))))) => dvR iI (vr (liR (qcR (vrD K eI) (q1R (vrD K (eO (eL eI))))))) p_a_model s74 :: acR K p59 (([6, 7, 8] : List Int).map eI) :: acR K p37 (s47.1.map eA) :: acR K p43 ((srt (ks a_model)).map eI) :: da K (V.ref E9) ((eL eI) acc8) :: acR K p4 ((srt (ks a_model)).map eI) :: Rs) hf (M.pk S60 6 [2, 0, 1, 3, 4, 5] rfl) (λ _ _ S => S.gotO 1 rfl) (λ x66 s74 acc63 E64 H72 kk65 N67 hl68 S71 hf hp69 hn70 => ?_) (λ E64 acc63 s74 H93 hf S92 => ?_)
  ·
   refine g_name (g_wipe rfl (g_yes (v_ifT (g_call (g_cons (g_var rfl (g_cons (g_var rfl (g_cons (g_var rfl (g_cons (g_var rfl (g_cons (g_lst (g_nil (v_lsto (ds := ([] : (List Int)).map eI) S71 EnF.nilA (len_ok rfl) λ p76 H78 (S77 : M (acR K p76 (([] : (List Int)).map eI) :: acR K E64 (acc63.map eA) :: dvR iI (vr (liR (qcR (vrD K eI) (q1R (vrD K (eO (eL eI))))))) p_a_model s74 :: oo5 Rs) H78) => ?_))))))))))))))))
   have S80 : M (da K (V.ref p76) ((eL eI) ([] : (List Int))) :: oo7 Rs) H78 := acR_fixL S77
   refine g_nil (⟨_, _, _, _, _, _, _, _, _, rfl, (M.at (M.addA S80 (EnF.at 0 rfl)) 3 rfl), hf, λ x83 m84 u87 H86 hf (S85 : M (da K u87 (eA x83) :: dvR iI (vr (liR (qcR (vrD K eI) (q1R (vrD K (eO (eL eI))))))) p_a_model m84 :: oo7 Rs) H86) => ?_⟩)
   refine acR_put S85 3 rfl (EnF.at 0 rfl) hl68 λ H90 (S89 : M (acR K E64 (acc63.map eA ++ [eA x83]) :: oo8 Rs) H90) => ?_
   exact hp69 _ _ _ hf (M.pk S89 9 [0, 2, 4, 5, 6, 7, 8] rfl)
  have S95 : M (da K (V.ref E64) ((eL eA) acc63) :: dvR iI (vr (liR (qcR (vrD K eI) (q1R (vrD K (eO (eL eI))))))) p_a_model s74 :: oo5 Rs) H93 := acR_fixL S92
  refine g_nil ?_
  obtain ⟨h97, hf⟩ := hf
  refine v_apl (e := eA) (x := ((eL eA) acc63)) S95 3 rfl (EnF.at 0 rfl) h97 λ H99 (S98 : M (acR K p37 ((sno s47.1 ((eL eA) acc63)).map eA) :: oo6 Rs) H99) => ?_
  exact ⟨_, hf, _, _, rfl, (M.pk S98 7 [0, 2, 4, 5, 6] rfl)⟩
 rintro s47 _ H102 hf ⟨o53, o54, rfl, S101⟩
 refine g_nx ?_
 show (_ : TS) _ [some (V.ref p_a_model), some (V.int a_room), some (V.ref E9), some (V.ref p37), o53, o54] _
 refine g_ret (g_var rfl ?_)
 have S103 : M (da K (V.ref p37) ((eL eA) s47.1) :: oo4 Rs) H102 := acR_fixL S101
 exact hk _ _ _ _ hf (M.pk S103 5 [0, 1] rfl)
def p_l_drawn (a_pool_here : (List (List Int))) (P : (Int × Int × (List Int)) -> Prop) : Prop := takeD 10 λ n6 => ∃ x11, atI ([0, 0, 0, 1, 2, 2, 3, 4, 5, 5] : List Int) n6 = some x11 /\ takeD ((a_pool_here).length : Int) λ n15 => ∃ x18, atI a_pool_here n15 = some x18 /\ takeD ((a_pool_here).length : Int) λ n24 => ∃ x27, atI a_pool_here n24 = some x27 /\ takeD 3 λ n43 => (CMul n43 (if (decide (x11 = 3)) = true then (1 : Int) else 0) \/ CMulW n43 (if (decide (x11 = 3)) = true then (1 : Int) else 0)) /\ ∃ x49, atI ([x18, x27, ([] : (List Int))]) (n43 * (if (decide (x11 = 3)) = true then (1 : Int) else 0)) = some x49 /\ jn (β := (List Int)) (λ k56 => jn (λ k66 => if (decide (x11 = 5)) = true then (takeD 4 λ n69 => k66 (decide (n69 = 0))) else (k66 false)) λ c62 => if c62 = true then (takeD ((a_pool_here).length : Int) λ n75 => ∃ x78, atI a_pool_here n75 = some x78 /\ k56 x78) else (k56 x49)) λ s55 => p_l_sum x18 λ x86 => P (x11, x86, s55)
def sp_l_drawn (K : Fr) : Sp := λ vs H Q _ => ∃ (Rs : List Res) (a_bag_here : Addr) (v_a_pool_here : V) (a_pool_here : (List (List Int))) (P : (Int × Int × (List Int)) -> Prop), vs = [(V.ref a_bag_here), v_a_pool_here] /\ M (bagR a_bag_here :: da K v_a_pool_here ((eL (eL eI)) a_pool_here) :: Rs) H /\ p_l_drawn a_pool_here P /\ ∀ (r : (Int × Int × (List Int))) (v : V) H', P r -> M (da K v ((eT3 eI eI (eL eI)) r) :: bagR a_bag_here :: Rs) H' -> Q v H'
theorem len_l_drawn {K : Fr} (vs : List V) (H : Hp) (Q : VK) (E : XK) (h : sp_l_drawn K vs H Q E) : vs.length = 2 := by
 obtain ⟨Rs, a_bag_here, v_a_pool_here, a_pool_here, P, rfl, _⟩ := h
 rfl
abbrev t_l_drawn_4 (K : Fr) : TS := (tSeq (tIfS (tAnd (tTest (tOp (uEq K) (tVar 2) (tC (.int 5)))) (tTest (tOp (uEq K) (tCall (sp_l_take K) [] E0 (tCons (tVar 0) (tCons (tC (.int 4)) tNil))) (tC (.int 0))))) (tAsg (tOp (uIx K) (tVar 1) (tCall (sp_l_take K) [] E0 (tCons (tVar 0) (tCons (tCB (uLen K) (tCons (tVar 1) tNil)) tNil)))) (gName 4)) tNext)
 (tRet (tTup (tCons (tVar 2) (tCons (tCall (sp_l_sum K) [] E0 (tCons (tVar 3) tNil)) (tCons (tVar 4) tNil))))))
abbrev t_l_drawn_3 (K : Fr) : TS := (tSeq (tAsg (tOp (uIx K) (tLst (tCons (tVar 3) (tCons (tOp (uIx K) (tVar 1) (tCall (sp_l_take K) [] E0 (tCons (tVar 0) (tCons (tCB (uLen K) (tCons (tVar 1) tNil)) tNil)))) (tCons (tLst tNil) tNil)))) (tOp uMul (tCall (sp_l_take K) [] E0 (tCons (tVar 0) (tCons (tC (.int 3)) tNil))) (tCB rIntB (tCons (tOp (uEq K) (tVar 2) (tC (.int 3))) tNil)))) (gName 4))
 (t_l_drawn_4 K))
abbrev t_l_drawn_2 (K : Fr) : TS := (tSeq (tAsg (tOp (uIx K) (tVar 1) (tCall (sp_l_take K) [] E0 (tCons (tVar 0) (tCons (tCB (uLen K) (tCons (tVar 1) tNil)) tNil)))) (gName 3))
 (t_l_drawn_3 K))
abbrev t_l_drawn_1 (K : Fr) : TS := (tSeq (tAsg (tOp (uIx K) (tLst (tCons (tC (.int 0)) (tCons (tC (.int 0)) (tCons (tC (.int 0)) (tCons (tC (.int 1)) (tCons (tC (.int 2)) (tCons (tC (.int 2)) (tCons (tC (.int 3)) (tCons (tC (.int 4)) (tCons (tC (.int 5)) (tCons (tC (.int 5)) tNil))))))))))) (tCall (sp_l_take K) [] E0 (tCons (tVar 0) (tCons (tC (.int 10)) tNil)))) (gName 2))
 (t_l_drawn_2 K))
abbrev t_l_drawn (K : Fr) : TS := (t_l_drawn_1 K)
theorem pure_l_drawn {K : Fr} (vs : List V) (H : Hp) (Q : VK) (E : XK) (h : sp_l_drawn K vs H Q E) : t_l_drawn K { nx := λ _ H' => Q .non H', rt := Q } (L2.start ["_law_bag_here", "_law_pool_here", "_law_way", "_law_signs_here", "_law_other"] vs) H := by
 obtain ⟨Rs, a_bag_here, v_a_pool_here, a_pool_here, P, rfl, S0, hf, hk⟩ := h
 show t_l_drawn K _ [some (V.ref a_bag_here), some v_a_pool_here, none, none, none] H
 refine g_seq (g_asg (g_op (g_lst (g_cons (g_c (g_cons (g_c (g_cons (g_c (g_cons (g_c (g_cons (g_c (g_cons (g_c (g_cons (g_c (g_cons (g_c (g_cons (g_c (g_cons (g_c (g_nil (v_lsto (ds := ([0, 0, 0, 1, 2, 2, 3, 4, 5, 5] : List Int).map eI) S0 (EnF.consA (EnF.all λ _ => .int _) (EnF.consA (EnF.all λ _ => .int _) (EnF.consA (EnF.all λ _ => .int _) (EnF.consA (EnF.all λ _ => .int _) (EnF.consA (EnF.all λ _ => .int _) (EnF.consA (EnF.all λ _ => .int _) (EnF.consA (EnF.all λ _ => .int _) (EnF.consA (EnF.all λ _ => .int _) (EnF.consA (EnF.all λ _ => .int _) (EnF.consA (EnF.all λ _ => .int _) EnF.nilA)))))))))) (len_ok rfl) λ p1 H3 (S2 : M (acR K p1 (([0, 0, 0, 1, 2, 2, 3, 4, 5, 5] : List Int).map eI) :: oo2 Rs) H3) => ?_)))))))))))))))))))))))))
 refine g_call (g_cons (g_var rfl (g_cons (g_c (g_nil ?_)))))
 obtain ⟨h5, hf⟩ := hf
 refine u_take (S2.at 1 rfl) h5 λ n6 H8 n6l n6u (S7 : M (oo3 Rs) H8) => ?_
 replace hf := hf n6 n6l n6u
 have S9 : M (da K (V.ref p1) ((eL eI) ([0, 0, 0, 1, 2, 2, 3, 4, 5, 5] : List Int)) :: oo2 Rs) H8 := acR_fixL (S7.at 1 rfl)
 obtain ⟨x11, h12, hf⟩ := hf
 refine v_ixN flI (M.gotA S9 0 rfl) h12 (g_nx ?_)
 show (_ : TS) _ [some (V.ref a_bag_here), some v_a_pool_here, some (V.int x11), none, none] _
 have S13 : M (oo2 Rs) H8 := (M.drp S9 0)
 refine g_seq (g_asg (g_op (g_var rfl (g_call (g_cons (g_var rfl (g_cons (g_cb (g_cons (g_var rfl (g_nil (v_lenl S13 1 rfl (g_nil ?_)))))))))))))
 obtain ⟨h14, hf⟩ := hf
 refine u_take (S13.at 0 rfl) h14 λ n15 H17 n15l n15u (S16 : M (oo2 Rs) H17) => ?_
 replace hf := hf n15 n15l n15u
 obtain ⟨x18, h19, hf⟩ := hf
 refine v_ixl S16 1 rfl h19 λ u20 S21 => ?_
 refine g_nx ?_
 show (_ : TS) _ [some (V.ref a_bag_here), some v_a_pool_here, some (V.int x11), some u20, none] _
 refine g_seq (g_asg (g_op (g_lst (g_cons (g_var rfl (g_cons (g_op (g_var rfl (g_call (g_cons (g_var rfl (g_cons (g_cb (g_cons (g_var rfl (g_nil (v_lenl S21 2 rfl (g_nil ?_))))))))))))))))))
 obtain ⟨h23, hf⟩ := hf
 refine u_take (S21.at 1 rfl) h23 λ n24 H26 n24l n24u (S25 : M (_ :: da K u20 ((eL eI) x18) :: _ :: Rs) H26) => ?_
 replace hf := hf n24 n24l n24u
 obtain ⟨x27, h28, hf⟩ := hf
 refine v_ixl S25 2 rfl h28 λ u29 S30 => ?_
 refine g_cons (g_lst (g_nil (v_lsto (ds := ([] : (List Int)).map eI) S30 EnF.nilA (len_ok rfl) λ p32 H34 (S33 : M (acR K p32 (([] : (List Int)).map eI) :: da K u29 ((eL eI) x27) :: oo3 Rs) H34) => ?_)))
 have S36 : M (da K (V.ref p32) ((eL eI) ([] : (List Int))) :: oo4 Rs) H34 := acR_fixL S33
 refine g_nil (v_lsto (ds := ([x18, x27, ([] : (List Int))]).map (eL eI)) S36 (EnF.consA (EnF.at 3 rfl) (EnF.consA (EnF.at 1 rfl) (EnF.consA (EnF.at 0 rfl) EnF.nilA))) (len_ok rfl) λ p38 H40 (S39 : M (acR K p38 (([x18, x27, ([] : (List Int))]).map (eL eI)) :: oo5 Rs) H40) => ?_)
 refine g_op (g_call (g_cons (g_var rfl (g_cons (g_c (g_nil ?_))))))
 obtain ⟨h42, hf⟩ := hf
 refine u_take (S39.at 3 rfl) h42 λ n43 H45 n43l n43u (S44 : M (oo6 Rs) H45) => ?_
 replace hf := hf n43 n43l n43u
 obtain ⟨h46, hf⟩ := hf
 refine g_cb (g_cons (g_op (g_var rfl (g_c (v_eqI (g_nil (v_intB (v_mul h46 ?_))))))))
 have S47 : M (da K (V.ref p38) ((eL (eL eI)) ([x18, x27, ([] : (List Int))])) :: oo5 Rs) H45 := acR_fixL (S44.at 1 rfl)
 obtain ⟨x49, h50, hf⟩ := hf
 refine v_ixl S47 0 rfl h50 λ u51 S52 => ?_
 refine g_nx ?_
 show (_ : TS) _ [some (V.ref a_bag_here), some v_a_pool_here, some (V.int x11), some u20, some u51] _
 have S54 : M (da K u51 ((eL eI) x49) :: oo3 Rs) H45 := (M.drp (M.drp (M.drp S52 4) 3) 1)
 refine jn_cut (β := (List Int)) hf (λ (s55 : (List Int)) σ H' => ∃ (u60 : V), σ = [some (V.ref a_bag_here), some v_a_pool_here, some (V.int x11), some u20, some u60] /\ M (da K u60 ((eL eI) s55) :: bagR a_bag_here :: da K u20 ((eL eI) x18) :: da K v_a_pool_here ((eL (eL eI)) a_pool_here) :: Rs) H') (λ kk57 N58 hN59 hf => ?_) ?_
 ·
  refine g_if ?_
  refine tt_cut hf (λ H => M (da K u51 ((eL eI) x49) :: bagR a_bag_here :: da K u20 ((eL eI) x18) :: da K v_a_pool_here ((eL (eL eI)) a_pool_here) :: Rs) H) (λ kk63 P64 hP65 hf => ?_) ?_
  ·
   refine g_and (g_test (g_op (g_var rfl (g_c (v_eqI (g_bl (v_iff hf (λ _ hf => ?_) (λ _ hf => ?_))))))))
   ·
    refine g_test (g_op (g_call (g_cons (g_var rfl (g_cons (g_c (g_nil ?_)))))))
    obtain ⟨h68, hf⟩ := hf
    refine u_take (S54.at 1 rfl) h68 λ n69 H71 n69l n69u (S70 : M (oo4 Rs) H71) => ?_
    replace hf := hf n69 n69l n69u
    refine g_c (v_eqI (g_bl ?_))
    exact hP65 _ _ hf (M.pk S70 4 [1, 0, 2, 3] rfl)
   ·
    exact hP65 _ _ hf (M.pk S54 4 [0, 1, 2, 3] rfl)
  intro c62 H73 hf S72
  refine v_iff hf (λ _ hf => ?_) (λ _ hf => ?_)
  ·
   refine g_asg (g_op (g_var rfl (g_call (g_cons (g_var rfl (g_cons (g_cb (g_cons (g_var rfl (g_nil (v_lenl S72 3 rfl (g_nil ?_))))))))))))
   obtain ⟨h74, hf⟩ := hf
   refine u_take (S72.at 1 rfl) h74 λ n75 H77 n75l n75u (S76 : M (bagR a_bag_here :: da K u51 ((eL eI) x49) :: da K u20 ((eL eI) x18) :: da K v_a_pool_here ((eL (eL eI)) a_pool_here) :: Rs) H77) => ?_
   replace hf := hf n75 n75l n75u
   obtain ⟨x78, h79, hf⟩ := hf
   refine v_ixl S76 3 rfl h79 λ u80 S81 => ?_
   exact hN59 _ _ _ hf ⟨_, rfl, (M.sub (.cons 0 rfl (.cons 0 rfl (.cons 1 rfl (.cons 1 rfl (.tl (.refl _)))))) S81)⟩
  ·
   refine g_next ?_
   exact hN59 _ _ _ hf ⟨_, rfl, (M.sub (.cons 0 rfl (.cons 0 rfl (.cons 0 rfl (.cons 0 rfl (.refl _))))) S72)⟩
 rintro s55 _ H84 hf ⟨u60, rfl, S83⟩
 refine g_ret (g_tup (g_cons (g_var rfl (g_cons (g_call (g_cons (g_var rfl (g_nil (⟨_, _, _, _, _, rfl, Brw.da, (M.addA S83 (EnF.at 2 rfl)), hf, λ x86 H88 hf (S87 : M (oo5 Rs) H88) => ?_⟩)))))))))
 refine g_cons (g_var rfl (g_nil (v_tupq S87 (EnF.consA (EnF.all λ _ => .int _) (EnF.consA (EnF.all λ _ => .int _) (EnF.consA (EnF.at 1 rfl) EnF.nilA))) (len_ok rfl) λ p90 H92 (S91 : M (da K (V.ref p90) ((eT3 eI eI (eL eI)) (x11, x86, s55)) :: oo5 Rs) H92) => ?_)))
 exact hk _ _ _ hf (M.pk S91 6 [0, 3] rfl)
def p_l_as_due (a_shelf : (Int × (List (Int × Int)) × (List (Int × (Option (List Int)))))) (a_model : (List (Int × (Int × (Option (List Int)))))) (a_room : Int) (P : Bool -> (Int × (List (Int × Int)) × (List (Int × (Option (List Int))))) -> (List (Int × (Int × (Option (List Int))))) -> Prop) : Prop := p_l_state_due a_model a_room λ x1 m2 => p_l_state a_shelf λ x7 m8 => ((eLO x7) = ((eL eA) x1) /\ AlkOk (eLO x7)) /\ forD (λ (i26 : Nat) (s22 : (List OD)) (k23 : ((List OD)) -> Prop) => ∃ x25, (s22)[i26]? = some x25 /\ ∃ l40 : List OD, x25 = OD.ol l40 /\ (l40).length < 100000 /\ ∃ m56, ixN ((sno l40 (OD.fz (eI 3)))).length 0 = some m56 /\ k23 (s22.set i26 (OD.ol ((sno l40 (OD.fz (eI 3))).set m56 (OD.fz (eI 9)))))) (List.range ((x7.take 2)).length) (x7.take 2) λ s22 => p_Shelf_seals m8 λ x67 => forD (λ (x75 : Int) (s72 : (Int × (List (Int × Int)) × (List (Int × (Option (List Int)))))) (k73 : ((Int × (List (Int × Int)) × (List (Int × (Option (List Int)))))) -> Prop) => p_l_said_o s72 8 x75 ([] : (List Int)) λ x88 m89 => ∃ y94, OD.at x88 1 = some y94 /\ if (isA "list" (y94).fgt) = true then (∃ l100 : List OD, y94 = OD.ol l100 /\ (l100).length < 100000 /\ ∃ m116, ixN ((sno l100 (OD.fz (eI 3)))).length 0 = some m116 /\ k73 m89) else (k73 m89)) x67 m8 λ s72 => p_l_state s72 λ x123 m124 => ((eLO x123) = ((eL eA) x1) /\ AlkOk (eLO x123)) /\ P true m124 m2
def sp_l_as_due (K : Fr) : Sp := λ vs H Q _ => ∃ (Rs : List Res) (p_a_shelf : Addr) (a_shelf : (Int × (List (Int × Int)) × (List (Int × (Option (List Int)))))) (p_a_model : Addr) (a_model : (List (Int × (Int × (Option (List Int)))))) (a_room : Int) (P : Bool -> (Int × (List (Int × Int)) × (List (Int × (Option (List Int))))) -> (List (Int × (Int × (Option (List Int))))) -> Prop), vs = [(V.ref p_a_shelf), (V.ref p_a_model), (V.int a_room)] /\ M (R_Shelf K p_a_shelf a_shelf :: dvR iI (vr (liR (qcR (vrD K eI) (q1R (vrD K (eO (eL eI))))))) p_a_model a_model :: Rs) H /\ p_l_as_due a_shelf a_model a_room P /\ ∀ (r : Bool) (m1 : (Int × (List (Int × Int)) × (List (Int × (Option (List Int)))))) (m2 : (List (Int × (Int × (Option (List Int)))))) H', P r m1 m2 -> M (R_Shelf K p_a_shelf m1 :: dvR iI (vr (liR (qcR (vrD K eI) (q1R (vrD K (eO (eL eI))))))) p_a_model m2 :: Rs) H' -> Q (V.bl r) H'
theorem len_l_as_due {K : Fr} (vs : List V) (H : Hp) (Q : VK) (E : XK) (h : sp_l_as_due K vs H Q E) : vs.length = 3 := by
 obtain ⟨Rs, p_a_shelf, a_shelf, p_a_model, a_model, a_room, P, rfl, _⟩ := h
 rfl
abbrev t_l_as_due_6 (K : Fr) : TS := (tSeq (tDrop (tBM K "list" rAppend (tVar 5) (tCons (tC (.int 3)) tNil)))
 (tAsg (tC (.int 9)) (gSub (tVar 5) (tC (.int 0)) uSet)))
abbrev t_l_as_due_11 (K : Fr) : TS := (tSeq (tDrop (tBM K "list" rAppend (tVar 7) (tCons (tC (.int 3)) tNil)))
 (tAsg (tC (.int 9)) (gSub (tVar 7) (tC (.int 0)) uSet)))
abbrev t_l_as_due_10 (K : Fr) : TS := (tIfS (tB (tCB (uIsi K) (tCons (tVar 7) (tCons (tC (.ty "list")) tNil)))) (t_l_as_due_11 K) tNext)
abbrev t_l_as_due_9 (K : Fr) : TS := (tSeq (tAsg (tOp (uIx K) (tCall (sp_l_said K) [] E0 (tCons (tVar 0) (tCons (tC (.int 8)) (tCons (tVar 6) (tCons (tLst tNil) tNil))))) (tC (.int 1))) (gName 7))
 (t_l_as_due_10 K))
abbrev t_l_as_due_8 (K : Fr) : TS := (tSeq (tFor (iList K (tMethW W0 (He.ga K "Shelf") "seals" (sp_Shelf_seals K) [] (tVar 0) tNil)) (gName 6) (t_l_as_due_9 K))
 (tRet (tCall (sp_l_alike K) [] E0 (tCons (tCall (sp_l_state K) [] E0 (tCons (tVar 0) tNil)) (tCons (tVar 3) tNil)))))
abbrev t_l_as_due_5 (K : Fr) : TS := (tSeq (tFor (iList K (tSl (uSl K) (tVar 4) tNoPart (tPart (tC (.int 2))))) (gName 5) (t_l_as_due_6 K))
 (t_l_as_due_8 K))
abbrev t_l_as_due_3 (K : Fr) : TS := (tSeq (tIfS (tNot (tB (tCall (sp_l_alike K) [] E0 (tCons (tVar 4) (tCons (tVar 3) tNil))))) (tRet (tC (.bl false))) tNext)
 (t_l_as_due_5 K))
abbrev t_l_as_due_2 (K : Fr) : TS := (tSeq (tAsg (tCall (sp_l_state K) [] E0 (tCons (tVar 0) tNil)) (gName 4))
 (t_l_as_due_3 K))
abbrev t_l_as_due_1 (K : Fr) : TS := (tSeq (tAsg (tCall (sp_l_state_due K) [] E0 (tCons (tVar 1) (tCons (tVar 2) tNil))) (gName 3))
 (t_l_as_due_2 K))
abbrev t_l_as_due (K : Fr) : TS := (t_l_as_due_1 K)
theorem pure_l_as_due {K : Fr} (T : TxC K) (vs : List V) (H : Hp) (Q : VK) (E : XK) (h : sp_l_as_due K vs H Q E) : t_l_as_due K { nx := λ _ H' => Q .non H', rt := Q } (L2.start ["_law_shelf", "_law_model", "_law_room", "_law_due_here", "_law_found", "_law_one", "_law_seal", "_law_told"] vs) H := by
 obtain ⟨Rs, p_a_shelf, a_shelf, p_a_model, a_model, a_room, P, rfl, S0, hf, hk⟩ := h
 show t_l_as_due K _ [some (V.ref p_a_shelf), some (V.ref p_a_model), some (V.int a_room), none, none, none, none, none] H
 refine g_seq (g_asg (g_call (g_cons (g_var rfl (g_cons (g_var rfl (g_nil (⟨_, _, _, _, _, rfl, (M.at S0 1 rfl), hf, λ x1 m2 u5 H4 hf (S3 : M (da K u5 ((eL eA) x1) :: dvR iI (vr (liR (qcR (vrD K eI) (q1R (vrD K (eO (eL eI))))))) p_a_model m2 :: _ :: Rs) H4) => ?_⟩))))))))
 refine g_nx ?_
 show (_ : TS) _ [some (V.ref p_a_shelf), some (V.ref p_a_model), some (V.int a_room), some u5, none, none, none, none] _
 refine g_seq (g_asg (g_call (g_cons (g_var rfl (g_nil (⟨_, _, _, _, rfl, (M.at S3 2 rfl), hf, λ x7 m8 u11 H10 hf (S9 : M (lsR (odR K) u11 x7 :: R_Shelf K p_a_shelf m8 :: oo2 Rs) H10) => ?_⟩))))))
 refine g_nx ?_
 show (_ : TS) _ [some (V.ref p_a_shelf), some (V.ref p_a_model), some (V.int a_room), some u5, some (V.ref u11), none, none, none] _
 refine g_seq (g_if (g_not (g_B (g_call (g_cons (g_var rfl (g_cons (g_var rfl (g_nil ?_)))))))))
 obtain ⟨h13, hf⟩ := hf
 refine ⟨_, _, _, rfl, (M.dnLO S9 0 rfl), (Dn.by_ h13.1 (Dq.dn (M.gotA S9 2 rfl))), h13.2, ?_⟩
 refine g_bl (v_ifcF (by decide) (g_next (g_nx (g_seq (g_for (g_iList (g_sl (g_var rfl ?_))))))))
 obtain ⟨vs14, S15⟩ := lsR_W (M.at S9 0 rfl)
 have S16 : M (lsW (odR K) u11 vs14 x7 :: oo3 Rs) H10 := S15
 refine g_noPart (g_part (g_c (g_int (v_slL S16 (lsW_len (K := K) S16 0 rfl).1 λ p17 H19 (S18 : M (pt p17 (.lst (cutV vs14 none (some 2))) :: oo4 Rs) H19) => ?_))))
 have S21 : M (lsW (odR K) p17 (vs14.take 2) (x7.take 2) :: oo3 Rs) H19 := slc_mk (n := 2) rfl (M.pk S18 5 [0, 1, 2, 3, 4] rfl)
 refine v_itL (lsW_len (K := K) S21 0 rfl).1 ?_
 refine for_lsI (β := (List OD)) hf (λ (s22 : (List OD)) σ H' => ∃ (o31 : Option V), σ = [some (V.ref p_a_shelf), some (V.ref p_a_model), some (V.int a_room), some u5, some (V.ref u11), o31, none, none] /\ M (lsW (odR K) p17 (vs14.take 2) s22 :: R_Shelf K p_a_shelf m8 :: da K u5 ((eL eA) x1) :: dvR iI (vr (liR (qcR (vrD K eI) (q1R (vrD K (eO (eL eI))))))) p_a_model m2 :: Rs) H') ⟨_, rfl, (M.pk S21 4 [0, 1, 2, 3] rfl)⟩ (lsW_len (K := K) S21 0 rfl).2 (λ _ _ _ h => by obtain ⟨_, _, S⟩ := h; exact (lsW_len (K := K) S 0 rfl).1) ?_ ?_
 ·
  rintro i26 u27 s22 _ H33 kk24 ⟨o31, rfl, S32⟩ hv28 hf
  obtain ⟨x25, hx29, hf⟩ := hf
  have S37 : M (odR K u27 x25 :: pt p17 (.lst (vs14.take 2)) :: starR (odR K) ((vs14.take 2).eraseIdx i26) (s22.eraseIdx i26) :: oo3 Rs) H33 := lsW_open S32 0 rfl hv28 hx29
  have S39 : M (oo6 Rs) H33 := S37
  refine g_name (g_seq (g_drop (g_bm (g_var rfl ?_))))
  obtain ⟨l40, h41, hf⟩ := hf
  obtain ⟨p42, rfl, S43⟩ := M.odO (M.at S39 0 rfl) h41
  have S45 : M (lsR (odR K) p42 l40 :: oo5 Rs) H33 := S43
  refine M.tyLs S45 0 rfl (g_cons (g_c (g_nil ?_)))
  have S47 : M (odR K (V.int 3) (OD.fz (eI 3)) :: oo6 Rs) H33 := M.addA S45 (EnF.all λ _ => .int _)
  have S48 : M (oo7 Rs) H33 := M.at S47 0 rfl
  obtain ⟨h49, hf⟩ := hf
  refine v_apLs (M.pk S48 7 [0, 1, 2, 3, 4, 5, 6] rfl) h49 λ H51 (S50 : M (lsR (odR K) p42 (sno l40 (OD.fz (eI 3))) :: oo5 Rs) H51) => ?_
  refine g_nx ?_
  show (_ : TS) _ [some (V.ref p_a_shelf), some (V.ref p_a_model), some (V.int a_room), some u5, some (V.ref u11), some (V.ref p42), none, none] _
  refine g_asgX (g_c (g_sub (g_var rfl (g_c ?_))))
  have S54 : M (odR K (V.int 9) (OD.fz (eI 9)) :: oo6 Rs) H51 := M.addA S50 (EnF.all λ _ => .int _)
  have S55 : M (oo7 Rs) H51 := M.at S54 0 rfl
  obtain ⟨m56, h57, hf⟩ := hf
  refine v_setLs (M.pk S55 7 [0, 1, 2, 3, 4, 5, 6] rfl) h57 λ H59 (S58 : M (lsR (odR K) p42 ((sno l40 (OD.fz (eI 3))).set m56 (OD.fz (eI 9))) :: oo5 Rs) H59) => ?_
  have S62 : M (odR K (V.ref p42) (OD.ol ((sno l40 (OD.fz (eI 3))).set m56 (OD.fz (eI 9)))) :: oo5 Rs) H59 := M.odC (M.at S58 0 rfl)
  have S63 : M (oo6 Rs) H59 := M.at S62 0 rfl
  have S64 : M (lsW (odR K) p17 (vs14.take 2) (s22.set i26 (OD.ol ((sno l40 (OD.fz (eI 3))).set m56 (OD.fz (eI 9))))) :: oo3 Rs) H59 := lsW_close hv28 hx29 (M.pk S63 6 [0, 1, 2, 3, 4, 5] rfl)
  exact ⟨_, hf, _, rfl, (M.pk S64 4 [0, 1, 2, 3] rfl)⟩
 rintro s22 _ H66 hf ⟨o31, rfl, S65⟩
 refine g_nx ?_
 show (_ : TS) _ [some (V.ref p_a_shelf), some (V.ref p_a_model), some (V.int a_room), some u5, some (V.ref u11), o31, none, none] _
 refine g_seq (g_for (g_iList (g_meth (g_var rfl (v_R_Shelf S65 1 rfl (λ _ _ _ => rfl) (g_nil (⟨_, _, _, _, rfl, (M.at S65 1 rfl), hf, λ x67 u70 H69 hf (S68 : M (acR K u70 (x67.map eI) :: oo4 Rs) H69) => ?_⟩)))))))
 refine for_N flI (K := K) (β := (Int × (List (Int × Int)) × (List (Int × (Option (List Int)))))) hf (λ (s72 : (Int × (List (Int × Int)) × (List (Int × (Option (List Int)))))) σ H' => ∃ (o77 : Option V) (o78 : Option V), σ = [some (V.ref p_a_shelf), some (V.ref p_a_model), some (V.int a_room), some u5, some (V.ref u11), o31, o77, o78] /\ M (R_Shelf K p_a_shelf s72 :: acR K u70 (x67.map eI) :: lsW (odR K) p17 (vs14.take 2) s22 :: da K u5 ((eL eA) x1) :: dvR iI (vr (liR (qcR (vrD K eI) (q1R (vrD K (eO (eL eI))))))) p_a_model m2 :: Rs) H') ⟨_, _, rfl, (M.pk S68 5 [1, 0, 2, 3, 4] rfl)⟩ (λ _ _ _ h => by obtain ⟨_, _, _, S⟩ := h; exact S.gotO 1 rfl) ?_ ?_
 ·
  rintro x75 s72 _ H80 kk74 ⟨o77, o78, rfl, S79⟩ hf
  refine g_name (g_seq (g_asg (g_op (g_call (g_cons (g_var rfl (g_cons (g_c (g_cons (g_var rfl (g_cons (g_lst (g_nil (v_lsto (ds := ([] : (List Int)).map eI) S79 EnF.nilA (len_ok rfl) λ p81 H83 (S82 : M (acR K p81 (([] : (List Int)).map eI) :: oo5 Rs) H83) => ?_))))))))))))))
  have S85 : M (da K (V.ref p81) ((eL eI) ([] : (List Int))) :: oo5 Rs) H83 := acR_fixL S82
  refine g_nil (.inr (⟨_, _, _, _, _, _, _, _, _, rfl, Brw.da, (M.at (M.addA S85 (EnF.at 0 rfl)) 2 rfl), hf, λ x88 m89 u92 H91 hf (S90 : M (odR K u92 x88 :: R_Shelf K p_a_shelf m89 :: oo6 Rs) H91) => ?_⟩))
  refine g_c ?_
  obtain ⟨y94, h95, hf⟩ := hf
  refine v_ixOD S90 0 rfl h95 λ u96 (S97 : M (odR K u96 y94 :: oo7 Rs) H91) => ?_
  refine g_nx ?_
  show (_ : TS) _ [some (V.ref p_a_shelf), some (V.ref p_a_model), some (V.int a_room), some u5, some (V.ref u11), o31, some (V.int x75), some u96] _
  have S99 : M (oo6 Rs) H91 := (M.drp (M.drp S97 3) 2)
  refine g_if (g_B (g_cb (g_cons (g_var rfl (g_cons (g_c (g_nil (v_isq (M.dnOD S99 0 rfl) (by decide) rfl (g_bl (v_iff hf (λ _ hf => ?_) (λ _ hf => ?_)))))))))))
  ·
   refine g_seq (g_drop (g_bm (g_var rfl ?_)))
   obtain ⟨l100, h101, hf⟩ := hf
   obtain ⟨p102, rfl, S103⟩ := M.odO (M.at S99 0 rfl) h101
   have S105 : M (lsR (odR K) p102 l100 :: oo5 Rs) H91 := S103
   refine M.tyLs S105 0 rfl (g_cons (g_c (g_nil ?_)))
   have S107 : M (odR K (V.int 3) (OD.fz (eI 3)) :: oo6 Rs) H91 := M.addA S105 (EnF.all λ _ => .int _)
   have S108 : M (oo7 Rs) H91 := M.at S107 0 rfl
   obtain ⟨h109, hf⟩ := hf
   refine v_apLs (M.pk S108 7 [0, 1, 2, 3, 4, 5, 6] rfl) h109 λ H111 (S110 : M (lsR (odR K) p102 (sno l100 (OD.fz (eI 3))) :: oo5 Rs) H111) => ?_
   refine g_nx ?_
   show (_ : TS) _ [some (V.ref p_a_shelf), some (V.ref p_a_model), some (V.int a_room), some u5, some (V.ref u11), o31, some (V.int x75), some (V.ref p102)] _
   refine g_asgX (g_c (g_sub (g_var rfl (g_c ?_))))
   have S114 : M (odR K (V.int 9) (OD.fz (eI 9)) :: oo6 Rs) H111 := M.addA S110 (EnF.all λ _ => .int _)
   have S115 : M (oo7 Rs) H111 := M.at S114 0 rfl
   obtain ⟨m116, h117, hf⟩ := hf
   refine v_setLs (M.pk S115 7 [0, 1, 2, 3, 4, 5, 6] rfl) h117 λ H119 (S118 : M (lsR (odR K) p102 ((sno l100 (OD.fz (eI 3))).set m116 (OD.fz (eI 9))) :: oo5 Rs) H119) => ?_
   exact ⟨_, hf, _, _, rfl, (M.pk S118 6 [1, 2, 3, 4, 5] rfl)⟩
  ·
   refine g_next ?_
   exact ⟨_, hf, _, _, rfl, (M.pk S99 6 [1, 2, 3, 4, 5] rfl)⟩
 rintro s72 _ H122 hf ⟨o77, o78, rfl, S121⟩
 refine g_nx ?_
 show (_ : TS) _ [some (V.ref p_a_shelf), some (V.ref p_a_model), some (V.int a_room), some u5, some (V.ref u11), o31, o77, o78] _
 refine g_ret (g_call (g_cons (g_call (g_cons (g_var rfl (g_nil (⟨_, _, _, _, rfl, (M.at S121 0 rfl), hf, λ x123 m124 u127 H126 hf (S125 : M (lsR (odR K) u127 x123 :: R_Shelf K p_a_shelf m124 :: oo4 Rs) H126) => ?_⟩)))))))
 refine g_cons (g_var rfl (g_nil ?_))
 obtain ⟨h129, hf⟩ := hf
 refine ⟨_, _, _, rfl, (M.dnLO S125 0 rfl), (Dn.by_ h129.1 (Dq.dn (M.gotA S125 4 rfl))), h129.2, ?_⟩
 exact hk _ _ _ _ hf (M.pk S125 6 [1, 5] rfl)
theorem pk_same {κ α : Type} [DecidableEq κ] {m : List (κ × α)} (nd : (ks m).Nodup) {k : κ} {x : α} (h : lk m k = some x) : pk m k x = m := by
 refine dict_ext (nd_pk nd) (ks_pk_old (by rw [h]; rfl)) λ j => ?_
 rw [lk_pk]
 by_cases z : j = k
 · rw [if_pos z, z, h]
 · rw [if_neg z]
theorem jn_ok {β : Type} {f : (β -> Prop) -> Prop} {k : β -> Prop} (G : β -> Prop) (h1 : ∀ kk : β -> Prop, (∀ b, G b -> kk b) -> f kk) (h2 : ∀ b, G b -> k b) : jn f k := h1 k h2
theorem jn2_ok {β γ : Type} {f : (β -> γ -> Prop) -> Prop} {k : β -> γ -> Prop} (G : β -> γ -> Prop) (h1 : ∀ kk : β -> γ -> Prop, (∀ b c, G b c -> kk b c) -> f kk) (h2 : ∀ b c, G b c -> k b c) : jn2 f k := h1 k h2
def Sg (ns : List Int) : Prop := 1 <= ns.length /\ ns.length <= 16 /\ ∀ n ∈ ns, 0 <= n /\ n <= 999
def Bd (ns : List Int) : Prop := ns.length <= 16 /\ ∀ n ∈ ns, 0 <= n /\ n <= 999
theorem Sg.bd {ns : List Int} (g : Sg ns) : Bd ns := ⟨g.2.1, g.2.2⟩
def sealN (ns : List Int) : Int := ns.foldr (λ s acc => acc * 1001 + s + 1) 0
theorem sealN_bd : ∀ {ns : List Int}, (∀ n ∈ ns, 0 <= n /\ n <= 999) -> 0 <= sealN ns /\ sealN ns < 1001 ^ ns.length
 | [], _ => by simp [sealN]
 | n :: r, h => by
   obtain ⟨h1, h2⟩ := sealN_bd λ m hm => h m (List.mem_cons_of_mem _ hm)
   have hn := h n List.mem_cons_self
   have e : sealN (n :: r) = sealN r * 1001 + n + 1 := rfl
   rw [e, List.length_cons, Int.pow_succ]
   omega
theorem sealN_pos {n : Int} {r : List Int} (h : ∀ m ∈ n :: r, 0 <= m /\ m <= 999) : 0 < sealN (n :: r) := by
 have h1 := (sealN_bd λ m hm => h m (List.mem_cons_of_mem _ hm)).1
 have hn := h n List.mem_cons_self
 have e : sealN (n :: r) = sealN r * 1001 + n + 1 := rfl
 omega
theorem sealN_inj : ∀ {ns ms : List Int}, (∀ n ∈ ns, 0 <= n /\ n <= 999) -> (∀ n ∈ ms, 0 <= n /\ n <= 999) -> sealN ns = sealN ms -> ns = ms
 | [], [], _, _, _ => rfl
 | [], m :: r, _, h2, e => by
   have := sealN_pos h2
   have : sealN [] = 0 := rfl
   omega
 | n :: r, [], h1, _, e => by
   have := sealN_pos h1
   have : sealN [] = 0 := rfl
   omega
 | n :: r, m :: q, h1, h2, e => by
   have e1 : sealN (n :: r) = sealN r * 1001 + n + 1 := rfl
   have e2 : sealN (m :: q) = sealN q * 1001 + m + 1 := rfl
   have b1 := h1 n List.mem_cons_self
   have b2 := h2 m List.mem_cons_self
   have k : n = m /\ sealN r = sealN q := by omega
   rw [k.1, sealN_inj (λ z hz => h1 z (List.mem_cons_of_mem _ hz)) (λ z hz => h2 z (List.mem_cons_of_mem _ hz)) k.2]
theorem is_whole_ok {n : Int} {P : Bool -> Prop} (h : P true) : p_is_whole n P := by
 unfold p_is_whole
 exact h
theorem is_sign_ok {n : Int} {P : Bool -> Prop} (g : 0 <= n /\ n <= 999) (h : P true) : p_is_sign n P := by
 unfold p_is_sign jn
 refine is_whole_ok ?_
 rw [if_pos rfl]
 have e : (decide (0 <= n) && decide (n <= 999)) = true := by simp [g.1, g.2]
 rw [e]
 exact h
theorem are_signs_ok {ns : List Int} {lo hi : Int} {P : Bool -> Prop} (h1 : lo <= ns.length) (h2 : (ns.length : Int) <= hi) (g : ∀ n ∈ ns, 0 <= n /\ n <= 999) (h : P true) : p_are_signs ns lo hi P := by
 unfold p_are_signs
 rw [if_neg (by simp [h1, h2])]
 refine forD_inv (λ _ _ => True) (n := 0) trivial (λ i x s kk hx _ hk => ?_) λ _ _ => h
 refine is_sign_ok (g x (List.mem_of_getElem? hx)) ?_
 rw [if_neg (by decide)]
 exact hk () trivial
theorem forD_rev {f : Int -> Int -> (Int -> Prop) -> Prop} (hf : ∀ x s (kk : Int -> Prop), kk (s * 1001 + x + 1) -> f x s kk) : ∀ (xs : List Int) (s : Int) (k : Int -> Prop), k (xs.foldl (λ acc x => acc * 1001 + x + 1) s) -> forD f xs s k
 | [], s, k, h => h
 | x :: xs, s, k, h => hf x s _ (forD_rev hf xs _ k h)
theorem seal_of_ok {ns : List Int} {P : Int -> Prop} (g : Sg ns) (h : P (sealN ns)) : p_seal_of ns P := by
 unfold p_seal_of
 obtain ⟨h1, h2, h3⟩ := g
 refine are_signs_ok (by omega) (by omega) h3 ?_
 rw [if_neg (by decide)]
 refine forD_rev (λ x s kk hk => ⟨.inl (.inr ⟨by decide, by decide⟩), hk⟩) _ _ _ ?_
 have e : ns.reverse.foldl (λ acc x => acc * 1001 + x + 1) 0 = sealN ns := by
   unfold sealN
   rw [List.foldl_reverse]
 rw [e]
 exact h
theorem is_seal_go {P : Bool -> Prop} (h : P true) : ∀ (xs : List Int) (n : Int) (ns : List Int) (k : Int -> Prop), (∀ m ∈ n :: ns, 0 <= m /\ m <= 999) -> ns.length < xs.length ->
   forD (λ (x17 : Int) (s14 : Int) (k15 : (Int) -> Prop) => ((0 : Int) < 1001) /\ if (decide ((s14 % 1001) = 0)) = true then (P false) else ((CDiv s14 1001) /\ if (decide ((s14 / 1001) = 0)) = true then (P true) else (k15 (s14 / 1001)))) xs (sealN (n :: ns)) k
 | [], _, _, _, _, hl => absurd hl (by simp)
 | x :: xs, n, ns, k, hs, hl => by
   have hn := hs n List.mem_cons_self
   have e1 : sealN (n :: ns) = sealN ns * 1001 + n + 1 := rfl
   have b1 := (sealN_bd λ m hm => hs m (List.mem_cons_of_mem _ hm)).1
   have em : sealN (n :: ns) % 1001 = n + 1 := by rw [e1]; omega
   have ed : sealN (n :: ns) / 1001 = sealN ns := by rw [e1]; omega
   refine ⟨by decide, ?_⟩
   rw [em, if_neg (by simp; omega)]
   refine ⟨⟨by decide, by decide⟩, ?_⟩
   rw [ed]
   cases ns with
   | nil =>
     rw [if_pos (by decide)]
     exact h
   | cons m r =>
     have := sealN_pos (n := m) (r := r) λ z hz => hs z (List.mem_cons_of_mem _ hz)
     rw [if_neg (by simp; omega)]
     exact is_seal_go h xs m r k (λ z hz => hs z (List.mem_cons_of_mem _ hz)) (by simp only [List.length_cons] at hl ⊢; omega)
theorem is_seal_ok {ns : List Int} {P : Bool -> Prop} (g : Sg ns) (h : P true) : p_is_seal (sealN ns) P := by
 unfold p_is_seal
 obtain ⟨h1, h2, h3⟩ := g
 cases ns with
 | nil => simp at h1
 | cons n r =>
   have hp := sealN_pos h3
   refine jn_ok (λ c => c = false) (λ k1 hk1 => is_whole_ok ?_) λ c hc => ?_
   · rw [if_neg (by decide)]
     exact hk1 _ (decide_eq_false (by omega))
   subst hc
   rw [if_neg (by decide)]
   exact ⟨by decide, is_seal_go h _ n r _ h3 (by rw [rng_len]; simp only [List.length_cons] at h2; show r.length < 16; omega)⟩
abbrev ST := Int × (List (Int × Int)) × (List (Int × (Option (List Int))))
structure Pc where
 ct : Int
 bd : Option (List Int)
abbrev Sh := List (Int × Pc)
def encS (room : Int) (s : Sh) : ST := (room, tr Pc.ct s, tr Pc.bd s)
structure GP (room : Int) (s : Sh) : Prop where
 rm : 1 <= room /\ room <= 400
 nd : (ks s).Nodup
 ln : (s.length : Int) <= room
 sl : ∀ q ∈ s, ∃ ns, Sg ns /\ q.1 = sealN ns
 ct : ∀ q ∈ s, 1 <= q.2.ct
 bd : ∀ q ∈ s, ∀ b, q.2.bd = some b -> Bd b
def wholeP (k : Int) (p : Pc) : Bool := match p.bd with
 | some b => !decide (b = []) && decide (sealN b = k)
 | none => false
theorem pk_pk {κ α : Type} [DecidableEq κ] (m : List (κ × α)) (k : κ) (x y : α) : pk (pk m k x) k y = pk m k y := by
 cases e : lk m k with
 | none =>
   rw [pk_new e, pk_new e]
   unfold pk
   rw [any_lk]
   have hl : lk (m ++ [(k, x)]) k = some x := by
     have := lk_pk m k k x
     rw [pk_new e, if_pos rfl] at this
     exact this
   rw [hl, if_pos (by rfl), List.map_append]
   congr 1
   · refine (List.map_congr_left λ p hp => ?_).trans (List.map_id _)
     have : p.1 ≠ k := λ z => lk_none_iff.mp e (by rw [<- z]; exact List.mem_map.mpr ⟨p, hp, rfl⟩)
     rw [if_neg this]
     rfl
   · simp
 | some z =>
   have q : ∀ w, pk m k w = m.map (λ p => if p.1 = k then (p.1, w) else p) := λ w => by
     unfold pk
     rw [any_lk, e, if_pos (by rfl)]
   have hl : (lk (m.map λ p => if p.1 = k then (p.1, x) else p) k).isSome = true := by
     have h2 := lk_pk m k k x
     rw [q x, if_pos rfl] at h2
     rw [h2]
     rfl
   rw [q x, q y]
   unfold pk
   rw [any_lk, if_pos hl, List.map_map]
   refine List.map_congr_left λ p _ => ?_
   show (if (if p.1 = k then (p.1, x) else p).1 = k then _ else _) = _
   by_cases h : p.1 = k
   · simp [h]
   · simp [h]
theorem kept_ok {room : Int} {s : Sh} {k : Int} {X : Ex -> Prop} {P : Unit -> Prop} (h1 : lk s k = none -> X (.NoPiece (.int k))) (h2 : ∀ p, lk s k = some p -> P ()) : p_Shelf_need_kept (encS room s) k X P := by
 unfold p_Shelf_need_kept
 show if (!(lk (tr Pc.ct s) k).isSome) = true then _ else _
 rw [lk_tr]
 cases e : lk s k with
 | none =>
   rw [if_pos (by rfl)]
   exact h1 e
 | some p =>
   rw [if_neg (by simp)]
   exact h2 p e
theorem sfree_ok {room : Int} {s : Sh} {P : Int -> Prop} (h : P (room - s.length)) : p_Shelf_free (encS room s) P := by
 unfold p_Shelf_free
 show P (room - ((tr Pc.ct s).length : Int))
 rw [len_tr]
 exact h
theorem slen_ok {room : Int} {s : Sh} {P : Int -> Prop} (h : P s.length) : p_Shelf___len__ (encS room s) P := by
 unfold p_Shelf___len__
 show P (((tr Pc.ct s).length : Nat) : Int)
 rw [len_tr]
 exact h
theorem seals_ok' {room : Int} {s : Sh} {P : List Int -> Prop} (g : GP room s) (h : P (srt (ks s))) : p_Shelf_seals (encS room s) P := by
 unfold p_Shelf_seals
 show (ks (tr Pc.ct s)).length <= 1000000 /\ P (srt (ks (tr Pc.ct s)))
 have := g.ln
 have := g.rm
 rw [ks_tr, ks_len]
 exact ⟨by omega, h⟩
theorem has_sound_ok {room : Int} {s : Sh} {k : Int} {p : Pc} {P : Bool -> Prop} (g : GP room s) (hp : lk s k = some p) (h : P (wholeP k p)) : p_Shelf_has_sound (encS room s) k P := by
 unfold p_Shelf_has_sound
 refine ⟨p.bd, ?_, ?_⟩
 · show lk (tr Pc.bd s) k = _
   rw [lk_tr, hp]
   rfl
 refine jn_ok (λ c => c = wholeP k p) (λ k1 hk1 => ?_) λ c hc => by subst hc; exact h
 unfold wholeP at hk1
 cases e : p.bd with
 | none =>
   rw [e] at hk1
   exact hk1 _ rfl
 | some b =>
   rw [e] at hk1
   rw [if_pos (by rfl)]
   have gb := g.bd _ (lk_mem hp) b e
   refine jn_ok (λ c => c = (!decide (b = []) && decide (sealN b = k))) (λ k2 hk2 => ⟨b, rfl, ?_⟩) λ c hc => hk1 _ hc
   by_cases z : b = []
   · rw [if_neg (by simp [z])]
     exact hk2 _ (by simp [z])
   · rw [if_pos (by simp [z])]
     have hl := List.length_pos_iff.mpr z
     exact seal_of_ok ⟨hl, gb.1, gb.2⟩ (hk2 _ (by simp [z]))
def layM (s : Sh) (ns : List Int) : Sh := pk s (sealN ns) ⟨(match lk s (sealN ns) with | some p => p.ct | none => 0) + 1, some ns⟩
theorem slay_ok {room : Int} {s : Sh} {ns : List Int} {X : Ex -> ST -> Prop} {P : Int -> ST -> Prop} (g : GP room s) (sg : Sg ns) (h1 : lk s (sealN ns) = none -> (s.length : Int) = room -> X (.NoRoom (.int room)) (encS room s))
   (h2 : (lk s (sealN ns)).isSome = true \/ (s.length : Int) < room -> P (sealN ns) (encS room (layM s ns))) : p_Shelf_lay (encS room s) ns X P := by
 unfold p_Shelf_lay
 have hl := g.ln
 have hr := g.rm
 obtain ⟨s1, s2, s3⟩ := id sg
 refine are_signs_ok (by omega) (by omega) s3 ?_
 rw [if_neg (by decide)]
 refine seal_of_ok sg ?_
 have lc : (encS room s).2.1.length = s.length := len_tr _ _
 have lb : (encS room s).2.2.length = s.length := len_tr _ _
 cases e : lk s (sealN ns) with
 | none =>
   have ec : lk (encS room s).2.1 (sealN ns) = none := by
     show lk (tr Pc.ct s) _ = _
     rw [lk_tr, e]
     rfl
   refine jn_ok (λ t => t = (room, pk (tr Pc.ct s) (sealN ns) 0, tr Pc.bd s) /\ (s.length : Int) < room) (λ k1 hk1 => ?_) λ t ht => ?_
   · rw [if_pos (by rw [ec]; rfl)]
     show p_Shelf_free (encS room s) _
     refine sfree_ok ?_
     by_cases z : (s.length : Int) = room
     · rw [if_pos (by simp; omega)]
       exact h1 e z
     · rw [if_neg (by simp; omega)]
       exact ⟨by rw [show ((encS room s).1, (encS room s).2.1, (encS room s).2.2).2.1.length = s.length from lc]; omega, hk1 _ ⟨rfl, by omega⟩⟩
   obtain ⟨rfl, hlt⟩ := ht
   refine ⟨0, by show lk (pk (tr Pc.ct s) _ 0) _ = _; rw [lk_pk, if_pos rfl], ?_, by show (tr Pc.bd s).length < _; rw [len_tr]; omega, ?_⟩
   · show (pk (tr Pc.ct s) (sealN ns) 0).length < 100000
     have : lk (tr Pc.ct s) (sealN ns) = none := ec
     rw [pk_new this, List.length_append, len_tr]
     simp only [List.length_cons, List.length_nil]
     omega
   · have := h2 (.inr hlt)
     unfold layM at this
     rw [e] at this
     have e2 : ((room, pk (pk (tr Pc.ct s) (sealN ns) 0) (sealN ns) (0 + 1), pk (tr Pc.bd s) (sealN ns) (some ns)) : ST) = encS room (pk s (sealN ns) ⟨0 + 1, some ns⟩) := by
       rw [pk_pk]
       show _ = (room, tr Pc.ct (pk s (sealN ns) ⟨0 + 1, some ns⟩), tr Pc.bd (pk s (sealN ns) ⟨0 + 1, some ns⟩))
       rw [<- pk_tr, <- pk_tr]
     exact e2 ▸ this
 | some p =>
   have ec : lk (encS room s).2.1 (sealN ns) = some p.ct := by
     show lk (tr Pc.ct s) _ = _
     rw [lk_tr, e]
     rfl
   refine jn_ok (λ t => t = encS room s) (λ k1 hk1 => ?_) λ t ht => ?_
   · rw [if_neg (by rw [ec]; simp)]
     exact hk1 _ rfl
   subst ht
   refine ⟨p.ct, ec, by rw [lc]; omega, by rw [lb]; omega, ?_⟩
   have := h2 (.inl (by rw [e]; rfl))
   unfold layM at this
   rw [e] at this
   have e2 : ((room, pk (tr Pc.ct s) (sealN ns) (p.ct + 1), pk (tr Pc.bd s) (sealN ns) (some ns)) : ST) = encS room (pk s (sealN ns) ⟨p.ct + 1, some ns⟩) := by
     show _ = (room, tr Pc.ct (pk s (sealN ns) ⟨p.ct + 1, some ns⟩), tr Pc.bd (pk s (sealN ns) ⟨p.ct + 1, some ns⟩))
     rw [<- pk_tr, <- pk_tr]
   exact e2 ▸ this
theorem GP.put {room : Int} {s : Sh} {k : Int} {p : Pc} (g : GP room s) (hk : ∃ ns, Sg ns /\ k = sealN ns) (hc : 1 <= p.ct) (hb : ∀ b, p.bd = some b -> Bd b) (hl : (lk s k).isSome = true \/ (s.length : Int) < room) : GP room (pk s k p) := by
 have mem : ∀ q ∈ pk s k p, q = (k, p) \/ q ∈ s := λ q hq => by
   rcases mem_pk hq with h | ⟨h, _⟩ | h
   · exact .inl h
   · exact .inr h
   · exact .inr h
 refine ⟨g.rm, nd_pk g.nd, ?_, λ q hq => ?_, λ q hq => ?_, λ q hq => ?_⟩
 · have e := congrArg List.length (pk_keys (m := s) (n := k) (x := p))
   rw [ks_len] at e
   rw [e]
   have := g.ln
   rcases hl with h | h
   · rw [if_pos h, ks_len]
     exact this
   · split
     · rw [ks_len]
       exact this
     · rw [List.length_append, ks_len]
       simp only [List.length_cons, List.length_nil]
       omega
 · rcases mem q hq with rfl | h
   · exact hk
   · exact g.sl q h
 · rcases mem q hq with rfl | h
   · exact hc
   · exact g.ct q h
 · rcases mem q hq with rfl | h
   · exact hb
   · exact g.bd q h
theorem lay_good {room : Int} {s : Sh} {ns : List Int} (g : GP room s) (sg : Sg ns) (h : (lk s (sealN ns)).isSome = true \/ (s.length : Int) < room) : GP room (layM s ns) := by
 refine g.put ⟨ns, sg, rfl⟩ ?_ (λ b hb => by cases hb; exact sg.bd) h
 show 1 <= (match lk s (sealN ns) with | some p => p.ct | none => 0) + 1
 cases e : lk s (sealN ns) with
 | none => decide
 | some p =>
   have := g.ct _ (lk_mem e)
   simp only at this ⊢
   omega
theorem hold_ok {room : Int} {s : Sh} {ns : List Int} {X : Ex -> ST -> Prop} {P : ST -> Prop} (g : GP room s) (sg : Sg ns) (h1 : lk s (sealN ns) = none -> X (.NoPiece (.int (sealN ns))) (encS room s)) (h2 : ∀ p, lk s (sealN ns) = some p -> P (encS room (pk s (sealN ns) ⟨p.ct + 1, p.bd⟩))) : p_Shelf_hold (encS room s) (sealN ns) X P := by
 unfold p_Shelf_hold
 have hl := g.ln
 have hr := g.rm
 refine is_seal_ok sg ?_
 rw [if_neg (by decide)]
 refine kept_ok h1 λ p hp => ⟨p.ct, ?_, ?_, ?_⟩
 · show lk (tr Pc.ct s) _ = _
   rw [lk_tr, hp]
   rfl
 · show (tr Pc.ct s).length < _
   rw [len_tr]
   omega
 · have e2 : ((room, pk (tr Pc.ct s) (sealN ns) (p.ct + 1), tr Pc.bd s) : ST) = encS room (pk s (sealN ns) ⟨p.ct + 1, p.bd⟩) := by
     show _ = (room, tr Pc.ct (pk s (sealN ns) ⟨p.ct + 1, p.bd⟩), tr Pc.bd (pk s (sealN ns) ⟨p.ct + 1, p.bd⟩))
     rw [<- pk_tr, <- pk_tr, pk_same (m := tr Pc.bd s) (by rw [ks_tr]; exact g.nd) (by rw [lk_tr, hp]; rfl)]
   exact e2 ▸ h2 p hp
theorem let_go_ok {room : Int} {s : Sh} {ns : List Int} {X : Ex -> ST -> Prop} {P : Bool -> ST -> Prop} (g : GP room s) (sg : Sg ns) (h1 : lk s (sealN ns) = none -> X (.NoPiece (.int (sealN ns))) (encS room s))
   (h2 : ∀ p, lk s (sealN ns) = some p -> if 1 < p.ct then P false (encS room (pk s (sealN ns) ⟨p.ct - 1, p.bd⟩)) else P true (encS room (dk s (sealN ns)))) : p_Shelf_let_go (encS room s) (sealN ns) X P := by
 unfold p_Shelf_let_go
 have hl := g.ln
 have hr := g.rm
 refine is_seal_ok sg ?_
 rw [if_neg (by decide)]
 refine kept_ok h1 λ p hp => ⟨p.ct, ?_, ?_, p.ct - 1, ?_, ?_⟩
 · show lk (tr Pc.ct s) _ = _
   rw [lk_tr, hp]
   rfl
 · show (tr Pc.ct s).length < _
   rw [len_tr]
   omega
 · show lk (pk (tr Pc.ct s) _ _) _ = _
   rw [lk_pk, if_pos rfl]
 · have hp2 := h2 p hp
   by_cases z : 1 < p.ct
   · rw [if_pos z] at hp2
     rw [if_pos (by simp; omega)]
     have e2 : ((room, pk (tr Pc.ct s) (sealN ns) (p.ct - 1), tr Pc.bd s) : ST) = encS room (pk s (sealN ns) ⟨p.ct - 1, p.bd⟩) := by
       show _ = (room, tr Pc.ct (pk s (sealN ns) ⟨p.ct - 1, p.bd⟩), tr Pc.bd (pk s (sealN ns) ⟨p.ct - 1, p.bd⟩))
       rw [<- pk_tr, <- pk_tr, pk_same (m := tr Pc.bd s) (by rw [ks_tr]; exact g.nd) (by rw [lk_tr, hp]; rfl)]
     exact e2 ▸ hp2
   · rw [if_neg z] at hp2
     rw [if_neg (by simp; omega)]
     refine ⟨p.ct - 1, by show lk (pk (tr Pc.ct s) _ _) _ = _; rw [lk_pk, if_pos rfl], p.bd, by show lk (tr Pc.bd s) _ = _; rw [lk_tr, hp]; rfl, ?_⟩
     have e2 : ((room, dk (pk (tr Pc.ct s) (sealN ns) (p.ct - 1)) (sealN ns), dk (tr Pc.bd s) (sealN ns)) : ST) = encS room (dk s (sealN ns)) := by
       show _ = (room, tr Pc.ct (dk s (sealN ns)), tr Pc.bd (dk s (sealN ns)))
       rw [<- dk_tr, <- dk_tr]
       congr 2
       refine dict_ext (nd_dk (nd_pk (by rw [ks_tr]; exact g.nd))) ?_ λ j => ?_
       · rw [ks_dk, ks_dk, ks_pk_old (by rw [lk_tr, hp]; rfl)]
       · rw [lk_dk, lk_dk, lk_pk]
         by_cases y : j = sealN ns
         · rw [if_pos y, if_pos y]
         · rw [if_neg y, if_neg y, if_neg y]
     exact e2 ▸ hp2
theorem GP.drop {room : Int} {s : Sh} (g : GP room s) (k : Int) : GP room (dk s k) := by
 refine ⟨g.rm, nd_dk g.nd, ?_, λ q hq => g.sl q (mem_dk hq).1, λ q hq => g.ct q (mem_dk hq).1, λ q hq => g.bd q (mem_dk hq).1⟩
 have := dk_le s k
 have := g.ln
 omega
theorem body_enc {room : Int} {s : Sh} {k : Int} {p : Pc} {b : Option (List Int)} (nd : (ks s).Nodup) (hp : lk s k = some p) : ((room, tr Pc.ct s, pk (tr Pc.bd s) k b) : ST) = encS room (pk s k ⟨p.ct, b⟩) := by
 show _ = (room, tr Pc.ct (pk s k ⟨p.ct, b⟩), tr Pc.bd (pk s k ⟨p.ct, b⟩))
 rw [<- pk_tr, <- pk_tr, pk_same (m := tr Pc.ct s) (by rw [ks_tr]; exact nd) (by rw [lk_tr, hp]; rfl)]
theorem harm_ok {room : Int} {s : Sh} {ns bs : List Int} {X : Ex -> ST -> Prop} {P : ST -> Prop} (g : GP room s) (sg : Sg ns) (gb : Bd bs) (h1 : lk s (sealN ns) = none -> X (.NoPiece (.int (sealN ns))) (encS room s)) (h2 : ∀ p, lk s (sealN ns) = some p -> P (encS room (pk s (sealN ns) ⟨p.ct, some bs⟩))) : p_Shelf_harm (encS room s) (sealN ns) bs X P := by
 unfold p_Shelf_harm
 have hl := g.ln
 have hr := g.rm
 obtain ⟨b1, b2⟩ := gb
 refine is_seal_ok sg ?_
 rw [if_neg (by decide)]
 refine are_signs_ok (by omega) (by omega) b2 ?_
 rw [if_neg (by decide)]
 refine kept_ok h1 λ p hp => ⟨by show (tr Pc.bd s).length < _; rw [len_tr]; omega, ?_⟩
 exact body_enc g.nd hp ▸ h2 p hp
theorem lose_ok {room : Int} {s : Sh} {ns : List Int} {X : Ex -> ST -> Prop} {P : ST -> Prop} (g : GP room s) (sg : Sg ns) (h1 : lk s (sealN ns) = none -> X (.NoPiece (.int (sealN ns))) (encS room s)) (h2 : ∀ p, lk s (sealN ns) = some p -> P (encS room (pk s (sealN ns) ⟨p.ct, none⟩))) : p_Shelf_lose (encS room s) (sealN ns) X P := by
 unfold p_Shelf_lose
 have hl := g.ln
 have hr := g.rm
 refine is_seal_ok sg ?_
 rw [if_neg (by decide)]
 refine kept_ok h1 λ p hp => ⟨by show (tr Pc.bd s).length < _; rw [len_tr]; omega, ?_⟩
 exact body_enc g.nd hp ▸ h2 p hp
theorem heal_ok {room : Int} {s : Sh} {ns bs : List Int} {X : Ex -> ST -> Prop} {P : ST -> Prop} (g : GP room s) (sg : Sg ns) (gb : Sg bs) (h1 : lk s (sealN ns) = none -> X (.NoPiece (.int (sealN ns))) (encS room s))
   (h2 : ∀ p, lk s (sealN ns) = some p -> bs ≠ ns -> X (.Unlike (.int (sealN ns))) (encS room s)) (h3 : ∀ p, lk s (sealN ns) = some p -> bs = ns -> P (encS room (pk s (sealN ns) ⟨p.ct, some ns⟩))) : p_Shelf_heal (encS room s) (sealN ns) bs X P := by
 unfold p_Shelf_heal
 have hl := g.ln
 have hr := g.rm
 obtain ⟨b1, b2, b3⟩ := id gb
 refine is_seal_ok sg ?_
 rw [if_neg (by decide)]
 refine are_signs_ok (by omega) (by omega) b3 ?_
 rw [if_neg (by decide)]
 refine kept_ok h1 λ p hp => seal_of_ok gb ?_
 by_cases z : bs = ns
 · rw [if_neg (by simp [z])]
   refine ⟨by show (tr Pc.bd s).length < _; rw [len_tr]; omega, ?_⟩
   have := h3 p hp z
   subst z
   exact body_enc g.nd hp ▸ this
 · have : sealN bs ≠ sealN ns := λ e => z (sealN_inj b3 sg.2.2 e)
   rw [if_pos (by simp [this])]
   exact h2 p hp z
theorem held_ok {room : Int} {s : Sh} {ns : List Int} {X : Ex -> Prop} {P : Int -> Prop} (sg : Sg ns) (h1 : lk s (sealN ns) = none -> X (.NoPiece (.int (sealN ns)))) (h2 : ∀ p, lk s (sealN ns) = some p -> P p.ct) : p_Shelf_held (encS room s) (sealN ns) X P := by
 unfold p_Shelf_held
 refine is_seal_ok sg ?_
 rw [if_neg (by decide)]
 refine kept_ok h1 λ p hp => ⟨p.ct, ?_, h2 p hp⟩
 show lk (tr Pc.ct s) _ = _
 rw [lk_tr, hp]
 rfl
theorem is_sound_ok {room : Int} {s : Sh} {ns : List Int} {X : Ex -> Prop} {P : Bool -> Prop} (g : GP room s) (sg : Sg ns) (h1 : lk s (sealN ns) = none -> X (.NoPiece (.int (sealN ns)))) (h2 : ∀ p, lk s (sealN ns) = some p -> P (wholeP (sealN ns) p)) : p_Shelf_is_sound (encS room s) (sealN ns) X P := by
 unfold p_Shelf_is_sound
 refine is_seal_ok sg ?_
 rw [if_neg (by decide)]
 exact kept_ok h1 λ p hp => has_sound_ok g hp (h2 p hp)
theorem whole_bd {k : Int} {p : Pc} {ns : List Int} (sg : Sg ns) (hk : k = sealN ns) (gb : ∀ b, p.bd = some b -> Bd b) (h : wholeP k p = true) : p.bd = some ns := by
 unfold wholeP at h
 cases e : p.bd with
 | none => rw [e] at h; cases h
 | some b =>
   rw [e] at h
   simp only [Bool.and_eq_true, decide_eq_true_eq] at h
   rw [hk] at h
   rw [sealN_inj (gb b e).2 sg.2.2 h.2]
theorem read_ok {room : Int} {s : Sh} {ns : List Int} {X : Ex -> Prop} {P : List Int -> Prop} (g : GP room s) (sg : Sg ns) (h1 : lk s (sealN ns) = none -> X (.NoPiece (.int (sealN ns)))) (h2 : ∀ p, lk s (sealN ns) = some p -> wholeP (sealN ns) p = false -> X (.Broken (.int (sealN ns))))
   (h3 : ∀ p, lk s (sealN ns) = some p -> wholeP (sealN ns) p = true -> P ns) : p_Shelf_read (encS room s) (sealN ns) X P := by
 unfold p_Shelf_read
 refine is_seal_ok sg ?_
 rw [if_neg (by decide)]
 refine kept_ok h1 λ p hp => has_sound_ok g hp ?_
 cases e : wholeP (sealN ns) p with
 | false =>
   rw [if_pos (by rfl)]
   exact h2 p hp e
 | true =>
   rw [if_neg (by decide)]
   have eb := whole_bd sg rfl (g.bd _ (lk_mem hp)) e
   refine ⟨p.bd, ?_, ns, eb, h3 p hp e⟩
   show lk (tr Pc.bd s) _ = _
   rw [lk_tr, hp]
   rfl
def brokenM (s : Sh) : List Int := (srt (ks s)).filter λ k => match lk s k with | some p => !wholeP k p | none => false
theorem broken_ok {room : Int} {s : Sh} {P : List Int -> Prop} (g : GP room s) (h : P (brokenM s)) : p_Shelf_broken (encS room s) P := by
 unfold p_Shelf_broken
 show (ks (tr Pc.ct s)).length <= 1000000 /\ (srt (ks (tr Pc.ct s))).length <= 100000 /\ lcD _ (srt (ks (tr Pc.ct s))) [] _
 have := g.ln
 have := g.rm
 rw [ks_tr, srtI_len, ks_len]
 refine ⟨by omega, by omega, lcD_filter (λ k => match lk s k with | some p => !wholeP k p | none => false) (λ k hk kk hkk => ?_) h⟩
 obtain ⟨p, hp⟩ := lk_some (srtI_mem.mp hk)
 rw [hp] at hkk
 show p_Shelf_has_sound (encS room s) k _
 exact has_sound_ok g hp hkk
theorem lsum_go {f : Int -> Int × Int -> (Int × Int -> Prop) -> Prop} (hf : ∀ x s (kk : Int × Int -> Prop), 0 <= x -> x <= 999 -> kk (s.1 + (x + 1) * s.2, s.2 * 1001) -> f x s kk) : ∀ (xs : List Int) (a b : Int) (k : Int × Int -> Prop), (∀ n ∈ xs, 0 <= n /\ n <= 999) -> (∀ w, k (a + b * sealN xs, w)) -> forD f xs (a, b) k
 | [], a, b, k, _, h => by
   have := h b
   have e : sealN [] = 0 := rfl
   rw [e, Int.mul_zero, Int.add_zero] at this
   exact this
 | x :: xs, a, b, k, hx, h => by
   have h0 := hx x List.mem_cons_self
   refine hf x _ _ h0.1 h0.2 ?_
   refine lsum_go hf xs _ _ k (λ n hn => hx n (List.mem_cons_of_mem _ hn)) λ w => ?_
   have e : sealN (x :: xs) = sealN xs * 1001 + x + 1 := rfl
   have := h w
   rw [e] at this
   have e2 : a + (x + 1) * b + b * 1001 * sealN xs = a + b * (sealN xs * 1001 + x + 1) := by
     rw [Int.mul_add, Int.mul_add, Int.mul_assoc b 1001, Int.mul_comm 1001, Int.add_mul, Int.mul_comm x b]
     omega
   show k (a + (x + 1) * b + b * 1001 * sealN xs, w)
   rw [e2]
   exact this
theorem lsum_ok {ns : List Int} {P : Int -> Prop} (g : ∀ n ∈ ns, 0 <= n /\ n <= 999) (h : P (sealN ns)) : p_l_sum ns P := by
 unfold p_l_sum
 refine lsum_go (λ x s kk h0 h1 hk => ⟨.inl (.inl ⟨by omega, by omega⟩), .inr ⟨by decide, by decide⟩, hk⟩) ns 0 1 _ g λ w => ?_
 rw [Int.one_mul, Int.zero_add]
 exact h
theorem set_Sg {ns : List Int} {m : Nat} {x : Int} (g : Sg ns) (hx : 0 <= x /\ x <= 999) : Sg (ns.set m x) := by
 refine ⟨by rw [List.length_set]; exact g.1, by rw [List.length_set]; exact g.2.1, λ n hn => ?_⟩
 rcases List.mem_or_eq_of_mem_set hn with h | h
 · exact g.2.2 n h
 · rw [h]; exact hx
theorem ixN_ex {n : Nat} {i : Int} (h0 : 0 <= i) (h1 : i < n) : ∃ m, ixN n i = some m := by
 have := atI_int (xs := List.range n) (i := i) h0 (List.getElem?_eq_getElem (by rw [List.length_range]; omega))
 obtain ⟨j, h, _⟩ := atI_get this
 rw [List.length_range] at h
 exact ⟨j, h⟩
theorem lsigns_ok {P : List Int -> Prop} (h : ∀ ns, Sg ns -> P ns) : p_l_signs P := by
 unfold p_l_signs
 refine tk (by decide) λ v a b => tk (by decide) λ w c d => ?_
 obtain ⟨x, hx, e⟩ := atI_ex (xs := ([1, 2, (1 + v), 16] : List Int)) c d
 have lx : 1 <= x /\ x <= 16 := by
   simp only [List.mem_cons, List.not_mem_nil, or_false] at hx
   omega
 refine ⟨x, e, tk (by decide) λ z z0 z1 => ?_⟩
 obtain ⟨y, hy, e2⟩ := atI_ex (xs := ([1000, 2, 1000] : List Int)) z0 z1
 have ly : 1 <= y /\ y <= 1000 := by
   simp only [List.mem_cons, List.not_mem_nil, or_false] at hy
   omega
 refine ⟨y, e2, ⟨by omega, by omega⟩, by rw [rng_len]; omega, ?_⟩
 refine lcD_all (λ n : Int => 0 <= n /\ n <= 999) (λ k hk kk hkk => tk ⟨by omega, by omega⟩ λ t t0 t1 => hkk t ⟨t0, by omega⟩) (λ _ h => nomatch h) λ ys hys hl => ?_
 rw [rng_len] at hl
 have g : Sg ys := ⟨by simp at hl; omega, by simp at hl; omega, hys⟩
 refine jn_ok Sg (λ kk hk => tk (by decide) λ t t0 t1 => ?_) h
 by_cases q : t = 0
 · rw [if_pos (decide_eq_true q)]
   refine tk ⟨by omega, by omega⟩ λ r r0 r1 => ?_
   obtain ⟨m, hm⟩ := ixN_ex (n := ys.length) r0 (by simp at hl; omega)
   exact ⟨m, hm, hk _ (set_Sg g (by decide))⟩
 · rw [if_neg (by simp [q])]
   exact hk _ g
theorem seal_big {ns : List Int} (g : Sg ns) : (sealN ns).natAbs < 10 ^ 49 := by
 have h := sealN_bd g.2.2
 have h2 : (1001 : Int) ^ ns.length <= 1001 ^ 16 := by
   have := Nat.pow_le_pow_right (n := 1001) (by decide) g.2.1
   exact_mod_cast this
 have h3 : (1001 : Int) ^ 16 < 10 ^ 49 := by decide +kernel
 have h4 : sealN ns < (10 ^ 49 : Int) := by omega
 have h5 : ((sealN ns).natAbs : Int) = sealN ns := Int.natAbs_of_nonneg h.1
 exact_mod_cast (show ((sealN ns).natAbs : Int) < ((10 ^ 49 : Nat) : Int) by rw [h5]; simpa using h4)
theorem is_room_ok {n : Int} {P : Bool -> Prop} (g : 1 <= n /\ n <= 400) (h : P true) : p_is_room n P := by
 unfold p_is_room
 refine jn_ok (λ c => c = true) (λ k1 hk1 => is_whole_ok ?_) λ c hc => by subst hc; exact h
 rw [if_pos rfl]
 exact hk1 _ (by simp [g.1, g.2])
theorem snew_ok {n : Int} {P : ST -> Prop} (g : 1 <= n /\ n <= 400) (h : P (encS n [])) : p_Shelf___init__ n P := by
 unfold p_Shelf___init__
 refine is_room_ok g ?_
 rw [if_neg (by decide)]
 exact h
theorem wl_inv {β : Type} {F : β -> (β -> Prop) -> (β -> Prop) -> Prop} {k : β -> Prop} {Inv : Nat -> β -> Prop} {Dn : β -> Prop} (hs : ∀ n s (kk kx : β -> Prop), Inv n s -> (∀ m s', n = m + 1 -> Inv m s' -> kk s') -> (∀ s', Dn s' -> kx s') -> F s kk kx) (hd : ∀ s, Dn s -> k s) : ∀ n s, Inv n s -> wlN F (n + 1) s k
 | 0, s, h => hs 0 s _ _ h (λ m s' e _ => nomatch e) hd
 | n + 1, s, h => hs (n + 1) s _ _ h (λ m s' e hi => by
     have e2 : n = m := Nat.succ.inj e
     subst e2
     exact wl_inv hs hd n s' hi) hd
theorem wlD_inv {β : Type} {F : β -> (β -> Prop) -> (β -> Prop) -> Prop} {k : β -> Prop} (Inv : Nat -> β -> Prop) (Dn : β -> Prop) {n : Nat} {s : β} (h : Inv n s) (hs : ∀ n s (kk kx : β -> Prop), Inv n s -> (∀ m s', n = m + 1 -> Inv m s' -> kk s') -> (∀ s', Dn s' -> kx s') -> F s kk kx) (hd : ∀ s, Dn s -> k s) : wlD F s k := ⟨n + 1, wl_inv hs hd n s h⟩
theorem back_pos {ns : List Int} {P : Option (List Int) -> Prop} (g : Sg ns) (h : P (some ns)) : p_l_back (sealN ns) P := by
 unfold p_l_back
 obtain ⟨g1, g2, g3⟩ := g
 refine wlD_inv (λ m s => ∃ i, i <= ns.length /\ m + i = 17 /\ s = (ns.take i, sealN (ns.drop i))) (λ s => s = (ns, 0)) (n := 17) ⟨0, Nat.zero_le _, rfl, by simp⟩ (λ m s kk kx ⟨i, hi, hm, es⟩ hk hx => ?_) λ s es => ?_
 · subst es
   by_cases z : i < ns.length
   · have e : ns.drop i = ns[i] :: ns.drop (i + 1) := List.drop_eq_getElem_cons z
     have dg := g3 ns[i] (List.getElem_mem z)
     have b1 := (sealN_bd (ns := ns.drop (i + 1)) λ x hx => g3 x (List.mem_of_mem_drop hx)).1
     have e1 : sealN (ns.drop i) = sealN (ns.drop (i + 1)) * 1001 + ns[i] + 1 := by rw [e]; rfl
     have lt : (ns.take i).length = i := by rw [List.length_take]; omega
     rw [if_pos (by simp only [Bool.and_eq_true, decide_eq_true_eq]; rw [lt]; omega)]
     refine ⟨by decide, by dsimp only; rw [lt]; omega, ⟨by decide, by decide⟩, ?_⟩
     match m, hm with
     | 0, hm => omega
     | m + 1, hm =>
       refine hk m _ rfl ⟨i + 1, z, by omega, ?_⟩
       have e2 : sealN (ns.drop i) % 1001 - 1 = ns[i] := by omega
       have e3 : sealN (ns.drop i) / 1001 = sealN (ns.drop (i + 1)) := by omega
       dsimp only
       rw [e2, e3, List.take_succ_eq_append_getElem z]
   · have e : i = ns.length := by omega
     subst e
     rw [List.take_length, List.drop_length]
     rw [if_neg (by simp [sealN])]
     exact hx _ rfl
 · subst es
   refine jn_ok (λ c => c = false) (λ kk hk => ?_) λ c hc => by subst hc; exact h
   have ne : ns ≠ [] := λ z => by rw [z] at g1; simp at g1
   rw [if_neg (by simp [ne])]
   refine hk _ ?_
   have n1 : ¬ (-1 : Int) ∈ ns := λ z => by have := g3 _ z; omega
   dsimp only
   rw [Bool.or_eq_false_iff]
   exact ⟨decide_eq_false (by omega), decide_eq_false n1⟩
theorem seal_rng {ns : List Int} (g : Sg ns) : 1 <= sealN ns /\ sealN ns <= 1017136682386200395472334329460382190380680136017001 := by
 have hb := sealN_bd g.2.2
 have h2 : (1001 : Int) ^ ns.length <= 1001 ^ 16 := by
   have := Nat.pow_le_pow_right (n := 1001) (by decide) g.2.1
   exact_mod_cast this
 have h3 : (1001 : Int) ^ 16 <= 1017136682386200395472334329460382190380680136017001 := by decide +kernel
 have hp : 1 <= sealN ns := by
   match ns, g with
   | [], g => exact absurd g.1 (by simp)
   | n :: r, g => exact sealN_pos g.2.2
 omega
theorem cutL_mem {α : Type} {xs : List α} {lo hi : Option Int} {x : α} (h : x ∈ cutL xs lo hi) : x ∈ xs := by
 unfold cutL at h
 exact List.mem_of_mem_drop (List.mem_of_mem_take h)
theorem cut16_len {α : Type} {xs : List α} : (cutL xs (some (-16)) none).length = min xs.length 16 := by
 unfold cutL
 rw [HT.sIx_none, List.length_take, List.length_drop]
 have : HT.sIx xs.length 0 (some (-16)) = xs.length - 16 := by
   unfold HT.sIx
   simp
   omega
 rw [this]
 omega
theorem pool_ok {P : List (List Int) -> Prop} (h : ∀ ps, 2 <= ps.length -> ps.length <= 6 -> (∀ p ∈ ps, Sg p) -> P ps) : p_l_pool P := by
 unfold p_l_pool
 refine lsigns_ok λ x1 g1 => tk (by decide) λ n a b => ⟨⟨by omega, by omega⟩, ?_⟩
 refine forD_inv (n := 0) (λ i (s : List (List Int)) => s.length = 1 + i /\ i <= 5 /\ ∀ p ∈ s, Sg p) ⟨rfl, by omega, λ p hp => by rcases List.mem_singleton.mp hp with rfl; exact g1⟩ (λ i t s kk hx ⟨l, _, gs⟩ hk => ?_) λ s ⟨l, _, gs⟩ => h s (by rw [rng_len] at l; omega) (by rw [rng_len] at l; omega) gs
 have hi : i < (rng (1 + n)).length := by
   rcases Nat.lt_or_ge i (rng (1 + n)).length with z | z
   · exact z
   · rw [List.getElem?_eq_none z] at hx; cases hx
 rw [rng_len] at hi
 refine tk ⟨by omega, by omega⟩ λ v v0 v1 => ?_
 obtain ⟨x, hxm, e⟩ := atI_ex (xs := s) v0 v1
 have gx := gs x hxm
 refine ⟨x, e, tk (by decide) λ y y0 y1 => tk ⟨by have := gx.1; omega, by have := gx.2.1; omega⟩ λ z z0 z1 => ?_⟩
 obtain ⟨m, hm⟩ := ixN_ex (n := x.length) z0 z1
 refine ⟨m, hm, tk (by decide) λ w w0 w1 => ?_⟩
 have gsx : Sg (x.set m y) := set_Sg gx ⟨y0, by omega⟩
 have one : Sg [w] := ⟨by simp, by simp, λ q hq => by rcases List.mem_singleton.mp hq with rfl; omega⟩
 refine jn_ok Sg (λ kk hkk => ?_) λ r gr => ⟨by have := gsx.2.1; simp only [List.length_cons, List.length_nil]; omega, lsigns_ok λ t gt => tk (by decide) λ u u0 u1 => ?_⟩
 · rw [cut_lo (by decide)]
   split
   · rename_i hne
     refine hkk _ ⟨?_, ?_, λ q hq => gsx.2.2 q (List.mem_of_mem_drop hq)⟩
     · cases q : (x.set m y).drop (1 : Int).toNat with
       | nil => rw [q] at hne; cases hne
       | cons a r => simp
     · rw [List.length_drop]; have := gsx.2.1; omega
   · exact hkk _ one
 · have g4 : Sg (cutL (cat (x.set m y) [w]) (some (-16)) none) := by
     refine ⟨?_, ?_, λ q hq => ?_⟩
     · rw [cut16_len, List.length_append]
       simp only [List.length_cons, List.length_nil]
       omega
     · rw [cut16_len]; omega
     · have := cutL_mem hq
       rcases List.mem_append.mp this with q1 | q1
       · exact gsx.2.2 q q1
       · exact one.2.2 q q1
   obtain ⟨c, hc, ec⟩ := atI_ex (xs := ([(x.set m y), r, (cutL (cat (x.set m y) [w]) (some (-16)) none), t] : List (List Int))) u0 u1
   have gc : Sg c := by
     simp only [List.mem_cons, List.not_mem_nil, or_false] at hc
     rcases hc with rfl | rfl | rfl | rfl
     · exact gsx
     · exact gr
     · exact g4
     · exact gt
   refine ⟨c, ec, by omega, hk _ ⟨by rw [List.length_append, l]; rfl, by omega, λ p hp => ?_⟩⟩
   rcases List.mem_append.mp hp with q | q
   · exact gs p q
   · rcases List.mem_singleton.mp q with rfl
     exact gc
theorem GP.nil {room : Int} (h : 1 <= room /\ room <= 400) : GP room [] := ⟨h, List.nodup_nil, (by simp; omega), (λ _ h => nomatch h), (λ _ h => nomatch h), (λ _ h => nomatch h)⟩
theorem ix_lt {α : Type} {xs : List α} {i : Nat} {x : α} (h : xs[i]? = some x) : i < xs.length := by
 rcases Nat.lt_or_ge i xs.length with z | z
 · exact z
 · rw [List.getElem?_eq_none z] at h; cases h
def enM (s : Sh) : List (Int × (Int × Option (List Int))) := tr (λ p : Pc => (p.ct, p.bd)) s
theorem lk_enM {s : Sh} {k : Int} : lk (enM s) k = (lk s k).map λ p => (p.ct, p.bd) := lk_tr _ _ _
theorem pk_enM {s : Sh} {k c : Int} {b : Option (List Int)} : pk (enM s) k (c, b) = enM (pk s k ⟨c, b⟩) := pk_tr (λ p : Pc => (p.ct, p.bd)) s k ⟨c, b⟩
theorem dk_enM {s : Sh} {k : Int} : dk (enM s) k = enM (dk s k) := dk_tr _ _ _
theorem len_enM (s : Sh) : (enM s).length = s.length := len_tr _ _
abbrev rT (d : PyData) : PyData := (eP eS eA) (("told" : Str), d)
def Cb (b : Int) (s : Sh) : Prop := ∀ q ∈ s, q.2.ct <= b
theorem Cb.put {b : Int} {s : Sh} {k : Int} {p : Pc} (h : Cb b s) (hp : p.ct <= b + 1) : Cb (b + 1) (pk s k p) := λ q hq => by
 rcases mem_pk hq with rfl | ⟨x, _⟩ | x
 · exact hp
 · have := h q x; omega
 · have := h q x; omega
theorem Cb.up {b c : Int} {s : Sh} (h : Cb b s) (l : b <= c) : Cb c s := λ q hq => Int.le_trans (h q hq) l
theorem shn_i {n : Int} (h : n.natAbs < 10 ^ 49) : Shn 0 50 (eI n) := Shn.int 49 (by decide) (by decide) h
theorem shn_p {w : Str} {d : PyData} (hw : wdb w = true) (h : Shn 2 1300 d) : Shn 3 1600 ((eP eS eA) (w, d)) :=
 (Shn.tup (ShnA.cons ((Shn.wd hw).up (by decide : (0 : Nat) <= 2) (Nat.le_refl _)) (ShnA.cons h (ShnA.nil.up (by decide) (Nat.le_refl _))))).up (by decide) (by decide)
theorem shn_ns {ns : List Int} (h : ns.length <= 17) (hs : ∀ n ∈ ns, n.natAbs < 10 ^ 49) : Shn 1 1000 (eL eI ns) := (Shn.listE (e := eI) (λ n hn => shn_i (hs n hn)) h).up (by decide) (by decide)
theorem sound_a {room : Int} {s : Sh} {k : Int} {p : Pc} {P : Bool -> Prop} (g : GP room s) (q : lk s k = some p) (h : P (wholeP k p)) : p_l_sound (enM s) k P := by
 unfold p_l_sound
 refine ⟨(p.ct, p.bd), by rw [lk_enM, q]; rfl, ?_⟩
 refine jn_ok (λ c => c = wholeP k p) (λ k1 hk1 => ?_) λ c hc => by subst hc; exact h
 unfold wholeP at hk1
 cases e : p.bd with
 | none =>
   rw [e] at hk1
   exact hk1 _ rfl
 | some b =>
   rw [e] at hk1
   rw [if_pos (by rfl)]
   have gb := g.bd _ (lk_mem q) b e
   refine jn_ok (λ c => c = (!decide (b = []) && decide (sealN b = k))) (λ k2 hk2 => ⟨b, rfl, ?_⟩) λ c hc => hk1 _ hc
   by_cases z : b = []
   · rw [if_neg (by simp [z])]
     exact hk2 _ (by simp [z])
   · rw [if_pos (by simp [z])]
     exact lsum_ok gb.2 (hk2 _ (by simp [z]))
theorem some_enM {s : Sh} {k : Int} {p : Pc} (q : lk s k = some p) : lk (enM s) k = some (p.ct, p.bd) := by rw [lk_enM, q]; rfl
def rowR (s : Sh) (k : Int) : PyData := match lk s k with
 | some p => (eL eA) [rT (eI p.ct), rT (eB (wholeP k p)), if wholeP k p = true then rT (match p.bd with | some b => eL eI b | none => eN ()) else (eP eS eI) (("broken" : Str), k)]
 | none => eN ()
def headR (room : Int) (s : Sh) : List PyData := [(eL eI) (srt (ks s)), (eL eI) (brokenM s), eI (room - s.length), eI s.length]
def stateR (room : Int) (s : Sh) : List PyData := headR room s ++ (srt (ks s)).map (rowR s)
theorem row_out {room : Int} {s : Sh} {k : Int} (g : GP room s) (hk : k ∈ ks s) : ∃ ns p, Sg ns /\ k = sealN ns /\ lk s k = some p /\ rowR s k = (eL eA) [rT (eI p.ct), rT (eB (wholeP k p)), if wholeP k p = true then rT (eL eI ns) else (eP eS eI) (("broken" : Str), k)] := by
 obtain ⟨p, hp⟩ := lk_some hk
 obtain ⟨ns, sg, e⟩ := g.sl _ (lk_mem hp)
 refine ⟨ns, p, sg, e, hp, ?_⟩
 unfold rowR
 rw [hp]
 dsimp only
 cases c : wholeP k p with
 | false => rfl
 | true =>
   dsimp only at e
   rw [whole_bd sg e (g.bd _ (lk_mem hp)) c]
theorem rows_go {α : Type} {s : Sh} {t : α} {f : Int -> List PyData × α -> (List PyData × α -> Prop) -> Prop} : ∀ {xs : List Int} {l : List PyData} {k : List PyData × α -> Prop}, (∀ x ∈ xs, ∀ (l : List PyData) (kk : List PyData × α -> Prop), l.length <= 500 -> kk (l ++ [rowR s x], t) -> f x (l, t) kk) -> l.length + xs.length <= 500 -> k (l ++ xs.map (rowR s), t) -> forD f xs (l, t) k
 | [], l, k, _, _, h => by simpa [forD] using h
 | x :: xs, l, k, hs, hl, h => by
   refine hs x List.mem_cons_self l _ (by omega) ?_
   refine rows_go (λ y hy => hs y (List.mem_cons_of_mem _ hy)) (by simp only [List.length_append, List.length_cons, List.length_nil] at hl ⊢; omega) ?_
   simpa using h
theorem state_shn {room b : Int} {s : Sh} (g : GP room s) (hb : Cb b s) (b1 : b <= 1000) (l : s.length <= 10) : Shn 5 80000 ((eL eA) (stateR room s)) := by
 have hr := g.rm
 have hln := g.ln
 have key : ∀ k ∈ ks s, k.natAbs < 10 ^ 49 := λ k hk => by
   obtain ⟨p, hp⟩ := lk_some hk
   obtain ⟨ns, sg, e⟩ := g.sl _ (lk_mem hp)
   dsimp only at e
   rw [e]
   exact seal_big sg
 have h1 : ∀ x ∈ headR room s, Shn 4 5000 x := by
   intro x hx
   simp only [headR, List.mem_cons, List.not_mem_nil, or_false] at hx
   rcases hx with rfl | rfl | rfl | rfl
   · exact (shn_ns (by rw [srtI_len, ks_len]; omega) λ n hn => key n (srtI_mem.mp hn)).up (by decide) (by decide)
   · refine (shn_ns (Nat.le_trans (List.length_filter_le _ _) (by rw [srtI_len, ks_len]; omega)) λ n hn => key n (srtI_mem.mp (List.mem_filter.mp hn).1)).up (by decide) (by decide)
   · exact (shn_i (Nat.lt_of_lt_of_le (show (room - (s.length : Int)).natAbs < 10 ^ 4 by omega) (by decide +kernel))).up (by decide) (by decide)
   · exact (shn_i (Nat.lt_of_lt_of_le (show ((s.length : Int)).natAbs < 10 ^ 4 by omega) (by decide +kernel))).up (by decide) (by decide)
 have h2 : ∀ k ∈ ks s, Shn 4 5000 (rowR s k) := λ k hk => by
   obtain ⟨ns, p, sg, e, hp, er⟩ := row_out g hk
   rw [er]
   have hc := hb _ (lk_mem hp)
   have hc1 := g.ct _ (lk_mem hp)
   dsimp only at hc hc1
   have z : ∀ x ∈ [rT (eI p.ct), rT (eB (wholeP k p)), if wholeP k p = true then rT (eL eI ns) else (eP eS eI) (("broken" : Str), k)], Shn 3 1600 x := λ x hx => by
     simp only [List.mem_cons, List.not_mem_nil, or_false] at hx
     rcases hx with rfl | rfl | rfl
     · exact shn_p (by decide +kernel) ((shn_i (Nat.lt_of_lt_of_le (show p.ct.natAbs < 10 ^ 4 by omega) (by decide +kernel))).up (by decide) (by decide))
     · exact shn_p (by decide +kernel) ((Shn.bl _).up (by decide) (by decide))
     · split
       · refine shn_p (by decide +kernel) ((shn_ns (by have := sg.2.1; omega) λ n hn => ?_).up (by decide) (by decide))
         have := sg.2.2 n hn
         exact Nat.lt_of_lt_of_le (show n.natAbs < 10 ^ 4 by omega) (by decide +kernel)
       · exact shn_p (by decide +kernel) ((shn_i (key k hk)).up (by decide) (by decide))
   have := Shn.list (ShnA.all z)
   have e2 : (eL eA) [rT (eI p.ct), rT (eB (wholeP k p)), if wholeP k p = true then rT (eL eI ns) else (eP eS eI) (("broken" : Str), k)] = PyData.list [rT (eI p.ct), rT (eB (wholeP k p)), if wholeP k p = true then rT (eL eI ns) else (eP eS eI) (("broken" : Str), k)] := by unfold eL; rw [map_eA]
   rw [e2]
   exact this.up (by decide) (by simp)
 have h3 : ∀ x ∈ stateR room s, Shn 4 5000 x := λ x hx => by
   rcases List.mem_append.mp hx with hx | hx
   · exact h1 x hx
   · obtain ⟨k, hk, rfl⟩ := List.mem_map.mp hx
     exact h2 k (srtI_mem.mp hk)
 have := Shn.listE (e := eA) (n := 14) h3 (by unfold stateR headR; rw [List.length_append, List.length_map, srtI_len, ks_len]; simp only [List.length_cons, List.length_nil]; omega)
 exact this.up (by decide) (by decide)
section
variable {room : Int} {s s' : Sh} {ns bs : List Int} {w : Int} {r : PyData}
inductive O27 (room : Int) (s : Sh) (ns bs : List Int) : Int -> PyData -> Sh -> Prop
 | lay1 : lk s (sealN bs) = none -> (s.length : Int) = room -> O27 room s ns bs 0 ((eP eS eI) (("room" : Str), room)) s
 | lay2 : ((lk s (sealN bs)).isSome = true \/ (s.length : Int) < room) -> O27 room s ns bs 0 (rT (eI (sealN bs))) (layM s bs)
 | np {w : Int} : 1 <= w -> w <= 8 -> lk s (sealN ns) = none -> O27 room s ns bs w ((eP eS eI) (("piece" : Str), sealN ns)) s
 | hold {p : Pc} : lk s (sealN ns) = some p -> O27 room s ns bs 1 (rT (eN ())) (pk s (sealN ns) ⟨p.ct + 1, p.bd⟩)
 | go1 {p : Pc} : lk s (sealN ns) = some p -> 1 < p.ct -> O27 room s ns bs 2 (rT (eB false)) (pk s (sealN ns) ⟨p.ct - 1, p.bd⟩)
 | go2 {p : Pc} : lk s (sealN ns) = some p -> ¬ 1 < p.ct -> O27 room s ns bs 2 (rT (eB true)) (dk s (sealN ns))
 | harm {p : Pc} : lk s (sealN ns) = some p -> O27 room s ns bs 3 (rT (eN ())) (pk s (sealN ns) ⟨p.ct, some bs⟩)
 | lose {p : Pc} : lk s (sealN ns) = some p -> O27 room s ns bs 4 (rT (eN ())) (pk s (sealN ns) ⟨p.ct, none⟩)
 | unlike {p : Pc} : lk s (sealN ns) = some p -> bs ≠ ns -> O27 room s ns bs 5 ((eP eS eI) (("unlike" : Str), sealN ns)) s
 | heal {p : Pc} : lk s (sealN ns) = some p -> bs = ns -> O27 room s ns bs 5 (rT (eN ())) (pk s (sealN ns) ⟨p.ct, some ns⟩)
 | held {p : Pc} : lk s (sealN ns) = some p -> O27 room s ns bs 6 (rT (eI p.ct)) s
 | snd {p : Pc} : lk s (sealN ns) = some p -> O27 room s ns bs 7 (rT (eB (wholeP (sealN ns) p))) s
 | rd1 {p : Pc} : lk s (sealN ns) = some p -> wholeP (sealN ns) p = true -> O27 room s ns bs 8 (rT (eL eI ns)) s
 | rd0 {p : Pc} : lk s (sealN ns) = some p -> wholeP (sealN ns) p = false -> O27 room s ns bs 8 ((eP eS eI) (("broken" : Str), sealN ns)) s
structure In27 (w : Int) (ns bs : List Int) : Prop where
 sg : Sg ns
 bd : Bd bs
 s0 : w = 0 \/ w = 5 -> Sg bs
 lo : 0 <= w
 hi : w <= 8
theorem In27.nil (sg : Sg ns) (h : 6 <= w /\ w <= 8) : In27 w ns [] := ⟨sg, ⟨by decide, λ n hn => absurd hn (by simp)⟩, λ z => by omega, by omega, h.2⟩
theorem o27_ex (g : GP room s) (i : In27 w ns bs) : ∃ r s', O27 room s ns bs w r s' := by
 have h0 := i.lo
 have h8 := i.hi
 by_cases z : w = 0
 · subst z
   cases y : lk s (sealN bs) with
   | some p => exact ⟨_, _, .lay2 (.inl (by rw [y]; rfl))⟩
   | none =>
     have := g.ln
     by_cases l : (s.length : Int) = room
     · exact ⟨_, _, .lay1 y l⟩
     · exact ⟨_, _, .lay2 (.inr (by omega))⟩
 · cases q : lk s (sealN ns) with
   | none => exact ⟨_, _, .np (by omega) h8 q⟩
   | some p =>
     have hw : w = 1 \/ w = 2 \/ w = 3 \/ w = 4 \/ w = 5 \/ w = 6 \/ w = 7 \/ w = 8 := by omega
     rcases hw with rfl | rfl | rfl | rfl | rfl | rfl | rfl | rfl
     · exact ⟨_, _, .hold q⟩
     · by_cases c : 1 < p.ct
       · exact ⟨_, _, .go1 q c⟩
       · exact ⟨_, _, .go2 q c⟩
     · exact ⟨_, _, .harm q⟩
     · exact ⟨_, _, .lose q⟩
     · by_cases c : bs = ns
       · exact ⟨_, _, .heal q c⟩
       · exact ⟨_, _, .unlike q c⟩
     · exact ⟨_, _, .held q⟩
     · exact ⟨_, _, .snd q⟩
     · cases c : wholeP (sealN ns) p with
       | true => exact ⟨_, _, .rd1 q c⟩
       | false => exact ⟨_, _, .rd0 q c⟩
def InP (S : List Int) (s : Sh) : Prop := ∀ k ∈ ks s, k ∈ S
theorem InP.put {S : List Int} {k : Int} {p : Pc} (h : InP S s) (hk : k ∈ S) : InP S (pk s k p) := λ j hj => by
 obtain ⟨q, hq, rfl⟩ := List.mem_map.mp hj
 rcases mem_pk hq with rfl | ⟨x, _⟩ | x
 · exact hk
 · exact h _ (List.mem_map.mpr ⟨_, x, rfl⟩)
 · exact h _ (List.mem_map.mpr ⟨_, x, rfl⟩)
theorem o27_good {b : Int} {S : List Int} (g : GP room s) (hb : Cb b s) (b0 : 0 <= b) (b1 : b <= 1000) (i : In27 w ns bs) (hS : InP S s) (h1 : sealN ns ∈ S) (h2 : w = 0 -> sealN bs ∈ S) (o : O27 room s ns bs w r s') : GP room s' /\ Cb (b + 1) s' /\ InP S s' /\ Shn 3 1600 r := by
 have bnd : ∀ {n : Int}, n.natAbs < 10 ^ 49 -> Shn 2 1300 (eI n) := λ h => (shn_i h).up (by decide) (by decide)
 have bsm : ∀ {n : Int}, n.natAbs < 10 ^ 4 -> Shn 2 1300 (eI n) := λ h => bnd (Nat.lt_of_lt_of_le h (by decide +kernel))
 have up : Cb (b + 1) s := hb.up (by omega)
 have non : Shn 2 1300 (eN ()) := Shn.non.up (by decide) (by decide)
 have bl : ∀ c, Shn 2 1300 (eB c) := λ c => (Shn.bl c).up (by decide) (by decide)
 have hr := g.rm
 have sg := i.sg
 cases o with
 | lay1 => exact ⟨g, up, hS, shn_p (by decide +kernel) (bsm (by omega))⟩
 | lay2 h =>
   have sb := i.s0 (.inl rfl)
   refine ⟨lay_good g sb h, ?_, hS.put (h2 rfl), shn_p (by decide +kernel) (bnd (seal_big sb))⟩
   refine hb.put ?_
   show (match lk s (sealN bs) with | some p => p.ct | none => 0) + 1 <= b + 1
   cases q : lk s (sealN bs) with
   | none => simp only; omega
   | some p =>
     have := hb _ (lk_mem q)
     simp only at this ⊢
     omega
 | np => exact ⟨g, up, hS, shn_p (by decide +kernel) (bnd (seal_big sg))⟩
 | hold q =>
   have h1' := g.ct _ (lk_mem q)
   have h2' := hb _ (lk_mem q)
   exact ⟨g.put ⟨_, sg, rfl⟩ (by show 1 <= _ + 1; dsimp only at h1'; omega) (g.bd _ (lk_mem q)) (.inl (by rw [q]; rfl)), hb.put (by dsimp only at h2' ⊢; omega), hS.put h1, shn_p (by decide +kernel) non⟩
 | go1 q c =>
   have h2' := hb _ (lk_mem q)
   exact ⟨g.put ⟨_, sg, rfl⟩ (by show 1 <= _ - 1; omega) (g.bd _ (lk_mem q)) (.inl (by rw [q]; rfl)), hb.put (by dsimp only at h2' ⊢; omega), hS.put h1, shn_p (by decide +kernel) (bl _)⟩
 | go2 q c => exact ⟨g.drop _, λ q hq => up q (mem_dk hq).1, λ k hk => hS k (by
     obtain ⟨q, hq, rfl⟩ := List.mem_map.mp hk
     exact List.mem_map.mpr ⟨q, (mem_dk hq).1, rfl⟩), shn_p (by decide +kernel) (bl _)⟩
 | harm q =>
   have h1' := g.ct _ (lk_mem q)
   have h2' := hb _ (lk_mem q)
   exact ⟨g.put ⟨_, sg, rfl⟩ h1' (λ x hx => by cases hx; exact i.bd) (.inl (by rw [q]; rfl)), hb.put (by dsimp only at h2' ⊢; omega), hS.put h1, shn_p (by decide +kernel) non⟩
 | lose q =>
   have h1' := g.ct _ (lk_mem q)
   have h2' := hb _ (lk_mem q)
   exact ⟨g.put ⟨_, sg, rfl⟩ h1' (λ x hx => by cases hx) (.inl (by rw [q]; rfl)), hb.put (by dsimp only at h2' ⊢; omega), hS.put h1, shn_p (by decide +kernel) non⟩
 | unlike => exact ⟨g, up, hS, shn_p (by decide +kernel) (bnd (seal_big sg))⟩
 | heal q =>
   have h1' := g.ct _ (lk_mem q)
   have h2' := hb _ (lk_mem q)
   exact ⟨g.put ⟨_, sg, rfl⟩ h1' (λ x hx => by cases hx; exact sg.bd) (.inl (by rw [q]; rfl)), hb.put (by dsimp only at h2' ⊢; omega), hS.put h1, shn_p (by decide +kernel) non⟩
 | held q =>
   have h1' := g.ct _ (lk_mem q)
   have h2' := hb _ (lk_mem q)
   dsimp only at h1' h2'
   exact ⟨g, up, hS, shn_p (by decide +kernel) (bsm (by omega))⟩
 | snd => exact ⟨g, up, hS, shn_p (by decide +kernel) (bl _)⟩
 | rd1 =>
   refine ⟨g, up, hS, shn_p (by decide +kernel) ((shn_ns (by have := sg.2.1; omega) λ n hn => ?_).up (by decide) (by decide))⟩
   have := sg.2.2 n hn
   exact Nat.lt_of_lt_of_le (show n.natAbs < 10 ^ 4 by omega) (by decide +kernel)
 | rd0 => exact ⟨g, up, hS, shn_p (by decide +kernel) (bnd (seal_big sg))⟩
theorem said_x {S : ST} {w z : Int} {e : List Int} {P : PyData -> ST -> Prop} (h : p_l_deed S w z e (λ x21 m19 => p_l_refusal x21 λ x29 => P x29 m19) λ x14 m15 => P ((eP eS eA) (("told" : Str), x14)) m15) : p_l_said S w z e P := by
 unfold p_l_said jn
 exact h
section
variable {S : ST} {z : Int} {e : List Int} {X : Ex -> ST -> Prop} {P : PyData -> ST -> Prop}
theorem dd0 (h : p_Shelf_lay S e (λ x m => X x m) λ x m => P (eI x) m) : p_l_deed S 0 z e X P := by unfold p_l_deed; exact h
theorem dd1 (h : p_Shelf_hold S z (λ x m => X x m) λ m => P (eN ()) m) : p_l_deed S 1 z e X P := by unfold p_l_deed; exact h
theorem dd2 (h : p_Shelf_let_go S z (λ x m => X x m) λ x m => P (eB x) m) : p_l_deed S 2 z e X P := by unfold p_l_deed; exact h
theorem dd3 (h : p_Shelf_harm S z e (λ x m => X x m) λ m => P (eN ()) m) : p_l_deed S 3 z e X P := by unfold p_l_deed; exact h
theorem dd4 (h : p_Shelf_lose S z (λ x m => X x m) λ m => P (eN ()) m) : p_l_deed S 4 z e X P := by unfold p_l_deed; exact h
theorem dd5 (h : p_Shelf_heal S z e (λ x m => X x m) λ m => P (eN ()) m) : p_l_deed S 5 z e X P := by unfold p_l_deed; exact h
theorem dd6 (h : p_Shelf_held S z (λ x => X x S) λ x => P (eI x) S) : p_l_deed S 6 z e X P := by unfold p_l_deed; exact h
theorem dd7 (h : p_Shelf_is_sound S z (λ x => X x S) λ x => P (eB x) S) : p_l_deed S 7 z e X P := by unfold p_l_deed; exact h
theorem dd8 (h : p_Shelf_read S z (λ x => X x S) λ x => P (eL eI x) S) : p_l_deed S 8 z e X P := by unfold p_l_deed; exact h
end
theorem deed_piece {X : Ex -> ST -> Prop} {P : PyData -> ST -> Prop} (g : GP room s) (i : In27 w ns bs) (h1 : 1 <= w) (q : lk s (sealN ns) = none) (h : X (.NoPiece (eI (sealN ns))) (encS room s)) : p_l_deed (encS room s) w (sealN ns) bs X P := by
 have h8 := i.hi
 have sg := i.sg
 have no : ∀ {R : Prop} {p : Pc}, lk s (sealN ns) = some p -> R := λ hp => by rw [q] at hp; cases hp
 have hw : w = 1 \/ w = 2 \/ w = 3 \/ w = 4 \/ w = 5 \/ w = 6 \/ w = 7 \/ w = 8 := by omega
 rcases hw with rfl | rfl | rfl | rfl | rfl | rfl | rfl | rfl
 · exact dd1 (hold_ok g sg (λ _ => h) λ p hp => no hp)
 · exact dd2 (let_go_ok g sg (λ _ => h) λ p hp => no hp)
 · exact dd3 (harm_ok g sg i.bd (λ _ => h) λ p hp => no hp)
 · exact dd4 (lose_ok g sg (λ _ => h) λ p hp => no hp)
 · exact dd5 (heal_ok g sg (i.s0 (.inr rfl)) (λ _ => h) (λ p hp _ => no hp) λ p hp _ => no hp)
 · exact dd6 (held_ok sg (λ _ => h) λ p hp => no hp)
 · exact dd7 (is_sound_ok g sg (λ _ => h) λ p hp => no hp)
 · exact dd8 (read_ok g sg (λ _ => h) (λ p hp _ => no hp) λ p hp _ => no hp)
theorem said27 {P : PyData -> ST -> Prop} (g : GP room s) (i : In27 w ns bs) (o : O27 room s ns bs w r s') (h : P r (encS room s')) : p_l_said (encS room s) w (sealN ns) bs P := by
 refine said_x ?_
 have sg := i.sg
 cases o with
 | lay1 q l => exact dd0 (slay_ok g (i.s0 (.inl rfl)) (λ _ _ => ⟨by decide, h⟩) λ z => by
     rw [q] at z
     rcases z with z | z
     · cases z
     · omega)
 | lay2 z => exact dd0 (slay_ok g (i.s0 (.inl rfl)) (λ a b => by
     rcases z with z | z
     · rw [a] at z; cases z
     · omega) λ _ => h)
 | np h1 h8 q => exact deed_piece g i h1 q ⟨by decide, ("piece" : Str), rfl, h⟩
 | hold q => exact dd1 (hold_ok g sg (λ z => by rw [q] at z; cases z) λ p hp => by rw [q] at hp; cases hp; exact h)
 | go1 q c => exact dd2 (let_go_ok g sg (λ z => by rw [q] at z; cases z) λ p hp => by rw [q] at hp; cases hp; rw [if_pos c]; exact h)
 | go2 q c => exact dd2 (let_go_ok g sg (λ z => by rw [q] at z; cases z) λ p hp => by rw [q] at hp; cases hp; rw [if_neg c]; exact h)
 | harm q => exact dd3 (harm_ok g sg i.bd (λ z => by rw [q] at z; cases z) λ p hp => by rw [q] at hp; cases hp; exact h)
 | lose q => exact dd4 (lose_ok g sg (λ z => by rw [q] at z; cases z) λ p hp => by rw [q] at hp; cases hp; exact h)
 | unlike q c => exact dd5 (heal_ok g sg (i.s0 (.inr rfl)) (λ z => by rw [q] at z; cases z) (λ p hp _ => ⟨by decide, ("unlike" : Str), rfl, h⟩) λ p hp z => absurd z c)
 | heal q c => exact dd5 (heal_ok g sg (i.s0 (.inr rfl)) (λ z => by rw [q] at z; cases z) (λ p hp z => absurd c z) λ p hp _ => by rw [q] at hp; cases hp; exact h)
 | held q => exact dd6 (held_ok sg (λ z => by rw [q] at z; cases z) λ p hp => by rw [q] at hp; cases hp; exact h)
 | snd q => exact dd7 (is_sound_ok g sg (λ z => by rw [q] at z; cases z) λ p hp => by rw [q] at hp; cases hp; exact h)
 | rd1 q c => exact dd8 (read_ok g sg (λ z => by rw [q] at z; cases z) (λ p hp z => by rw [q] at hp; cases hp; rw [c] at z; cases z) λ p hp _ => h)
 | rd0 q c => exact dd8 (read_ok g sg (λ z => by rw [q] at z; cases z) (λ p hp z => ⟨by decide, ("broken" : Str), rfl, h⟩) λ p hp z => by rw [q] at hp; cases hp; rw [c] at z; cases z)
theorem said27o {p : Pc} {P : OD -> ST -> Prop} (g : GP room s) (sg : Sg ns) (hp : lk s (sealN ns) = some p) (h1 : wholeP (sealN ns) p = true -> P (.ot [.fz (eS ("told" : Str)), .ol (OD.fzs eI ns)]) (encS room s)) (h0 : wholeP (sealN ns) p = false -> P (.fz ((eP eS eI) (("broken" : Str), sealN ns))) (encS room s)) : p_l_said_o (encS room s) 8 (sealN ns) bs P := by
 unfold p_l_said_o jn p_l_deed_o
 show p_Shelf_read _ _ _ _
 exact read_ok g sg (λ z => by rw [hp] at z; cases z) (λ p' hp' z => ⟨by decide, ("broken" : Str), rfl, h0 (by rw [hp] at hp'; cases hp'; exact z)⟩) λ p' hp' z => by rw [hp] at hp'; cases hp'; exact h1 z
end
section
variable {room : Int} {s s' : Sh} {ns bs : List Int} {w : Int} {r : PyData}
theorem lsigns27 {lo hi : Int} {P : Bool -> Prop} (h1 : lo <= bs.length) (h2 : (bs.length : Int) <= hi) (h16 : bs.length <= 16) (g : ∀ n ∈ bs, 0 <= n /\ n <= 999) (h : P true) : p_l_are_signs bs lo hi P := by
 unfold p_l_are_signs
 rw [if_neg (by simp [h1, h2])]
 refine ⟨by omega, lcD_filter (λ _ => false) (λ x hx kk hk => ?_) ?_⟩
 · unfold p_l_whole
   have := g x hx
   have e : (true && (!false && (decide (0 <= x) && decide (x <= 999)))) = true := by simp [this.1, this.2]
   rw [e]
   exact hk
 · have e : bs.filter (λ _ => false) = [] := List.filter_eq_nil_iff.mpr λ _ _ => by simp
   rw [e]
   exact h
theorem lis_seal27 {P : Bool -> Prop} (sg : Sg ns) (h : P true) : p_l_is_seal (sealN ns) P := by
 unfold p_l_is_seal
 refine jn_ok (λ c => c = true) (λ kk hk => ?_) λ c hc => by subst hc; exact h
 have hr := seal_rng sg
 unfold p_l_whole
 have e : (true && (!false && (decide (1 <= sealN ns) && decide (sealN ns <= 1017136682386200395472334329460382190380680136017001)))) = true := by simp [hr.1, hr.2]
 rw [e]
 show if true = true then _ else _
 rw [if_pos rfl]
 exact back_pos sg (hk _ rfl)
theorem due_c27 (i : In27 w ns bs) (kk : Bool -> Prop) (h : kk false) : if (decide (w ∈ ([3, 5] : List Int))) = true then (((0 : Int) < 5 /\ 5 < (2 ^ 64 : Int)) /\ p_l_are_signs bs (w / 5) 16 λ x29 => kk (!x29)) else kk false := by
 by_cases z : w = 3 \/ w = 5
 · rw [if_pos (by simpa using z)]
   refine ⟨by decide, lsigns27 ?_ (by have := i.bd.1; omega) i.bd.1 i.bd.2 h⟩
   rcases z with rfl | rfl
   · omega
   · have := (i.s0 (.inr rfl)).1
     omega
 · rw [if_neg (by simpa using z)]
   exact h
theorem due27 {P : PyData -> List (Int × (Int × Option (List Int))) -> Prop} (g : GP room s) (i : In27 w ns bs) (o : O27 room s ns bs w r s') (h : P r (enM s')) : p_l_due (enM s) room w (sealN ns) bs P := by
 have hr := g.rm
 have hln := g.ln
 have lm := len_enM s
 have sg := i.sg
 unfold p_l_due
 by_cases w0 : w = 0
 · subst w0
   have sb := i.s0 (.inl rfl)
   refine (if_pos (by decide)).mpr ?_
   unfold p_l_laid
   refine lsigns27 (by have := sb.1; omega) (by have := sb.2.1; omega) sb.2.1 sb.2.2 ?_
   refine (if_neg (by decide)).mpr (lsum_ok sb.2.2 ?_)
   cases o with
   | lay1 q l =>
     rw [if_pos (by rw [lk_enM, q, lm]; simp; omega)]
     exact h
   | lay2 z =>
     cases q : lk s (sealN bs) with
     | none =>
       have l2 : (s.length : Int) < room := by
         rcases z with z | z
         · rw [q] at z; cases z
         · exact z
       rw [if_neg (by rw [lk_enM, q, lm]; simp; omega)]
       refine jn_ok (λ t => t = pk (enM s) (sealN bs) (0, none)) (λ kk hk => ?_) λ t ht => ?_
       · rw [if_pos (by rw [lk_enM, q]; rfl)]
         exact ⟨by rw [lm]; omega, hk _ rfl⟩
       · subst ht
         have ls := len_enM (pk s (sealN bs) ⟨0, none⟩)
         have lp := congrArg List.length (pk_keys (m := s) (n := sealN bs) (x := (⟨0, none⟩ : Pc)))
         rw [q, if_neg (by simp), ks_len, List.length_append, ks_len] at lp
         refine ⟨(0, none), by rw [lk_pk, if_pos rfl], by rw [pk_enM, ls, lp]; simp only [List.length_cons, List.length_nil]; omega, ?_⟩
         have e2 : pk (pk (enM s) (sealN bs) (0, none)) (sealN bs) (0 + 1, some bs) = enM (layM s bs) := by
           rw [pk_pk, pk_enM]
           unfold layM
           rw [q]
         exact e2 ▸ h
     | some p =>
       rw [if_neg (by rw [lk_enM, q]; simp)]
       refine jn_ok (λ t => t = enM s) (λ kk hk => ?_) λ t ht => ?_
       · rw [if_neg (by rw [lk_enM, q]; simp)]
         exact hk _ rfl
       · subst ht
         refine ⟨(p.ct, p.bd), some_enM q, by rw [lm]; omega, ?_⟩
         have e2 : pk (enM s) (sealN bs) (p.ct + 1, some bs) = enM (layM s bs) := by
           rw [pk_enM]
           unfold layM
           rw [q]
         exact e2 ▸ h
   | np h1 => omega
 · refine (if_neg (by simpa using w0)).mpr ?_
   refine lis_seal27 sg ((if_neg (by decide)).mpr ?_)
   refine jn_ok (λ c => c = false) (λ kk hk => due_c27 i kk (hk _ rfl)) λ c hc => ?_
   subst hc
   refine (if_neg (by decide)).mpr ?_
   cases o with
   | lay1 => exact absurd rfl w0
   | lay2 => exact absurd rfl w0
   | np h1 h8 q =>
     rw [if_pos (by rw [lk_enM, q]; rfl)]
     exact h
   | @hold p q =>
     have h1 := g.ct _ (lk_mem q)
     dsimp only at h1
     rw [if_neg (by rw [lk_enM, q]; simp), if_pos (by decide)]
     refine ⟨_, some_enM q, .inl (.inl ⟨by decide, by decide⟩), ?_⟩
     dsimp only
     rw [pk_enM]
     refine jn_ok (λ t => t = enM (pk s (sealN ns) ⟨p.ct + 1, p.bd⟩)) (λ kk hk => ?_) λ t ht => ?_
     · refine ⟨_, some_enM (by rw [lk_pk, if_pos rfl]), ?_⟩
       rw [if_neg (by simp; omega)]
       exact hk _ rfl
     · subst ht
       exact ⟨eN (), rfl, h⟩
   | @go1 p q c =>
     rw [if_neg (by rw [lk_enM, q]; simp), if_pos (by decide)]
     refine ⟨_, some_enM q, .inl (.inl ⟨by decide, by decide⟩), ?_⟩
     dsimp only
     rw [pk_enM]
     refine jn_ok (λ t => t = enM (pk s (sealN ns) ⟨p.ct - 1, p.bd⟩)) (λ kk hk => ?_) λ t ht => ?_
     · refine ⟨_, some_enM (by rw [lk_pk, if_pos rfl]), ?_⟩
       rw [if_neg (by simp; omega)]
       exact hk _ rfl
     · subst ht
       refine ⟨eB false, ?_, h⟩
       rw [lk_enM, lk_pk, if_pos rfl]
       rfl
   | @go2 p q c =>
     have h1 := g.ct _ (lk_mem q)
     dsimp only at h1
     rw [if_neg (by rw [lk_enM, q]; simp), if_pos (by decide)]
     refine ⟨_, some_enM q, .inl (.inl ⟨by decide, by decide⟩), ?_⟩
     dsimp only
     rw [pk_enM]
     refine jn_ok (λ t => t = enM (dk s (sealN ns))) (λ kk hk => ?_) λ t ht => ?_
     · refine ⟨_, some_enM (by rw [lk_pk, if_pos rfl]), ?_⟩
       rw [if_pos (by simp; omega)]
       refine ⟨_, some_enM (by rw [lk_pk, if_pos rfl]), hk _ ?_⟩
       rw [dk_enM]
       congr 1
       refine dict_ext (nd_dk (nd_pk g.nd)) ?_ λ j => ?_
       · rw [ks_dk, ks_dk, ks_pk_old (by rw [q]; rfl)]
       · rw [lk_dk, lk_dk, lk_pk]
         by_cases y : j = sealN ns
         · rw [if_pos y, if_pos y]
         · rw [if_neg y, if_neg y, if_neg y]
     · subst ht
       refine ⟨eB true, ?_, h⟩
       rw [lk_enM, lk_dk, if_pos rfl]
       rfl
   | harm q =>
     rw [if_neg (by rw [lk_enM, q]; simp), if_neg (by decide)]
     refine jn_ok (λ c => c = false) (λ kk hk => hk _ rfl) λ c hc => ?_
     subst hc
     rw [if_neg (by decide), if_pos (by decide)]
     refine ⟨(eL eI) bs, rfl, _, some_enM q, some bs, rfl, ?_⟩
     rw [pk_enM]
     exact h
   | lose q =>
     rw [if_neg (by rw [lk_enM, q]; simp), if_neg (by decide)]
     refine jn_ok (λ c => c = false) (λ kk hk => hk _ rfl) λ c hc => ?_
     subst hc
     rw [if_neg (by decide), if_pos (by decide)]
     refine ⟨eN (), rfl, _, some_enM q, none, rfl, ?_⟩
     rw [pk_enM]
     exact h
   | unlike q c =>
     have gb := i.s0 (.inr rfl)
     rw [if_neg (by rw [lk_enM, q]; simp), if_neg (by decide)]
     refine jn_ok (λ c => c = true) (λ kk hk => ?_) λ c hc => by subst hc; exact h
     refine (if_pos (by decide)).mpr (lsum_ok gb.2.2 (hk _ ?_))
     have : sealN bs ≠ sealN ns := λ z => c (sealN_inj gb.2.2 sg.2.2 z)
     simp [this]
   | heal q c =>
     subst c
     rw [if_neg (by rw [lk_enM, q]; simp), if_neg (by decide)]
     refine jn_ok (λ c => c = false) (λ kk hk => (if_pos (by decide)).mpr (lsum_ok sg.2.2 (hk _ (by simp)))) λ c hc => ?_
     subst hc
     rw [if_neg (by decide), if_pos (by decide)]
     refine ⟨(eL eI) bs, rfl, _, some_enM q, some bs, rfl, ?_⟩
     rw [pk_enM]
     exact h
   | held q =>
     rw [if_neg (by rw [lk_enM, q]; simp), if_neg (by decide)]
     refine jn_ok (λ c => c = false) (λ kk hk => hk _ rfl) λ c hc => ?_
     subst hc
     exact ⟨_, some_enM q, h⟩
   | snd q =>
     rw [if_neg (by rw [lk_enM, q]; simp), if_neg (by decide)]
     refine jn_ok (λ c => c = false) (λ kk hk => hk _ rfl) λ c hc => ?_
     subst hc
     exact sound_a g q h
   | rd1 q c =>
     rw [if_neg (by rw [lk_enM, q]; simp), if_neg (by decide)]
     refine jn_ok (λ c => c = false) (λ kk hk => hk _ rfl) λ c hc => ?_
     subst hc
     refine sound_a g q ?_
     rw [c]
     exact back_pos (P := λ x => P ((eP eS (eO (eL eI))) (("told" : Str), x)) (enM s)) sg h
   | rd0 q c =>
     rw [if_neg (by rw [lk_enM, q]; simp), if_neg (by decide)]
     refine jn_ok (λ c => c = false) (λ kk hk => hk _ rfl) λ c hc => ?_
     subst hc
     refine sound_a g q ?_
     rw [c]
     exact h
end
section
variable {room : Int} {s : Sh} {k : Int}
def rowOD (s : Sh) (k : Int) : OD := match lk s k with
 | some p => .ol (OD.fzs eA [rT (eI p.ct), rT (eB (wholeP k p)), if wholeP k p = true then rT (match p.bd with | some b => eL eI b | none => eN ()) else (eP eS eI) (("broken" : Str), k)])
 | none => .fz (eN ())
def headOD (room : Int) (s : Sh) : List OD := [(OD.ol (OD.fzs eI (srt (ks s)))), (OD.ol (OD.fzs eI (brokenM s))), (OD.fz (eI (room - s.length))), (OD.fz (eI s.length))]
def stateOD (room : Int) (s : Sh) : List OD := headOD room s ++ (srt (ks s)).map (rowOD s)
theorem rowOD_fgt (s : Sh) (k : Int) : (rowOD s k).fgt = rowR s k := by
 unfold rowOD rowR
 cases lk s k with
 | none => rfl
 | some p =>
   show (OD.ol (OD.fzs eA _)).fgt = eL eA _
   first
     | (rw [OD.fgt_ol]; done)
     | (rw [OD.fgt_ol]; rfl)
theorem stateOD_fgt (room : Int) (s : Sh) : eLO (stateOD room s) = (eL eA) (stateR room s) := by
 unfold eLO stateOD stateR
 show PyData.list _ = PyData.list _
 rw [map_eA, List.map_append, List.map_map]
 have e : (headOD room s).map OD.fgt = headR room s := by
   unfold headOD headR
   simp only [List.map_cons, List.map_nil, OD.fgt_ol]
   rfl
 rw [e]
 exact congrArg (λ z => PyData.list (headR room s ++ z)) (List.map_congr_left λ k _ => rowOD_fgt s k)
theorem row_outOD (g : GP room s) (hk : k ∈ ks s) : ∃ ns p, Sg ns /\ k = sealN ns /\ lk s k = some p /\ rowOD s k = .ol (OD.fzs eA [rT (eI p.ct), rT (eB (wholeP k p)), if wholeP k p = true then rT (eL eI ns) else (eP eS eI) (("broken" : Str), k)]) := by
 obtain ⟨p, hp⟩ := lk_some hk
 obtain ⟨ns, sg, e⟩ := g.sl _ (lk_mem hp)
 refine ⟨ns, p, sg, e, hp, ?_⟩
 unfold rowOD
 rw [hp]
 dsimp only
 cases c : wholeP k p with
 | false => rfl
 | true =>
   dsimp only at e
   rw [whole_bd sg e (g.bd _ (lk_mem hp)) c]
theorem i678 {ns : List Int} {w : Int} (sg : Sg ns) (h : 6 <= w /\ w <= 8) : In27 w ns [] := In27.nil sg h
theorem said678 {K : List PyData -> ST -> Prop} (g : GP room s) (hk : k ∈ ks s) (h : ∀ l, OD.ol (OD.fzs eA l) = rowOD s k -> K l (encS room s)) : lcS (λ (x71 : Int) (s79 : ST) (k78 : Option PyData -> ST -> Prop) => p_l_said s79 x71 k ([] : (List Int)) λ x88 m89 => k78 (some x88) m89) ([6, 7, 8] : List Int) (encS room s) [] K := by
 obtain ⟨ns, p, sg, e, hp, er⟩ := row_outOD g hk
 subst e
 simp only [lcS]
 refine said27 g (i678 sg (by decide)) (.held hp) (said27 g (i678 sg (by decide)) (.snd hp) ?_)
 cases c : wholeP (sealN ns) p with
 | true =>
   refine said27 g (i678 sg (by decide)) (.rd1 hp c) (h _ ?_)
   rw [er, c]
   rfl
 | false =>
   refine said27 g (i678 sg (by decide)) (.rd0 hp c) (h _ ?_)
   rw [er, c]
   rfl
theorem due678 {K : List PyData -> List (Int × (Int × Option (List Int))) -> Prop} (g : GP room s) (hk : k ∈ ks s) (h : ∀ l, (eL eA) l = rowR s k -> K l (enM s)) :
   lcS (λ (x66 : Int) (s74 : (List (Int × (Int × (Option (List Int)))))) (k73 : Option PyData -> (List (Int × (Int × (Option (List Int))))) -> Prop) => p_l_due s74 room x66 k ([] : (List Int)) λ x83 m84 => k73 (some x83) m84) ([6, 7, 8] : List Int) (enM s) [] K := by
 obtain ⟨ns, p, sg, e, hp, er⟩ := row_out g hk
 subst e
 simp only [lcS]
 refine due27 g (i678 sg (by decide)) (.held hp) (due27 g (i678 sg (by decide)) (.snd hp) ?_)
 cases c : wholeP (sealN ns) p with
 | true =>
   refine due27 g (i678 sg (by decide)) (.rd1 hp c) (h _ ?_)
   rw [er, c]
   rfl
 | false =>
   refine due27 g (i678 sg (by decide)) (.rd0 hp c) (h _ ?_)
   rw [er, c]
   rfl
theorem rows_goO {α : Type} {s : Sh} {t : α} {f : Int -> List OD × α -> (List OD × α -> Prop) -> Prop} : ∀ {xs : List Int} {l : List OD} {k : List OD × α -> Prop}, (∀ x ∈ xs, ∀ (l : List OD) (kk : List OD × α -> Prop), l.length <= 500 -> kk (l ++ [rowOD s x], t) -> f x (l, t) kk) -> l.length + xs.length <= 500 -> k (l ++ xs.map (rowOD s), t) -> forD f xs (l, t) k
 | [], l, k, _, _, h => by simpa [forD] using h
 | x :: xs, l, k, hs, hl, h => by
   refine hs x List.mem_cons_self l _ (by omega) ?_
   refine rows_goO (λ y hy => hs y (List.mem_cons_of_mem _ hy)) (by simp only [List.length_append, List.length_cons, List.length_nil] at hl ⊢; omega) ?_
   simpa using h
theorem state27 {P : List OD -> ST -> Prop} (g : GP room s) (h : P (stateOD room s) (encS room s)) : p_l_state (encS room s) P := by
 have hr := g.rm
 have hln := g.ln
 unfold p_l_state
 refine seals_ok' g (broken_ok g (sfree_ok (slen_ok ⟨⟨by omega, by omega⟩, seals_ok' g ?_⟩)))
 refine rows_goO (s := s) (λ x hx l kk hl hkk => ?_) (by rw [srtI_len, ks_len]; simp only [List.length_cons, List.length_nil]; omega) h
 refine ⟨by decide, said678 g (srtI_mem.mp hx) λ q eq => ⟨by dsimp only; omega, ?_⟩⟩
 show kk (l ++ [OD.ol (OD.fzs eA q)], encS room s)
 rw [eq]
 exact hkk
theorem state_due27 {P : List PyData -> List (Int × (Int × Option (List Int))) -> Prop} (g : GP room s) (h : P (stateR room s) (enM s)) : p_l_state_due (enM s) room P := by
 have hr := g.rm
 have hln := g.ln
 have ek : ks (enM s) = ks s := ks_tr _ _
 have el := len_enM s
 unfold p_l_state_due
 rw [ek]
 refine ⟨by rw [ks_len]; omega, by rw [srtI_len, ks_len]; omega, lcD_filter (λ k => match lk s k with | some p => !wholeP k p | none => false) (λ x hx kk hk => ?_) ⟨by rw [ks_len]; omega, by rw [ks_len]; omega, ?_⟩⟩
 · obtain ⟨p, hp⟩ := lk_some (srtI_mem.mp hx)
   rw [hp] at hk
   exact sound_a g hp hk
 · rw [el]
   refine rows_go (s := s) (λ x hx l kk hl hkk => ?_) (by rw [srtI_len, ks_len]; simp only [List.length_cons, List.length_nil]; omega) h
   refine ⟨by decide, due678 g (srtI_mem.mp hx) λ q eq => ⟨by dsimp only; omega, ?_⟩⟩
   show kk (l ++ [(eL eA) q], enM s)
   rw [eq]
   exact hkk
theorem as_due27 {b : Int} {P : Bool -> ST -> List (Int × (Int × Option (List Int))) -> Prop} (g : GP room s) (hb : Cb b s) (b1 : b <= 1000) (l : s.length <= 10) (h : P true (encS room s) (enM s)) : p_l_as_due (encS room s) (enM s) room P := by
 have hr := g.rm
 have hln := g.ln
 have alk : AlkOk (eLO (stateOD room s)) := by
   rw [stateOD_fgt]
   exact (state_shn g hb b1 l).alk (by decide) (by decide)
 have srl : (srt (ks s)).length <= 400 := by rw [srtI_len, ks_len]; omega
 unfold p_l_as_due
 refine state_due27 g (state27 g ⟨⟨stateOD_fgt room s, alk⟩, ?_⟩)
 -- two lists that are told are changed
 have two : ∀ (xs ys : List Int) (K : List OD -> Prop), xs.length <= 400 -> ys.length <= 400 -> (∀ z, K z) -> forD (λ (i26 : Nat) (s22 : (List OD)) (k23 : ((List OD)) -> Prop) => ∃ x25, (s22)[i26]? = some x25 /\ ∃ l40 : List OD, x25 = OD.ol l40 /\ (l40).length < 100000 /\ ∃ m56, ixN ((sno l40 (OD.fz (eI 3)))).length 0 = some m56 /\ k23 (s22.set i26 (OD.ol ((sno l40 (OD.fz (eI 3))).set m56 (OD.fz (eI 9)))))) [0, 1] [OD.ol (OD.fzs eI xs), OD.ol (OD.fzs eI ys)] K := λ xs ys K hx hy hK => by
   have ln : ∀ zs : List Int, (OD.fzs eI zs).length = zs.length := λ zs => List.length_map ..
   have i0 : ∀ zs : List OD, ixN (sno zs (OD.fz (eI 3))).length 0 = some 0 := λ zs => by
     unfold ixN sno
     rw [if_pos (by decide), if_pos (by rw [List.length_append]; simp)]
     rfl
   refine ⟨_, rfl, _, rfl, by rw [ln]; omega, 0, i0 _, ?_⟩
   refine ⟨_, rfl, _, rfl, by rw [ln]; omega, 0, i0 _, hK _⟩
 refine two (srt (ks s)) (brokenM s) _ srl (Nat.le_trans (List.length_filter_le _ _) srl) λ z => ?_
 refine seals_ok' g (forD_inv (n := 0) (λ _ t => t = encS room s) rfl (λ i x t kk hx ht hk => ?_) λ t ht => ?_)
 · subst ht
   obtain ⟨p, hp⟩ := lk_some (srtI_mem.mp (List.mem_of_getElem? hx))
   obtain ⟨ns, sg, e⟩ := g.sl _ (lk_mem hp)
   have e : x = sealN ns := e
   subst e
   refine said27o g sg hp (λ c => ?_) λ c => ?_
   · refine ⟨.ol (OD.fzs eI ns), rfl, ?_⟩
     rw [if_pos (by rw [OD.fgt_ol]; rfl)]
     have ln : (OD.fzs eI ns).length = ns.length := List.length_map ..
     refine ⟨_, rfl, by rw [ln]; have := sg.2.1; omega, 0, ?_, hk _ rfl⟩
     unfold ixN sno
     rw [if_pos (by decide), if_pos (by rw [List.length_append]; simp)]
     rfl
   · refine ⟨.fz (eI (sealN ns)), rfl, ?_⟩
     rw [if_neg (λ z => by cases z)]
     exact hk _ rfl
 · subst ht
   exact state27 g ⟨⟨stateOD_fgt room s, alk⟩, h⟩
end
theorem u_bag {K : Fr} {Rs : List Res} {H : Hp} {a : Addr} {ns : List Int} {Q : VK} {E : XK} (S : M Rs H) (h : Ent Rs (λ H => SqL K H a (ns.map V.int))) (hl : ns.length <= 63) (k : ∀ bag H', M (bagR bag :: Rs) H' -> Q (.ref bag) H') :
   sp_l_bag K ([.ref a] ++ []) H Q E := ⟨Rs, a, ns, rfl, S, h, hl, k⟩
def sp_law (K : Fr) : Sp := λ vs H Q _ => ∃ (a : Addr) (ns : List Int), vs = [.ref a] /\ SqL K H a (ns.map V.int) /\ ns.length <= 63 /\ ∀ H', Q (.bl true) H'
theorem len_law {K : Fr} (vs : List V) (H : Hp) (Q : VK) (E : XK) (h : sp_law K vs H Q E) : vs.length = 1 := by
 obtain ⟨x, y, rfl, _⟩ := h
 rfl
theorem law_start (K : Fr) (H : Hp) (a : Addr) (ns : List Int) (hl : ns.length <= 63) (hS : SqL K H a (ns.map V.int)) : sp_law K [.ref a] H (λ v _ => v = .bl true) λ _ _ _ => False := ⟨a, ns, rfl, hS, hl, λ _ => rfl⟩
def p_law (P : Bool -> Prop) : Prop := takeD 20 λ n2 => takeD 20 λ n6 => takeD 2 λ n14 => takeD 8 λ n20 => takeD 3 λ n28 => ∃ x33, atI ([5, 400, (1 + n20)]) n28 = some x33 /\ p_l_pool λ x36 => p_Shelf___init__ x33 λ m47 => p_Shelf___init__ x33 λ m58 => ∀ a52 : Addr, ∀ a41 : Addr, takeD 21 λ n108 => ((-(2 ^ 62) : Int) <= (20 + n108) /\ (20 + n108) < (2 ^ 62 : Int)) /\ forD (λ (x115 : Int) (s112 : (List (Addr × (Int × (List (Int × Int)) × (List (Int × (Option (List Int))))))) × (List (List (Int × (Int × (Option (List Int))))))) (k113 : ((List (Addr × (Int × (List (Int × Int)) × (List (Int × (Option (List Int))))))) × (List (List (Int × (Int × (Option (List Int))))))) -> Prop) => takeD ((s112.1).length : Int) λ n128 => jn (β := (List (Addr × (Int × (List (Int × Int)) × (List (Int × (Option (List Int))))))) × (List (List (Int × (Int × (Option (List Int))))))) (λ k132 => if (decide (x115 ∈ [n2, n6])) = true then (∃ n139 x140, ixN (s112.1).length n128 = some n139 /\ (s112.1)[n139]? = some x140 /\ p_Shelf_copied x140.2 λ x153 => ∀ u156 : Addr, (s112.1).length < 100000 /\ ∃ n167 x168, ixN (s112.2).length n128 = some n167 /\ (s112.2)[n167]? = some x168 /\ (x168).length <= 100000 /\ (∀ q ∈ x168, okR q.2.2) /\ (s112.2).length < 100000 /\ k132 ((sno s112.1 (u156, x153)), (sno s112.2 x168))) else (k132 (s112.1, s112.2))) λ s131 => p_l_drawn x36 λ x186 => ∃ n204 x205, ixN (s131.2).length n128 = some n204 /\ (s131.2)[n204]? = some x205 /\ p_l_due x205 x33 x186.1 x186.2.1 x186.2.2 λ x220 m221 => ∃ n226 x227, ixN (s131.1).length n128 = some n226 /\ (s131.1)[n226]? = some x227 /\ p_l_said x227.2 x186.1 x186.2.1 x186.2.2 λ x240 m241 => ((eA x240) = (eA x220) /\ AlkOk (eA x240)) /\ (x186.2.2).length < 100000 /\ ∃ m252, ixN ((sno x186.2.2 5)).length 0 = some m252 /\ jn2 (λ (k261 : Bool -> ((List (Addr × (Int × (List (Int × Int)) × (List (Int × (Option (List Int))))))) × (List (List (Int × (Int × (Option (List Int))))))) -> Prop) => if (!(decide (n14 = 0))) = true then (∃ n271 x272, ixN ((s131.1.set n226 (x227.1, m241))).length n128 = some n271 /\ ((s131.1.set n226 (x227.1, m241)))[n271]? = some x272 /\ ∃ n285 x286, ixN ((s131.2.set n204 m221)).length n128 = some n285 /\ ((s131.2.set n204 m221))[n285]? = some x286 /\ p_l_as_due x272.2 x286 x33 λ x300 m301 m302 => k261 (!x300) (((s131.1.set n226 (x227.1, m241)).set n271 (x272.1, m301)), ((s131.2.set n204 m221).set n285 m302))) else (k261 false ((s131.1.set n226 (x227.1, m241)), (s131.2.set n204 m221)))) λ c257 s262 => if c257 = true then (P false) else (k113 (s262.1, s262.2))) (rng (20 + n108)) (([(a41, m47), (a52, m58)] : (List (Addr × (Int × (List (Int × Int)) × (List (Int × (Option (List Int)))))))), ([([] : (List (Int × (Int × (Option (List Int)))))), ([] : (List (Int × (Int × (Option (List Int))))))] : (List (List (Int × (Int × (Option (List Int)))))))) λ s112 => (((-(2 ^ 62) : Int) <= (((s112.1).length : Int) - 1) /\ (((s112.1).length : Int) - 1) < (2 ^ 62 : Int)) /\ ((-(2 ^ 62) : Int) <= (0 - 1) /\ (0 - 1) < (2 ^ 62 : Int))) /\ forD (λ (x320 : Int) (s317 : (List (Addr × (Int × (List (Int × Int)) × (List (Int × (Option (List Int))))))) × (List (List (Int × (Int × (Option (List Int))))))) (k318 : ((List (Addr × (Int × (List (Int × Int)) × (List (Int × (Option (List Int))))))) × (List (List (Int × (Int × (Option (List Int))))))) -> Prop) => ∃ n326 x327, ixN (s317.1).length x320 = some n326 /\ (s317.1)[n326]? = some x327 /\ ∃ n340 x341, ixN (s317.2).length x320 = some n340 /\ (s317.2)[n340]? = some x341 /\ p_l_as_due x327.2 x341 x33 λ x355 m356 m357 => if (!x355) = true then (P false) else (k318 ((s317.1.set n326 (x327.1, m356)), (s317.2.set n340 m357)))) (rngD (((s112.1).length : Int) - 1) (0 - 1)) (s112.1, s112.2) λ s317 => P true
theorem drawn27 {ps : List (List Int)} {P : Int × Int × List Int -> Prop} (h2 : 1 <= ps.length) (h6 : ps.length <= 100) (gs : ∀ p ∈ ps, Sg p) (h : ∀ w ns bs, ns ∈ ps -> (w = 0 -> bs ∈ ps) -> In27 w ns bs -> P (w, sealN ns, bs)) : p_l_drawn ps P := by
 unfold p_l_drawn
 refine tk (by decide) λ a a0 a1 => ?_
 obtain ⟨w, hw, ew⟩ := atI_ex (xs := ([0, 0, 0, 1, 2, 2, 3, 4, 5, 5] : List Int)) a0 a1
 have w8 : 0 <= w /\ w <= 5 := by
   simp only [List.mem_cons, List.not_mem_nil, or_false] at hw
   omega
 refine ⟨w, ew, tk ⟨by omega, by omega⟩ λ b b0 b1 => ?_⟩
 obtain ⟨ns, hn, en⟩ := atI_ex (xs := ps) b0 b1
 refine ⟨ns, en, tk ⟨by omega, by omega⟩ λ c c0 c1 => ?_⟩
 obtain ⟨o, ho, eo⟩ := atI_ex (xs := ps) c0 c1
 have sn := gs ns hn
 have so := gs o ho
 refine ⟨o, eo, tk (by decide) λ d d0 d1 => ⟨.inl (.inr ⟨by split <;> omega, by split <;> omega⟩), ?_⟩⟩
 obtain ⟨bs, ebs, hbs⟩ : ∃ bs, atI ([ns, o, ([] : List Int)]) (d * (if (decide (w = 3)) = true then (1 : Int) else 0)) = some bs /\ Bd bs /\ (w ≠ 3 -> bs = ns) := by
   by_cases z : w = 3
   · rw [if_pos (decide_eq_true z), Int.mul_one]
     obtain ⟨bs, hb, eb⟩ := atI_ex (xs := ([ns, o, ([] : List Int)])) d0 d1
     refine ⟨bs, eb, ?_, λ q => absurd z q⟩
     simp only [List.mem_cons, List.not_mem_nil, or_false] at hb
     rcases hb with rfl | rfl | rfl
     · exact sn.bd
     · exact so.bd
     · exact ⟨by decide, λ n hn => absurd hn (by simp)⟩
   · rw [if_neg (by simpa using z), Int.mul_zero]
     exact ⟨ns, atI_int (by decide) rfl, sn.bd, λ _ => rfl⟩
 refine ⟨bs, ebs, jn_ok (β := List Int) (λ t => Bd t /\ (w = 0 -> t ∈ ps) /\ (w = 0 \/ w = 5 -> Sg t)) (λ k1 hk1 => ?_) λ t ht => lsum_ok sn.2.2 (h w ns t hn ht.2.1 ⟨sn, ht.1, ht.2.2, w8.1, by omega⟩)⟩
 have base : Bd bs /\ (w = 0 -> bs ∈ ps) /\ (w = 0 \/ w = 5 -> Sg bs) := ⟨hbs.1, λ z => by rw [hbs.2 (by omega)]; exact hn, λ z => by rw [hbs.2 (by omega)]; exact sn⟩
 refine jn_ok (β := Bool) (λ c => c = true -> w = 5) (λ k2 hk2 => ?_) λ c hc => ?_
 · split
   · rename_i z
     have z : w = 5 := by simpa using z
     exact tk (by decide) λ e e0 e1 => hk2 _ λ _ => z
   · exact hk2 _ λ z => nomatch z
 · split
   · rename_i z
     have w5 := hc z
     refine tk ⟨by omega, by omega⟩ λ e e0 e1 => ?_
     obtain ⟨q, hq, eq⟩ := atI_ex (xs := ps) e0 e1
     exact ⟨q, eq, hk1 _ ⟨(gs q hq).bd, λ z => by omega, λ _ => gs q hq⟩⟩
   · exact hk1 _ base
structure Sm27 (room : Int) (S : List Int) (b : Int) (n : Nat) (t : List (Addr × ST) × List (List (Int × (Int × Option (List Int))))) : Prop where
 len : t.1.length = n /\ t.2.length = n
 at_ : ∀ i, i < n -> ∃ a s, t.1[i]? = some (a, encS room s) /\ t.2[i]? = some (enM s) /\ GP room s /\ Cb b s /\ InP S s
theorem Sm27.up {room : Int} {S : List Int} {b c : Int} {n : Nat} {t : List (Addr × ST) × List (List (Int × (Int × Option (List Int))))} (h : Sm27 room S b n t) (l : b <= c) : Sm27 room S c n t := ⟨h.len, λ i hi => by
 obtain ⟨a, s, h1, h2, h3, h4, h5⟩ := h.at_ i hi
 exact ⟨a, s, h1, h2, h3, h4.up l, h5⟩⟩
theorem Sm27.set {room : Int} {S : List Int} {b : Int} {n : Nat} {t : List (Addr × ST) × List (List (Int × (Int × Option (List Int))))} (h : Sm27 room S b n t) {k : Nat} (hk : k < n) {a : Addr} {s : Sh} (g : GP room s) (hb : Cb b s) (hS : InP S s) : Sm27 room S b n (t.1.set k (a, encS room s), t.2.set k (enM s)) := by
 refine ⟨⟨by rw [List.length_set]; exact h.len.1, by rw [List.length_set]; exact h.len.2⟩, λ i hi => ?_⟩
 by_cases z : k = i
 · subst z
   exact ⟨a, s, by rw [List.getElem?_set_self (by rw [h.len.1]; exact hi)], by rw [List.getElem?_set_self (by rw [h.len.2]; exact hi)], g, hb, hS⟩
 · obtain ⟨a', s', h1, h2, h3⟩ := h.at_ i hi
   exact ⟨a', s', by rw [List.getElem?_set_ne z]; exact h1, by rw [List.getElem?_set_ne z]; exact h2, h3⟩
theorem Sm27.sno {room : Int} {S : List Int} {b : Int} {n : Nat} {t : List (Addr × ST) × List (List (Int × (Int × Option (List Int))))} (h : Sm27 room S b n t) {a : Addr} {s : Sh} (g : GP room s) (hb : Cb b s) (hS : InP S s) : Sm27 room S b (n + 1) (sno t.1 (a, encS room s), sno t.2 (enM s)) := by
 refine ⟨⟨by show (t.1 ++ [_]).length = _; rw [List.length_append, h.len.1]; rfl, by show (t.2 ++ [_]).length = _; rw [List.length_append, h.len.2]; rfl⟩, λ i hi => ?_⟩
 by_cases z : i < n
 · obtain ⟨a', s', h1, h2, h3⟩ := h.at_ i z
   exact ⟨a', s', by show (t.1 ++ [_])[i]? = _; rw [List.getElem?_append_left (by rw [h.len.1]; exact z)]; exact h1, by show (t.2 ++ [_])[i]? = _; rw [List.getElem?_append_left (by rw [h.len.2]; exact z)]; exact h2, h3⟩
 · have e : i = n := by omega
   subst e
   refine ⟨a, s, ?_, ?_, g, hb, hS⟩
   · show (t.1 ++ [_])[i]? = _
     rw [List.getElem?_append_right (by rw [h.len.1]; exact Nat.le_refl _), h.len.1, Nat.sub_self]
     rfl
   · show (t.2 ++ [_])[i]? = _
     rw [List.getElem?_append_right (by rw [h.len.2]; exact Nat.le_refl _), h.len.2, Nat.sub_self]
     rfl
theorem ix27 {n : Nat} {v : Int} (h0 : 0 <= v) (h1 : v < (n : Int)) : ixN n v = some v.toNat /\ v.toNat < n := by
 refine ⟨?_, by omega⟩
 unfold ixN
 rw [if_pos h0, if_pos h1]
theorem okR_en {room : Int} {s : Sh} (g : GP room s) : ∀ q ∈ enM s, okR q.2.2 := λ q hq l e => by
 obtain ⟨p, hp, rfl⟩ := List.mem_map.mp hq
 have := (g.bd p hp l e).1
 omega
theorem law_plain : p_law (λ b => b = true) := by
 refine tk (by decide) λ n2 _ _ => tk (by decide) λ n6 _ _ => tk (by decide) λ n14 _ _ => tk (by decide) λ n20 a20 b20 => tk (by decide) λ n28 a28 b28 => ?_
 obtain ⟨room, hr, er⟩ := atI_ex (xs := ([5, 400, (1 + n20)])) a28 b28
 have hroom : 1 <= room /\ room <= 400 := by
   simp only [List.mem_cons, List.not_mem_nil, or_false] at hr
   omega
 refine ⟨room, er, pool_ok λ ps p2 p6 gps => snew_ok hroom (snew_ok hroom λ a52 a41 => tk (by decide) λ n a b => ⟨⟨by omega, by omega⟩, ?_⟩)⟩
 have pool10 : ∀ {s : Sh}, GP room s -> InP (ps.map sealN) s -> s.length <= 10 := λ {s} g hS => by
   have := nodup_le g.nd hS
   rw [ks_len, List.length_map] at this
   omega
 have start : Sm27 room (ps.map sealN) 0 2 ([(a41, encS room []), (a52, encS room [])], [[], []]) := ⟨⟨rfl, rfl⟩, λ i hi => by
   have e : enM [] = [] := rfl
   match i, hi with
   | 0, _ => exact ⟨a41, [], rfl, rfl, GP.nil hroom, λ _ h => (nomatch h), λ _ h => (nomatch h)⟩
   | 1, _ => exact ⟨a52, [], rfl, rfl, GP.nil hroom, λ _ h => (nomatch h), λ _ h => (nomatch h)⟩⟩
 refine forD_inv (n := 0) (λ i t => ∃ n, 1 <= n /\ n <= 2 + i /\ Sm27 room (ps.map sealN) i n t) ⟨2, by decide, Nat.le_refl _, start⟩ (λ i x t kk hx hi hk => ?_) λ t hi => ?_
 · obtain ⟨n, n1, n2', m⟩ := hi
   rw [Nat.zero_add] at n2' m
   have lx := ix_lt hx
   rw [rng_len] at lx
   refine tk ⟨by rw [m.len.1]; omega, by rw [m.len.1]; omega⟩ λ v v0 v1 => ?_
   rw [m.len.1] at v1
   obtain ⟨e1, e2⟩ := ix27 v0 v1
   refine jn_ok (λ t' => ∃ n', n <= n' /\ n' <= n + 1 /\ Sm27 room (ps.map sealN) i n' t') (λ k1 hk1 => ?_) λ t' ht' => ?_
   · split
     · obtain ⟨a, s, h1, h2, g, hb, hS⟩ := m.at_ _ e2
       refine ⟨v.toNat, _, by rw [m.len.1]; exact e1, h1, ?_⟩
       unfold p_Shelf_copied
       refine snew_ok hroom λ u => ⟨by rw [m.len.1]; omega, v.toNat, _, by rw [m.len.2]; exact e1, h2, ?_, okR_en g, by rw [m.len.2]; omega, hk1 _ ⟨n + 1, by omega, Nat.le_refl _, m.sno g hb hS⟩⟩
       rw [len_enM]
       have := pool10 g hS
       omega
     · exact hk1 _ ⟨n, Nat.le_refl _, by omega, m⟩
   · obtain ⟨n', l1, l2, m⟩ := ht'
     refine drawn27 (by omega) (by omega) gps λ w ns bs hns hw i27 => ?_
     obtain ⟨e1, e2⟩ := ix27 (n := n') v0 (by omega)
     obtain ⟨a, s, h1, h2, g, hb, hS⟩ := m.at_ _ e2
     obtain ⟨r, s', o⟩ := o27_ex g i27
     obtain ⟨g', hb', hS', sh⟩ := o27_good g hb (by omega) (by omega) i27 hS (List.mem_map.mpr ⟨ns, hns, rfl⟩) (λ z => List.mem_map.mpr ⟨bs, hw z, rfl⟩) o
     refine ⟨v.toNat, _, by rw [m.len.2]; exact e1, h2, due27 g i27 o ⟨v.toNat, _, by rw [m.len.1]; exact e1, h1, said27 g i27 o ⟨⟨rfl, sh.alk (by decide) (by decide)⟩, ?_⟩⟩⟩
     have bl := i27.bd.1
     refine ⟨by dsimp only; omega, 0, ?_, ?_⟩
     · unfold ixN sno
       rw [if_pos (by decide), if_pos (by rw [List.length_append]; simp)]
       rfl
     have m2 : Sm27 room (ps.map sealN) (i + 1) n' (t'.1.set v.toNat (a, encS room s'), t'.2.set v.toNat (enM s')) := (m.up (by omega)).set e2 g' hb' hS'
     refine jn2_ok (λ c t2 => c = false /\ Sm27 room (ps.map sealN) (i + 1) n' t2) (λ k2 hk2 => ?_) λ c t2 ht2 => ?_
     · split
       · obtain ⟨a3, s3, h3, h4, g3, hb3, hS3⟩ := m2.at_ _ e2
         refine ⟨v.toNat, _, by rw [m2.len.1]; exact e1, h3, v.toNat, _, by rw [m2.len.2]; exact e1, h4, as_due27 g3 hb3 (by omega) (pool10 g3 hS3) (hk2 _ _ ⟨rfl, ?_⟩)⟩
         exact m2.set e2 g3 hb3 hS3
       · exact hk2 _ _ ⟨rfl, m2⟩
     · obtain ⟨rfl, m3⟩ := ht2
       rw [if_neg (by decide)]
       exact hk _ ⟨n', by omega, by omega, by rw [Nat.zero_add]; exact m3⟩
 · obtain ⟨n, n1, n2', m⟩ := hi
   rw [rng_len] at n2' m
   refine ⟨⟨⟨by rw [m.len.1]; omega, by rw [m.len.1]; omega⟩, by decide, by decide⟩, ?_⟩
   rw [m.len.1]
   refine forD_inv (n := 0) (λ _ t => Sm27 room (ps.map sealN) 100 n t) (m.up (by simp only [Nat.zero_add]; omega)) (λ i x t kk hx m hk => ?_) λ t _ => rfl
   obtain ⟨j, hj, rfl⟩ := List.mem_map.mp (List.mem_of_getElem? hx)
   have hj := List.mem_range.mp hj
   obtain ⟨e1, e2⟩ := ix27 (n := n) (v := (n : Int) - 1 - (j : Int)) (by omega) (by omega)
   obtain ⟨a3, s3, h3, h4, g3, hb3, hS3⟩ := m.at_ _ e2
   refine ⟨_, _, by rw [m.len.1]; exact e1, h3, _, _, by rw [m.len.2]; exact e1, h4, as_due27 g3 hb3 (by decide) (pool10 g3 hS3) ?_⟩
   rw [if_neg (by decide)]
   exact hk _ (m.set e2 g3 hb3 hS3)
abbrev t_law_9 (K : Fr) : TS := (tSeq (tDrop (tBM K "list" rAppend (tVar 8) (tCons (tMethW W0 (He.ga K "Shelf") "copied" (sp_Shelf_copied K) [] (tOp (uIx K) (tVar 8) (tVar 5)) tNil) tNil)))
 (tDrop (tBM K "list" rAppend (tVar 9) (tCons (tCB (rDictP K) (tCons (tLkE (tLc (iKeys (tOp (uIx K) (tVar 9) (tVar 5))) (gName 13) tYes (tTup (tCons (tVar 13) (tCons (tCall (sp_l_copy K) [] E0 (tCons (tOp rIxK (tOp (uIx K) (tVar 9) (tVar 5)) (tVar 13)) tNil)) tNil))) [13])) tNil)) tNil))))
abbrev t_law_18 (K : Fr) : TS := (tIfS (tAnd (tNot (tB (tVar 7))) (tNot (tB (tCall (sp_l_as_due K) [] E0 (tCons (tOp (uIx K) (tVar 8) (tVar 5)) (tCons (tOp (uIx K) (tVar 9) (tVar 5)) (tCons (tVar 2) tNil))))))) (tRet (tC (.bl false))) tNext)
abbrev t_law_17 (K : Fr) : TS := (tSeq (tAsg (tC (.int 3)) (gSub (tVar 10) (tC (.int 0)) uSet))
 (t_law_18 K))
abbrev t_law_16 (K : Fr) : TS := (tSeq (tDrop (tBM K "list" rAppend (tVar 10) (tCons (tC (.int 5)) tNil)))
 (t_law_17 K))
abbrev t_law_14 (K : Fr) : TS := (tSeq (tIfS (tNot (tB (tCall (sp_l_alike K) [] E0 (tCons (tCall (sp_l_said K) [] E0 (tCons (tOp (uIx K) (tVar 8) (tVar 5)) (tCons (tVar 12) (tCons (tVar 13) (tCons (tVar 10) tNil))))) (tCons (tVar 11) tNil))))) (tRet (tC (.bl false))) tNext)
 (t_law_16 K))
abbrev t_law_13 (K : Fr) : TS := (tSeq (tAsg (tCall (sp_l_due K) [] E0 (tCons (tOp (uIx K) (tVar 9) (tVar 5)) (tCons (tVar 2) (tCons (tVar 12) (tCons (tVar 13) (tCons (tVar 14) tNil)))))) (gName 11))
 (t_law_14 K))
abbrev t_law_12 (K : Fr) : TS := (tSeq (tAsg (tCB (rListOf K) (tCons (tVar 14) tNil)) (gName 10))
 (t_law_13 K))
abbrev t_law_11 (K : Fr) : TS := (tSeq (tAsg (tCall (sp_l_drawn K) [] E0 (tCons (tVar 1) (tCons (tVar 3) tNil))) (gTup K 3 (gCons (gName 12) (gCons (gName 13) (gCons (gName 14) gNil)))))
 (t_law_12 K))
abbrev t_law_8 (K : Fr) : TS := (tSeq (tIfS (tTest (tOp (uIn K) (tVar 4) (tVar 6))) (t_law_9 K) tNext)
 (t_law_11 K))
abbrev t_law_7 (K : Fr) : TS := (tSeq (tAsg (tCall (sp_l_take K) [] E0 (tCons (tVar 1) (tCons (tCB (uLen K) (tCons (tVar 8) tNil)) tNil))) (gName 5))
 (t_law_8 K))
abbrev t_law_21 (K : Fr) : TS := (tIfS (tNot (tB (tCall (sp_l_as_due K) [] E0 (tCons (tOp (uIx K) (tVar 8) (tVar 5)) (tCons (tOp (uIx K) (tVar 9) (tVar 5)) (tCons (tVar 2) tNil)))))) (tRet (tC (.bl false))) tNext)
abbrev t_law_20 (K : Fr) : TS := (tSeq (tFor (iRng3 (tCons (tOp uSub (tCB (uLen K) (tCons (tVar 8) tNil)) (tC (.int 1))) (tCons (tOp uSub (tC (.int 0)) (tC (.int 1))) (tCons (tOp uSub (tC (.int 0)) (tC (.int 1))) tNil)))) (gName 5) (t_law_21 K))
 (tRet (tC (.bl true))))
abbrev t_law_6 (K : Fr) : TS := (tSeq (tFor (iRng1 (tCons (tOp (uAdd K) (tC (.int 20)) (tCall (sp_l_take K) [] E0 (tCons (tVar 1) (tCons (tC (.int 21)) tNil)))) tNil)) (gName 4) (t_law_7 K))
 (t_law_20 K))
abbrev t_law_5 (K : Fr) : TS := (tSeq (tAsg (tTup (tCons (tLst (tCons (tMakeW W0 (He.ga K "Shelf") (sp_Shelf___init__ K) [] (tCons (tVar 2) tNil)) (tCons (tMakeW W0 (He.ga K "Shelf") (sp_Shelf___init__ K) [] (tCons (tVar 2) tNil)) tNil))) (tCons (tLst (tCons tDNewK (tCons tDNewK tNil))) tNil))) (gTup K 2 (gCons (gName 8) (gCons (gName 9) gNil))))
 (t_law_6 K))
abbrev t_law_4 (K : Fr) : TS := (tSeq (tAsg (tCall (sp_l_pool K) [] E0 (tCons (tVar 1) tNil)) (gName 3))
 (t_law_5 K))
abbrev t_law_3 (K : Fr) : TS := (tSeq (tAsg (tOp (uIx K) (tLst (tCons (tC (.int 5)) (tCons (tC (.int 400)) (tCons (tOp (uAdd K) (tC (.int 1)) (tCall (sp_l_take K) [] E0 (tCons (tVar 1) (tCons (tC (.int 8)) tNil)))) tNil)))) (tCall (sp_l_take K) [] E0 (tCons (tVar 1) (tCons (tC (.int 3)) tNil)))) (gName 2))
 (t_law_4 K))
abbrev t_law_2 (K : Fr) : TS := (tSeq (tPar 6 7 (tCons (tLst (tCons (tCall (sp_l_take K) [] E0 (tCons (tVar 1) (tCons (tC (.int 20)) tNil))) (tCons (tCall (sp_l_take K) [] E0 (tCons (tVar 1) (tCons (tC (.int 20)) tNil))) tNil))) (tCons (tOp (uEq K) (tCall (sp_l_take K) [] E0 (tCons (tVar 1) (tCons (tC (.int 2)) tNil))) (tC (.int 0))) tNil)))
 (t_law_3 K))
abbrev t_law_1 (K : Fr) : TS := (tSeq (tAsg (tCall (sp_l_bag K) [] E0 (tCons (tVar 0) tNil)) (gName 1))
 (t_law_2 K))
abbrev t_law (K : Fr) : TS := (t_law_1 K)
theorem pure_law {K : Fr} (T : TxC K) (vs : List V) (H : Hp) (Q : VK) (E : XK) (h : sp_law K vs H Q E) : t_law K { nx := λ _ H' => Q .non H', rt := Q } (L2.start ["_law_script", "_law_bag_here", "_law_room", "_law_pool_here", "_law_turn", "_law_at", "_law_middles", "_law_late", "_law_shelves", "_law_models", "_law_handed", "_law_due_here", "_law_way", "_law_seal", "_law_signs_here"] vs) H := by
 obtain ⟨sc, sn, rfl, hS, hl, k⟩ := h
 have hf := law_plain
 show t_law K _ [some (V.ref sc), none, none, none, none, none, none, none, none, none, none, none, none, none, none] H
 refine g_seq (g_asg (g_call (g_cons (g_var rfl (g_nil (u_bag (M.start hS) (λ H S => S.gotR 0 rfl) hl λ bag H1 S1 => ?_))))))
 generalize [rdL K sc (sn.map V.int)] = Rs at S1
 refine g_nx (g_seq (g_par (g_cons (g_lst (g_cons (g_call (g_cons (g_var rfl (g_cons (g_c (g_nil ?_)))))))))))
 obtain ⟨h1, hf⟩ := hf
 refine u_take (S1.at 0 rfl) h1 λ n2 H4 n2l n2u (S3 : M (_ :: Rs) H4) => ?_
 replace hf := hf n2 n2l n2u
 refine g_cons (g_call (g_cons (g_var rfl (g_cons (g_c (g_nil ?_))))))
 obtain ⟨h5, hf⟩ := hf
 refine u_take (S3.at 0 rfl) h5 λ n6 H8 n6l n6u (S7 : M (_ :: Rs) H8) => ?_
 replace hf := hf n6 n6l n6u
 refine g_nil (v_lsto (ds := ([n2, n6]).map eI) S7 (EnF.consA (EnF.all λ _ => .int _) (EnF.consA (EnF.all λ _ => .int _) EnF.nilA)) (len_ok rfl) λ p9 H11 (S10 : M (acR K p9 (([n2, n6]).map eI) :: _ :: Rs) H11) => ?_)
 refine g_cons (g_op (g_call (g_cons (g_var rfl (g_cons (g_c (g_nil ?_)))))))
 obtain ⟨h13, hf⟩ := hf
 refine u_take (S10.at 1 rfl) h13 λ n14 H16 n14l n14u (S15 : M (oo2 Rs) H16) => ?_
 replace hf := hf n14 n14l n14u
 refine g_c (v_eqI (g_nil ?_))
 have S17 : M (da K (V.ref p9) ((eL eI) ([n2, n6])) :: _ :: Rs) H16 := acR_fixL (S15.at 1 rfl)
 refine v_par (g_nx ?_)
 show (_ : TS) _ [some (V.ref sc), some (V.ref bag), none, none, none, none, some (V.ref p9), some (V.bl (decide (n14 = 0))), none, none, none, none, none, none, none] _
 refine g_seq (g_asg (g_op (g_lst (g_cons (g_c (g_cons (g_c (g_cons (g_op (g_c (g_call (g_cons (g_var rfl (g_cons (g_c (g_nil ?_))))))))))))))))
 obtain ⟨h19, hf⟩ := hf
 refine u_take (S17.at 1 rfl) h19 λ n20 H22 n20l n20u (S21 : M (oo2 Rs) H22) => ?_
 replace hf := hf n20 n20l n20u
 refine v_add (g_nil (v_lsto (ds := ([5, 400, (1 + n20)]).map eI) S21 (EnF.consA (EnF.all λ _ => .int _) (EnF.consA (EnF.all λ _ => .int _) (EnF.consA (EnF.all λ _ => .int _) EnF.nilA))) (len_ok rfl) λ p23 H25 (S24 : M (acR K p23 (([5, 400, (1 + n20)]).map eI) :: oo2 Rs) H25) => ?_))
 refine g_call (g_cons (g_var rfl (g_cons (g_c (g_nil ?_)))))
 obtain ⟨h27, hf⟩ := hf
 refine u_take (S24.at 1 rfl) h27 λ n28 H30 n28l n28u (S29 : M (oo3 Rs) H30) => ?_
 replace hf := hf n28 n28l n28u
 have S31 : M (da K (V.ref p23) ((eL eI) ([5, 400, (1 + n20)])) :: oo2 Rs) H30 := acR_fixL (S29.at 1 rfl)
 obtain ⟨x33, h34, hf⟩ := hf
 refine v_ixN flI (M.gotA S31 0 rfl) h34 (g_nx ?_)
 show (_ : TS) _ [some (V.ref sc), some (V.ref bag), some (V.int x33), none, none, none, some (V.ref p9), some (V.bl (decide (n14 = 0))), none, none, none, none, none, none, none] _
 have S35 : M (oo2 Rs) H30 := (M.drp S31 0)
 refine g_seq (g_asg (g_call (g_cons (g_var rfl (g_nil (⟨_, _, _, rfl, (M.at S35 0 rfl), hf, λ x36 u39 H38 hf (S37 : M (da K u39 ((eL (eL eI)) x36) :: oo2 Rs) H38) => ?_⟩))))))
 refine g_nx ?_
 show (_ : TS) _ [some (V.ref sc), some (V.ref bag), some (V.int x33), some u39, none, none, some (V.ref p9), some (V.bl (decide (n14 = 0))), none, none, none, none, none, none, none] _
 refine g_seq (g_asgX (g_tup (g_cons (g_lst (g_cons (g_make (g_cons (g_var rfl (g_nil (v_make S37 λ a41 dx42 H44 (S43 : M (pt a41 (.ins (He.ga K "Shelf") dx42 []) :: pt dx42 (.own a41) :: oo3 Rs) H44) => ?_))))))))))
 refine ⟨_, _, _, _, _, rfl, (M.at (M.at S43 1 rfl) 1 rfl), hf, λ m47 H49 hf (S48 : M (R_Shelf K a41 m47 :: oo3 Rs) H49) => ?_⟩
 refine And.intro rfl (g_cons (g_make (g_cons (g_var rfl (g_nil (v_make S48 λ a52 dx53 H55 (S54 : M (pt a52 (.ins (He.ga K "Shelf") dx53 []) :: pt dx53 (.own a52) :: oo4 Rs) H55) => ?_))))))
 refine ⟨_, _, _, _, _, rfl, (M.at (M.at S54 1 rfl) 1 rfl), hf, λ m58 H60 hf (S59 : M (R_Shelf K a52 m58 :: oo4 Rs) H60) => ?_⟩
 refine And.intro rfl (g_nil ?_)
 refine v_lst S59 (len_ok rfl) λ p63 H65 (S64 : M (pt p63 (.lst [(V.ref a41), (V.ref a52)]) :: oo5 Rs) H65) => ?_
 have S68 : M (starR (vrI (R_Shelf K)) [] [] :: oo6 Rs) H65 := M.addE S64
 replace hf := hf a52
 have S70 : M (vrI (R_Shelf K) (V.ref a52) (a52, m58) :: oo6 Rs) H65 := M.pr' rfl (M.at S68 2 rfl)
 have S72 : M (starR (vrI (R_Shelf K)) [(V.ref a52)] [(a52, m58)] :: oo5 Rs) H65 := M.sp' (M.pk S70 7 [0, 1, 2, 3, 4, 5, 6] rfl)
 replace hf := hf a41
 have S74 : M (vrI (R_Shelf K) (V.ref a41) (a41, m47) :: oo5 Rs) H65 := M.pr' rfl (M.at S72 2 rfl)
 have S76 : M (starR (vrI (R_Shelf K)) [(V.ref a41), (V.ref a52)] [(a41, m47), (a52, m58)] :: oo4 Rs) H65 := M.sp' (M.pk S74 6 [0, 1, 2, 3, 4, 5] rfl)
 have S78 : M (lsR (vrI (R_Shelf K)) p63 ([(a41, m47), (a52, m58)] : (List (Addr × (Int × (List (Int × Int)) × (List (Int × (Option (List Int)))))))) :: oo3 Rs) H65 := lsR_mk (M.pk S76 5 [1, 0, 2, 3, 4] rfl)
 refine g_cons (g_lst (g_cons (v_dnewDV S78 λ p79 H81 (S80 : M (dvR iI (vr (liR (qcR (vrD K eI) (q1R (vrD K (eO (eL eI))))))) p79 ([] : (List (Int × (Int × (Option (List Int)))))) :: oo4 Rs) H81) => ?_)))
 refine g_cons (v_dnewDV S80 λ p83 H85 (S84 : M (dvR iI (vr (liR (qcR (vrD K eI) (q1R (vrD K (eO (eL eI))))))) p83 ([] : (List (Int × (Int × (Option (List Int)))))) :: oo5 Rs) H85) => ?_)
 refine g_nil ?_
 refine v_lst S84 (len_ok rfl) λ p87 H89 (S88 : M (pt p87 (.lst [(V.ref p79), (V.ref p83)]) :: oo6 Rs) H89) => ?_
 have S92 : M (starR (vr (dvR iI (vr (liR (qcR (vrD K eI) (q1R (vrD K (eO (eL eI))))))))) [] [] :: oo7 Rs) H89 := M.addE S88
 have S94 : M (vr (dvR iI (vr (liR (qcR (vrD K eI) (q1R (vrD K (eO (eL eI)))))))) (V.ref p83) ([] : (List (Int × (Int × (Option (List Int)))))) :: oo7 Rs) H89 := M.vrC (M.at S92 2 rfl)
 have S96 : M (starR (vr (dvR iI (vr (liR (qcR (vrD K eI) (q1R (vrD K (eO (eL eI))))))))) [(V.ref p83)] [([] : (List (Int × (Int × (Option (List Int))))))] :: oo6 Rs) H89 := M.sp' (M.pk S94 8 [0, 1, 2, 3, 4, 5, 6, 7] rfl)
 have S98 : M (vr (dvR iI (vr (liR (qcR (vrD K eI) (q1R (vrD K (eO (eL eI)))))))) (V.ref p79) ([] : (List (Int × (Int × (Option (List Int)))))) :: oo6 Rs) H89 := M.vrC (M.at S96 2 rfl)
 have S100 : M (starR (vr (dvR iI (vr (liR (qcR (vrD K eI) (q1R (vrD K (eO (eL eI))))))))) [(V.ref p79), (V.ref p83)] [([] : (List (Int × (Int × (Option (List Int)))))), ([] : (List (Int × (Int × (Option (List Int))))))] :: oo5 Rs) H89 := M.sp' (M.pk S98 7 [0, 1, 2, 3, 4, 5, 6] rfl)
 have S102 : M (lsR (vr (dvR iI (vr (liR (qcR (vrD K eI) (q1R (vrD K (eO (eL eI))))))))) p87 ([([] : (List (Int × (Int × (Option (List Int)))))), ([] : (List (Int × (Int × (Option (List Int))))))] : (List (List (Int × (Int × (Option (List Int))))))) :: oo4 Rs) H89 := lsR_mk (M.pk S100 6 [1, 0, 2, 3, 4, 5] rfl)
 refine g_nil (v_tup S102 (len_ok rfl) λ p103 H105 (S104 : M (pt p103 (.tup [(V.ref p63), (V.ref p87)]) :: oo5 Rs) H105) => ?_)
 refine g_gtup (SqT.of (S104.got 0 rfl)) rfl (g_gcons (g_name (g_gcons (g_name (g_gnil (g_nx ?_))))))
 show (_ : TS) _ [some (V.ref sc), some (V.ref bag), some (V.int x33), some u39, none, none, some (V.ref p9), some (V.bl (decide (n14 = 0))), some (V.ref p63), some (V.ref p87), none, none, none, none, none] _
 refine g_seq (g_for (g_iRng1 (g_cons (g_op (g_c (g_call (g_cons (g_var rfl (g_cons (g_c (g_nil ?_)))))))))))
 obtain ⟨h107, hf⟩ := hf
 refine u_take (S104.at 4 rfl) h107 λ n108 H110 n108l n108u (S109 : M (oo6 Rs) H110) => ?_
 replace hf := hf n108 n108l n108u
 obtain ⟨h111, hf⟩ := hf
 refine v_add (g_nil (v_itR h111 ?_))
 refine for_rng (β := (List (Addr × (Int × (List (Int × Int)) × (List (Int × (Option (List Int))))))) × (List (List (Int × (Int × (Option (List Int))))))) hf (λ (s112 : (List (Addr × (Int × (List (Int × Int)) × (List (Int × (Option (List Int))))))) × (List (List (Int × (Int × (Option (List Int))))))) σ H' => ∃ (o118 : Option V) (o119 : Option V) (o120 : Option V) (o121 : Option V) (o122 : Option V) (o123 : Option V) (o124 : Option V), σ = [some (V.ref sc), some (V.ref bag), some (V.int x33), some u39, o118, o119, some (V.ref p9), some (V.bl (decide (n14 = 0))), some (V.ref p63), some (V.ref p87), o120, o121, o122, o123, o124] /\ M (lsR (vrI (R_Shelf K)) p63 s112.1 :: lsR (vr (dvR iI (vr (liR (qcR (vrD K eI) (q1R (vrD K (eO (eL eI))))))))) p87 s112.2 :: bagR bag :: pt p103 (.tup [(V.ref p63), (V.ref p87)]) :: da K u39 ((eL (eL eI)) x36) :: da K (V.ref p9) ((eL eI) ([n2, n6])) :: Rs) H') ⟨_, _, _, _, _, _, _, rfl, (M.pk S109 6 [3, 2, 0, 1, 4, 5] rfl)⟩ ?_ ?_
 ·
  rintro x115 s112 _ H126 kk114 ⟨o118, o119, o120, o121, o122, o123, o124, rfl, S125⟩ hf
  refine g_name (g_seq (g_asg (g_call (g_cons (g_var rfl (g_cons (g_cb (g_cons (g_var rfl (g_nil (v_lenLs S125 0 rfl (g_nil ?_))))))))))))
  obtain ⟨h127, hf⟩ := hf
  refine u_take (S125.at 2 rfl) h127 λ n128 H130 n128l n128u (S129 : M (oo6 Rs) H130) => ?_
  replace hf := hf n128 n128l n128u
  refine g_nx ?_
  show (_ : TS) _ [some (V.ref sc), some (V.ref bag), some (V.int x33), some u39, some (V.int x115), some (V.int n128), some (V.ref p9), some (V.bl (decide (n14 = 0))), some (V.ref p63), some (V.ref p87), o120, o121, o122, o123, o124] _
  refine jn_cut (β := (List (Addr × (Int × (List (Int × Int)) × (List (Int × (Option (List Int))))))) × (List (List (Int × (Int × (Option (List Int))))))) hf (λ (s131 : (List (Addr × (Int × (List (Int × Int)) × (List (Int × (Option (List Int))))))) × (List (List (Int × (Int × (Option (List Int))))))) σ H' => ∃ (o138 : Option V), σ = [some (V.ref sc), some (V.ref bag), some (V.int x33), some u39, some (V.int x115), some (V.int n128), some (V.ref p9), some (V.bl (decide (n14 = 0))), some (V.ref p63), some (V.ref p87), o120, o121, o122, o138, o124] /\ M (lsR (vrI (R_Shelf K)) p63 s131.1 :: lsR (vr (dvR iI (vr (liR (qcR (vrD K eI) (q1R (vrD K (eO (eL eI))))))))) p87 s131.2 :: bagR bag :: pt p103 (.tup [(V.ref p63), (V.ref p87)]) :: da K u39 ((eL (eL eI)) x36) :: da K (V.ref p9) ((eL eI) ([n2, n6])) :: Rs) H') (λ kk133 N134 hN135 hf => ?_) ?_
  ·
   refine g_if (g_test (g_op (g_var rfl (g_var rfl (v_inLI (M.gotA S129 5 rfl) (g_bl (v_iff hf (λ _ hf => ?_) (λ _ hf => ?_))))))))
   ·
    refine g_seq (g_drop (g_bm (g_var rfl (M.tyLs S129 1 rfl (g_cons (g_meth (g_op (g_var rfl (g_var rfl ?_)))))))))
    obtain ⟨n139, x140, h141, h142, hf⟩ := hf
    refine v_ixLs S129 1 rfl h141 h142 λ u143 vs144 hv145 (S146 : M (vrI (R_Shelf K) u143 x140 :: pt p63 (.lst vs144) :: starR (vrI (R_Shelf K)) (vs144.eraseIdx n139) (s112.1.eraseIdx n139) :: oo5 Rs) H130) => ?_
    obtain ⟨rfl, S150⟩ := M.pr S146
    have S152 : M (R_Shelf K x140.1 x140.2 :: oo7 Rs) H130 := S150
    refine v_R_Shelf S152 0 rfl (λ _ _ _ => rfl) (g_nil (⟨_, _, _, _, rfl, (M.at S152 0 rfl), hf, λ x153 u156 H155 hf (S154 : M (R_Shelf K u156 x153 :: oo8 Rs) H155) => ?_⟩))
    refine g_nil ?_
    have S159 : M (vrI (R_Shelf K) (V.ref x140.1) x140 :: oo8 Rs) H155 := M.pr' rfl (M.at S154 1 rfl)
    have S160 : M (lsR (vrI (R_Shelf K)) p63 s112.1 :: oo6 Rs) H155 := lsR_same hv145 h142 (M.pk S159 9 [0, 2, 3, 1, 4, 5, 6, 7, 8] rfl)
    replace hf := hf u156
    have S162 : M (vrI (R_Shelf K) (V.ref u156) (u156, x153) :: oo6 Rs) H155 := M.pr' rfl (M.at S160 1 rfl)
    obtain ⟨h163, hf⟩ := hf
    refine v_apLs (M.pk S162 7 [0, 1, 2, 3, 4, 5, 6] rfl) h163 λ H165 (S164 : M (lsR (vrI (R_Shelf K)) p63 (sno s112.1 (u156, x153)) :: oo5 Rs) H165) => ?_
    refine g_nx ?_
    show (_ : TS) _ [some (V.ref sc), some (V.ref bag), some (V.int x33), some u39, some (V.int x115), some (V.int n128), some (V.ref p9), some (V.bl (decide (n14 = 0))), some (V.ref p63), some (V.ref p87), o120, o121, o122, o123, o124] _
    refine g_drop (g_bm (g_var rfl (M.tyLs S164 2 rfl (g_cons ?_))))
    obtain ⟨n167, x168, h169, h170, h171, h172, hf⟩ := hf
    refine v_cpm (λ _ _ _ _ z => .inr z) rfl rfl (λ _ => rfl) (λ _ => rfl) (λ _ => rfl) (λ _ => rfl) (M.at S164 2 rfl) h169 h170 h171 h172 λ p173 H175 (S174 : M (dvR iI (vr (liR (qcR (vrD K eI) (q1R (vrD K (eO (eL eI))))))) p173 x168 :: oo6 Rs) H175) => ?_
    refine g_nil ?_
    have S178 : M (vr (dvR iI (vr (liR (qcR (vrD K eI) (q1R (vrD K (eO (eL eI)))))))) (V.ref p173) x168 :: oo6 Rs) H175 := M.vrC (M.at S174 0 rfl)
    obtain ⟨h179, hf⟩ := hf
    refine v_apLs (M.pk S178 7 [0, 1, 2, 3, 4, 5, 6] rfl) h179 λ H181 (S180 : M (lsR (vr (dvR iI (vr (liR (qcR (vrD K eI) (q1R (vrD K (eO (eL eI))))))))) p87 (sno s112.2 x168) :: oo5 Rs) H181) => ?_
    exact hN135 _ _ _ hf ⟨_, rfl, (M.pk S180 6 [1, 0, 2, 3, 4, 5] rfl)⟩
   ·
    refine g_next ?_
    exact hN135 _ _ _ hf ⟨_, rfl, (M.pk S129 6 [1, 2, 0, 3, 4, 5] rfl)⟩
  rintro s131 _ H184 hf ⟨o138, rfl, S183⟩
  refine g_seq (g_asgX (g_call (g_cons (g_var rfl (g_cons (g_var rfl (g_nil (⟨_, _, _, _, _, rfl, (M.at (M.addA S183 (EnF.at 4 rfl)) 3 rfl), hf, λ x186 u189 H188 hf (S187 : M (da K u189 ((eT3 eI eI (eL eI)) x186) :: oo6 Rs) H188) => ?_⟩))))))))
  obtain ⟨a194, u191, u192, u193, e_a194, q_a194, S195⟩ := S187.openT3 0 rfl
  subst e_a194
  refine g_gtup q_a194 rfl (g_gcons ?_)
  obtain rfl := (S195.gotA 0 rfl).intV
  refine g_name (g_gcons ?_)
  obtain rfl := (S195.gotA 1 rfl).intV
  refine g_name (g_gcons ?_)
  refine g_name (g_gnil (g_nx ?_))
  show (_ : TS) _ [some (V.ref sc), some (V.ref bag), some (V.int x33), some u39, some (V.int x115), some (V.int n128), some (V.ref p9), some (V.bl (decide (n14 = 0))), some (V.ref p63), some (V.ref p87), o120, o121, some (V.int x186.1), some (V.int x186.2.1), some u193] _
  have S199 : M (da K u193 ((eL eI) x186.2.2) :: oo6 Rs) H188 := (M.drp (M.drp (M.drp S195 3) 1) 0)
  refine g_seq (g_asg (g_cb (g_cons (g_var rfl (g_nil (v_liN flI S199 (M.gotA S199 0 rfl) λ p200 H202 (S201 : M (acR K p200 (x186.2.2.map eI) :: oo7 Rs) H202) => ?_))))))
  refine g_nx ?_
  show (_ : TS) _ [some (V.ref sc), some (V.ref bag), some (V.int x33), some u39, some (V.int x115), some (V.int n128), some (V.ref p9), some (V.bl (decide (n14 = 0))), some (V.ref p63), some (V.ref p87), some (V.ref p200), o121, some (V.int x186.1), some (V.int x186.2.1), some u193] _
  refine g_seq (g_asg (g_call (g_cons (g_op (g_var rfl (g_var rfl ?_))))))
  obtain ⟨n204, x205, h206, h207, hf⟩ := hf
  refine v_ixLs S201 4 rfl h206 h207 λ u208 vs209 hv210 (S211 : M (vr (dvR iI (vr (liR (qcR (vrD K eI) (q1R (vrD K (eO (eL eI)))))))) u208 x205 :: pt p87 (.lst vs209) :: starR (vr (dvR iI (vr (liR (qcR (vrD K eI) (q1R (vrD K (eO (eL eI))))))))) (vs209.eraseIdx n204) (s131.2.eraseIdx n204) :: oo7 Rs) H202) => ?_
  obtain ⟨p215, rfl, S216⟩ := M.vrO S211
  have S218 : M (dvR iI (vr (liR (qcR (vrD K eI) (q1R (vrD K (eO (eL eI))))))) p215 x205 :: oo9 Rs) H202 := S216
  refine g_cons (g_var rfl (g_cons (g_var rfl (g_cons (g_var rfl (g_cons (g_var rfl (g_nil (⟨_, _, _, _, _, _, _, _, _, rfl, (M.at (M.addA S218 (EnF.at 4 rfl)) 1 rfl), hf, λ x220 m221 u224 H223 hf (S222 : M (da K u224 (eA x220) :: dvR iI (vr (liR (qcR (vrD K eI) (q1R (vrD K (eO (eL eI))))))) p215 m221 :: oo9 Rs) H223) => ?_⟩)))))))))
  refine g_nx ?_
  show (_ : TS) _ [some (V.ref sc), some (V.ref bag), some (V.int x33), some u39, some (V.int x115), some (V.int n128), some (V.ref p9), some (V.bl (decide (n14 = 0))), some (V.ref p63), some (V.ref p87), some (V.ref p200), some u224, some (V.int x186.1), some (V.int x186.2.1), some u193] _
  refine g_seq (g_if (g_not (g_B (g_call (g_cons (g_call (g_cons (g_op (g_var rfl (g_var rfl ?_))))))))))
  obtain ⟨n226, x227, h228, h229, hf⟩ := hf
  refine v_ixLs S222 7 rfl h228 h229 λ u230 vs231 hv232 (S233 : M (vrI (R_Shelf K) u230 x227 :: pt p63 (.lst vs231) :: starR (vrI (R_Shelf K)) (vs231.eraseIdx n226) (s131.1.eraseIdx n226) :: oo10 Rs) H223) => ?_
  obtain ⟨rfl, S237⟩ := M.pr S233
  have S239 : M (R_Shelf K x227.1 x227.2 :: oo12 Rs) H223 := S237
  refine g_cons (g_var rfl (g_cons (g_var rfl (g_cons (g_var rfl (g_nil (.inl (⟨_, _, _, _, _, _, _, _, _, rfl, Brw.ac, (M.at (M.at S239 7 rfl) 1 rfl), hf, λ x240 m241 u244 H243 hf (S242 : M (da K u244 (eA x240) :: R_Shelf K x227.1 m241 :: oo12 Rs) H243) => ?_⟩))))))))
  refine g_cons (g_var rfl (g_nil ?_))
  obtain ⟨h246, hf⟩ := hf
  refine ⟨_, _, _, rfl, (Dq.dn (M.gotA S242 0 rfl)), (Dn.by_ h246.1 (Dq.dn (M.gotA S242 5 rfl))), h246.2, ?_⟩
  refine g_bl (v_ifcF (by decide) (g_next (g_nx (g_seq (g_drop (g_bm (g_var rfl (M.tyO S242 2 rfl (g_cons (g_c (g_nil ?_)))))))))))
  obtain ⟨h247, hf⟩ := hf
  refine v_apl (e := eI) (x := 5) S242 2 rfl (EnF.all λ _ => .int _) h247 λ H249 (S248 : M (acR K p200 ((sno x186.2.2 5).map eI) :: oo13 Rs) H249) => ?_
  refine g_nx ?_
  show (_ : TS) _ [some (V.ref sc), some (V.ref bag), some (V.int x33), some u39, some (V.int x115), some (V.int n128), some (V.ref p9), some (V.bl (decide (n14 = 0))), some (V.ref p63), some (V.ref p87), some (V.ref p200), some u224, some (V.int x186.1), some (V.int x186.2.1), some u193] _
  have S251 : M (oo13 Rs) H249 := (M.drp S248 1)
  refine g_seq (g_asgX (g_c (g_sub (g_var rfl (g_c ?_)))))
  obtain ⟨m252, h253, hf⟩ := hf
  refine v_setl (e := eI) (x := 3) S251 0 rfl h253 (EnF.all λ _ => .int _) λ H255 (S254 : M (acR K p200 (((sno x186.2.2 5).set m252 3).map eI) :: oo12 Rs) H255) => ?_
  refine g_nx ?_
  show (_ : TS) _ [some (V.ref sc), some (V.ref bag), some (V.int x33), some u39, some (V.int x115), some (V.int n128), some (V.ref p9), some (V.bl (decide (n14 = 0))), some (V.ref p63), some (V.ref p87), some (V.ref p200), some u224, some (V.int x186.1), some (V.int x186.2.1), some u193] _
  refine g_if ?_
  have S264 : M (vr (dvR iI (vr (liR (qcR (vrD K eI) (q1R (vrD K (eO (eL eI)))))))) (V.ref p215) m221 :: oo12 Rs) H255 := M.vrC (M.at S254 5 rfl)
  have S265 : M (lsR (vr (dvR iI (vr (liR (qcR (vrD K eI) (q1R (vrD K (eO (eL eI))))))))) p87 (s131.2.set n204 m221) :: oo10 Rs) H255 := lsR_close hv210 h207 (M.pk S264 13 [0, 6, 7, 1, 2, 3, 4, 5, 8, 9, 10, 11, 12] rfl)
  have S267 : M (vrI (R_Shelf K) (V.ref x227.1) (x227.1, m241) :: oo10 Rs) H255 := M.pr' rfl (M.at S265 2 rfl)
  have S268 : M (lsR (vrI (R_Shelf K)) p63 (s131.1.set n226 (x227.1, m241)) :: oo8 Rs) H255 := lsR_close hv232 h229 (M.pk S267 11 [0, 3, 4, 1, 2, 5, 6, 7, 8, 9, 10] rfl)
  refine tt_cutM (β := (List (Addr × (Int × (List (Int × Int)) × (List (Int × (Option (List Int))))))) × (List (List (Int × (Int × (Option (List Int))))))) hf (λ (s262 : (List (Addr × (Int × (List (Int × Int)) × (List (Int × (Option (List Int))))))) × (List (List (Int × (Int × (Option (List Int))))))) H => M (lsR (vrI (R_Shelf K)) p63 s262.1 :: lsR (vr (dvR iI (vr (liR (qcR (vrD K eI) (q1R (vrD K (eO (eL eI))))))))) p87 s262.2 :: acR K p200 (((sno x186.2.2 5).set m252 3).map eI) :: da K u224 (eA x220) :: da K u193 ((eL eI) x186.2.2) :: bagR bag :: pt p103 (.tup [(V.ref p63), (V.ref p87)]) :: da K u39 ((eL (eL eI)) x36) :: da K (V.ref p9) ((eL eI) ([n2, n6])) :: Rs) H) (λ kk258 P259 hP260 hf => ?_) ?_
  ·
   refine g_and (g_not (g_B (g_var rfl (g_bl (v_iff hf (λ _ hf => ?_) (λ _ hf => ?_))))))
   ·
    refine g_not (g_B (g_call (g_cons (g_op (g_var rfl (g_var rfl ?_))))))
    obtain ⟨n271, x272, h273, h274, hf⟩ := hf
    refine v_ixLs S268 0 rfl h273 h274 λ u275 vs276 hv277 (S278 : M (vrI (R_Shelf K) u275 x272 :: pt p63 (.lst vs276) :: starR (vrI (R_Shelf K)) (vs276.eraseIdx n271) ((s131.1.set n226 (x227.1, m241)).eraseIdx n271) :: oo8 Rs) H255) => ?_
    obtain ⟨rfl, S282⟩ := M.pr S278
    have S284 : M (R_Shelf K x272.1 x272.2 :: oo10 Rs) H255 := S282
    refine g_cons (g_op (g_var rfl (g_var rfl ?_)))
    obtain ⟨n285, x286, h287, h288, hf⟩ := hf
    refine v_ixLs S284 3 rfl h287 h288 λ u289 vs290 hv291 (S292 : M (vr (dvR iI (vr (liR (qcR (vrD K eI) (q1R (vrD K (eO (eL eI)))))))) u289 x286 :: pt p87 (.lst vs290) :: starR (vr (dvR iI (vr (liR (qcR (vrD K eI) (q1R (vrD K (eO (eL eI))))))))) (vs290.eraseIdx n285) ((s131.2.set n204 m221).eraseIdx n285) :: oo10 Rs) H255) => ?_
    obtain ⟨p296, rfl, S297⟩ := M.vrO S292
    have S299 : M (dvR iI (vr (liR (qcR (vrD K eI) (q1R (vrD K (eO (eL eI))))))) p296 x286 :: oo12 Rs) H255 := S297
    refine g_cons (g_var rfl (g_nil (⟨_, _, _, _, _, _, _, rfl, (M.at (M.at S299 0 rfl) 3 rfl), hf, λ x300 m301 m302 H304 hf (S303 : M (R_Shelf K x272.1 m301 :: dvR iI (vr (liR (qcR (vrD K eI) (q1R (vrD K (eO (eL eI))))))) p296 m302 :: oo11 Rs) H304) => ?_⟩)))
    refine g_bl ?_
    have S307 : M (vrI (R_Shelf K) (V.ref x272.1) (x272.1, m301) :: oo12 Rs) H304 := M.pr' rfl (M.at S303 0 rfl)
    have S308 : M (lsR (vrI (R_Shelf K)) p63 ((s131.1.set n226 (x227.1, m241)).set n271 (x272.1, m301)) :: oo10 Rs) H304 := lsR_close hv277 h274 (M.pk S307 13 [0, 4, 5, 1, 2, 3, 6, 7, 8, 9, 10, 11, 12] rfl)
    have S310 : M (vr (dvR iI (vr (liR (qcR (vrD K eI) (q1R (vrD K (eO (eL eI)))))))) (V.ref p296) m302 :: oo10 Rs) H304 := M.vrC (M.at S308 1 rfl)
    have S311 : M (lsR (vr (dvR iI (vr (liR (qcR (vrD K eI) (q1R (vrD K (eO (eL eI))))))))) p87 ((s131.2.set n204 m221).set n285 m302) :: oo8 Rs) H304 := lsR_close hv291 h288 (M.pk S310 11 [0, 2, 3, 1, 4, 5, 6, 7, 8, 9, 10] rfl)
    exact hP260 _ _ _ hf (M.pk S311 9 [1, 0, 2, 3, 4, 5, 6, 7, 8] rfl)
   ·
    exact hP260 _ _ _ hf (M.pk S268 9 [0, 1, 2, 3, 4, 5, 6, 7, 8] rfl)
  intro c257 s262 H313 hf S312
  refine v_iff hf (λ _ hf => ?_) (λ _ hf => ?_)
  ·
   refine g_ret (g_c ?_)
   rw [show false = true from hf]
   exact k _
  ·
   refine g_next ?_
   exact ⟨_, hf, _, _, _, _, _, _, _, rfl, (M.sub (.cons 0 rfl (.cons 0 rfl (.cons 3 rfl (.cons 3 rfl (.cons 3 rfl (.cons 3 rfl (.tl (.tl (.tl (.refl _)))))))))) S312)⟩
 rintro s112 _ H315 hf ⟨o118, o119, o120, o121, o122, o123, o124, rfl, S314⟩
 refine g_nx ?_
 show (_ : TS) _ [some (V.ref sc), some (V.ref bag), some (V.int x33), some u39, o118, o119, some (V.ref p9), some (V.bl (decide (n14 = 0))), some (V.ref p63), some (V.ref p87), o120, o121, o122, o123, o124] _
 obtain ⟨h316, hf⟩ := hf
 refine g_seq (g_for (g_iRng3 (g_cons (g_op (g_cb (g_cons (g_var rfl (g_nil (v_lenLs S314 0 rfl (g_c (v_sub (g_cons (g_op (g_c (g_c (v_sub (g_cons (g_op (g_c (g_c (v_sub (g_nil (v_itR3 (by decide) h316 ?_)))))))))))))))))))))))
 refine for_rngD (β := (List (Addr × (Int × (List (Int × Int)) × (List (Int × (Option (List Int))))))) × (List (List (Int × (Int × (Option (List Int))))))) hf (λ (s317 : (List (Addr × (Int × (List (Int × Int)) × (List (Int × (Option (List Int))))))) × (List (List (Int × (Int × (Option (List Int))))))) σ H' => ∃ (o323 : Option V), σ = [some (V.ref sc), some (V.ref bag), some (V.int x33), some u39, o118, o323, some (V.ref p9), some (V.bl (decide (n14 = 0))), some (V.ref p63), some (V.ref p87), o120, o121, o122, o123, o124] /\ M (lsR (vrI (R_Shelf K)) p63 s317.1 :: lsR (vr (dvR iI (vr (liR (qcR (vrD K eI) (q1R (vrD K (eO (eL eI))))))))) p87 s317.2 :: bagR bag :: pt p103 (.tup [(V.ref p63), (V.ref p87)]) :: da K u39 ((eL (eL eI)) x36) :: da K (V.ref p9) ((eL eI) ([n2, n6])) :: Rs) H') ⟨_, rfl, (M.sub (.cons 0 rfl (.cons 0 rfl (.cons 0 rfl (.cons 0 rfl (.cons 0 rfl (.cons 0 rfl (.refl _))))))) S314)⟩ ?_ ?_
 ·
  rintro x320 s317 _ H325 kk319 ⟨o323, rfl, S324⟩ hf
  refine g_name (g_if (g_not (g_B (g_call (g_cons (g_op (g_var rfl (g_var rfl ?_))))))))
  obtain ⟨n326, x327, h328, h329, hf⟩ := hf
  refine v_ixLs S324 0 rfl h328 h329 λ u330 vs331 hv332 (S333 : M (vrI (R_Shelf K) u330 x327 :: pt p63 (.lst vs331) :: starR (vrI (R_Shelf K)) (vs331.eraseIdx n326) (s317.1.eraseIdx n326) :: oo5 Rs) H325) => ?_
  obtain ⟨rfl, S337⟩ := M.pr S333
  have S339 : M (R_Shelf K x327.1 x327.2 :: oo7 Rs) H325 := S337
  refine g_cons (g_op (g_var rfl (g_var rfl ?_)))
  obtain ⟨n340, x341, h342, h343, hf⟩ := hf
  refine v_ixLs S339 3 rfl h342 h343 λ u344 vs345 hv346 (S347 : M (vr (dvR iI (vr (liR (qcR (vrD K eI) (q1R (vrD K (eO (eL eI)))))))) u344 x341 :: pt p87 (.lst vs345) :: starR (vr (dvR iI (vr (liR (qcR (vrD K eI) (q1R (vrD K (eO (eL eI))))))))) (vs345.eraseIdx n340) (s317.2.eraseIdx n340) :: oo7 Rs) H325) => ?_
  obtain ⟨p351, rfl, S352⟩ := M.vrO S347
  have S354 : M (dvR iI (vr (liR (qcR (vrD K eI) (q1R (vrD K (eO (eL eI))))))) p351 x341 :: oo9 Rs) H325 := S352
  refine g_cons (g_var rfl (g_nil (⟨_, _, _, _, _, _, _, rfl, (M.at (M.at S354 0 rfl) 3 rfl), hf, λ x355 m356 m357 H359 hf (S358 : M (R_Shelf K x327.1 m356 :: dvR iI (vr (liR (qcR (vrD K eI) (q1R (vrD K (eO (eL eI))))))) p351 m357 :: oo8 Rs) H359) => ?_⟩)))
  refine g_bl (v_iff hf (λ _ hf => ?_) (λ _ hf => ?_))
  ·
   refine g_ret (g_c ?_)
   rw [show false = true from hf]
   exact k _
  ·
   refine g_next ?_
   have S362 : M (vrI (R_Shelf K) (V.ref x327.1) (x327.1, m356) :: oo9 Rs) H359 := M.pr' rfl (M.at S358 0 rfl)
   have S363 : M (lsR (vrI (R_Shelf K)) p63 (s317.1.set n326 (x327.1, m356)) :: oo7 Rs) H359 := lsR_close hv332 h329 (M.pk S362 10 [0, 4, 5, 1, 2, 3, 6, 7, 8, 9] rfl)
   have S365 : M (vr (dvR iI (vr (liR (qcR (vrD K eI) (q1R (vrD K (eO (eL eI)))))))) (V.ref p351) m357 :: oo7 Rs) H359 := M.vrC (M.at S363 1 rfl)
   have S366 : M (lsR (vr (dvR iI (vr (liR (qcR (vrD K eI) (q1R (vrD K (eO (eL eI))))))))) p87 (s317.2.set n340 m357) :: oo5 Rs) H359 := lsR_close hv346 h343 (M.pk S365 8 [0, 2, 3, 1, 4, 5, 6, 7] rfl)
   exact ⟨_, hf, _, rfl, (M.pk S366 6 [1, 0, 2, 3, 4, 5] rfl)⟩
 rintro s317 _ H368 hf ⟨o323, rfl, S367⟩
 refine g_nx ?_
 show (_ : TS) _ [some (V.ref sc), some (V.ref bag), some (V.int x33), some u39, o118, o323, some (V.ref p9), some (V.bl (decide (n14 = 0))), some (V.ref p63), some (V.ref p87), o120, o121, o122, o123, o124] _
 refine g_ret (g_c ?_)
 rw [show true = true from hf]
 exact k _
abbrev FunE (K : Fr) (n q : Str) (s : Stmt) (kw : List (Str × V)) (ad : Addr) : Prop := FunD K n q (defArgs s) (defBody s) (defScope s) [] kw ad (fdOf K ad)
structure Txt (K : Fr) (mg : Str -> Option Value) : Prop where
 F_l_bag : FunE K "_law_bag" "_law_bag" s_l_bag [] (He.ga K "_law_bag")
 F_l_take : FunE K "_law_take" "_law_take" s_l_take [] (He.ga K "_law_take")
 F_l_signs : FunE K "_law_signs" "_law_signs" s_l_signs [] (He.ga K "_law_signs")
 F_l_pool : FunE K "_law_pool" "_law_pool" s_l_pool [] (He.ga K "_law_pool")
 F_is_whole : FunE K "is_whole" "is_whole" s_is_whole [] (He.ga K "is_whole")
 F_is_room : FunE K "is_room" "is_room" s_is_room [] (He.ga K "is_room")
 F_Shelf___init__ : FunE K "__init__" "Shelf.__init__" s_Shelf___init__ [] (mA K "Shelf" "__init__")
 F_Shelf_copied : FunE K "copied" "Shelf.copied" s_Shelf_copied [] (mA K "Shelf" "copied")
 F_l_copy : FunE K "_law_copy" "_law_copy" s_l_copy [] (He.ga K "_law_copy")
 F_l_sum : FunE K "_law_sum" "_law_sum" s_l_sum [] (He.ga K "_law_sum")
 F_l_drawn : FunE K "_law_drawn" "_law_drawn" s_l_drawn [] (He.ga K "_law_drawn")
 F_l_whole : FunE K "_law_whole" "_law_whole" s_l_whole [] (He.ga K "_law_whole")
 F_l_are_signs : FunE K "_law_are_signs" "_law_are_signs" s_l_are_signs [] (He.ga K "_law_are_signs")
 F_l_laid : FunE K "_law_laid" "_law_laid" s_l_laid [] (He.ga K "_law_laid")
 F_l_back : FunE K "_law_back" "_law_back" s_l_back [] (He.ga K "_law_back")
 F_l_is_seal : FunE K "_law_is_seal" "_law_is_seal" s_l_is_seal [] (He.ga K "_law_is_seal")
 F_l_sound : FunE K "_law_sound" "_law_sound" s_l_sound [] (He.ga K "_law_sound")
 F_l_due : FunE K "_law_due" "_law_due" s_l_due [] (He.ga K "_law_due")
 F_l_alike : FunE K "_law_alike" "_law_alike" s_l_alike [] (He.ga K "_law_alike")
 F_is_sign : FunE K "is_sign" "is_sign" s_is_sign [] (He.ga K "is_sign")
 F_are_signs : FunE K "are_signs" "are_signs" s_are_signs [] (He.ga K "are_signs")
 F_seal_of : FunE K "seal_of" "seal_of" s_seal_of [] (He.ga K "seal_of")
 F_Shelf_free : FunE K "free" "Shelf.free" s_Shelf_free [] (mA K "Shelf" "free")
 F_Shelf_lay : FunE K "lay" "Shelf.lay" s_Shelf_lay [] (mA K "Shelf" "lay")
 F_is_seal : FunE K "is_seal" "is_seal" s_is_seal [] (He.ga K "is_seal")
 F_Shelf_need_kept : FunE K "need_kept" "Shelf.need_kept" s_Shelf_need_kept [] (mA K "Shelf" "need_kept")
 F_Shelf_hold : FunE K "hold" "Shelf.hold" s_Shelf_hold [] (mA K "Shelf" "hold")
 F_Shelf_let_go : FunE K "let_go" "Shelf.let_go" s_Shelf_let_go [] (mA K "Shelf" "let_go")
 F_Shelf_harm : FunE K "harm" "Shelf.harm" s_Shelf_harm [] (mA K "Shelf" "harm")
 F_Shelf_lose : FunE K "lose" "Shelf.lose" s_Shelf_lose [] (mA K "Shelf" "lose")
 F_Shelf_heal : FunE K "heal" "Shelf.heal" s_Shelf_heal [] (mA K "Shelf" "heal")
 F_Shelf_held : FunE K "held" "Shelf.held" s_Shelf_held [] (mA K "Shelf" "held")
 F_Shelf_has_sound : FunE K "has_sound" "Shelf.has_sound" s_Shelf_has_sound [] (mA K "Shelf" "has_sound")
 F_Shelf_is_sound : FunE K "is_sound" "Shelf.is_sound" s_Shelf_is_sound [] (mA K "Shelf" "is_sound")
 F_Shelf_read : FunE K "read" "Shelf.read" s_Shelf_read [] (mA K "Shelf" "read")
 F_l_deed : FunE K "_law_deed" "_law_deed" s_l_deed [] (He.ga K "_law_deed")
 F_l_refusal : FunE K "_law_refusal" "_law_refusal" s_l_refusal [] (He.ga K "_law_refusal")
 F_l_said : FunE K "_law_said" "_law_said" s_l_said [] (He.ga K "_law_said")
 F_l_state_due : FunE K "_law_state_due" "_law_state_due" s_l_state_due [] (He.ga K "_law_state_due")
 F_Shelf_seals : FunE K "seals" "Shelf.seals" s_Shelf_seals [] (mA K "Shelf" "seals")
 F_Shelf_broken : FunE K "broken" "Shelf.broken" s_Shelf_broken [] (mA K "Shelf" "broken")
 F_Shelf___len__ : FunE K "__len__" "Shelf.__len__" s_Shelf___len__ [] (mA K "Shelf" "__len__")
 F_l_state : FunE K "_law_state" "_law_state" s_l_state [] (He.ga K "_law_state")
 F_l_as_due : FunE K "_law_as_due" "_law_as_due" s_l_as_due [] (He.ga K "_law_as_due")
 F_law : FunE K "law" "law" s_law [] (He.ga K "law")
 F_Wrong___init__ : FunE K "__init__" "Wrong.__init__" s_Wrong___init__ [] (mA K "Wrong" "__init__")
 F_NoRoom___init__ : FunE K "__init__" "NoRoom.__init__" s_NoRoom___init__ [] (mA K "NoRoom" "__init__")
 F_NoPiece___init__ : FunE K "__init__" "NoPiece.__init__" s_NoPiece___init__ [] (mA K "NoPiece" "__init__")
 F_Unlike___init__ : FunE K "__init__" "Unlike.__init__" s_Unlike___init__ [] (mA K "Unlike" "__init__")
 F_Broken___init__ : FunE K "__init__" "Broken.__init__" s_Broken___init__ [] (mA K "Broken" "__init__")
 c_MOST_ROOM : ∃ t, mg "MOST_ROOM" = some (.int 400 t)
 c_MOST_SIGN : ∃ t, mg "MOST_SIGN" = some (.int 999 t)
 c_MOST_PIECE : ∃ t, mg "MOST_PIECE" = some (.int 16 t)
 c_BASE : ∃ t, mg "BASE" = some (.int 1001 t)
 g_l_bag : mg "_law_bag" = some (.ref (He.ga K "_law_bag"))
 g_l_take : mg "_law_take" = some (.ref (He.ga K "_law_take"))
 g_l_signs : mg "_law_signs" = some (.ref (He.ga K "_law_signs"))
 g_l_pool : mg "_law_pool" = some (.ref (He.ga K "_law_pool"))
 g_is_whole : mg "is_whole" = some (.ref (He.ga K "is_whole"))
 g_is_room : mg "is_room" = some (.ref (He.ga K "is_room"))
 g_l_copy : mg "_law_copy" = some (.ref (He.ga K "_law_copy"))
 g_l_sum : mg "_law_sum" = some (.ref (He.ga K "_law_sum"))
 g_l_drawn : mg "_law_drawn" = some (.ref (He.ga K "_law_drawn"))
 g_l_whole : mg "_law_whole" = some (.ref (He.ga K "_law_whole"))
 g_l_are_signs : mg "_law_are_signs" = some (.ref (He.ga K "_law_are_signs"))
 g_l_laid : mg "_law_laid" = some (.ref (He.ga K "_law_laid"))
 g_l_back : mg "_law_back" = some (.ref (He.ga K "_law_back"))
 g_l_is_seal : mg "_law_is_seal" = some (.ref (He.ga K "_law_is_seal"))
 g_l_sound : mg "_law_sound" = some (.ref (He.ga K "_law_sound"))
 g_l_due : mg "_law_due" = some (.ref (He.ga K "_law_due"))
 g_l_alike : mg "_law_alike" = some (.ref (He.ga K "_law_alike"))
 g_is_sign : mg "is_sign" = some (.ref (He.ga K "is_sign"))
 g_are_signs : mg "are_signs" = some (.ref (He.ga K "are_signs"))
 g_seal_of : mg "seal_of" = some (.ref (He.ga K "seal_of"))
 g_is_seal : mg "is_seal" = some (.ref (He.ga K "is_seal"))
 g_l_deed : mg "_law_deed" = some (.ref (He.ga K "_law_deed"))
 g_l_refusal : mg "_law_refusal" = some (.ref (He.ga K "_law_refusal"))
 g_l_said : mg "_law_said" = some (.ref (He.ga K "_law_said"))
 g_l_state_due : mg "_law_state_due" = some (.ref (He.ga K "_law_state_due"))
 g_l_state : mg "_law_state" = some (.ref (He.ga K "_law_state"))
 g_l_as_due : mg "_law_as_due" = some (.ref (He.ga K "_law_as_due"))
 g_law : mg "law" = some (.ref (He.ga K "law"))
 cg_Wrong : mg "Wrong" = some (.ref (He.ga K "Wrong"))
 cg_Shelf : mg "Shelf" = some (.ref (He.ga K "Shelf"))
 cg_NoRoom : mg "NoRoom" = some (.ref (He.ga K "NoRoom"))
 cg_NoPiece : mg "NoPiece" = some (.ref (He.ga K "NoPiece"))
 cg_Unlike : mg "Unlike" = some (.ref (He.ga K "Unlike"))
 cg_Broken : mg "Broken" = some (.ref (He.ga K "Broken"))
 cg_StoreError : mg "StoreError" = some (.ref (He.ga K "StoreError"))
 cg_Missing : mg "Missing" = some (.ref (He.ga K "Missing"))
 cg_Halted : mg "Halted" = some (.ref (He.ga K "Halted"))
 cl_Shelf : Cls K (He.ga K "Shelf")
 mk_Shelf : Mk K (He.ga K "Shelf") (mA K "Shelf" "__init__")
 na_Shelf_room : NoAttr K (He.ga K "Shelf") "room"
 na_Shelf_counts : NoAttr K (He.ga K "Shelf") "counts"
 na_Shelf_bodies : NoAttr K (He.ga K "Shelf") "bodies"
 me_Shelf_copied : Meth K (He.ga K "Shelf") "copied" (mA K "Shelf" "copied")
 me_Shelf_free : Meth K (He.ga K "Shelf") "free" (mA K "Shelf" "free")
 me_Shelf_lay : Meth K (He.ga K "Shelf") "lay" (mA K "Shelf" "lay")
 me_Shelf_need_kept : Meth K (He.ga K "Shelf") "need_kept" (mA K "Shelf" "need_kept")
 me_Shelf_hold : Meth K (He.ga K "Shelf") "hold" (mA K "Shelf" "hold")
 me_Shelf_let_go : Meth K (He.ga K "Shelf") "let_go" (mA K "Shelf" "let_go")
 me_Shelf_harm : Meth K (He.ga K "Shelf") "harm" (mA K "Shelf" "harm")
 me_Shelf_lose : Meth K (He.ga K "Shelf") "lose" (mA K "Shelf" "lose")
 me_Shelf_heal : Meth K (He.ga K "Shelf") "heal" (mA K "Shelf" "heal")
 me_Shelf_held : Meth K (He.ga K "Shelf") "held" (mA K "Shelf" "held")
 me_Shelf_has_sound : Meth K (He.ga K "Shelf") "has_sound" (mA K "Shelf" "has_sound")
 me_Shelf_is_sound : Meth K (He.ga K "Shelf") "is_sound" (mA K "Shelf" "is_sound")
 me_Shelf_read : Meth K (He.ga K "Shelf") "read" (mA K "Shelf" "read")
 me_Shelf_seals : Meth K (He.ga K "Shelf") "seals" (mA K "Shelf" "seals")
 me_Shelf_broken : Meth K (He.ga K "Shelf") "broken" (mA K "Shelf" "broken")
 me_Shelf___len__ : Meth K (He.ga K "Shelf") "__len__" (mA K "Shelf" "__len__")
 xb_Wrong : XcB K (He.ga K "Wrong") "ValueError" "ValueError.__new__" "ValueError.__init__" (tlB "ValueError")
 xf_Wrong : PySem.W.findIn K (.ref (He.ga K "Wrong")) "__init__" = some (some (.ref (mA K "Wrong" "__init__"))) /\ PySem.W.typeIn K (.ref (mA K "Wrong" "__init__")) = some (.type "function")
 xc_Wrong : ExcC K (He.ga K "Wrong")
 xn_Wrong_at : chN K "Wrong" "at" = true
 xi_StoreError : XcI K (He.ga K "StoreError") "ValueError.__init__"
 xm_Wrong_StoreError : PySem.W.exmOne K (.ref (He.ga K "Wrong")) (.ref (He.ga K "StoreError")) = some true
 xm_Wrong_Missing : PySem.W.exmOne K (.ref (He.ga K "Wrong")) (.ref (He.ga K "Missing")) = some false
 xm_Wrong_Halted : PySem.W.exmOne K (.ref (He.ga K "Wrong")) (.ref (He.ga K "Halted")) = some false
 xk_Wrong_Wrong : PySem.W.kitOne K (.ref (He.ga K "Wrong")) (.ref (He.ga K "Wrong")) = some true
 xk_Wrong_NoRoom : PySem.W.kitOne K (.ref (He.ga K "Wrong")) (.ref (He.ga K "NoRoom")) = some false
 xk_Wrong_NoPiece : PySem.W.kitOne K (.ref (He.ga K "Wrong")) (.ref (He.ga K "NoPiece")) = some false
 xk_Wrong_Unlike : PySem.W.kitOne K (.ref (He.ga K "Wrong")) (.ref (He.ga K "Unlike")) = some false
 xk_Wrong_Broken : PySem.W.kitOne K (.ref (He.ga K "Wrong")) (.ref (He.ga K "Broken")) = some false
 xb_NoRoom : XcB K (He.ga K "NoRoom") "RuntimeError" "RuntimeError.__new__" "RuntimeError.__init__" (tlB "RuntimeError")
 xf_NoRoom : PySem.W.findIn K (.ref (He.ga K "NoRoom")) "__init__" = some (some (.ref (mA K "NoRoom" "__init__"))) /\ PySem.W.typeIn K (.ref (mA K "NoRoom" "__init__")) = some (.type "function")
 xc_NoRoom : ExcC K (He.ga K "NoRoom")
 xn_NoRoom_room : chN K "NoRoom" "room" = true
 xi_Halted : XcI K (He.ga K "Halted") "RuntimeError.__init__"
 xm_NoRoom_StoreError : PySem.W.exmOne K (.ref (He.ga K "NoRoom")) (.ref (He.ga K "StoreError")) = some false
 xm_NoRoom_Missing : PySem.W.exmOne K (.ref (He.ga K "NoRoom")) (.ref (He.ga K "Missing")) = some false
 xm_NoRoom_Halted : PySem.W.exmOne K (.ref (He.ga K "NoRoom")) (.ref (He.ga K "Halted")) = some true
 xk_NoRoom_Wrong : PySem.W.kitOne K (.ref (He.ga K "NoRoom")) (.ref (He.ga K "Wrong")) = some false
 xk_NoRoom_NoRoom : PySem.W.kitOne K (.ref (He.ga K "NoRoom")) (.ref (He.ga K "NoRoom")) = some true
 xk_NoRoom_NoPiece : PySem.W.kitOne K (.ref (He.ga K "NoRoom")) (.ref (He.ga K "NoPiece")) = some false
 xk_NoRoom_Unlike : PySem.W.kitOne K (.ref (He.ga K "NoRoom")) (.ref (He.ga K "Unlike")) = some false
 xk_NoRoom_Broken : PySem.W.kitOne K (.ref (He.ga K "NoRoom")) (.ref (He.ga K "Broken")) = some false
 xb_NoPiece : XcB K (He.ga K "NoPiece") "LookupError" "LookupError.__new__" "LookupError.__init__" (tlB "LookupError")
 xf_NoPiece : PySem.W.findIn K (.ref (He.ga K "NoPiece")) "__init__" = some (some (.ref (mA K "NoPiece" "__init__"))) /\ PySem.W.typeIn K (.ref (mA K "NoPiece" "__init__")) = some (.type "function")
 xc_NoPiece : ExcC K (He.ga K "NoPiece")
 xn_NoPiece_seal : chN K "NoPiece" "seal" = true
 xi_Missing : XcI K (He.ga K "Missing") "LookupError.__init__"
 xm_NoPiece_StoreError : PySem.W.exmOne K (.ref (He.ga K "NoPiece")) (.ref (He.ga K "StoreError")) = some false
 xm_NoPiece_Missing : PySem.W.exmOne K (.ref (He.ga K "NoPiece")) (.ref (He.ga K "Missing")) = some true
 xm_NoPiece_Halted : PySem.W.exmOne K (.ref (He.ga K "NoPiece")) (.ref (He.ga K "Halted")) = some false
 xk_NoPiece_Wrong : PySem.W.kitOne K (.ref (He.ga K "NoPiece")) (.ref (He.ga K "Wrong")) = some false
 xk_NoPiece_NoRoom : PySem.W.kitOne K (.ref (He.ga K "NoPiece")) (.ref (He.ga K "NoRoom")) = some false
 xk_NoPiece_NoPiece : PySem.W.kitOne K (.ref (He.ga K "NoPiece")) (.ref (He.ga K "NoPiece")) = some true
 xk_NoPiece_Unlike : PySem.W.kitOne K (.ref (He.ga K "NoPiece")) (.ref (He.ga K "Unlike")) = some false
 xk_NoPiece_Broken : PySem.W.kitOne K (.ref (He.ga K "NoPiece")) (.ref (He.ga K "Broken")) = some false
 xb_Unlike : XcB K (He.ga K "Unlike") "ValueError" "ValueError.__new__" "ValueError.__init__" (tlB "ValueError")
 xf_Unlike : PySem.W.findIn K (.ref (He.ga K "Unlike")) "__init__" = some (some (.ref (mA K "Unlike" "__init__"))) /\ PySem.W.typeIn K (.ref (mA K "Unlike" "__init__")) = some (.type "function")
 xc_Unlike : ExcC K (He.ga K "Unlike")
 xn_Unlike_seal : chN K "Unlike" "seal" = true
 xm_Unlike_StoreError : PySem.W.exmOne K (.ref (He.ga K "Unlike")) (.ref (He.ga K "StoreError")) = some true
 xm_Unlike_Missing : PySem.W.exmOne K (.ref (He.ga K "Unlike")) (.ref (He.ga K "Missing")) = some false
 xm_Unlike_Halted : PySem.W.exmOne K (.ref (He.ga K "Unlike")) (.ref (He.ga K "Halted")) = some false
 xk_Unlike_Wrong : PySem.W.kitOne K (.ref (He.ga K "Unlike")) (.ref (He.ga K "Wrong")) = some false
 xk_Unlike_NoRoom : PySem.W.kitOne K (.ref (He.ga K "Unlike")) (.ref (He.ga K "NoRoom")) = some false
 xk_Unlike_NoPiece : PySem.W.kitOne K (.ref (He.ga K "Unlike")) (.ref (He.ga K "NoPiece")) = some false
 xk_Unlike_Unlike : PySem.W.kitOne K (.ref (He.ga K "Unlike")) (.ref (He.ga K "Unlike")) = some true
 xk_Unlike_Broken : PySem.W.kitOne K (.ref (He.ga K "Unlike")) (.ref (He.ga K "Broken")) = some false
 xb_Broken : XcB K (He.ga K "Broken") "RuntimeError" "RuntimeError.__new__" "RuntimeError.__init__" (tlB "RuntimeError")
 xf_Broken : PySem.W.findIn K (.ref (He.ga K "Broken")) "__init__" = some (some (.ref (mA K "Broken" "__init__"))) /\ PySem.W.typeIn K (.ref (mA K "Broken" "__init__")) = some (.type "function")
 xc_Broken : ExcC K (He.ga K "Broken")
 xn_Broken_seal : chN K "Broken" "seal" = true
 xm_Broken_StoreError : PySem.W.exmOne K (.ref (He.ga K "Broken")) (.ref (He.ga K "StoreError")) = some false
 xm_Broken_Missing : PySem.W.exmOne K (.ref (He.ga K "Broken")) (.ref (He.ga K "Missing")) = some false
 xm_Broken_Halted : PySem.W.exmOne K (.ref (He.ga K "Broken")) (.ref (He.ga K "Halted")) = some true
 xk_Broken_Wrong : PySem.W.kitOne K (.ref (He.ga K "Broken")) (.ref (He.ga K "Wrong")) = some false
 xk_Broken_NoRoom : PySem.W.kitOne K (.ref (He.ga K "Broken")) (.ref (He.ga K "NoRoom")) = some false
 xk_Broken_NoPiece : PySem.W.kitOne K (.ref (He.ga K "Broken")) (.ref (He.ga K "NoPiece")) = some false
 xk_Broken_Unlike : PySem.W.kitOne K (.ref (He.ga K "Broken")) (.ref (He.ga K "Unlike")) = some false
 xk_Broken_Broken : PySem.W.kitOne K (.ref (He.ga K "Broken")) (.ref (He.ga K "Broken")) = some true
 b_abs : mg "abs" = none
 b_len : mg "len" = none
 b_range : mg "range" = none
 b_list : mg "list" = none
 b_isinstance : mg "isinstance" = none
 b_int : mg "int" = none
 b_bool : mg "bool" = none
 b_dict : mg "dict" = none
 b_tuple : mg "tuple" = none
 b_repr : mg "repr" = none
 b_reversed : mg "reversed" = none
 b_sorted : mg "sorted" = none
theorem Txt.c {K : Fr} {mg : Str -> Option Value} (T : Txt K mg) : TxC K := ⟨T.cl_Shelf, T.na_Shelf_room, T.na_Shelf_counts, T.na_Shelf_bodies, T.xc_Wrong, T.xn_Wrong_at, T.xm_Wrong_StoreError, T.xm_Wrong_Missing, T.xm_Wrong_Halted, T.xk_Wrong_Wrong, T.xk_Wrong_NoRoom, T.xk_Wrong_NoPiece, T.xk_Wrong_Unlike, T.xk_Wrong_Broken, T.xc_NoRoom, T.xn_NoRoom_room, T.xm_NoRoom_StoreError, T.xm_NoRoom_Missing, T.xm_NoRoom_Halted, T.xk_NoRoom_Wrong, T.xk_NoRoom_NoRoom, T.xk_NoRoom_NoPiece, T.xk_NoRoom_Unlike, T.xk_NoRoom_Broken, T.xc_NoPiece, T.xn_NoPiece_seal, T.xm_NoPiece_StoreError, T.xm_NoPiece_Missing, T.xm_NoPiece_Halted, T.xk_NoPiece_Wrong, T.xk_NoPiece_NoRoom, T.xk_NoPiece_NoPiece, T.xk_NoPiece_Unlike, T.xk_NoPiece_Broken, T.xc_Unlike, T.xn_Unlike_seal, T.xm_Unlike_StoreError, T.xm_Unlike_Missing, T.xm_Unlike_Halted, T.xk_Unlike_Wrong, T.xk_Unlike_NoRoom, T.xk_Unlike_NoPiece, T.xk_Unlike_Unlike, T.xk_Unlike_Broken, T.xc_Broken, T.xn_Broken_seal, T.xm_Broken_StoreError, T.xm_Broken_Missing, T.xm_Broken_Halted, T.xk_Broken_Wrong, T.xk_Broken_NoRoom, T.xk_Broken_NoPiece, T.xk_Broken_Unlike, T.xk_Broken_Broken⟩
local macro_rules | `(tactic| walk_at "oz") => `(tactic| first | exact Or.inl rfl | exact Or.inr rfl)
local macro_rules | `(tactic| walk_at "fs") => `(tactic| exact ⟨rfl, rfl, rfl, by decide +kernel, rfl, by decide +kernel, by decide +kernel⟩)
theorem nz {p : Prop} (h : false = true) : p := nomatch h
section
variable {P : Program} {w : World} {K : Fr} {mg : Str -> Option Value} {base : Heap}
theorem sc_Wrong___init__ : FnScope ["self", "at"] ["self", "at"] (defScope s_Wrong___init__) := (by walk_at "fs")
theorem bd_Wrong___init__ (T : Txt K mg) : Binds K (fdOf K (mA K "Wrong" "__init__")) ["self", "at"] [] := T.F_Wrong___init__.bindsN λ _ _ _ _ _ _ us hl => match us, hl with | [_, _], _ => rfl
theorem ok_Wrong___init__ (T : Txt K mg) : FnX false P w K mg base CX0 1 (mA K "Wrong" "__init__") (fdOf K (mA K "Wrong" "__init__")) ["self", "at"] (spX (He.ga K "Wrong") "at") := by
 refine okX T.F_Wrong___init__ sc_Wrong___init__ lenX (λ cdv A outer s H vs Q E hgu0 hr h => ⟨_, PSs.nox ?_, pureX (msg := "not what is wanted here") rfl T.xb_Wrong (chN_ok T.xn_Wrong_at) vs H Q E h⟩)
 exact (pss_cons (ps_expr (pe_xi rfl T.cg_StoreError T.xi_StoreError (pa_cons (pv 0) (pa_cons pe_str pa_nil)))) (pss_one (ps_xs (pv 0) (pv 1))))
theorem sc_NoRoom___init__ : FnScope ["self", "room"] ["self", "room"] (defScope s_NoRoom___init__) := (by walk_at "fs")
theorem bd_NoRoom___init__ (T : Txt K mg) : Binds K (fdOf K (mA K "NoRoom" "__init__")) ["self", "room"] [] := T.F_NoRoom___init__.bindsN λ _ _ _ _ _ _ us hl => match us, hl with | [_, _], _ => rfl
theorem ok_NoRoom___init__ (T : Txt K mg) : FnX false P w K mg base CX0 1 (mA K "NoRoom" "__init__") (fdOf K (mA K "NoRoom" "__init__")) ["self", "room"] (spX (He.ga K "NoRoom") "room") := by
 refine okX T.F_NoRoom___init__ sc_NoRoom___init__ lenX (λ cdv A outer s H vs Q E hgu0 hr h => ⟨_, PSs.nox ?_, pureX (msg := "it is full") rfl T.xb_NoRoom (chN_ok T.xn_NoRoom_room) vs H Q E h⟩)
 exact (pss_cons (ps_expr (pe_xi rfl T.cg_Halted T.xi_Halted (pa_cons (pv 0) (pa_cons pe_str pa_nil)))) (pss_one (ps_xs (pv 0) (pv 1))))
theorem sc_NoPiece___init__ : FnScope ["self", "seal"] ["self", "seal"] (defScope s_NoPiece___init__) := (by walk_at "fs")
theorem bd_NoPiece___init__ (T : Txt K mg) : Binds K (fdOf K (mA K "NoPiece" "__init__")) ["self", "seal"] [] := T.F_NoPiece___init__.bindsN λ _ _ _ _ _ _ us hl => match us, hl with | [_, _], _ => rfl
theorem ok_NoPiece___init__ (T : Txt K mg) : FnX false P w K mg base CX0 1 (mA K "NoPiece" "__init__") (fdOf K (mA K "NoPiece" "__init__")) ["self", "seal"] (spX (He.ga K "NoPiece") "seal") := by
 refine okX T.F_NoPiece___init__ sc_NoPiece___init__ lenX (λ cdv A outer s H vs Q E hgu0 hr h => ⟨_, PSs.nox ?_, pureX (msg := "no such piece") rfl T.xb_NoPiece (chN_ok T.xn_NoPiece_seal) vs H Q E h⟩)
 exact (pss_cons (ps_expr (pe_xi rfl T.cg_Missing T.xi_Missing (pa_cons (pv 0) (pa_cons pe_str pa_nil)))) (pss_one (ps_xs (pv 0) (pv 1))))
theorem sc_Unlike___init__ : FnScope ["self", "seal"] ["self", "seal"] (defScope s_Unlike___init__) := (by walk_at "fs")
theorem bd_Unlike___init__ (T : Txt K mg) : Binds K (fdOf K (mA K "Unlike" "__init__")) ["self", "seal"] [] := T.F_Unlike___init__.bindsN λ _ _ _ _ _ _ us hl => match us, hl with | [_, _], _ => rfl
theorem ok_Unlike___init__ (T : Txt K mg) : FnX false P w K mg base CX0 1 (mA K "Unlike" "__init__") (fdOf K (mA K "Unlike" "__init__")) ["self", "seal"] (spX (He.ga K "Unlike") "seal") := by
 refine okX T.F_Unlike___init__ sc_Unlike___init__ lenX (λ cdv A outer s H vs Q E hgu0 hr h => ⟨_, PSs.nox ?_, pureX (msg := "other signs") rfl T.xb_Unlike (chN_ok T.xn_Unlike_seal) vs H Q E h⟩)
 exact (pss_cons (ps_expr (pe_xi rfl T.cg_StoreError T.xi_StoreError (pa_cons (pv 0) (pa_cons pe_str pa_nil)))) (pss_one (ps_xs (pv 0) (pv 1))))
theorem sc_Broken___init__ : FnScope ["self", "seal"] ["self", "seal"] (defScope s_Broken___init__) := (by walk_at "fs")
theorem bd_Broken___init__ (T : Txt K mg) : Binds K (fdOf K (mA K "Broken" "__init__")) ["self", "seal"] [] := T.F_Broken___init__.bindsN λ _ _ _ _ _ _ us hl => match us, hl with | [_, _], _ => rfl
theorem ok_Broken___init__ (T : Txt K mg) : FnX false P w K mg base CX0 1 (mA K "Broken" "__init__") (fdOf K (mA K "Broken" "__init__")) ["self", "seal"] (spX (He.ga K "Broken") "seal") := by
 refine okX T.F_Broken___init__ sc_Broken___init__ lenX (λ cdv A outer s H vs Q E hgu0 hr h => ⟨_, PSs.nox ?_, pureX (msg := "it is not whole") rfl T.xb_Broken (chN_ok T.xn_Broken_seal) vs H Q E h⟩)
 exact (pss_cons (ps_expr (pe_xi rfl T.cg_Halted T.xi_Halted (pa_cons (pv 0) (pa_cons pe_str pa_nil)))) (pss_one (ps_xs (pv 0) (pv 1))))
theorem sc_l_bag : FnScope ["_law_script", "_law_cell"] ["_law_script"] (defScope s_l_bag) := (by walk_at "fs")
theorem bd_l_bag (T : Txt K mg) : Binds K (fdOf K (He.ga K "_law_bag")) ["_law_script"] [] := T.F_l_bag.bindsN λ _ _ _ _ _ _ us hl => match us, hl with | [_], _ => rfl
theorem ok_l_bag (T : Txt K mg) (nd : NDX base) : FnX false P w K mg base CX0 1 (He.ga K "_law_bag") (fdOf K (He.ga K "_law_bag")) ["_law_script"] (sp_l_bag K) := by
 refine okX T.F_l_bag sc_l_bag len_l_bag (λ cdv A outer s H vs Q E hgu0 hr h => ⟨t_l_bag K, PSs.nox ?_, pure_l_bag vs H Q E h⟩)
 exact (pss_one (ps_ret (pe_lst (pa_cons pe_int (pa_cons pe_int (pa_cons pe_int (pa_cons (pe_lc (own := [("_law_cell", 1)]) (g := (gName 1)) (tt := tYes) rfl sc_l_bag.nd (pi_list (pe_slice sl_any (pv 0) po_none (po_some pe_int))) (blkOk_by (own := [("_law_cell", 1)]) (N := ["_law_script", "_law_cell"]) (sc := defScope s_l_bag) (by decide +kernel)) (λ _ _ _ _ _ => (pg_name (i := 1) sc_l_bag.nd rfl (by walk_at "oz"))) (λ _ _ _ _ _ => pts_nil) (λ _ _ _ _ _ => (pe_callB cr_abs (by rfl) T.b_abs (by decide +kernel) (pa_cons (pv 1) pa_nil)))) pa_nil)))))))
theorem sc_l_take : FnScope ["_law_bag_here", "_law_many", "_law_first", "_law_second", "_law_cell", "_law_value"] ["_law_bag_here", "_law_many"] (defScope s_l_take) := (by walk_at "fs")
theorem bd_l_take (T : Txt K mg) : Binds K (fdOf K (He.ga K "_law_take")) ["_law_bag_here", "_law_many"] [] := T.F_l_take.bindsN λ _ _ _ _ _ _ us hl => match us, hl with | [_, _], _ => rfl
theorem ok_l_take (T : Txt K mg) (nd : NDX base) : FnX false P w K mg base CX0 1 (He.ga K "_law_take") (fdOf K (He.ga K "_law_take")) ["_law_bag_here", "_law_many"] (sp_l_take K) := by
 refine okX T.F_l_take sc_l_take len_l_take (λ cdv A outer s H vs Q E hgu0 hr h => ⟨t_l_take K, PSs.nox ?_, pure_l_take vs H Q E h⟩)
 exact (pss_cons (ps_if (pt_cmpR (uo_eq hr.units) (pe_ix ix_any (pv 0) pe_int (λ _ _ => rfl)) pe_int (nomark _)) (pss_cons (ps_set (i := 4) sc_l_take.nd rfl (by walk_at "oz") pe_int)
     (pss_cons (ps_if (pt_cmpR uo_lt (pe_ix ix_any (pv 0) pe_int (λ _ _ => rfl)) (pe_callB cr_len (by rfl) T.b_len (by decide +kernel) (pa_cons (pe_ix ix_any (pv 0) pe_int (λ _ _ => rfl)) pa_nil)) (nomark _)) (pss_one (ps_set (i := 4) sc_l_take.nd rfl (by walk_at "oz") (pe_ix ix_any (pe_ix ix_any (pv 0) pe_int (λ _ _ => rfl)) (pe_ix ix_any (pv 0) pe_int (λ _ _ => rfl)) (λ _ _ => rfl)))) pss_nil)
     (pss_cons (ps_augS (pv 0) pe_int (get_any hr.u1) pe_int (ip_of io_add) (set_any hr.u1))
     (pss_cons (ps_if (pt_cmpR uo_ge (pv 4) pe_int (nomark _)) (pss_one (ps_asg (pv 4) (pg_sub (pv 0) pe_int (set_any hr.u1)))) pss_nil)
     (pss_one (ps_asg (pe_op uo_mod (pe_op uo_add (pe_op uo_add (pe_op uo_mul (pe_ix ix_any (pv 0) pe_int (λ _ _ => rfl)) pe_int) (pe_op uo_mod (pv 4) pe_int)) (pe_op uo_mul pe_int (pe_ix ix_any (pv 0) pe_int (λ _ _ => rfl)))) pe_int) (pg_sub (pv 0) pe_int (set_any hr.u1)))))))) pss_nil)
     (pss_cons (ps_if (pt_cmpR uo_gt (pe_ix ix_any (pv 0) pe_int (λ _ _ => rfl)) pe_int (nomark _)) (pss_cons (ps_set (i := 5) sc_l_take.nd rfl (by walk_at "oz") (pe_op uo_mod (pe_ix ix_any (pv 0) pe_int (λ _ _ => rfl)) (pv 1)))
     (pss_cons (ps_asg (pe_op uo_div (pe_ix ix_any (pv 0) pe_int (λ _ _ => rfl)) (pv 1)) (pg_sub (pv 0) pe_int (set_any hr.u1)))
     (pss_one (ps_ret (pv 5))))) pss_nil)
     (pss_cons (ps_set (i := 2) sc_l_take.nd rfl (by walk_at "oz") (pe_op uo_mod (pe_op uo_mul (pe_op uo_add (pe_ix ix_any (pv 0) pe_int (λ _ _ => rfl)) pe_int) pe_int) pe_int))
     (pss_cons (ps_set (i := 3) sc_l_take.nd rfl (by walk_at "oz") (pe_op uo_mod (pe_op uo_mul (pe_op uo_mod (pe_op uo_mul (pv 2) (pv 2)) pe_int) pe_int) pe_int))
     (pss_cons (ps_if (pt_cmpR uo_gt (pv 1) pe_int (nomark _)) (pss_one (ps_ret (pe_op uo_mod (pe_op uo_add (pe_op uo_mul (pv 3) pe_int) (pv 2)) (pv 1)))) pss_nil)
     (pss_one (ps_ret (pe_op uo_mod (pe_op uo_div (pv 3) pe_int) (pv 1)))))))))
theorem sc_l_signs : FnScope ["_law_bag_here", "_law_many", "_law_top", "_law_found", "_law_k"] ["_law_bag_here"] (defScope s_l_signs) := (by walk_at "fs")
theorem bd_l_signs (T : Txt K mg) : Binds K (fdOf K (He.ga K "_law_signs")) ["_law_bag_here"] [] := T.F_l_signs.bindsN λ _ _ _ _ _ _ us hl => match us, hl with | [_], _ => rfl
theorem ok_l_signs (T : Txt K mg) (nd : NDX base) : FnX false P w K mg base CX0 2 (He.ga K "_law_signs") (fdOf K (He.ga K "_law_signs")) ["_law_bag_here"] (sp_l_signs K) := by
 refine okX T.F_l_signs sc_l_signs len_l_signs (λ cdv A outer s H vs Q E hgu0 hr h => ⟨t_l_signs K, PSs.nox ?_, pure_l_signs vs H Q E h⟩)
 exact (pss_cons (ps_set (i := 1) sc_l_signs.nd rfl (by walk_at "oz") (pe_ix ix_any (pe_lst (pa_cons pe_int (pa_cons pe_int (pa_cons (pe_op uo_add pe_int (pe_callX (ok_l_take T nd) nz hr rfl T.g_l_take T.F_l_take.kp (bd_l_take T) .nil pass0 (pa_cons (pv 0) (pa_cons pe_int pa_nil)))) (pa_cons pe_int pa_nil))))) (pe_callX (ok_l_take T nd) nz hr rfl T.g_l_take T.F_l_take.kp (bd_l_take T) .nil pass0 (pa_cons (pv 0) (pa_cons pe_int pa_nil))) (λ _ _ => rfl)))
     (pss_cons (ps_set (i := 2) sc_l_signs.nd rfl (by walk_at "oz") (pe_ix ix_any (pe_lst (pa_cons pe_int (pa_cons pe_int (pa_cons pe_int pa_nil)))) (pe_callX (ok_l_take T nd) nz hr rfl T.g_l_take T.F_l_take.kp (bd_l_take T) .nil pass0 (pa_cons (pv 0) (pa_cons pe_int pa_nil))) (λ _ _ => rfl)))
     (pss_cons (ps_setLc (i := 3) (own := [("_law_k", 4)]) (g := (gName 4)) (tt := tYes) rfl sc_l_signs.nd rfl rfl (sw_true rfl rfl rfl (by decide +kernel)) (pi_range1 (by rfl) T.b_range (pa_cons (pv 1) pa_nil)) (blkOk_by (own := [("_law_k", 4)]) (N := ["_law_bag_here", "_law_many", "_law_top", "_law_found", "_law_k"]) (sc := defScope s_l_signs) (by decide +kernel)) (λ _ _ _ _ _ => (pg_name (i := 4) sc_l_signs.nd rfl (by walk_at "oz"))) (λ _ _ _ _ _ => pts_nil) (λ _ _ _ _ _ => (pe_callX (ok_l_take T nd) nz hr rfl T.g_l_take T.F_l_take.kp (bd_l_take T) .nil pass0 (pa_cons (pv 0) (pa_cons (pv 2) pa_nil)))))
     (pss_cons (ps_if (pt_cmpR (uo_eq hr.units) (pe_callX (ok_l_take T nd) nz hr rfl T.g_l_take T.F_l_take.kp (bd_l_take T) .nil pass0 (pa_cons (pv 0) (pa_cons pe_int pa_nil))) pe_int (nomark _)) (pss_one (ps_asg pe_int (pg_sub (pv 3) (pe_callX (ok_l_take T nd) nz hr rfl T.g_l_take T.F_l_take.kp (bd_l_take T) .nil pass0 (pa_cons (pv 0) (pa_cons (pv 1) pa_nil))) (set_any hr.u1)))) pss_nil)
     (pss_one (ps_ret (pv 3)))))))
theorem sc_l_pool : FnScope ["_law_bag_here", "_law_found", "_law_k", "_law_signs_here", "_law_more"] ["_law_bag_here"] (defScope s_l_pool) := (by walk_at "fs")
theorem bd_l_pool (T : Txt K mg) : Binds K (fdOf K (He.ga K "_law_pool")) ["_law_bag_here"] [] := T.F_l_pool.bindsN λ _ _ _ _ _ _ us hl => match us, hl with | [_], _ => rfl
theorem ok_l_pool (T : Txt K mg) (nd : NDX base) : FnX false P w K mg base CX0 3 (He.ga K "_law_pool") (fdOf K (He.ga K "_law_pool")) ["_law_bag_here"] (sp_l_pool K) := by
 refine okX T.F_l_pool sc_l_pool len_l_pool (λ cdv A outer s H vs Q E hgu0 hr h => ⟨t_l_pool K, PSs.nox ?_, pure_l_pool vs H Q E h⟩)
 exact (pss_cons (ps_set (i := 1) sc_l_pool.nd rfl (by walk_at "oz") (pe_lst (pa_cons (pe_callX (ok_l_signs T nd) nz hr rfl T.g_l_signs T.F_l_signs.kp (bd_l_signs T) .nil pass0 (pa_cons (pv 0) pa_nil)) pa_nil)))
     (pss_cons (ps_for PassesOwn.never rfl (pi_range1 (by rfl) T.b_range (pa_cons (pe_op uo_add pe_int (pe_callX (ok_l_take T nd) nz (hr.mono (by decide)) rfl T.g_l_take T.F_l_take.kp (bd_l_take T) .nil pass0 (pa_cons (pv 0) (pa_cons pe_int pa_nil)))) pa_nil)) (pg_name (i := 2) sc_l_pool.nd rfl (by walk_at "oz")) (pss_cons (ps_set (i := 3) sc_l_pool.nd rfl (by walk_at "oz") (pe_callTy cr_list (by rfl) T.b_list (by decide +kernel) (pa_cons (pe_ix ix_any (pv 1) (pe_callX (ok_l_take T nd) nz (hr.mono (by decide)) rfl T.g_l_take T.F_l_take.kp (bd_l_take T) .nil pass0 (pa_cons (pv 0) (pa_cons (pe_callB cr_len (by rfl) T.b_len (by decide +kernel) (pa_cons (pv 1) pa_nil)) pa_nil))) (λ _ _ => rfl)) pa_nil)))
     (pss_cons (ps_asg (pe_callX (ok_l_take T nd) nz (hr.mono (by decide)) rfl T.g_l_take T.F_l_take.kp (bd_l_take T) .nil pass0 (pa_cons (pv 0) (pa_cons pe_int pa_nil))) (pg_sub (pv 3) (pe_callX (ok_l_take T nd) nz (hr.mono (by decide)) rfl T.g_l_take T.F_l_take.kp (bd_l_take T) .nil pass0 (pa_cons (pv 0) (pa_cons (pe_callB cr_len (by rfl) T.b_len (by decide +kernel) (pa_cons (pv 3) pa_nil)) pa_nil))) (set_any hr.u1)))
     (pss_cons (ps_set (i := 4) sc_l_pool.nd rfl (by walk_at "oz") (pe_lst (pa_cons (pe_callX (ok_l_take T nd) nz (hr.mono (by decide)) rfl T.g_l_take T.F_l_take.kp (bd_l_take T) .nil pass0 (pa_cons (pv 0) (pa_cons pe_int pa_nil))) pa_nil)))
     (pss_one (ps_expr (pe_bm PySem.F.plainAttrs_list PySem.F.slot_list_append PySem.F.type_list_append mt_append (pv 1) (pa_cons (pe_ix ix_any (pe_lst (pa_cons (pv 3) (pa_cons (pe_orT (pe_slice sl_any (pv 3) (po_some pe_int) po_none) (pe_one (pv 4))) (pa_cons (pe_slice sl_any (pe_op uo_add (pv 3) (pv 4)) (po_some (pe_un un_neg pe_int)) po_none) (pa_cons (pe_callX (ok_l_signs T nd) nz hr rfl T.g_l_signs T.F_l_signs.kp (bd_l_signs T) .nil pass0 (pa_cons (pv 0) pa_nil)) pa_nil))))) (pe_callX (ok_l_take T nd) nz (hr.mono (by decide)) rfl T.g_l_take T.F_l_take.kp (bd_l_take T) .nil pass0 (pa_cons (pv 0) (pa_cons pe_int pa_nil))) (λ _ _ => rfl)) pa_nil))))))))
     (pss_one (ps_ret (pv 1)))))
theorem sc_is_whole : FnScope ["thing"] ["thing"] (defScope s_is_whole) := (by walk_at "fs")
theorem bd_is_whole (T : Txt K mg) : Binds K (fdOf K (He.ga K "is_whole")) ["thing"] [] := T.F_is_whole.bindsN λ _ _ _ _ _ _ us hl => match us, hl with | [_], _ => rfl
theorem ok_is_whole (T : Txt K mg) (nd : NDX base) : FnX false P w K mg base CX0 1 (He.ga K "is_whole") (fdOf K (He.ga K "is_whole")) ["thing"] (sp_is_whole K) := by
 refine okX T.F_is_whole sc_is_whole len_is_whole (λ cdv A outer s H vs Q E hgu0 hr h => ⟨t_is_whole K, PSs.nox ?_, pure_is_whole vs H Q E h⟩)
 exact (pss_one (ps_ret (pe_and (pe_callB cr_isiQ (by rfl) T.b_isinstance (by decide +kernel) (pa_cons (pv 0) (pa_cons (pe_bltn (by rfl) T.b_int (by decide +kernel) rfl) pa_nil))) (pe_one (pe_not (pe_callB cr_isiQ (by rfl) T.b_isinstance (by decide +kernel) (pa_cons (pv 0) (pa_cons (pe_bltn (by rfl) T.b_bool (by decide +kernel) rfl) pa_nil))))))))
theorem sc_is_room : FnScope ["thing"] ["thing"] (defScope s_is_room) := (by walk_at "fs")
theorem bd_is_room (T : Txt K mg) : Binds K (fdOf K (He.ga K "is_room")) ["thing"] [] := T.F_is_room.bindsN λ _ _ _ _ _ _ us hl => match us, hl with | [_], _ => rfl
theorem ok_is_room (T : Txt K mg) (nd : NDX base) : FnX false P w K mg base CX0 2 (He.ga K "is_room") (fdOf K (He.ga K "is_room")) ["thing"] (sp_is_room K) := by
 refine okX T.F_is_room sc_is_room len_is_room (λ cdv A outer s H vs Q E hgu0 hr h => ⟨t_is_room K, PSs.nox ?_, pure_is_room vs H Q E h⟩)
 exact (pss_one (ps_ret (pe_and (pe_callX (ok_is_whole T nd) nz hr rfl T.g_is_whole T.F_is_whole.kp (bd_is_whole T) .nil pass0 (pa_cons (pv 0) pa_nil)) (pe_one (pe_chain uo_le uo_le pe_int (pv 0) (pe_globI rfl T.c_MOST_ROOM))))))
theorem sc_Shelf___init__ : FnScope ["self", "room"] ["self", "room"] (defScope s_Shelf___init__) := (by walk_at "fs")
theorem bd_Shelf___init__ (T : Txt K mg) : Binds K (fdOf K (mA K "Shelf" "__init__")) ["self", "room"] [] := T.F_Shelf___init__.bindsN λ _ _ _ _ _ _ us hl => match us, hl with | [_, _], _ => rfl
theorem ok_Shelf___init__ (T : Txt K mg) (nd : NDX base) : FnX false P w K mg base CX0 3 (mA K "Shelf" "__init__") (fdOf K (mA K "Shelf" "__init__")) ["self", "room"] (sp_Shelf___init__ K) := by
 refine okX T.F_Shelf___init__ sc_Shelf___init__ len_Shelf___init__ (λ cdv A outer s H vs Q E hgu0 hr h => ⟨t_Shelf___init__ K, PSs.nox ?_, pure_Shelf___init__ T.c vs H Q E h⟩)
 exact (pss_cons (ps_if (pt_not (pt_val (pe_callX (ok_is_room T nd) nz hr rfl T.g_is_room T.F_is_room.kp (bd_is_room T) .nil pass0 (pa_cons (pv 1) pa_nil)))) (pss_one ps_never) pss_nil)
     (pss_cons (ps_fld (pv 0) (pv 1) (by rfl))
     (pss_cons (ps_fld (pv 0) pe_dnewK (by rfl))
     (pss_one (ps_fld (pv 0) pe_dnewK (by rfl))))))
theorem sc_Shelf_copied : FnScope ["self", "found"] ["self"] (defScope s_Shelf_copied) := (by walk_at "fs")
theorem bd_Shelf_copied (T : Txt K mg) : Binds K (fdOf K (mA K "Shelf" "copied")) ["self"] [] := T.F_Shelf_copied.bindsN λ _ _ _ _ _ _ us hl => match us, hl with | [_], _ => rfl
theorem ok_Shelf_copied (T : Txt K mg) (nd : NDX base) : FnX false P w K mg base CX0 5 (mA K "Shelf" "copied") (fdOf K (mA K "Shelf" "copied")) ["self"] (sp_Shelf_copied K) := by
 refine okX T.F_Shelf_copied sc_Shelf_copied len_Shelf_copied (λ cdv A outer s H vs Q E hgu0 hr h => ⟨t_Shelf_copied K, PSs.nox ?_, pure_Shelf_copied T.c vs H Q E h⟩)
 exact (pss_cons (ps_set (i := 1) sc_Shelf_copied.nd rfl (by walk_at "oz") (pe_makeW T.mk_Shelf (ok_Shelf___init__ T nd) hr rfl T.cg_Shelf (bd_Shelf___init__ T) .nil (λ _ => pas0) (pa_cons (pe_fld (pv 0) rfl) pa_nil)))
     (pss_cons (ps_fld (pv 1) (pe_callTy cr_dictD (by rfl) T.b_dict (by decide +kernel) (pa_cons (pe_fld (pv 0) rfl) pa_nil)) (by rfl))
     (pss_cons (ps_fld (pv 1) (pe_callTy cr_dictD (by rfl) T.b_dict (by decide +kernel) (pa_cons (pe_fld (pv 0) rfl) pa_nil)) (by rfl))
     (pss_one (ps_ret (pv 1))))))
theorem sc_l_copy : FnScope ["_law_thing", "_law_one", "_law_name"] ["_law_thing"] (defScope s_l_copy) := (by walk_at "fs")
theorem bd_l_copy (T : Txt K mg) : Binds K (fdOf K (He.ga K "_law_copy")) ["_law_thing"] [] := T.F_l_copy.bindsN λ _ _ _ _ _ _ us hl => match us, hl with | [_], _ => rfl
theorem okn_l_copy (T : Txt K mg) (nd : NDX base) : ∀ n, FnX false P w K mg base CX0 n (He.ga K "_law_copy") (fdOf K (He.ga K "_law_copy")) ["_law_thing"] (spCp K n)
 | 0 => ⟨λ _ _ _ _ h => h.elim, λ _ _ _ _ _ _ _ _ _ _ _ _ _ _ _ _ h => h.elim⟩
 | n + 1 => by
   refine okX T.F_l_copy sc_l_copy (len_cp (n + 1)) (λ cdv A outer s H vs Q E hgu0 hr h => ⟨tCpy K (spCp K n), PSs.nox ?_, pure_cp n vs H Q E _ rfl h⟩)
   exact (pss_cons (ps_if (pt_val (pe_callB cr_isiQ (by rfl) T.b_isinstance (by decide +kernel) (pa_cons (pv 0) (pa_cons (pe_bltn (by rfl) T.b_list (by decide +kernel) rfl) pa_nil)))) (pss_one (ps_ret (pe_lc (own := [("_law_one", 1)]) (g := (gName 1)) (tt := tYes) rfl sc_l_copy.nd (pi_list (pv 0)) (blkOk_by (own := [("_law_one", 1)]) (N := ["_law_thing", "_law_one", "_law_name"]) (sc := defScope s_l_copy) (by decide +kernel)) (λ _ _ _ _ _ => (pg_name (i := 1) sc_l_copy.nd rfl (by walk_at "oz"))) (λ _ _ _ _ _ => pts_nil) (λ _ _ _ _ _ => (pe_callX (okn_l_copy T nd n) nz hr rfl T.g_l_copy T.F_l_copy.kp (bd_l_copy T) .nil pass0 (pa_cons (pv 1) pa_nil)))))) pss_nil) (pss_cons (ps_if (pt_val (pe_callB cr_isiQ (by rfl) T.b_isinstance (by decide +kernel) (pa_cons (pv 0) (pa_cons (pe_bltn (by rfl) T.b_tuple (by decide +kernel) rfl) pa_nil)))) (pss_one (ps_ret (pe_callTy cr_tupL (by rfl) T.b_tuple (by decide +kernel) (pa_cons (pe_lc (own := [("_law_one", 1)]) (g := (gName 1)) (tt := tYes) rfl sc_l_copy.nd (pi_tup (pv 0)) (blkOk_by (own := [("_law_one", 1)]) (N := ["_law_thing", "_law_one", "_law_name"]) (sc := defScope s_l_copy) (by decide +kernel)) (λ _ _ _ _ _ => (pg_name (i := 1) sc_l_copy.nd rfl (by walk_at "oz"))) (λ _ _ _ _ _ => pts_nil) (λ _ _ _ _ _ => (pe_callX (okn_l_copy T nd n) nz hr rfl T.g_l_copy T.F_l_copy.kp (bd_l_copy T) .nil pass0 (pa_cons (pv 1) pa_nil)))) pa_nil)))) pss_nil) (pss_cons (ps_if (pt_val (pe_callB cr_isiQ (by rfl) T.b_isinstance (by decide +kernel) (pa_cons (pv 0) (pa_cons (pe_bltn (by rfl) T.b_dict (by decide +kernel) rfl) pa_nil)))) (pss_one (ps_ret (pe_fz (pe_callTy (cr_dictP rfl) (by rfl) T.b_dict (by decide +kernel) (pa_cons (pe_lk (pe_lc (own := [("_law_name", 2)]) (g := (gName 2)) (tt := tYes) rfl sc_l_copy.nd (pi_keys (pv 0)) (blkOk_by (own := [("_law_name", 2)]) (N := ["_law_thing", "_law_one", "_law_name"]) (sc := defScope s_l_copy) (by decide +kernel)) (λ _ _ _ _ _ => (pg_name (i := 2) sc_l_copy.nd rfl (by walk_at "oz"))) (λ _ _ _ _ _ => pts_nil) (λ _ _ _ _ _ => (pe_tup (pa_cons (pv 2) (pa_cons (pe_callX (okn_l_copy T nd n) nz hr rfl T.g_l_copy T.F_l_copy.kp (bd_l_copy T) .nil pass0 (pa_cons (pe_ix (ix_dk hr.u1) (pv 0) (pv 2) (λ _ _ => rfl)) pa_nil)) pa_nil)))))) pa_nil))))) pss_nil) (pss_one (ps_ret (pv 0))))))
theorem oko_l_copy (T : Txt K mg) (nd : NDX base) : FnX false P w K mg base CX0 8 (He.ga K "_law_copy") (fdOf K (He.ga K "_law_copy")) ["_law_thing"] (spCpM K) := by
 have go : ∀ n, n = 7 -> FnX false P w K mg base CX0 (n + 1) (He.ga K "_law_copy") (fdOf K (He.ga K "_law_copy")) ["_law_thing"] (spCpM K) := λ n hn => by
   refine okX T.F_l_copy sc_l_copy len_cpM (λ cdv A outer s H vs Q E hgu0 hr h => ⟨tCpy K (spCp K n), PSs.nox ?_, by subst hn; exact pure_cpWM 5 vs H Q E _ rfl h⟩)
   exact (pss_cons (ps_if (pt_val (pe_callB cr_isiQ (by rfl) T.b_isinstance (by decide +kernel) (pa_cons (pv 0) (pa_cons (pe_bltn (by rfl) T.b_list (by decide +kernel) rfl) pa_nil)))) (pss_one (ps_ret (pe_lc (own := [("_law_one", 1)]) (g := (gName 1)) (tt := tYes) rfl sc_l_copy.nd (pi_list (pv 0)) (blkOk_by (own := [("_law_one", 1)]) (N := ["_law_thing", "_law_one", "_law_name"]) (sc := defScope s_l_copy) (by decide +kernel)) (λ _ _ _ _ _ => (pg_name (i := 1) sc_l_copy.nd rfl (by walk_at "oz"))) (λ _ _ _ _ _ => pts_nil) (λ _ _ _ _ _ => (pe_callX (okn_l_copy T nd n) nz hr rfl T.g_l_copy T.F_l_copy.kp (bd_l_copy T) .nil pass0 (pa_cons (pv 1) pa_nil)))))) pss_nil) (pss_cons (ps_if (pt_val (pe_callB cr_isiQ (by rfl) T.b_isinstance (by decide +kernel) (pa_cons (pv 0) (pa_cons (pe_bltn (by rfl) T.b_tuple (by decide +kernel) rfl) pa_nil)))) (pss_one (ps_ret (pe_callTy cr_tupL (by rfl) T.b_tuple (by decide +kernel) (pa_cons (pe_lc (own := [("_law_one", 1)]) (g := (gName 1)) (tt := tYes) rfl sc_l_copy.nd (pi_tup (pv 0)) (blkOk_by (own := [("_law_one", 1)]) (N := ["_law_thing", "_law_one", "_law_name"]) (sc := defScope s_l_copy) (by decide +kernel)) (λ _ _ _ _ _ => (pg_name (i := 1) sc_l_copy.nd rfl (by walk_at "oz"))) (λ _ _ _ _ _ => pts_nil) (λ _ _ _ _ _ => (pe_callX (okn_l_copy T nd n) nz hr rfl T.g_l_copy T.F_l_copy.kp (bd_l_copy T) .nil pass0 (pa_cons (pv 1) pa_nil)))) pa_nil)))) pss_nil) (pss_cons (ps_if (pt_val (pe_callB cr_isiQ (by rfl) T.b_isinstance (by decide +kernel) (pa_cons (pv 0) (pa_cons (pe_bltn (by rfl) T.b_dict (by decide +kernel) rfl) pa_nil)))) (pss_one (ps_ret (pe_fz (pe_callTy (cr_dictP rfl) (by rfl) T.b_dict (by decide +kernel) (pa_cons (pe_lk (pe_lc (own := [("_law_name", 2)]) (g := (gName 2)) (tt := tYes) rfl sc_l_copy.nd (pi_keys (pv 0)) (blkOk_by (own := [("_law_name", 2)]) (N := ["_law_thing", "_law_one", "_law_name"]) (sc := defScope s_l_copy) (by decide +kernel)) (λ _ _ _ _ _ => (pg_name (i := 2) sc_l_copy.nd rfl (by walk_at "oz"))) (λ _ _ _ _ _ => pts_nil) (λ _ _ _ _ _ => (pe_tup (pa_cons (pv 2) (pa_cons (pe_callX (okn_l_copy T nd n) nz hr rfl T.g_l_copy T.F_l_copy.kp (bd_l_copy T) .nil pass0 (pa_cons (pe_ix (ix_dk hr.u1) (pv 0) (pv 2) (λ _ _ => rfl)) pa_nil)) pa_nil)))))) pa_nil))))) pss_nil) (pss_one (ps_ret (pv 0))))))
 exact go 7 rfl
theorem ok_l_copy (T : Txt K mg) (nd : NDX base) : FnX false P w K mg base CX0 8 (He.ga K "_law_copy") (fdOf K (He.ga K "_law_copy")) ["_law_thing"] (sp_l_copy K) := FnX.or (okn_l_copy T nd 8) (oko_l_copy T nd)
theorem sc_l_sum : FnScope ["_law_signs_here", "_law_found", "_law_times", "_law_sign"] ["_law_signs_here"] (defScope s_l_sum) := (by walk_at "fs")
theorem bd_l_sum (T : Txt K mg) : Binds K (fdOf K (He.ga K "_law_sum")) ["_law_signs_here"] [] := T.F_l_sum.bindsN λ _ _ _ _ _ _ us hl => match us, hl with | [_], _ => rfl
theorem ok_l_sum (T : Txt K mg) (nd : NDX base) : FnX false P w K mg base CX0 1 (He.ga K "_law_sum") (fdOf K (He.ga K "_law_sum")) ["_law_signs_here"] (sp_l_sum K) := by
 refine okX T.F_l_sum sc_l_sum len_l_sum (λ cdv A outer s H vs Q E hgu0 hr h => ⟨t_l_sum K, PSs.nox ?_, pure_l_sum vs H Q E h⟩)
 exact (pss_cons (ps_set (i := 1) sc_l_sum.nd rfl (by walk_at "oz") pe_int)
     (pss_cons (ps_set (i := 2) sc_l_sum.nd rfl (by walk_at "oz") pe_int)
     (pss_cons (ps_for PassesOwn.never rfl (pi_list (pv 0)) (pg_name (i := 3) sc_l_sum.nd rfl (by walk_at "oz")) (pss_cons (ps_aug (i := 1) sc_l_sum.nd rfl (by walk_at "oz") (pe_op uo_mul (pe_op uo_add (pv 3) pe_int) (pv 2)) (ip_of io_add))
     (pss_one (ps_aug (i := 2) sc_l_sum.nd rfl (by walk_at "oz") pe_int (ip_of io_mul)))))
     (pss_one (ps_ret (pv 1))))))
theorem sc_l_drawn : FnScope ["_law_bag_here", "_law_pool_here", "_law_way", "_law_signs_here", "_law_other"] ["_law_bag_here", "_law_pool_here"] (defScope s_l_drawn) := (by walk_at "fs")
theorem bd_l_drawn (T : Txt K mg) : Binds K (fdOf K (He.ga K "_law_drawn")) ["_law_bag_here", "_law_pool_here"] [] := T.F_l_drawn.bindsN λ _ _ _ _ _ _ us hl => match us, hl with | [_, _], _ => rfl
theorem ok_l_drawn (T : Txt K mg) (nd : NDX base) : FnX false P w K mg base CX0 2 (He.ga K "_law_drawn") (fdOf K (He.ga K "_law_drawn")) ["_law_bag_here", "_law_pool_here"] (sp_l_drawn K) := by
 refine okX T.F_l_drawn sc_l_drawn len_l_drawn (λ cdv A outer s H vs Q E hgu0 hr h => ⟨t_l_drawn K, PSs.nox ?_, pure_l_drawn vs H Q E h⟩)
 exact (pss_cons (ps_set (i := 2) sc_l_drawn.nd rfl (by walk_at "oz") (pe_ix ix_any (pe_lst (pa_cons pe_int (pa_cons pe_int (pa_cons pe_int (pa_cons pe_int (pa_cons pe_int (pa_cons pe_int (pa_cons pe_int (pa_cons pe_int (pa_cons pe_int (pa_cons pe_int pa_nil))))))))))) (pe_callX (ok_l_take T nd) nz hr rfl T.g_l_take T.F_l_take.kp (bd_l_take T) .nil pass0 (pa_cons (pv 0) (pa_cons pe_int pa_nil))) (λ _ _ => rfl)))
     (pss_cons (ps_set (i := 3) sc_l_drawn.nd rfl (by walk_at "oz") (pe_ix ix_any (pv 1) (pe_callX (ok_l_take T nd) nz hr rfl T.g_l_take T.F_l_take.kp (bd_l_take T) .nil pass0 (pa_cons (pv 0) (pa_cons (pe_callB cr_len (by rfl) T.b_len (by decide +kernel) (pa_cons (pv 1) pa_nil)) pa_nil))) (λ _ _ => rfl)))
     (pss_cons (ps_set (i := 4) sc_l_drawn.nd rfl (by walk_at "oz") (pe_ix ix_any (pe_lst (pa_cons (pv 3) (pa_cons (pe_ix ix_any (pv 1) (pe_callX (ok_l_take T nd) nz hr rfl T.g_l_take T.F_l_take.kp (bd_l_take T) .nil pass0 (pa_cons (pv 0) (pa_cons (pe_callB cr_len (by rfl) T.b_len (by decide +kernel) (pa_cons (pv 1) pa_nil)) pa_nil))) (λ _ _ => rfl)) (pa_cons (pe_lst pa_nil) pa_nil)))) (pe_op uo_mul (pe_callX (ok_l_take T nd) nz hr rfl T.g_l_take T.F_l_take.kp (bd_l_take T) .nil pass0 (pa_cons (pv 0) (pa_cons pe_int pa_nil))) (pe_callTy cr_intB (by rfl) T.b_int (by decide +kernel) (pa_cons (pe_cmpR (uo_eq hr.units) (pv 2) pe_int (nomark _)) pa_nil))) (λ _ _ => rfl)))
     (pss_cons (ps_if (PW.pt (pw_and (pt_cmpR (uo_eq hr.units) (pv 2) pe_int (nomark _)) (pw_and1 (pt_cmpR (uo_eq hr.units) (pe_callX (ok_l_take T nd) nz hr rfl T.g_l_take T.F_l_take.kp (bd_l_take T) .nil pass0 (pa_cons (pv 0) (pa_cons pe_int pa_nil))) pe_int (nomark _))))) (pss_one (ps_set (i := 4) sc_l_drawn.nd rfl (by walk_at "oz") (pe_ix ix_any (pv 1) (pe_callX (ok_l_take T nd) nz hr rfl T.g_l_take T.F_l_take.kp (bd_l_take T) .nil pass0 (pa_cons (pv 0) (pa_cons (pe_callB cr_len (by rfl) T.b_len (by decide +kernel) (pa_cons (pv 1) pa_nil)) pa_nil))) (λ _ _ => rfl)))) pss_nil)
     (pss_one (ps_ret (pe_tup (pa_cons (pv 2) (pa_cons (pe_callX (ok_l_sum T nd) nz hr rfl T.g_l_sum T.F_l_sum.kp (bd_l_sum T) .nil pass0 (pa_cons (pv 3) pa_nil)) (pa_cons (pv 4) pa_nil))))))))))
theorem sc_l_whole : FnScope ["_law_thing", "_law_low", "_law_high"] ["_law_thing", "_law_low", "_law_high"] (defScope s_l_whole) := (by walk_at "fs")
theorem bd_l_whole (T : Txt K mg) : Binds K (fdOf K (He.ga K "_law_whole")) ["_law_thing", "_law_low", "_law_high"] [] := T.F_l_whole.bindsN λ _ _ _ _ _ _ us hl => match us, hl with | [_, _, _], _ => rfl
theorem ok_l_whole (T : Txt K mg) (nd : NDX base) : FnX false P w K mg base CX0 1 (He.ga K "_law_whole") (fdOf K (He.ga K "_law_whole")) ["_law_thing", "_law_low", "_law_high"] (sp_l_whole K) := by
 refine okX T.F_l_whole sc_l_whole len_l_whole (λ cdv A outer s H vs Q E hgu0 hr h => ⟨t_l_whole K, PSs.nox ?_, pure_l_whole vs H Q E h⟩)
 exact (pss_one (ps_ret (pe_and (pe_callB cr_isiQ (by rfl) T.b_isinstance (by decide +kernel) (pa_cons (pv 0) (pa_cons (pe_bltn (by rfl) T.b_int (by decide +kernel) rfl) pa_nil))) (pe_and (pe_not (pe_callB cr_isiQ (by rfl) T.b_isinstance (by decide +kernel) (pa_cons (pv 0) (pa_cons (pe_bltn (by rfl) T.b_bool (by decide +kernel) rfl) pa_nil)))) (pe_one (pe_chain uo_le uo_le (pv 1) (pv 0) (pv 2)))))))
theorem sc_l_are_signs : FnScope ["_law_thing", "_law_fewest", "_law_many", "_law_one"] ["_law_thing", "_law_fewest", "_law_many"] (defScope s_l_are_signs) := (by walk_at "fs")
theorem bd_l_are_signs (T : Txt K mg) : Binds K (fdOf K (He.ga K "_law_are_signs")) ["_law_thing", "_law_fewest", "_law_many"] [] := T.F_l_are_signs.bindsN λ _ _ _ _ _ _ us hl => match us, hl with | [_, _, _], _ => rfl
theorem ok_l_are_signs (T : Txt K mg) (nd : NDX base) : FnX false P w K mg base CX0 2 (He.ga K "_law_are_signs") (fdOf K (He.ga K "_law_are_signs")) ["_law_thing", "_law_fewest", "_law_many"] (sp_l_are_signs K) := by
 refine okX T.F_l_are_signs sc_l_are_signs len_l_are_signs (λ cdv A outer s H vs Q E hgu0 hr h => ⟨t_l_are_signs K, PSs.nox ?_, pure_l_are_signs vs H Q E h⟩)
 exact (pss_cons (ps_if (PW.pt (pw_or (pt_not (pt_val (pe_callB cr_isiQ (by rfl) T.b_isinstance (by decide +kernel) (pa_cons (pv 0) (pa_cons (pe_bltn (by rfl) T.b_list (by decide +kernel) rfl) pa_nil))))) (pw_or1 (pt_not (pt_chain uo_le uo_le (pv 1) (pe_callB cr_len (by rfl) T.b_len (by decide +kernel) (pa_cons (pv 0) pa_nil)) (pv 2)))))) (pss_one (ps_ret pe_bl)) pss_nil)
     (pss_one (ps_ret (pe_cmpR (uo_eq hr.units) (pe_lc (own := [("_law_one", 3)]) (g := (gName 3)) (tt := (tNot (tB (tCall (sp_l_whole K) [] E0 (tCons (tVar 3) (tCons (tC (.int 0)) (tCons (tC (.int 999)) tNil))))))) rfl sc_l_are_signs.nd (pi_list (pv 0)) (blkOk_by (own := [("_law_one", 3)]) (N := ["_law_thing", "_law_fewest", "_law_many", "_law_one"]) (sc := defScope s_l_are_signs) (by decide +kernel)) (λ _ _ _ _ _ => (pg_name (i := 3) sc_l_are_signs.nd rfl (by walk_at "oz"))) (λ _ _ _ _ _ => (pts_one (pt_not (pt_val (pe_callX (ok_l_whole T nd) nz hr rfl T.g_l_whole T.F_l_whole.kp (bd_l_whole T) .nil pass0 (pa_cons (pv 3) (pa_cons pe_int (pa_cons pe_int pa_nil)))))))) (λ _ _ _ _ _ => (pv 3))) (pe_lst pa_nil) (nomark _)))))
theorem sc_l_laid : FnScope ["_law_model", "_law_room", "_law_signs_here", "_law_seal"] ["_law_model", "_law_room", "_law_signs_here"] (defScope s_l_laid) := (by walk_at "fs")
theorem bd_l_laid (T : Txt K mg) : Binds K (fdOf K (He.ga K "_law_laid")) ["_law_model", "_law_room", "_law_signs_here"] [] := T.F_l_laid.bindsN λ _ _ _ _ _ _ us hl => match us, hl with | [_, _, _], _ => rfl
theorem ok_l_laid (T : Txt K mg) (nd : NDX base) : FnX false P w K mg base CX0 3 (He.ga K "_law_laid") (fdOf K (He.ga K "_law_laid")) ["_law_model", "_law_room", "_law_signs_here"] (sp_l_laid K) := by
 refine okX T.F_l_laid sc_l_laid len_l_laid (λ cdv A outer s H vs Q E hgu0 hr h => ⟨t_l_laid K, PSs.nox ?_, pure_l_laid vs H Q E h⟩)
 exact (pss_cons (ps_if (pt_not (pt_val (pe_callX (ok_l_are_signs T nd) nz hr rfl T.g_l_are_signs T.F_l_are_signs.kp (bd_l_are_signs T) .nil pass0 (pa_cons (pv 2) (pa_cons pe_int (pa_cons pe_int pa_nil)))))) (pss_one (ps_ret (pe_tup (pa_cons pe_str (pa_cons pe_int pa_nil))))) pss_nil)
     (pss_cons (ps_set (i := 3) sc_l_laid.nd rfl (by walk_at "oz") (pe_callX (ok_l_sum T nd) nz (hr.mono (by decide)) rfl T.g_l_sum T.F_l_sum.kp (bd_l_sum T) .nil pass0 (pa_cons (pv 2) pa_nil)))
     (pss_cons (ps_if (PW.pt (pw_and (pt_cmpR (uo_notinU hr.u65) (pv 3) (pv 0) (by rfl)) (pw_and1 (pt_cmpR uo_ge (pe_callB cr_len (by rfl) T.b_len (by decide +kernel) (pa_cons (pv 0) pa_nil)) (pv 1) (nomark _))))) (pss_one (ps_ret (pe_tup (pa_cons pe_str (pa_cons (pv 1) pa_nil))))) pss_nil)
     (pss_cons (ps_if (pt_cmpR (uo_notinU hr.u65) (pv 3) (pv 0) (by rfl)) (pss_one (ps_asg (pe_lst (pa_cons pe_int (pa_cons pe_non pa_nil))) (pg_sub (pv 0) (pv 3) (set_any hr.u1)))) pss_nil)
     (pss_cons (ps_asg (pe_lst (pa_cons (pe_op uo_add (pe_ix ix_any (pe_ix (ix_dk hr.u1) (pv 0) (pv 3) (λ _ _ => rfl)) pe_int (λ _ _ => rfl)) pe_int) (pa_cons (pe_callTy cr_list (by rfl) T.b_list (by decide +kernel) (pa_cons (pv 2) pa_nil)) pa_nil))) (pg_sub (pv 0) (pv 3) (set_any hr.u1)))
     (pss_one (ps_ret (pe_tup (pa_cons pe_str (pa_cons (pv 3) pa_nil))))))))))
theorem sc_l_back : FnScope ["_law_number", "_law_rest", "_law_found"] ["_law_number"] (defScope s_l_back) := (by walk_at "fs")
theorem bd_l_back (T : Txt K mg) : Binds K (fdOf K (He.ga K "_law_back")) ["_law_number"] [] := T.F_l_back.bindsN λ _ _ _ _ _ _ us hl => match us, hl with | [_], _ => rfl
theorem ok_l_back (T : Txt K mg) (nd : NDX base) : FnX false P w K mg base CX0 1 (He.ga K "_law_back") (fdOf K (He.ga K "_law_back")) ["_law_number"] (sp_l_back K) := by
 refine okX T.F_l_back sc_l_back len_l_back (λ cdv A outer s H vs Q E hgu0 hr h => ⟨t_l_back K, PSs.nox ?_, pure_l_back vs H Q E h⟩)
 exact (pss_cons (ps_par (by rfl) sc_l_back.nd rfl rfl (by decide) rfl rfl (pa_cons (pv 0) (pa_cons (pe_lst pa_nil) pa_nil)) (by rfl))
     (pss_cons (ps_while PassesOwn.never (PW.pt (pw_and (pt_cmpR uo_gt (pv 1) pe_int (nomark _)) (pw_and1 (pt_cmpR uo_lt (pe_callB cr_len (by rfl) T.b_len (by decide +kernel) (pa_cons (pv 2) pa_nil)) pe_int (nomark _))))) (pss_cons (ps_expr (pe_bm PySem.F.plainAttrs_list PySem.F.slot_list_append PySem.F.type_list_append mt_append (pv 2) (pa_cons (pe_op uo_sub (pe_op uo_mod (pv 1) pe_int) pe_int) pa_nil)))
     (pss_one (ps_set (i := 1) sc_l_back.nd rfl (by walk_at "oz") (pe_op uo_div (pv 1) pe_int)))))
     (pss_cons (ps_if (PW.pt (pw_or (pt_cmpR (uo_eq hr.units) (pv 2) (pe_lst pa_nil) (nomark _)) (pw_or (pt_cmpR uo_gt (pe_callB cr_len (by rfl) T.b_len (by decide +kernel) (pa_cons (pv 2) pa_nil)) pe_int (nomark _)) (pw_or1 (pt_cmpR (uo_inU hr.u65) (pe_un un_neg pe_int) (pv 2) (by rfl)))))) (pss_one (ps_ret pe_non)) pss_nil)
     (pss_one (ps_ret (pv 2))))))
theorem sc_l_is_seal : FnScope ["_law_thing"] ["_law_thing"] (defScope s_l_is_seal) := (by walk_at "fs")
theorem bd_l_is_seal (T : Txt K mg) : Binds K (fdOf K (He.ga K "_law_is_seal")) ["_law_thing"] [] := T.F_l_is_seal.bindsN λ _ _ _ _ _ _ us hl => match us, hl with | [_], _ => rfl
theorem ok_l_is_seal (T : Txt K mg) (nd : NDX base) : FnX false P w K mg base CX0 2 (He.ga K "_law_is_seal") (fdOf K (He.ga K "_law_is_seal")) ["_law_thing"] (sp_l_is_seal K) := by
 refine okX T.F_l_is_seal sc_l_is_seal len_l_is_seal (λ cdv A outer s H vs Q E hgu0 hr h => ⟨t_l_is_seal K, PSs.nox ?_, pure_l_is_seal vs H Q E h⟩)
 exact (pss_one (ps_ret (pe_and (pe_callX (ok_l_whole T nd) nz hr rfl T.g_l_whole T.F_l_whole.kp (bd_l_whole T) .nil pass0 (pa_cons (pv 0) (pa_cons pe_int (pa_cons (pe_op uo_pow pe_int pe_int) pa_nil)))) (pe_one (pe_cmpR op_notN' (pe_callX (ok_l_back T nd) nz hr rfl T.g_l_back T.F_l_back.kp (bd_l_back T) .nil pass0 (pa_cons (pv 0) pa_nil)) pe_non (nomark _))))))
theorem sc_l_sound : FnScope ["_law_model", "_law_seal", "_law_body"] ["_law_model", "_law_seal"] (defScope s_l_sound) := (by walk_at "fs")
theorem bd_l_sound (T : Txt K mg) : Binds K (fdOf K (He.ga K "_law_sound")) ["_law_model", "_law_seal"] [] := T.F_l_sound.bindsN λ _ _ _ _ _ _ us hl => match us, hl with | [_, _], _ => rfl
theorem ok_l_sound (T : Txt K mg) (nd : NDX base) : FnX false P w K mg base CX0 2 (He.ga K "_law_sound") (fdOf K (He.ga K "_law_sound")) ["_law_model", "_law_seal"] (sp_l_sound K) := by
 refine okX T.F_l_sound sc_l_sound len_l_sound (λ cdv A outer s H vs Q E hgu0 hr h => ⟨t_l_sound K, PSs.nox ?_, pure_l_sound vs H Q E h⟩)
 exact (pss_cons (ps_set (i := 2) sc_l_sound.nd rfl (by walk_at "oz") (pe_ix ix_any (pe_ix (ix_dk hr.u1) (pv 0) (pv 1) (λ _ _ => rfl)) pe_int (λ _ _ => rfl)))
     (pss_one (ps_ret (pe_and (pe_cmpR op_notN' (pv 2) pe_non (nomark _)) (pe_and (pe_cmpR (uo_ne hr.units) (pv 2) (pe_lst pa_nil) (nomark _)) (pe_one (pe_cmpR (uo_eq hr.units) (pe_callX (ok_l_sum T nd) nz hr rfl T.g_l_sum T.F_l_sum.kp (bd_l_sum T) .nil pass0 (pa_cons (pv 2) pa_nil)) (pv 1) (nomark _))))))))
theorem sc_l_due : FnScope ["_law_model", "_law_room", "_law_way", "_law_seal", "_law_signs_here"] ["_law_model", "_law_room", "_law_way", "_law_seal", "_law_signs_here"] (defScope s_l_due) := (by walk_at "fs")
theorem bd_l_due (T : Txt K mg) : Binds K (fdOf K (He.ga K "_law_due")) ["_law_model", "_law_room", "_law_way", "_law_seal", "_law_signs_here"] [] := T.F_l_due.bindsN λ _ _ _ _ _ _ us hl => match us, hl with | [_, _, _, _, _], _ => rfl
theorem ok_l_due (T : Txt K mg) (nd : NDX base) : FnX false P w K mg base CX0 4 (He.ga K "_law_due") (fdOf K (He.ga K "_law_due")) ["_law_model", "_law_room", "_law_way", "_law_seal", "_law_signs_here"] (sp_l_due K) := by
 refine okX T.F_l_due sc_l_due len_l_due (λ cdv A outer s H vs Q E hgu0 hr h => ⟨t_l_due K, PSs.nox ?_, pure_l_due vs H Q E h⟩)
 exact (pss_cons (ps_if (pt_cmpR (uo_eq hr.units) (pv 2) pe_int (nomark _)) (pss_one (ps_ret (pe_callX (ok_l_laid T nd) nz hr rfl T.g_l_laid T.F_l_laid.kp (bd_l_laid T) .nil pass0 (pa_cons (pv 0) (pa_cons (pv 1) (pa_cons (pv 4) pa_nil)))))) pss_nil)
     (pss_cons (ps_if (pt_not (pt_val (pe_callX (ok_l_is_seal T nd) nz (hr.mono (by decide)) rfl T.g_l_is_seal T.F_l_is_seal.kp (bd_l_is_seal T) .nil pass0 (pa_cons (pv 3) pa_nil)))) (pss_one (ps_ret (pe_tup (pa_cons pe_str (pa_cons pe_int pa_nil))))) pss_nil)
     (pss_cons (ps_if (PW.pt (pw_and (pt_cmpR (uo_inU hr.u65) (pv 2) (pe_tup (pa_cons pe_int (pa_cons pe_int pa_nil))) (by rfl)) (pw_and1 (pt_not (pt_val (pe_callX (ok_l_are_signs T nd) nz (hr.mono (by decide)) rfl T.g_l_are_signs T.F_l_are_signs.kp (bd_l_are_signs T) .nil pass0 (pa_cons (pv 4) (pa_cons (pe_op uo_div (pv 2) pe_int) (pa_cons pe_int pa_nil))))))))) (pss_one (ps_ret (pe_tup (pa_cons pe_str (pa_cons pe_int pa_nil))))) pss_nil)
     (pss_cons (ps_if (pt_cmpR (uo_notinU hr.u65) (pv 3) (pv 0) (by rfl)) (pss_one (ps_ret (pe_tup (pa_cons pe_str (pa_cons (pv 3) pa_nil))))) pss_nil)
     (pss_cons (ps_if (pt_cmpR (uo_inU hr.u65) (pv 2) (pe_tup (pa_cons pe_int (pa_cons pe_int pa_nil))) (by rfl)) (pss_cons (ps_augS (pe_ix (ix_dk hr.u1) (pv 0) (pv 3) (λ _ _ => rfl)) pe_int (get_any hr.u1) (pe_op uo_sub pe_int (pe_op uo_mul pe_int (pv 2))) (ip_of io_add) (set_any hr.u1))
     (pss_cons (ps_if (pt_cmpR (uo_eq hr.units) (pe_ix ix_any (pe_ix (ix_dk hr.u1) (pv 0) (pv 3) (λ _ _ => rfl)) pe_int (λ _ _ => rfl)) pe_int (nomark _)) (pss_one (ps_expr (pe_dpop1 (pv 0) (pv 3) ⟨by rfl, by rfl, by rfl, by rfl⟩))) pss_nil)
     (pss_one (ps_ret (pe_tup (pa_cons pe_str (pa_cons (pe_ix ix_any (pe_lst (pa_cons pe_non (pa_cons (pe_cmpR (uo_notinU hr.u65) (pv 3) (pv 0) (by rfl)) pa_nil))) (pe_op uo_sub (pv 2) pe_int) (λ _ _ => rfl)) pa_nil))))))) pss_nil)
     (pss_cons (ps_if (PW.pt (pw_and (pt_cmpR (uo_eq hr.units) (pv 2) pe_int (nomark _)) (pw_and1 (pt_cmpR (uo_ne hr.units) (pe_callX (ok_l_sum T nd) nz (hr.mono (by decide)) rfl T.g_l_sum T.F_l_sum.kp (bd_l_sum T) .nil pass0 (pa_cons (pv 4) pa_nil)) (pv 3) (nomark _))))) (pss_one (ps_ret (pe_tup (pa_cons pe_str (pa_cons (pv 3) pa_nil))))) pss_nil)
     (pss_cons (ps_if (pt_cmpR uo_lt (pv 2) pe_int (nomark _)) (pss_cons (ps_asg (pe_ix ix_any (pe_lst (pa_cons (pe_callTy cr_list (by rfl) T.b_list (by decide +kernel) (pa_cons (pv 4) pa_nil)) (pa_cons pe_non (pa_cons (pe_callTy cr_list (by rfl) T.b_list (by decide +kernel) (pa_cons (pv 4) pa_nil)) pa_nil)))) (pe_op uo_sub (pv 2) pe_int) (λ _ _ => rfl)) (pg_sub (pe_ix (ix_dk hr.u1) (pv 0) (pv 3) (λ _ _ => rfl)) pe_int (set_any hr.u1)))
     (pss_one (ps_ret (pe_tup (pa_cons pe_str (pa_cons pe_non pa_nil)))))) pss_nil)
     (pss_cons (ps_if (pt_cmpR (uo_eq hr.units) (pv 2) pe_int (nomark _)) (pss_one (ps_ret (pe_tup (pa_cons pe_str (pa_cons (pe_ix ix_any (pe_ix (ix_dk hr.u1) (pv 0) (pv 3) (λ _ _ => rfl)) pe_int (λ _ _ => rfl)) pa_nil))))) pss_nil)
     (pss_cons (ps_if (pt_cmpR (uo_eq hr.units) (pv 2) pe_int (nomark _)) (pss_one (ps_ret (pe_tup (pa_cons pe_str (pa_cons (pe_callX (ok_l_sound T nd) nz (hr.mono (by decide)) rfl T.g_l_sound T.F_l_sound.kp (bd_l_sound T) .nil pass0 (pa_cons (pv 0) (pa_cons (pv 3) pa_nil))) pa_nil))))) pss_nil)
     (pss_cons (ps_if (pt_val (pe_callX (ok_l_sound T nd) nz (hr.mono (by decide)) rfl T.g_l_sound T.F_l_sound.kp (bd_l_sound T) .nil pass0 (pa_cons (pv 0) (pa_cons (pv 3) pa_nil)))) (pss_one (ps_ret (pe_tup (pa_cons pe_str (pa_cons (pe_callX (ok_l_back T nd) nz (hr.mono (by decide)) rfl T.g_l_back T.F_l_back.kp (bd_l_back T) .nil pass0 (pa_cons (pv 3) pa_nil)) pa_nil))))) pss_nil)
     (pss_one (ps_ret (pe_tup (pa_cons pe_str (pa_cons (pv 3) pa_nil)))))))))))))))
theorem sc_l_alike : FnScope ["_law_found", "_law_due_here"] ["_law_found", "_law_due_here"] (defScope s_l_alike) := (by walk_at "fs")
theorem bd_l_alike (T : Txt K mg) : Binds K (fdOf K (He.ga K "_law_alike")) ["_law_found", "_law_due_here"] [] := T.F_l_alike.bindsN λ _ _ _ _ _ _ us hl => match us, hl with | [_, _], _ => rfl
theorem ok_l_alike (T : Txt K mg) (nd : NDX base) : FnX true P w K mg base CX0 1 (He.ga K "_law_alike") (fdOf K (He.ga K "_law_alike")) ["_law_found", "_law_due_here"] (sp_l_alike K) := by
 refine okX T.F_l_alike sc_l_alike len_l_alike (λ cdv A outer s H vs Q E hgu0 hr h => ⟨t_l_alike K, PSs.nox ?_, pure_l_alike vs H Q E h⟩)
 have hgu : (A.deeper (envOfC "_law_alike" (defScope s_l_alike) s.heap.objs.size (He.ga K "_law_alike") cdv)).guards = some [] := hgu0 rfl
 exact (pss_one (ps_ret (pe_and (pe_cmpR (uo_eqQ (units128 hr)) (pv 0) (pv 1) (nomark _)) (pe_one (pe_cmpR (uo_eqQ (units128 hr)) (pe_callB (cr_reprQ nd.2 hgu hr.units) (by rfl) T.b_repr (by decide +kernel) (pa_cons (pv 0) pa_nil)) (pe_callB (cr_reprQ nd.2 hgu hr.units) (by rfl) T.b_repr (by decide +kernel) (pa_cons (pv 1) pa_nil)) (nomark _))))))
theorem sc_is_sign : FnScope ["thing"] ["thing"] (defScope s_is_sign) := (by walk_at "fs")
theorem bd_is_sign (T : Txt K mg) : Binds K (fdOf K (He.ga K "is_sign")) ["thing"] [] := T.F_is_sign.bindsN λ _ _ _ _ _ _ us hl => match us, hl with | [_], _ => rfl
theorem ok_is_sign (T : Txt K mg) (nd : NDX base) : FnX false P w K mg base CX0 2 (He.ga K "is_sign") (fdOf K (He.ga K "is_sign")) ["thing"] (sp_is_sign K) := by
 refine okX T.F_is_sign sc_is_sign len_is_sign (λ cdv A outer s H vs Q E hgu0 hr h => ⟨t_is_sign K, PSs.nox ?_, pure_is_sign vs H Q E h⟩)
 exact (pss_one (ps_ret (pe_and (pe_callX (ok_is_whole T nd) nz hr rfl T.g_is_whole T.F_is_whole.kp (bd_is_whole T) .nil pass0 (pa_cons (pv 0) pa_nil)) (pe_one (pe_chain uo_le uo_le pe_int (pv 0) (pe_globI rfl T.c_MOST_SIGN))))))
theorem sc_are_signs : FnScope ["thing", "fewest", "most", "sign"] ["thing", "fewest", "most"] (defScope s_are_signs) := (by walk_at "fs")
theorem bd_are_signs (T : Txt K mg) : Binds K (fdOf K (He.ga K "are_signs")) ["thing", "fewest", "most"] [] := T.F_are_signs.bindsN λ _ _ _ _ _ _ us hl => match us, hl with | [_, _, _], _ => rfl
theorem ok_are_signs (T : Txt K mg) (nd : NDX base) : FnX false P w K mg base CX0 3 (He.ga K "are_signs") (fdOf K (He.ga K "are_signs")) ["thing", "fewest", "most"] (sp_are_signs K) := by
 refine okX T.F_are_signs sc_are_signs len_are_signs (λ cdv A outer s H vs Q E hgu0 hr h => ⟨t_are_signs K, PSs.nox ?_, pure_are_signs vs H Q E h⟩)
 exact (pss_cons (ps_if (PW.pt (pw_or (pt_not (pt_val (pe_callB cr_isiQ (by rfl) T.b_isinstance (by decide +kernel) (pa_cons (pv 0) (pa_cons (pe_bltn (by rfl) T.b_list (by decide +kernel) rfl) pa_nil))))) (pw_or1 (pt_not (pt_chain uo_le uo_le (pv 1) (pe_callB cr_len (by rfl) T.b_len (by decide +kernel) (pa_cons (pv 0) pa_nil)) (pv 2)))))) (pss_one (ps_ret pe_bl)) pss_nil)
     (pss_cons (ps_for PassesOwn.never rfl (pi_list (pv 0)) (pg_name (i := 3) sc_are_signs.nd rfl (by walk_at "oz")) (pss_one (ps_if (pt_not (pt_val (pe_callX (ok_is_sign T nd) nz hr rfl T.g_is_sign T.F_is_sign.kp (bd_is_sign T) .nil pass0 (pa_cons (pv 3) pa_nil)))) (pss_one (ps_ret pe_bl)) pss_nil)))
     (pss_one (ps_ret pe_bl))))
theorem sc_seal_of : FnScope ["signs", "found", "sign"] ["signs"] (defScope s_seal_of) := (by walk_at "fs")
theorem bd_seal_of (T : Txt K mg) : Binds K (fdOf K (He.ga K "seal_of")) ["signs"] [] := T.F_seal_of.bindsN λ _ _ _ _ _ _ us hl => match us, hl with | [_], _ => rfl
theorem ok_seal_of (T : Txt K mg) (nd : NDX base) : FnX false P w K mg base CX0 4 (He.ga K "seal_of") (fdOf K (He.ga K "seal_of")) ["signs"] (sp_seal_of K) := by
 refine okX T.F_seal_of sc_seal_of len_seal_of (λ cdv A outer s H vs Q E hgu0 hr h => ⟨t_seal_of K, PSs.nox ?_, pure_seal_of vs H Q E h⟩)
 exact (pss_cons (ps_if (pt_not (pt_val (pe_callX (ok_are_signs T nd) nz hr rfl T.g_are_signs T.F_are_signs.kp (bd_are_signs T) .nil pass0 (pa_cons (pv 0) (pa_cons pe_int (pa_cons (pe_globI rfl T.c_MOST_PIECE) pa_nil)))))) (pss_one ps_never) pss_nil)
     (pss_cons (ps_set (i := 1) sc_seal_of.nd rfl (by walk_at "oz") pe_int)
     (pss_cons (ps_for PassesOwn.never rfl (pi_reversed (by rfl) T.b_reversed (pa_cons (pv 0) pa_nil)) (pg_name (i := 2) sc_seal_of.nd rfl (by walk_at "oz")) (pss_one (ps_set (i := 1) sc_seal_of.nd rfl (by walk_at "oz") (pe_op uo_add (pe_op uo_add (pe_op uo_mul (pv 1) (pe_globI rfl T.c_BASE)) (pv 2)) pe_int))))
     (pss_one (ps_ret (pv 1))))))
theorem sc_Shelf_free : FnScope ["self"] ["self"] (defScope s_Shelf_free) := (by walk_at "fs")
theorem bd_Shelf_free (T : Txt K mg) : Binds K (fdOf K (mA K "Shelf" "free")) ["self"] [] := T.F_Shelf_free.bindsN λ _ _ _ _ _ _ us hl => match us, hl with | [_], _ => rfl
theorem ok_Shelf_free (T : Txt K mg) (nd : NDX base) : FnX false P w K mg base CX0 1 (mA K "Shelf" "free") (fdOf K (mA K "Shelf" "free")) ["self"] (sp_Shelf_free K) := by
 refine okX T.F_Shelf_free sc_Shelf_free len_Shelf_free (λ cdv A outer s H vs Q E hgu0 hr h => ⟨t_Shelf_free K, PSs.nox ?_, pure_Shelf_free T.c vs H Q E h⟩)
 exact (pss_one (ps_ret (pe_op uo_sub (pe_fld (pv 0) rfl) (pe_callB cr_len (by rfl) T.b_len (by decide +kernel) (pa_cons (pe_fld (pv 0) rfl) pa_nil)))))
theorem sc_Shelf_lay : FnScope ["self", "signs", "seal"] ["self", "signs"] (defScope s_Shelf_lay) := (by walk_at "fs")
theorem bd_Shelf_lay (T : Txt K mg) : Binds K (fdOf K (mA K "Shelf" "lay")) ["self", "signs"] [] := T.F_Shelf_lay.bindsN λ _ _ _ _ _ _ us hl => match us, hl with | [_, _], _ => rfl
theorem ok_Shelf_lay (T : Txt K mg) (nd : NDX base) : FnX false P w K mg base (L2.CX P w) 5 (mA K "Shelf" "lay") (fdOf K (mA K "Shelf" "lay")) ["self", "signs"] (sp_Shelf_lay K) := by
 refine okW T.F_Shelf_lay sc_Shelf_lay len_Shelf_lay (λ cdv A outer s H vs Q E hgu0 hr h tk pw => ⟨t_Shelf_lay K (WT E), ?_, pure_Shelf_lay T.c vs H Q E h⟩)
 exact (pss_cons (ps_if (pt_not (pt_val (pe_callX (ok_are_signs T nd) nz (hr.mono (by decide)) rfl T.g_are_signs T.F_are_signs.kp (bd_are_signs T) .nil pass0 (pa_cons (pv 1) (pa_cons pe_int (pa_cons (pe_globI rfl T.c_MOST_PIECE) pa_nil)))))) (pss_one (ps_rz rfl tk T.xb_Wrong T.xf_Wrong.1 T.xf_Wrong.2 (ok_Wrong___init__ T) (hr.mono (by decide)) (bd_Wrong___init__ T) (λ _ _ _ _ _ _ _ z => z.elim) rfl T.cg_Wrong pe_int)) pss_nil)
     (pss_cons (ps_set (i := 2) sc_Shelf_lay.nd rfl (by walk_at "oz") (pe_callX (ok_seal_of T nd) nz hr rfl T.g_seal_of T.F_seal_of.kp (bd_seal_of T) .nil pass0 (pa_cons (pv 1) pa_nil)))
     (pss_cons (ps_if (pt_cmpR (uo_notinU hr.u65) (pv 2) (pe_fld (pv 0) rfl) (by rfl)) (pss_cons (ps_if (pt_cmpR (uo_eq hr.units) (pe_methW0 (pv 0) T.cl_Shelf T.me_Shelf_free (ok_Shelf_free T nd) nz (hr.mono (by decide)) (bd_Shelf_free T) .nil (λ _ => pas0)) pe_int (nomark _)) (pss_one (ps_rz rfl tk T.xb_NoRoom T.xf_NoRoom.1 T.xf_NoRoom.2 (ok_NoRoom___init__ T) (hr.mono (by decide)) (bd_NoRoom___init__ T) (λ _ _ _ _ _ _ _ z => z.elim) rfl T.cg_NoRoom (pe_fld (pv 0) rfl))) pss_nil)
     (pss_one (ps_asg pe_int (pg_sub (pe_fld (pv 0) rfl) (pv 2) (set_any hr.u1))))) pss_nil)
     (pss_cons (ps_augS (pe_fld (pv 0) rfl) (pv 2) (get_any hr.u1) pe_int (ip_of io_add) (set_any hr.u1))
     (pss_cons (ps_asg (pe_callTy cr_list (by rfl) T.b_list (by decide +kernel) (pa_cons (pv 1) pa_nil)) (pg_sub (pe_fld (pv 0) rfl) (pv 2) (set_any hr.u1)))
     (pss_one (ps_ret (pv 2))))))))
theorem sc_is_seal : FnScope ["thing", "rest", "turn"] ["thing"] (defScope s_is_seal) := (by walk_at "fs")
theorem bd_is_seal (T : Txt K mg) : Binds K (fdOf K (He.ga K "is_seal")) ["thing"] [] := T.F_is_seal.bindsN λ _ _ _ _ _ _ us hl => match us, hl with | [_], _ => rfl
theorem ok_is_seal (T : Txt K mg) (nd : NDX base) : FnX false P w K mg base CX0 2 (He.ga K "is_seal") (fdOf K (He.ga K "is_seal")) ["thing"] (sp_is_seal K) := by
 refine okX T.F_is_seal sc_is_seal len_is_seal (λ cdv A outer s H vs Q E hgu0 hr h => ⟨t_is_seal K, PSs.nox ?_, pure_is_seal vs H Q E h⟩)
 exact (pss_cons (ps_if (PW.pt (pw_or (pt_not (pt_val (pe_callX (ok_is_whole T nd) nz hr rfl T.g_is_whole T.F_is_whole.kp (bd_is_whole T) .nil pass0 (pa_cons (pv 0) pa_nil)))) (pw_or1 (pt_cmpR uo_lt (pv 0) pe_int (nomark _))))) (pss_one (ps_ret pe_bl)) pss_nil)
     (pss_cons (ps_set (i := 1) sc_is_seal.nd rfl (by walk_at "oz") (pv 0))
     (pss_cons (ps_for PassesOwn.never rfl (pi_range1 (by rfl) T.b_range (pa_cons (pe_globI rfl T.c_MOST_PIECE) pa_nil)) (pg_name (i := 2) sc_is_seal.nd rfl (by walk_at "oz")) (pss_cons (ps_if (pt_cmpR (uo_eq hr.units) (pe_op uo_mod (pv 1) (pe_globI rfl T.c_BASE)) pe_int (nomark _)) (pss_one (ps_ret pe_bl)) pss_nil)
     (pss_cons (ps_aug (i := 1) sc_is_seal.nd rfl (by walk_at "oz") (pe_globI rfl T.c_BASE) (ip_of io_div))
     (pss_one (ps_if (pt_cmpR (uo_eq hr.units) (pv 1) pe_int (nomark _)) (pss_one (ps_ret pe_bl)) pss_nil)))))
     (pss_one (ps_ret pe_bl)))))
theorem sc_Shelf_need_kept : FnScope ["self", "seal"] ["self", "seal"] (defScope s_Shelf_need_kept) := (by walk_at "fs")
theorem bd_Shelf_need_kept (T : Txt K mg) : Binds K (fdOf K (mA K "Shelf" "need_kept")) ["self", "seal"] [] := T.F_Shelf_need_kept.bindsN λ _ _ _ _ _ _ us hl => match us, hl with | [_, _], _ => rfl
theorem ok_Shelf_need_kept (T : Txt K mg) (nd : NDX base) : FnX false P w K mg base (L2.CX P w) 3 (mA K "Shelf" "need_kept") (fdOf K (mA K "Shelf" "need_kept")) ["self", "seal"] (sp_Shelf_need_kept K) := by
 refine okW T.F_Shelf_need_kept sc_Shelf_need_kept len_Shelf_need_kept (λ cdv A outer s H vs Q E hgu0 hr h tk pw => ⟨t_Shelf_need_kept K (WT E), ?_, pure_Shelf_need_kept T.c vs H Q E h⟩)
 exact (pss_one (ps_if (pt_cmpR (uo_notinU hr.u65) (pv 1) (pe_fld (pv 0) rfl) (by rfl)) (pss_one (ps_rz rfl tk T.xb_NoPiece T.xf_NoPiece.1 T.xf_NoPiece.2 (ok_NoPiece___init__ T) (hr.mono (by decide)) (bd_NoPiece___init__ T) (λ _ _ _ _ _ _ _ z => z.elim) rfl T.cg_NoPiece (pv 1))) pss_nil))
theorem sc_Shelf_hold : FnScope ["self", "seal"] ["self", "seal"] (defScope s_Shelf_hold) := (by walk_at "fs")
theorem bd_Shelf_hold (T : Txt K mg) : Binds K (fdOf K (mA K "Shelf" "hold")) ["self", "seal"] [] := T.F_Shelf_hold.bindsN λ _ _ _ _ _ _ us hl => match us, hl with | [_, _], _ => rfl
theorem ok_Shelf_hold (T : Txt K mg) (nd : NDX base) : FnX false P w K mg base (L2.CX P w) 4 (mA K "Shelf" "hold") (fdOf K (mA K "Shelf" "hold")) ["self", "seal"] (sp_Shelf_hold K) := by
 refine okW T.F_Shelf_hold sc_Shelf_hold len_Shelf_hold (λ cdv A outer s H vs Q E hgu0 hr h tk pw => ⟨t_Shelf_hold K (WT E), ?_, pure_Shelf_hold T.c vs H Q E h⟩)
 exact (pss_cons (ps_if (pt_not (pt_val (pe_callX (ok_is_seal T nd) nz (hr.mono (by decide)) rfl T.g_is_seal T.F_is_seal.kp (bd_is_seal T) .nil pass0 (pa_cons (pv 1) pa_nil)))) (pss_one (ps_rz rfl tk T.xb_Wrong T.xf_Wrong.1 T.xf_Wrong.2 (ok_Wrong___init__ T) (hr.mono (by decide)) (bd_Wrong___init__ T) (λ _ _ _ _ _ _ _ z => z.elim) rfl T.cg_Wrong pe_int)) pss_nil)
     (pss_cons (ps_expr (pe_methW (pv 0) T.cl_Shelf T.me_Shelf_need_kept (ok_Shelf_need_kept T nd) nz hr (bd_Shelf_need_kept T) .nil (λ σ => passAt tk σ) (pa_cons (pv 1) pa_nil)))
     (pss_one (ps_augS (pe_fld (pv 0) rfl) (pv 1) (get_any hr.u1) pe_int (ip_of io_add) (set_any hr.u1)))))
theorem sc_Shelf_let_go : FnScope ["self", "seal"] ["self", "seal"] (defScope s_Shelf_let_go) := (by walk_at "fs")
theorem bd_Shelf_let_go (T : Txt K mg) : Binds K (fdOf K (mA K "Shelf" "let_go")) ["self", "seal"] [] := T.F_Shelf_let_go.bindsN λ _ _ _ _ _ _ us hl => match us, hl with | [_, _], _ => rfl
theorem ok_Shelf_let_go (T : Txt K mg) (nd : NDX base) : FnX false P w K mg base (L2.CX P w) 4 (mA K "Shelf" "let_go") (fdOf K (mA K "Shelf" "let_go")) ["self", "seal"] (sp_Shelf_let_go K) := by
 refine okW T.F_Shelf_let_go sc_Shelf_let_go len_Shelf_let_go (λ cdv A outer s H vs Q E hgu0 hr h tk pw => ⟨t_Shelf_let_go K (WT E), ?_, pure_Shelf_let_go T.c vs H Q E h⟩)
 exact (pss_cons (ps_if (pt_not (pt_val (pe_callX (ok_is_seal T nd) nz (hr.mono (by decide)) rfl T.g_is_seal T.F_is_seal.kp (bd_is_seal T) .nil pass0 (pa_cons (pv 1) pa_nil)))) (pss_one (ps_rz rfl tk T.xb_Wrong T.xf_Wrong.1 T.xf_Wrong.2 (ok_Wrong___init__ T) (hr.mono (by decide)) (bd_Wrong___init__ T) (λ _ _ _ _ _ _ _ z => z.elim) rfl T.cg_Wrong pe_int)) pss_nil)
     (pss_cons (ps_expr (pe_methW (pv 0) T.cl_Shelf T.me_Shelf_need_kept (ok_Shelf_need_kept T nd) nz hr (bd_Shelf_need_kept T) .nil (λ σ => passAt tk σ) (pa_cons (pv 1) pa_nil)))
     (pss_cons (ps_augS (pe_fld (pv 0) rfl) (pv 1) (get_any hr.u1) pe_int (ip_of io_sub) (set_any hr.u1))
     (pss_cons (ps_if (pt_cmpR uo_gt (pe_ix (ix_dk hr.u1) (pe_fld (pv 0) rfl) (pv 1) (λ _ _ => rfl)) pe_int (nomark _)) (pss_one (ps_ret pe_bl)) pss_nil)
     (pss_cons (ps_expr (pe_dpop1 (pe_fld (pv 0) rfl) (pv 1) ⟨by rfl, by rfl, by rfl, by rfl⟩))
     (pss_cons (ps_expr (pe_dpop1 (pe_fld (pv 0) rfl) (pv 1) ⟨by rfl, by rfl, by rfl, by rfl⟩))
     (pss_one (ps_ret pe_bl))))))))
theorem sc_Shelf_harm : FnScope ["self", "seal", "signs"] ["self", "seal", "signs"] (defScope s_Shelf_harm) := (by walk_at "fs")
theorem bd_Shelf_harm (T : Txt K mg) : Binds K (fdOf K (mA K "Shelf" "harm")) ["self", "seal", "signs"] [] := T.F_Shelf_harm.bindsN λ _ _ _ _ _ _ us hl => match us, hl with | [_, _, _], _ => rfl
theorem ok_Shelf_harm (T : Txt K mg) (nd : NDX base) : FnX false P w K mg base (L2.CX P w) 4 (mA K "Shelf" "harm") (fdOf K (mA K "Shelf" "harm")) ["self", "seal", "signs"] (sp_Shelf_harm K) := by
 refine okW T.F_Shelf_harm sc_Shelf_harm len_Shelf_harm (λ cdv A outer s H vs Q E hgu0 hr h tk pw => ⟨t_Shelf_harm K (WT E), ?_, pure_Shelf_harm T.c vs H Q E h⟩)
 exact (pss_cons (ps_if (pt_not (pt_val (pe_callX (ok_is_seal T nd) nz (hr.mono (by decide)) rfl T.g_is_seal T.F_is_seal.kp (bd_is_seal T) .nil pass0 (pa_cons (pv 1) pa_nil)))) (pss_one (ps_rz rfl tk T.xb_Wrong T.xf_Wrong.1 T.xf_Wrong.2 (ok_Wrong___init__ T) (hr.mono (by decide)) (bd_Wrong___init__ T) (λ _ _ _ _ _ _ _ z => z.elim) rfl T.cg_Wrong pe_int)) pss_nil)
     (pss_cons (ps_if (pt_not (pt_val (pe_callX (ok_are_signs T nd) nz hr rfl T.g_are_signs T.F_are_signs.kp (bd_are_signs T) .nil pass0 (pa_cons (pv 2) (pa_cons pe_int (pa_cons (pe_globI rfl T.c_MOST_PIECE) pa_nil)))))) (pss_one (ps_rz rfl tk T.xb_Wrong T.xf_Wrong.1 T.xf_Wrong.2 (ok_Wrong___init__ T) (hr.mono (by decide)) (bd_Wrong___init__ T) (λ _ _ _ _ _ _ _ z => z.elim) rfl T.cg_Wrong pe_int)) pss_nil)
     (pss_cons (ps_expr (pe_methW (pv 0) T.cl_Shelf T.me_Shelf_need_kept (ok_Shelf_need_kept T nd) nz hr (bd_Shelf_need_kept T) .nil (λ σ => passAt tk σ) (pa_cons (pv 1) pa_nil)))
     (pss_one (ps_asg (pe_callTy cr_list (by rfl) T.b_list (by decide +kernel) (pa_cons (pv 2) pa_nil)) (pg_sub (pe_fld (pv 0) rfl) (pv 1) (set_any hr.u1)))))))
theorem sc_Shelf_lose : FnScope ["self", "seal"] ["self", "seal"] (defScope s_Shelf_lose) := (by walk_at "fs")
theorem bd_Shelf_lose (T : Txt K mg) : Binds K (fdOf K (mA K "Shelf" "lose")) ["self", "seal"] [] := T.F_Shelf_lose.bindsN λ _ _ _ _ _ _ us hl => match us, hl with | [_, _], _ => rfl
theorem ok_Shelf_lose (T : Txt K mg) (nd : NDX base) : FnX false P w K mg base (L2.CX P w) 4 (mA K "Shelf" "lose") (fdOf K (mA K "Shelf" "lose")) ["self", "seal"] (sp_Shelf_lose K) := by
 refine okW T.F_Shelf_lose sc_Shelf_lose len_Shelf_lose (λ cdv A outer s H vs Q E hgu0 hr h tk pw => ⟨t_Shelf_lose K (WT E), ?_, pure_Shelf_lose T.c vs H Q E h⟩)
 exact (pss_cons (ps_if (pt_not (pt_val (pe_callX (ok_is_seal T nd) nz (hr.mono (by decide)) rfl T.g_is_seal T.F_is_seal.kp (bd_is_seal T) .nil pass0 (pa_cons (pv 1) pa_nil)))) (pss_one (ps_rz rfl tk T.xb_Wrong T.xf_Wrong.1 T.xf_Wrong.2 (ok_Wrong___init__ T) (hr.mono (by decide)) (bd_Wrong___init__ T) (λ _ _ _ _ _ _ _ z => z.elim) rfl T.cg_Wrong pe_int)) pss_nil)
     (pss_cons (ps_expr (pe_methW (pv 0) T.cl_Shelf T.me_Shelf_need_kept (ok_Shelf_need_kept T nd) nz hr (bd_Shelf_need_kept T) .nil (λ σ => passAt tk σ) (pa_cons (pv 1) pa_nil)))
     (pss_one (ps_asg pe_non (pg_sub (pe_fld (pv 0) rfl) (pv 1) (set_any hr.u1))))))
theorem sc_Shelf_heal : FnScope ["self", "seal", "signs"] ["self", "seal", "signs"] (defScope s_Shelf_heal) := (by walk_at "fs")
theorem bd_Shelf_heal (T : Txt K mg) : Binds K (fdOf K (mA K "Shelf" "heal")) ["self", "seal", "signs"] [] := T.F_Shelf_heal.bindsN λ _ _ _ _ _ _ us hl => match us, hl with | [_, _, _], _ => rfl
theorem ok_Shelf_heal (T : Txt K mg) (nd : NDX base) : FnX false P w K mg base (L2.CX P w) 5 (mA K "Shelf" "heal") (fdOf K (mA K "Shelf" "heal")) ["self", "seal", "signs"] (sp_Shelf_heal K) := by
 refine okW T.F_Shelf_heal sc_Shelf_heal len_Shelf_heal (λ cdv A outer s H vs Q E hgu0 hr h tk pw => ⟨t_Shelf_heal K (WT E), ?_, pure_Shelf_heal T.c vs H Q E h⟩)
 exact (pss_cons (ps_if (pt_not (pt_val (pe_callX (ok_is_seal T nd) nz (hr.mono (by decide)) rfl T.g_is_seal T.F_is_seal.kp (bd_is_seal T) .nil pass0 (pa_cons (pv 1) pa_nil)))) (pss_one (ps_rz rfl tk T.xb_Wrong T.xf_Wrong.1 T.xf_Wrong.2 (ok_Wrong___init__ T) (hr.mono (by decide)) (bd_Wrong___init__ T) (λ _ _ _ _ _ _ _ z => z.elim) rfl T.cg_Wrong pe_int)) pss_nil)
     (pss_cons (ps_if (pt_not (pt_val (pe_callX (ok_are_signs T nd) nz (hr.mono (by decide)) rfl T.g_are_signs T.F_are_signs.kp (bd_are_signs T) .nil pass0 (pa_cons (pv 2) (pa_cons pe_int (pa_cons (pe_globI rfl T.c_MOST_PIECE) pa_nil)))))) (pss_one (ps_rz rfl tk T.xb_Wrong T.xf_Wrong.1 T.xf_Wrong.2 (ok_Wrong___init__ T) (hr.mono (by decide)) (bd_Wrong___init__ T) (λ _ _ _ _ _ _ _ z => z.elim) rfl T.cg_Wrong pe_int)) pss_nil)
     (pss_cons (ps_expr (pe_methW (pv 0) T.cl_Shelf T.me_Shelf_need_kept (ok_Shelf_need_kept T nd) nz (hr.mono (by decide)) (bd_Shelf_need_kept T) .nil (λ σ => passAt tk σ) (pa_cons (pv 1) pa_nil)))
     (pss_cons (ps_if (pt_cmpR (uo_ne hr.units) (pe_callX (ok_seal_of T nd) nz hr rfl T.g_seal_of T.F_seal_of.kp (bd_seal_of T) .nil pass0 (pa_cons (pv 2) pa_nil)) (pv 1) (nomark _)) (pss_one (ps_rz rfl tk T.xb_Unlike T.xf_Unlike.1 T.xf_Unlike.2 (ok_Unlike___init__ T) (hr.mono (by decide)) (bd_Unlike___init__ T) (λ _ _ _ _ _ _ _ z => z.elim) rfl T.cg_Unlike (pv 1))) pss_nil)
     (pss_one (ps_asg (pe_callTy cr_list (by rfl) T.b_list (by decide +kernel) (pa_cons (pv 2) pa_nil)) (pg_sub (pe_fld (pv 0) rfl) (pv 1) (set_any hr.u1))))))))
theorem sc_Shelf_held : FnScope ["self", "seal"] ["self", "seal"] (defScope s_Shelf_held) := (by walk_at "fs")
theorem bd_Shelf_held (T : Txt K mg) : Binds K (fdOf K (mA K "Shelf" "held")) ["self", "seal"] [] := T.F_Shelf_held.bindsN λ _ _ _ _ _ _ us hl => match us, hl with | [_, _], _ => rfl
theorem ok_Shelf_held (T : Txt K mg) (nd : NDX base) : FnX false P w K mg base (L2.CX P w) 4 (mA K "Shelf" "held") (fdOf K (mA K "Shelf" "held")) ["self", "seal"] (sp_Shelf_held K) := by
 refine okW T.F_Shelf_held sc_Shelf_held len_Shelf_held (λ cdv A outer s H vs Q E hgu0 hr h tk pw => ⟨t_Shelf_held K (WT E), ?_, pure_Shelf_held T.c vs H Q E h⟩)
 exact (pss_cons (ps_if (pt_not (pt_val (pe_callX (ok_is_seal T nd) nz (hr.mono (by decide)) rfl T.g_is_seal T.F_is_seal.kp (bd_is_seal T) .nil pass0 (pa_cons (pv 1) pa_nil)))) (pss_one (ps_rz rfl tk T.xb_Wrong T.xf_Wrong.1 T.xf_Wrong.2 (ok_Wrong___init__ T) (hr.mono (by decide)) (bd_Wrong___init__ T) (λ _ _ _ _ _ _ _ z => z.elim) rfl T.cg_Wrong pe_int)) pss_nil)
     (pss_cons (ps_expr (pe_methW (pv 0) T.cl_Shelf T.me_Shelf_need_kept (ok_Shelf_need_kept T nd) nz hr (bd_Shelf_need_kept T) .nil (λ σ => passAt tk σ) (pa_cons (pv 1) pa_nil)))
     (pss_one (ps_ret (pe_ix (ix_dk hr.u1) (pe_fld (pv 0) rfl) (pv 1) (λ _ _ => rfl))))))
theorem sc_Shelf_has_sound : FnScope ["self", "seal", "body"] ["self", "seal"] (defScope s_Shelf_has_sound) := (by walk_at "fs")
theorem bd_Shelf_has_sound (T : Txt K mg) : Binds K (fdOf K (mA K "Shelf" "has_sound")) ["self", "seal"] [] := T.F_Shelf_has_sound.bindsN λ _ _ _ _ _ _ us hl => match us, hl with | [_, _], _ => rfl
theorem ok_Shelf_has_sound (T : Txt K mg) (nd : NDX base) : FnX false P w K mg base CX0 5 (mA K "Shelf" "has_sound") (fdOf K (mA K "Shelf" "has_sound")) ["self", "seal"] (sp_Shelf_has_sound K) := by
 refine okX T.F_Shelf_has_sound sc_Shelf_has_sound len_Shelf_has_sound (λ cdv A outer s H vs Q E hgu0 hr h => ⟨t_Shelf_has_sound K, PSs.nox ?_, pure_Shelf_has_sound T.c vs H Q E h⟩)
 exact (pss_cons (ps_set (i := 2) sc_Shelf_has_sound.nd rfl (by walk_at "oz") (pe_ix (ix_dk hr.u1) (pe_fld (pv 0) rfl) (pv 1) (λ _ _ => rfl)))
     (pss_one (ps_ret (pe_and (pe_cmpR op_notN' (pv 2) pe_non (nomark _)) (pe_and (pe_cmpR (uo_ne hr.units) (pv 2) (pe_lst pa_nil) (nomark _)) (pe_one (pe_cmpR (uo_eq hr.units) (pe_callX (ok_seal_of T nd) nz hr rfl T.g_seal_of T.F_seal_of.kp (bd_seal_of T) .nil pass0 (pa_cons (pv 2) pa_nil)) (pv 1) (nomark _))))))))
theorem sc_Shelf_is_sound : FnScope ["self", "seal"] ["self", "seal"] (defScope s_Shelf_is_sound) := (by walk_at "fs")
theorem bd_Shelf_is_sound (T : Txt K mg) : Binds K (fdOf K (mA K "Shelf" "is_sound")) ["self", "seal"] [] := T.F_Shelf_is_sound.bindsN λ _ _ _ _ _ _ us hl => match us, hl with | [_, _], _ => rfl
theorem ok_Shelf_is_sound (T : Txt K mg) (nd : NDX base) : FnX false P w K mg base (L2.CX P w) 6 (mA K "Shelf" "is_sound") (fdOf K (mA K "Shelf" "is_sound")) ["self", "seal"] (sp_Shelf_is_sound K) := by
 refine okW T.F_Shelf_is_sound sc_Shelf_is_sound len_Shelf_is_sound (λ cdv A outer s H vs Q E hgu0 hr h tk pw => ⟨t_Shelf_is_sound K (WT E), ?_, pure_Shelf_is_sound T.c vs H Q E h⟩)
 exact (pss_cons (ps_if (pt_not (pt_val (pe_callX (ok_is_seal T nd) nz (hr.mono (by decide)) rfl T.g_is_seal T.F_is_seal.kp (bd_is_seal T) .nil pass0 (pa_cons (pv 1) pa_nil)))) (pss_one (ps_rz rfl tk T.xb_Wrong T.xf_Wrong.1 T.xf_Wrong.2 (ok_Wrong___init__ T) (hr.mono (by decide)) (bd_Wrong___init__ T) (λ _ _ _ _ _ _ _ z => z.elim) rfl T.cg_Wrong pe_int)) pss_nil)
     (pss_cons (ps_expr (pe_methW (pv 0) T.cl_Shelf T.me_Shelf_need_kept (ok_Shelf_need_kept T nd) nz (hr.mono (by decide)) (bd_Shelf_need_kept T) .nil (λ σ => passAt tk σ) (pa_cons (pv 1) pa_nil)))
     (pss_one (ps_ret (pe_methW (pv 0) T.cl_Shelf T.me_Shelf_has_sound (ok_Shelf_has_sound T nd) nz hr (bd_Shelf_has_sound T) .nil (λ _ => pas0) (pa_cons (pv 1) pa_nil))))))
theorem sc_Shelf_read : FnScope ["self", "seal"] ["self", "seal"] (defScope s_Shelf_read) := (by walk_at "fs")
theorem bd_Shelf_read (T : Txt K mg) : Binds K (fdOf K (mA K "Shelf" "read")) ["self", "seal"] [] := T.F_Shelf_read.bindsN λ _ _ _ _ _ _ us hl => match us, hl with | [_, _], _ => rfl
theorem ok_Shelf_read (T : Txt K mg) (nd : NDX base) : FnX false P w K mg base (L2.CX P w) 6 (mA K "Shelf" "read") (fdOf K (mA K "Shelf" "read")) ["self", "seal"] (sp_Shelf_read K) := by
 refine okW T.F_Shelf_read sc_Shelf_read len_Shelf_read (λ cdv A outer s H vs Q E hgu0 hr h tk pw => ⟨t_Shelf_read K (WT E), ?_, pure_Shelf_read T.c vs H Q E h⟩)
 exact (pss_cons (ps_if (pt_not (pt_val (pe_callX (ok_is_seal T nd) nz (hr.mono (by decide)) rfl T.g_is_seal T.F_is_seal.kp (bd_is_seal T) .nil pass0 (pa_cons (pv 1) pa_nil)))) (pss_one (ps_rz rfl tk T.xb_Wrong T.xf_Wrong.1 T.xf_Wrong.2 (ok_Wrong___init__ T) (hr.mono (by decide)) (bd_Wrong___init__ T) (λ _ _ _ _ _ _ _ z => z.elim) rfl T.cg_Wrong pe_int)) pss_nil)
     (pss_cons (ps_expr (pe_methW (pv 0) T.cl_Shelf T.me_Shelf_need_kept (ok_Shelf_need_kept T nd) nz (hr.mono (by decide)) (bd_Shelf_need_kept T) .nil (λ σ => passAt tk σ) (pa_cons (pv 1) pa_nil)))
     (pss_cons (ps_if (pt_not (pt_val (pe_methW (pv 0) T.cl_Shelf T.me_Shelf_has_sound (ok_Shelf_has_sound T nd) nz hr (bd_Shelf_has_sound T) .nil (λ _ => pas0) (pa_cons (pv 1) pa_nil)))) (pss_one (ps_rz rfl tk T.xb_Broken T.xf_Broken.1 T.xf_Broken.2 (ok_Broken___init__ T) (hr.mono (by decide)) (bd_Broken___init__ T) (λ _ _ _ _ _ _ _ z => z.elim) rfl T.cg_Broken (pv 1))) pss_nil)
     (pss_one (ps_ret (pe_callTy cr_list (by rfl) T.b_list (by decide +kernel) (pa_cons (pe_ix (ix_dk hr.u1) (pe_fld (pv 0) rfl) (pv 1) (λ _ _ => rfl)) pa_nil)))))))
theorem sc_l_deed : FnScope ["_law_shelf", "_law_way", "_law_seal", "_law_signs_here"] ["_law_shelf", "_law_way", "_law_seal", "_law_signs_here"] (defScope s_l_deed) := (by walk_at "fs")
theorem bd_l_deed (T : Txt K mg) : Binds K (fdOf K (He.ga K "_law_deed")) ["_law_shelf", "_law_way", "_law_seal", "_law_signs_here"] [] := T.F_l_deed.bindsN λ _ _ _ _ _ _ us hl => match us, hl with | [_, _, _, _], _ => rfl
theorem ok_l_deed (T : Txt K mg) (nd : NDX base) : FnX false P w K mg base (L2.CX P w) 7 (He.ga K "_law_deed") (fdOf K (He.ga K "_law_deed")) ["_law_shelf", "_law_way", "_law_seal", "_law_signs_here"] (sp_l_deed K) := by
 refine okW T.F_l_deed sc_l_deed len_l_deed (λ cdv A outer s H vs Q E hgu0 hr h tk pw => ⟨t_l_deed K (WT E), ?_, pure_l_deed T.c vs H Q E h⟩)
 exact (pss_cons (ps_if (pt_cmpR (uo_eq hr.units) (pv 1) pe_int (nomark _)) (pss_one (ps_ret (pe_methW (pv 0) T.cl_Shelf T.me_Shelf_lay (ok_Shelf_lay T nd) nz (hr.mono (by decide)) (bd_Shelf_lay T) .nil (λ σ => passAt tk σ) (pa_cons (pv 3) pa_nil)))) pss_nil)
     (pss_cons (ps_if (pt_cmpR (uo_eq hr.units) (pv 1) pe_int (nomark _)) (pss_one (ps_ret (pe_methW (pv 0) T.cl_Shelf T.me_Shelf_hold (ok_Shelf_hold T nd) nz (hr.mono (by decide)) (bd_Shelf_hold T) .nil (λ σ => passAt tk σ) (pa_cons (pv 2) pa_nil)))) pss_nil)
     (pss_cons (ps_if (pt_cmpR (uo_eq hr.units) (pv 1) pe_int (nomark _)) (pss_one (ps_ret (pe_methW (pv 0) T.cl_Shelf T.me_Shelf_let_go (ok_Shelf_let_go T nd) nz (hr.mono (by decide)) (bd_Shelf_let_go T) .nil (λ σ => passAt tk σ) (pa_cons (pv 2) pa_nil)))) pss_nil)
     (pss_cons (ps_if (pt_cmpR (uo_eq hr.units) (pv 1) pe_int (nomark _)) (pss_one (ps_ret (pe_methW (pv 0) T.cl_Shelf T.me_Shelf_harm (ok_Shelf_harm T nd) nz (hr.mono (by decide)) (bd_Shelf_harm T) .nil (λ σ => passAt tk σ) (pa_cons (pv 2) (pa_cons (pv 3) pa_nil))))) pss_nil)
     (pss_cons (ps_if (pt_cmpR (uo_eq hr.units) (pv 1) pe_int (nomark _)) (pss_one (ps_ret (pe_methW (pv 0) T.cl_Shelf T.me_Shelf_lose (ok_Shelf_lose T nd) nz (hr.mono (by decide)) (bd_Shelf_lose T) .nil (λ σ => passAt tk σ) (pa_cons (pv 2) pa_nil)))) pss_nil)
     (pss_cons (ps_if (pt_cmpR (uo_eq hr.units) (pv 1) pe_int (nomark _)) (pss_one (ps_ret (pe_methW (pv 0) T.cl_Shelf T.me_Shelf_heal (ok_Shelf_heal T nd) nz (hr.mono (by decide)) (bd_Shelf_heal T) .nil (λ σ => passAt tk σ) (pa_cons (pv 2) (pa_cons (pv 3) pa_nil))))) pss_nil)
     (pss_cons (ps_if (pt_cmpR (uo_eq hr.units) (pv 1) pe_int (nomark _)) (pss_one (ps_ret (pe_methW (pv 0) T.cl_Shelf T.me_Shelf_held (ok_Shelf_held T nd) nz (hr.mono (by decide)) (bd_Shelf_held T) .nil (λ σ => passAt tk σ) (pa_cons (pv 2) pa_nil)))) pss_nil)
     (pss_cons (ps_if (pt_cmpR (uo_eq hr.units) (pv 1) pe_int (nomark _)) (pss_one (ps_ret (pe_methW (pv 0) T.cl_Shelf T.me_Shelf_is_sound (ok_Shelf_is_sound T nd) nz hr (bd_Shelf_is_sound T) .nil (λ σ => passAt tk σ) (pa_cons (pv 2) pa_nil)))) pss_nil)
     (pss_one (ps_ret (pe_methW (pv 0) T.cl_Shelf T.me_Shelf_read (ok_Shelf_read T nd) nz hr (bd_Shelf_read T) .nil (λ σ => passAt tk σ) (pa_cons (pv 2) pa_nil))))))))))))
theorem sc_l_refusal : FnScope ["_law_e", "_law_some", "_law_at"] ["_law_e"] (defScope s_l_refusal) := (by walk_at "fs")
theorem bd_l_refusal (T : Txt K mg) : Binds K (fdOf K (He.ga K "_law_refusal")) ["_law_e"] [] := T.F_l_refusal.bindsN λ _ _ _ _ _ _ us hl => match us, hl with | [_], _ => rfl
theorem ok_l_refusal (T : Txt K mg) : FnE P w K mg base 1 (He.ga K "_law_refusal") (fdOf K (He.ga K "_law_refusal")) "_law_e" (sp_l_refusal K) := by
 refine okE T.F_l_refusal sc_l_refusal (λ cdv A outer s H Q a oe cls d hr hz hf h => ⟨t_l_refusal K a cls d, PSs.nox ?_, pure_l_refusal T.c a cls d H Q h⟩)
 exact (pss_cons (ps_set (i := 1) sc_l_refusal.nd rfl (by walk_at "oz") (pe_lst (pa_cons (pe_callB (cr_isX List.mem_cons_self hz hf) (by rfl) T.b_isinstance (by decide +kernel) (pa_cons (pv 0) (pa_cons (pe_glob rfl T.cg_Wrong rfl) pa_nil))) (pa_cons (pe_callB (cr_isX List.mem_cons_self hz hf) (by rfl) T.b_isinstance (by decide +kernel) (pa_cons (pv 0) (pa_cons (pe_glob rfl T.cg_NoRoom rfl) pa_nil))) (pa_cons (pe_callB (cr_isX List.mem_cons_self hz hf) (by rfl) T.b_isinstance (by decide +kernel) (pa_cons (pv 0) (pa_cons (pe_glob rfl T.cg_NoPiece rfl) pa_nil))) (pa_cons (pe_callB (cr_isX List.mem_cons_self hz hf) (by rfl) T.b_isinstance (by decide +kernel) (pa_cons (pv 0) (pa_cons (pe_glob rfl T.cg_Unlike rfl) pa_nil))) pa_nil))))))
     (pss_cons (ps_set (i := 1) sc_l_refusal.nd rfl (by walk_at "oz") (pe_op uo_add (pv 1) (pe_lst (pa_cons (pe_callB (cr_isX List.mem_cons_self hz hf) (by rfl) T.b_isinstance (by decide +kernel) (pa_cons (pv 0) (pa_cons (pe_glob rfl T.cg_Broken rfl) pa_nil))) pa_nil))))
     (pss_cons (ps_if (pt_cmpR (uo_ne hr.units) (pe_bm PySem.F.plainAttrs_list PySem.F.slot_list_count PySem.F.type_list_count mt_countV (pv 1) (pa_cons pe_bl pa_nil)) pe_int (nomark _)) (pss_one (ps_ret (pe_tup (pa_cons pe_str pa_nil)))) pss_nil)
     (pss_cons (ps_set (i := 2) sc_l_refusal.nd rfl (by walk_at "oz") (pe_bm PySem.F.plainAttrs_list PySem.F.slot_list_index PySem.F.type_list_index mt_index (pv 1) (pa_cons pe_bl pa_nil)))
     (pss_cons (ps_if (pt_cmpR (uo_eq hr.units) (pv 2) pe_int (nomark _)) (pss_one (ps_ret (pe_tup (pa_cons pe_str (pa_cons (pe_xg List.mem_cons_self hz hf (pv 0)) pa_nil))))) pss_nil)
     (pss_cons (ps_if (pt_cmpR (uo_eq hr.units) (pv 2) pe_int (nomark _)) (pss_one (ps_ret (pe_tup (pa_cons pe_str (pa_cons (pe_xg List.mem_cons_self hz hf (pv 0)) pa_nil))))) pss_nil)
     (pss_one (ps_ret (pe_tup (pa_cons (pe_ix ix_any (pe_lst (pa_cons pe_str (pa_cons pe_str (pa_cons pe_str pa_nil)))) (pe_op uo_sub (pv 2) pe_int) (λ _ _ => rfl)) (pa_cons (pe_xg List.mem_cons_self hz hf (pv 0)) pa_nil)))))))))))
theorem sc_l_said : FnScope ["_law_shelf", "_law_way", "_law_seal", "_law_signs_here", "_law_found", "_law_e"] ["_law_shelf", "_law_way", "_law_seal", "_law_signs_here"] (defScope s_l_said) := (by walk_at "fs")
theorem bd_l_said (T : Txt K mg) : Binds K (fdOf K (He.ga K "_law_said")) ["_law_shelf", "_law_way", "_law_seal", "_law_signs_here"] [] := T.F_l_said.bindsN λ _ _ _ _ _ _ us hl => match us, hl with | [_, _, _, _], _ => rfl
theorem ok_l_said (T : Txt K mg) (nd : NDX base) : FnX false P w K mg base CX0 8 (He.ga K "_law_said") (fdOf K (He.ga K "_law_said")) ["_law_shelf", "_law_way", "_law_seal", "_law_signs_here"] (sp_l_said K) := by
 refine okX T.F_l_said sc_l_said len_l_said (λ cdv A outer s H vs Q E hgu0 hr h => ⟨t_l_said K, PSs.nox ?_, pure_l_said T.c vs H Q E h⟩)
 exact (pss_cons (ps_set (i := 4) sc_l_said.nd rfl (by walk_at "oz") pe_non)
     (pss_cons (ps_tryT rfl rfl sc_l_said.nd tk0 (λ W pn xe tk pw => by exact (pss_one (ps_set (i := 4) sc_l_said.nd rfl (by walk_at "oz") (pe_callW (ok_l_deed T nd) nz hr rfl T.g_l_deed T.F_l_deed.kp (bd_l_deed T) .nil (λ σ => passAt tk σ) (pa_cons (pv 0) (pa_cons (pv 1) (pa_cons (pv 2) (pa_cons (pv 3) pa_nil)))))))) (HdOk.named (i := 5) (test3 ⟨rfl, by decide, .inl T.cg_StoreError⟩ ⟨rfl, by decide, .inl T.cg_Missing⟩ ⟨rfl, by decide, .inl T.cg_Halted⟩) rfl rfl (λ a oe cls d pn hz hf => by exact (pss_one (ps_ret (pe_callE (ok_l_refusal T) List.mem_cons_self hz hf ((roomMark hr).mono (by decide)) rfl T.g_l_refusal T.F_l_refusal.kp (bd_l_refusal T) (pv 5))))) HdOk.nil))
     (pss_one (ps_ret (pe_tup (pa_cons pe_str (pa_cons (pv 4) pa_nil)))))))
theorem sc_l_state_due : FnScope ["_law_model", "_law_room", "_law_bad", "_law_found", "_law_seal", "_law_way"] ["_law_model", "_law_room"] (defScope s_l_state_due) := (by walk_at "fs")
theorem bd_l_state_due (T : Txt K mg) : Binds K (fdOf K (He.ga K "_law_state_due")) ["_law_model", "_law_room"] [] := T.F_l_state_due.bindsN λ _ _ _ _ _ _ us hl => match us, hl with | [_, _], _ => rfl
theorem ok_l_state_due (T : Txt K mg) (nd : NDX base) : FnX false P w K mg base CX0 5 (He.ga K "_law_state_due") (fdOf K (He.ga K "_law_state_due")) ["_law_model", "_law_room"] (sp_l_state_due K) := by
 refine okX T.F_l_state_due sc_l_state_due len_l_state_due (λ cdv A outer s H vs Q E hgu0 hr h => ⟨t_l_state_due K, PSs.nox ?_, pure_l_state_due vs H Q E h⟩)
 exact (pss_cons (ps_setLc (i := 2) (own := [("_law_seal", 4)]) (g := (gName 4)) (tt := (tNot (tB (tCall (sp_l_sound K) [] E0 (tCons (tVar 0) (tCons (tVar 4) tNil)))))) rfl sc_l_state_due.nd rfl rfl (sw_true rfl rfl rfl (by decide +kernel)) (pi_list (pe_callB (cr_soDI rfl) (by rfl) T.b_sorted (by decide +kernel) (pa_cons (pv 0) pa_nil))) (blkOk_by (own := [("_law_seal", 4)]) (N := ["_law_model", "_law_room", "_law_bad", "_law_found", "_law_seal", "_law_way"]) (sc := defScope s_l_state_due) (by decide +kernel)) (λ _ _ _ _ _ => (pg_name (i := 4) sc_l_state_due.nd rfl (by walk_at "oz"))) (λ _ _ _ _ _ => (pts_one (pt_not (pt_val (pe_callX (ok_l_sound T nd) nz (hr.mono (by decide)) rfl T.g_l_sound T.F_l_sound.kp (bd_l_sound T) .nil pass0 (pa_cons (pv 0) (pa_cons (pv 4) pa_nil))))))) (λ _ _ _ _ _ => (pv 4)))
     (pss_cons (ps_set (i := 3) sc_l_state_due.nd rfl (by walk_at "oz") (pe_lst (pa_cons (pe_callB (cr_soDI rfl) (by rfl) T.b_sorted (by decide +kernel) (pa_cons (pv 0) pa_nil)) (pa_cons (pv 2) (pa_cons (pe_op uo_sub (pv 1) (pe_callB cr_len (by rfl) T.b_len (by decide +kernel) (pa_cons (pv 0) pa_nil))) (pa_cons (pe_callB cr_len (by rfl) T.b_len (by decide +kernel) (pa_cons (pv 0) pa_nil)) pa_nil))))))
     (pss_cons (ps_for PassesOwn.never rfl (pi_list (pe_callB (cr_soDI rfl) (by rfl) T.b_sorted (by decide +kernel) (pa_cons (pv 0) pa_nil))) (pg_name (i := 4) sc_l_state_due.nd rfl (by walk_at "oz")) (pss_one (ps_expr (pe_bm PySem.F.plainAttrs_list PySem.F.slot_list_append PySem.F.type_list_append mt_append (pv 3) (pa_cons (pe_lc (own := [("_law_way", 5)]) (g := (gName 5)) (tt := tYes) rfl sc_l_state_due.nd (pi_list (pe_lst (pa_cons pe_int (pa_cons pe_int (pa_cons pe_int pa_nil))))) (blkOk_by (own := [("_law_way", 5)]) (N := ["_law_model", "_law_room", "_law_bad", "_law_found", "_law_seal", "_law_way"]) (sc := defScope s_l_state_due) (by decide +kernel)) (λ _ _ _ _ _ => (pg_name (i := 5) sc_l_state_due.nd rfl (by walk_at "oz"))) (λ _ _ _ _ _ => pts_nil) (λ _ _ _ _ _ => (pe_callX (ok_l_due T nd) nz hr rfl T.g_l_due T.F_l_due.kp (bd_l_due T) .nil pass0 (pa_cons (pv 0) (pa_cons (pv 1) (pa_cons (pv 5) (pa_cons (pv 4) (pa_cons (pe_lst pa_nil) pa_nil)))))))) pa_nil)))))
     (pss_one (ps_ret (pv 3))))))
theorem sc_Shelf_seals : FnScope ["self"] ["self"] (defScope s_Shelf_seals) := (by walk_at "fs")
theorem bd_Shelf_seals (T : Txt K mg) : Binds K (fdOf K (mA K "Shelf" "seals")) ["self"] [] := T.F_Shelf_seals.bindsN λ _ _ _ _ _ _ us hl => match us, hl with | [_], _ => rfl
theorem ok_Shelf_seals (T : Txt K mg) (nd : NDX base) : FnX false P w K mg base CX0 1 (mA K "Shelf" "seals") (fdOf K (mA K "Shelf" "seals")) ["self"] (sp_Shelf_seals K) := by
 refine okX T.F_Shelf_seals sc_Shelf_seals len_Shelf_seals (λ cdv A outer s H vs Q E hgu0 hr h => ⟨t_Shelf_seals K, PSs.nox ?_, pure_Shelf_seals T.c vs H Q E h⟩)
 exact (pss_one (ps_ret (pe_callB (cr_soDI rfl) (by rfl) T.b_sorted (by decide +kernel) (pa_cons (pe_fld (pv 0) rfl) pa_nil))))
theorem sc_Shelf_broken : FnScope ["self", "seal"] ["self"] (defScope s_Shelf_broken) := (by walk_at "fs")
theorem bd_Shelf_broken (T : Txt K mg) : Binds K (fdOf K (mA K "Shelf" "broken")) ["self"] [] := T.F_Shelf_broken.bindsN λ _ _ _ _ _ _ us hl => match us, hl with | [_], _ => rfl
theorem ok_Shelf_broken (T : Txt K mg) (nd : NDX base) : FnX false P w K mg base CX0 6 (mA K "Shelf" "broken") (fdOf K (mA K "Shelf" "broken")) ["self"] (sp_Shelf_broken K) := by
 refine okX T.F_Shelf_broken sc_Shelf_broken len_Shelf_broken (λ cdv A outer s H vs Q E hgu0 hr h => ⟨t_Shelf_broken K, PSs.nox ?_, pure_Shelf_broken T.c vs H Q E h⟩)
 exact (pss_one (ps_ret (pe_lc (own := [("seal", 1)]) (g := (gName 1)) (tt := (tNot (tB (tMethW W0 (He.ga K "Shelf") "has_sound" (sp_Shelf_has_sound K) [] (tVar 0) (tCons (tVar 1) tNil))))) rfl sc_Shelf_broken.nd (pi_list (pe_callB (cr_soDI rfl) (by rfl) T.b_sorted (by decide +kernel) (pa_cons (pe_fld (pv 0) rfl) pa_nil))) (blkOk_by (own := [("seal", 1)]) (N := ["self", "seal"]) (sc := defScope s_Shelf_broken) (by decide +kernel)) (λ _ _ _ _ _ => (pg_name (i := 1) sc_Shelf_broken.nd rfl (by walk_at "oz"))) (λ _ _ _ _ _ => (pts_one (pt_not (pt_val (pe_methW (pv 0) T.cl_Shelf T.me_Shelf_has_sound (ok_Shelf_has_sound T nd) nz hr (bd_Shelf_has_sound T) .nil (λ _ => pas0) (pa_cons (pv 1) pa_nil)))))) (λ _ _ _ _ _ => (pv 1)))))
theorem sc_Shelf___len__ : FnScope ["self"] ["self"] (defScope s_Shelf___len__) := (by walk_at "fs")
theorem bd_Shelf___len__ (T : Txt K mg) : Binds K (fdOf K (mA K "Shelf" "__len__")) ["self"] [] := T.F_Shelf___len__.bindsN λ _ _ _ _ _ _ us hl => match us, hl with | [_], _ => rfl
theorem ok_Shelf___len__ (T : Txt K mg) (nd : NDX base) : FnX false P w K mg base CX0 1 (mA K "Shelf" "__len__") (fdOf K (mA K "Shelf" "__len__")) ["self"] (sp_Shelf___len__ K) := by
 refine okX T.F_Shelf___len__ sc_Shelf___len__ len_Shelf___len__ (λ cdv A outer s H vs Q E hgu0 hr h => ⟨t_Shelf___len__ K, PSs.nox ?_, pure_Shelf___len__ T.c vs H Q E h⟩)
 exact (pss_one (ps_ret (pe_callB cr_len (by rfl) T.b_len (by decide +kernel) (pa_cons (pe_fld (pv 0) rfl) pa_nil))))
theorem sc_l_state : FnScope ["_law_shelf", "_law_found", "_law_seal", "_law_way"] ["_law_shelf"] (defScope s_l_state) := (by walk_at "fs")
theorem bd_l_state (T : Txt K mg) : Binds K (fdOf K (He.ga K "_law_state")) ["_law_shelf"] [] := T.F_l_state.bindsN λ _ _ _ _ _ _ us hl => match us, hl with | [_], _ => rfl
theorem ok_l_state (T : Txt K mg) (nd : NDX base) : FnX false P w K mg base CX0 9 (He.ga K "_law_state") (fdOf K (He.ga K "_law_state")) ["_law_shelf"] (sp_l_state K) := by
 refine okX T.F_l_state sc_l_state len_l_state (λ cdv A outer s H vs Q E hgu0 hr h => ⟨t_l_state K, PSs.nox ?_, pure_l_state T.c vs H Q E h⟩)
 exact (pss_cons (ps_set (i := 1) sc_l_state.nd rfl (by walk_at "oz") (pe_lst (pa_cons (pe_methW0 (pv 0) T.cl_Shelf T.me_Shelf_seals (ok_Shelf_seals T nd) nz (hr.mono (by decide)) (bd_Shelf_seals T) .nil (λ _ => pas0)) (pa_cons (pe_methW0 (pv 0) T.cl_Shelf T.me_Shelf_broken (ok_Shelf_broken T nd) nz (hr.mono (by decide)) (bd_Shelf_broken T) .nil (λ _ => pas0)) (pa_cons (pe_methW0 (pv 0) T.cl_Shelf T.me_Shelf_free (ok_Shelf_free T nd) nz (hr.mono (by decide)) (bd_Shelf_free T) .nil (λ _ => pas0)) (pa_cons (pe_callB (cr_lenI T.me_Shelf___len__ (ok_Shelf___len__ T nd) (hr.mono (by decide)) (bd_Shelf___len__ T)) (by rfl) T.b_len (by decide +kernel) (pa_cons (pv 0) pa_nil)) pa_nil))))))
     (pss_cons (ps_for PassesOwn.never rfl (pi_list (pe_methW0 (pv 0) T.cl_Shelf T.me_Shelf_seals (ok_Shelf_seals T nd) nz (hr.mono (by decide)) (bd_Shelf_seals T) .nil (λ _ => pas0))) (pg_name (i := 2) sc_l_state.nd rfl (by walk_at "oz")) (pss_one (ps_expr (pe_bm PySem.F.plainAttrs_list PySem.F.slot_list_append PySem.F.type_list_append mt_append (pv 1) (pa_cons (pe_lc (own := [("_law_way", 3)]) (g := (gName 3)) (tt := tYes) rfl sc_l_state.nd (pi_list (pe_lst (pa_cons pe_int (pa_cons pe_int (pa_cons pe_int pa_nil))))) (blkOk_by (own := [("_law_way", 3)]) (N := ["_law_shelf", "_law_found", "_law_seal", "_law_way"]) (sc := defScope s_l_state) (by decide +kernel)) (λ _ _ _ _ _ => (pg_name (i := 3) sc_l_state.nd rfl (by walk_at "oz"))) (λ _ _ _ _ _ => pts_nil) (λ _ _ _ _ _ => (pe_callX (ok_l_said T nd) nz hr rfl T.g_l_said T.F_l_said.kp (bd_l_said T) .nil pass0 (pa_cons (pv 0) (pa_cons (pv 3) (pa_cons (pv 2) (pa_cons (pe_lst pa_nil) pa_nil))))))) pa_nil)))))
     (pss_one (ps_ret (pv 1)))))
theorem sc_l_as_due : FnScope ["_law_shelf", "_law_model", "_law_room", "_law_due_here", "_law_found", "_law_one", "_law_seal", "_law_told"] ["_law_shelf", "_law_model", "_law_room"] (defScope s_l_as_due) := (by walk_at "fs")
theorem bd_l_as_due (T : Txt K mg) : Binds K (fdOf K (He.ga K "_law_as_due")) ["_law_shelf", "_law_model", "_law_room"] [] := T.F_l_as_due.bindsN λ _ _ _ _ _ _ us hl => match us, hl with | [_, _, _], _ => rfl
theorem ok_l_as_due (T : Txt K mg) (nd : NDX base) : FnX true P w K mg base CX0 10 (He.ga K "_law_as_due") (fdOf K (He.ga K "_law_as_due")) ["_law_shelf", "_law_model", "_law_room"] (sp_l_as_due K) := by
 refine okX T.F_l_as_due sc_l_as_due len_l_as_due (λ cdv A outer s H vs Q E hgu0 hr h => ⟨t_l_as_due K, PSs.nox ?_, pure_l_as_due T.c vs H Q E h⟩)
 have hgu : (A.deeper (envOfC "_law_as_due" (defScope s_l_as_due) s.heap.objs.size (He.ga K "_law_as_due") cdv)).guards = some [] := hgu0 rfl
 exact (pss_cons (ps_set (i := 3) sc_l_as_due.nd rfl (by walk_at "oz") (pe_callX (ok_l_state_due T nd) nz (hr.mono (by decide)) rfl T.g_l_state_due T.F_l_state_due.kp (bd_l_state_due T) .nil pass0 (pa_cons (pv 1) (pa_cons (pv 2) pa_nil))))
     (pss_cons (ps_set (i := 4) sc_l_as_due.nd rfl (by walk_at "oz") (pe_callX (ok_l_state T nd) nz hr rfl T.g_l_state T.F_l_state.kp (bd_l_state T) .nil pass0 (pa_cons (pv 0) pa_nil)))
     (pss_cons (ps_if (pt_not (pt_val (pe_callX (ok_l_alike T nd) (λ _ => hgu) (hr.mono (by decide)) rfl T.g_l_alike T.F_l_alike.kp (bd_l_alike T) .nil pass0 (pa_cons (pv 4) (pa_cons (pv 3) pa_nil))))) (pss_one (ps_ret pe_bl)) pss_nil)
     (pss_cons (ps_for PassesOwn.never rfl (pi_list (pe_slice sl_any (pv 4) po_none (po_some pe_int))) (pg_name (i := 5) sc_l_as_due.nd rfl (by walk_at "oz")) (pss_cons (ps_expr (pe_bm PySem.F.plainAttrs_list PySem.F.slot_list_append PySem.F.type_list_append mt_append (pv 5) (pa_cons pe_int pa_nil)))
     (pss_one (ps_asg pe_int (pg_sub (pv 5) pe_int (set_any hr.u1))))))
     (pss_cons (ps_for PassesOwn.never rfl (pi_list (pe_methW0 (pv 0) T.cl_Shelf T.me_Shelf_seals (ok_Shelf_seals T nd) nz (hr.mono (by decide)) (bd_Shelf_seals T) .nil (λ _ => pas0))) (pg_name (i := 6) sc_l_as_due.nd rfl (by walk_at "oz")) (pss_cons (ps_set (i := 7) sc_l_as_due.nd rfl (by walk_at "oz") (pe_ix ix_any (pe_callX (ok_l_said T nd) nz (hr.mono (by decide)) rfl T.g_l_said T.F_l_said.kp (bd_l_said T) .nil pass0 (pa_cons (pv 0) (pa_cons pe_int (pa_cons (pv 6) (pa_cons (pe_lst pa_nil) pa_nil))))) pe_int (λ _ _ => rfl)))
     (pss_one (ps_if (pt_val (pe_callB cr_isiQ (by rfl) T.b_isinstance (by decide +kernel) (pa_cons (pv 7) (pa_cons (pe_bltn (by rfl) T.b_list (by decide +kernel) rfl) pa_nil)))) (pss_cons (ps_expr (pe_bm PySem.F.plainAttrs_list PySem.F.slot_list_append PySem.F.type_list_append mt_append (pv 7) (pa_cons pe_int pa_nil)))
     (pss_one (ps_asg pe_int (pg_sub (pv 7) pe_int (set_any hr.u1))))) pss_nil))))
     (pss_one (ps_ret (pe_callX (ok_l_alike T nd) (λ _ => hgu) (hr.mono (by decide)) rfl T.g_l_alike T.F_l_alike.kp (bd_l_alike T) .nil pass0 (pa_cons (pe_callX (ok_l_state T nd) nz hr rfl T.g_l_state T.F_l_state.kp (bd_l_state T) .nil pass0 (pa_cons (pv 0) pa_nil)) (pa_cons (pv 3) pa_nil))))))))))
theorem sc_law : FnScope ["_law_script", "_law_bag_here", "_law_room", "_law_pool_here", "_law_turn", "_law_at", "_law_middles", "_law_late", "_law_shelves", "_law_models", "_law_handed", "_law_due_here", "_law_way", "_law_seal", "_law_signs_here"] ["_law_script"] (defScope s_law) := (by walk_at "fs")
theorem ok_law (T : Txt K mg) (nd : NDX base) : FnX true P w K mg base CX0 11 (He.ga K "law") (fdOf K (He.ga K "law")) ["_law_script"] (sp_law K) := by
 refine okX T.F_law sc_law len_law (λ cdv A outer s H vs Q E hgu0 hr h => ⟨t_law K, PSs.nox ?_, pure_law T.c vs H Q E h⟩)
 have hgu : (A.deeper (envOfC "law" (defScope s_law) s.heap.objs.size (He.ga K "law") cdv)).guards = some [] := hgu0 rfl
 exact (pss_cons (ps_set (i := 1) sc_law.nd rfl (by walk_at "oz") (pe_callX (ok_l_bag T nd) nz (hr.mono (by decide)) rfl T.g_l_bag T.F_l_bag.kp (bd_l_bag T) .nil pass0 (pa_cons (pv 0) pa_nil)))
     (pss_cons (ps_par (by rfl) sc_law.nd rfl rfl (by decide) rfl rfl (pa_cons (pe_lst (pa_cons (pe_callX (ok_l_take T nd) nz (hr.mono (by decide)) rfl T.g_l_take T.F_l_take.kp (bd_l_take T) .nil pass0 (pa_cons (pv 1) (pa_cons pe_int pa_nil))) (pa_cons (pe_callX (ok_l_take T nd) nz (hr.mono (by decide)) rfl T.g_l_take T.F_l_take.kp (bd_l_take T) .nil pass0 (pa_cons (pv 1) (pa_cons pe_int pa_nil))) pa_nil))) (pa_cons (pe_cmpR (uo_eq hr.units) (pe_callX (ok_l_take T nd) nz (hr.mono (by decide)) rfl T.g_l_take T.F_l_take.kp (bd_l_take T) .nil pass0 (pa_cons (pv 1) (pa_cons pe_int pa_nil))) pe_int (nomark _)) pa_nil)) (by rfl))
     (pss_cons (ps_set (i := 2) sc_law.nd rfl (by walk_at "oz") (pe_ix ix_any (pe_lst (pa_cons pe_int (pa_cons pe_int (pa_cons (pe_op uo_add pe_int (pe_callX (ok_l_take T nd) nz (hr.mono (by decide)) rfl T.g_l_take T.F_l_take.kp (bd_l_take T) .nil pass0 (pa_cons (pv 1) (pa_cons pe_int pa_nil)))) pa_nil)))) (pe_callX (ok_l_take T nd) nz (hr.mono (by decide)) rfl T.g_l_take T.F_l_take.kp (bd_l_take T) .nil pass0 (pa_cons (pv 1) (pa_cons pe_int pa_nil))) (λ _ _ => rfl)))
     (pss_cons (ps_set (i := 3) sc_law.nd rfl (by walk_at "oz") (pe_callX (ok_l_pool T nd) nz (hr.mono (by decide)) rfl T.g_l_pool T.F_l_pool.kp (bd_l_pool T) .nil pass0 (pa_cons (pv 1) pa_nil)))
     (pss_cons (ps_asg (pe_tup (pa_cons (pe_lst (pa_cons (pe_makeW T.mk_Shelf (ok_Shelf___init__ T nd) (hr.mono (by decide)) rfl T.cg_Shelf (bd_Shelf___init__ T) .nil (λ _ => pas0) (pa_cons (pv 2) pa_nil)) (pa_cons (pe_makeW T.mk_Shelf (ok_Shelf___init__ T nd) (hr.mono (by decide)) rfl T.cg_Shelf (bd_Shelf___init__ T) .nil (λ _ => pas0) (pa_cons (pv 2) pa_nil)) pa_nil))) (pa_cons (pe_lst (pa_cons pe_dnewK (pa_cons pe_dnewK pa_nil))) pa_nil))) (pg_tup rfl (pgs_cons (pg_name (i := 8) sc_law.nd rfl (by walk_at "oz")) (pgs_cons (pg_name (i := 9) sc_law.nd rfl (by walk_at "oz")) pgs_nil))))
     (pss_cons (ps_for PassesOwn.never rfl (pi_range1 (by rfl) T.b_range (pa_cons (pe_op uo_add pe_int (pe_callX (ok_l_take T nd) nz (hr.mono (by decide)) rfl T.g_l_take T.F_l_take.kp (bd_l_take T) .nil pass0 (pa_cons (pv 1) (pa_cons pe_int pa_nil)))) pa_nil)) (pg_name (i := 4) sc_law.nd rfl (by walk_at "oz")) (pss_cons (ps_set (i := 5) sc_law.nd rfl (by walk_at "oz") (pe_callX (ok_l_take T nd) nz (hr.mono (by decide)) rfl T.g_l_take T.F_l_take.kp (bd_l_take T) .nil pass0 (pa_cons (pv 1) (pa_cons (pe_callB cr_len (by rfl) T.b_len (by decide +kernel) (pa_cons (pv 8) pa_nil)) pa_nil))))
     (pss_cons (ps_if (pt_cmpR (uo_inU hr.u65) (pv 4) (pv 6) (by rfl)) (pss_cons (ps_expr (pe_bm PySem.F.plainAttrs_list PySem.F.slot_list_append PySem.F.type_list_append mt_append (pv 8) (pa_cons (pe_methW0 (pe_ix ix_any (pv 8) (pv 5) (λ _ _ => rfl)) T.cl_Shelf T.me_Shelf_copied (ok_Shelf_copied T nd) nz (hr.mono (by decide)) (bd_Shelf_copied T) .nil (λ _ => pas0)) pa_nil)))
     (pss_one (ps_expr (pe_bm PySem.F.plainAttrs_list PySem.F.slot_list_append PySem.F.type_list_append mt_append (pv 9) (pa_cons (pe_callTy (cr_dictP rfl) (by rfl) T.b_dict (by decide +kernel) (pa_cons (pe_lk (pe_lc (own := [("_law_seal", 13)]) (g := (gName 13)) (tt := tYes) rfl sc_law.nd (pi_keys (pe_ix ix_any (pv 9) (pv 5) (λ _ _ => rfl))) (blkOk_by (own := [("_law_seal", 13)]) (N := ["_law_script", "_law_bag_here", "_law_room", "_law_pool_here", "_law_turn", "_law_at", "_law_middles", "_law_late", "_law_shelves", "_law_models", "_law_handed", "_law_due_here", "_law_way", "_law_seal", "_law_signs_here"]) (sc := defScope s_law) (by decide +kernel)) (λ _ _ _ _ _ => (pg_name (i := 13) sc_law.nd rfl (by walk_at "oz"))) (λ _ _ _ _ _ => pts_nil) (λ _ _ _ _ _ => (pe_tup (pa_cons (pv 13) (pa_cons (pe_callX (ok_l_copy T nd) nz (hr.mono (by decide)) rfl T.g_l_copy T.F_l_copy.kp (bd_l_copy T) .nil pass0 (pa_cons (pe_ix (ix_dk hr.u1) (pe_ix ix_any (pv 9) (pv 5) (λ _ _ => rfl)) (pv 13) (λ _ _ => rfl)) pa_nil)) pa_nil)))))) pa_nil)) pa_nil))))) pss_nil)
     (pss_cons (ps_asg (pe_callX (ok_l_drawn T nd) nz (hr.mono (by decide)) rfl T.g_l_drawn T.F_l_drawn.kp (bd_l_drawn T) .nil pass0 (pa_cons (pv 1) (pa_cons (pv 3) pa_nil))) (pg_tup rfl (pgs_cons (pg_name (i := 12) sc_law.nd rfl (by walk_at "oz")) (pgs_cons (pg_name (i := 13) sc_law.nd rfl (by walk_at "oz")) (pgs_cons (pg_name (i := 14) sc_law.nd rfl (by walk_at "oz")) pgs_nil)))))
     (pss_cons (ps_set (i := 10) sc_law.nd rfl (by walk_at "oz") (pe_callTy cr_list (by rfl) T.b_list (by decide +kernel) (pa_cons (pv 14) pa_nil)))
     (pss_cons (ps_set (i := 11) sc_law.nd rfl (by walk_at "oz") (pe_callX (ok_l_due T nd) nz (hr.mono (by decide)) rfl T.g_l_due T.F_l_due.kp (bd_l_due T) .nil pass0 (pa_cons (pe_ix ix_any (pv 9) (pv 5) (λ _ _ => rfl)) (pa_cons (pv 2) (pa_cons (pv 12) (pa_cons (pv 13) (pa_cons (pv 14) pa_nil)))))))
     (pss_cons (ps_if (pt_not (pt_val (pe_callX (ok_l_alike T nd) (λ _ => hgu) (hr.mono (by decide)) rfl T.g_l_alike T.F_l_alike.kp (bd_l_alike T) .nil pass0 (pa_cons (pe_callX (ok_l_said T nd) nz (hr.mono (by decide)) rfl T.g_l_said T.F_l_said.kp (bd_l_said T) .nil pass0 (pa_cons (pe_ix ix_any (pv 8) (pv 5) (λ _ _ => rfl)) (pa_cons (pv 12) (pa_cons (pv 13) (pa_cons (pv 10) pa_nil))))) (pa_cons (pv 11) pa_nil))))) (pss_one (ps_ret pe_bl)) pss_nil)
     (pss_cons (ps_expr (pe_bm PySem.F.plainAttrs_list PySem.F.slot_list_append PySem.F.type_list_append mt_append (pv 10) (pa_cons pe_int pa_nil)))
     (pss_cons (ps_asg pe_int (pg_sub (pv 10) pe_int (set_any hr.u1)))
     (pss_one (ps_if (PW.pt (pw_and (pt_not (pt_val (pv 7))) (pw_and1 (pt_not (pt_val (pe_callX (ok_l_as_due T nd) (λ _ => hgu) hr rfl T.g_l_as_due T.F_l_as_due.kp (bd_l_as_due T) .nil pass0 (pa_cons (pe_ix ix_any (pv 8) (pv 5) (λ _ _ => rfl)) (pa_cons (pe_ix ix_any (pv 9) (pv 5) (λ _ _ => rfl)) (pa_cons (pv 2) pa_nil))))))))) (pss_one (ps_ret pe_bl)) pss_nil)))))))))))
     (pss_cons (ps_for PassesOwn.never rfl (pi_range3 (by rfl) T.b_range (pa_cons (pe_op uo_sub (pe_callB cr_len (by rfl) T.b_len (by decide +kernel) (pa_cons (pv 8) pa_nil)) pe_int) (pa_cons (pe_op uo_sub pe_int pe_int) (pa_cons (pe_op uo_sub pe_int pe_int) pa_nil)))) (pg_name (i := 5) sc_law.nd rfl (by walk_at "oz")) (pss_one (ps_if (pt_not (pt_val (pe_callX (ok_l_as_due T nd) (λ _ => hgu) hr rfl T.g_l_as_due T.F_l_as_due.kp (bd_l_as_due T) .nil pass0 (pa_cons (pe_ix ix_any (pv 8) (pv 5) (λ _ _ => rfl)) (pa_cons (pe_ix ix_any (pv 9) (pv 5) (λ _ _ => rfl)) (pa_cons (pv 2) pa_nil)))))) (pss_one (ps_ret pe_bl)) pss_nil)))
     (pss_one (ps_ret pe_bl)))))))))
end
theorem txt {K : Fr} {h : Heap} {mg : Str -> Option Value} (X : K.In h) (G : h.Ns mainGlobals mg) (c : SaysF fa fn K) : Txt K mg where
 F_l_bag := fd_of (c.def_ 0 (d := d_l_bag) rfl)
 F_l_take := fd_of (c.def_ 1 (d := d_l_take) rfl)
 F_l_signs := fd_of (c.def_ 2 (d := d_l_signs) rfl)
 F_l_pool := fd_of (c.def_ 3 (d := d_l_pool) rfl)
 F_is_whole := fd_of (c.def_ 4 (d := d_is_whole) rfl)
 F_is_room := fd_of (c.def_ 5 (d := d_is_room) rfl)
 F_Shelf___init__ := fd_of (c.def_ 6 (d := d_Shelf___init__) rfl)
 F_Shelf_copied := fd_of (c.def_ 7 (d := d_Shelf_copied) rfl)
 F_l_copy := fd_of (c.def_ 8 (d := d_l_copy) rfl)
 F_l_sum := fd_of (c.def_ 9 (d := d_l_sum) rfl)
 F_l_drawn := fd_of (c.def_ 10 (d := d_l_drawn) rfl)
 F_l_whole := fd_of (c.def_ 11 (d := d_l_whole) rfl)
 F_l_are_signs := fd_of (c.def_ 12 (d := d_l_are_signs) rfl)
 F_l_laid := fd_of (c.def_ 13 (d := d_l_laid) rfl)
 F_l_back := fd_of (c.def_ 14 (d := d_l_back) rfl)
 F_l_is_seal := fd_of (c.def_ 15 (d := d_l_is_seal) rfl)
 F_l_sound := fd_of (c.def_ 16 (d := d_l_sound) rfl)
 F_l_due := fd_of (c.def_ 17 (d := d_l_due) rfl)
 F_l_alike := fd_of (c.def_ 18 (d := d_l_alike) rfl)
 F_is_sign := fd_of (c.def_ 19 (d := d_is_sign) rfl)
 F_are_signs := fd_of (c.def_ 20 (d := d_are_signs) rfl)
 F_seal_of := fd_of (c.def_ 21 (d := d_seal_of) rfl)
 F_Shelf_free := fd_of (c.def_ 22 (d := d_Shelf_free) rfl)
 F_Shelf_lay := fd_of (c.def_ 23 (d := d_Shelf_lay) rfl)
 F_is_seal := fd_of (c.def_ 24 (d := d_is_seal) rfl)
 F_Shelf_need_kept := fd_of (c.def_ 25 (d := d_Shelf_need_kept) rfl)
 F_Shelf_hold := fd_of (c.def_ 26 (d := d_Shelf_hold) rfl)
 F_Shelf_let_go := fd_of (c.def_ 27 (d := d_Shelf_let_go) rfl)
 F_Shelf_harm := fd_of (c.def_ 28 (d := d_Shelf_harm) rfl)
 F_Shelf_lose := fd_of (c.def_ 29 (d := d_Shelf_lose) rfl)
 F_Shelf_heal := fd_of (c.def_ 30 (d := d_Shelf_heal) rfl)
 F_Shelf_held := fd_of (c.def_ 31 (d := d_Shelf_held) rfl)
 F_Shelf_has_sound := fd_of (c.def_ 32 (d := d_Shelf_has_sound) rfl)
 F_Shelf_is_sound := fd_of (c.def_ 33 (d := d_Shelf_is_sound) rfl)
 F_Shelf_read := fd_of (c.def_ 34 (d := d_Shelf_read) rfl)
 F_l_deed := fd_of (c.def_ 35 (d := d_l_deed) rfl)
 F_l_refusal := fd_of (c.def_ 36 (d := d_l_refusal) rfl)
 F_l_said := fd_of (c.def_ 37 (d := d_l_said) rfl)
 F_l_state_due := fd_of (c.def_ 38 (d := d_l_state_due) rfl)
 F_Shelf_seals := fd_of (c.def_ 39 (d := d_Shelf_seals) rfl)
 F_Shelf_broken := fd_of (c.def_ 40 (d := d_Shelf_broken) rfl)
 F_Shelf___len__ := fd_of (c.def_ 41 (d := d_Shelf___len__) rfl)
 F_l_state := fd_of (c.def_ 42 (d := d_l_state) rfl)
 F_l_as_due := fd_of (c.def_ 43 (d := d_l_as_due) rfl)
 F_law := fd_of (c.def_ 44 (d := d_law) rfl)
 F_Wrong___init__ := fd_of (c.def_ 45 (d := d_Wrong___init__) rfl)
 F_NoRoom___init__ := fd_of (c.def_ 46 (d := d_NoRoom___init__) rfl)
 F_NoPiece___init__ := fd_of (c.def_ 47 (d := d_NoPiece___init__) rfl)
 F_Unlike___init__ := fd_of (c.def_ 48 (d := d_Unlike___init__) rfl)
 F_Broken___init__ := fd_of (c.def_ 49 (d := d_Broken___init__) rfl)
 c_MOST_ROOM := He.int_ok X G (c.fact 0 (f := (λ K => (He.Fa.int "MOST_ROOM" 400).ok K)) rfl)
 c_MOST_SIGN := He.int_ok X G (c.fact 1 (f := (λ K => (He.Fa.int "MOST_SIGN" 999).ok K)) rfl)
 c_MOST_PIECE := He.int_ok X G (c.fact 2 (f := (λ K => (He.Fa.int "MOST_PIECE" 16).ok K)) rfl)
 c_BASE := He.int_ok X G (c.fact 3 (f := (λ K => (He.Fa.int "BASE" 1001).ok K)) rfl)
 g_l_bag := He.glo_ok X G (c.fact 4 (f := (λ K => (He.Fa.glo "_law_bag").ok K)) rfl)
 g_l_take := He.glo_ok X G (c.fact 5 (f := (λ K => (He.Fa.glo "_law_take").ok K)) rfl)
 g_l_signs := He.glo_ok X G (c.fact 6 (f := (λ K => (He.Fa.glo "_law_signs").ok K)) rfl)
 g_l_pool := He.glo_ok X G (c.fact 7 (f := (λ K => (He.Fa.glo "_law_pool").ok K)) rfl)
 g_is_whole := He.glo_ok X G (c.fact 8 (f := (λ K => (He.Fa.glo "is_whole").ok K)) rfl)
 g_is_room := He.glo_ok X G (c.fact 9 (f := (λ K => (He.Fa.glo "is_room").ok K)) rfl)
 g_l_copy := He.glo_ok X G (c.fact 10 (f := (λ K => (He.Fa.glo "_law_copy").ok K)) rfl)
 g_l_sum := He.glo_ok X G (c.fact 11 (f := (λ K => (He.Fa.glo "_law_sum").ok K)) rfl)
 g_l_drawn := He.glo_ok X G (c.fact 12 (f := (λ K => (He.Fa.glo "_law_drawn").ok K)) rfl)
 g_l_whole := He.glo_ok X G (c.fact 13 (f := (λ K => (He.Fa.glo "_law_whole").ok K)) rfl)
 g_l_are_signs := He.glo_ok X G (c.fact 14 (f := (λ K => (He.Fa.glo "_law_are_signs").ok K)) rfl)
 g_l_laid := He.glo_ok X G (c.fact 15 (f := (λ K => (He.Fa.glo "_law_laid").ok K)) rfl)
 g_l_back := He.glo_ok X G (c.fact 16 (f := (λ K => (He.Fa.glo "_law_back").ok K)) rfl)
 g_l_is_seal := He.glo_ok X G (c.fact 17 (f := (λ K => (He.Fa.glo "_law_is_seal").ok K)) rfl)
 g_l_sound := He.glo_ok X G (c.fact 18 (f := (λ K => (He.Fa.glo "_law_sound").ok K)) rfl)
 g_l_due := He.glo_ok X G (c.fact 19 (f := (λ K => (He.Fa.glo "_law_due").ok K)) rfl)
 g_l_alike := He.glo_ok X G (c.fact 20 (f := (λ K => (He.Fa.glo "_law_alike").ok K)) rfl)
 g_is_sign := He.glo_ok X G (c.fact 21 (f := (λ K => (He.Fa.glo "is_sign").ok K)) rfl)
 g_are_signs := He.glo_ok X G (c.fact 22 (f := (λ K => (He.Fa.glo "are_signs").ok K)) rfl)
 g_seal_of := He.glo_ok X G (c.fact 23 (f := (λ K => (He.Fa.glo "seal_of").ok K)) rfl)
 g_is_seal := He.glo_ok X G (c.fact 24 (f := (λ K => (He.Fa.glo "is_seal").ok K)) rfl)
 g_l_deed := He.glo_ok X G (c.fact 25 (f := (λ K => (He.Fa.glo "_law_deed").ok K)) rfl)
 g_l_refusal := He.glo_ok X G (c.fact 26 (f := (λ K => (He.Fa.glo "_law_refusal").ok K)) rfl)
 g_l_said := He.glo_ok X G (c.fact 27 (f := (λ K => (He.Fa.glo "_law_said").ok K)) rfl)
 g_l_state_due := He.glo_ok X G (c.fact 28 (f := (λ K => (He.Fa.glo "_law_state_due").ok K)) rfl)
 g_l_state := He.glo_ok X G (c.fact 29 (f := (λ K => (He.Fa.glo "_law_state").ok K)) rfl)
 g_l_as_due := He.glo_ok X G (c.fact 30 (f := (λ K => (He.Fa.glo "_law_as_due").ok K)) rfl)
 g_law := He.glo_ok X G (c.fact 31 (f := (λ K => (He.Fa.glo "law").ok K)) rfl)
 cg_Wrong := He.glo_ok X G (c.fact 32 (f := (λ K => (He.Fa.glo "Wrong").ok K)) rfl)
 cg_Shelf := He.glo_ok X G (c.fact 33 (f := (λ K => (He.Fa.glo "Shelf").ok K)) rfl)
 cg_NoRoom := He.glo_ok X G (c.fact 34 (f := (λ K => (He.Fa.glo "NoRoom").ok K)) rfl)
 cg_NoPiece := He.glo_ok X G (c.fact 35 (f := (λ K => (He.Fa.glo "NoPiece").ok K)) rfl)
 cg_Unlike := He.glo_ok X G (c.fact 36 (f := (λ K => (He.Fa.glo "Unlike").ok K)) rfl)
 cg_Broken := He.glo_ok X G (c.fact 37 (f := (λ K => (He.Fa.glo "Broken").ok K)) rfl)
 cg_StoreError := He.glo_ok X G (c.fact 38 (f := (λ K => (He.Fa.glo "StoreError").ok K)) rfl)
 cg_Missing := He.glo_ok X G (c.fact 39 (f := (λ K => (He.Fa.glo "Missing").ok K)) rfl)
 cg_Halted := He.glo_ok X G (c.fact 40 (f := (λ K => (He.Fa.glo "Halted").ok K)) rfl)
 cl_Shelf := He.cls_ok (c.fact 41 (f := (λ K => (He.Fa.cls "Shelf").ok K)) rfl)
 mk_Shelf := He.mkr_ok (c.fact 42 (f := (λ K => (He.Fa.mkr "Shelf").ok K)) rfl)
 na_Shelf_room := He.noat_ok (c.fact 43 (f := (λ K => (He.Fa.noat "Shelf" "room").ok K)) rfl)
 na_Shelf_counts := He.noat_ok (c.fact 44 (f := (λ K => (He.Fa.noat "Shelf" "counts").ok K)) rfl)
 na_Shelf_bodies := He.noat_ok (c.fact 45 (f := (λ K => (He.Fa.noat "Shelf" "bodies").ok K)) rfl)
 me_Shelf_copied := He.meth_ok (c.fact 46 (f := (λ K => (He.Fa.meth "Shelf" "copied").ok K)) rfl)
 me_Shelf_free := He.meth_ok (c.fact 47 (f := (λ K => (He.Fa.meth "Shelf" "free").ok K)) rfl)
 me_Shelf_lay := He.meth_ok (c.fact 48 (f := (λ K => (He.Fa.meth "Shelf" "lay").ok K)) rfl)
 me_Shelf_need_kept := He.meth_ok (c.fact 49 (f := (λ K => (He.Fa.meth "Shelf" "need_kept").ok K)) rfl)
 me_Shelf_hold := He.meth_ok (c.fact 50 (f := (λ K => (He.Fa.meth "Shelf" "hold").ok K)) rfl)
 me_Shelf_let_go := He.meth_ok (c.fact 51 (f := (λ K => (He.Fa.meth "Shelf" "let_go").ok K)) rfl)
 me_Shelf_harm := He.meth_ok (c.fact 52 (f := (λ K => (He.Fa.meth "Shelf" "harm").ok K)) rfl)
 me_Shelf_lose := He.meth_ok (c.fact 53 (f := (λ K => (He.Fa.meth "Shelf" "lose").ok K)) rfl)
 me_Shelf_heal := He.meth_ok (c.fact 54 (f := (λ K => (He.Fa.meth "Shelf" "heal").ok K)) rfl)
 me_Shelf_held := He.meth_ok (c.fact 55 (f := (λ K => (He.Fa.meth "Shelf" "held").ok K)) rfl)
 me_Shelf_has_sound := He.meth_ok (c.fact 56 (f := (λ K => (He.Fa.meth "Shelf" "has_sound").ok K)) rfl)
 me_Shelf_is_sound := He.meth_ok (c.fact 57 (f := (λ K => (He.Fa.meth "Shelf" "is_sound").ok K)) rfl)
 me_Shelf_read := He.meth_ok (c.fact 58 (f := (λ K => (He.Fa.meth "Shelf" "read").ok K)) rfl)
 me_Shelf_seals := He.meth_ok (c.fact 59 (f := (λ K => (He.Fa.meth "Shelf" "seals").ok K)) rfl)
 me_Shelf_broken := He.meth_ok (c.fact 60 (f := (λ K => (He.Fa.meth "Shelf" "broken").ok K)) rfl)
 me_Shelf___len__ := He.meth_ok (c.fact 61 (f := (λ K => (He.Fa.meth "Shelf" "__len__").ok K)) rfl)
 xb_Wrong := chB_VE (c.fact 62 (f := (λ K => chB K "Wrong" (tlB "ValueError") "ValueError.__new__")) rfl)
 xf_Wrong := chF_ok (c.fact 63 (f := (λ K => chF K "Wrong")) rfl)
 xc_Wrong := chC_ok (c.fact 64 (f := (λ K => chC K "Wrong")) rfl)
 xn_Wrong_at := id (c.fact 65 (f := (λ K => chN K "Wrong" "at")) rfl)
 xi_StoreError := chI_ok (c.fact 66 (f := (λ K => chI K "StoreError" "ValueError.__init__")) rfl)
 xm_Wrong_StoreError := chM_ok (c.fact 67 (f := (λ K => chM K "Wrong" "StoreError" true)) rfl)
 xm_Wrong_Missing := chM_ok (c.fact 68 (f := (λ K => chM K "Wrong" "Missing" false)) rfl)
 xm_Wrong_Halted := chM_ok (c.fact 69 (f := (λ K => chM K "Wrong" "Halted" false)) rfl)
 xk_Wrong_Wrong := chK_ok (c.fact 70 (f := (λ K => chK K "Wrong" "Wrong" true)) rfl)
 xk_Wrong_NoRoom := chK_ok (c.fact 71 (f := (λ K => chK K "Wrong" "NoRoom" false)) rfl)
 xk_Wrong_NoPiece := chK_ok (c.fact 72 (f := (λ K => chK K "Wrong" "NoPiece" false)) rfl)
 xk_Wrong_Unlike := chK_ok (c.fact 73 (f := (λ K => chK K "Wrong" "Unlike" false)) rfl)
 xk_Wrong_Broken := chK_ok (c.fact 74 (f := (λ K => chK K "Wrong" "Broken" false)) rfl)
 xb_NoRoom := chB_RE (c.fact 75 (f := (λ K => chB K "NoRoom" (tlB "RuntimeError") "RuntimeError.__new__")) rfl)
 xf_NoRoom := chF_ok (c.fact 76 (f := (λ K => chF K "NoRoom")) rfl)
 xc_NoRoom := chC_ok (c.fact 77 (f := (λ K => chC K "NoRoom")) rfl)
 xn_NoRoom_room := id (c.fact 78 (f := (λ K => chN K "NoRoom" "room")) rfl)
 xi_Halted := chI_ok (c.fact 79 (f := (λ K => chI K "Halted" "RuntimeError.__init__")) rfl)
 xm_NoRoom_StoreError := chM_ok (c.fact 80 (f := (λ K => chM K "NoRoom" "StoreError" false)) rfl)
 xm_NoRoom_Missing := chM_ok (c.fact 81 (f := (λ K => chM K "NoRoom" "Missing" false)) rfl)
 xm_NoRoom_Halted := chM_ok (c.fact 82 (f := (λ K => chM K "NoRoom" "Halted" true)) rfl)
 xk_NoRoom_Wrong := chK_ok (c.fact 83 (f := (λ K => chK K "NoRoom" "Wrong" false)) rfl)
 xk_NoRoom_NoRoom := chK_ok (c.fact 84 (f := (λ K => chK K "NoRoom" "NoRoom" true)) rfl)
 xk_NoRoom_NoPiece := chK_ok (c.fact 85 (f := (λ K => chK K "NoRoom" "NoPiece" false)) rfl)
 xk_NoRoom_Unlike := chK_ok (c.fact 86 (f := (λ K => chK K "NoRoom" "Unlike" false)) rfl)
 xk_NoRoom_Broken := chK_ok (c.fact 87 (f := (λ K => chK K "NoRoom" "Broken" false)) rfl)
 xb_NoPiece := chB_LE (c.fact 88 (f := (λ K => chB K "NoPiece" (tlB "LookupError") "LookupError.__new__")) rfl)
 xf_NoPiece := chF_ok (c.fact 89 (f := (λ K => chF K "NoPiece")) rfl)
 xc_NoPiece := chC_ok (c.fact 90 (f := (λ K => chC K "NoPiece")) rfl)
 xn_NoPiece_seal := id (c.fact 91 (f := (λ K => chN K "NoPiece" "seal")) rfl)
 xi_Missing := chI_ok (c.fact 92 (f := (λ K => chI K "Missing" "LookupError.__init__")) rfl)
 xm_NoPiece_StoreError := chM_ok (c.fact 93 (f := (λ K => chM K "NoPiece" "StoreError" false)) rfl)
 xm_NoPiece_Missing := chM_ok (c.fact 94 (f := (λ K => chM K "NoPiece" "Missing" true)) rfl)
 xm_NoPiece_Halted := chM_ok (c.fact 95 (f := (λ K => chM K "NoPiece" "Halted" false)) rfl)
 xk_NoPiece_Wrong := chK_ok (c.fact 96 (f := (λ K => chK K "NoPiece" "Wrong" false)) rfl)
 xk_NoPiece_NoRoom := chK_ok (c.fact 97 (f := (λ K => chK K "NoPiece" "NoRoom" false)) rfl)
 xk_NoPiece_NoPiece := chK_ok (c.fact 98 (f := (λ K => chK K "NoPiece" "NoPiece" true)) rfl)
 xk_NoPiece_Unlike := chK_ok (c.fact 99 (f := (λ K => chK K "NoPiece" "Unlike" false)) rfl)
 xk_NoPiece_Broken := chK_ok (c.fact 100 (f := (λ K => chK K "NoPiece" "Broken" false)) rfl)
 xb_Unlike := chB_VE (c.fact 101 (f := (λ K => chB K "Unlike" (tlB "ValueError") "ValueError.__new__")) rfl)
 xf_Unlike := chF_ok (c.fact 102 (f := (λ K => chF K "Unlike")) rfl)
 xc_Unlike := chC_ok (c.fact 103 (f := (λ K => chC K "Unlike")) rfl)
 xn_Unlike_seal := id (c.fact 104 (f := (λ K => chN K "Unlike" "seal")) rfl)
 xm_Unlike_StoreError := chM_ok (c.fact 105 (f := (λ K => chM K "Unlike" "StoreError" true)) rfl)
 xm_Unlike_Missing := chM_ok (c.fact 106 (f := (λ K => chM K "Unlike" "Missing" false)) rfl)
 xm_Unlike_Halted := chM_ok (c.fact 107 (f := (λ K => chM K "Unlike" "Halted" false)) rfl)
 xk_Unlike_Wrong := chK_ok (c.fact 108 (f := (λ K => chK K "Unlike" "Wrong" false)) rfl)
 xk_Unlike_NoRoom := chK_ok (c.fact 109 (f := (λ K => chK K "Unlike" "NoRoom" false)) rfl)
 xk_Unlike_NoPiece := chK_ok (c.fact 110 (f := (λ K => chK K "Unlike" "NoPiece" false)) rfl)
 xk_Unlike_Unlike := chK_ok (c.fact 111 (f := (λ K => chK K "Unlike" "Unlike" true)) rfl)
 xk_Unlike_Broken := chK_ok (c.fact 112 (f := (λ K => chK K "Unlike" "Broken" false)) rfl)
 xb_Broken := chB_RE (c.fact 113 (f := (λ K => chB K "Broken" (tlB "RuntimeError") "RuntimeError.__new__")) rfl)
 xf_Broken := chF_ok (c.fact 114 (f := (λ K => chF K "Broken")) rfl)
 xc_Broken := chC_ok (c.fact 115 (f := (λ K => chC K "Broken")) rfl)
 xn_Broken_seal := id (c.fact 116 (f := (λ K => chN K "Broken" "seal")) rfl)
 xm_Broken_StoreError := chM_ok (c.fact 117 (f := (λ K => chM K "Broken" "StoreError" false)) rfl)
 xm_Broken_Missing := chM_ok (c.fact 118 (f := (λ K => chM K "Broken" "Missing" false)) rfl)
 xm_Broken_Halted := chM_ok (c.fact 119 (f := (λ K => chM K "Broken" "Halted" true)) rfl)
 xk_Broken_Wrong := chK_ok (c.fact 120 (f := (λ K => chK K "Broken" "Wrong" false)) rfl)
 xk_Broken_NoRoom := chK_ok (c.fact 121 (f := (λ K => chK K "Broken" "NoRoom" false)) rfl)
 xk_Broken_NoPiece := chK_ok (c.fact 122 (f := (λ K => chK K "Broken" "NoPiece" false)) rfl)
 xk_Broken_Unlike := chK_ok (c.fact 123 (f := (λ K => chK K "Broken" "Unlike" false)) rfl)
 xk_Broken_Broken := chK_ok (c.fact 124 (f := (λ K => chK K "Broken" "Broken" true)) rfl)
 b_abs := He.free_ok X G (c.fact 125 (f := (λ K => (He.Fa.free "abs").ok K)) rfl)
 b_len := He.free_ok X G (c.fact 126 (f := (λ K => (He.Fa.free "len").ok K)) rfl)
 b_range := He.free_ok X G (c.fact 127 (f := (λ K => (He.Fa.free "range").ok K)) rfl)
 b_list := He.free_ok X G (c.fact 128 (f := (λ K => (He.Fa.free "list").ok K)) rfl)
 b_isinstance := He.free_ok X G (c.fact 129 (f := (λ K => (He.Fa.free "isinstance").ok K)) rfl)
 b_int := He.free_ok X G (c.fact 130 (f := (λ K => (He.Fa.free "int").ok K)) rfl)
 b_bool := He.free_ok X G (c.fact 131 (f := (λ K => (He.Fa.free "bool").ok K)) rfl)
 b_dict := He.free_ok X G (c.fact 132 (f := (λ K => (He.Fa.free "dict").ok K)) rfl)
 b_tuple := He.free_ok X G (c.fact 133 (f := (λ K => (He.Fa.free "tuple").ok K)) rfl)
 b_repr := He.free_ok X G (c.fact 134 (f := (λ K => (He.Fa.free "repr").ok K)) rfl)
 b_reversed := He.free_ok X G (c.fact 135 (f := (λ K => (He.Fa.free "reversed").ok K)) rfl)
 b_sorted := He.free_ok X G (c.fact 136 (f := (λ K => (He.Fa.free "sorted").ok K)) rfl)
end RC
open PySem PySem.W PySem.Calls PyProof.Rows
set_option maxRecDepth 100000 in
set_option maxHeartbeats 0 in
theorem PySem.Challenge.cw_restorechain_k27_copied_and_shared_holds : PySem.Challenge.rw_restorechain_k27_copied_and_shared.Holds := by
  w_on; o_law
  refine HandSHeadRun.head_any (r := OpenLaw.row PySem.Challenge.rw_restorechain_k27_copied_and_shared) (q := view (OpenLaw.row PySem.Challenge.rw_restorechain_k27_copied_and_shared).prog [45]) (H := RC.hk) (ob := RC.ob) (M := 4000) (loose := RC.names)
    (d := HandSHeadRun.topDef (OpenLaw.row PySem.Challenge.rw_restorechain_k27_copied_and_shared).prog 45) (kwd := []) RC.ob_eq (by kernel_rfl) (fun s => by kernel_rfl) RC.run
    (by kernel_rfl) (by kernel_rfl) (by kernel_rfl) (by rfl) (by first | assumption | decide +kernel) (by decide +kernel) ⟨rfl, rfl, rfl, rfl, rfl, by decide +kernel⟩ ?hw ?hc
  case hw => w_witness2
  case hc =>
    refine RC.walk_S (hi := by kernel_rfl) (l := PySem.Challenge.rw_restorechain_k27_copied_and_shared) (n := 63) (k := 11) (x := "_law_script") (CX := fun _ => L2.CX0) rfl (by decide) (by kernel_rfl) ⟨rfl, by decide, by decide⟩ ?F (fun _ _ _ _ _ z => z)
    intro w mg fa h Y G hmg0
    obtain ⟨K, KX, c⟩ := Y
    have hmg : mg ("law" : PySem.Str) = some (.ref fa) := by
      have e : (HandSHeadRun.topDef (OpenLaw.row PySem.Challenge.rw_restorechain_k27_copied_and_shared).prog 45).name = ("law" : PySem.Str) := by kernel_rfl
      rw [← e]
      exact hmg0
    have T := RC.txt KX G c
    have e := hmg.symm.trans T.g_law
    cases e
    exact ⟨K, _, RC.sp_law K, KX, fun s v => L2.FunD.bindsA (ps := ["_law_script"]) T.F_law (fun _ _ _ _ _ _ us hl => match us, hl with | [_], _ => rfl) s [v] rfl,
      RC.law_start K, fun base _ _ nd => RC.ok_law T nd⟩
