import PyProof.Rows.All
import Wide.All
import OpenK.AllK
import Wide.FinOn
import KE.KStateDown
import HandS.ForMost
import HandS.More
import HandS.Walk
import HandS.Wide
import HandS.IsInst
import HandS.RaiseMore
import HandS.Style
import HandS.Deep
import HandS.MakeKwOnly
import HandS.WordsExc
import HandS.Defaults
import HandS.Head0
import HandS.Head1
import HandS.Head2
import HandS.HeadEnd
import HandS.HeadHook1
import HandS.HeadHook2
import HandS.Codes
import HandS.WideMore
import KE.KIntText
import HandS.ExcInit
import HandS.ExcField
import HandS.ExcIs
import HandS.ExcOwn
import HandS.TryMany
import HandS.HotCalls
import HandS.Flow
import KE.KTryMore
import KE.KExcInit
import KE.KExcIs
import PyProof.Conv_int_bool
import HandS.DictComp
import HandS.DeepEq
import HandS.TupAny
import HandS.Conv
import HandS.TupSets
import PyProof.SeqIndex
import PyProof.Rows.SortShellAny
import HandS.DictTup
import HandS.SortOrd
import KE.KSortTupAny
import HandS.NoneIn
import PyProof.FString5
import HandS.DictEq
import PyProof.CollectIter
import PyProof.WalksMore
import HandS.Finally
import PyProof.SliceMore
import HandS.Zip
import HandS.SetBool
import HandS.Comp
import KE.KDictList
import PyProof.SetRoads
import PyProof.EqAt
import PyProof.EqKinds
import KE.KDictPairs
import HandS.FStr
import KE.KTab
import KE.KTabLook
import HandS.IntHex
import KE.GoesEnum
import KE.KSortTupG
import PySem.Challenge.RW_restorechain_k17_refusals_apart
set_option Elab.async false
set_option linter.all false
set_option maxRecDepth 100000
set_option maxHeartbeats 0
namespace RC
abbrev Fr := PySem.W.Frag
end RC
namespace RC
open PySem PySem.Spec PyProof.Rows L2
abbrev Cell := Addr × HO
def Ext (F F' : Hp) : Prop := ∀ a o, F a = some o -> F' a = some o
theorem Ext.refl (F : Hp) : Ext F F := λ _ _ h => h
theorem Ext.trans {F G H : Hp} (a : Ext F G) (b : Ext G H) : Ext F H := λ x o h => b x o (a x o h)
theorem Ext.new {H : Hp} {p : Addr} {o : HO} (h : H p = none) : Ext H (upd H p o) := λ a u e => by
 rw [upd_ne (ne_of_none e h)]
 exact e
theorem Ext.rd {H H' : Hp} {a : Addr} {u : HO} (e : Ext H H') (h : Rd H a u) : Rd H' a u := by
 rcases h with h | ⟨o, h⟩
 · exact Or.inl (e a _ h)
 · exact Or.inr ⟨o, e a _ h⟩
theorem Ext.sqL {K : Fr} {H H' : Hp} {a : Addr} {xs : List V} (e : Ext H H') (h : SqL K H a xs) : SqL K H' a xs := by
 rcases h with h | h
 · exact Or.inl (e.rd h)
 · exact Or.inr h
theorem Ext.sqT {K : Fr} {H H' : Hp} {a : Addr} {xs : List V} (e : Ext H H') (h : SqT K H a xs) : SqT K H' a xs := by
 rcases h with h | h
 · exact Or.inl (e.rd h)
 · exact Or.inr h
mutual
theorem Dp_ext {K : Fr} {H H' : Hp} (e : Ext H H') : ∀ {v : V} {d : PyData}, Dp K H v d -> Dp K H' v d
 | _, _, .non => .non
 | _, _, .bl b => .bl b
 | _, _, .int i => .int i
 | _, _, .str x => .str x
 | _, _, .lst h ds => .lst (e.sqL h) (DpAll_ext e ds)
 | _, _, .tup h ds => .tup (e.sqT h) (DpAll_ext e ds)
theorem DpAll_ext {K : Fr} {H H' : Hp} (e : Ext H H') : ∀ {vs : List V} {ds : List PyData}, DpAll K H vs ds -> DpAll K H' vs ds
 | _, _, .nil => .nil
 | _, _, .cons h r => .cons (Dp_ext e h) (DpAll_ext e r)
end
structure Res where
 on : Hp -> List Cell -> Prop
 mono : ∀ F F' l, Ext F F' -> on F l -> on F' l
def pt (p : Addr) (o : HO) : Res := ⟨λ _ l => l = [(p, o)], λ _ _ _ _ h => h⟩
def fz (p : Addr) (o : HO) : Res := ⟨λ F l => l = [] /\ F p = some o, λ _ _ _ e h => ⟨h.1, e _ _ h.2⟩⟩
def sp2 (R S : Res) : Res := ⟨λ F l => ∃ l1 l2, l = l1 ++ l2 /\ R.on F l1 /\ S.on F l2, λ _ _ _ e ⟨l1, l2, h, a, b⟩ => ⟨l1, l2, h, R.mono _ _ _ e a, S.mono _ _ _ e b⟩⟩
def exi {α : Type} (R : α -> Res) : Res := ⟨λ F l => ∃ x, (R x).on F l, λ _ _ _ e ⟨x, h⟩ => ⟨x, (R x).mono _ _ _ e h⟩⟩
def prp (φ : Prop) (R : Res) : Res := ⟨λ F l => φ /\ R.on F l, λ _ _ _ e h => ⟨h.1, R.mono _ _ _ e h.2⟩⟩
def Sat (F : Hp) : List Res -> List Cell -> Prop
 | [], l => l = []
 | R :: Rs, l => ∃ l1 l2, l = l1 ++ l2 /\ R.on F l1 /\ Sat F Rs l2
theorem Sat.mono {F F' : Hp} (e : Ext F F') : ∀ {Rs : List Res} {l : List Cell}, Sat F Rs l -> Sat F' Rs l
 | [], _, h => h
 | R :: _, _, ⟨l1, l2, h, a, b⟩ => ⟨l1, l2, h, R.mono _ _ _ e a, Sat.mono e b⟩
theorem Sat.perm {F : Hp} {Rs Rs' : List Res} (p : Rs.Perm Rs') : ∀ {l : List Cell}, Sat F Rs l -> ∃ l', l.Perm l' /\ Sat F Rs' l' := by
 induction p with
 | nil => exact λ h => ⟨_, .refl _, h⟩
 | cons R _ ih =>
   rintro l ⟨l1, l2, rfl, a, b⟩
   obtain ⟨l3, q, c⟩ := ih b
   exact ⟨l1 ++ l3, .append_left _ q, l1, l3, rfl, a, c⟩
 | swap R S Rs =>
   rintro l ⟨l1, l2, rfl, a, l3, l4, rfl, b, c⟩
   refine ⟨l3 ++ (l1 ++ l4), ?_, l3, l1 ++ l4, rfl, b, l1, l4, rfl, a, c⟩
   rw [<- List.append_assoc, <- List.append_assoc]
   exact List.Perm.append_right _ List.perm_append_comm
 | trans _ _ ih1 ih2 =>
   intro l h
   obtain ⟨l1, p1, h1⟩ := ih1 h
   obtain ⟨l2, p2, h2⟩ := ih2 h1
   exact ⟨l2, p1.trans p2, h2⟩
structure MemC (F : Hp) (L : List Cell) (H : Hp) : Prop where
 ex : Ext F H
 own : ∀ c ∈ L, H c.1 = some c.2 /\ F c.1 = none
 nd : (L.map (·.1)).Nodup
theorem MemC.perm {F : Hp} {L L' : List Cell} {H : Hp} (h : MemC F L H) (p : L.Perm L') : MemC F L' H :=
 ⟨h.ex, λ c hc => h.own c (p.mem_iff.mpr hc), (p.map _).nodup_iff.mp h.nd⟩
def M (Rs : List Res) (H : Hp) : Prop := ∃ F L, Sat F Rs L /\ MemC F L H
section
variable {Rs Rs' : List Res} {R S : Res} {H : Hp} {p : Addr} {o o' : HO}
theorem M.perm (h : M Rs H) (q : Rs.Perm Rs') : M Rs' H := by
 obtain ⟨F, L, a, b⟩ := h
 obtain ⟨L', q', a'⟩ := a.perm q
 exact ⟨F, L', a', b.perm q'⟩
theorem M.nil : M [] H := ⟨λ _ => none, [], rfl, ⟨(λ _ _ h => nomatch h), (λ _ h => nomatch h), List.nodup_nil⟩⟩
theorem M.tl (h : M (R :: Rs) H) : M Rs H := by
 obtain ⟨F, L, ⟨l1, l2, rfl, a, b⟩, m⟩ := h
 refine ⟨F, l2, b, m.ex, λ c hc => m.own c (List.mem_append_right _ hc), ?_⟩
 have := m.nd
 rw [List.map_append] at this
 exact (List.nodup_append.mp this).2.1
theorem perm_at : ∀ {Rs : List Res} (i : Nat) {R : Res}, Rs[i]? = some R -> Rs.Perm (R :: Rs.eraseIdx i)
 | [], i, R, h => by simp at h
 | S :: Rs, 0, R, h => by
   have e : S = R := Option.some.inj h
   subst e
   exact .refl _
 | S :: Rs, i + 1, R, h => by
   have ih := perm_at (Rs := Rs) i (R := R) (by simpa using h)
   exact (List.Perm.cons S ih).trans (List.Perm.swap R S _)
theorem M.at (h : M Rs H) (i : Nat) (e : Rs[i]? = some R) : M (R :: Rs.eraseIdx i) H := h.perm (perm_at i e)
theorem M.hd (h : M (pt p o :: Rs) H) : H p = some o := by
 obtain ⟨F, L, ⟨l1, l2, rfl, rfl, b⟩, m⟩ := h
 exact (m.own (p, o) (by simp)).1
theorem M.hdF (h : M (fz p o :: Rs) H) : H p = some o := by
 obtain ⟨F, L, ⟨l1, l2, rfl, ⟨_, e⟩, b⟩, m⟩ := h
 exact m.ex _ _ e
theorem M.got (h : M Rs H) (i : Nat) (e : Rs[i]? = some (pt p o)) : H p = some o := (h.at i e).hd
theorem M.gotF (h : M Rs H) (i : Nat) (e : Rs[i]? = some (fz p o)) : H p = some o := (h.at i e).hdF
theorem M.new (h : M Rs H) (hp : H p = none) : M (pt p o :: Rs) (upd H p o) := by
 obtain ⟨F, L, a, m⟩ := h
 have fp : F p = none := by
   cases q : F p with
   | none => rfl
   | some u => rw [m.ex _ _ q] at hp; cases hp
 refine ⟨F, (p, o) :: L, ⟨[(p, o)], L, rfl, rfl, a⟩, ⟨m.ex.trans (Ext.new hp), λ c hc => ?_, ?_⟩⟩
 · rcases List.mem_cons.mp hc with rfl | hc
   · exact ⟨upd_same, fp⟩
   · have q := m.own c hc
     refine ⟨?_, q.2⟩
     rw [upd_ne (ne_of_none q.1 hp)]
     exact q.1
 · rw [List.map_cons, List.nodup_cons]
   refine ⟨λ hm => ?_, m.nd⟩
   obtain ⟨c, hc, e⟩ := List.mem_map.mp hm
   have q := (m.own c hc).1
   rw [e, hp] at q
   cases q
theorem M.put (h : M (pt p o :: Rs) H) : M (pt p o' :: Rs) (upd H p o') := by
 obtain ⟨F, L, ⟨l1, l2, rfl, rfl, b⟩, m⟩ := h
 have fp : F p = none := (m.own (p, o) (by simp)).2
 have nd := m.nd
 rw [List.map_append] at nd
 have nd2 : ((p :: l2.map (·.1)) : List Addr).Nodup := nd
 have np := (List.nodup_cons.mp nd2).1
 refine ⟨F, (p, o') :: l2, ⟨[(p, o')], l2, rfl, rfl, b⟩, ⟨λ a u e => ?_, λ c hc => ?_, nd2⟩⟩
 · have : a ≠ p := λ z => by rw [z, fp] at e; cases e
   rw [upd_ne this]
   exact m.ex _ _ e
 · rcases List.mem_cons.mp hc with rfl | hc
   · exact ⟨upd_same, fp⟩
   · have q := m.own c (List.mem_append_right _ hc)
     refine ⟨?_, q.2⟩
     have : c.1 ≠ p := λ z => np (List.mem_map.mpr ⟨c, hc, z⟩)
     rw [upd_ne this]
     exact q.1
theorem M.fix (h : M (pt p o :: Rs) H) : M (fz p o :: Rs) H := by
 obtain ⟨F, L, ⟨l1, l2, rfl, rfl, b⟩, m⟩ := h
 have hp := m.own (p, o) (by simp)
 have nd := m.nd
 rw [List.map_append] at nd
 have nd2 : ((p :: l2.map (·.1)) : List Addr).Nodup := nd
 have np := (List.nodup_cons.mp nd2).1
 have ex : Ext F (upd F p o) := Ext.new hp.2
 refine ⟨upd F p o, l2, ⟨[], l2, rfl, ⟨rfl, upd_same⟩, b.mono ex⟩, ⟨λ a u e => ?_, λ c hc => ?_, (List.nodup_cons.mp nd2).2⟩⟩
 · by_cases z : a = p
   · subst z
     rw [upd_same] at e
     cases e
     exact hp.1
   · rw [upd_ne z] at e
     exact m.ex _ _ e
 · have q := m.own c (List.mem_append_right _ hc)
   refine ⟨q.1, ?_⟩
   have : c.1 ≠ p := λ z => np (List.mem_map.mpr ⟨c, hc, z⟩)
   rw [upd_ne this]
   exact q.2
theorem M.sp (h : M (sp2 R S :: Rs) H) : M (R :: S :: Rs) H := by
 obtain ⟨F, L, ⟨l1, l2, rfl, ⟨l3, l4, rfl, a, b⟩, c⟩, m⟩ := h
 exact ⟨F, _, ⟨l3, l4 ++ l2, by rw [List.append_assoc], a, l4, l2, rfl, b, c⟩, m⟩
theorem M.sp' (h : M (R :: S :: Rs) H) : M (sp2 R S :: Rs) H := by
 obtain ⟨F, L, ⟨l1, l2, rfl, a, l3, l4, rfl, b, c⟩, m⟩ := h
 exact ⟨F, _, ⟨l1 ++ l3, l4, by rw [List.append_assoc], ⟨l1, l3, rfl, a, b⟩, c⟩, m⟩
theorem M.ex {α : Type} {T : α -> Res} (h : M (exi T :: Rs) H) : ∃ x, M (T x :: Rs) H := by
 obtain ⟨F, L, ⟨l1, l2, rfl, ⟨x, a⟩, c⟩, m⟩ := h
 exact ⟨x, F, _, ⟨l1, l2, rfl, a, c⟩, m⟩
theorem M.ex' {α : Type} {T : α -> Res} (x : α) (h : M (T x :: Rs) H) : M (exi T :: Rs) H := by
 obtain ⟨F, L, ⟨l1, l2, rfl, a, c⟩, m⟩ := h
 exact ⟨F, _, ⟨l1, l2, rfl, ⟨x, a⟩, c⟩, m⟩
theorem M.pr {φ : Prop} (h : M (prp φ R :: Rs) H) : φ /\ M (R :: Rs) H := by
 obtain ⟨F, L, ⟨l1, l2, rfl, ⟨x, a⟩, c⟩, m⟩ := h
 exact ⟨x, F, _, ⟨l1, l2, rfl, a, c⟩, m⟩
theorem M.pr' {φ : Prop} (x : φ) (h : M (R :: Rs) H) : M (prp φ R :: Rs) H := by
 obtain ⟨F, L, ⟨l1, l2, rfl, a, c⟩, m⟩ := h
 exact ⟨F, _, ⟨l1, l2, rfl, ⟨x, a⟩, c⟩, m⟩
theorem perm_set : ∀ {Rs : List Res} (i : Nat) {R S : Res}, Rs[i]? = some R -> (S :: Rs.eraseIdx i).Perm (Rs.set i S)
 | [], i, R, S, h => by simp at h
 | T :: Rs, 0, R, S, h => .refl _
 | T :: Rs, i + 1, R, S, h => by
   have ih := perm_set (Rs := Rs) i (R := R) (S := S) (by simpa using h)
   exact (List.Perm.swap T S _).trans (List.Perm.cons T ih)
theorem M.putAt (h : M Rs H) (i : Nat) (e : Rs[i]? = some (pt p o)) : M (Rs.set i (pt p o')) (upd H p o') := ((h.at i e).put (o' := o')).perm (perm_set i e)
theorem M.fixAt (h : M Rs H) (i : Nat) (e : Rs[i]? = some (pt p o)) : M (Rs.set i (fz p o)) H := (h.at i e).fix.perm (perm_set i e)
end
end RC

namespace RC
open PySem PySem.Spec PyProof.Rows L2
structure FnX (g : Bool) (P : Program) (w : World) (K : Fr) (mg : Str -> Option Value) (base : Heap) (CX : CXT) (k : Nat) (f : Addr) (fd : FuncData) (ps : List Str) (sp : Sp) : Prop where
 lenG : ∀ vs H Q E, sp vs H Q E -> vs.length = ps.length
 runG : ∀ (B : Around) (out : List Env) (t : Shared) (H : Hp) (args : Args) (bs : List (Str × Value)) (us : List Value) (vs : List V) (Q : VK) (E : XK), (g = true -> B.guards = some []) -> Room k B -> Env0 P w K mg base B out t H ->
   BindsTo t fd args bs -> bs.Perm (ps.zip us) -> Vals vs us -> sp vs H Q E -> codeAny (model P w) B (.call (.ref f) args) (CR CX out P w H t Q E) t
theorem zip_names {α β : Type} : ∀ (as : List α) (bs : List β), (as.zip bs).map (·.1) = as.take bs.length
 | [], _ => by simp
 | _ :: _, [] => rfl
 | a :: as, b :: bs => by
   show a :: (as.zip bs).map (·.1) = a :: as.take bs.length
   rw [zip_names as bs]
theorem bindL_perm {kd : Str -> Option NameKind} {l l' : List (Str × Value)} (p : l.Perm l') : (l.map (·.1)).Nodup -> ∀ m, bindL kd l m = bindL kd l' m := by
 induction p with
 | nil => exact λ _ _ => rfl
 | cons x _ ih =>
   intro nd m
   obtain ⟨n, v⟩ := x
   have nd2 := (List.nodup_cons.mp nd).2
   unfold bindL
   split <;> exact ih nd2 _
 | swap x y l =>
   intro nd m
   obtain ⟨n, v⟩ := x
   obtain ⟨n', v'⟩ := y
   have ne : n' ≠ n := λ e => (List.nodup_cons.mp nd).1 (by rw [e]; exact List.mem_cons_self)
   show bindL kd ((n', v') :: (n, v) :: l) m = bindL kd ((n, v) :: (n', v') :: l) m
   unfold bindL
   unfold bindL
   by_cases h1 : kd n' = some .local <;> by_cases h2 : kd n = some .local <;> simp only [h1, h2, if_true, if_false]
   all_goals try rfl
   congr 1
   funext z
   by_cases e1 : z = n
   · subst e1
     simp [Ne.symm ne]
   · simp [e1]
 | trans p q ih1 ih2 =>
   intro nd m
   rw [ih1 nd m, ih2 ((p.map _).nodup_iff.mp nd) m]
theorem bindC_perm {kd : Str -> Option NameKind} {l l' : List (Str × Value)} (p : l.Perm l') : (l.map (·.1)).Nodup -> ∀ m, bindC kd l m = bindC kd l' m := by
 induction p with
 | nil => exact λ _ _ => rfl
 | cons x _ ih =>
   intro nd m
   obtain ⟨n, v⟩ := x
   have nd2 := (List.nodup_cons.mp nd).2
   unfold bindC
   split <;> exact ih nd2 _
 | swap x y l =>
   intro nd m
   obtain ⟨n, v⟩ := x
   obtain ⟨n', v'⟩ := y
   have ne : n' ≠ n := λ e => (List.nodup_cons.mp nd).1 (by rw [e]; exact List.mem_cons_self)
   show bindC kd ((n', v') :: (n, v) :: l) m = bindC kd ((n, v) :: (n', v') :: l) m
   unfold bindC
   unfold bindC
   by_cases h1 : kd n' = some .local <;> by_cases h2 : kd n = some .local <;> simp only [h1, h2, if_true, if_false]
   all_goals try rfl
   congr 1
   funext z
   by_cases e1 : z = n
   · subst e1
     simp [Ne.symm ne]
   · simp [e1]
 | trans p q ih1 ih2 =>
   intro nd m
   rw [ih1 nd m, ih2 ((p.map _).nodup_iff.mp nd) m]
section
variable {g : Bool} {P : Program} {w : World} {K : Fr} {mg : Str -> Option Value} {base : Heap} {CX : CXT} {k : Nat} {f : Addr} {fd : FuncData} {ps : List Str} {sp : Sp}
theorem FnX.ok (F : FnX false P w K mg base CX k f fd ps sp) : FnOk P w K mg base CX k f fd ps sp :=
 ⟨F.lenG, λ B out t H args us vs Q E hr e b r h => F.runG B out t H args _ us vs Q E (λ z => nomatch z) hr e b (.refl _) r h⟩
theorem FnX.up {g' : Bool} (F : FnX g P w K mg base CX k f fd ps sp) (h : g = true -> g' = true) : FnX g' P w K mg base CX k f fd ps sp :=
 ⟨F.lenG, λ B out t H args bs us vs Q E gu hr e b p r hs => F.runG B out t H args bs us vs Q E (λ z => gu (h z)) hr e b p r hs⟩
theorem FnX.mono {j : Nat} (F : FnX g P w K mg base CX j f fd ps sp) (h : j <= k) : FnX g P w K mg base CX k f fd ps sp :=
 ⟨F.lenG, λ B out t H args bs us vs Q E gu hr e b p r hs => F.runG B out t H args bs us vs Q E gu (hr.mono h) e b p r hs⟩
theorem okX {x qual : Str} {params : Arguments} {body : List Stmt} {scope : Scope} {dvs : List V} {kws : List (Str × V)} {N : List Str} (D : FunD K x qual params body scope dvs kws f fd) (S : FnScope N ps scope)
   (hlen : ∀ vs H Q E, sp vs H Q E -> vs.length = ps.length)
   (hbody : ∀ (cdv : Value) (B : Around) (out : List Env) (t : Shared) (H : Hp) (vs : List V) (Q : VK) (E : XK), (g = true -> B.guards = some []) -> Room k (B.deeper (envOfC qual scope t.heap.objs.size f cdv)) -> sp vs H Q E ->
     ∃ tr, PSs (cxOf CX P w K mg base N qual scope f cdv B out t H E) body tr /\ tr { nx := λ _ H' => Q .non H', rt := Q } (start N vs) H) :
   FnX g P w K mg base CX (k + 1) f fd ps sp := by
 obtain ⟨⟨oc, od, dV, kV, doc, pm, an, cdv, ct, osl, rfl, lk, hcd, _, _⟩, _⟩ := D
 constructor
 · exact hlen
 intro B out t H args bs us vs Q E hg hr env hb hperm rel hsp
 have hin : K.In t.heap := env.mod.kin.keeps λ b o q => (env.bs b o q).1
 have hno : t.heap.NoLimit := env.mod.nolimit.keeps λ b o q => (env.bs b o q).1
 have hll := hlen _ _ _ _ hsp
 have nd : (bs.map (·.1)).Nodup := by
   refine (hperm.map _).nodup_iff.mpr ?_
   rw [zip_names, List.take_of_length_le (by rw [<- rel.length, hll]; exact Nat.le_refl _), <- S.pre]
   exact S.nd.sublist (List.take_sublist _ _)
 have hk : ∀ y ∈ bs, scope.names.lookup y.1 = some .local \/
     (scope.names.lookup y.1 = some .cell /\ ((cellsFrom (t.heap.objs.size + 1) scope.names []).lookup y.1).isSome = true) := by
   rintro ⟨n, v⟩ hy
   cases S.par n (List.of_mem_zip (hperm.mem_iff.mp hy)).1 with
   | inl q => exact .inl q
   | inr q => exact .inr ⟨q, PySem.W.cellsFrom_some _ _ _ (.inl q)⟩
 refine codeAny_call_function hr.depth (hin _ _ lk) rfl S.co S.gen rfl
   (PySem.W.codeRec_of hin hcd) (hb _ _ _ _ ?_)
 refine wpAny_newFunctionEnv_cells S.kind hk λ ev hev t1 ic => ?_
 subst hev
 rw [bindL_perm hperm nd, bindC_perm hperm nd] at ic
 refine ⟨hno.keeps ic.toInCall.keep, codeAny_func ?_⟩
 obtain ⟨tr, htr, hq⟩ := hbody cdv B out t H vs Q E hg (hr.deeper _) hsp
 have J : Inv (cxOf CX P w K mg base N qual scope f cdv B out t H E) [] (start N vs) H t1 :=
   inv_start S hr.hd env hll rel ic
 refine wpAny_mono (htr.run [] t1 (start N vs) H _ J hq) (λ fl t2 z => ?_) λ _ _ z => z
 cases fl with
 | next =>
   obtain ⟨s2, H2, J2, q2⟩ := z
   exact ⟨V.non, H2, J2.os, J2.bare, J2.base, J2.hok, rfl, q2⟩
 | ret u =>
   obtain ⟨v2, s2, H2, J2, r2, q2⟩ := z
   exact ⟨v2, H2, J2.os, J2.bare, J2.base, J2.hok, r2, q2⟩
 | brk =>
   obtain ⟨_, _, _, q2⟩ := z
   cases q2
 | cont =>
   obtain ⟨_, _, _, q2⟩ := z
   cases q2
end
section
variable {X : Cx} {g : Bool} {CX : CXT} {k n : Nat} {f : Addr} {fd : FuncData} {ps ps' ks : List Str} {sp : Sp} {ds : List Value} {dvs : List V} {E : XK}
theorem runX_fn {pins : List (Addr × Obj)} {σ : L2.St} {H : Hp} {s : Shared} {Q : VK} {us : List Value} {vs : List V} (F : FnX g X.prog X.w X.K X.mg X.base CX k f fd ps sp) (hg : g = true -> X.A.guards = some []) (hr : Room k X.A)
   (hb : Binds X.K fd ps ds) (hd : Vals dvs ds) (hx : Passes CX X E) (I : Inv X pins σ H s) (r : Vals vs us) (h : sp (vs ++ dvs) H Q E) :
   wpAny (model X.prog X.w) X.A (call (.ref f) us) (EP X pins σ Q) X.xe s := by
 have rr : Vals (vs ++ dvs) (us ++ ds) := r.append hd
 have ll : (us ++ ds).length = ps.length := rr.length.symm.trans (F.lenG _ _ _ _ h)
 have go := F.runG X.A X.stack s H ⟨us, []⟩ _ (us ++ ds) (vs ++ dvs) Q E hg hr I.env0 (hb s us I.kIn ll) (.refl _) rr h
 refine wpAny_call (codeAny_mono go λ res s' hq => ?_)
 match res, hq with
 | .error e, hq => exact hx pins σ H s e s' I hq
 | .ok (.ret u), hq => exact I.after hq
 | .ok .next, hq => cases hq
 | .ok .brk, hq => cases hq
 | .ok .cont, hq => cases hq
theorem pe_callX {x : Str} {e : Expr} {es : List Expr} {t : TA} {p pos : Pos} (F : FnX g X.prog X.w X.K X.mg X.base CX k f fd ps sp) (hgu : g = true -> X.A.guards = some []) (hr : Room k X.A) (hg : Gl X x) (hm : X.mg x = some (.ref f))
   (hk : PySem.W.keepIn X.K (.ref f) = true) (hb : Binds X.K fd ps ds) (hd : Vals dvs ds) (hx : Passes CX X E)
   (ha : PA X (e :: es) t) (hdb : (x == ("__debug__" : Str)) = false := by decide) (he : starEach (e :: es) X.env = (false, eval e X.env) :: starEach es X.env := by rfl)
   (hpl : (backTo pos (starEach es X.env)).any (·.1) = false := by rfl) : PE X (.Call (.Name x p) (e :: es) [] pos) (tCall sp dvs E t) := by
 constructor
 intro pins s σ H Q I h
 refine wpAny_Call_Name_kw (ld_glob I hg hm ?_ hdb)
 have body := thn (ha.run pos pins s σ H _ I h) (Q' := λ us s1 => X.K.In s1.heap /\ wpAny (model X.prog X.w) X.A (call (.ref f) us) (EP X pins σ Q) X.xe s1)
   λ us s1 ⟨vs, H1, I1, r1, q1⟩ => ⟨I1.kIn, runX_fn F hgu hr hb hd hx I1 r1 q1⟩
 exact PySem.W.callWith_K (h₀ := X.base) I.ok.mod.kin hk body he hpl
end
theorem law_callN {ND : Heap -> Prop} {P : Program} {w : World} {K : Fr} {mg mb : Str -> Option Value} {CX : CXT} {k : Nat} {fa a : Addr} {fd : FuncData} {x : Str} {sp : Sp} {s1 : Shared} {vs : List Value} {ns : List Int}
   (KX : K.In s1.heap) (hns : s1.heap.Ns mainGlobals mg) (hb : s1.heap.Ns builtinsNs mb) (hbb : ∀ x : Str, x ≠ "__name__" -> mb x = bootBuiltins x) (hlim : s1.heap.NoLimit) (hdig : ∀ h' : Heap, (∀ b o es ep, s1.heap.get? b = some o -> o.data = .dict es ep -> h'.get? b = some o) -> ND h') (hg : s1.gens = #[])
   (ha : s1.heap.get? a = some { cls := .type "list", data := .seq vs.toArray }) (hi : IntsAre vs ns) (hl : ns.length <= sizeLine) (hr : Room k callerA)
   (F : ∀ base : Heap, K.In base -> base.Ns mainGlobals mg -> ND base -> FnX true P w K mg base CX k fa fd [x] sp)
   (hbind : ∀ (s : Shared) (u : Value), BindsTo s fd ⟨[u], []⟩ [(x, u)])
   (hsp : ∀ H : Hp, SqL K H a (ns.map V.int) -> sp [.ref a] H (λ v _ => v = .bl true) λ _ _ _ => False)
   (hCX : ∀ H e s', CX [] H s1 (λ _ _ _ => False) e s' -> False) :
   codeAny (model P w) callerA (.call (.ref fa) ⟨[.ref a], []⟩) (λ r s' => r = .ok (.ret (.bool true)) /\ OldK s1.heap s'.heap /\ s'.os = s1.os /\ AllBare s'.gens) s1 := by
 have rv := vals_ints hi
 -- the abstract heap: the script alone, locked, unless it is one of the module's own objects
 obtain ⟨H, hS, hok, hA, hK, hO⟩ : ∃ H : Hp, SqL K H a (ns.map V.int) /\ HOk P w H s1.heap /\ (∀ b, H b ≠ none -> b = a) /\ (H a ≠ none -> K.lookup a = none) /\
     ∀ b u, H b = some u -> ∃ o v, u = .frz o v := by
   cases hk : K.lookup a with
   | some o =>
     have e := KX a o hk
     rw [ha] at e
     cases e
     refine ⟨λ _ => none, .inr ⟨_, vs.toArray, _, hk, rfl, rfl, rfl, ?_, by simpa using rv⟩, ?_, ?_, ?_, ?_⟩
     · rw [List.size_toArray, hi.length]
       exact hl
     · intro b u z
       cases (show (none : Option HO) = some u from z)
     · intro b z
       exact absurd rfl z
     · intro z
       exact absurd rfl z
     · intro b u z
       cases (show (none : Option HO) = some u from z)
   | none =>
     have at1 : upd (λ _ => none) a (.frz { cls := .type "list", data := .seq vs.toArray } (.lst (ns.map V.int))) a = some (HO.frz { cls := .type "list", data := .seq vs.toArray } (.lst (ns.map V.int))) := upd_same
     have at2 : ∀ b u, upd (λ _ => none) a (.frz { cls := .type "list", data := .seq vs.toArray } (.lst (ns.map V.int))) b = some u -> b = a /\ u = HO.frz { cls := .type "list", data := .seq vs.toArray } (.lst (ns.map V.int)) := by
       intro b u z
       by_cases q : b = a
       · subst q
         rw [upd_same] at z
         exact ⟨rfl, (Option.some.inj z).symm⟩
       · rw [upd_ne q] at z
         cases z
     refine ⟨_, .inl (.inr ⟨_, at1⟩), ?_, ?_, λ _ => rfl, ?_⟩
     · intro b u z
       obtain ⟨rfl, rfl⟩ := at2 b u z
       refine ⟨ha, ?_, vs, _, rv, ha⟩
       rw [List.length_map]
       exact hl
     · intro b z
       cases q : upd (λ _ => none) a (.frz { cls := .type "list", data := .seq vs.toArray } (.lst (ns.map V.int))) b with
       | none => exact absurd q z
       | some u => exact (at2 b u q).1
     · intro b u z
       exact ⟨_, _, (at2 b u z).2⟩
 have off : ∀ {b : Addr} {o : Obj} {es : Array DictEntry} {ep : Nat}, s1.heap.get? b = some o -> o.data = .dict es ep -> H b = none := by
   intro b o es ep e d
   cases q : H b with
   | none => rfl
   | some u =>
     have z : b = a := hA b (by rw [q]; simp)
     subst z
     rw [ha] at e
     cases e
     cases (show Data.seq vs.toArray _ = Data.dict es ep from d)
 have nsH : ∀ {b : Addr} {m : Str -> Option Value}, s1.heap.Ns b m -> (hidT s1.heap H).Ns b m := by
   rintro b m ⟨o, es, ep, e, d, r⟩
   exact ⟨o, es, ep, hidT_get e (off e d), d, r⟩
 have hKb : K.In (hidT s1.heap H) := by
   intro b o e
   refine hidT_get (KX b o e) ?_
   cases q : H b with
   | none => rfl
   | some u =>
     have z : b = a := hA b (by rw [q]; simp)
     subst z
     rw [hK (by rw [q]; simp)] at e
     cases e
 have hM : Mod K mg (hidT s1.heap H) := by
   obtain ⟨mc, h1, h2⟩ := hlim
   exact ⟨hKb, nsH hns, ⟨mb, nsH hb, hbb⟩, ⟨mc, nsH h1, h2⟩⟩
 have e0 : Env0 P w K mg (hidT s1.heap H) callerA [] s1 H := by
   refine ⟨rfl, hM, λ b o e => of_hidT e, Nat.le_of_eq (hidT_size _ _), trivial, λ b hb => ?_, hok, .of_eq hg⟩
   cases (show b ∈ ([] : List Addr) from hb)
 have go := (F _ hKb (nsH hns) (hdig _ λ b o es ep e d => hidT_get e (off e d))).runG callerA [] s1 H ⟨[.ref a], []⟩ _ [.ref a] [.ref a] _ _ (λ _ => rfl) hr e0 (hbind s1 (.ref a)) (.refl _) (.cons rfl .nil) (hsp H hS)
 refine codeAny_mono go λ res s' h => ?_
 match res, h with
 | .error e, h => exact (hCX H e s' h).elim
 | .ok .next, h => cases h
 | .ok .brk, h => cases h
 | .ok .cont, h => cases h
 | .ok (.ret u), h =>
   obtain ⟨v, H', os, bare, un, hok', r', q⟩ := h
   cases (show v = .bl true from q)
   cases (show u = Value.bool true from r')
   refine ⟨rfl, OldK.of_keep λ b o e => ?_, os, bare⟩
   cases q : H b with
   | none =>
     refine un.keep b o e q (λ z => ?_) (by simp)
     cases (show b ∈ ([] : List Addr) from z)
   | some u =>
     obtain ⟨ob, v2, rfl⟩ := hO b u q
     have z2 := un.frzs b ob _ q
     obtain ⟨e1, _⟩ := hok b _ q
     obtain ⟨e2, _⟩ := hok' b _ z2
     rw [e] at e1
     cases e1
     exact e2
theorem nd_keep {h h' : Heap} (x : h.NoDigits) (k : ∀ b o es ep, h.get? b = some o -> o.data = .dict es ep -> h'.get? b = some o) : h'.NoDigits := by
 obtain ⟨mc, ⟨o, es, ep, e, d, r⟩, q⟩ := x
 exact ⟨mc, ⟨o, es, ep, k _ _ _ _ e d, d, r⟩, q⟩
end RC

namespace RC
open PySem PySem.Spec PySem.Calls PySem.NumText PyProof.Rows L2
structure HidL (p : Prop) : Prop where
 out : p
def rRepS : R2 := λ x y H Q => ∃ (c : Nat) (n : Int), x = .str (SX.S [c]) /\ y = .int n /\ 1 <= n /\ n <= 100000 /\ Q (.str (SX.S (List.replicate n.toNat c))) H
theorem rep_one (c : Nat) : ∀ (k : Nat) (acc : Array Nat), (List.replicate k #[c]).foldl (· ++ ·) acc = acc ++ (List.replicate k c).toArray
 | 0, acc => by simp
 | k + 1, acc => by
   rw [List.replicate_succ, List.foldl_cons, rep_one c k, List.replicate_succ]
   refine Array.toList_inj.mp ?_
   simp only [Array.toList_append, List.toList_toArray, List.append_assoc]
   rfl
theorem op_repS {X : Cx} : OpR X (binaryOp .Mult) rRepS := by
 intro pins s σ H x y v u Q I rx ry h
 obtain ⟨c, n, rfl, rfl, h1, h2, q⟩ := h
 obtain ⟨t, rfl⟩ := rx
 obtain ⟨t2, rfl⟩ := ry
 have hl : (SX.S [c]).length = 1 := SX.S_len [c]
 refine PySem.P.mul_str (by rw [decide_eq_false (by omega), decide_eq_false (by omega)]; rfl) (λ _ _ => ?_) (λ _ _ => ?_) ?_
 · rw [hl]
   have : (1 : Int) <= (2 ^ 63 - 1) / n := (Int.le_ediv_iff_mul_le (by omega)).mpr (by omega)
   omega
 · rw [hl]
   unfold Builtin.Str.tooLong
   rw [decide_eq_false]
   have := sizeLine_eq
   omega
 · rw [if_neg (by omega)]
   by_cases e : n = 1
   · subst e
     rw [if_pos (by rfl)]
     exact ⟨.str _, H, I, ⟨_, rfl⟩, q⟩
   · rw [if_neg (by rw [hl]; simp [e])]
     have e2 : (⟨(List.replicate n.toNat (SX.S [c]).cps).foldl (· ++ ·) #[]⟩ : Str) = SX.S (List.replicate n.toNat c) := by
       show (⟨(List.replicate n.toNat #[c]).foldl (· ++ ·) #[]⟩ : Str) = _
       rw [rep_one]
       simp
     rw [e2]
     refine ⟨?_, ⟨.str _, H, I.tok _, ⟨_, rfl⟩, q⟩⟩
     rw [SX.S_len, List.length_replicate]
     have := sizeLine_eq
     omega
end RC

namespace RC
open PySem PySem.Spec PyProof.Rows L2
section
variable {X : Cx}
def rCatS (K : Fr) : R2 := λ x y H Q => ∃ l b xs zs, x = .ref l /\ y = .ref b /\ SqL K H l xs /\ SqL K H b zs /\ xs.length + zs.length <= sizeLine /\ ∀ p, H p = none -> Q (.ref p) (upd H p (.lst (xs ++ zs)))
theorem op_catS : OpR X (binaryOp .Add) (rCatS X.K) := by
 intro pins s σ H x y v u Q I rx ry h
 obtain ⟨l, b, xs, zs, rfl, rfl, hH, hB, hz, q⟩ := h
 cases rx
 cases ry
 obtain ⟨its, r, ⟨⟨cls, dd, data, sl⟩, n, ho, hc, _, hd⟩, _⟩ := I.list hH
 obtain ⟨its2, r2, ⟨⟨cls2, dd2, data2, sl2⟩, n2, ho2, hc2, _, hd2⟩, _⟩ := I.list hB
 simp only at hc hd hc2 hd2
 subst hc hd hc2 hd2
 have ea : its.toArray ++ its2.toArray = (its ++ its2).toArray := by simp
 have l1 := r.length
 have l2 := r2.length
 refine concat_meets ⟨_, ho, rfl⟩ ⟨_, ho2, rfl⟩ noFill_list_add seq_list_add PySem.F.slot_list_add PySem.F.entry_list_add (PySem.F.args_list_add_2 _ _) (list_addW l b its.toArray its2.toArray n n2 dd dd2 sl sl2 (by rw [List.size_toArray, List.size_toArray]; omega)) ⟨ho, ho2, ?_⟩
 rw [ea]
 exact ⟨.ref _, _, I.lnew (t' := s.toks) (r.append r2) (by rw [List.length_append]; omega), rfl, q _ I.fresh⟩
def uAdd (K : Fr) : R2 := λ x y H Q => rI0 (λ i j => .int (i + j)) x y H Q \/ (∃ i j, x = .str i /\ y = .str j /\ i.length + j.length <= sizeLine /\ Q (.str (i ++ j)) H) \/ rCatS K x y H Q \/ rCatT K x y H Q
theorem uo_add : OpR X (binaryOp .Add) (uAdd X.K) := op_add.or (op_add_str.or (op_catS.or op_catT))
def uSub : R2 := rI0 λ i j => .int (i - j)
def uMul : R2 := λ x y H Q => rI CMul (λ i j => .int (i * j)) x y H Q \/ rI CMulW (λ i j => .int (i * j)) x y H Q \/ rRep x y H Q \/ rRepS x y H Q
theorem uo_mul : OpR X (binaryOp .Mult) uMul := op_mul.or (op_mulW.or (op_rep.or op_repS))
def uMod : R2 := rI (λ _ j => 0 < j) λ i j => .int (i % j)
theorem uo_mod : OpR X (binaryOp .Mod) uMod := op_mod
def uDiv : R2 := rI CDivW λ i j => .int (i / j)
theorem uo_div : OpR X (binaryOp .FloorDiv) uDiv := op_fdivW
def uPow : R2 := rI CPow λ i j => .int (i ^ j.toNat)
theorem uo_pow : OpR X (binaryOp .Pow) uPow := op_pow
def iAdd : R2 := λ x y H Q => rI0 (λ i j => .int (i + j)) x y H Q \/ rExt2 x y H Q
theorem io_add : OpR X (inplaceOp .Add) iAdd := iop_add.or iop_ext
def iSub : R2 := rI0 λ i j => .int (i - j)
def iMul : R2 := rI CMul λ i j => .int (i * j)
def iDiv : R2 := rI CDiv λ i j => .int (i / j)
def uEq (K : Fr) : R2 := λ x y H Q => rEq x y H Q \/ rEqD K x y H Q
theorem uo_eq (hu : X.A.units + 64 < cLine) : OpR X (compareOp .Eq) (uEq X.K) := op_eq.or (op_eqD hu)
def uNe (K : Fr) : R2 := λ x y H Q => rNe x y H Q \/ rNeD K x y H Q
theorem uo_ne (hu : X.A.units + 64 < cLine) : OpR X (compareOp .NotEq) (uNe X.K) := op_ne.or (op_neD hu)
def uLt : R2 := rI0 λ i j => .bl (decide (i < j))
def uLe : R2 := rI0 λ i j => .bl (decide (i <= j))
def uGt : R2 := rI0 λ i j => .bl (decide (j < i))
def uGe : R2 := rI0 λ i j => .bl (decide (j <= i))
theorem uo_lt : OpR X (compareOp .Lt) uLt := op_lt
theorem uo_gt : OpR X (compareOp .Gt) uGt := op_gt
theorem uo_ge : OpR X (compareOp .GtE) uGe := op_ge
def gIx (K : Fr) : V -> V -> Hp -> VK -> Prop := λ o i H Q => (∃ (p : Addr) (xs : List V) (n : Int) (v : V), o = .ref p /\ i = .int n /\ SqL K H p xs /\ 0 <= n /\ xs[n.toNat]? = some v /\ Q v H) \/ ∃ p v, o = .ref p /\ DGet H p i (some v) /\ Q v H
theorem get_any (hu : X.A.units + 1 < cLine) : PGet X (gIx X.K) := by
 intro pins s σ H o i ov iv Q I r1 r2 h
 rcases h with ⟨p, xs, n, v, rfl, rfl, hs, h0, hx, q⟩ | ⟨p, v, rfl, hd, q⟩
 · cases (show ov = Value.ref p from r1)
   obtain ⟨tk, rfl⟩ := r2
   obtain ⟨its, rv, pl, hz⟩ := I.list hs
   obtain ⟨u, hu, ru⟩ := rv.get hx
   have hlt : n.toNat < xs.length := (List.getElem?_eq_some_iff.mp hx).1
   have hle : n < 2 ^ 63 := by
     have := line63
     omega
   exact wpAny_getItem_list pl.isList h0 hle (by simpa using hu) ⟨v, H, I, ru, q⟩
 · cases (show ov = Value.ref p from r1)
   exact d_getItem hu I hd r2 λ w' s' I' rw' => ⟨v, H, I', rw', q⟩
def uSet : V -> V -> V -> Hp -> (Hp -> Prop) -> Prop := λ o i v H Q => rSetL o i v H Q \/ ∃ p H', o = .ref p /\ DPut H p i v H' /\ Q H'
theorem set_any (hu : X.A.units + 1 < cLine) : PSet X uSet := by
 intro pins s σ H o i v ov iv u Q I r1 r2 r3 h
 rcases h with h | ⟨p, H', rfl, hd, q⟩
 · exact set_list pins s σ H o i v ov iv u Q I r1 r2 r3 h
 · cases (show ov = Value.ref p from r1)
   exact d_setItem hu I hd r2 r3 λ s' I' => ⟨H', I', q⟩
theorem ip_of {op : Operator} {r : R2} (h : OpR X (inplaceOp op) r) : PIp X op r := λ pins s σ H x y v u Q I a b q => h pins s σ H x y v u Q I a b q
def uLen (K : Fr) : List V -> Hp -> VK -> Prop := λ xs H Q => (∃ x n, xs = [x] /\ LenV K x H n /\ Q (.int n) H) \/ ∃ d kvs, xs = [.ref d] /\ Rd H d (.dK kvs) /\ Q (.int (kvs.length : Nat)) H
theorem call_lenRd : CallR X (.builtin "len") (λ xs H Q => ∃ a kvs, xs = [V.ref a] /\ Rd H a (.dK kvs) /\ Q (.int (kvs.length : Nat)) H) := by
 intro pins s σ H xs us Q I r h
 obtain ⟨a, kvs, rfl, ha, q⟩ := h
 obtain ⟨u, rfl, ru⟩ := vals1 r
 cases ru
 exact d_len I ha λ t s' I' => ⟨.int kvs.length, H, I', ⟨t, rfl⟩, q⟩
theorem cr_len : CallR X (.builtin "len") (uLen X.K) := call_len.or call_lenRd
def uIx (K : Fr) : R2 := rIx K
theorem ix_any : IxR X (uIx X.K) := ix_seq
def uSl (K : Fr) : V -> Option Int -> Option Int -> Hp -> VK -> Prop := λ x lo hi H Q => rSlL K x lo hi H Q \/ rSlT K x lo hi H Q
theorem sl_any : SlR X (uSl X.K) := sl_list.or sl_tup
end
section
variable {K : Fr} {σ : L2.St} {H : Hp} {Q : VK} {D : Ends} {t u : TS} {te ta tb tc : TE} {tt : TT} {Rs : List Res} {E : XK}
theorem g_seq (k : t { D with nx := u D } σ H) : tSeq t u D σ H := k
theorem g_next (k : D.nx σ H) : tNext D σ H := k
theorem g_asg {i : Nat} (k : te σ H λ x H1 => D.nx (σ.set i (some x)) H1) : tAsg te (gName i) D σ H := k
theorem g_asgX {g : TG} (k : te σ H λ x H1 => g x σ H1 D.nx) : tAsg te g D σ H := k
theorem g_drop (k : te σ H λ _ H1 => D.nx σ H1) : tDrop te D σ H := k
theorem g_ret (k : te σ H D.rt) : tRet te D σ H := k
theorem g_retN (k : D.rt .non H) : tRetN D σ H := k
theorem g_if (k : tt σ H λ b H1 => if b = true then t D σ H1 else u D σ H1) : tIfS tt t u D σ H := k
theorem g_nx {f r b c} (k : f σ H) : (Ends.mk f r b c).nx σ H := k
theorem g_rt {f b c} {r : VK} {v : V} (k : r v H) : (Ends.mk f r b c).rt v H := k
theorem g_bk {f b c} {r : VK} (k : b σ H) : (Ends.mk f r b c).bk σ H := k
theorem g_ct {f b c} {r : VK} (k : c σ H) : (Ends.mk f r b c).ct σ H := k
theorem g_var {i : Nat} {v : V} (h : σ[i]? = some (some v)) (k : Q v H) : tVar i σ H Q := ⟨v, h, k⟩
theorem g_c {v : V} (k : Q v H) : tC v σ H Q := k
theorem g_op {r : R2} (k : ta σ H λ x H1 => tb σ H1 λ y H2 => r x y H2 Q) : tOp r ta tb σ H Q := k
theorem g_un {r : V -> Hp -> VK -> Prop} (k : ta σ H λ x H1 => r x H1 Q) : tUn r ta σ H Q := k
theorem g_nil {Q : List V -> Hp -> Prop} (k : Q [] H) : tNil σ H Q := k
theorem g_cons {tr : TA} {Q : List V -> Hp -> Prop} (k : ta σ H λ x H1 => tr σ H1 λ xs H2 => Q (x :: xs) H2) : tCons ta tr σ H Q := k
theorem g_cb {r : List V -> Hp -> VK -> Prop} {t : TA} (k : t σ H λ vs H1 => r vs H1 Q) : tCB r t σ H Q := k
theorem g_call {sp : Sp} {dvs : List V} {t : TA} (k : t σ H λ vs H1 => sp (vs ++ dvs) H1 Q E) : tCall sp dvs E t σ H Q := k
def LstK (Q : VK) : List V -> Hp -> Prop := λ xs H1 => xs.length <= sizeLine /\ ∀ p, H1 p = none -> Q (.ref p) (upd H1 p (.lst xs))
def TupK (Q : VK) : List V -> Hp -> Prop := λ xs H1 => xs.length <= sizeLine /\ ∀ p, H1 p = none -> Q (.ref p) (upd H1 p (.tup xs))
theorem g_lst {t : TA} (k : t σ H (LstK Q)) : tLst t σ H Q := k
theorem g_tup {t : TA} (k : t σ H (TupK Q)) : tTup t σ H Q := k
theorem v_lst {xs : List V} (S : M Rs H) (hn : xs.length <= 100000) (k : ∀ p H', M (pt p (.lst xs) :: Rs) H' -> Q (.ref p) H') : LstK Q xs H :=
 ⟨Nat.le_trans hn (by decide), λ p hp => k p _ (S.new hp)⟩
theorem v_tup {xs : List V} (S : M Rs H) (hn : xs.length <= 100000) (k : ∀ p H', M (pt p (.tup xs) :: Rs) H' -> Q (.ref p) H') : TupK Q xs H :=
 ⟨Nat.le_trans hn (by decide), λ p hp => k p _ (S.new hp)⟩
theorem g_test {Q : Bool -> Hp -> Prop} (k : te σ H λ x H' => ∃ b, x = .bl b /\ Q b H') : tTest te σ H Q := k
theorem g_B {Q : Bool -> Hp -> Prop} (k : te σ H λ x H' => ∃ b, x = .bl b /\ Q b H') : tB te σ H Q := k
theorem g_bl {b : Bool} {Q : Bool -> Prop} (k : Q b) : ∃ c, V.bl b = .bl c /\ Q c := ⟨b, rfl, k⟩
theorem g_and {s : TT} {Q : Bool -> Hp -> Prop} (k : tt σ H λ c H1 => if c = true then s σ H1 Q else Q false H1) : tAnd tt s σ H Q := k
theorem g_or {s : TT} {Q : Bool -> Hp -> Prop} (k : tt σ H λ c H1 => if c = true then Q true H1 else s σ H1 Q) : tOr tt s σ H Q := k
theorem g_not {Q : Bool -> Hp -> Prop} (k : tt σ H λ c H1 => Q (!c) H1) : tNot tt σ H Q := k
theorem g_andV (k : ta σ H λ x H1 => ∃ c, x = .bl c /\ if c = true then tb σ H1 Q else Q (.bl false) H1) : tAndV ta tb σ H Q := k
theorem g_orV (k : ta σ H λ x H1 => ∃ c, x = .bl c /\ if c = true then Q (.bl true) H1 else tb σ H1 Q) : tOrV ta tb σ H Q := k
theorem g_notV (k : ta σ H λ x H1 => ∃ c, x = .bl c /\ Q (.bl (!c)) H1) : tNotV ta σ H Q := k
theorem g_ifE (k : tt σ H λ c H1 => if c = true then ta σ H1 Q else tb σ H1 Q) : tIf tt ta tb σ H Q := k
theorem g_chain {r r' : R2} (k : ta σ H λ x H1 => tb σ H1 λ y H2 => r x y H2 λ z H3 => ∃ k, z = .bl k /\ (if k = true then tc σ H3 λ w' H4 => r' y w' H4 Q else Q (.bl false) H3)) : tChain r r' ta tb tc σ H Q := k
theorem g_aug {i : Nat} {ti : TIp} {v : V} (h : σ[i]? = some (some v)) (k : te σ H λ y H1 => ti v y H1 λ z H2 => D.nx (σ.set i (some z)) H2) : tAug i te ti D σ H := ⟨v, h, k⟩
theorem g_augS {tget : V -> V -> Hp -> VK -> Prop} {tip : TIp} {tset : TSet} (k : ta σ H λ o H1 => tb σ H1 λ i H2 => tget o i H2 λ x H3 => te σ H3 λ y H4 => tip x y H4 λ z H5 => tset o i z H5 λ H6 => D.nx σ H6) :
   tAugS ta tb te tget tip tset D σ H := k
theorem g_sub {t3 : TSet} {v : V} {Q : L2.St -> Hp -> Prop} (k : ta σ H λ o H1 => tb σ H1 λ i H2 => t3 o i v H2 λ H3 => Q σ H3) : gSub ta tb t3 v σ H Q := k
theorem g_sl {r : V -> Option Int -> Option Int -> Hp -> VK -> Prop} {tl th : TO} (k : te σ H λ x H1 => tl σ H1 λ l H2 => th σ H2 λ u H3 => r x l u H3 Q) : tSl r te tl th σ H Q := k
theorem g_noPart {Q : Option Int -> Hp -> Prop} (k : Q none H) : tNoPart σ H Q := k
theorem g_part {Q : Option Int -> Hp -> Prop} (k : te σ H λ x H1 => ∃ i, x = .int i /\ Q (some i) H1) : tPart te σ H Q := k
theorem g_int {i : Int} {Q : Int -> Prop} (k : Q i) : ∃ j, V.int i = .int j /\ Q j := ⟨i, rfl, k⟩
theorem v_add {i j : Int} (k : Q (.int (i + j)) H) : uAdd K (.int i) (.int j) H Q := .inl ⟨i, j, rfl, rfl, k⟩
theorem v_sub {i j : Int} (k : Q (.int (i - j)) H) : uSub (.int i) (.int j) H Q := ⟨i, j, rfl, rfl, k⟩
theorem v_mul {i j : Int} (h : CMul i j \/ CMulW i j) (k : Q (.int (i * j)) H) : uMul (.int i) (.int j) H Q := h.elim (λ h => .inl ⟨i, j, rfl, rfl, h, k⟩) λ h => .inr (.inl ⟨i, j, rfl, rfl, h, k⟩)
theorem v_mod {i j : Int} (h : 0 < j) (k : Q (.int (i % j)) H) : uMod (.int i) (.int j) H Q := ⟨i, j, rfl, rfl, h, k⟩
theorem div_ok {i j : Int} (h : 0 < j /\ j < 2 ^ 64) : CDivW i j := wide_div (b := 64) h.1 (by omega) (by decide) (by decide)
theorem v_div {i j : Int} (h : 0 < j /\ j < 2 ^ 64) (k : Q (.int (i / j)) H) : uDiv (.int i) (.int j) H Q := ⟨i, j, rfl, rfl, div_ok h, k⟩
theorem v_iadd {i j : Int} (k : Q (.int (i + j)) H) : iAdd (.int i) (.int j) H Q := .inl ⟨i, j, rfl, rfl, k⟩
theorem v_isub {i j : Int} (k : Q (.int (i - j)) H) : iSub (.int i) (.int j) H Q := ⟨i, j, rfl, rfl, k⟩
theorem v_imul {i j : Int} (h : CMul i j) (k : Q (.int (i * j)) H) : iMul (.int i) (.int j) H Q := ⟨i, j, rfl, rfl, h, k⟩
theorem v_idiv {i j : Int} (h : CDiv i j) (k : Q (.int (i / j)) H) : iDiv (.int i) (.int j) H Q := ⟨i, j, rfl, rfl, h, k⟩
theorem v_lt {i j : Int} (k : Q (.bl (decide (i < j))) H) : uLt (.int i) (.int j) H Q := ⟨i, j, rfl, rfl, k⟩
theorem v_le {i j : Int} (k : Q (.bl (decide (i <= j))) H) : uLe (.int i) (.int j) H Q := ⟨i, j, rfl, rfl, k⟩
theorem v_gt {i j : Int} (k : Q (.bl (decide (j < i))) H) : uGt (.int i) (.int j) H Q := ⟨i, j, rfl, rfl, k⟩
theorem v_ge {i j : Int} (k : Q (.bl (decide (j <= i))) H) : uGe (.int i) (.int j) H Q := ⟨i, j, rfl, rfl, k⟩
theorem v_eqI {i j : Int} (k : Q (.bl (decide (i = j))) H) : uEq K (.int i) (.int j) H Q := .inl ⟨rfl, by
 have e : decide (V.int i = V.int j) = decide (i = j) := decide_eq_decide.mpr ⟨λ h => V.int.inj h, λ h => by rw [h]⟩
 rw [e]
 exact k⟩
theorem v_neI {i j : Int} (k : Q (.bl (!decide (i = j))) H) : uNe K (.int i) (.int j) H Q := .inl ⟨rfl, by
 have e : decide (V.int i = V.int j) = decide (i = j) := decide_eq_decide.mpr ⟨λ h => V.int.inj h, λ h => by rw [h]⟩
 rw [e]
 exact k⟩
theorem v_eqS {i j : Str} (k : Q (.bl (decide (i = j))) H) : uEq K (.str i) (.str j) H Q := .inl ⟨rfl, by
 have e : decide (V.str i = V.str j) = decide (i = j) := decide_eq_decide.mpr ⟨λ h => V.str.inj h, λ h => by rw [h]⟩
 rw [e]
 exact k⟩
theorem v_eqB {i j : Bool} (k : Q (.bl (decide (i = j))) H) : uEq K (.bl i) (.bl j) H Q := .inl ⟨rfl, by
 have e : decide (V.bl i = V.bl j) = decide (i = j) := decide_eq_decide.mpr ⟨λ h => V.bl.inj h, λ h => by rw [h]⟩
 rw [e]
 exact k⟩
theorem v_neB {i j : Bool} (k : Q (.bl (!decide (i = j))) H) : uNe K (.bl i) (.bl j) H Q := .inl ⟨rfl, by
 have e : decide (V.bl i = V.bl j) = decide (i = j) := decide_eq_decide.mpr ⟨λ h => V.bl.inj h, λ h => by rw [h]⟩
 rw [e]
 exact k⟩
theorem v_neD {x y : V} {d e : PyData} (h1 : Dp K H x d) (h2 : Dp K H y e) (s1 : SeqAt.shaped d = true) (s2 : SeqAt.shaped e = true) (k : Q (.bl (!PyData.eqv d e)) H) : uNe K x y H Q := .inr ⟨d, e, h1, h2, s1, s2, k⟩
theorem v_ixL {p : Addr} {xs : List V} {i : Int} {v : V} (h : SqL K H p xs) (ha : atI xs i = some v) (k : Q v H) : uIx K (.ref p) (.int i) H Q := .inl ⟨p, xs, i, v, rfl, rfl, h, ha, k⟩
theorem v_ixT {p : Addr} {xs : List V} {i : Int} {v : V} (h : SqT K H p xs) (ha : atI xs i = some v) (k : Q v H) : uIx K (.ref p) (.int i) H Q := .inr (.inl ⟨p, xs, i, v, rfl, rfl, h, ha, k⟩)
theorem v_get {p : Addr} {xs : List V} {n : Int} {v : V} (h : SqL K H p xs) (h0 : 0 <= n) (ha : xs[n.toNat]? = some v) (k : Q v H) : gIx K (.ref p) (.int n) H Q := .inl ⟨p, xs, n, v, rfl, rfl, h, h0, ha, k⟩
theorem ixN_int {n : Nat} {i : Int} (h0 : 0 <= i) (h1 : i < n) : ixN n i = some i.toNat := by
 unfold ixN
 rw [if_pos h0, if_pos h1]
theorem atI_int {α : Type} {xs : List α} {i : Int} {v : α} (h0 : 0 <= i) (h : xs[i.toNat]? = some v) : atI xs i = some v := by
 have hl := (List.getElem?_eq_some_iff.mp h).1
 unfold atI
 rw [ixN_int h0 (by omega)]
 exact h
theorem atI_ints {ns : List Int} {i : Int} (h0 : 0 <= i) (h1 : i < ns.length) : atI (ns.map V.int) i = some (.int (ns.getD i.toNat 0)) := by
 refine atI_int h0 ?_
 have hl : i.toNat < ns.length := by omega
 rw [List.getElem?_map, List.getElem?_eq_getElem hl, List.getD_eq_getElem?_getD, List.getElem?_eq_getElem hl]
 rfl
theorem v_set {p : Addr} {xs : List V} {n : Int} {j : Nat} {v : V} {Q : Hp -> Prop} (S : M Rs H) (i : Nat) (e : Rs[i]? = some (pt p (.lst xs))) (hj : ixN xs.length n = some j) (k : ∀ H', M (Rs.set i (pt p (.lst (xs.set j v)))) H' -> Q H') :
   uSet (.ref p) (.int n) v H Q := .inl ⟨p, xs, n, j, rfl, rfl, S.got i e, hj, k _ (S.putAt i e)⟩
theorem v_catS {a b : Addr} {xs ys : List V} (S : M Rs H) (h1 : SqL K H a xs) (h2 : SqL K H b ys) (hz : xs.length + ys.length <= 100000) (k : ∀ p H', M (pt p (.lst (xs ++ ys)) :: Rs) H' -> Q (.ref p) H') : uAdd K (.ref a) (.ref b) H Q :=
 .inr (.inr (.inl ⟨a, b, xs, ys, rfl, rfl, h1, h2, Nat.le_trans hz (by decide), λ p hp => k p _ (S.new hp)⟩))
theorem v_slL {a : Addr} {xs : List V} {lo hi : Option Int} (S : M Rs H) (h : SqL K H a xs) (k : ∀ p H', M (pt p (.lst (cutV xs lo hi)) :: Rs) H' -> Q (.ref p) H') : uSl K (.ref a) lo hi H Q :=
 .inl ⟨a, xs, rfl, h, λ p hp => k p _ (S.new hp)⟩
def RevK (K : Fr) (Q : VK) : VK := λ x H1 => ∃ a xs, x = .ref a /\ SqL K H1 a xs /\ ∀ p, H1 p = none -> Q (.ref p) (upd H1 p (.lst xs.reverse))
theorem g_rev (k : te σ H (RevK K Q)) : tRevL K te σ H Q := k
theorem v_rev {a : Addr} {xs : List V} (S : M Rs H) (h : SqL K H a xs) (k : ∀ p H', M (pt p (.lst xs.reverse) :: Rs) H' -> Q (.ref p) H') : RevK K Q (.ref a) H :=
 ⟨a, xs, rfl, h, λ p hp => k p _ (S.new hp)⟩
theorem v_lenL {a : Addr} {xs : List V} (h : SqL K H a xs) (k : Q (.int (xs.length : Nat)) H) : uLen K [.ref a] H Q := .inl ⟨_, _, rfl, .inl ⟨xs, h, rfl⟩, k⟩
theorem g_bm {T : String} {r : V -> List V -> Hp -> VK -> Prop} {t : TA} (k : te σ H λ x H1 => tyV K T x H1 /\ t σ H1 λ xs H2 => r x xs H2 Q) : tBM K T r te t σ H Q := k
theorem g_bm0 {T : String} {r : V -> List V -> Hp -> VK -> Prop} (k : te σ H λ x H1 => tyV K T x H1 /\ r x [] H1 Q) : tBM0 K T r te σ H Q := k
theorem v_tyL {a : Addr} {xs : List V} {φ : Prop} (h : SqL K H a xs) (k : φ) : tyV K "list" (.ref a) H /\ φ := ⟨.inl ⟨rfl, xs, h⟩, k⟩
theorem v_app {p : Addr} {xs : List V} {v : V} (S : M Rs H) (i : Nat) (e : Rs[i]? = some (pt p (.lst xs))) (hz : xs.length < 100000) (k : ∀ H', M (Rs.set i (pt p (.lst (xs ++ [v])))) H' -> Q .non H') : rAppend (.ref p) [v] H Q :=
 ⟨p, xs, v, rfl, rfl, S.got i e, Nat.lt_of_lt_of_le hz (by decide), k _ (S.putAt i e)⟩
theorem v_ifD {c : Prop} [Decidable c] {A B : Prop} (h1 : c -> A) (h2 : ¬ c -> B) : if decide c = true then A else B := by
 by_cases h : c
 · rw [decide_eq_true h]
   exact h1 h
 · rw [decide_eq_false h]
   exact h2 h
theorem v_ifT {A B : Prop} (k : A) : if true = true then A else B := k
theorem v_ifF {A B : Prop} (k : B) : if false = true then A else B := k
end
end RC
namespace RC
open PySem PySem.Spec PyProof.Rows L2
def fdOf (K : Fr) (f : Addr) : FuncData := match K.lookup f with
 | some ⟨_, _, .func fd, _⟩ => fd
 | _ => PySem.W.fnOf "" "" ⟨[], [], none, [], [], none, []⟩ [] ⟨.function, [], false, false, []⟩ .none .none .none .none none .none .none
theorem fd_of {K : Fr} {x q : Str} {ar : Arguments} {bd : List Stmt} {sc : Scope} {dvs : List V} {kws : List (Str × V)} {f : Addr} (h : ∃ fd, FunD K x q ar bd sc dvs kws f fd) : FunD K x q ar bd sc dvs kws f (fdOf K f) := by
 obtain ⟨fd, F⟩ := h
 have e : fdOf K f = fd := by
   obtain ⟨⟨oc, od, dV, kV, doc, pm, an, cdv, ct, osl, rfl, lk, _, _, _⟩, _⟩ := F
   unfold fdOf
   rw [lk]
 rw [e]
 exact F
def rdL (K : Fr) (a : Addr) (xs : List V) : Res := ⟨λ F l => l = [] /\ SqL K F a xs, λ _ _ _ e h => ⟨h.1, e.sqL h.2⟩⟩
theorem M.start {K : Fr} {H : Hp} {a : Addr} {xs : List V} (h : SqL K H a xs) : M [rdL K a xs] H :=
 ⟨H, [], ⟨[], [], rfl, ⟨rfl, h⟩, rfl⟩, ⟨Ext.refl H, (λ _ h => nomatch h), List.nodup_nil⟩⟩
theorem M.gotR {K : Fr} {Rs : List Res} {H : Hp} {a : Addr} {xs : List V} (h : M Rs H) (i : Nat) (e : Rs[i]? = some (rdL K a xs)) : SqL K H a xs := by
 obtain ⟨F, L, ⟨l1, l2, rfl, ⟨_, q⟩, b⟩, m⟩ := h.at i e
 exact m.ex.sqL q
def Ent (Rs : List Res) (φ : Hp -> Prop) : Prop := ∀ H, M Rs H -> φ H
def rAbs : List V -> Hp -> VK -> Prop := λ xs H Q => ∃ i, xs = [.int i] /\ Q (.int (if i < 0 then -i else i)) H
theorem cr_abs {X : Cx} : CallR X (.builtin "abs") rAbs := call_abs
theorem v_abs {i : Int} {H : Hp} {Q : VK} (k : Q (.int (if i < 0 then -i else i)) H) : rAbs [.int i] H Q := ⟨i, rfl, k⟩
def rIsN : R2 := λ x y H Q => y = .non /\ Q (.bl (decide (x = .non))) H
def rNotN : R2 := λ x y H Q => y = .non /\ Q (.bl (!decide (x = .non))) H
end RC
namespace RC
open PySem PySem.Spec PyProof.Rows L2
def ForW (J : It) (g : TG) (tb : TS) (D : Ends) (σ : L2.St) (H1 : Hp) : Prop := ∃ W : Nat -> Nat -> L2.St -> Hp -> Prop, (∃ m, W 0 m σ H1) /\ ∀ i m σ H, W i m σ H ->
 (J.stop i H /\ D.nx σ H) \/ (J.go i H /\ ∃ N : L2.St -> Hp -> Prop, (∀ σ' H', N σ' H' -> ∃ m', m' < m /\ W (i + 1) m' σ' H') /\ ∀ x H', J.yld i H x H' -> g x σ H' λ σ2 H2 => tb { D with nx := N, ct := N, bk := D.nx } σ2 H2)
def LcW (J : It) (g : TG) (tt : TT) (te : TE) (vs : List Nat) (σ : L2.St) (Q : VK) (H1 : Hp) : Prop := ∀ D, H1 D = none -> ∃ W : Nat -> Nat -> Hp -> Prop, (∃ m, W 0 m (upd H1 D (.lst []))) /\ ∀ i m H, W i m H ->
 (J.stop i H /\ Q (.ref D) H) \/ (J.go i H /\ ∃ Nx : Hp -> Prop, (∀ H', Nx H' -> ∃ m', m' < m /\ W (i + 1) m' H') /\ ∀ x H', J.yld i H x H' -> g x (wipe σ vs) H' λ σ2 H2 => wipe σ2 vs = wipe σ vs /\ tt σ2 H2 λ b H3 =>
   if b = true then te σ2 H3 λ y H4 => ∃ acc, H4 D = some (.lst acc) /\ acc.length < sizeLine /\ Nx (upd H4 D (.lst (acc ++ [y]))) else Nx H3)
section
variable {K : Fr} {σ : L2.St} {H : Hp} {Q : VK} {D : Ends} {tb : TS} {te tl : TE} {ta : TA} {tt : TT} {g : TG} {vs : List Nat} {wi : TI} {J : It} {R : It -> Hp -> Prop} {a : Addr} {xs : List V} {Rs : List Res}
theorem g_for (k : wi σ H λ J H1 => ForW J g tb D σ H1) : tFor wi g tb D σ H := k
theorem g_lc (k : wi σ H λ J H1 => LcW J g tt te vs σ Q H1) : tLc wi g tt te vs σ H Q := k
def ItL (K : Fr) (R : It -> Hp -> Prop) : VK := λ x H1 => ∃ a, x = .ref a /\ (∃ xs, SqL K H1 a xs) /\ R (Itl K a) H1
def ItR (R : It -> Hp -> Prop) : List V -> Hp -> Prop := λ vs H1 => ∃ j : Int, vs = [.int j] /\ -(2 ^ 62) <= j /\ j < 2 ^ 62 /\ R (Itr 0 j.toNat) H1
def ItV (K : Fr) (R : It -> Hp -> Prop) : List V -> Hp -> Prop := λ vs H1 => ∃ (a : Addr) (xs : List V), vs = [.ref a] /\ SqL K H1 a xs /\ R (Itv K a xs.length) H1
theorem g_iList (k : tl σ H (ItL K R)) : iList K tl σ H R := k
theorem v_itL (h : SqL K H a xs) (k : R (Itl K a) H) : ItL K R (.ref a) H := ⟨a, rfl, ⟨xs, h⟩, k⟩
theorem g_iRng1 (k : ta σ H (ItR R)) : iRng1 ta σ H R := k
theorem v_itR {j : Int} (h : -(2 ^ 62) <= j /\ j < 2 ^ 62) (k : R (Itr 0 j.toNat) H) : ItR R [V.int j] H := ⟨j, rfl, h.1, h.2, k⟩
theorem g_iRev (k : ta σ H (ItV K R)) : iRev K ta σ H R := k
theorem for_W {n : Nat} {G : Hp -> Prop} {Y : Nat -> Hp -> V -> Hp -> Prop} (w : Walk J n G Y) (Pv : Nat -> L2.St -> Hp -> Prop) (h0 : Pv 0 σ H) (hG : ∀ i σ H, i <= n -> Pv i σ H -> G H)
   (hs : ∀ i x σ H H', i < n -> Pv i σ H -> Y i H x H' -> g x σ H' λ σ2 H2 => tb { D with nx := Pv (i + 1), ct := Pv (i + 1), bk := D.nx } σ2 H2) (hd : ∀ σ H, Pv n σ H -> D.nx σ H) : ForW J g tb D σ H := for_it w Pv h0 hG hs hd
def PvM (P : Nat -> List V -> Prop) (E : Addr) (Rs : List Res) (i : Nat) (H : Hp) : Prop := ∃ acc, P i acc /\ M (pt E (.lst acc) :: Rs) H
def LcK (N : Hp -> Prop) (E : Addr) : VK := λ y H4 => ∃ acc, H4 E = some (.lst acc) /\ acc.length < sizeLine /\ N (upd H4 E (.lst (acc ++ [y])))
theorem lc_W {n : Nat} {G : Hp -> Prop} {Y : Nat -> Hp -> V -> Hp -> Prop} (w : Walk J n G Y) (S : M Rs H) (P : Nat -> List V -> Prop) (h0 : P 0 []) (hG : ∀ H, M Rs H -> G H)
   (hs : ∀ i x acc E H H', i < n -> P i acc -> M (pt E (.lst acc) :: Rs) H -> Y i H x H' -> g x (wipe σ vs) H' λ σ2 H2 => wipe σ2 vs = wipe σ vs /\ tt σ2 H2 λ b H3 => if b = true then te σ2 H3 (LcK (PvM P E Rs (i + 1)) E) else PvM P E Rs (i + 1) H3)
   (hd : ∀ E acc H, P n acc -> M (pt E (.lst acc) :: Rs) H -> Q (.ref E) H) : LcW J g tt te vs σ Q H := by
 intro E hE
 refine lc_it w (PvM P E Rs) ⟨[], h0, S.new hE⟩ (λ i H _ ⟨acc, _, S⟩ => hG H S.tl) (λ i x H H' hi ⟨acc, hp, S⟩ y => hs i x acc E H H' hi hp S y) λ H ⟨acc, hp, S⟩ => hd E acc H hp S
theorem lc_next {N : Hp -> Prop} {E : Addr} {y : V} {acc : List V} (S : M Rs H) (i : Nat) (e : Rs[i]? = some (pt E (.lst acc))) (hz : acc.length < 100000) (k : ∀ H', M (Rs.set i (pt E (.lst (acc ++ [y])))) H' -> N H') : LcK N E y H :=
 ⟨acc, S.got i e, Nat.lt_of_lt_of_le hz (by decide), k _ (S.putAt i e)⟩
theorem g_yes {Q : Bool -> Hp -> Prop} (k : Q true H) : tYes σ H Q := k
theorem g_name {i : Nat} {v : V} {Q : L2.St -> Hp -> Prop} (k : Q (σ.set i (some v)) H) : gName i v σ H Q := k
end
theorem ints_get {ns : List Int} {i : Nat} {x : V} (h : (ns.map V.int)[i]? = some x) : ∃ n, ns[i]? = some n /\ x = .int n := by
 rw [List.getElem?_map] at h
 cases e : ns[i]? with
 | none =>
   rw [e] at h
   cases h
 | some n =>
   rw [e] at h
   exact ⟨n, rfl, (Option.some.inj h).symm⟩
end RC
namespace RC
open PySem PySem.Spec PyProof.Rows L2
theorem cut_to (xs : List V) (k : Nat) : cutV xs none (some (k : Int)) = xs.take k := by
 unfold cutV
 rw [HT.sIx_none, HT.sIx_nat, List.drop_zero, Nat.sub_zero]
 rcases Nat.le_total k xs.length with h | h
 · rw [Nat.min_eq_left h]
 · rw [Nat.min_eq_right h, List.take_of_length_le (Nat.le_refl _), List.take_of_length_le h]
theorem g_wipe {a b : L2.St} {φ : Prop} (h : a = b) (k : φ) : a = b /\ φ := ⟨h, k⟩
end RC
namespace RC
open PySem PySem.Spec PyProof.Rows L2
def AllI (P : Int -> Prop) : List V -> Prop
 | [] => True
 | .int n :: r => P n /\ AllI P r
 | _ => False
theorem AllI.get {P : Int -> Prop} : ∀ {xs : List V}, AllI P xs -> ∀ {j : Nat}, j < xs.length -> ∃ n, P n /\ xs[j]? = some (.int n)
 | [], _, j, h => absurd h (Nat.not_lt_zero _)
 | .int n :: r, h, 0, _ => ⟨n, h.1, rfl⟩
 | .int n :: r, h, j + 1, hj => by
   obtain ⟨m, a, b⟩ := AllI.get h.2 (Nat.lt_of_succ_lt_succ hj)
   exact ⟨m, a, by simpa using b⟩
 | .non :: _, h, _, _ => h.elim
 | .bl _ :: _, h, _, _ => h.elim
 | .str _ :: _, h, _, _ => h.elim
 | .byt _ :: _, h, _, _ => h.elim
 | .flt _ :: _, h, _, _ => h.elim
 | .ref _ :: _, h, _, _ => h.elim
 | .ty _ :: _, h, _, _ => h.elim
end RC
namespace RC
theorem v_ifNT {A B : Prop} (k : B) : if (!true) = true then A else B := k
theorem v_ifNF {A B : Prop} (k : A) : if (!false) = true then A else B := k
end RC
namespace RC
open PySem PySem.Spec PyProof.Rows L2
def Sub (Rs' Rs : List Res) : Prop := ∀ F L, Sat F Rs L -> ∃ L1 L2, L.Perm (L1 ++ L2) /\ Sat F Rs' L1
theorem Sub.refl (Rs : List Res) : Sub Rs Rs := λ _ L h => ⟨L, [], by rw [List.append_nil], h⟩
theorem Sub.nil (Rs : List Res) : Sub [] Rs := λ _ L _ => ⟨[], L, .refl _, rfl⟩
theorem Sub.cons {Rs Rs' : List Res} {R : Res} (i : Nat) (e : Rs[i]? = some R) (h : Sub Rs' (Rs.eraseIdx i)) : Sub (R :: Rs') Rs := by
 intro F L s
 obtain ⟨L0, p0, l1, l2, rfl, a, b⟩ := s.perm (perm_at i e)
 obtain ⟨L1, L2, p1, c⟩ := h F l2 b
 refine ⟨l1 ++ L1, L2, p0.trans ?_, l1, L1, rfl, a, c⟩
 rw [List.append_assoc]
 exact p1.append_left l1
theorem Sub.tl {Rs Rs' : List Res} {R : Res} (h : Sub Rs' Rs) : Sub Rs' (R :: Rs) := by
 rintro F L ⟨l1, l2, rfl, a, b⟩
 obtain ⟨L1, L2, p1, c⟩ := h F l2 b
 refine ⟨L1, l1 ++ L2, (p1.append_left l1).trans ?_, c⟩
 rw [<- List.append_assoc, <- List.append_assoc]
 exact List.Perm.append_right _ List.perm_append_comm
theorem M.sub {Rs Rs' : List Res} {H : Hp} (q : Sub Rs' Rs) (h : M Rs H) : M Rs' H := by
 obtain ⟨F, L, a, m⟩ := h
 obtain ⟨L1, L2, p, b⟩ := q F L a
 have m2 := m.perm p
 refine ⟨F, L1, b, m2.ex, λ c hc => m2.own c (List.mem_append_left _ hc), ?_⟩
 have nd := m2.nd
 rw [List.map_append] at nd
 exact (List.nodup_append.mp nd).1
end RC
namespace RC
open PySem PySem.Spec PyProof.Rows L2
section
variable {X : Cx}
def rDIn : R2 := λ x y H Q => ∃ a o, y = .ref a /\ DGet H a x o /\ Q (.bl o.isSome) H
theorem op_din (hu : X.A.units + 1 < cLine) : OpR X (compareOp .In) rDIn := by
 intro pins s σ H x y v u Q I rx ry h
 obtain ⟨a, o, rfl, g, q⟩ := h
 cases (show u = Value.ref a from ry)
 exact d_in hu I g rx λ s' I' => ⟨.bl o.isSome, H, I', rfl, q⟩
def rInS : R2 := λ x y H Q => ∃ i j, x = .str i /\ y = .str j /\ Q (.bl (!(Builtin.Str.occurrences j i 0 j.length 1).isEmpty)) H
def uIn (K : Fr) : R2 := λ x y H Q => rIn K false x y H Q \/ rInD K x y H Q \/ rDIn x y H Q \/ rInS x y H Q
end
section
variable {K : Fr} {σ : L2.St} {H : Hp} {Q : VK} {D : Ends} {Rs : List Res} {E : XK}
theorem v_neg {i : Int} (k : Q (.int (-i)) H) : rU (λ i => .int (-i)) (.int i) H Q := ⟨i, rfl, k⟩
theorem v_isN {x : V} (k : Q (.bl (decide (x = .non))) H) : rIsN x .non H Q := ⟨rfl, k⟩
theorem v_notN {x : V} (k : Q (.bl (!decide (x = .non))) H) : rNotN x .non H Q := ⟨rfl, k⟩
theorem g_par {i j : Nat} {ta : TA} (k : ta σ H λ vs H1 => ∃ v w, vs = [v, w] /\ D.nx ((σ.set i (some v)).set j (some w)) H1) : tPar i j ta D σ H := k
theorem v_two {x y : V} {P : V -> V -> Prop} (k : P x y) : ∃ v w, [x, y] = [v, w] /\ P v w := ⟨x, y, rfl, k⟩
theorem g_callN {n m : Nat} {sp : Sp} {gV : List V -> List V -> List V} {t tk : TA} (k : t σ H λ vs H1 => tk σ H1 λ zs H2 => vs.length = n /\ zs.length = m /\ sp (gV vs zs) H2 Q E) : tCallN n m sp gV E t tk σ H Q := k
theorem v_lens {a b : List V} {n m : Nat} {P : Prop} (h1 : a.length = n) (h2 : b.length = m) (k : P) : a.length = n /\ b.length = m /\ P := ⟨h1, h2, k⟩
theorem g_gtup {n : Nat} {t : TGs} {a : Addr} {xs : List V} {Q : L2.St -> Hp -> Prop} (h : SqT K H a xs) (hn : xs.length = n) (k : t xs σ H Q) : gTup K n t (.ref a) σ H Q := ⟨a, xs, rfl, h, hn, k⟩
theorem g_gnil {Q : L2.St -> Hp -> Prop} (k : Q σ H) : gNil [] σ H Q := ⟨rfl, k⟩
theorem g_gcons {t : TG} {u : TGs} {v : V} {r : List V} {Q : L2.St -> Hp -> Prop} (k : t v σ H λ σ' H' => u r σ' H' Q) : gCons t u (v :: r) σ H Q := ⟨v, r, rfl, k⟩
end
end RC
namespace RC
open PySem PySem.Spec PyProof.Rows L2
theorem lc_X {H : Hp} {σ : L2.St} {Q : VK} {te : TE} {tt : TT} {g : TG} {vs : List Nat} {J : It} {n : Nat} {G : Hp -> Prop} {Y : Nat -> Hp -> V -> Hp -> Prop} (w : Walk J n G Y) (Pv : Addr -> Nat -> Hp -> Prop) (h0 : ∀ E, H E = none -> Pv E 0 (upd H E (.lst [])))
   (hG : ∀ E i H, i <= n -> Pv E i H -> G H)
   (hs : ∀ E i x H H', i < n -> Pv E i H -> Y i H x H' -> g x (wipe σ vs) H' λ σ2 H2 => wipe σ2 vs = wipe σ vs /\ tt σ2 H2 λ b H3 => if b = true then te σ2 H3 (LcK (Pv E (i + 1)) E) else Pv E (i + 1) H3)
   (hd : ∀ E H, Pv E n H -> Q (.ref E) H) : LcW J g tt te vs σ Q H := by
 intro E hE
 exact lc_it w (Pv E) (h0 E hE) (hG E) (hs E) (hd E)
end RC
namespace RC
open PySem PySem.Spec PyProof.Rows L2
section
variable {K : Fr} {σ : L2.St} {H : Hp} {Q : VK} {D : Ends} {Rs : List Res}
theorem v_pow {i j : Int} (h : 0 <= j /\ j <= 1000000 /\ i.natAbs < 2 ^ 64) (k : Q (.int (i ^ j.toNat)) H) : uPow (.int i) (.int j) H Q := ⟨i, j, rfl, rfl, h, k⟩
def WhW (c : TT) (tb : TS) (D : Ends) (σ : L2.St) (H : Hp) : Prop := ∃ W : Nat -> L2.St -> Hp -> Prop, (∃ m, W m σ H) /\ ∀ m σ H, W m σ H ->
 c σ H λ b H1 => if b = true then ∃ N : L2.St -> Hp -> Prop, (∀ σ' H', N σ' H' -> ∃ m', m' < m /\ W m' σ' H') /\ tb { D with nx := N, ct := N, bk := D.nx } σ H1 else D.nx σ H1
theorem g_while {c : TT} {tb : TS} (k : WhW c tb D σ H) : tWhile c tb D σ H := k
end
end RC

namespace RC
open PySem PySem.Spec PyProof.Rows L2
theorem pas0 {X : Cx} {σ : L2.St} {E : XK} : PassesAt CX0 X σ E := λ _ _ _ _ _ _ z => z.elim
section
variable {X : Cx} {g : Bool} {CX : CXT} {k n : Nat} {f C : Addr} {fd : FuncData} {ps ps' ks : List Str} {sp : Sp} {ds : List Value} {dvs : List V} {W : WX} {x m : Str} {p pos apos : Pos} {e o : Expr} {es : List Expr} {ta : TE} {t : TA}
theorem ended {pins : List (Addr × Obj)} {σ : L2.St} {H : Hp} {s : Shared} {Q : VK} {E : XK} {c : Code} (I : Inv X pins σ H s) (hx : PassesAt CX X σ E) (h : codeAny (model X.prog X.w) X.A c (CR CX X.stack X.prog X.w H s Q E) s) :
   codeAny (model X.prog X.w) X.A c (λ r s' => match r with | .ok (.ret u) => EP X pins σ Q u s' | .ok _ => False | .error u => X.xe u s') s := by
 refine codeAny_mono h λ res s' hq => ?_
 match res, hq with
 | .error u, hq => exact hx pins H s u s' I hq
 | .ok (.ret u), hq => exact I.after hq
 | .ok .next, hq => cases hq
 | .ok .brk, hq => cases hq
 | .ok .cont, hq => cases hq
theorem runW {pins : List (Addr × Obj)} {σ : L2.St} {H : Hp} {s : Shared} {Q : VK} {E : XK} {us : List Value} {vs : List V} (F : FnX g X.prog X.w X.K X.mg X.base CX k f fd ps sp) (hg : g = true -> X.A.guards = some []) (hr : Room k X.A)
   (hb : Binds X.K fd ps ds) (hd : Vals dvs ds) (hx : PassesAt CX X σ E) (I : Inv X pins σ H s) (r : Vals vs us) (h : sp (vs ++ dvs) H Q E) :
   wpAny (model X.prog X.w) X.A (call (.ref f) us) (EP X pins σ Q) X.xe s := by
 have rr : Vals (vs ++ dvs) (us ++ ds) := r.append hd
 have ll : (us ++ ds).length = ps.length := rr.length.symm.trans (F.lenG _ _ _ _ h)
 have go := ended I hx (F.runG X.A X.stack s H ⟨us, []⟩ _ (us ++ ds) (vs ++ dvs) Q E hg hr I.env0 (hb s us I.kIn ll) (.refl _) rr h)
 refine wpAny_call (codeAny_mono go λ res s' hq => ?_)
 match res, hq with
 | .error _, hq => exact hq
 | .ok (.ret _), hq => exact hq
def tCallW (W : WX) (sp : Sp) (dvs : List V) (t : TA) : TE := λ σ H Q => t σ H λ vs H1 => sp (vs ++ dvs) H1 Q (WE W σ)
def tMethW (W : WX) (C : Addr) (m : Str) (sp : Sp) (dvs : List V) (ta : TE) (t : TA) : TE := λ σ H Q => ta σ H λ x H1 => ∃ a dx fs, x = .ref a /\ H1 a = some (.ins C dx fs) /\ fs.lookup m = none /\ t σ H1 λ vs H2 => sp (x :: (vs ++ dvs)) H2 Q (WE W σ)
def tMakeW (W : WX) (C : Addr) (sp : Sp) (dvs : List V) (t : TA) : TE := λ σ H Q => t σ H λ vs H1 => ∀ x dx, H1 x = none -> H1 dx = none -> dx ≠ x ->
 sp (.ref x :: (vs ++ dvs)) (upd (upd H1 dx (.own x)) x (.ins C dx [])) (λ v H2 => v = .non /\ Q (.ref x) H2) (WE W σ)
end
end RC

namespace RC
open PySem PySem.Spec PyProof.Rows L2
structure XcB (K : Fr) (C : Addr) (B newId initId : String) (bmB : List Value) : Prop where
 fb : ExcBaseFacts B newId initId bmB
 sf : StoreFacts B bmB "object.__setattr__" "object"
 ini : PySem.W.excInitIn K C bmB newId = true
 ovr : PySem.W.excOver K C bmB = true
 hd : PySem.W.hasDictIn K C = true
 sa : PySem.W.findIn K (.ref C) "__setattr__" = some (some (.builtin "object.__setattr__"))
 exC : PySem.W.subIn K (.ref C) (.type "BaseException") = some true
 tyC : PySem.W.typeIn K (.ref C) = some (.type "type")
 kC : PySem.W.keepIn K (.ref C) = true
theorem upd_self {H : Hp} {a : Addr} {o : HO} (e : H a = some o) : upd H a o = H := by
 funext b
 by_cases hb : b = a
 · rw [hb, upd_same, e]
 · rw [upd_ne hb]
section
variable {X : Cx} {pins : List (Addr × Obj)} {σ : L2.St} {H : Hp} {s : Shared} {a C : Addr} {f : Str} {y : V} {u : Value} {A : Around} {E : Value -> Shared -> Prop} {B newId initId : String} {bmB : List Value}
theorem x_set {Q : Unit -> Shared -> Prop} (T : XcB X.K C B newId initId bmB) (I : Inv X pins σ H s) (e : H a = some (exo a C none)) (hno : PySem.W.findIn X.K (.ref C) f = some none) (ry : RelV y u)
   (h : ∀ dx s', H dx = none -> dx ≠ a -> Inv X pins σ (upd (upd H dx (exd dx [(f, y)])) a (exo a C (some dx))) s' -> Q () s') : wpAny (model X.prog X.w) A (setAttr (.ref a) f u) Q E s := by
 obtain ⟨t1, ho⟩ := exo_at I.hok e
 obtain ⟨hp, g, d, t, os⟩ := s
 have ho2 : hp.get? a = some (PySem.W.excObj C t1 none .none) := ho
 obtain ⟨cd, hc, hcd⟩ := PySem.W.any_some T.hd
 refine PySem.W.set_plain I.kIn (ox := PySem.W.excObj C t1 none .none) (od := none) ⟨ho2, rfl, rfl, trivial⟩ T.sa ?_
 refine PySem.W.osa_openX (od := none) T.sf I.kIn ⟨ho2, rfl, rfl, trivial⟩ T.ovr (NoAttr.taker hno) λ b => ?_
 refine wpAny_bind (wpAny_pure (wpAny_bind (PySem.W.instanceDict_exc ho2 (PySem.W.looks_clsIn I.kIn hc) hcd ?_)))
 have hxs : a ≠ hp.objs.size := Nat.ne_of_lt (Heap.lt_size ho)
 refine HandSPX.store_in_new ?_ ?_
 · exact ⟨_, #[], _, (Heap.get?_update_ne _ _ _ _ hxs.symm).trans (Heap.get?_push_at rfl rfl), rfl, λ e he => absurd he (by simp), λ _ => rfl⟩
 intro h' tk' hn hs
 have hx1 : (hp.push (PySem.W.dictOf [] 0)).get? a = some (PySem.W.excObj C t1 none .none) := Heap.get?_push_of_some _ ho2
 have kp : ∀ b o, b ≠ a -> hp.get? b = some o -> h'.get? b = some o := λ b o hb q =>
   (hs.2 b (Nat.ne_of_lt (Heap.lt_size q))).trans ((Heap.get?_update_ne _ _ _ _ hb).trans (Heap.get?_push_of_some _ q))
 have hx : h'.get? a = some ({ cls := .ref C, dict := some hp.objs.size, data := .fields #[.ref t1, .none, .none, .none, .bool false, .none] } : Obj) := (hs.2 a hxs).trans (Heap.get?_update_self _ hx1 rfl)
 have hnd : H hp.objs.size = none := I.hok.fresh (Nat.le_refl _)
 have nd : ∀ {b : Addr} {o : Obj}, hp.get? b = some o -> b ≠ hp.objs.size := λ q => Nat.ne_of_lt (Heap.lt_size q)
 have na : ∀ {b : Addr}, H b = none -> b ≠ a := λ n z => by
   rw [z, e] at n
   cases n
 have un : Un X.fs [] H (upd (upd H hp.objs.size (exd hp.objs.size [(f, y)])) a (exo a C (some hp.objs.size))) hp h' := by
   constructor
   · exact λ b o q n _ _ => kp b o (na n) q
   · exact λ b o q n _ _ => ⟨o.slots, kp b o (na n) q⟩
   · intro b o q n _
     rw [upd_ne (na n), upd_ne (nd q)]
     exact n
   · intro b o q _
     by_cases hb : b = a
     · subst hb
       exact ⟨_, hx⟩
     · exact ⟨o, kp b o hb q⟩
   · intro b xs q
     rw [upd_ne (at_ne e q exo_tup), upd_ne (ne_of_none q hnd)]
     exact q
   · intro b o v q
     rw [upd_ne (at_ne e q exo_frz), upd_ne (ne_of_none q hnd)]
     exact q
   · intro b ps q
     refine ⟨#[], ?_⟩
     rw [upd_ne (at_ne e q exo_tbl), upd_ne (ne_of_none q hnd), q]
     simp
 refine h hp.objs.size _ hnd hxs.symm (I.un (t' := tk') un λ b o q => ?_)
 by_cases hb : b = a
 · subst hb
   rw [upd_same] at q
   cases q
   exact exo_ok hx
 rw [upd_ne hb] at q
 by_cases hd : b = hp.objs.size
 · subst hd
   rw [upd_same] at q
   cases q
   exact exd_ok hn (relO_put (fs := []) ry λ g => True.intro)
 rw [upd_ne hd] at q
 refine (I.hok b o q).stay (λ c v hc z => kp c v ?_ z) (λ c hc => ?_) (λ c xs hc => ?_)
 · rcases hc with hc | hc
   · subst hc
     exact hb
   · exact at_ne e hc exo_own
 · rw [upd_ne (at_ne e hc exo_own), upd_ne (ne_of_none hc hnd)]
   exact hc
 · rw [upd_ne (at_ne e hc exo_tup), upd_ne (ne_of_none hc hnd)]
   exact hc
theorem x_init {us : List Value} {Q : Value -> Shared -> Prop} (T : XcB X.K C B newId initId bmB) (I : Inv X pins σ H s) (e : H a = some (exo a C none)) (hl : us.length <= sizeLine) (h : ∀ s', Inv X pins σ H s' -> Q .none s') :
   wpAny (model X.prog X.w) A (call (.builtin initId) (.ref a :: us)) Q E s := by
 obtain ⟨nm, N, qn, bs, bm, hdct, sn, sub, ab, col, dd, k0, k1, k2, k3, k5, hC, hT⟩ := PySem.W.excInit_of I.kIn T.ini
 obtain ⟨t1, ho⟩ := exo_at I.hok e
 obtain ⟨hp, g, d, t, os⟩ := s
 refine wpAny_call (HandSPX.init_base T.fb hT hC ho hl λ h' t2 k hx => ?_)
 have J := I.write (t' := t) (x := a) (e := a) (o := exo a C none) (by rw [e]; exact True.intro) (.inl rfl) k ⟨_, hx⟩ (exo_ok hx)
 rw [upd_self e] at J
 exact h _ J
end
structure XcI (K : Fr) (D : Addr) (initId : String) : Prop where
 ga : PySem.W.specialIn K (.ref D) "__getattribute__" = some (some (.builtin "type.__getattribute__"))
 ty : PySem.W.typeIn K (.ref D) = some (.type "type")
 rd : PySem.W.readsIn K D (.type "type") = true
 fi : PySem.W.findCls K (.ref D) (.type "type") "__init__" = some (.val (.builtin initId))
def tXi (K : Fr) (initId : String) (ta : TA) : TE := λ σ H Q => ta σ H λ vs H1 => ∃ (a C : Addr) (ws : List V) (B newId : String) (bmB : List Value), vs = .ref a :: ws /\ ws.length <= 1000 /\ XcB K C B newId initId bmB /\ H1 a = some (exo a C none) /\ Q .non H1
def tXs (K : Fr) (f : Str) (to te : TE) : TS := λ D σ H => te σ H λ y H1 => to σ H1 λ x H2 => ∃ (a C : Addr) (B newId initId : String) (bmB : List Value), x = .ref a /\ XcB K C B newId initId bmB /\ PySem.W.findIn K (.ref C) f = some none /\
 H2 a = some (exo a C none) /\ ∀ dx, H2 dx = none -> dx ≠ a -> D.nx σ (upd (upd H2 dx (exd dx [(f, y)])) a (exo a C (some dx)))
section
variable {X : Cx} {o e : Expr} {es : List Expr} {to te : TE} {ta : TA} {f P : Str} {p p' p1 p2 pos : Pos} {C D : Addr} {initId : String}
theorem pe_xi {pl : Sem Bool} (hg : Gl X P) (hm : X.mg P = some (.ref D)) (T : XcI X.K D initId) (ha : PA X (e :: es) ta)
   (hc : eval (.Call (.Attribute (.Name P p1) "__init__" p2) (e :: es) [] pos) X.env = (do
     let ov <- eval (.Name P p1) X.env
     standAt p2.atName
     let (f, first) <- holding [ov] (getMethod ov "__init__" pl)
     callWith pos f first (backTo pos (starEach (e :: es) X.env)) (backToKw pos (keywordEach [] X.env))) := by rfl)
   (hh : PySem.W.handedIn (.builtin initId) = true := by decide +kernel) (hdb : (P == ("__debug__" : Str)) = false := by decide)
   (he : starEach (e :: es) X.env = (false, eval e X.env) :: starEach es X.env := by rfl) (hpl : (backTo pos (starEach es X.env)).any (·.1) = false := by rfl) :
   PE X (.Call (.Attribute (.Name P p1) "__init__" p2) (e :: es) [] pos) (tXi X.K initId ta) := by
 constructor
 intro pins s σ H Q I h
 refine PySem.W.methodCall_KW (ld_glob I hg hm ?_ hdb) hc
 obtain ⟨m, fr⟩ := I.fr
 refine PySem.W.method_of_cls fr I.ok.mod.kin T.ga (PySem.W.cls_val fr I.ok.mod.kin T.ty T.rd T.fi hh ?_)
 show wpAny _ _ (callWith pos (Value.builtin initId) [] (backTo pos (starEach (e :: es) X.env)) []) _ _ _
 refine PyProof.Rows.callWith_method1 (thn (ha.run pos pins _ σ H _ (I.tok _) h) ?_) he hpl
 rintro us s1 ⟨vs, H1, I1, r1, a, C, ws, B, newId, bmB, rfl, hl, T, ea, q⟩
 cases r1 with
 | @cons _ u0 _ ur ra rw' =>
   cases (show u0 = Value.ref a from ra)
   have hlen : ur.length <= sizeLine := by
     rw [<- Paired.length rw', sizeLine_eq]
     omega
   exact x_init T I1 ea hlen λ s' J => ⟨.non, H1, J, rfl, q⟩
theorem ps_xs (ho : PE X o to) (he : PE X e te) (hs : swapsWith e (some (.Attribute o f p')) pos.line X.env = pure false := by rfl) : PS X (.Assign [.Attribute o f p'] e pos) (tXs X.K f to te) := by
 constructor
 intro pins s σ H D I h
 refine plainObj_wpAny_Assign_Attribute (thn (he.run pins s σ H _ I h) ?_) hs
 rintro v s1 ⟨y, H1, I1, r1, q1⟩
 refine thn (ho.run pins s1 σ H1 _ I1 q1) ?_
 rintro u s2 ⟨x, H2, I2, r2, a, C, B, newId, initId, bmB, rfl, T, hno, ea, q⟩
 cases (show u = Value.ref a from r2)
 exact x_set T I2 ea hno r1 λ dx s' n ne J => ⟨σ, _, J, q dx n ne⟩
end
end RC

namespace RC
open PySem PySem.Spec PyProof.Rows L2
def spX (C : Addr) (f : Str) : Sp := λ vs H Q _ => ∃ (a : Addr) (v : V), vs = [.ref a, v] /\ H a = some (exo a C none) /\ ∀ dx, H dx = none -> dx ≠ a -> Q .non (upd (upd H dx (exd dx [(f, v)])) a (exo a C (some dx)))
theorem lenX {C : Addr} {f : Str} (vs : List V) (H : Hp) (Q : VK) (E : XK) (h : spX C f vs H Q E) : vs.length = 2 := by
 obtain ⟨a, v, rfl, _⟩ := h
 rfl
theorem PE.wk {X : Cx} {e : Expr} {te : TE} (h : PE X e te) : PE X e (λ σ H Q => ∃ R : VK, te σ H R /\ ∀ v H1, R v H1 -> Q v H1) :=
 ⟨λ pins s σ H _ I ⟨R, h1, h2⟩ => thn (h.run pins s σ H R I h1) λ _ _ ⟨v, H1, I1, r, q⟩ => ⟨v, H1, I1, r, h2 v H1 q⟩⟩
def tRz (W : WX) (C : Addr) (f : Str) (te : TE) : TS := λ _ σ H => te σ H λ v H1 => ∀ d, H1 d = none -> W (.ref C) (some d) σ (upd H1 d (.xd [(f, v)]))
theorem pureX {K : Fr} {C : Addr} {f msg : Str} {B newId initId : String} {bmB : List Value} {N : List Str} (hN : start N [] = [none, none]) (T : XcB K C B newId initId bmB) (hno : PySem.W.findIn K (.ref C) f = some none) (vs : List V) (H : Hp) (Q : VK) (E : XK) (h : spX C f vs H Q E) :
   tSeq (tDrop (tXi K initId (tCons (tVar 0) (tCons (tC (.str msg)) tNil)))) (tXs K f (tVar 0) (tVar 1)) { nx := λ _ H' => Q .non H', rt := Q } (start N vs) H := by
 obtain ⟨a, v, rfl, ha, q⟩ := h
 have e : start N [V.ref a, v] = [some (V.ref a), some v] := by
   have l : N.length = 2 := by
     have := congrArg List.length hN
     simpa [L2.start] using this
   simp [L2.start, l]
 rw [e]
 exact ⟨_, rfl, a, C, [.str msg], B, newId, bmB, rfl, by simp, T, ha, v, rfl, _, rfl, a, C, B, newId, initId, bmB, rfl, T, hno, ha, q⟩

def TestOk (X : Cx) (t : Expr) (cs : List Value) : Prop := ∀ (a : Addr) (oe : Obj) (pn pins : List (Addr × Obj)) (σ : L2.St) (H : Hp) (s : Shared) (cls : Value) (b : Bool) (Q : Bool -> Shared -> Prop) (E : Value -> Shared -> Prop),
 Inv (X.suite a ((a, oe) :: pn)) pins σ H s -> PySem.W.Looks (model X.prog X.w) s.heap (typeOf (.ref a)) cls -> PySem.W.exmAny X.K cls cs = some b ->
   (∀ h', (∀ q o, s.heap.get? q = some o -> h'.get? q = some o) -> Q b { s with heap := h' }) ->
     wpAny (model X.prog X.w) (X.A.mark (some (.ref a))) (eval t X.env) (λ c s1 => wpAny (model X.prog X.w) (X.A.mark (some (.ref a))) (excMatches (.ref a) c) Q E s1) E s
section
variable {X : Cx} {x1 x2 x3 : Str} {c1 c2 c3 : Value} {p1 p2 p3 tp : Pos} {kk : Nat}
end
structure Hd where
 cs : List Value
 sl : Option Nat
 ts : Addr -> Value -> Option Addr -> TS
def Hd.put (σ : L2.St) (a : Addr) : Option Nat -> L2.St
 | none => σ
 | some i => σ.set i (some (.ref a))
def Hd.ends (D : Ends) : Option Nat -> Ends
 | none => D
 | some i => { nx := λ σ' H' => D.nx (σ'.set i none) H', rt := D.rt, bk := λ σ' H' => D.bk (σ'.set i none) H', ct := λ σ' H' => D.ct (σ'.set i none) H' }
def wTry (K : Fr) (W : WX) (D : Ends) : List Hd -> WX
 | [] => W
 | h :: r => λ cls d σ H => ∃ b, PySem.W.exmAny K cls h.cs = some b /\ (b = true -> ∀ a, H a = none -> h.ts a cls d (Hd.ends D h.sl) (Hd.put σ a h.sl) H) /\ (b = false -> wTry K W D r cls d σ H)
inductive HdOk (X : Cx) : List ExceptHandler -> List Hd -> Prop
 | nil : HdOk X [] []
 | plain {t : Expr} {cs : List Value} {ts : Addr -> Value -> Option Addr -> TS} {b₀ : Stmt} {suite : List Stmt} {pos : Pos} {hds : List ExceptHandler} {l : List Hd} (ht : TestOk X t cs)
     (hsu : ∀ (a : Addr) (oe : Obj) (cls : Value) (d : Option Addr) (pn : List (Addr × Obj)), Zc cls d oe -> (∃ vs, oe.data = .fields vs) -> PSs (X.suite a ((a, oe) :: pn)) (b₀ :: suite) (ts a cls d)) (r : HdOk X hds l) :
     HdOk X (.ExceptHandler (some t) none (b₀ :: suite) pos :: hds) (⟨cs, none, ts⟩ :: l)
 | named {t : Expr} {cs : List Value} {n : Str} {i : Nat} {ts : Addr -> Value -> Option Addr -> TS} {b₀ : Stmt} {suite : List Stmt} {pos : Pos} {hds : List ExceptHandler} {l : List Hd} (ht : TestOk X t cs) (hi : X.N[i]? = some n) (hln : X.env.kindOf n = some .local)
     (hsu : ∀ (a : Addr) (oe : Obj) (cls : Value) (d : Option Addr) (pn : List (Addr × Obj)), Zc cls d oe -> (∃ vs, oe.data = .fields vs) -> PSs (X.suite a ((a, oe) :: pn)) (b₀ :: suite) (ts a cls d)) (r : HdOk X hds l) :
     HdOk X (.ExceptHandler (some t) (some n) (b₀ :: suite) pos :: hds) (⟨cs, some i, ts⟩ :: l)
section
variable {X : Cx} {body : List Stmt} {h₀ : ExceptHandler} {hds : List ExceptHandler} {l : List Hd} {pos : Pos} {tb : WX -> TS} {W : WX}
end
end RC

namespace RC
open PySem PySem.Spec PyProof.Rows L2
def tXg (K : Fr) (a : Addr) (cls : Value) (d : Option Addr) (n : Str) (te : TE) : TE := λ σ H Q => te σ H λ x H1 => x = .ref a /\ ∃ D dd fs v, cls = .ref D /\ ExcC K D /\ PySem.W.findIn K (.ref D) n = some none /\ d = some dd /\ H1 dd = some (.xd fs) /\ fs.lookup n = some v /\ Q v H1
section
variable {X : Cx} {a D : Addr} {oe : Obj} {cls : Value} {d : Option Addr}
theorem kit_exc {K : Fr} {od : Option Obj} (C : ExcC K D) : PySem.W.KitX K (.ref a) (.ref D) (λ h => PySem.W.InstAt h a oe D od) :=
 PySem.W.kitx_exc (by obtain ⟨cd, hc, _⟩ := PySem.W.any_some C.hd; rw [hc]; rfl) C.hg C.hk C.hs C.ha C.hn C.ht C.hm
end
structure FnE (P : Program) (w : World) (K : Fr) (mg : Str -> Option Value) (base : Heap) (k : Nat) (f : Addr) (fd : FuncData) (x : Str) (sp : Addr -> Value -> Option Addr -> Hp -> VK -> Prop) : Prop where
 run : ∀ (A : Around) (outer : List Env) (s : Shared) (H : Hp) (args : Args) (Q : VK) (a : Addr) (oe : Obj) (cls : Value) (d : Option Addr), L2H.RoomH k A -> Zc cls d oe -> (∃ vs, oe.data = .fields vs) -> L2H.PinOk outer H s (a, oe) -> Env0 P w K mg base A outer s H ->
   BindsTo s fd args [(x, .ref a)] -> sp a cls d H Q -> codeAny (model P w) A (.call (.ref f) args) (CR CX0 outer P w H s Q E0) s
def tCallE (a : Addr) (cls : Value) (d : Option Addr) (sp : Addr -> Value -> Option Addr -> Hp -> VK -> Prop) (te : TE) : TE := λ σ H Q => te σ H λ x H1 => x = .ref a /\ sp a cls d H1 Q
def obsF (fa : List (Fr -> Bool)) (fn : List He.DefD) (K : Fr) : He.AlD := ((fa.all λ f => f K) && fn.all λ d => d.ok K, fn.map λ d => He.fnW K d.at_)
def SaysF (fa : List (Fr -> Bool)) (fn : List He.DefD) (K : Fr) : Prop := obsF fa fn K = He.valD fn
section
variable {fa : List (Fr -> Bool)} {fn : List He.DefD} {K : Fr}
theorem SaysF.fact (c : SaysF fa fn K) (i : Nat) {f : Fr -> Bool} (h : fa[i]? = some f := by rfl) : f K = true := by
 have c1 : ((fa.all λ f => f K) && fn.all λ d => d.ok K) = true := congrArg (λ z : He.AlD => z.1) c
 exact List.all_eq_true.mp (Bool.and_eq_true_iff.mp c1).1 f (List.mem_of_getElem? h)
theorem SaysF.def_ (c : SaysF fa fn K) (i : Nat) {d : He.DefD} (h : fn[i]? = some d := by rfl) : ∃ fd, FunD K d.name d.qual d.params d.body d.scope (d.dvs K) (d.kws K) (He.fAd K d.at_) fd := by
 have c1 : ((fa.all λ f => f K) && fn.all λ d => d.ok K) = true := congrArg (λ z : He.AlD => z.1) c
 have e : fn.map (λ d => He.fnW K d.at_) = fn.map He.DefD.val := congrArg (λ z : He.AlD => z.2) c
 have e2 : (fn.map λ d => He.fnW K d.at_)[i]? = (fn.map He.DefD.val)[i]? := by rw [e]
 rw [List.getElem?_map, List.getElem?_map, h] at e2
 exact He.DefD.funD (Option.some.inj e2) (List.all_eq_true.mp (Bool.and_eq_true_iff.mp c1).2 d (List.mem_of_getElem? h))
end
end RC

theorem L2H.RoomH.units {k : Nat} {A : PySem.Around} (r : L2H.RoomH k A) : A.units + 64 < PySem.cLine := by
 have := r.un
 omega
theorem L2H.RoomH.u65 {k : Nat} {A : PySem.Around} (r : L2H.RoomH k A) : A.units + 65 < PySem.cLine := by
 have := r.un
 omega
theorem L2H.RoomH.u1 {k : Nat} {A : PySem.Around} (r : L2H.RoomH k A) : A.units + 1 < PySem.cLine := by
 have := r.un
 omega
theorem L2.Room.u65 {k : Nat} {A : PySem.Around} (r : L2.Room k A) : A.units + 65 < PySem.cLine := by
 have := r.un
 omega
theorem L2.Room.u1 {k : Nat} {A : PySem.Around} (r : L2.Room k A) : A.units + 1 < PySem.cLine := by
 have := r.un
 omega
namespace RC
open PySem PySem.Spec PyProof.Rows L2
section
variable {X : Cx}
theorem uo_inU (hu : X.A.units + 65 < cLine) : OpR X (compareOp .In) (uIn X.K) := op_in_seq.or ((op_inD hu).or ((op_din (by omega)).or op_in_str))
def rIxK : R2 := λ x y H Q => ∃ a v, x = .ref a /\ DGet H a y (some v) /\ Q v H
theorem ix_dk (hu : X.A.units + 1 < cLine) : IxR X rIxK := by
 intro value slice pins s σ H x y v u Q I rx ry h hs
 obtain ⟨a, r, rfl, hd, q⟩ := h
 cases (show v = Value.ref a from rx)
 exact tail_any (dict_typeIs I hd) PySem.F.slot_dict_getitem.lookup (d_getItem hu I hd ry λ w' s3 I3 rw' => ⟨r, H, I3, rw', q⟩) hs
end
def clsB : Stmt -> List Stmt
 | .ClassDef _ _ _ body _ _ _ _ _ _ _ => body
 | _ => []
abbrev mA (K : Fr) (c m : Str) : Addr := He.ma K (He.ga K c) m
def chB (K : Fr) (x : Str) (bmB : List Value) (newId : String) : Bool := PySem.W.excInitIn K (He.ga K x) bmB newId && (PySem.W.excOver K (He.ga K x) bmB && (PySem.W.hasDictIn K (He.ga K x) && (He.eqO (PySem.W.findIn K (.ref (He.ga K x)) "__setattr__") (some (some (.builtin "object.__setattr__"))) &&
 (decide (PySem.W.subIn K (.ref (He.ga K x)) (.type "BaseException") = some true) && (decide (PySem.W.typeIn K (.ref (He.ga K x)) = some (.type "type")) && PySem.W.keepIn K (.ref (He.ga K x)))))))
theorem chB_ok {K : Fr} {x : Str} {B newId initId : String} {bmB : List Value} (fb : ExcBaseFacts B newId initId bmB) (sf : StoreFacts B bmB "object.__setattr__" "object") (h : chB K x bmB newId = true) : XcB K (He.ga K x) B newId initId bmB := by
 obtain ⟨h1, h⟩ := He.ba h
 obtain ⟨h2, h⟩ := He.ba h
 obtain ⟨h3, h⟩ := He.ba h
 obtain ⟨h4, h⟩ := He.ba h
 obtain ⟨h5, h⟩ := He.ba h
 obtain ⟨h6, h7⟩ := He.ba h
 exact ⟨fb, sf, h1, h2, h3, He.eqO_ok h4, of_decide_eq_true h5, of_decide_eq_true h6, h7⟩
abbrev tlB (B : String) : List Value := [.type B, .type "Exception", .type "BaseException", .type "object"]
theorem chB_VE {K : Fr} {x : Str} (h : chB K x (tlB "ValueError") "ValueError.__new__" = true) : XcB K (He.ga K x) "ValueError" "ValueError.__new__" "ValueError.__init__" (tlB "ValueError") := chB_ok PySem.F.excBase_ValueError PySem.F.store_ValueError h
theorem chB_LE {K : Fr} {x : Str} (h : chB K x (tlB "LookupError") "LookupError.__new__" = true) : XcB K (He.ga K x) "LookupError" "LookupError.__new__" "LookupError.__init__" (tlB "LookupError") := chB_ok PySem.F.excBase_LookupError PySem.F.store_LookupError h
theorem chB_RE {K : Fr} {x : Str} (h : chB K x (tlB "RuntimeError") "RuntimeError.__new__" = true) : XcB K (He.ga K x) "RuntimeError" "RuntimeError.__new__" "RuntimeError.__init__" (tlB "RuntimeError") := chB_ok PySem.F.excBase_RuntimeError PySem.F.store_RuntimeError h
def chI (K : Fr) (x : Str) (initId : String) : Bool := He.eqO (PySem.W.specialIn K (.ref (He.ga K x)) "__getattribute__") (some (some (.builtin "type.__getattribute__"))) && (decide (PySem.W.typeIn K (.ref (He.ga K x)) = some (.type "type")) && (PySem.W.readsIn K (He.ga K x) (.type "type") &&
 (match PySem.W.findCls K (.ref (He.ga K x)) (.type "type") "__init__" with
   | some (.val (.builtin n)) => decide (n = initId)
   | _ => false)))
theorem chI_ok {K : Fr} {x : Str} {initId : String} (h : chI K x initId = true) : XcI K (He.ga K x) initId := by
 obtain ⟨h1, h⟩ := He.ba h
 obtain ⟨h2, h⟩ := He.ba h
 obtain ⟨h3, h4⟩ := He.ba h
 refine ⟨He.eqO_ok h1, of_decide_eq_true h2, h3, ?_⟩
 split at h4
 · rename_i n e
   rw [e, of_decide_eq_true h4]
 · cases h4
def chC (K : Fr) (x : Str) : Bool := He.eqO (PySem.W.findIn K (.ref (He.ga K x)) "__getattribute__") (some (some (.builtin "BaseException.__getattribute__"))) && (He.eqO (PySem.W.findIn K (.ref (He.ga K x)) "__getattr__") (some none) &&
 (decide (PySem.W.subIn K (.ref (He.ga K x)) (.type "BaseException") = some true) && (PySem.W.hasDictIn K (He.ga K x) && (He.eqO (PySem.W.findIn K (.ref (He.ga K x)) "__class__") (some (some (.builtin "object.__class__"))) &&
 (He.eqO (PySem.W.specialIn K (.builtin "object.__class__") "__get__") (some (some (.builtin "getset_descriptor.__get__"))) && (decide (PySem.W.takesIn K (.builtin "object.__class__") = some true) && decide (PySem.W.mroIn K (He.ga K x) (.type "object") = some true)))))))
theorem chC_ok {K : Fr} {x : Str} (h : chC K x = true) : ExcC K (He.ga K x) := by
 obtain ⟨h1, h⟩ := He.ba h
 obtain ⟨h2, h⟩ := He.ba h
 obtain ⟨h3, h⟩ := He.ba h
 obtain ⟨h4, h⟩ := He.ba h
 obtain ⟨h5, h⟩ := He.ba h
 obtain ⟨h6, h⟩ := He.ba h
 obtain ⟨h7, h8⟩ := He.ba h
 exact ⟨He.eqO_ok h1, He.eqO_ok h2, of_decide_eq_true h3, h4, He.eqO_ok h5, He.eqO_ok h6, of_decide_eq_true h7, of_decide_eq_true h8⟩
def chN (K : Fr) (x f : Str) : Bool := He.eqO (PySem.W.findIn K (.ref (He.ga K x)) f) (some none)
theorem chN_ok {K : Fr} {x f : Str} (h : chN K x f = true) : PySem.W.findIn K (.ref (He.ga K x)) f = some none := He.eqO_ok h
def chF (K : Fr) (x : Str) : Bool := He.eqO (PySem.W.findIn K (.ref (He.ga K x)) "__init__") (some (some (.ref (mA K x "__init__")))) && decide (PySem.W.typeIn K (.ref (mA K x "__init__")) = some (.type "function"))
theorem chF_ok {K : Fr} {x : Str} (h : chF K x = true) : PySem.W.findIn K (.ref (He.ga K x)) "__init__" = some (some (.ref (mA K x "__init__"))) /\ PySem.W.typeIn K (.ref (mA K x "__init__")) = some (.type "function") := ⟨He.eqO_ok (He.ba h).1, of_decide_eq_true (He.ba h).2⟩
def chK (K : Fr) (x y : Str) (b : Bool) : Bool := decide (PySem.W.kitOne K (.ref (He.ga K x)) (.ref (He.ga K y)) = some b)
theorem chK_ok {K : Fr} {x y : Str} {b : Bool} (h : chK K x y b = true) : PySem.W.kitOne K (.ref (He.ga K x)) (.ref (He.ga K y)) = some b := of_decide_eq_true h
def chT (K : Fr) (x : Str) (y : String) (b : Bool) : Bool := decide (PySem.W.kitOne K (.ref (He.ga K x)) (.type y) = some b)
theorem chT_ok {K : Fr} {x : Str} {y : String} {b : Bool} (h : chT K x y b = true) : PySem.W.kitOne K (.ref (He.ga K x)) (.type y) = some b := of_decide_eq_true h
def tTry (K : Fr) (W : WX) (tb : WX -> TS) (l : List Hd) : TS := λ D σ H => tb (wTry K W D l) D σ H
end RC

namespace RC
open PySem PySem.Spec PyProof.Rows L2
def seenB (m a : Nat) : Bool := Nat.beq (Nat.land (Nat.shiftRight m a) 1) 1
def addNew {β : Type} : List Addr -> Nat -> List Addr -> (Nat -> List Addr -> β) -> β
 | [], m, acc, k => k m acc
 | a :: as, m, acc, k => match seenB m a with
   | true => addNew as m acc k
   | false => HandSHeadRun.frNat (Nat.lor m (Nat.shiftLeft 1 a)) λ m => addNew as m (a :: acc) k
def growB {β : Type} (g : Addr -> Option Obj) : List Addr -> Nat -> List Addr -> (Nat -> List Addr -> β) -> β
 | [], m, acc, k => k m acc
 | a :: as, m, acc, k => match g a with
   | some o => addNew (He.refsD o) m acc λ m acc => growB g as m acc k
   | none => growB g as m acc k
def levB (g : Addr -> Option Obj) : Nat -> List Addr -> Nat -> List Addr -> List Addr
 | 0, fr, _, all => all ++ fr
 | n + 1, fr, m, all => growB g fr m [] λ m f2 => levB g n f2 m (all ++ fr)
def startsB (g : Addr -> Option Obj) (n : Nat) : List Addr := levB g n [mainGlobals, cStatics] 0 []
def obsB (n : Nat) (fa : List (Fr -> Bool)) (fn : List He.DefD) (g : Addr -> Option Obj) : He.AlD := obsF fa fn (He.frG g (startsB g n))
def hookB (n : Nat) (fa : List (Fr -> Bool)) (fn : List He.DefD) : PySem.W.Hook where
 α := He.AlD
 obs := λ s => obsB n fa fn s.heap.get?
 val := λ _ => He.valD fn
 says := λ _ h => ∃ K : Fr, K.In h /\ SaysF fa fn K
 of := λ _ _ e => ⟨_, He.frG_in, e⟩
 keeps := λ _ _ _ ⟨K, hK, c⟩ k => ⟨K, PySem.W.Frag.In.keeps hK k, c⟩
theorem obsB_eq {n : Nat} {fa : List (Fr -> Bool)} {fn : List He.DefD} {g : Addr -> Option Obj} {s : Shared} (h : ∀ a, g a = s.heap.get? a) : obsB n fa fn g = (hookB n fa fn).obs s := by
 have e : g = s.heap.get? := funext h
 rw [e] <;> rfl
theorem mp3 {α β γ δ : Type} {x : Option α} {f : α -> β} {g : α -> γ} {h : α -> δ} {a : β} {b : γ} {c : δ} (h1 : x.map (λ s => (f s, g s)) = some (a, b)) (h2 : x.map h = some c) : x.map (λ s => (f s, g s, h s)) = some (a, b, c) := by
 cases x with
 | none => cases h1
 | some s =>
   cases h1
   cases h2
   rfl
theorem obsF_app {fa fa' : List (Fr -> Bool)} {fn fn' : List He.DefD} {K : Fr} (h1 : obsF fa fn K = He.valD fn) (h2 : obsF fa' fn' K = He.valD fn') : obsF (fa ++ fa') (fn ++ fn') K = He.valD (fn ++ fn') := by
 have a1 : ((fa.all λ f => f K) && fn.all λ d => d.ok K) = true := congrArg (λ z : He.AlD => z.1) h1
 have a2 : ((fa'.all λ f => f K) && fn'.all λ d => d.ok K) = true := congrArg (λ z : He.AlD => z.1) h2
 have b1 : fn.map (λ d => He.fnW K d.at_) = fn.map He.DefD.val := congrArg (λ z : He.AlD => z.2) h1
 have b2 : fn'.map (λ d => He.fnW K d.at_) = fn'.map He.DefD.val := congrArg (λ z : He.AlD => z.2) h2
 rw [Bool.and_eq_true] at a1 a2
 unfold obsF He.valD
 rw [List.all_append, List.all_append, a1.1, a1.2, a2.1, a2.2, List.map_append, List.map_append, b1, b2]
 rfl
theorem mpA {α : Type} {x : Option α} {n : Nat} {fa fa' : List (Fr -> Bool)} {fn fn' : List He.DefD} {g : α -> Addr -> Option Obj} (h1 : x.map (λ s => obsB n fa fn (g s)) = some (He.valD fn)) (h2 : x.map (λ s => obsB n fa' fn' (g s)) = some (He.valD fn')) :
   x.map (λ s => obsB n (fa ++ fa') (fn ++ fn') (g s)) = some (He.valD (fn ++ fn')) := by
 cases x with
 | none => cases h1
 | some s => exact congrArg some (obsF_app (Option.some.inj h1) (Option.some.inj h2))
section
open PySem.W PySem.Calls HandSHeadRun
theorem runEq {r : OpenRow} {q : Program} {H : Hook} {ob : SharedT -> H.α} {M : Nat} {loose : List PySem.Str} {w : World}
   (h1 : ∀ os, (endF (stepQ (denQ tabQ) r.prog w) M r.prog w os).map (λ s => (looksF r.prog (boot_heap w.params) s.abs, seenQ q loose (importedModules r.prog.main.body) (λ s => xlAt q [] s && recOk r.toRowW.records s) s.abs)) = some (true, openGood q loose))
   (h3 : ∀ os, (endF (stepQ (denQ tabQ) r.prog w) M r.prog w os).map (λ s => ob s) = some (H.val w)) : RunEq r q H ob M loose w := λ os => mp3 (h1 os) (h3 os)
end
end RC


namespace RC
open PySem PySem.Spec PyProof.Rows L2
def chDK (K : Fr) (d : Str) (l : List (Str × Bool)) : Bool := l.all λ p => chK K p.1 d p.2
def chDT (K : Fr) (d : String) (l : List (Str × Bool)) : Bool := l.all λ p => chT K p.1 d p.2
open PyProof.Rows.KTD (tabLook)
end RC
namespace RC
open PySem PySem.Spec PyProof.Rows L2
def top (i : Nat) : Stmt := PySem.Challenge.pw_restorechain_k17_refusals_apart.main.body.getD i (.Pass ⟨0, 0, 0, 0⟩)
def meth (i j : Nat) : Stmt := (clsB (top i)).getD j (.Pass ⟨0, 0, 0, 0⟩)
abbrev s_l_bag : Stmt := top 25
abbrev s_l_take : Stmt := top 26
abbrev s_l_copy : Stmt := top 28
abbrev s_l_odd : Stmt := top 29
abbrev s_l_made_else : Stmt := top 31
abbrev s_l_made : Stmt := top 30
abbrev s_l_classes : Stmt := top 32
abbrev s_l_kinds : Stmt := top 33
abbrev s_l_alike : Stmt := top 27
abbrev s_l_kept_thing : Stmt := top 34
abbrev s_l_right : Stmt := top 35
abbrev s_law : Stmt := top 36
abbrev s_Wrong___init__ : Stmt := meth 4 0
abbrev s_There___init__ : Stmt := meth 5 0
abbrev s_TooMany___init__ : Stmt := meth 6 0
abbrev s_NoBase___init__ : Stmt := meth 7 0
abbrev s_NoFit___init__ : Stmt := meth 8 0
abbrev s_Unlike___init__ : Stmt := meth 9 0
abbrev s_NoLog___init__ : Stmt := meth 12 0
abbrev s_NoFile___init__ : Stmt := meth 14 0
abbrev s_NoPiece___init__ : Stmt := meth 15 0
abbrev s_NoMoment___init__ : Stmt := meth 16 0
abbrev s_NoHolder___init__ : Stmt := meth 18 0
abbrev s_Busy___init__ : Stmt := meth 19 0
abbrev s_NoRoom___init__ : Stmt := meth 20 0
abbrev s_Held___init__ : Stmt := meth 21 0
abbrev s_Broken___init__ : Stmt := meth 22 0
abbrev s_Undone___init__ : Stmt := meth 23 0
abbrev s_OtherCut___init__ : Stmt := meth 10 0
abbrev s_NoText___init__ : Stmt := meth 11 0
abbrev s_NoRow___init__ : Stmt := meth 13 0
abbrev s_NoRun___init__ : Stmt := meth 17 0
def d_l_bag : He.DefD := ⟨("_law_bag", none), "_law_bag", "_law_bag", defArgs s_l_bag, defBody s_l_bag, defScope s_l_bag, [], []⟩
def d_l_take : He.DefD := ⟨("_law_take", none), "_law_take", "_law_take", defArgs s_l_take, defBody s_l_take, defScope s_l_take, [], []⟩
def d_l_copy : He.DefD := ⟨("_law_copy", none), "_law_copy", "_law_copy", defArgs s_l_copy, defBody s_l_copy, defScope s_l_copy, [], []⟩
def d_l_odd : He.DefD := ⟨("_law_odd", none), "_law_odd", "_law_odd", defArgs s_l_odd, defBody s_l_odd, defScope s_l_odd, [], []⟩
def d_l_made_else : He.DefD := ⟨("_law_made_else", none), "_law_made_else", "_law_made_else", defArgs s_l_made_else, defBody s_l_made_else, defScope s_l_made_else, [], []⟩
def d_l_made : He.DefD := ⟨("_law_made", none), "_law_made", "_law_made", defArgs s_l_made, defBody s_l_made, defScope s_l_made, [], []⟩
def d_l_classes : He.DefD := ⟨("_law_classes", none), "_law_classes", "_law_classes", defArgs s_l_classes, defBody s_l_classes, defScope s_l_classes, [], []⟩
def d_l_kinds : He.DefD := ⟨("_law_kinds", none), "_law_kinds", "_law_kinds", defArgs s_l_kinds, defBody s_l_kinds, defScope s_l_kinds, [], []⟩
def d_l_alike : He.DefD := ⟨("_law_alike", none), "_law_alike", "_law_alike", defArgs s_l_alike, defBody s_l_alike, defScope s_l_alike, [], []⟩
def d_l_kept_thing : He.DefD := ⟨("_law_kept_thing", none), "_law_kept_thing", "_law_kept_thing", defArgs s_l_kept_thing, defBody s_l_kept_thing, defScope s_l_kept_thing, [], []⟩
def d_l_right : He.DefD := ⟨("_law_right", none), "_law_right", "_law_right", defArgs s_l_right, defBody s_l_right, defScope s_l_right, [], []⟩
def d_law : He.DefD := ⟨("law", none), "law", "law", defArgs s_law, defBody s_law, defScope s_law, [], []⟩
def d_Wrong___init__ : He.DefD := ⟨("Wrong", some "__init__"), "__init__", "Wrong.__init__", defArgs s_Wrong___init__, defBody s_Wrong___init__, defScope s_Wrong___init__, [], []⟩
def d_There___init__ : He.DefD := ⟨("There", some "__init__"), "__init__", "There.__init__", defArgs s_There___init__, defBody s_There___init__, defScope s_There___init__, [], []⟩
def d_TooMany___init__ : He.DefD := ⟨("TooMany", some "__init__"), "__init__", "TooMany.__init__", defArgs s_TooMany___init__, defBody s_TooMany___init__, defScope s_TooMany___init__, [], []⟩
def d_NoBase___init__ : He.DefD := ⟨("NoBase", some "__init__"), "__init__", "NoBase.__init__", defArgs s_NoBase___init__, defBody s_NoBase___init__, defScope s_NoBase___init__, [], []⟩
def d_NoFit___init__ : He.DefD := ⟨("NoFit", some "__init__"), "__init__", "NoFit.__init__", defArgs s_NoFit___init__, defBody s_NoFit___init__, defScope s_NoFit___init__, [], []⟩
def d_Unlike___init__ : He.DefD := ⟨("Unlike", some "__init__"), "__init__", "Unlike.__init__", defArgs s_Unlike___init__, defBody s_Unlike___init__, defScope s_Unlike___init__, [], []⟩
def d_NoLog___init__ : He.DefD := ⟨("NoLog", some "__init__"), "__init__", "NoLog.__init__", defArgs s_NoLog___init__, defBody s_NoLog___init__, defScope s_NoLog___init__, [], []⟩
def d_NoFile___init__ : He.DefD := ⟨("NoFile", some "__init__"), "__init__", "NoFile.__init__", defArgs s_NoFile___init__, defBody s_NoFile___init__, defScope s_NoFile___init__, [], []⟩
def d_NoPiece___init__ : He.DefD := ⟨("NoPiece", some "__init__"), "__init__", "NoPiece.__init__", defArgs s_NoPiece___init__, defBody s_NoPiece___init__, defScope s_NoPiece___init__, [], []⟩
def d_NoMoment___init__ : He.DefD := ⟨("NoMoment", some "__init__"), "__init__", "NoMoment.__init__", defArgs s_NoMoment___init__, defBody s_NoMoment___init__, defScope s_NoMoment___init__, [], []⟩
def d_NoHolder___init__ : He.DefD := ⟨("NoHolder", some "__init__"), "__init__", "NoHolder.__init__", defArgs s_NoHolder___init__, defBody s_NoHolder___init__, defScope s_NoHolder___init__, [], []⟩
def d_Busy___init__ : He.DefD := ⟨("Busy", some "__init__"), "__init__", "Busy.__init__", defArgs s_Busy___init__, defBody s_Busy___init__, defScope s_Busy___init__, [], []⟩
def d_NoRoom___init__ : He.DefD := ⟨("NoRoom", some "__init__"), "__init__", "NoRoom.__init__", defArgs s_NoRoom___init__, defBody s_NoRoom___init__, defScope s_NoRoom___init__, [], []⟩
def d_Held___init__ : He.DefD := ⟨("Held", some "__init__"), "__init__", "Held.__init__", defArgs s_Held___init__, defBody s_Held___init__, defScope s_Held___init__, [], []⟩
def d_Broken___init__ : He.DefD := ⟨("Broken", some "__init__"), "__init__", "Broken.__init__", defArgs s_Broken___init__, defBody s_Broken___init__, defScope s_Broken___init__, [], []⟩
def d_Undone___init__ : He.DefD := ⟨("Undone", some "__init__"), "__init__", "Undone.__init__", defArgs s_Undone___init__, defBody s_Undone___init__, defScope s_Undone___init__, [], []⟩
def d_OtherCut___init__ : He.DefD := ⟨("OtherCut", some "__init__"), "__init__", "OtherCut.__init__", defArgs s_OtherCut___init__, defBody s_OtherCut___init__, defScope s_OtherCut___init__, [], []⟩
def d_NoText___init__ : He.DefD := ⟨("NoText", some "__init__"), "__init__", "NoText.__init__", defArgs s_NoText___init__, defBody s_NoText___init__, defScope s_NoText___init__, [], []⟩
def d_NoRow___init__ : He.DefD := ⟨("NoRow", some "__init__"), "__init__", "NoRow.__init__", defArgs s_NoRow___init__, defBody s_NoRow___init__, defScope s_NoRow___init__, [], []⟩
def d_NoRun___init__ : He.DefD := ⟨("NoRun", some "__init__"), "__init__", "NoRun.__init__", defArgs s_NoRun___init__, defBody s_NoRun___init__, defScope s_NoRun___init__, [], []⟩
def fn0 : List He.DefD := ([d_l_bag, d_l_take, d_l_copy, d_l_odd, d_l_made_else, d_l_made, d_l_classes, d_l_kinds, d_l_alike, d_l_kept_thing, d_l_right, d_law, d_Wrong___init__, d_There___init__, d_TooMany___init__, d_NoBase___init__] : List He.DefD)
def fa0 : List (Fr -> Bool) := ([(λ K => (He.Fa.glo "_law_bag").ok K), (λ K => (He.Fa.glo "_law_take").ok K), (λ K => (He.Fa.glo "_law_copy").ok K), (λ K => (He.Fa.glo "_law_odd").ok K), (λ K => (He.Fa.glo "_law_made_else").ok K), (λ K => (He.Fa.glo "_law_made").ok K), (λ K => (He.Fa.glo "_law_classes").ok K), (λ K => (He.Fa.glo "_law_kinds").ok K), (λ K => (He.Fa.glo "_law_alike").ok K), (λ K => (He.Fa.glo "_law_kept_thing").ok K), (λ K => (He.Fa.glo "_law_right").ok K), (λ K => (He.Fa.glo "law").ok K), (λ K => (He.Fa.glo "NoHolder").ok K), (λ K => (He.Fa.glo "Busy").ok K), (λ K => (He.Fa.glo "NoRoom").ok K), (λ K => (He.Fa.glo "Held").ok K), (λ K => (He.Fa.glo "Broken").ok K), (λ K => (He.Fa.glo "Undone").ok K), (λ K => (He.Fa.glo "OtherCut").ok K), (λ K => (He.Fa.glo "NoText").ok K), (λ K => (He.Fa.glo "NoRow").ok K), (λ K => (He.Fa.glo "NoRun").ok K), (λ K => (He.Fa.glo "Wrong").ok K), (λ K => (He.Fa.glo "There").ok K), (λ K => (He.Fa.glo "TooMany").ok K), (λ K => (He.Fa.glo "NoBase").ok K), (λ K => (He.Fa.glo "NoFit").ok K), (λ K => (He.Fa.glo "Unlike").ok K), (λ K => (He.Fa.glo "NoLog").ok K), (λ K => (He.Fa.glo "NoFile").ok K)] : List (Fr -> Bool)) ++ ([(λ K => (He.Fa.glo "NoPiece").ok K), (λ K => (He.Fa.glo "NoMoment").ok K), (λ K => (He.Fa.glo "StoreError").ok K), (λ K => (He.Fa.glo "Missing").ok K), (λ K => (He.Fa.glo "Halted").ok K), (λ K => chB K "Wrong" (tlB "ValueError") "ValueError.__new__"), (λ K => chF K "Wrong"), (λ K => chC K "Wrong"), (λ K => chN K "Wrong" "at"), (λ K => chI K "StoreError" "ValueError.__init__"), (λ K => chB K "There" (tlB "ValueError") "ValueError.__new__"), (λ K => chF K "There"), (λ K => chC K "There"), (λ K => chN K "There" "thing"), (λ K => chB K "TooMany" (tlB "ValueError") "ValueError.__new__"), (λ K => chF K "TooMany"), (λ K => chC K "TooMany"), (λ K => chN K "TooMany" "most"), (λ K => chB K "NoBase" (tlB "ValueError") "ValueError.__new__"), (λ K => chF K "NoBase"), (λ K => chC K "NoBase"), (λ K => chN K "NoBase" "time"), (λ K => chB K "NoFit" (tlB "ValueError") "ValueError.__new__"), (λ K => chF K "NoFit"), (λ K => chC K "NoFit"), (λ K => chN K "NoFit" "at"), (λ K => chB K "Unlike" (tlB "ValueError") "ValueError.__new__"), (λ K => chF K "Unlike"), (λ K => chC K "Unlike"), (λ K => chN K "Unlike" "seal")] : List (Fr -> Bool)) ++ ([(λ K => chB K "NoLog" (tlB "ValueError") "ValueError.__new__"), (λ K => chF K "NoLog"), (λ K => chC K "NoLog"), (λ K => chN K "NoLog" "at"), (λ K => chB K "NoFile" (tlB "LookupError") "LookupError.__new__"), (λ K => chF K "NoFile"), (λ K => chC K "NoFile"), (λ K => chN K "NoFile" "name"), (λ K => chI K "Missing" "LookupError.__init__"), (λ K => chB K "NoPiece" (tlB "LookupError") "LookupError.__new__"), (λ K => chF K "NoPiece"), (λ K => chC K "NoPiece"), (λ K => chN K "NoPiece" "seal"), (λ K => chB K "NoMoment" (tlB "LookupError") "LookupError.__new__"), (λ K => chF K "NoMoment"), (λ K => chC K "NoMoment")] : List (Fr -> Bool))
def fn1 : List He.DefD := ([d_NoFit___init__, d_Unlike___init__, d_NoLog___init__, d_NoFile___init__, d_NoPiece___init__, d_NoMoment___init__, d_NoHolder___init__, d_Busy___init__, d_NoRoom___init__, d_Held___init__, d_Broken___init__, d_Undone___init__, d_OtherCut___init__, d_NoText___init__, d_NoRow___init__, d_NoRun___init__] : List He.DefD)
def fa1 : List (Fr -> Bool) := ([(λ K => chN K "NoMoment" "time"), (λ K => chB K "NoHolder" (tlB "LookupError") "LookupError.__new__"), (λ K => chF K "NoHolder"), (λ K => chC K "NoHolder"), (λ K => chN K "NoHolder" "name"), (λ K => chB K "Busy" (tlB "RuntimeError") "RuntimeError.__new__"), (λ K => chF K "Busy"), (λ K => chC K "Busy"), (λ K => chN K "Busy" "why"), (λ K => chI K "Halted" "RuntimeError.__init__"), (λ K => chB K "NoRoom" (tlB "RuntimeError") "RuntimeError.__new__"), (λ K => chF K "NoRoom"), (λ K => chC K "NoRoom"), (λ K => chN K "NoRoom" "room"), (λ K => chB K "Held" (tlB "RuntimeError") "RuntimeError.__new__"), (λ K => chF K "Held"), (λ K => chC K "Held"), (λ K => chN K "Held" "holders"), (λ K => chB K "Broken" (tlB "RuntimeError") "RuntimeError.__new__"), (λ K => chF K "Broken"), (λ K => chC K "Broken"), (λ K => chN K "Broken" "seal"), (λ K => chB K "Undone" (tlB "RuntimeError") "RuntimeError.__new__"), (λ K => chF K "Undone"), (λ K => chC K "Undone"), (λ K => chN K "Undone" "names"), (λ K => chB K "OtherCut" (tlB "ValueError") "ValueError.__new__"), (λ K => chF K "OtherCut"), (λ K => chC K "OtherCut"), (λ K => chB K "NoText" (tlB "ValueError") "ValueError.__new__")] : List (Fr -> Bool)) ++ ([(λ K => chF K "NoText"), (λ K => chC K "NoText"), (λ K => chB K "NoRow" (tlB "ValueError") "ValueError.__new__"), (λ K => chF K "NoRow"), (λ K => chC K "NoRow"), (λ K => chB K "NoRun" (tlB "LookupError") "LookupError.__new__"), (λ K => chF K "NoRun"), (λ K => chC K "NoRun"), (λ K => chDK K "Wrong" [("Wrong", true), ("There", false), ("TooMany", false), ("NoBase", false), ("NoFit", false), ("Unlike", false), ("NoLog", false), ("NoFile", false), ("NoPiece", false), ("NoMoment", false), ("NoHolder", false), ("Busy", false), ("NoRoom", false), ("Held", false), ("Broken", false), ("Undone", false), ("OtherCut", false), ("NoText", false), ("NoRow", false), ("NoRun", false)]), (λ K => chDK K "There" [("Wrong", false), ("There", true), ("TooMany", false), ("NoBase", false), ("NoFit", false), ("Unlike", false), ("NoLog", false), ("NoFile", false), ("NoPiece", false), ("NoMoment", false), ("NoHolder", false), ("Busy", false), ("NoRoom", false), ("Held", false), ("Broken", false), ("Undone", false), ("OtherCut", false), ("NoText", false), ("NoRow", false), ("NoRun", false)]), (λ K => chDK K "TooMany" [("Wrong", false), ("There", false), ("TooMany", true), ("NoBase", false), ("NoFit", false), ("Unlike", false), ("NoLog", false), ("NoFile", false), ("NoPiece", false), ("NoMoment", false), ("NoHolder", false), ("Busy", false), ("NoRoom", false), ("Held", false), ("Broken", false), ("Undone", false), ("OtherCut", false), ("NoText", false), ("NoRow", false), ("NoRun", false)]), (λ K => chDK K "NoBase" [("Wrong", false), ("There", false), ("TooMany", false), ("NoBase", true), ("NoFit", false), ("Unlike", false), ("NoLog", false), ("NoFile", false), ("NoPiece", false), ("NoMoment", false), ("NoHolder", false), ("Busy", false), ("NoRoom", false), ("Held", false), ("Broken", false), ("Undone", false), ("OtherCut", false), ("NoText", false), ("NoRow", false), ("NoRun", false)]), (λ K => chDK K "NoFit" [("Wrong", false), ("There", false), ("TooMany", false), ("NoBase", false), ("NoFit", true), ("Unlike", false), ("NoLog", false), ("NoFile", false), ("NoPiece", false), ("NoMoment", false), ("NoHolder", false), ("Busy", false), ("NoRoom", false), ("Held", false), ("Broken", false), ("Undone", false), ("OtherCut", false), ("NoText", false), ("NoRow", false), ("NoRun", false)]), (λ K => chDK K "Unlike" [("Wrong", false), ("There", false), ("TooMany", false), ("NoBase", false), ("NoFit", false), ("Unlike", true), ("NoLog", false), ("NoFile", false), ("NoPiece", false), ("NoMoment", false), ("NoHolder", false), ("Busy", false), ("NoRoom", false), ("Held", false), ("Broken", false), ("Undone", false), ("OtherCut", false), ("NoText", false), ("NoRow", false), ("NoRun", false)]), (λ K => chDK K "NoLog" [("Wrong", false), ("There", false), ("TooMany", false), ("NoBase", false), ("NoFit", false), ("Unlike", false), ("NoLog", true), ("NoFile", false), ("NoPiece", false), ("NoMoment", false), ("NoHolder", false), ("Busy", false), ("NoRoom", false), ("Held", false), ("Broken", false), ("Undone", false), ("OtherCut", false), ("NoText", false), ("NoRow", false), ("NoRun", false)]), (λ K => chDK K "NoFile" [("Wrong", false), ("There", false), ("TooMany", false), ("NoBase", false), ("NoFit", false), ("Unlike", false), ("NoLog", false), ("NoFile", true), ("NoPiece", false), ("NoMoment", false), ("NoHolder", false), ("Busy", false), ("NoRoom", false), ("Held", false), ("Broken", false), ("Undone", false), ("OtherCut", false), ("NoText", false), ("NoRow", false), ("NoRun", false)]), (λ K => chDK K "NoPiece" [("Wrong", false), ("There", false), ("TooMany", false), ("NoBase", false), ("NoFit", false), ("Unlike", false), ("NoLog", false), ("NoFile", false), ("NoPiece", true), ("NoMoment", false), ("NoHolder", false), ("Busy", false), ("NoRoom", false), ("Held", false), ("Broken", false), ("Undone", false), ("OtherCut", false), ("NoText", false), ("NoRow", false), ("NoRun", false)]), (λ K => chDK K "NoMoment" [("Wrong", false), ("There", false), ("TooMany", false), ("NoBase", false), ("NoFit", false), ("Unlike", false), ("NoLog", false), ("NoFile", false), ("NoPiece", false), ("NoMoment", true), ("NoHolder", false), ("Busy", false), ("NoRoom", false), ("Held", false), ("Broken", false), ("Undone", false), ("OtherCut", false), ("NoText", false), ("NoRow", false), ("NoRun", false)]), (λ K => chDK K "NoHolder" [("Wrong", false), ("There", false), ("TooMany", false), ("NoBase", false), ("NoFit", false), ("Unlike", false), ("NoLog", false), ("NoFile", false), ("NoPiece", false), ("NoMoment", false), ("NoHolder", true), ("Busy", false), ("NoRoom", false), ("Held", false), ("Broken", false), ("Undone", false), ("OtherCut", false), ("NoText", false), ("NoRow", false), ("NoRun", false)]), (λ K => chDK K "Busy" [("Wrong", false), ("There", false), ("TooMany", false), ("NoBase", false), ("NoFit", false), ("Unlike", false), ("NoLog", false), ("NoFile", false), ("NoPiece", false), ("NoMoment", false), ("NoHolder", false), ("Busy", true), ("NoRoom", false), ("Held", false), ("Broken", false), ("Undone", false), ("OtherCut", false), ("NoText", false), ("NoRow", false), ("NoRun", false)]), (λ K => chDK K "NoRoom" [("Wrong", false), ("There", false), ("TooMany", false), ("NoBase", false), ("NoFit", false), ("Unlike", false), ("NoLog", false), ("NoFile", false), ("NoPiece", false), ("NoMoment", false), ("NoHolder", false), ("Busy", false), ("NoRoom", true), ("Held", false), ("Broken", false), ("Undone", false), ("OtherCut", false), ("NoText", false), ("NoRow", false), ("NoRun", false)]), (λ K => chDK K "Held" [("Wrong", false), ("There", false), ("TooMany", false), ("NoBase", false), ("NoFit", false), ("Unlike", false), ("NoLog", false), ("NoFile", false), ("NoPiece", false), ("NoMoment", false), ("NoHolder", false), ("Busy", false), ("NoRoom", false), ("Held", true), ("Broken", false), ("Undone", false), ("OtherCut", false), ("NoText", false), ("NoRow", false), ("NoRun", false)]), (λ K => chDK K "Broken" [("Wrong", false), ("There", false), ("TooMany", false), ("NoBase", false), ("NoFit", false), ("Unlike", false), ("NoLog", false), ("NoFile", false), ("NoPiece", false), ("NoMoment", false), ("NoHolder", false), ("Busy", false), ("NoRoom", false), ("Held", false), ("Broken", true), ("Undone", false), ("OtherCut", false), ("NoText", false), ("NoRow", false), ("NoRun", false)]), (λ K => chDK K "Undone" [("Wrong", false), ("There", false), ("TooMany", false), ("NoBase", false), ("NoFit", false), ("Unlike", false), ("NoLog", false), ("NoFile", false), ("NoPiece", false), ("NoMoment", false), ("NoHolder", false), ("Busy", false), ("NoRoom", false), ("Held", false), ("Broken", false), ("Undone", true), ("OtherCut", false), ("NoText", false), ("NoRow", false), ("NoRun", false)]), (λ K => chDK K "OtherCut" [("Wrong", false), ("There", false), ("TooMany", false), ("NoBase", false), ("NoFit", false), ("Unlike", false), ("NoLog", false), ("NoFile", false), ("NoPiece", false), ("NoMoment", false), ("NoHolder", false), ("Busy", false), ("NoRoom", false), ("Held", false), ("Broken", false), ("Undone", false), ("OtherCut", true), ("NoText", false), ("NoRow", false), ("NoRun", false)]), (λ K => chDK K "NoText" [("Wrong", false), ("There", false), ("TooMany", false), ("NoBase", false), ("NoFit", false), ("Unlike", false), ("NoLog", false), ("NoFile", false), ("NoPiece", false), ("NoMoment", false), ("NoHolder", false), ("Busy", false), ("NoRoom", false), ("Held", false), ("Broken", false), ("Undone", false), ("OtherCut", false), ("NoText", true), ("NoRow", false), ("NoRun", false)]), (λ K => chDK K "NoRow" [("Wrong", false), ("There", false), ("TooMany", false), ("NoBase", false), ("NoFit", false), ("Unlike", false), ("NoLog", false), ("NoFile", false), ("NoPiece", false), ("NoMoment", false), ("NoHolder", false), ("Busy", false), ("NoRoom", false), ("Held", false), ("Broken", false), ("Undone", false), ("OtherCut", false), ("NoText", false), ("NoRow", true), ("NoRun", false)]), (λ K => chDK K "NoRun" [("Wrong", false), ("There", false), ("TooMany", false), ("NoBase", false), ("NoFit", false), ("Unlike", false), ("NoLog", false), ("NoFile", false), ("NoPiece", false), ("NoMoment", false), ("NoHolder", false), ("Busy", false), ("NoRoom", false), ("Held", false), ("Broken", false), ("Undone", false), ("OtherCut", false), ("NoText", false), ("NoRow", false), ("NoRun", true)]), (λ K => chDK K "StoreError" [("Wrong", true), ("There", true), ("TooMany", true), ("NoBase", true), ("NoFit", true), ("Unlike", true), ("NoLog", true), ("NoFile", false), ("NoPiece", false), ("NoMoment", false), ("NoHolder", false), ("Busy", false), ("NoRoom", false), ("Held", false), ("Broken", false), ("Undone", false), ("OtherCut", true), ("NoText", true), ("NoRow", true), ("NoRun", false)]), (λ K => chDK K "Missing" [("Wrong", false), ("There", false), ("TooMany", false), ("NoBase", false), ("NoFit", false), ("Unlike", false), ("NoLog", false), ("NoFile", true), ("NoPiece", true), ("NoMoment", true), ("NoHolder", true), ("Busy", false), ("NoRoom", false), ("Held", false), ("Broken", false), ("Undone", false), ("OtherCut", false), ("NoText", false), ("NoRow", false), ("NoRun", true)])] : List (Fr -> Bool)) ++ ([(λ K => chDK K "Halted" [("Wrong", false), ("There", false), ("TooMany", false), ("NoBase", false), ("NoFit", false), ("Unlike", false), ("NoLog", false), ("NoFile", false), ("NoPiece", false), ("NoMoment", false), ("NoHolder", false), ("Busy", true), ("NoRoom", true), ("Held", true), ("Broken", true), ("Undone", true), ("OtherCut", false), ("NoText", false), ("NoRow", false), ("NoRun", false)]), (λ K => chDT K "ValueError" [("Wrong", true), ("There", true), ("TooMany", true), ("NoBase", true), ("NoFit", true), ("Unlike", true), ("NoLog", true), ("NoFile", false), ("NoPiece", false), ("NoMoment", false), ("NoHolder", false), ("Busy", false), ("NoRoom", false), ("Held", false), ("Broken", false), ("Undone", false), ("OtherCut", true), ("NoText", true), ("NoRow", true), ("NoRun", false)]), (λ K => chDT K "LookupError" [("Wrong", false), ("There", false), ("TooMany", false), ("NoBase", false), ("NoFit", false), ("Unlike", false), ("NoLog", false), ("NoFile", true), ("NoPiece", true), ("NoMoment", true), ("NoHolder", true), ("Busy", false), ("NoRoom", false), ("Held", false), ("Broken", false), ("Undone", false), ("OtherCut", false), ("NoText", false), ("NoRow", false), ("NoRun", true)]), (λ K => chDT K "RuntimeError" [("Wrong", false), ("There", false), ("TooMany", false), ("NoBase", false), ("NoFit", false), ("Unlike", false), ("NoLog", false), ("NoFile", false), ("NoPiece", false), ("NoMoment", false), ("NoHolder", false), ("Busy", true), ("NoRoom", true), ("Held", true), ("Broken", true), ("Undone", true), ("OtherCut", false), ("NoText", false), ("NoRow", false), ("NoRun", false)]), (λ K => (He.Fa.free "abs").ok K), (λ K => (He.Fa.free "len").ok K), (λ K => (He.Fa.free "isinstance").ok K), (λ K => (He.Fa.free "list").ok K), (λ K => (He.Fa.free "tuple").ok K), (λ K => (He.Fa.free "dict").ok K), (λ K => (He.Fa.free "range").ok K), (λ K => (He.Fa.free "ValueError").ok K), (λ K => (He.Fa.free "LookupError").ok K), (λ K => (He.Fa.free "RuntimeError").ok K), (λ K => (He.Fa.free "repr").ok K)] : List (Fr -> Bool))
def fn : List He.DefD := fn0 ++ (fn1)
def fa : List (Fr -> Bool) := fa0 ++ (fa1)
def names : List Str := (["StoreError", "Missing", "Halted", "Wrong", "There", "TooMany", "NoBase", "NoFit", "Unlike", "OtherCut", "NoText", "NoLog", "NoRow", "NoFile", "NoPiece", "NoMoment", "NoRun", "NoHolder", "Busy", "NoRoom", "Held", "Broken", "Undone", "_law_bag", "_law_take", "_law_alike", "_law_copy", "_law_odd", "_law_made", "_law_made_else"] : List Str) ++ (["_law_classes", "_law_kinds", "_law_kept_thing", "_law_right"] : List Str)
abbrev R : PySem.W.OpenRow := PySem.W.OpenLaw.row PySem.Challenge.rw_restorechain_k17_refusals_apart
abbrev hk : PySem.W.Hook := hookB 5 fa fn
def ob (s : PySem.W.SharedT) : He.AlD := obsB 5 fa fn (HandSHeadRun.getT s)
theorem ob_eq (s : PySem.W.SharedT) : ob s = hk.obs s.abs := obsB_eq (HandSHeadRun.getT_eq s)
section
open PySem.W PySem.Calls HandSHeadRun
theorem runL (w : World) (os : OsState) : (endF (stepQ (denQ tabQ) R.prog w) 20000 R.prog w os).map (λ s => (looksF R.prog (boot_heap w.params) s.abs, seenQ (view R.prog [36]) names (importedModules R.prog.main.body) (λ s => xlAt (view R.prog [36]) [] s && recOk R.toRowW.records s) s.abs)) = some (true, openGood (view R.prog [36]) names) := by kernel_rfl
theorem runO0 (w : World) (os : OsState) : (endF (stepQ (denQ tabQ) R.prog w) 20000 R.prog w os).map (λ s => obsB 5 fa0 fn0 (getT s)) = some (He.valD fn0) := by kernel_rfl
theorem runO1 (w : World) (os : OsState) : (endF (stepQ (denQ tabQ) R.prog w) 20000 R.prog w os).map (λ s => obsB 5 fa1 fn1 (getT s)) = some (He.valD fn1) := by kernel_rfl
theorem runO (w : World) (os : OsState) : (endF (stepQ (denQ tabQ) R.prog w) 20000 R.prog w os).map (λ s => ob s) = some (hk.val w) := mpA (runO0 w os) (runO1 w os)
theorem run (w : World) : RunEq R (view R.prog [36]) hk ob 20000 names w := runEq (runL w) (runO w)
end
end RC
namespace RC
open PySem PySem.Spec PyProof.Rows L2
section
variable {K : Fr} {σ : L2.St} {H : Hp} {Q : VK} {D : Ends} {Rs : List Res} {E : XK} {W : WX} {sp : Sp} {dvs : List V} {t : TA} {ta te tb tc : TE} {C a : Addr} {m f : Str} {v : V}
theorem g_callW (k : t σ H λ vs H1 => sp (vs ++ dvs) H1 Q (WE W σ)) : tCallW W sp dvs t σ H Q := k
def MethK (W : WX) (C : Addr) (m : Str) (sp : Sp) (dvs : List V) (t : TA) (σ : L2.St) (Q : VK) : VK := λ x H1 => ∃ a dx fs, x = .ref a /\ H1 a = some (.ins C dx fs) /\ fs.lookup m = none /\ t σ H1 λ vs H2 => sp (x :: (vs ++ dvs)) H2 Q (WE W σ)
theorem g_meth (k : ta σ H (MethK W C m sp dvs t σ Q)) : tMethW W C m sp dvs ta t σ H Q := k
def MakeK (W : WX) (C : Addr) (sp : Sp) (dvs : List V) (σ : L2.St) (Q : VK) : List V -> Hp -> Prop := λ vs H1 => ∀ x dx, H1 x = none -> H1 dx = none -> dx ≠ x -> sp (.ref x :: (vs ++ dvs)) (upd (upd H1 dx (.own x)) x (.ins C dx [])) (λ v H2 => v = .non /\ Q (.ref x) H2) (WE W σ)
theorem g_make (k : t σ H (MakeK W C sp dvs σ Q)) : tMakeW W C sp dvs t σ H Q := k
def FldK (K : Fr) (f : Str) (Q : VK) : VK := λ x H1 => ∃ a C dx fs v, x = .ref a /\ H1 a = some (.ins C dx fs) /\ Cls K C /\ NoAttr K C f /\ fs.lookup f = some v /\ Q v H1
theorem g_fld (k : ta σ H (FldK K f Q)) : tFld K ta f σ H Q := k
def SFldK (K : Fr) (f : Str) (y : V) (σ : L2.St) (D : Ends) : VK := λ x H2 => ∃ a C dx fs, x = .ref a /\ H2 a = some (.ins C dx fs) /\ Cls K C /\ NoAttr K C f /\ fs.length < 1000 /\ D.nx σ (upd H2 a (.ins C dx (putF f y fs)))
theorem g_sfld (k : te σ H λ y H1 => ta σ H1 (SFldK K f y σ D)) : sFld K ta te f D σ H := k
def RzK (W : WX) (C : Addr) (f : Str) (σ : L2.St) : VK := λ v H1 => ∀ d, H1 d = none -> W (.ref C) (some d) σ (upd H1 d (.xd [(f, v)]))
theorem g_rz (k : te σ H (RzK W C f σ)) : tRz W C f te D σ H := k
theorem v_dnew (S : M Rs H) (k : ∀ d H', M (pt d (.dK []) :: Rs) H' -> Q (.ref d) H') : tDNewK σ H Q := λ d hd => k d _ (S.new hd)
def Pop1K (ty : TE) (σ : L2.St) (Q : VK) : VK := λ x H1 => ∃ a, x = .ref a /\ IsD H1 a /\ ty σ H1 λ y H2 => ∃ kvs k v, H2 a = some (.dK kvs) /\ y = kV k /\ valV kvs k = some v /\ Q v (upd H2 a (.dK (dropK kvs k)))
theorem g_dpop (k : ta σ H (Pop1K tb σ Q)) : tDPop1 ta tb σ H Q := k
theorem v_isi {x : V} {ty : Value} {c : String} {b : Bool} (h : TyX K H x ty) (e : PySem.W.kitOne K ty (.type c) = some b) (k : Q (.bl b) H) : rIsi K [x, .ty c] H Q := ⟨x, .ty c, ty, _, b, rfl, .ty c, h, e, k⟩
theorem g_callE {cls : Value} {d : Option Addr} {sp : Addr -> Value -> Option Addr -> Hp -> VK -> Prop} (k : te σ H λ x H1 => x = .ref a /\ sp a cls d H1 Q) : tCallE a cls d sp te σ H Q := k
theorem g_xg {cls : Value} {d : Option Addr} {n : Str} (k : te σ H λ x H1 => x = .ref a /\ ∃ D dd fs v, cls = .ref D /\ ExcC K D /\ PySem.W.findIn K (.ref D) n = some none /\ d = some dd /\ H1 dd = some (.xd fs) /\ fs.lookup n = some v /\ Q v H1) : tXg K a cls d n te σ H Q := k
theorem g_try {tb : WX -> TS} {l : List Hd} (k : tb (wTry K W D l) D σ H) : tTry K W tb l D σ H := k
end
theorem Ent.tl {Rs : List Res} {R : Res} {φ : Hp -> Prop} (h : Ent Rs φ) : Ent (R :: Rs) φ := λ H S => h H S.tl
end RC

namespace RC
open PySem PySem.Spec PyProof.Rows L2
end RC

namespace RC
open PySem PySem.Spec PyProof.Rows L2
def kD : Key -> PyData
 | .inl i => .int i
 | .inr x => .str x
mutual
inductive Dq (K : Fr) (H : Hp) : V -> PyData -> Prop
 | non : Dq K H .non .none
 | bl (b : Bool) : Dq K H (.bl b) (.bool b)
 | int (i : Int) : Dq K H (.int i) (.int i)
 | str (x : Str) : Dq K H (.str x) (.str x)
 | lst {a : Addr} {vs : List V} {ds : List PyData} (h : SqL K H a vs) (q : DqAll K H vs ds) : Dq K H (.ref a) (.list ds)
 | tup {a : Addr} {vs : List V} {ds : List PyData} (h : SqT K H a vs) (q : DqAll K H vs ds) : Dq K H (.ref a) (.tuple ds)
 | dct {a : Addr} {od : Obj} {kvs : List (Key × V)} {ds : List (PyData × PyData)} (h : H a = some (.frz od (.dK kvs))) (q : DqKv K H kvs ds) : Dq K H (.ref a) (.dict ds)
inductive DqAll (K : Fr) (H : Hp) : List V -> List PyData -> Prop
 | nil : DqAll K H [] []
 | cons {v : V} {vs : List V} {d : PyData} {ds : List PyData} (h : Dq K H v d) (r : DqAll K H vs ds) : DqAll K H (v :: vs) (d :: ds)
inductive DqKv (K : Fr) (H : Hp) : List (Key × V) -> List (PyData × PyData) -> Prop
 | nil : DqKv K H [] []
 | cons {k : Key} {v : V} {vs : List (Key × V)} {d : PyData} {ds : List (PyData × PyData)} (h : Dq K H v d) (r : DqKv K H vs ds) : DqKv K H ((k, v) :: vs) ((kD k, d) :: ds)
end
mutual
theorem Dq_ext {K : Fr} {H H' : Hp} (e : Ext H H') : ∀ {v : V} {d : PyData}, Dq K H v d -> Dq K H' v d
 | _, _, .non => .non
 | _, _, .bl b => .bl b
 | _, _, .int i => .int i
 | _, _, .str x => .str x
 | _, _, .lst h q => .lst (e.sqL h) (DqAll_ext e q)
 | _, _, .tup h q => .tup (e.sqT h) (DqAll_ext e q)
 | _, _, .dct h q => .dct (e _ _ h) (DqKv_ext e q)
theorem DqAll_ext {K : Fr} {H H' : Hp} (e : Ext H H') : ∀ {vs : List V} {ds : List PyData}, DqAll K H vs ds -> DqAll K H' vs ds
 | _, _, .nil => .nil
 | _, _, .cons h r => .cons (Dq_ext e h) (DqAll_ext e r)
theorem DqKv_ext {K : Fr} {H H' : Hp} (e : Ext H H') : ∀ {vs : List (Key × V)} {ds : List (PyData × PyData)}, DqKv K H vs ds -> DqKv K H' vs ds
 | _, _, .nil => .nil
 | _, _, .cons h r => .cons (Dq_ext e h) (DqKv_ext e r)
end
mutual
theorem Dq.dp {K : Fr} {H : Hp} : ∀ {v : V} {d : PyData}, Dq K H v d -> d.hasDict = false -> Dp K H v d
 | _, _, .non, _ => .non
 | _, _, .bl b, _ => .bl b
 | _, _, .int i, _ => .int i
 | _, _, .str x, _ => .str x
 | _, _, .lst h q, n => .lst h (DqAll.dp q (by simpa only [PyData.hasDict] using n))
 | _, _, .tup h q, n => .tup h (DqAll.dp q (by simpa only [PyData.hasDict] using n))
 | _, _, .dct h q, n => by simp [PyData.hasDict] at n
theorem DqAll.dp {K : Fr} {H : Hp} : ∀ {vs : List V} {ds : List PyData}, DqAll K H vs ds -> PyData.hasDictAll ds = false -> DpAll K H vs ds
 | _, _, .nil, _ => .nil
 | _, _, .cons h r, n => by
   simp only [PyData.hasDictAll, Bool.or_eq_false_iff] at n
   exact .cons (Dq.dp h n.1) (DqAll.dp r n.2)
end
mutual
theorem Dp.dq {K : Fr} {H : Hp} : ∀ {v : V} {d : PyData}, Dp K H v d -> Dq K H v d
 | _, _, .non => .non
 | _, _, .bl b => .bl b
 | _, _, .int i => .int i
 | _, _, .str x => .str x
 | _, _, .lst h q => .lst h (DpAll.dq q)
 | _, _, .tup h q => .tup h (DpAll.dq q)
theorem DpAll.dq {K : Fr} {H : Hp} : ∀ {vs : List V} {ds : List PyData}, DpAll K H vs ds -> DqAll K H vs ds
 | _, _, .nil => .nil
 | _, _, .cons h r => .cons (Dp.dq h) (DpAll.dq r)
end
mutual
inductive Dn (K : Fr) (H : Hp) : V -> PyData -> Prop
 | non : Dn K H .non .none
 | bl (b : Bool) : Dn K H (.bl b) (.bool b)
 | int (i : Int) : Dn K H (.int i) (.int i)
 | str (x : Str) : Dn K H (.str x) (.str x)
 | lst {a : Addr} {vs : List V} {ds : List PyData} (h : SqL K H a vs) (q : DnAll K H vs ds) : Dn K H (.ref a) (.list ds)
 | tup {a : Addr} {vs : List V} {ds : List PyData} (h : SqT K H a vs) (q : DnAll K H vs ds) : Dn K H (.ref a) (.tuple ds)
 | dct {a : Addr} {kvs : List (Key × V)} {ds : List (PyData × PyData)} (h : Rd H a (.dK kvs)) (q : DnKv K H kvs ds) : Dn K H (.ref a) (.dict ds)
inductive DnAll (K : Fr) (H : Hp) : List V -> List PyData -> Prop
 | nil : DnAll K H [] []
 | cons {v : V} {vs : List V} {d : PyData} {ds : List PyData} (h : Dn K H v d) (r : DnAll K H vs ds) : DnAll K H (v :: vs) (d :: ds)
inductive DnKv (K : Fr) (H : Hp) : List (Key × V) -> List (PyData × PyData) -> Prop
 | nil : DnKv K H [] []
 | cons {k : Key} {v : V} {vs : List (Key × V)} {d : PyData} {ds : List (PyData × PyData)} (h : Dn K H v d) (r : DnKv K H vs ds) : DnKv K H ((k, v) :: vs) ((kD k, d) :: ds)
end
mutual
theorem Dq.dn {K : Fr} {H : Hp} : ∀ {v : V} {d : PyData}, Dq K H v d -> Dn K H v d
 | _, _, .non => .non
 | _, _, .bl b => .bl b
 | _, _, .int i => .int i
 | _, _, .str x => .str x
 | _, _, .lst h q => .lst h (DqAll.dn q)
 | _, _, .tup h q => .tup h (DqAll.dn q)
 | _, _, .dct h q => .dct (.inr ⟨_, h⟩) (DqKv.dn q)
theorem DqAll.dn {K : Fr} {H : Hp} : ∀ {vs : List V} {ds : List PyData}, DqAll K H vs ds -> DnAll K H vs ds
 | _, _, .nil => .nil
 | _, _, .cons h r => .cons (Dq.dn h) (DqAll.dn r)
theorem DqKv.dn {K : Fr} {H : Hp} : ∀ {vs : List (Key × V)} {ds : List (PyData × PyData)}, DqKv K H vs ds -> DnKv K H vs ds
 | _, _, .nil => .nil
 | _, _, .cons h r => .cons (Dq.dn h) (DqKv.dn r)
end
mutual
theorem Dn.dp {K : Fr} {H : Hp} : ∀ {v : V} {d : PyData}, Dn K H v d -> d.hasDict = false -> Dp K H v d
 | _, _, .non, _ => .non
 | _, _, .bl b, _ => .bl b
 | _, _, .int i, _ => .int i
 | _, _, .str x, _ => .str x
 | _, _, .lst h q, n => .lst h (DnAll.dp q (by simpa only [PyData.hasDict] using n))
 | _, _, .tup h q, n => .tup h (DnAll.dp q (by simpa only [PyData.hasDict] using n))
 | _, _, .dct h q, n => by simp [PyData.hasDict] at n
theorem DnAll.dp {K : Fr} {H : Hp} : ∀ {vs : List V} {ds : List PyData}, DnAll K H vs ds -> PyData.hasDictAll ds = false -> DpAll K H vs ds
 | _, _, .nil, _ => .nil
 | _, _, .cons h r, n => by
   simp only [PyData.hasDictAll, Bool.or_eq_false_iff] at n
   exact .cons (Dn.dp h n.1) (DnAll.dp r n.2)
end
abbrev eI : Int -> PyData := PyData.int
abbrev eB : Bool -> PyData := PyData.bool
abbrev eS : Str -> PyData := PyData.str
abbrev eN : Unit -> PyData := λ _ => PyData.none
abbrev eA : PyData -> PyData := id
def eL {α : Type} (e : α -> PyData) (xs : List α) : PyData := .list (xs.map e)
def eV {α : Type} (e : α -> PyData) (xs : List α) : PyData := .tuple (xs.map e)
def eP {α β : Type} (e : α -> PyData) (f : β -> PyData) (x : α × β) : PyData := .tuple [e x.1, f x.2]
abbrev iI : Int -> Key := Sum.inl
abbrev iS : Str -> Key := Sum.inr
def eD {κ α : Type} (ik : κ -> Key) (e : α -> PyData) (m : List (κ × α)) : PyData := .dict (m.map λ p => (kD (ik p.1), e p.2))
def da (K : Fr) (v : V) (d : PyData) : Res := ⟨λ F l => l = [] /\ Dq K F v d, λ _ _ _ e h => ⟨h.1, Dq_ext e h.2⟩⟩
def daA (K : Fr) (vs : List V) (ds : List PyData) : Res := ⟨λ F l => l = [] /\ DqAll K F vs ds, λ _ _ _ e h => ⟨h.1, DqAll_ext e h.2⟩⟩
def EnF (Rs : List Res) (φ : Hp -> Prop) : Prop := ∀ F L, Sat F Rs L -> φ F
theorem Sat.get {F : Hp} : ∀ {Rs : List Res} {L : List Cell} (i : Nat) {R : Res}, Sat F Rs L -> Rs[i]? = some R -> ∃ l, R.on F l
 | [], L, i, R, _, e => by simp at e
 | S :: Rs, L, 0, R, ⟨l1, l2, _, a, _⟩, e => by
   have e : S = R := Option.some.inj e
   subst e
   exact ⟨l1, a⟩
 | S :: Rs, L, i + 1, R, ⟨l1, l2, _, _, b⟩, e => Sat.get i b (by simpa using e)
section
variable {K : Fr} {Rs R0 : List Res} {H : Hp} {v : V} {d : PyData} {vs : List V} {ds : List PyData} {φ ψ : Hp -> Prop}
theorem M.gotA (S : M Rs H) (i : Nat) (e : Rs[i]? = some (da K v d)) : Dq K H v d := by
 obtain ⟨F, L, s, m⟩ := S
 obtain ⟨l, h⟩ := s.get i e
 exact Dq_ext m.ex h.2
theorem EnF.at (i : Nat) (e : Rs[i]? = some (da K v d)) : EnF Rs (λ F => Dq K F v d) := λ F L s => by
 obtain ⟨l, h⟩ := s.get i e
 exact h.2
theorem EnF.all (h : ∀ F, φ F) : EnF Rs φ := λ F _ _ => h F
theorem EnF.tl {R : Res} (h : EnF Rs φ) : EnF (R :: Rs) φ := λ F L ⟨_, l2, _, _, b⟩ => h F l2 b
theorem EnF.nilA : EnF Rs (λ F => DqAll K F [] []) := λ _ _ _ => .nil
theorem EnF.consA (h : EnF Rs (λ F => Dq K F v d)) (r : EnF Rs (λ F => DqAll K F vs ds)) : EnF Rs (λ F => DqAll K F (v :: vs) (d :: ds)) := λ F L s => .cons (h F L s) (r F L s)
theorem M.of (S : M Rs H) (h : EnF Rs φ) (mono : ∀ F, Ext F H -> φ F -> ψ H) : ψ H := by
 obtain ⟨F, L, s, m⟩ := S
 exact mono F m.ex (h F L s)
theorem M.dq (S : M Rs H) (h : EnF Rs (λ F => Dq K F v d)) : Dq K H v d := by
 obtain ⟨F, L, s, m⟩ := S
 exact Dq_ext m.ex (h F L s)
theorem M.addA (S : M Rs H) (h : EnF Rs (λ F => Dq K F v d)) : M (da K v d :: Rs) H := by
 obtain ⟨F, L, s, m⟩ := S
 exact ⟨F, L, ⟨[], L, rfl, ⟨rfl, h F L s⟩, s⟩, m⟩
end
end RC

namespace RC
open PySem PySem.Spec PyProof.Rows L2
def forD {α β : Type} (f : α -> β -> (β -> Prop) -> Prop) : List α -> β -> (β -> Prop) -> Prop
 | [], s, k => k s
 | x :: xs, s, k => f x s λ s' => forD f xs s' k
def lcD {α β : Type} (f : α -> (Option β -> Prop) -> Prop) : List α -> List β -> (List β -> Prop) -> Prop
 | [], acc, k => k acc
 | x :: xs, acc, k => f x λ y => lcD f xs (acc ++ y.toList) k
def jn {β : Type} (m : (β -> Prop) -> Prop) (k : β -> Prop) : Prop := m k
abbrev cat {α : Type} (xs ys : List α) : List α := xs ++ ys
def takeD (n : Int) (k : Int -> Prop) : Prop := (0 < n /\ n < 2 ^ 62) /\ ∀ v, 0 <= v -> v < n -> k v
def rng (n : Int) : List Int := (List.range n.toNat).map λ i => (0 : Int) + (i : Nat)
section
variable {K : Fr} {σ : L2.St} {H : Hp} {Q : VK} {D : Ends} {Rs : List Res} {E : XK} {t u : TS} {α β : Type}
theorem v_iff {b : Bool} {A B X Y : Prop} (hf : if b = true then X else Y) (h1 : b = true -> X -> A) (h2 : b = false -> Y -> B) : if b = true then A else B := by
 cases b with
 | true => exact h1 rfl (by simpa using hf)
 | false => exact h2 rfl (by simpa using hf)
theorem jn_cut {m : (β -> Prop) -> Prop} {KK : β -> Prop} (hf : jn m KK) (Inv : β -> L2.St -> Hp -> Prop)
   (h1 : ∀ (kk : β -> Prop) (N : L2.St -> Hp -> Prop), (∀ s σ H, kk s -> Inv s σ H -> N σ H) -> m kk -> t ⟨N, D.rt, D.bk, D.ct⟩ σ H)
   (h2 : ∀ s σ H, KK s -> Inv s σ H -> u D σ H) : tSeq t u D σ H := h1 KK (u D) h2 hf
theorem M.openQ {v : V} {ds : List PyData} (S : M (da K v (.list ds) :: Rs) H) : ∃ a vs, v = .ref a /\ M (rdL K a vs :: daA K vs ds :: Rs) H := by
 obtain ⟨F, L, ⟨l1, l2, rfl, ⟨rfl, e⟩, b⟩, m⟩ := S
 cases e with
 | lst h1 h2 => exact ⟨_, _, rfl, F, l2, ⟨[], l2, rfl, ⟨rfl, h1⟩, [], l2, rfl, ⟨rfl, h2⟩, b⟩, m⟩
theorem DqAll.len : ∀ {vs : List V} {ds : List PyData}, DqAll K H vs ds -> vs.length = ds.length
 | _, _, .nil => rfl
 | _, _, .cons _ r => by rw [List.length_cons, List.length_cons, DqAll.len r]
theorem DqAll.at : ∀ {vs : List V} {ds : List PyData}, DqAll K H vs ds -> ∀ {i : Nat} {v : V} {d : PyData}, vs[i]? = some v -> ds[i]? = some d -> Dq K H v d
 | _, _, .nil, i, v, d, h, _ => by simp at h
 | _, _, .cons a r, 0, v, d, h, g => by
   cases (Option.some.inj (show some _ = some v from h))
   cases (Option.some.inj (show some _ = some d from g))
   exact a
 | _, _, .cons a r, i + 1, v, d, h, g => DqAll.at r (by simpa using h) (by simpa using g)
theorem M.gotAA {vs : List V} {ds : List PyData} (S : M Rs H) (i : Nat) (e : Rs[i]? = some (daA K vs ds)) : DqAll K H vs ds := by
 obtain ⟨F, L, s, m⟩ := S
 obtain ⟨l, h⟩ := s.get i e
 exact DqAll_ext m.ex h.2
theorem M.elA {e : α -> PyData} {vs : List V} {xs : List α} {i : Nat} {v : V} {x : α} (S : M Rs H) (j : Nat) (hj : Rs[j]? = some (daA K vs (xs.map e))) (hv : vs[i]? = some v) (hx : xs[i]? = some x) : M (da K v (e x) :: Rs) H :=
 S.addA λ F L s => by
   obtain ⟨l, h⟩ := s.get j hj
   exact h.2.at hv (by rw [List.getElem?_map, hx]; rfl)
theorem rng_len (n : Int) : (rng n).length = n.toNat := by simp [rng]
theorem rng_get {n : Int} {i : Nat} (h : i < n.toNat) : (rng n)[i]? = some ((0 : Int) + (i : Nat)) := by
 unfold rng
 rw [List.getElem?_map, List.getElem?_range h]
 rfl
theorem for_rng {F : Int -> β -> (β -> Prop) -> Prop} {n : Int} {s0 : β} {KK : β -> Prop} {g : TG} {tb : TS} (hf : forD F (rng n) s0 KK) (Inv : β -> L2.St -> Hp -> Prop) (h0 : Inv s0 σ H)
   (hs : ∀ x s σ H (kk : β -> Prop), Inv s σ H -> F x s kk -> g (.int x) σ H λ σ2 H2 => tb ⟨λ σ H => ∃ s', kk s' /\ Inv s' σ H, D.rt, D.nx, λ σ H => ∃ s', kk s' /\ Inv s' σ H⟩ σ2 H2)
   (hd : ∀ s σ H, KK s -> Inv s σ H -> D.nx σ H) : ForW (Itr 0 n.toNat) g tb D σ H := by
 refine for_W walk_range (λ i σ H => ∃ s, forD F ((rng n).drop i) s KK /\ Inv s σ H) ⟨s0, by simpa using hf, h0⟩ (λ _ _ _ _ _ => trivial) ?_ ?_
 · rintro i v σ H H' hi ⟨s, hf, h⟩ ⟨rfl, rfl⟩
   have hi2 : i < (rng n).length := by rw [rng_len]; exact hi
   rw [List.drop_eq_getElem_cons hi2] at hf
   have e : (rng n)[i] = (0 : Int) + (i : Nat) := Option.some.inj ((List.getElem?_eq_getElem hi2).symm.trans (rng_get hi))
   rw [e] at hf
   exact hs _ s σ H' _ h hf
 · rintro σ H ⟨s, hf, h⟩
   rw [<- rng_len, List.drop_length] at hf
   exact hd s σ H hf h
def acR (K : Fr) (E : Addr) (ds : List PyData) : Res := exi λ vs => sp2 (pt E (.lst vs)) (daA K vs ds)
theorem acR_nil {E : Addr} (S : M (pt E (.lst []) :: Rs) H) : M (acR K E [] :: Rs) H := by
 obtain ⟨F, L, ⟨l1, l2, rfl, a, b⟩, m⟩ := S
 exact ⟨F, _, ⟨l1, l2, rfl, ⟨[], l1, [], by simp, a, rfl, .nil⟩, b⟩, m⟩
theorem acR_fix {E : Addr} {ds : List PyData} (S : M (acR K E ds :: Rs) H) : M (da K (.ref E) (.list ds) :: Rs) H := by
 obtain ⟨vs, S⟩ := S.ex
 obtain ⟨F, L, ⟨l1, l2, rfl, ⟨rfl, fp⟩, l3, l4, rfl, ⟨rfl, q⟩, b⟩, m⟩ := S.sp.fix
 exact ⟨F, l4, ⟨[], l4, rfl, ⟨rfl, .lst (.inl (.inl fp)) q⟩, b⟩, m⟩
theorem DqAll.snoc {v : V} {d : PyData} (h : Dq K H v d) : ∀ {vs : List V} {ds : List PyData}, DqAll K H vs ds -> DqAll K H (vs ++ [v]) (ds ++ [d])
 | _, _, .nil => .cons h .nil
 | _, _, .cons a r => .cons a (DqAll.snoc h r)
theorem acR_put {N : Hp -> Prop} {E : Addr} {ds : List PyData} {y : V} {d : PyData} (S : M Rs H) (j : Nat) (hj : Rs[j]? = some (acR K E ds)) (h : EnF Rs (λ F => Dq K F y d)) (hz : ds.length < 100000) (k : ∀ H', M (acR K E (ds ++ [d]) :: Rs.eraseIdx j) H' -> N H') : LcK N E y H := by
 have S0 : M (da K y d :: Rs) H := S.addA h
 have S1 : M (acR K E ds :: da K y d :: Rs.eraseIdx j) H := (S0.at (j + 1) (by simpa using hj))
 obtain ⟨vs, S2⟩ := S1.ex
 have S3 := S2.sp
 have hl : vs.length = ds.length := (S3.gotAA 1 rfl).len
 refine ⟨vs, S3.got 0 rfl, Nat.lt_of_lt_of_le (by rw [hl]; exact hz) (by decide), k _ ?_⟩
 have S4 := S3.putAt (o' := .lst (vs ++ [y])) 0 rfl
 obtain ⟨F, L, ⟨l1, l2, rfl, a, l3, l4, rfl, ⟨rfl, q⟩, l5, l6, rfl, ⟨rfl, q2⟩, b⟩, m⟩ := S4
 exact ⟨F, _, ⟨l1, l6, by simp, ⟨vs ++ [y], l1, [], by simp, a, rfl, DqAll.snoc q2 q⟩, b⟩, m⟩
theorem lc_lst {te : TE} {tt : TT} {g : TG} {ws : List Nat} {F : α -> (Option β -> Prop) -> Prop} {e : α -> PyData} {e' : β -> PyData} {xs : List α} {vs : List V} {KK : List β -> Prop} {a : Addr} (hf : xs.length <= 100000 /\ lcD F xs [] KK) (S : M Rs H)
   (hrd : ∀ H, M Rs H -> SqL K H a vs /\ DqAll K H vs (xs.map e))
   (hs : ∀ (i : Nat) v x (acc : List β) E H (kk : Option β -> Prop) (N : Hp -> Prop), (acc.map e').length < 100000 -> M (acR K E (acc.map e') :: Rs) H -> vs[i]? = some v -> xs[i]? = some x -> F x kk ->
     (∀ y H, kk (some y) -> M (acR K E (acc.map e' ++ [e' y]) :: Rs) H -> N H) -> (∀ H, kk none -> M (acR K E (acc.map e') :: Rs) H -> N H) -> g v (wipe σ ws) H λ σ2 H2 => wipe σ2 ws = wipe σ ws /\ tt σ2 H2 λ b H3 =>
     if b = true then te σ2 H3 (LcK N E) else N H3)
   (hd : ∀ E (acc : List β) H, KK acc -> M (acR K E (acc.map e') :: Rs) H -> Q (.ref E) H) : LcW (Itl K a) g tt te ws σ Q H := by
 obtain ⟨hz, hf⟩ := hf
 have hl : vs.length = xs.length := by
   have := (hrd H S).2.len
   rwa [List.length_map] at this
 refine lc_X walk_list (λ E i H => ∃ acc, lcD F (xs.drop i) acc KK /\ acc.length <= i /\ M (acR K E (acc.map e') :: Rs) H) (λ E hE => ⟨[], by simpa using hf, Nat.le_refl _, acR_nil (S.new hE)⟩) (λ E i H _ ⟨acc, _, _, S⟩ => (hrd H S.tl).1) ?_ ?_
 · rintro E i v H H' hi ⟨acc, hf, ha, S⟩ ⟨rfl, hv⟩
   have hi2 : i < xs.length := by omega
   rw [List.drop_eq_getElem_cons hi2] at hf
   refine hs i v _ acc E H' _ _ (by rw [List.length_map]; omega) S hv (List.getElem?_eq_getElem hi2) hf (λ y H hk S => ⟨acc ++ [y], hk, by rw [List.length_append]; simpa using ha, by rw [List.map_append]; exact S⟩) (λ H hk S => ⟨acc, ?_, by omega, S⟩)
   simpa using hk
 · rintro E H ⟨acc, hf, ha, S⟩
   rw [hl, List.drop_length] at hf
   exact hd E acc H hf S
theorem lc_rng {te : TE} {tt : TT} {g : TG} {ws : List Nat} {F : Int -> (Option β -> Prop) -> Prop} {e' : β -> PyData} {n : Int} {KK : List β -> Prop} (hf : (rng n).length <= 100000 /\ lcD F (rng n) [] KK) (S : M Rs H)
   (hs : ∀ x (acc : List β) E H (kk : Option β -> Prop) (N : Hp -> Prop), (acc.map e').length < 100000 -> M (acR K E (acc.map e') :: Rs) H -> F x kk ->
     (∀ y H, kk (some y) -> M (acR K E (acc.map e' ++ [e' y]) :: Rs) H -> N H) -> (∀ H, kk none -> M (acR K E (acc.map e') :: Rs) H -> N H) -> g (.int x) (wipe σ ws) H λ σ2 H2 => wipe σ2 ws = wipe σ ws /\ tt σ2 H2 λ b H3 =>
     if b = true then te σ2 H3 (LcK N E) else N H3)
   (hd : ∀ E (acc : List β) H, KK acc -> M (acR K E (acc.map e') :: Rs) H -> Q (.ref E) H) : LcW (Itr 0 n.toNat) g tt te ws σ Q H := by
 obtain ⟨hz, hf⟩ := hf
 rw [rng_len] at hz
 refine lc_X walk_range (λ E i H => ∃ acc, lcD F ((rng n).drop i) acc KK /\ acc.length <= i /\ M (acR K E (acc.map e') :: Rs) H) (λ E hE => ⟨[], by simpa using hf, Nat.le_refl _, acR_nil (S.new hE)⟩) (λ E i H _ _ => trivial) ?_ ?_
 · rintro E i v H H' hi ⟨acc, hf, ha, S⟩ ⟨rfl, rfl⟩
   have hi2 : i < (rng n).length := by rw [rng_len]; exact hi
   rw [List.drop_eq_getElem_cons hi2] at hf
   have e : (rng n)[i] = (0 : Int) + (i : Nat) := Option.some.inj ((List.getElem?_eq_getElem hi2).symm.trans (rng_get hi))
   rw [e] at hf
   refine hs _ acc E H' _ _ (by rw [List.length_map]; omega) S hf (λ y H hk S => ⟨acc ++ [y], hk, by rw [List.length_append]; simpa using ha, by rw [List.map_append]; exact S⟩) (λ H hk S => ⟨acc, ?_, by omega, S⟩)
   simpa using hk
 · rintro E H ⟨acc, hf, ha, S⟩
   rw [<- rng_len, List.drop_length] at hf
   exact hd E acc H hf S
theorem M.fixG {p : Addr} {o : HO} {R : Res} {φ : Hp -> Prop} (S : M (pt p o :: Rs) H) (h : EnF Rs φ) (k : ∀ F, φ F -> F p = some o -> R.on F []) : M (R :: Rs) H := by
 obtain ⟨F, L, ⟨l1, l2, rfl, ⟨rfl, fp⟩, s⟩, m⟩ := S.fix
 exact ⟨F, l2, ⟨[], l2, rfl, k F (h F l2 s) fp, s⟩, m⟩
theorem M.own {p : Addr} {vs : List V} {ds : List PyData} (S : M (pt p (.lst vs) :: Rs) H) (h : EnF Rs (λ F => DqAll K F vs ds)) : M (acR K p ds :: Rs) H := by
 obtain ⟨F, L, ⟨l1, l2, rfl, a, b⟩, m⟩ := S
 exact ⟨F, _, ⟨l1, l2, rfl, ⟨vs, l1, [], by simp, a, rfl, h F l2 b⟩, b⟩, m⟩
theorem v_lsto {vs : List V} {ds : List PyData} (S : M Rs H) (h : EnF Rs (λ F => DqAll K F vs ds)) (hn : vs.length <= 100000) (k : ∀ p H', M (acR K p ds :: Rs) H' -> Q (.ref p) H') : LstK Q vs H :=
 v_lst S hn λ p H' S' => k p H' (S'.own h)
theorem v_tupq {vs : List V} {ds : List PyData} (S : M Rs H) (h : EnF Rs (λ F => DqAll K F vs ds)) (hn : vs.length <= 100000) (k : ∀ p H', M (da K (.ref p) (.tuple ds) :: Rs) H' -> Q (.ref p) H') : TupK Q vs H :=
 v_tup S hn λ p H' S' => k p H' (S'.fixG h λ F q fp => ⟨rfl, .tup (.inl (.inl fp)) q⟩)
theorem atI_get {γ : Type} {xs : List γ} {i : Int} {x : γ} (h : atI xs i = some x) : ∃ j, ixN xs.length i = some j /\ xs[j]? = some x := by
 unfold atI at h
 cases e : ixN xs.length i with
 | none => rw [e] at h; cases h
 | some j => rw [e] at h; exact ⟨j, rfl, h⟩
theorem atI_of {γ : Type} {xs : List γ} {i : Int} {x : γ} {j : Nat} (h1 : ixN xs.length i = some j) (h2 : xs[j]? = some x) : atI xs i = some x := by
 unfold atI
 rw [h1]
 exact h2
theorem DqAll.get {vs : List V} {ds : List PyData} {j : Nat} {d : PyData} (q : DqAll K H vs ds) (h : ds[j]? = some d) : ∃ v, vs[j]? = some v /\ Dq K H v d := by
 have hj : j < vs.length := by rw [q.len]; exact (List.getElem?_eq_some_iff.mp h).1
 exact ⟨_, List.getElem?_eq_getElem hj, q.at (List.getElem?_eq_getElem hj) h⟩
theorem v_ixq {v : V} {ds : List PyData} {i : Int} {d : PyData} (S : M Rs H) (hj : EnF Rs (λ F => Dq K F v (.list ds)) \/ EnF Rs (λ F => Dq K F v (.tuple ds))) (hx : atI ds i = some d) (k : ∀ u, M (da K u d :: Rs) H -> Q u H) : uIx K v (.int i) H Q := by
 obtain ⟨j, h1, h2⟩ := atI_get hx
 obtain ⟨F, L, s, m⟩ := S
 rcases hj with hj | hj
 · cases hj F L s with
   | lst a q =>
     obtain ⟨u, h3, h4⟩ := q.get h2
     exact v_ixL (m.ex.sqL a) (atI_of (by rw [q.len]; exact h1) h3) (k u ⟨F, L, ⟨[], L, rfl, ⟨rfl, h4⟩, s⟩, m⟩)
 · cases hj F L s with
   | tup a q =>
     obtain ⟨u, h3, h4⟩ := q.get h2
     exact v_ixT (m.ex.sqT a) (atI_of (by rw [q.len]; exact h1) h3) (k u ⟨F, L, ⟨[], L, rfl, ⟨rfl, h4⟩, s⟩, m⟩)
theorem atI_map {γ δ : Type} {f : γ -> δ} {xs : List γ} {i : Int} {x : γ} (h : atI xs i = some x) : atI (xs.map f) i = some (f x) := by
 obtain ⟨j, h1, h2⟩ := atI_get h
 exact atI_of (by rw [List.length_map]; exact h1) (by rw [List.getElem?_map, h2]; rfl)
theorem v_ixl {e : α -> PyData} {v : V} {xs : List α} {i : Int} {x : α} (S : M Rs H) (j : Nat) (hj : Rs[j]? = some (da K v (eL e xs))) (hx : atI xs i = some x) (k : ∀ u, M (da K u (e x) :: Rs) H -> Q u H) : uIx K v (.int i) H Q :=
 v_ixq S (.inl (EnF.at j hj)) (atI_map hx) k
theorem Dq.intV {v : V} {i : Int} (h : Dq K H v (.int i)) : v = .int i := by cases h; rfl
theorem Dq.blV {v : V} {i : Bool} (h : Dq K H v (.bool i)) : v = .bl i := by cases h; rfl
theorem DqAll.app : ∀ {vs ws : List V} {ds es : List PyData}, DqAll K H vs ds -> DqAll K H ws es -> DqAll K H (vs ++ ws) (ds ++ es)
 | _, _, _, _, .nil, h => h
 | _, _, _, _, .cons a r, h => .cons a (DqAll.app r h)
theorem len_ok {n : Nat} (h : Nat.ble n 100000 = true) : n <= 100000 := Nat.le_of_ble_eq_true h
theorem acR_fixL {e : α -> PyData} {E : Addr} {xs : List α} (S : M (acR K E (xs.map e) :: Rs) H) : M (da K (.ref E) (eL e xs) :: Rs) H := acR_fix S
theorem v_catq {e : α -> PyData} {v w : V} {xs ys : List α} (S : M Rs H) (i j : Nat) (hi : Rs[i]? = some (da K v (eL e xs))) (hj : Rs[j]? = some (da K w (eL e ys))) (hz : xs.length + ys.length <= 100000) (k : ∀ p H', M (acR K p ((xs ++ ys).map e) :: Rs) H' -> Q (.ref p) H') : uAdd K v w H Q := by
 obtain ⟨F, L, s, m⟩ := S
 have d := EnF.at i hi F L s
 have d' := EnF.at j hj F L s
 cases d with
 | lst a q =>
   cases d' with
   | lst a' q' =>
     have l1 := q.len
     have l2 := q'.len
     rw [List.length_map] at l1 l2
     refine v_catS (⟨F, L, ⟨[], L, rfl, ⟨rfl, q.app q'⟩, s⟩, m⟩ : M (daA K _ (xs.map e ++ ys.map e) :: Rs) H) (m.ex.sqL a) (m.ex.sqL a') (by rw [l1, l2]; exact hz) λ p H' S' => k p H' ?_
     obtain ⟨F, L, ⟨l1, l2, rfl, a1, l3, l4, rfl, ⟨rfl, q1⟩, b⟩, m⟩ := S'
     exact ⟨F, _, ⟨l1, l4, rfl, ⟨_, l1, [], by simp, a1, rfl, by rw [List.map_append]; exact q1⟩, b⟩, m⟩
theorem v_lenq {v : V} {ds : List PyData} (S : M Rs H) (h : EnF Rs (λ F => Dq K F v (.list ds)) \/ EnF Rs (λ F => Dq K F v (.tuple ds))) (k : Q (.int (ds.length : Nat)) H) : uLen K [v] H Q := by
 obtain ⟨F, L, s, m⟩ := S
 rcases h with h | h
 · cases h F L s with
   | lst a q => exact .inl ⟨_, _, rfl, .inl ⟨_, m.ex.sqL a, q.len.symm⟩, k⟩
 · cases h F L s with
   | tup a q => exact .inl ⟨_, _, rfl, .inr ⟨_, m.ex.sqT a, q.len.symm⟩, k⟩
theorem v_lenl {e : α -> PyData} {v : V} {xs : List α} (S : M Rs H) (j : Nat) (hj : Rs[j]? = some (da K v (eL e xs))) (k : Q (.int (xs.length : Nat)) H) : uLen K [v] H Q :=
 v_lenq S (.inl (EnF.at j hj)) (by rw [List.length_map]; exact k)
end
end RC

namespace RC
open PySem PySem.Spec PyProof.Rows L2
section
variable {κ α : Type} [DecidableEq κ]
def lk (m : List (κ × α)) (k : κ) : Option α := (m.find? λ p => decide (p.1 = k)).map (·.2)
def pk (m : List (κ × α)) (k : κ) (x : α) : List (κ × α) := if (m.any λ p => decide (p.1 = k)) = true then m.map (λ p => if p.1 = k then (p.1, x) else p) else m ++ [(k, x)]
def dk (m : List (κ × α)) (k : κ) : List (κ × α) := m.filter λ p => decide (p.1 ≠ k)
def ks (m : List (κ × α)) : List κ := m.map (·.1)
theorem lk_cons (p : κ × α) (m : List (κ × α)) (k : κ) : lk (p :: m) k = if p.1 = k then some p.2 else lk m k := by
 unfold lk
 rw [List.find?_cons]
 by_cases h : p.1 = k
 · simp [h]
 · simp [h]
theorem any_lk (m : List (κ × α)) (k : κ) : (m.any λ p => decide (p.1 = k)) = (lk m k).isSome := by
 induction m with
 | nil => rfl
 | cons p m ih =>
   rw [List.any_cons, ih, lk_cons]
   by_cases h : p.1 = k
   · simp [h]
   · simp [h]
end
inductive TKv {κ α : Type} (K : Fr) (H : Hp) (ik : κ -> Key) (e : α -> PyData) : List (Key × V) -> List (κ × α) -> Prop
 | nil : TKv K H ik e [] []
 | cons {k : κ} {v : V} {x : α} {r : List (Key × V)} {m : List (κ × α)} (h : Dq K H v (e x)) (t : TKv K H ik e r m) : TKv K H ik e ((ik k, v) :: r) ((k, x) :: m)
section
variable {κ α : Type} {K : Fr} {H H' : Hp} {ik : κ -> Key} {e : α -> PyData} {kvs : List (Key × V)} {m : List (κ × α)}
theorem TKv.ext (x : Ext H H') : ∀ {kvs : List (Key × V)} {m : List (κ × α)}, TKv K H ik e kvs m -> TKv K H' ik e kvs m
 | _, _, .nil => .nil
 | _, _, .cons h t => .cons (Dq_ext x h) (TKv.ext x t)
theorem TKv.kv : ∀ {kvs : List (Key × V)} {m : List (κ × α)}, TKv K H ik e kvs m -> DqKv K H kvs (m.map λ p => (kD (ik p.1), e p.2))
 | _, _, .nil => .nil
 | _, _, .cons h t => .cons h (TKv.kv t)
theorem TKv.len : ∀ {kvs : List (Key × V)} {m : List (κ × α)}, TKv K H ik e kvs m -> kvs.length = m.length
 | _, _, .nil => rfl
 | _, _, .cons h t => by rw [List.length_cons, List.length_cons, TKv.len t]
theorem TKv.keys : ∀ {kvs : List (Key × V)} {m : List (κ × α)}, TKv K H ik e kvs m -> kvs.map (·.1) = (ks m).map ik
 | _, _, .nil => rfl
 | _, _, .cons h t => by
   have := TKv.keys t
   simp only [ks, List.map_cons] at this ⊢
   rw [this]
variable [DecidableEq κ]
theorem TKv.some (inj : ∀ a b, ik a = ik b -> a = b) {k : κ} {x : α} : ∀ {kvs : List (Key × V)} {m : List (κ × α)}, TKv K H ik e kvs m -> lk m k = some x -> ∃ v, valV kvs (ik k) = Option.some v /\ Dq K H v (e x)
 | _, _, .nil, h => by cases h
 | _, _, .cons (k := k') h t, g => by
   rw [lk_cons] at g
   by_cases z : k' = k
   · subst z
     rw [if_pos rfl] at g
     cases g
     exact ⟨_, valV_pos rfl, h⟩
   · rw [if_neg z] at g
     obtain ⟨v, a, b⟩ := TKv.some inj t g
     exact ⟨v, by rw [valV_neg (λ q => z (inj _ _ q))]; exact a, b⟩
theorem TKv.none (inj : ∀ a b, ik a = ik b -> a = b) {k : κ} : ∀ {kvs : List (Key × V)} {m : List (κ × α)}, TKv K H ik e kvs m -> lk m k = none -> valV kvs (ik k) = Option.none
 | _, _, .nil, h => rfl
 | _, _, .cons (k := k') h t, g => by
   rw [lk_cons] at g
   by_cases z : k' = k
   · subst z
     rw [if_pos rfl] at g
     cases g
   · rw [if_neg z] at g
     rw [valV_neg (λ q => z (inj _ _ q))]
     exact TKv.none inj t g
theorem TKv.isSome (inj : ∀ a b, ik a = ik b -> a = b) (t : TKv K H ik e kvs m) (k : κ) : (valV kvs (ik k)).isSome = (lk m k).isSome := by
 cases h : lk m k with
 | none =>
   rw [t.none inj h]
   rfl
 | some x =>
   obtain ⟨v, a, _⟩ := t.some inj h
   rw [a]
   rfl
theorem TKv.app {r : List (Key × V)} {n : List (κ × α)} (b : TKv K H ik e r n) : ∀ {kvs : List (Key × V)} {m : List (κ × α)}, TKv K H ik e kvs m -> TKv K H ik e (kvs ++ r) (m ++ n)
 | _, _, .nil => b
 | _, _, .cons h t => .cons h (TKv.app b t)
theorem TKv.upd (inj : ∀ a b, ik a = ik b -> a = b) {k : κ} {x : α} {v : V} (d : Dq K H v (e x)) : ∀ {kvs : List (Key × V)} {m : List (κ × α)}, TKv K H ik e kvs m ->
   TKv K H ik e (kvs.map λ kv => if kv.1 = ik k then (kv.1, v) else kv) (m.map λ p => if p.1 = k then (p.1, x) else p)
 | _, _, .nil => .nil
 | _, _, .cons (k := k') h t => by
   rw [List.map_cons, List.map_cons]
   by_cases z : k' = k
   · subst z
     rw [if_pos rfl, if_pos rfl]
     exact .cons d (TKv.upd inj d t)
   · rw [if_neg (λ q => z (inj _ _ q)), if_neg z]
     exact .cons h (TKv.upd inj d t)
theorem TKv.put (inj : ∀ a b, ik a = ik b -> a = b) {k : κ} {x : α} {v : V} (t : TKv K H ik e kvs m) (d : Dq K H v (e x)) : TKv K H ik e (putK kvs (ik k) v) (pk m k x) := by
 unfold putK pk
 rw [any_lk m k, valV_any (ik k) kvs, t.isSome inj]
 cases lk m k with
 | none =>
   rw [if_neg (by simp), if_neg (by simp)]
   exact TKv.app (.cons d .nil) t
 | some y =>
   rw [if_pos (by rfl), if_pos (by rfl)]
   exact TKv.upd inj d t
theorem TKv.drop (inj : ∀ a b, ik a = ik b -> a = b) {k : κ} : ∀ {kvs : List (Key × V)} {m : List (κ × α)}, TKv K H ik e kvs m -> TKv K H ik e (dropK kvs (ik k)) (dk m k)
 | _, _, .nil => .nil
 | _, _, .cons (k := k') h t => by
   have ih := TKv.drop (k := k) inj t
   unfold dropK dk at ih ⊢
   by_cases z : k' = k
   · subst z
     rw [List.filter_cons_of_neg (by simp), List.filter_cons_of_neg (by simp)]
     exact ih
   · rw [List.filter_cons_of_pos (by simpa using λ q => z (inj _ _ q)), List.filter_cons_of_pos (by simpa using z)]
     exact .cons h ih
end
theorem injI (a b : Int) (h : iI a = iI b) : a = b := Sum.inl.inj h
theorem injS (a b : Str) (h : iS a = iS b) : a = b := Sum.inr.inj h
section
variable {κ α : Type} {K : Fr} {ik : κ -> Key} {e : α -> PyData} {m : List (κ × α)} {Rs : List Res} {H : Hp} {Q : VK} {σ : L2.St} {D : Ends} {p : Addr}
def tkR (K : Fr) (ik : κ -> Key) (e : α -> PyData) (kvs : List (Key × V)) (m : List (κ × α)) : Res := ⟨λ F l => l = [] /\ TKv K F ik e kvs m, λ _ _ _ x h => ⟨h.1, TKv.ext x h.2⟩⟩
def adR (K : Fr) (ik : κ -> Key) (e : α -> PyData) (p : Addr) (m : List (κ × α)) : Res := exi λ kvs => sp2 (pt p (.dK kvs)) (tkR K ik e kvs m)
theorem adR_open (S : M Rs H) (j : Nat) (hj : Rs[j]? = some (adR K ik e p m)) : ∃ kvs, M (pt p (.dK kvs) :: tkR K ik e kvs m :: Rs.eraseIdx j) H := by
 obtain ⟨kvs, S1⟩ := (S.at j hj).ex
 exact ⟨kvs, S1.sp⟩
theorem adR_close {kvs : List (Key × V)} (S : M (pt p (.dK kvs) :: tkR K ik e kvs m :: Rs) H) : M (adR K ik e p m :: Rs) H := M.ex' (T := λ kvs => sp2 (pt p (.dK kvs)) (tkR K ik e kvs m)) kvs S.sp'
theorem v_dnewo (S : M Rs H) (k : ∀ p H', M (adR K ik e p ([] : List (κ × α)) :: Rs) H' -> Q (.ref p) H') : tDNewK σ H Q := v_dnew S λ p H' S' => k p H' (by
 obtain ⟨F, L, ⟨l1, l2, rfl, a, b⟩, mm⟩ := S'
 exact ⟨F, _, ⟨l1, l2, rfl, ⟨[], l1, [], by simp, a, rfl, .nil⟩, b⟩, mm⟩)
variable [DecidableEq κ]
def FzK (Q : VK) : VK := λ v H => Q v H \/ ∃ d u, H d = some u /\ Mut (some u) /\ ∀ od, Q v (upd H d (.frz od u))
def tFzE (t : TE) : TE := λ σ H Q => t σ H (FzK Q)
theorem pe_fz {X : Cx} {x : Expr} {t : TE} (h : PE X x t) : PE X x (tFzE t) := ⟨λ pins s σ H Q I hw => thn (h.run pins s σ H _ I hw) λ v s1 ⟨y, H1, I1, r, q⟩ => by
 rcases q with q | ⟨d, u, hd, mu, q⟩
 · exact ⟨y, H1, I1, r, q⟩
 · obtain ⟨od, I2⟩ := I1.lock hd mu
   exact ⟨y, _, I2, r, q od⟩⟩
theorem adR_frz {kvs : List (Key × V)} {od : Obj} (S : M (pt p (.dK kvs) :: tkR K ik e kvs m :: Rs) H) : M (da K (.ref p) (eD ik e m) :: Rs) (upd H p (.frz od (.dK kvs))) := by
 have S1 : M (pt p (.frz od (.dK kvs)) :: tkR K ik e kvs m :: Rs) (upd H p (.frz od (.dK kvs))) := S.putAt 0 rfl
 obtain ⟨F, L, ⟨l1, l2, rfl, ⟨rfl, fp⟩, l3, l4, rfl, ⟨rfl, t⟩, b⟩, mm⟩ := S1.fix
 exact ⟨F, l4, ⟨[], l4, rfl, ⟨rfl, .dct fp t.kv⟩, b⟩, mm⟩
theorem v_fzD {v : V} (S : M Rs H) (j : Nat) (hj : Rs[j]? = some (adR K ik e p m)) (k : ∀ H', M (da K (.ref p) (eD ik e m) :: Rs.eraseIdx j) H' -> Q v H') : FzK Q v H := by
 obtain ⟨kvs, S1⟩ := adR_open S j hj
 exact .inr ⟨p, .dK kvs, S1.got 0 rfl, trivial, λ od => k _ (adR_frz S1)⟩
end
end RC
namespace RC
open PySem PySem.Spec PyProof.Rows L2
def leS (a b : Str) : Bool := !ltCps b.cps.toList a.cps.toList
def srtS' (xs : List Str) : List Str := xs.mergeSort leS
section
variable {α : Type} {K : Fr} {e : α -> PyData} {Rs : List Res} {H : Hp} {Q : VK} {p : Addr}
end
end RC

namespace RC
open PySem PySem.Spec PyProof.Rows L2
section
variable {α β : Type} {K : Fr} {σ : L2.St} {H : Hp} {Q : VK} {D : Ends} {Rs : List Res} {ta tb tc te : TE} {tt s : TT} {c1 c2 : Bool} {x y z : V} {p : Addr}
theorem tt_cut {P : Bool -> Hp -> Prop} {m : (Bool -> Prop) -> Prop} {KK : Bool -> Prop} (hf : jn m KK) (Inv : Hp -> Prop) (h1 : ∀ (kk : Bool -> Prop) (P' : Bool -> Hp -> Prop), (∀ c H, kk c -> Inv H -> P' c H) -> m kk -> tt σ H P')
   (h2 : ∀ c H, KK c -> Inv H -> P c H) : tt σ H P := h1 KK P h2 hf
theorem te_cut {m : (Bool -> Prop) -> Prop} {KK : Bool -> Prop} (hf : jn m KK) (Inv : Hp -> Prop) (h1 : ∀ (kk : Bool -> Prop) (P' : VK), (∀ c H, kk c -> Inv H -> P' (.bl c) H) -> m kk -> te σ H P')
   (h2 : ∀ c H, KK c -> Inv H -> Q (.bl c) H) : te σ H Q := h1 KK Q h2 hf
abbrev EqOk (d : PyData) : Prop := SeqAt.shaped d = true
theorem EqOk.nodict {d : PyData} (h : EqOk d) : d.hasDict = false := PyData.hasDict_of_canLay d (SeqAt.canLay_of_shaped h)
theorem v_neq {d e : PyData} (h1 : Dq K H x d) (h2 : Dq K H y e) (s1 : EqOk d) (s2 : EqOk e) (k : Q (.bl (!PyData.eqv d e)) H) : uNe K x y H Q := v_neD (h1.dp s1.nodict) (h2.dp s2.nodict) s1 s2 k
theorem v_itLe {a : Addr} {xs : List V} {v : V} {R : It -> Hp -> Prop} (e : v = .ref a) (h : SqL K H a xs) (k : R (Itl K a) H) : ItL K R v H := ⟨a, e, ⟨xs, h⟩, k⟩
theorem sqL_ty {a : Addr} {xs : List V} (h : SqL K H a xs) : TyX K H (.ref a) (.type "list") := by
 rcases h with (h | ⟨o, h⟩) | ⟨o, its, n, h, hc, _⟩
 · exact .base (.lst h)
 · exact .base (.frz h)
 · exact .kList h hc
theorem sqT_ty {a : Addr} {xs : List V} (h : SqT K H a xs) : TyX K H (.ref a) (.type "tuple") := by
 rcases h with (h | ⟨o, h⟩) | ⟨o, its, n, h, hc, _⟩
 · exact .base (.tup h)
 · exact .fTuple h
 · exact .kTuple h hc
def tyN : PyData -> String
 | .none => "NoneType"
 | .bool _ => "bool"
 | .int _ => "int"
 | .str _ => "str"
 | .list _ => "list"
 | .tuple _ => "tuple"
 | .dict _ => "dict"
def isA (c : String) (d : PyData) : Bool := decide (tyN d = c) || (decide (tyN d = "bool") && decide (c = "int"))
def rIsiD (K : Fr) : List V -> Hp -> VK -> Prop := λ xs H Q => ∃ (a : Addr) (kvs : List (Key × V)) (c : V) (u : Value) (b : Bool), xs = [.ref a, c] /\ ClsV c u /\ Rd H a (.dK kvs) /\ PySem.W.kitOne K (.type "dict") u = some b /\ Q (.bl b) H
theorem cr_isiD {X : Cx} : CallR X (.builtin "isinstance") (rIsiD X.K) := by
 intro pins s σ H xs us Q I r h
 obtain ⟨a, kvs, c, u, b, rfl, hc, hr, e, q⟩ := h
 obtain ⟨u1, u2, rfl, r1, r2⟩ := vals2 r
 cases (show u1 = Value.ref a from r1)
 have e2 := hc.eq r2
 subst e2
 obtain ⟨_, _, vs, _, o, es, ep, h1, h2, _⟩ := dk_rd I.hok hr
 exact PySem.W.kia_one PySem.W.kitx_dict I.kIn ⟨o, h1, h2.1⟩ e (λ z => nomatch z) λ tk => ⟨.bl b, H, I.tok tk, rfl, q⟩
def uIsi (K : Fr) : List V -> Hp -> VK -> Prop := λ xs H Q => rIsi K xs H Q \/ rIsiD K xs H Q
theorem cr_isiQ {X : Cx} : CallR X (.builtin "isinstance") (uIsi X.K) := call_isi.or cr_isiD
theorem Dn.ty {v : V} {d : PyData} (h : Dn K H v d) : TyX K H v (.type (tyN d)) \/ (∃ a kvs, v = .ref a /\ Rd H a (.dK kvs) /\ tyN d = "dict") := by
 cases h with
 | non => exact .inl (.base .non)
 | bl b => exact .inl (.base (.bl b))
 | int i => exact .inl (.base (.int i))
 | str x => exact .inl (.base (.str x))
 | lst h _ => exact .inl (sqL_ty h)
 | tup h _ => exact .inl (sqT_ty h)
 | dct h _ => exact .inr ⟨_, _, rfl, h, rfl⟩
theorem kit_all : ∀ t ∈ ["NoneType", "bool", "int", "str", "list", "tuple", "dict"], ∀ c ∈ ["int", "bool", "str", "list", "tuple", "dict"], kitB t c = some (decide (t = c) || (decide (t = "bool") && decide (c = "int"))) := by decide +kernel
theorem v_isq {v : V} {d : PyData} {c : String} {b : Bool} (h : Dn K H v d) (hc : c ∈ ["int", "bool", "str", "list", "tuple", "dict"]) (hb : isA c d = b) (k : Q (.bl b) H) : uIsi K [v, .ty c] H Q := by
 subst hb
 have kk := kit_ty (K := K) (kit_all (tyN d) (by cases d <;> simp [tyN]) c hc)
 rcases h.ty with z | ⟨a, kvs, rfl, hr, e⟩
 · exact .inl (v_isi z kk k)
 · rw [e] at kk
   refine .inr ⟨a, kvs, .ty c, _, _, rfl, .ty c, hr, kk, ?_⟩
   unfold isA at k
   rw [e] at k
   exact k
end
end RC

namespace RC
open PySem PySem.Spec PyProof.Rows L2
structure Fl {α : Type} (e : α -> PyData) (sv : α -> V) : Prop where
 to : ∀ {K : Fr} {H : Hp} {v : V} {x : α}, Dq K H v (e x) -> v = sv x
 of : ∀ (K : Fr) (H : Hp) (x : α), Dq K H (sv x) (e x)
theorem flI : Fl eI V.int := ⟨Dq.intV, λ _ _ x => .int x⟩
theorem flB : Fl eB V.bl := ⟨Dq.blV, λ _ _ x => .bl x⟩
section
variable {α β : Type} {e : α -> PyData} {sv : α -> V} {K : Fr} {σ : L2.St} {H : Hp} {Q : VK} {D : Ends} {Rs : List Res} {v w : V} {xs ys : List α} {p : Addr}
theorem Fl.all (f : Fl e sv) : ∀ {vs : List V} {xs : List α}, DqAll K H vs (xs.map e) -> vs = xs.map sv
 | _, [], h => by cases h; rfl
 | _, x :: r, h => by
   cases h with
   | cons a t => rw [f.to a, Fl.all f t]; rfl
theorem Fl.ofA (f : Fl e sv) : ∀ xs : List α, DqAll K H (xs.map sv) (xs.map e)
 | [] => .nil
 | x :: r => .cons (f.of K H x) (Fl.ofA f r)
theorem Fl.lst (f : Fl e sv) (d : Dq K H v (eL e xs)) : ∃ a, v = .ref a /\ SqL K H a (xs.map sv) := by
 cases d with
 | lst h q => exact ⟨_, rfl, by rw [<- f.all q]; exact h⟩
theorem v_ixN (f : Fl e sv) (d : Dq K H v (eL e xs)) {i : Int} {x : α} (hx : atI xs i = some x) (k : Q (sv x) H) : uIx K v (.int i) H Q := by
 obtain ⟨a, rfl, h⟩ := f.lst d
 exact v_ixL h (atI_map hx) k
theorem M.ownF (f : Fl e sv) {q : Addr} (S : M (pt q (.lst (xs.map sv)) :: Rs) H) : M (acR K q (xs.map e) :: Rs) H := S.own (EnF.all λ F => f.ofA xs)
theorem v_catN (f : Fl e sv) (S : M Rs H) (d : Dq K H v (eL e xs)) (d2 : Dq K H w (eL e ys)) (hz : xs.length + ys.length <= 100000) (k : ∀ p H', M (acR K p ((xs ++ ys).map e) :: Rs) H' -> Q (.ref p) H') : uAdd K v w H Q := by
 obtain ⟨a, rfl, h⟩ := f.lst d
 obtain ⟨b, rfl, h2⟩ := f.lst d2
 refine v_catS S h h2 (by rw [List.length_map, List.length_map]; exact hz) λ p H' S' => k p H' ?_
 rw [<- List.map_append] at S'
 exact S'.ownF f
end
end RC

namespace RC
open PySem PySem.Spec PyProof.Rows L2 SeqAt
section
variable {prog : Program} {w : World}
theorem tupEq (p q : Addr) (xs ys : Array Value) (m k : Nat) (dp dq : Option Addr) (tp tq : Array (Option Value)) (hz : xs.size = ys.size) : MeetsIn prog w (Builtin.«tuple.__eq__» ⟨[.ref p, .ref q], []⟩) (λ A R s => s.heap.get? p = some ⟨.type "tuple", dp, .seq xs m, tp⟩ /\ s.heap.get? q = some ⟨.type "tuple", dq, .seq ys k, tq⟩ /\
   (∀ j (i1 : j < xs.size) (i2 : j < ys.size), EqP prog w A.in1 s xs[j] ys[j] true) /\ R (.ok (.ret (.bool true))) s) := by
 intro A R s hh
 obtain ⟨h0, g0, d0, t0, o0⟩ := s
 obtain ⟨e1, e2, he, hR⟩ := hh
 have sb := AutoSeq1.sub_tuple_tuple
 have hl : (xs.toList.zip ys.toList).length = xs.size := by simp [hz]
 wp_walk using wpAny_loadPart' e1, wpAny_loadPart' e2, wpAny_forIn_list _ (λ r b s' => b.1 = none /\ s' = ⟨h0, g0, d0, t0, o0⟩ /\ ∃ i, r = (xs.toList.zip ys.toList).drop i) _
 case turn =>
   rintro ⟨x, y⟩ r b s' ⟨hb, rfl, i, hi⟩
   have lt : i < (xs.toList.zip ys.toList).length := by
     rcases Nat.lt_or_ge i (xs.toList.zip ys.toList).length with z | z
     · exact z
     · rw [List.drop_of_length_le z] at hi
       cases hi
   rw [List.drop_eq_getElem_cons lt] at hi
   obtain ⟨hxy, hr⟩ := List.cons.inj hi
   have i1 : i < xs.size := by omega
   have i2 : i < ys.size := by omega
   have ex : x = xs[i] := by simpa using congrArg Prod.fst hxy
   have ey : y = ys[i] := by simpa using congrArg Prod.snd hxy
   subst ex ey
   refine wpAny_bind (he i i1 i2 _ _ ?_)
   wp_walk
   exact ⟨rfl, rfl, i + 1, hr⟩
 case fin =>
   rintro ⟨b1, b2⟩ s' ⟨hb, rfl, i, hi⟩
   simp only at hb
   subst hb
   wp_walk
   show R (.ok (.ret (.bool (xs.size == ys.size)))) _
   rw [hz]
   simpa using hR
 case h => exact ⟨rfl, rfl, 0, rfl⟩
variable {A : Around} {s : Shared} {p q : Addr} {xs ys : Array Value}
theorem rc_tupEq (hp : s.heap.IsTuple p xs) (hq : s.heap.IsTuple q ys) (hz : xs.size = ys.size) (hu : A.units < cLine) (he : ∀ j (i1 : j < xs.size) (i2 : j < ys.size), EqP prog w A.in1 s xs[j] ys[j] true) (E Q : Value -> Shared -> Prop) (h : Q (.bool true) s) :
   wpAny (model prog w) A (richCompare .Eq (.ref p) (.ref q)) Q E s := by
 obtain ⟨⟨c1, d1, a1, b1⟩, o1, k1, n1, z1⟩ := id hp
 obtain ⟨⟨c2, d2, a2, b2⟩, o2, k2, n2, z2⟩ := id hq
 simp only at k1 z1 k2 z2
 subst k1 z1 k2 z2
 have t1 : s.TypeIs (.ref p) "tuple" := ⟨_, o1, rfl⟩
 have t2 : s.TypeIs (.ref q) "tuple" := ⟨_, o2, rfl⟩
 exact wpAny_richCompare_same_room (op := .Eq) t1 t2 F.slot_tuple_eq (call_meetsIn F.slot_tuple_eq t1 F.entry_tuple_eq (F.args_tuple_eq_2 _ _) (tupEq p q xs ys n1 n2 d1 d2 b1 b2 hz) ⟨o1, o2, he, (λ x => nomatch x), h⟩) hu
end
section
variable {prog : Program} {w : World} {A : Around} {s : Shared} {K : Type} [DecidableEq K] {knd : KeyKind prog w K}
end
end RC

namespace RC
open PySem PySem.Spec PyProof.Rows L2
def SysD (h : Heap) : Prop := ∃ o es ep, h.get? sysModules = some o /\ o.data = .dict es ep
def NDX (h : Heap) : Prop := h.NoDigits /\ SysD h
theorem SysD.keep {h h' : Heap} (x : SysD h) (k : ∀ b o, h.get? b = some o -> h'.get? b = some o) : SysD h' := by
 obtain ⟨o, es, ep, a, b⟩ := x
 exact ⟨o, es, ep, k _ _ a, b⟩
theorem SysD.ne {h : Heap} (x : SysD h) {a : Addr} {o : Obj} {vs : Array Value} {n : Nat} (e : h.get? a = some o) (d : o.data = .seq vs n) : a ≠ sysModules := by
 rintro rfl
 obtain ⟨o', es, ep, a1, b1⟩ := x
 rw [e] at a1
 cases a1
 rw [d] at b1
 cases b1
section
variable {X : Cx} {pins : List (Addr × Obj)} {σ : L2.St} {H : Hp} {s : Shared}
theorem key_reads {k : Key} {u : Value} {h : Heap} (hk : keyIs k u = true) : Reads h u (kD k) [] := by
 rcases keyIs_shape hk with ⟨i, t, rfl, rfl⟩ | ⟨x, t, rfl, rfl⟩
 · exact .int i t
 · exact .str x t
mutual
theorem Dn.reads (I : Inv X pins σ H s) (sy : SysD s.heap) : ∀ {v : V} {d : PyData}, Dn X.K H v d -> ∀ {u : Value}, RelV v u -> ∃ as, Reads s.heap u d as /\ sysModules ∉ as
 | _, _, .non, _, r => by cases r; exact ⟨_, .none, by simp⟩
 | _, _, .bl b, _, r => by cases r; exact ⟨_, .bool b, by simp⟩
 | _, _, .int i, _, r => by obtain ⟨t, rfl⟩ := r; exact ⟨_, .int i t, by simp⟩
 | _, _, .str x, _, r => by obtain ⟨t, rfl⟩ := r; exact ⟨_, .str x t, by simp⟩
 | _, _, .lst h q, _, r => by
   cases r
   obtain ⟨its, rv, ⟨o, n, ho, hc, _, hd⟩, _⟩ := I.list h
   obtain ⟨as, hr, hn⟩ := DnAll.reads I sy q rv
   refine ⟨_, .list ho hc hd hr, ?_⟩
   intro z
   rcases List.mem_cons.mp z with z | z
   · exact sy.ne ho hd z.symm
   · exact hn z
 | _, _, .tup h q, _, r => by
   cases r
   obtain ⟨its, rv, ⟨o, ho, hc, n, hd⟩, _⟩ := I.tuple h
   obtain ⟨as, hr, hn⟩ := DnAll.reads I sy q rv
   exact ⟨_, .tuple ho hc hd hr, hn⟩
 | _, _, .dct h q, _, r => by
   cases r
   obtain ⟨_, hm, vs, rv, o, es, ep, ho, hx, hd, hk, hp, _⟩ := dk_rd I.hok h
   obtain ⟨as, bs, h1, h2, n1, n2⟩ := DnKv.reads I sy q rv hp
   refine ⟨_, .dict ho hx.1 hd h1 h2, ?_⟩
   intro z
   rcases List.mem_cons.mp z with z | z
   · rw [<- z] at hm
     simp at hm
   · rcases List.mem_append.mp z with z | z
     · exact n1 z
     · exact n2 z
theorem DnAll.reads (I : Inv X pins σ H s) (sy : SysD s.heap) : ∀ {vs : List V} {ds : List PyData}, DnAll X.K H vs ds -> ∀ {us : List Value}, Vals vs us -> ∃ as, ReadsAll s.heap us ds as /\ sysModules ∉ as
 | _, _, .nil, _, r => by cases r; exact ⟨_, .nil, by simp⟩
 | _, _, .cons h t, _, r => by
   cases r with
   | cons r1 r2 =>
     obtain ⟨as, h1, n1⟩ := Dn.reads I sy h r1
     obtain ⟨bs, h2, n2⟩ := DnAll.reads I sy t r2
     exact ⟨_, .cons h1 h2, by simp [n1, n2]⟩
theorem DnKv.reads (I : Inv X pins σ H s) (sy : SysD s.heap) : ∀ {kvs : List (Key × V)} {ds : List (PyData × PyData)}, DnKv X.K H kvs ds -> ∀ {vs : List (Key × Value)} {es : List DictEntry}, KV kvs vs -> Pairs (mixKind X.prog X.w) es vs ->
   ∃ as bs, ReadsAll s.heap (es.map (·.key)) (ds.map (·.1)) as /\ ReadsAll s.heap (es.map (·.val)) (ds.map (·.2)) bs /\ sysModules ∉ as /\ sysModules ∉ bs
 | _, _, .nil, _, _, r, p => by
   cases r
   cases p
   exact ⟨_, _, .nil, .nil, by simp, by simp⟩
 | _, _, .cons h t, _, _, r, p => by
   cases r with
   | cons r1 r2 =>
     cases p with
     | cons k1 v1 p2 =>
       obtain ⟨e1, e2⟩ := r1
       obtain ⟨as, bs, h1, h2, n1, n2⟩ := DnKv.reads I sy t r2 p2
       rw [<- v1] at e2
       obtain ⟨cs, h3, n3⟩ := Dn.reads I sy h e2
       rw [<- e1] at k1
       exact ⟨_, _, .cons (key_reads k1) h1, .cons h3 h2, by simpa using n1, by simp [n3, n2]⟩
end
end
section
variable {X : Cx}
theorem SysD.now {pins : List (Addr × Obj)} {σ : L2.St} {H : Hp} {s : Shared} (x : SysD X.base) (I : Inv X pins σ H s) : SysD s.heap := x.keep λ b o e => (I.env0.bs b o e).1
def rReprQ (K : Fr) : List V -> Hp -> VK -> Prop := λ xs H Q => ∃ v d, xs = [v] /\ Dn K H v d /\ d.showable = true /\ d.depth <= 60 /\ d.shown.length <= sizeLine /\ Q (.str d.shown) H
theorem cr_reprQ (hy : SysD X.base) (hg : X.A.guards = some []) (hu : X.A.units + 64 < cLine) : CallR X (.builtin "repr") (rReprQ X.K) := by
 intro pins s σ H xs us Q I r h
 obtain ⟨v, d, rfl, hd, hs, hp, hz, q⟩ := h
 obtain ⟨u, rfl, ru⟩ := vals1 r
 obtain ⟨as, rd, ns⟩ := hd.reads I (hy.now I) ru
 cases hd with
 | non =>
   cases (show u = Value.none from ru)
   refine PySem.P.repr_of_none ⟨.str _, H, I.tok _, ⟨_, rfl⟩, ?_⟩
   simpa only [PyData.shown] using q
 | bl b =>
   cases (show u = Value.bool b from ru)
   refine PySem.P.repr_of_bool ⟨.str _, H, I.tok _, ⟨_, rfl⟩, ?_⟩
   simpa only [PyData.shown] using q
 | int i =>
   obtain ⟨t, rfl⟩ := ru
   refine PySem.P.repr_of_int (by simpa [PyData.showable] using hs) ⟨.str _, H, I.tok _, ⟨_, rfl⟩, ?_⟩
   simpa only [PyData.shown] using q
 | str x =>
   obtain ⟨t, rfl⟩ := ru
   refine PySem.P.repr_of_str ⟨.str _, H, I.tok _, ⟨_, rfl⟩, ?_⟩ (by simpa only [PyData.shown] using hz)
   simpa only [PyData.shown] using q
 | lst h1 h2 =>
   cases ru
   exact repr_of_reads' rd hs (λ _ => ns) hg (by omega) (λ _ _ e => e) (λ h' u tk k => ⟨.str _, H, I.kept k, ⟨_, rfl⟩, q⟩) hz
 | tup h1 h2 =>
   cases ru
   exact repr_of_reads' rd hs (λ _ => ns) hg (by omega) (λ _ _ e => e) (λ h' u tk k => ⟨.str _, H, I.kept k, ⟨_, rfl⟩, q⟩) hz
 | dct h1 h2 =>
   cases ru
   exact repr_of_reads' rd hs (λ _ => ns) hg (by omega) (λ _ _ e => e) (λ h' u tk k => ⟨.str _, H, I.kept k, ⟨_, rfl⟩, q⟩) hz
end
def EqQ (K : Fr) (H : Hp) (E : V -> V -> Prop) (x y : V) : Prop := EqR K H E x y \/
 (∃ a b ks ls, x = .ref a /\ y = .ref b /\ Rd H a (.dK ks) /\ Rd H b (.dK ls) /\ ks.length = ls.length /\ ∀ p ∈ ks, ∃ u, valV ls p.1 = some u /\ E p.2 u) \/
 ∃ a b xs ys, x = .ref a /\ y = .ref b /\ SqT K H a xs /\ SqT K H b ys /\ Paired E xs ys
theorem eqQ_run {X : Cx} {pins : List (Addr × Obj)} {σ : L2.St} {H : Hp} {s : Shared} (I : Inv X pins σ H s) {A : Around} {F : V -> V -> Prop} (hu : A.units < cLine)
   (ih : ∀ x y v u, F x y -> RelV x v -> RelV y u -> SeqAt.EqP X.prog X.w A.in1 s v u true) {x y : V} {v u : Value} (h : EqQ X.K H F x y) (rx : RelV x v) (ry : RelV y u) (E Q : Value -> Shared -> Prop) (q : Q (.bool true) s) :
   wpAny (model X.prog X.w) A (richCompare .Eq v u) Q E s := by
 rcases h with h | ⟨a, b, ks, ls, rfl, rfl, ha, hb, hl, hp⟩ | ⟨a, b, xs, ys, rfl, rfl, ha, hb, hp⟩
 · exact eqR_run I hu ih h rx ry E Q q
 · obtain rfl : v = Value.ref a := rx
   obtain rfl : u = Value.ref b := ry
   obtain ⟨_, na, wa, ka, oa⟩ := dk_rd I.hok ha
   obtain ⟨_, nb, wb, kb, ob⟩ := dk_rd I.hok hb
   have hz : wa.length = wb.length := by rw [<- ka.length, <- kb.length]; exact hl
   refine PySem.W.rcP_dicts na nb oa ob hu (λ _ => hits_run ih kb ka hp) E Q ?_
   simpa [hz] using q
 · obtain rfl : v = Value.ref a := rx
   obtain rfl : u = Value.ref b := ry
   obtain ⟨us, r1, p1, _⟩ := I.tuple ha
   obtain ⟨ws, r2, p2, _⟩ := I.tuple hb
   have hsz : us.toArray.size = ws.toArray.size := by
     rw [List.size_toArray, List.size_toArray, <- r1.length, <- r2.length]
     exact Paired.length hp
   refine rc_tupEq p1 p2 hsz hu (λ j h1 h2 => ?_) E Q q
   simpa using items_run ih hp r1 r2 j (by simpa using h1) (by simpa using h2)
def EqW (K : Fr) (H : Hp) : Nat -> V -> V -> Prop
 | 0 => λ _ _ => False
 | n + 1 => λ x y => (∃ d, Dp K H x d /\ Dp K H y d /\ SeqAt.shaped d = true) \/ EqQ K H (EqW K H n) x y
theorem shaped_depth {d : PyData} (h : SeqAt.shaped d = true) : d.canLay0 = true /\ d.depth <= 64 := by
 unfold SeqAt.shaped at h
 rw [Bool.and_eq_true] at h
 exact ⟨h.1, of_decide_eq_true h.2⟩
section
variable {X : Cx} {pins : List (Addr × Obj)} {σ : L2.St} {H : Hp} {s : Shared}
theorem eqW_run (I : Inv X pins σ H s) : ∀ (n : Nat) (A : Around), A.units + n + 65 < cLine -> ∀ (x y : V) (v u : Value), EqW X.K H n x y -> RelV x v -> RelV y u -> SeqAt.EqP X.prog X.w A s v u true
 | 0, _, _, _, _, _, _, h, _, _ => (show False from h).elim
 | n + 1, A, hu, x, y, v, u, h, rx, ry => by
   rcases h with ⟨d, d1, d2, sh⟩ | h
   · obtain ⟨as, r1⟩ := Dp.reads I d x v d1 rx
     obtain ⟨bs, r2⟩ := Dp.reads I d y u d2 ry
     have hd := shaped_depth sh
     have := SeqAt.eqAt_reads d d A s v u as bs r1 r2 hd.1 hd.1 (by omega)
     rw [SeqAt.eqv_refl d hd.1] at this
     exact this.eqP
   · have step := eqQ_run I (A := A) (by omega) (eqW_run I n A.in1 (by show A.units + 1 + n + 65 < cLine; omega)) h rx ry
     obtain ⟨a, b, rfl, rfl⟩ : ∃ a b, x = .ref a /\ y = .ref b := by
       rcases h with (⟨a, b, _, _, e1, e2, _⟩ | ⟨a, b, _, _, e1, e2, _⟩) | ⟨a, b, _, _, e1, e2, _⟩ | ⟨a, b, _, _, e1, e2, _⟩
       · exact ⟨a, b, e1, e2⟩
       · exact ⟨a, b, e1, e2⟩
       · exact ⟨a, b, e1, e2⟩
       · exact ⟨a, b, e1, e2⟩
     cases (show v = Value.ref a from rx)
     cases (show u = Value.ref b from ry)
     by_cases e : a = b
     · subst e
       exact (SeqAt.EqAt.same _).eqP
     · exact SeqAt.eqP_refs e step
end
mutual
def dOk : PyData -> Prop
 | .list ds => dOkA ds
 | .dict kvs => (kvs.map (·.1)).Nodup /\ dOkK kvs
 | .tuple ds => dOkA ds
 | .none => True
 | .bool _ => True
 | .int _ => True
 | .str x => SeqAt.shaped (.str x) = true
def dOkA : List PyData -> Prop
 | [] => True
 | d :: r => dOk d /\ dOkA r
def dOkK : List (PyData × PyData) -> Prop
 | [] => True
 | p :: r => dOk p.2 /\ dOkK r
end
section
variable {K : Fr} {H : Hp}
theorem kD_inj {a b : Key} (h : kD a = kD b) : a = b := by
 cases a <;> cases b <;> simp [kD] at h <;> rw [h]
theorem DnKv.key : ∀ {kvs : List (Key × V)} {ds : List (PyData × PyData)}, DnKv K H kvs ds -> ds.map (·.1) = (kvs.map (·.1)).map kD
 | _, _, .nil => rfl
 | _, _, .cons h t => by
   have := DnKv.key t
   simp only [List.map_cons] at this ⊢
   rw [this]
theorem nd_of_map {γ δ : Type} (f : γ -> δ) : ∀ {l : List γ}, (l.map f).Nodup -> l.Nodup
 | [], _ => List.nodup_nil
 | x :: r, h => by
   rw [List.map_cons, List.nodup_cons] at h
   exact List.nodup_cons.mpr ⟨λ z => h.1 (List.mem_map.mpr ⟨x, z, rfl⟩), nd_of_map f h.2⟩
theorem valV_nd : ∀ {ls : List (Key × V)} {i : Nat} {k : Key} {u : V}, (ls.map (·.1)).Nodup -> ls[i]? = some (k, u) -> valV ls k = some u
 | [], i, k, u, _, h => by simp at h
 | q :: r, 0, k, u, _, h => by
   cases (Option.some.inj (show some q = some (k, u) from h))
   exact valV_pos rfl
 | q :: r, i + 1, k, u, nd, h => by
   have nd' := List.nodup_cons.mp nd
   have h' : r[i]? = some (k, u) := by simpa using h
   rw [valV_neg]
   · exact valV_nd nd'.2 h'
   · intro e
     exact nd'.1 (List.mem_map.mpr ⟨(k, u), List.mem_of_getElem? h', e.symm⟩)
mutual
theorem Dn.eqW : ∀ {x y : V} {d : PyData} {n : Nat}, Dn K H x d -> Dn K H y d -> dOk d -> d.depth < n -> EqW K H n x y
 | _, _, _, 0, _, _, _, hn => absurd hn (Nat.not_lt_zero _)
 | _, _, _, n + 1, .non, h, _, _ => by cases h; exact .inl ⟨_, .non, .non, by decide⟩
 | _, _, _, n + 1, .bl b, h, _, _ => by cases h; exact .inl ⟨_, .bl b, .bl b, by cases b <;> decide⟩
 | _, _, _, n + 1, .int i, h, _, _ => by cases h; exact .inl ⟨_, .int i, .int i, rfl⟩
 | _, _, _, n + 1, .str z, h, ok, _ => by cases h; exact .inl ⟨_, .str z, .str z, ok⟩
 | _, _, _, n + 1, .tup a q, h, ok, hn => by
   cases h with
   | tup b q2 => exact .inr (.inr (.inr ⟨_, _, _, _, rfl, rfl, a, b, DnAll.eqW q q2 ok (by simpa [PyData.depth] using hn)⟩))
 | _, _, _, n + 1, .lst a q, h, ok, hn => by
   cases h with
   | lst b q2 => exact .inr (.inl (.inl ⟨_, _, _, _, rfl, rfl, a, b, DnAll.eqW q q2 ok (by simpa [PyData.depth] using hn)⟩))
 | _, _, _, n + 1, .dct (ds := ds) a q, h, ok, hn => by
   cases h with
   | @dct _ kvs2 _ b q2 =>
     have ok' : (ds.map (·.1)).Nodup /\ dOkK ds := ok
     have hl : PyData.depthKv ds < n := by simpa [PyData.depth] using hn
     obtain ⟨h1, h2⟩ := DnKv.eqW q q2 ok'.2 hl
     refine .inr (.inr (.inl ⟨_, _, _, _, rfl, rfl, a, b, h1, λ p hp => ?_⟩))
     obtain ⟨i, hi⟩ := List.getElem?_of_mem hp
     obtain ⟨u, hu, hw⟩ := h2 i p hi
     refine ⟨u, ?_, hw⟩
     have nd : (kvs2.map (·.1)).Nodup := by
       have := ok'.1
       rw [q2.key] at this
       exact nd_of_map _ this
     exact valV_nd nd hu
theorem DnKv.eqW : ∀ {xs ys : List (Key × V)} {ds : List (PyData × PyData)} {n : Nat}, DnKv K H xs ds -> DnKv K H ys ds -> dOkK ds -> PyData.depthKv ds < n ->
   xs.length = ys.length /\ ∀ (i : Nat) (p : Key × V), xs[i]? = some p -> ∃ u, ys[i]? = some (p.1, u) /\ EqW K H n p.2 u
 | _, _, _, _, .nil, h, _, _ => by
   cases h
   exact ⟨rfl, λ i p h => by simp at h⟩
 | _, _, _, n, .cons (k := k) (d := d) a t, h, ok, hn => by
   generalize hds : ((kD k, d) :: _ : List (PyData × PyData)) = dd at h
   cases h with
   | nil => cases hds
   | cons a2 t2 =>
     injection hds with e1 e2
     injection e1 with e3 e4
     have e5 := kD_inj e3
     subst e5
     subst e4
     subst e2
     have hn' := hn
     simp only [PyData.depthKv] at hn'
     obtain ⟨h1, h2⟩ := DnKv.eqW (n := n) t t2 ok.2 (by omega)
     refine ⟨by rw [List.length_cons, List.length_cons, h1], λ i p hp => ?_⟩
     cases i with
     | zero =>
       cases hp
       exact ⟨_, rfl, Dn.eqW a a2 ok.1 (show d.depth < n by omega)⟩
     | succ i =>
       obtain ⟨u, hu, hw⟩ := h2 i p (by simpa using hp)
       exact ⟨u, by simpa using hu, hw⟩
theorem DnAll.eqW : ∀ {xs ys : List V} {ds : List PyData} {n : Nat}, DnAll K H xs ds -> DnAll K H ys ds -> dOkA ds -> PyData.depthAll ds < n -> Paired (EqW K H n) xs ys
 | _, _, _, _, .nil, h, _, _ => by cases h; exact .nil
 | _, _, _, _, .cons a t, h, ok, hn => by
   cases h with
   | cons a2 t2 =>
     have hn' := hn
     simp only [PyData.depthAll] at hn'
     exact .cons (Dn.eqW a a2 ok.1 (by omega)) (DnAll.eqW t t2 ok.2 (by omega))
end
end
section
variable {X : Cx}
def rEqW (K : Fr) : R2 := λ x y H Q => ∃ d, Dn K H x d /\ Dn K H y d /\ dOk d /\ d.depth <= 60 /\ Q (.bl true) H
theorem op_eqW (hu : X.A.units + 128 < cLine) : OpR X (compareOp .Eq) (rEqW X.K) := by
 intro pins s σ H x y v u Q I rx ry h
 obtain ⟨d, d1, d2, ok, hd, q⟩ := h
 have w := Dn.eqW (n := 61) d1 d2 ok (by omega)
 rcases w with ⟨d', e1, e2, sh⟩ | w
 · refine op_eqD (X := X) (by omega) pins s σ H x y v u Q I rx ry ⟨d', d', e1, e2, sh, sh, ?_⟩
   rw [SeqAt.eqv_refl d' (shaped_depth sh).1]
   exact q
 · exact eqQ_run I (A := X.A) (by omega) (eqW_run I 60 X.A.in1 (by show X.A.units + 1 + 60 + 65 < cLine; omega)) w rx ry _ _ ⟨.bl true, H, I, rfl, q⟩
def uEqQ (K : Fr) : R2 := λ x y H Q => uEq K x y H Q \/ rEqW K x y H Q
theorem uo_eqQ (hu : X.A.units + 128 < cLine) : OpR X (compareOp .Eq) (uEqQ X.K) := (uo_eq (by omega)).or (op_eqW hu)
theorem units128 {k : Nat} {A : Around} (hr : Room k A) : A.units + 128 < cLine := by
 have := hr.un
 have := hr.dp
 omega
end
end RC

namespace RC
open PySem PySem.Spec PyProof.Rows L2
section
variable {κ α : Type} {K : Fr} {ik : κ -> Key} {e : α -> PyData} {m : List (κ × α)} {Rs : List Res} {H : Hp} {Q : VK} {σ : L2.St} {D : Ends} {p : Addr}
abbrev OE := Str × Addr × List Int
variable {es : List OE} {om : List (Str × List Int)}
def rDictP (K : Fr) : List V -> Hp -> VK -> Prop := λ xs H Q => ∃ (a : Addr) (ps : List Addr) (kvs : List (Key × V)), xs = [.ref a] /\ SqL K H a (ps.map V.ref) /\ Paired (λ p kv => SqT K H p [kV kv.1, kv.2]) ps kvs /\ ∀ p, H p = none -> Q (.ref p) (upd H p (.dK (mergeK [] kvs)))
theorem cr_dictP {X : Cx} (h : X.calm = true) : CallR X (.type "dict") (rDictP X.K) := call_dictP h
def dOf {κ γ : Type} [DecidableEq κ] (ps : List (κ × γ)) : List (κ × γ) := ps.foldl (λ acc q => pk acc q.1 q.2) []
end
section
variable {α β : Type} {K : Fr} {e : α -> PyData} {Rs : List Res} {H : Hp} {Q : VK} {σ : L2.St} {D : Ends} {p : Addr}
end
theorem Dn.by_ {K : Fr} {H : Hp} {v : V} {d e : PyData} (h : d = e) (q : Dn K H v e) : Dn K H v d := h ▸ q
structure AlkOk (d : PyData) : Prop where
 ok : dOk d
 sh : d.showable = true
 dp : d.depth <= 60
 ln : d.shown.length <= sizeLine
structure ShQ (dp bk : Nat) (d : PyData) : Prop where
 ok : dOk d
 sh : d.showable = true
 lf : d.leavesShort 400 = true
 dp : d.depth <= dp
 bk : d.bulk <= bk
theorem ShQ.alk {dp bk : Nat} {d : PyData} (h : ShQ dp bk d) (h1 : dp <= 60) (h2 : bk <= 40000) : AlkOk d := by
 refine ⟨h.ok, h.sh, Nat.le_trans h.dp h1, ?_⟩
 have z := PyData.shown_le_bulk 400 (by decide) d h.lf
 have b := h.bk
 rw [sizeLine_eq]
 omega
theorem ShQ.up {dp bk dp' bk' : Nat} {d : PyData} (h : ShQ dp bk d) (h1 : dp <= dp') (h2 : bk <= bk') : ShQ dp' bk' d := ⟨h.ok, h.sh, h.lf, Nat.le_trans h.dp h1, Nat.le_trans h.bk h2⟩
theorem log2_lt {n : Int} (h : n.natAbs < 2 ^ 1000) : n.natAbs.log2 < 1920 := by
 rcases Nat.eq_zero_or_pos n.natAbs with e | e
 · rw [e]
   decide
 · have := (Nat.log2_lt (by omega)).mpr h
   omega
theorem ShQ.int {n : Int} (h : n.natAbs < 2 ^ 1000) : ShQ 0 0 (.int n) := by
 have l := log2_lt h
 refine ⟨trivial, by simpa [PyData.showable] using l, ?_, by simp [PyData.depth], by simp [PyData.bulk]⟩
 have q : (2 : Nat) ^ 1000 < 10 ^ 310 := by decide +kernel
 have z : (PySem.Str.ofString (toString n)).length <= 311 := by
   have := int_text_length_le10 (a := n) (k := 310) (by decide) (by omega)
   rw [PySem.ofString_length]
   exact this
 simp only [PyData.leavesShort, PyData.shown]
 exact decide_eq_true (Nat.le_trans z (show 311 <= 400 by decide))
theorem ShQ.all {dp bk : Nat} : ∀ {ds : List PyData}, (∀ d ∈ ds, ShQ dp bk d) -> dOkA ds /\ PyData.showableAll ds = true /\ PyData.leavesShortAll 400 ds = true /\ PyData.depthAll ds <= dp /\ PyData.bulkAll ds <= ds.length * (bk + 1)
 | [], _ => ⟨trivial, rfl, rfl, Nat.zero_le _, by simp [PyData.bulkAll]⟩
 | d :: ds, h => by
   have a := h d List.mem_cons_self
   obtain ⟨h0, h1, h2, h3, h4⟩ := ShQ.all λ x hx => h x (List.mem_cons_of_mem _ hx)
   refine ⟨⟨a.ok, h0⟩, by simp [PyData.showableAll, a.sh, h1], by simp [PyData.leavesShortAll, a.lf, h2], ?_, ?_⟩
   · simp only [PyData.depthAll]
     have := a.dp
     omega
   · simp only [PyData.bulkAll, List.length_cons]
     have := a.bk
     rw [Nat.add_mul]
     omega
theorem ShQ.list {dp bk : Nat} {ds : List PyData} (h : ∀ d ∈ ds, ShQ dp bk d) : ShQ (dp + 1) (ds.length * (bk + 1)) (.list ds) := by
 obtain ⟨h0, h1, h2, h3, h4⟩ := ShQ.all h
 refine ⟨h0, by simpa [PyData.showable] using h1, by simpa [PyData.leavesShort] using h2, ?_, by simpa [PyData.bulk] using h4⟩
 simp only [PyData.depth]
 omega
end RC

namespace RC
open PySem PySem.Spec PyProof.Rows L2
theorem walk_S {l : PySem.W.OpenLaw} {n k : Nat} {q : Program} {loose : List Str} {XP : (Str -> Option Value) -> Heap -> Prop} {YP : World -> Heap -> Prop} {d : DefRec} {CX : World -> CXT} {x : Str}
   (hi : importsNone q = true) (hn : l.most = some n) (hn2 : n <= sizeLine) (hdf : d.params.defaults = []) (hr : Room k callerA)
   (F : ∀ (w : World) (mg : Str -> Option Value) (fa : Addr) (h : Heap), YP w h -> h.Ns mainGlobals mg -> mg d.name = some (.ref fa) ->
     ∃ (K : Fr) (fd : FuncData) (sp : Sp), K.In h /\ (∀ (s : Shared) (u : Value), BindsTo s fd ⟨[u], []⟩ [(x, u)]) /\
       (∀ (H : Hp) (a : Addr) (ns : List Int), ns.length <= n -> SqL K H a (ns.map V.int) -> sp [.ref a] H (λ v _ => v = .bl true) λ _ _ _ => False) /\
       ∀ base : Heap, K.In base -> base.Ns mainGlobals mg -> NDX base -> FnX true l.prog w K mg base (CX w) k fa fd [x] sp)
   (hCX : ∀ (w : World) (H : Hp) (s : Shared) (e : Value) (s' : Shared), CX w [] H s (λ _ _ _ => False) e s' -> False) :
   PySem.W.WalkO q loose XP YP l.row.toRowW d [] (λ f vs => PySem.call f vs) := by
 refine Att.attach_call hn hdf ?_
 intro w s0 s1 mg mb fa o pm cd doc a vs ns G Y ho hd hcd hmg hobj hints hlen hgen
 obtain ⟨K, fd, sp, KX, hb, hsp, hF⟩ := F w mg fa _ Y G.T.g hmg
 exact law_callN KX G.T.g G.T.b G.T.builtins G.T.nolimit (λ h' kp => ⟨nd_keep G.T.nodigits kp, by
     obtain ⟨mm, ⟨o, es, ep, e, d, _⟩, _⟩ := (G.T.seer hi).mods
     exact ⟨o, es, ep, kp _ _ _ _ e d, d⟩⟩) hgen hobj hints
   (Nat.le_trans hlen hn2) hr hF hb (λ H hS => hsp H a ns hlen hS) (λ H e s' => hCX w H s1 e s')
end RC

namespace RC
open PySem PySem.Spec PyProof.Rows L2
def anyAt : PyData -> Int -> Option PyData
 | .list ds, i => atI ds i
 | .tuple ds, i => atI ds i
 | _, _ => none
section
variable {α β γ : Type} {K : Fr} {Rs : List Res} {H : Hp} {σ : L2.St} {Q : VK} {D : Ends} {v w : V} {d d' : PyData} {p : Addr} {e : α -> PyData} {xs ys : List α}
end
end RC

namespace RC
open PySem PySem.Spec PyProof.Rows L2
section
variable {X : Cx} {CX : CXT} {g : Bool} {k n : Nat} {f C : Addr} {fd : FuncData} {ps ks : List Str} {sp : Sp} {W : WX} {x m : Str} {p pos apos : Pos} {o e : Expr} {es : List Expr} {kws : List Keyword} {t tk : TA} {ta : TE} {gg : List Value -> List Value -> List Value} {gV : List V -> List V -> List V}
end
theorem Sat.got {F : Hp} : ∀ {Rs : List Res} {L : List Cell} (i : Nat) {R : Res}, Sat F Rs L -> Rs[i]? = some R -> ∃ l, R.on F l /\ ∀ c ∈ l, c ∈ L
 | [], L, i, R, _, e => by simp at e
 | S :: Rs, L, 0, R, ⟨l1, l2, h, a, _⟩, e => by
   have e : S = R := Option.some.inj e
   subst e
   exact ⟨l1, a, λ c hc => h ▸ List.mem_append_left _ hc⟩
 | S :: Rs, L, i + 1, R, ⟨l1, l2, h, _, b⟩, e => by
   obtain ⟨l, h1, h2⟩ := Sat.got i b (by simpa using e)
   exact ⟨l, h1, λ c hc => h ▸ List.mem_append_right _ (h2 c hc)⟩
section
variable {K : Fr} {κ α β : Type} {ik : κ -> Key} {e : α -> PyData} {Rs : List Res} {H : Hp} {Q : VK} {v : V} {p : Addr} {m : List (κ × α)} {σ : L2.St}
def DVs (K : Fr) (Rs : List Res) (H : Hp) (ik : κ -> Key) (e : α -> PyData) (v : V) (m : List (κ × α)) : Prop :=
 ∃ p kvs F L, v = .ref p /\ Rd H p (.dK kvs) /\ Sat F Rs L /\ MemC F L H /\ TKv K F ik e kvs m
theorem DqKv.tkv : ∀ {kvs : List (Key × V)} {m : List (κ × α)}, DqKv K H kvs (m.map λ p => (kD (ik p.1), e p.2)) -> TKv K H ik e kvs m
 | [], [], _ => .nil
 | [], q :: m, h => by cases h
 | _ :: _, [], h => by cases h
 | (k, v) :: kvs, q :: m, h => by
   generalize e1 : (((q :: m).map λ p => (kD (ik p.1), e p.2)) : List (PyData × PyData)) = ds at h
   cases h with
   | cons h r =>
     simp only [List.map_cons, List.cons.injEq, Prod.mk.injEq] at e1
     obtain ⟨⟨a, b⟩, c⟩ := e1
     subst b c
     cases kD_inj a
     exact .cons h (DqKv.tkv r)
theorem M.dvA (S : M Rs H) (j : Nat) (hj : Rs[j]? = some (da K v (eD ik e m))) : DVs K Rs H ik e v m := by
 obtain ⟨F, L, s, mm⟩ := S
 obtain ⟨l, ⟨rfl, h⟩, hl⟩ := s.got j hj
 cases h with
 | dct h q => exact ⟨_, _, F, L, rfl, .inr ⟨_, mm.ex _ _ h⟩, s, mm, q.tkv⟩
inductive DF where
 | own
 | lck (p : Addr) (od : Obj) (kvs : List (Key × V))
 | dat
 | fzd (p : Addr) (od : Obj) (kvs : List (Key × V))
theorem DVs.len (D : DVs K Rs H ik e v m) (k : Q (.int (m.length : Nat)) H) : uLen K [v] H Q := by
 obtain ⟨p, kvs, F, L, rfl, h, _, _, t⟩ := D
 exact .inr ⟨p, kvs, rfl, h, by rw [t.len]; exact k⟩
variable [DecidableEq κ]
theorem DVs.at (inj : ∀ a b, ik a = ik b -> a = b) {k : κ} {x : α} (D : DVs K Rs H ik e v m) (hx : lk m k = some x) : ∃ p kvs u, v = .ref p /\ Rd H p (.dK kvs) /\ valV kvs (ik k) = some u /\ M (da K u (e x) :: Rs) H := by
 obtain ⟨p, kvs, F, L, rfl, h, s, mm, t⟩ := D
 obtain ⟨u, h1, h2⟩ := t.some inj hx
 exact ⟨p, kvs, u, rfl, h, h1, F, L, ⟨[], L, rfl, ⟨rfl, h2⟩, s⟩, mm⟩
end
section
variable {K : Fr} {α β : Type} {e : α -> PyData} {Rs : List Res} {H : Hp} {Q : VK} {v : V} {p : Addr} {σ : L2.St}
end
def tLkE (t : TE) : TE := λ σ H Q => t σ H Q \/ tLockE t σ H Q
theorem pe_lk {X : Cx} {x : Expr} {t : TE} (h : PE X x t) : PE X x (tLkE t) := ⟨λ pins s σ H Q I hw => hw.elim (λ q => h.run pins s σ H Q I q) (λ q => (pe_lock h).run pins s σ H Q I q)⟩
section
variable {K : Fr} {κ α β : Type} {ik : κ -> Key} {e : α -> PyData} {Rs : List Res} {H : Hp} {Q : VK} {v : V} {p : Addr} {m : List (κ × α)} {σ : L2.St} {od : Obj} {kvs : List (Key × V)}
theorem keys_at {sv : κ -> V} (hsv : ∀ q, kV (ik q) = sv q) (hk : kvs.map (·.1) = (ks m).map ik) {i : Nat} {k : Key} {u : V} (h : kvs[i]? = some (k, u)) : ∃ hi : i < (ks m).length, kV k = sv (ks m)[i] := by
 have h1 : (kvs.map (·.1))[i]? = some k := by rw [List.getElem?_map, h]; rfl
 rw [hk, List.getElem?_map] at h1
 rcases Nat.lt_or_ge i (ks m).length with hi | hi
 · rw [List.getElem?_eq_getElem hi] at h1
   have h1 : ik (ks m)[i] = k := Option.some.inj h1
   exact ⟨hi, by rw [<- h1]; exact hsv _⟩
 · rw [List.getElem?_eq_none hi] at h1
   cases h1
theorem lc_fz {te : TE} {tt : TT} {g : TG} {ws : List Nat} {F : κ -> (Option β -> Prop) -> Prop} {e' : β -> PyData} {KK : List β -> Prop} {R : Res} {sv : κ -> V} (hsv : ∀ q, kV (ik q) = sv q) (hk : kvs.map (·.1) = (ks m).map ik) (hf : (ks m).length <= 100000 /\ lcD F (ks m) [] KK)
   (S : M (R :: Rs) H) (hfr : ∀ Rs H, M (R :: Rs) H -> H p = some (.frz od (.dK kvs)))
   (hs : ∀ x (acc : List β) E H (kk : Option β -> Prop) (N : Hp -> Prop), (acc.map e').length < 100000 -> M (acR K E (acc.map e') :: R :: Rs) H -> F x kk ->
     (∀ y H, kk (some y) -> M (acR K E (acc.map e' ++ [e' y]) :: R :: Rs) H -> N H) -> (∀ H, kk none -> M (acR K E (acc.map e') :: R :: Rs) H -> N H) -> g (sv x) (wipe σ ws) H λ σ2 H2 => wipe σ2 ws = wipe σ ws /\ tt σ2 H2 λ b H3 =>
     if b = true then te σ2 H3 (LcK N E) else N H3)
   (hd : ∀ E (acc : List β) H, KK acc -> M (acR K E (acc.map e') :: R :: Rs) H -> Q (.ref E) H) : LcW (Itk p od kvs) g tt te ws σ Q H := by
 obtain ⟨hz, hf⟩ := hf
 have hl : kvs.length = (ks m).length := by
   have := congrArg List.length hk
   simpa using this
 refine lc_X walk_keys (λ E n H => ∃ acc, lcD F ((ks m).drop n) acc KK /\ acc.length <= n /\ M (acR K E (acc.map e') :: R :: Rs) H) (λ E hE => ⟨[], by simpa using hf, Nat.le_refl _, acR_nil (S.new hE)⟩) (λ E n H _ ⟨acc, _, _, S⟩ => hfr _ _ (S.at 1 rfl)) ?_ ?_
 · rintro E n v H H' hn ⟨acc, hf, ha, S⟩ ⟨rfl, k, u, hk', rfl⟩
   obtain ⟨hn2, ek⟩ := keys_at hsv hk hk'
   rw [List.drop_eq_getElem_cons hn2] at hf
   rw [ek]
   refine hs _ acc E H' _ _ (by rw [List.length_map]; omega) S hf (λ y H hk S => ⟨acc ++ [y], hk, by rw [List.length_append]; simpa using ha, by rw [List.map_append]; exact S⟩) (λ H hk S => ⟨acc, ?_, by omega, S⟩)
   simpa using hk
 · rintro E H ⟨acc, hf, ha, S⟩
   rw [hl, List.drop_length] at hf
   exact hd E acc H hf S
theorem M.openDk (S : M (da K v (eD ik e m) :: Rs) H) : ∃ p od kvs, v = .ref p /\ kvs.map (·.1) = (ks m).map ik /\ M (fz p (.frz od (.dK kvs)) :: tkR K ik e kvs m :: Rs) H := by
 obtain ⟨F, L, ⟨l1, l2, rfl, ⟨rfl, h⟩, b⟩, mm⟩ := S
 cases h with
 | dct h q => exact ⟨_, _, _, rfl, q.tkv.keys, F, l2, ⟨[], l2, rfl, ⟨rfl, h⟩, [], l2, rfl, ⟨rfl, q.tkv⟩, b⟩, mm⟩
end
end RC

namespace RC
open PySem PySem.Spec PyProof.Rows L2
section
variable {K : Fr} {α β : Type} {e : α -> PyData} {Rs : List Res} {H : Hp} {Q : VK} {v w : V} {p : Addr} {σ : L2.St}
theorem eqvA_ints : ∀ xs ys : List Int, PyData.eqvAll (xs.map eI) (ys.map eI) = decide (xs = ys)
 | [], [] => rfl
 | [], y :: ys => by simp [PyData.eqvAll]
 | x :: xs, [] => by simp [PyData.eqvAll]
 | x :: xs, y :: ys => by
   have ih := eqvA_ints xs ys
   simp only [List.map_cons, PyData.eqvAll, ih]
   by_cases z : x = y
   · subst z
     simp [PyData.eqv]
   · simp [PyData.eqv, z]
theorem eqv_LI (xs ys : List Int) : PyData.eqv (eL eI xs) (eL eI ys) = decide (xs = ys) := eqvA_ints xs ys
theorem canL_ints : ∀ xs : List Int, PyData.canLayAll0 (xs.map eI) = true
 | [] => rfl
 | x :: xs => by
   simp only [List.map_cons, PyData.canLayAll0, canL_ints xs, Bool.and_true]
   rfl
theorem depA_ints : ∀ xs : List Int, PyData.depthAll (xs.map eI) = 0
 | [] => rfl
 | x :: xs => by
   simp only [List.map_cons, PyData.depthAll, depA_ints xs]
   rfl
theorem shaped_LI (xs : List Int) : EqOk (eL eI xs) := by
 show SeqAt.shaped (.list (xs.map eI)) = true
 unfold SeqAt.shaped
 rw [Bool.and_eq_true]
 refine ⟨?_, decide_eq_true ?_⟩
 · simp only [PyData.canLay0]
   exact canL_ints xs
 · simp only [PyData.depth, depA_ints]
   omega
theorem v_neLI {xs ys : List Int} (h1 : Dq K H v (eL eI xs)) (h2 : Dq K H w (eL eI ys)) (k : Q (.bl (!decide (xs = ys))) H) : uNe K v w H Q := v_neq h1 h2 (shaped_LI xs) (shaped_LI ys) (by rw [eqv_LI]; exact k)
def KeyK (R : It -> Hp -> Prop) : VK := λ x H1 => ∃ d o, x = .ref d /\ ((∃ kvs, H1 d = some (.frz o (.dK kvs)) /\ R (Itk d o kvs) H1) \/ ∃ kvs, H1 d = some (.frz o (.dT kvs)) /\ R (Itkt d o kvs) H1)
theorem g_iKeys {td : TE} {R : It -> Hp -> Prop} (k : td σ H (KeyK R)) : iKeys td σ H R := k
theorem v_itK {R : It -> Hp -> Prop} {od : Obj} {kvs : List (Key × V)} (ev : v = .ref p) (h : H p = some (.frz od (.dK kvs))) (k : R (Itk p od kvs) H) : KeyK R v H := ⟨p, od, ev, .inl ⟨kvs, h, k⟩⟩
theorem inV_int {n : Int} : ∀ xs : List Int, inV (.int n) (xs.map V.int) = decide (n ∈ xs)
 | [] => rfl
 | x :: xs => by
   have h := inV_int (n := n) xs
   unfold inV at h ⊢
   rw [List.map_cons, List.any_cons, h]
   show (decide (x = n) || decide (n ∈ xs)) = decide (n ∈ x :: xs)
   by_cases z : x = n
   · simp [z]
   · have : ¬ n = x := λ q => z q.symm
     simp [z, this]
theorem flat_ints : ∀ xs : List Int, (xs.map V.int).all flatV = true
 | [] => rfl
 | x :: xs => by rw [List.map_cons, List.all_cons, flat_ints xs]; rfl
theorem v_powc {a b n : Int} (h : (0 : Int) <= b /\ b <= 1000000 /\ a.natAbs < 2 ^ 64) (e : a ^ b.toNat = n) (k : Q (.int n) H) : uPow (.int a) (.int b) H Q := v_pow h (by rw [e]; exact k)
theorem M.drp (S : M Rs H) (i : Nat) : M (Rs.eraseIdx i) H := by
 cases h : Rs[i]? with
 | none =>
   rw [List.eraseIdx_of_length_le (by simpa using h)]
   exact S
 | some R => exact (S.at i h).tl
end
end RC

namespace RC
open PySem PySem.Spec PyProof.Rows L2
theorem forD_inv {α β : Type} {f : α -> β -> (β -> Prop) -> Prop} (Inv : Nat -> β -> Prop) : ∀ {xs : List α} {s : β} {k : β -> Prop} {n : Nat}, Inv n s ->
   (∀ (i : Nat) x s (kk : β -> Prop), xs[i]? = some x -> Inv (n + i) s -> (∀ s', Inv (n + i + 1) s' -> kk s') -> f x s kk) -> (∀ s, Inv (n + xs.length) s -> k s) -> forD f xs s k
 | [], s, k, n, h0, _, hd => hd s h0
 | x :: xs, s, k, n, h0, hs, hd => by
   refine hs 0 x s _ rfl h0 λ s' h' => ?_
   refine forD_inv Inv (n := n + 1) h' (λ i y s kk hy hi hk => ?_) (λ s hi => hd s ?_)
   · refine hs (i + 1) y s kk (by simpa using hy) ?_ λ s' hs' => hk s' ?_
     · rw [show n + (i + 1) = n + 1 + i by omega]
       exact hi
     · rw [show n + 1 + i + 1 = n + (i + 1) + 1 by omega]
       exact hs'
   · rw [List.length_cons, show n + (xs.length + 1) = n + 1 + xs.length by omega]
     exact hi
theorem lcD_map {α β : Type} {f : α -> (Option β -> Prop) -> Prop} {k : List β -> Prop} (g : α -> β) : ∀ {xs : List α} {acc : List β}, (∀ x ∈ xs, ∀ kk : Option β -> Prop, kk (some (g x)) -> f x kk) -> k (acc ++ xs.map g) -> lcD f xs acc k
 | [], acc, _, h => by simpa [lcD] using h
 | x :: xs, acc, hs, h => by
   refine hs x List.mem_cons_self _ ?_
   refine lcD_map g (λ y hy => hs y (List.mem_cons_of_mem _ hy)) ?_
   simpa using h
def GN (s : Str) : Prop := 1 <= s.length /\ s.length <= 8 /\ ∀ c ∈ s.cps.toList, 97 <= c /\ c <= 122
def GC (ns : List Int) : Prop := ns.length <= 48 /\ ∀ n ∈ ns, 0 <= n /\ n <= 999
theorem tk {n : Int} {k : Int -> Prop} (h : 0 < n /\ n < 2 ^ 62) (g : ∀ v, 0 <= v -> v < n -> k v) : takeD n k := ⟨h, g⟩
theorem atI_ex {α : Type} {xs : List α} {i : Int} (h0 : 0 <= i) (h1 : i < xs.length) : ∃ x ∈ xs, atI xs i = some x := by
 have hl : i.toNat < xs.length := by omega
 exact ⟨xs[i.toNat], List.getElem_mem hl, atI_int h0 (List.getElem?_eq_getElem hl)⟩
theorem rng_mem {n x : Int} (h : x ∈ rng n) : 0 <= x /\ x < n := by
 unfold rng at h
 obtain ⟨i, hi, rfl⟩ := List.mem_map.mp h
 have := List.mem_range.mp hi
 omega
theorem cmul {a b : Int} (h : 0 <= b /\ b < 2 ^ 62) (ha : 0 <= a /\ a < 2 ^ 62) : CMul a b \/ CMulW a b := .inl (.inl ⟨by omega, by omega⟩)
structure GF (m : List (Str × List Int)) : Prop where
 nd : (ks m).Nodup
 nm : ∀ q ∈ m, GN q.1 /\ GC q.2
 ln : m.length <= 8
theorem GF.nil : GF [] := ⟨List.nodup_nil, (λ _ h => nomatch h), by decide⟩
theorem lk_mem {κ γ : Type} [DecidableEq κ] {m : List (κ × γ)} {n : κ} {x : γ} (h : lk m n = some x) : (n, x) ∈ m := by
 unfold lk at h
 cases e : m.find? λ p => decide (p.1 = n) with
 | none => rw [e] at h; cases h
 | some q =>
   rw [e] at h
   have h1 := List.mem_of_find?_eq_some e
   have h2 : q.1 = n := by simpa using List.find?_some e
   cases h
   rw [<- h2]
   exact h1
theorem lk_some {κ γ : Type} [DecidableEq κ] {m : List (κ × γ)} {n : κ} (h : n ∈ ks m) : ∃ x, lk m n = some x := by
 induction m with
 | nil => cases h
 | cons q m ih =>
   rw [lk_cons]
   by_cases z : q.1 = n
   · exact ⟨_, if_pos z⟩
   · rw [if_neg z]
     exact ih ((List.mem_cons.mp h).resolve_left λ e => z e.symm)
theorem pk_keys {κ γ : Type} [DecidableEq κ] {m : List (κ × γ)} {n : κ} {x : γ} : ks (pk m n x) = if (lk m n).isSome then ks m else ks m ++ [n] := by
 unfold pk
 rw [any_lk]
 split
 · unfold ks
   rw [List.map_map]
   refine List.map_congr_left λ q _ => ?_
   show (if q.1 = n then (q.1, x) else q).1 = q.1
   split <;> rfl
 · simp [ks]
theorem not_mem_of_lk {κ γ : Type} [DecidableEq κ] {m : List (κ × γ)} {n : κ} (h : lk m n = none) : n ∉ ks m := λ z => by
 obtain ⟨x, e⟩ := lk_some z
 rw [h] at e
 cases e
theorem GF.put {m : List (Str × List Int)} {n : Str} {ns : List Int} (g : GF m) (hn : GN n) (hc : GC ns) (hl : (lk m n).isSome = true \/ m.length < 8) : GF (pk m n ns) := by
 refine ⟨?_, λ q hq => ?_, ?_⟩
 · rw [pk_keys]
   cases e : lk m n with
   | none =>
     simp only [Option.isSome, Bool.false_eq_true, if_false]
     exact List.nodup_append.mpr ⟨g.nd, by simp, λ a ha b hb z => not_mem_of_lk e (by rw [<- show b = n by simpa using hb, <- z]; exact ha)⟩
   | some x => exact g.nd
 · unfold pk at hq
   split at hq
   · obtain ⟨p, hp, rfl⟩ := List.mem_map.mp hq
     have := g.nm p hp
     split
     · exact ⟨this.1, hc⟩
     · exact this
   · rcases List.mem_append.mp hq with hq | hq
     · exact g.nm q hq
     · rw [show q = (n, ns) by simpa using hq]
       exact ⟨hn, hc⟩
 · unfold pk
   rw [any_lk]
   have := g.ln
   split
   · rw [List.length_map]
     exact this
   · rename_i z
     rw [List.length_append]
     simp
     rcases hl with h | h
     · exact absurd h z
     · omega
def cont (m : List (Str × List Int)) : List (Str × List Int) := (srtS' (ks m)).map λ n => (n, (lk m n).getD [])
theorem ks_len {κ γ : Type} (m : List (κ × γ)) : (ks m).length = m.length := by simp [ks]
theorem GN.shq {s : Str} (g : GN s) : ShQ 0 8 (.str s) := by
 refine ⟨?_, rfl, ?_, by simp [PyData.depth], ?_⟩
 · show SeqAt.shaped (.str s) = true
   unfold SeqAt.shaped
   rw [Bool.and_eq_true]
   refine ⟨?_, by simp [PyData.depth]⟩
   simp only [PyData.canLay0, PyData.strOk]
   rw [Array.all_eq_true']
   intro c hc
   have := g.2.2 c (by simpa using hc)
   exact decide_eq_true (by omega)
 · simp only [PyData.leavesShort, List.all_eq_true]
   intro c hc
   have := g.2.2 c hc
   exact decide_eq_true (by omega)
 · exact g.2.1
theorem GC.shq {ns : List Int} (g : GC ns) : ShQ 1 48 (eL eI ns) := by
 have h := ShQ.list (dp := 0) (bk := 0) (ds := ns.map eI) λ d hd => by
   obtain ⟨n, hn, rfl⟩ := List.mem_map.mp hd
   have := g.2 n hn
   exact ShQ.int (Nat.lt_of_lt_of_le (show n.natAbs < 2 ^ 10 by omega) (by decide))
 rw [List.length_map] at h
 exact h.up (Nat.le_refl _) (by have := g.1; omega)
theorem nd_map {α β : Type} {f : α -> β} (inj : ∀ a b, f a = f b -> a = b) : ∀ {l : List α}, l.Nodup -> (l.map f).Nodup
 | [], _ => List.nodup_nil
 | x :: r, h => by
   obtain ⟨h1, h2⟩ := List.nodup_cons.mp h
   rw [List.map_cons]
   refine List.nodup_cons.mpr ⟨λ z => ?_, nd_map inj h2⟩
   obtain ⟨y, hy, e⟩ := List.mem_map.mp z
   rw [inj _ _ e] at hy
   exact h1 hy
end RC

namespace RC
open PySem PySem.Spec PyProof.Rows L2
section
variable {κ α β γ : Type} [DecidableEq κ]
def tr (f : α -> β) (m : List (κ × α)) : List (κ × β) := m.map λ p => (p.1, f p.2)
@[simp] theorem ks_tr (f : α -> β) (m : List (κ × α)) : ks (tr f m) = ks m := by simp [ks, tr]
@[simp] theorem len_tr (f : α -> β) (m : List (κ × α)) : (tr f m).length = m.length := by simp [tr]
@[simp] theorem lk_nil (k : κ) : lk ([] : List (κ × α)) k = none := rfl
theorem mem_of_lk {m : List (κ × α)} {k : κ} {x : α} (h : lk m k = some x) : k ∈ ks m := List.mem_map.mpr ⟨_, lk_mem h, rfl⟩
theorem lk_none_iff {m : List (κ × α)} {k : κ} : lk m k = none ↔ k ∉ ks m := by
 constructor
 · exact not_mem_of_lk
 · intro h
   cases e : lk m k with
   | none => rfl
   | some x => exact absurd (mem_of_lk e) h
theorem pk_new {m : List (κ × α)} {k : κ} {x : α} (h : lk m k = none) : pk m k x = m ++ [(k, x)] := by
 unfold pk
 rw [any_lk, h]
 rfl
theorem lk_of_mem {m : List (κ × α)} (nd : (ks m).Nodup) {p : κ × α} (h : p ∈ m) : lk m p.1 = some p.2 := by
 induction m with
 | nil => cases h
 | cons q m ih =>
   have nd' := List.nodup_cons.mp (show (q.1 :: ks m).Nodup from nd)
   rw [lk_cons]
   rcases List.mem_cons.mp h with rfl | h
   · rw [if_pos rfl]
   · have hq : ¬ q.1 = p.1 := λ z => nd'.1 (by rw [z]; exact List.mem_map.mpr ⟨p, h, rfl⟩)
     rw [if_neg hq, ih nd'.2 h]
end
theorem lcD_fm {α β : Type} {f : α -> (Option β -> Prop) -> Prop} {k : List β -> Prop} (g : α -> Option β) : ∀ {xs : List α} {acc : List β}, (∀ x ∈ xs, ∀ kk : Option β -> Prop, kk (g x) -> f x kk) -> k (acc ++ xs.filterMap g) -> lcD f xs acc k
 | [], acc, _, h => by simpa [lcD] using h
 | x :: xs, acc, hs, h => by
   refine hs x List.mem_cons_self _ ?_
   cases e : g x with
   | none =>
     rw [List.filterMap_cons_none e] at h
     exact lcD_fm g (λ y hy => hs y (List.mem_cons_of_mem _ hy)) (by simpa using h)
   | some y =>
     rw [List.filterMap_cons_some e] at h
     refine lcD_fm g (λ y hy => hs y (List.mem_cons_of_mem _ hy)) ?_
     rw [List.append_assoc]
     exact h
theorem ShQ.tup {dp bk : Nat} {ds : List PyData} (h : ∀ d ∈ ds, ShQ dp bk d) : ShQ (dp + 1) (ds.length * (bk + 1)) (.tuple ds) := by
 obtain ⟨h0, h1, h2, h3, h4⟩ := ShQ.all h
 refine ⟨h0, by simpa [PyData.showable] using h1, by simpa [PyData.leavesShort] using h2, ?_, by simpa [PyData.bulk] using h4⟩
 simp only [PyData.depth]
 omega
theorem ShQ.non : ShQ 0 0 .none := ⟨trivial, rfl, rfl, by simp [PyData.depth], by simp [PyData.bulk]⟩
theorem ShQ.bl (b : Bool) : ShQ 0 0 (.bool b) := ⟨trivial, rfl, rfl, by simp [PyData.depth], by simp [PyData.bulk]⟩
def wdb (s : Str) : Bool := SeqAt.shaped (.str s) && ((PyData.str s).showable && ((PyData.str s).leavesShort 400 && decide (s.length <= 16)))
theorem ShQ.wd {s : Str} (h : wdb s = true) : ShQ 0 16 (.str s) := by
 simp only [wdb, Bool.and_eq_true, decide_eq_true_eq] at h
 exact ⟨h.1, h.2.1, h.2.2.1, by simp [PyData.depth], h.2.2.2⟩
end RC

namespace RC
open PySem PySem.Spec PyProof.Rows L2
structure Shn (dp sz : Nat) (d : PyData) : Prop where
 ok : dOk d
 sh : d.showable = true
 dp : d.depth <= dp
 ln : d.shown.length <= sz
structure ShnA (dp sz : Nat) (ds : List PyData) : Prop where
 ok : dOkA ds
 sh : PyData.showableAll ds = true
 dp : PyData.depthAll ds <= dp
 ln : ((PyData.shownAll ds).map (·.length)).sum + 2 * ds.length <= sz
theorem Shn.up {dp sz dp' sz' : Nat} {d : PyData} (h : Shn dp sz d) (h1 : dp <= dp') (h2 : sz <= sz') : Shn dp' sz' d := ⟨h.ok, h.sh, Nat.le_trans h.dp h1, Nat.le_trans h.ln h2⟩
theorem Shn.alk {dp sz : Nat} {d : PyData} (h : Shn dp sz d) (h1 : dp <= 60) (h2 : sz <= 16000000) : AlkOk d := ⟨h.ok, h.sh, Nat.le_trans h.dp h1, Nat.le_trans h.ln (Nat.le_trans h2 (by rw [sizeLine_eq]; decide))⟩
theorem ShQ.shn {dp bk : Nat} {d : PyData} (h : ShQ dp bk d) : Shn dp (402 * bk + 400) d := by
 refine ⟨h.ok, h.sh, h.dp, ?_⟩
 have z := PyData.shown_le_bulk 400 (by decide) d h.lf
 have b := h.bk
 omega
theorem ShnA.nil : ShnA 0 0 [] := ⟨trivial, rfl, Nat.le_refl _, Nat.le_refl _⟩
theorem ShnA.up {dp sz dp' sz' : Nat} {d : List PyData} (h : ShnA dp sz d) (h1 : dp <= dp') (h2 : sz <= sz') : ShnA dp' sz' d := ⟨h.ok, h.sh, Nat.le_trans h.dp h1, Nat.le_trans h.ln h2⟩
theorem ShnA.cons {dp s s' : Nat} {d : PyData} {ds : List PyData} (a : Shn dp s d) (b : ShnA dp s' ds) : ShnA dp (s + 2 + s') (d :: ds) := by
 have h1 := a.dp
 have h2 := b.dp
 have h3 := a.ln
 have h4 := b.ln
 refine ⟨⟨a.ok, b.ok⟩, by simp [PyData.showableAll, a.sh, b.sh], ?_, ?_⟩
 · simp only [PyData.depthAll]
   omega
 · simp only [PyData.shownAll, List.map_cons, List.sum_cons, List.length_cons]
   omega
theorem ShnA.all {dp s : Nat} : ∀ {ds : List PyData}, (∀ d ∈ ds, Shn dp s d) -> ShnA dp (ds.length * (s + 2)) ds
 | [], _ => ShnA.nil.up (Nat.zero_le _) (Nat.zero_le _)
 | d :: ds, h => by
   have a := h d List.mem_cons_self
   have b := ShnA.all λ x hx => h x (List.mem_cons_of_mem _ hx)
   refine (ShnA.cons a b).up (Nat.le_refl _) ?_
   rw [List.length_cons, Nat.add_mul]
   omega
theorem ShnA.app {dp s s' : Nat} : ∀ {ds es : List PyData}, ShnA dp s ds -> ShnA dp s' es -> ShnA dp (s + s') (ds ++ es)
 | [], es, a, b => b.up (Nat.le_refl _) (by omega)
 | d :: ds, es, a, b => by
   have h1 := a.dp
   have h4 := a.ln
   have h0 := a.ok
   have hs := a.sh
   simp only [PyData.depthAll] at h1
   simp only [PyData.shownAll, List.map_cons, List.sum_cons, List.length_cons] at h4
   simp only [PyData.showableAll, Bool.and_eq_true] at hs
   have c : ShnA dp (((PyData.shownAll ds).map (·.length)).sum + 2 * ds.length) ds := ⟨h0.2, hs.2, by omega, Nat.le_refl _⟩
   have e : Shn dp d.shown.length d := ⟨h0.1, hs.1, by omega, Nat.le_refl _⟩
   exact (ShnA.cons e (ShnA.app c b)).up (Nat.le_refl _) (by omega)
theorem Shn.list {dp s : Nat} {ds : List PyData} (h : ShnA dp s ds) : Shn (dp + 1) (s + 3) (.list ds) := by
 have h1 := h.dp
 have h2 := listText_len_le (PyData.shownAll ds)
 have h3 := PyData.shownAll_length ds
 have h4 := h.ln
 refine ⟨h.ok, by simpa [PyData.showable] using h.sh, ?_, ?_⟩
 · simp only [PyData.depth]
   omega
 · simp only [PyData.shown]
   omega
theorem Shn.tup {dp s : Nat} {ds : List PyData} (h : ShnA dp s ds) : Shn (dp + 1) (s + 3) (.tuple ds) := by
 have h1 := h.dp
 have h2 := tupleText_len_le (PyData.shownAll ds)
 have h3 := PyData.shownAll_length ds
 have h4 := h.ln
 refine ⟨h.ok, by simpa [PyData.showable] using h.sh, ?_, ?_⟩
 · simp only [PyData.depth]
   omega
 · simp only [PyData.shown]
   omega
theorem Shn.listE {α : Type} {e : α -> PyData} {dp s n : Nat} {xs : List α} (h : ∀ x ∈ xs, Shn dp s (e x)) (hl : xs.length <= n) : Shn (dp + 1) (n * (s + 2) + 3) (eL e xs) := by
 have := Shn.list (ShnA.all (ds := xs.map e) (dp := dp) (s := s) λ d hd => by
   obtain ⟨x, hx, rfl⟩ := List.mem_map.mp hd
   exact h x hx)
 rw [List.length_map] at this
 exact this.up (Nat.le_refl _) (Nat.add_le_add_right (Nat.mul_le_mul_right _ hl) _)
theorem Shn.int {n : Int} (k : Nat) (h0 : 0 < k) (hk : k <= 500) (h : n.natAbs < 10 ^ k) : Shn 0 (k + 1) (.int n) := by
 have l : n.natAbs.log2 < 1920 := by
   rcases Nat.eq_zero_or_pos n.natAbs with e | e
   · rw [e]
     decide
   · refine (Nat.log2_lt (by omega)).mpr (Nat.lt_of_lt_of_le h ?_)
     exact Nat.le_trans (Nat.pow_le_pow_right (by decide) hk) (by decide +kernel)
 refine ⟨trivial, by simpa [PyData.showable] using l, by simp [PyData.depth], ?_⟩
 have := int_text_length_le10 (a := n) (k := k) h0 h
 simp only [PyData.shown]
 rw [PySem.ofString_length]
 exact this
theorem Shn.non : Shn 0 4 .none := ⟨trivial, rfl, by simp [PyData.depth], by decide⟩
theorem Shn.bl (b : Bool) : Shn 0 5 (.bool b) := ⟨trivial, rfl, by simp [PyData.depth], by cases b <;> decide⟩
theorem Shn.wd {s : Str} (h : wdb s = true) : Shn 0 200 (.str s) := by
 simp only [wdb, Bool.and_eq_true, decide_eq_true_eq] at h
 refine ⟨h.1, h.2.1, by simp [PyData.depth], ?_⟩
 have hx : ∀ c ∈ s.cps.toList, c < 16 ^ 8 := by simpa only [PyData.leavesShort, List.all_eq_true, decide_eq_true_eq] using h.2.2.1
 have e := PySem.StrLaws.reprText_len s hx
 have l : s.length <= 16 := h.2.2.2
 simp only [PyData.shown]
 omega
theorem GN.shn {s : Str} (g : GN s) : Shn 0 100 (.str s) := by
 have q := g.shq
 refine ⟨q.ok, q.sh, q.dp, ?_⟩
 have hx : ∀ c ∈ s.cps.toList, c < 16 ^ 8 := λ c hc => by
   have := (g.2.2 c hc).2
   omega
 have e := PySem.StrLaws.reprText_len s hx
 have l : s.length <= 8 := g.2.1
 simp only [PyData.shown]
 omega
theorem Shn.dict {α : Type} {e : α -> PyData} {dp s n : Nat} {m : List (Str × α)} (nd : (ks m).Nodup) (h : ∀ q ∈ m, GN q.1 /\ Shn dp s (e q.2)) (hl : m.length <= n) : Shn (dp + 1) (n * (s + 104) + 3) (eD iS e m) := by
 have key : ∀ {m : List (Str × α)}, (∀ q ∈ m, GN q.1 /\ Shn dp s (e q.2)) -> dOkK (m.map λ p => (kD (iS p.1), e p.2)) /\ PyData.showableKv (m.map λ p => (kD (iS p.1), e p.2)) = true /\
     PyData.depthKv (m.map λ p => (kD (iS p.1), e p.2)) <= dp /\ ((PyData.shownKv (m.map λ p => (kD (iS p.1), e p.2))).map (·.length)).sum + 2 * m.length <= m.length * (s + 104) := by
   intro m
   induction m with
   | nil => exact λ _ => ⟨trivial, rfl, Nat.zero_le _, Nat.zero_le _⟩
   | cons q m ih =>
     intro h
     obtain ⟨h0, h1, h3, h4⟩ := ih λ z hz => h z (List.mem_cons_of_mem _ hz)
     obtain ⟨a, b⟩ := h q List.mem_cons_self
     have sa : Shn 0 100 (kD (iS q.1)) := a.shn
     have b1 := b.ln
     have b2 := sa.ln
     have b3 := b.dp
     have b4 := sa.dp
     refine ⟨⟨b.ok, h0⟩, ?_, ?_, ?_⟩
     · simp [PyData.showableKv, sa.sh, b.sh, h1]
     · simp only [List.map_cons, PyData.depthKv]
       omega
     · have e2 : ((kD (iS q.1)).shown ++ ": " ++ (e q.2).shown).length = (kD (iS q.1)).shown.length + 2 + (e q.2).shown.length := by
         rw [PySem.strLen_append, PySem.strLen_append]
         rfl
       simp only [List.map_cons, PyData.shownKv, List.sum_cons, List.length_cons]
       rw [Nat.add_mul]
       omega
 obtain ⟨h0, h1, h3, h4⟩ := key h
 have h5 := dictText_len_le (PyData.shownKv (m.map λ p => (kD (iS p.1), e p.2)))
 have h6 := PyData.shownKv_length (m.map λ p => (kD (iS p.1), e p.2))
 rw [List.length_map] at h6
 have h7 := Nat.mul_le_mul_right (s + 104) hl
 refine ⟨⟨?_, h0⟩, by simpa [PyData.showable, eD] using h1, ?_, ?_⟩
 · rw [List.map_map]
   have e : ((λ x : PyData × PyData => x.1) ∘ λ p : Str × α => (kD (iS p.1), e p.2)) = (λ n : Str => kD (iS n)) ∘ (λ p : Str × α => p.1) := rfl
   rw [e, <- List.map_map]
   exact nd_map (λ a b z => injS _ _ (kD_inj z)) nd
 · simp only [eD, PyData.depth]
   omega
 · simp only [eD, PyData.shown]
   omega
end RC

namespace RC
open PySem PySem.Spec PyProof.Rows L2
def stp (m : Nat) : Nat -> Nat -> Nat
 | 0, i => i
 | n + 1, i => stp m n ((i * 5 + 1) % (m + 1))
structure MOk (m : Nat) : Prop where
 get : ∀ j, j <= m -> ∃ b, b < m + 1 /\ stp m b 0 = j
 back : stp m (m + 1) 0 = 0
def occ (m : Nat) (ow : Array (Option Nat)) : List Nat := (List.range (m + 1)).filterMap λ j => ow.getD j none
structure OwI (m : Nat) (ow : Array (Option Nat)) (k : Nat) : Prop where
 sz : ow.size = m + 1
 pm : (occ m ow).Perm (List.range k)
theorem fm_congr {α β : Type} {f g : α -> Option β} : ∀ {l : List α}, (∀ x ∈ l, f x = g x) -> l.filterMap f = l.filterMap g
 | [], _ => rfl
 | x :: l, h => by
   rw [List.filterMap_cons, List.filterMap_cons, h x List.mem_cons_self, fm_congr λ y hy => h y (List.mem_cons_of_mem _ hy)]
theorem OwI.put {m k q : Nat} {ow : Array (Option Nat)} (h : OwI m ow k) (hq : (ow.getD q (some 0)).isNone = true) : OwI m (ow.setIfInBounds q (some k)) (k + 1) := by
 have hlt : q < ow.size := by
   rcases Nat.lt_or_ge q ow.size with z | z
   · exact z
   · simp [Array.getD, Nat.not_lt.mpr z] at hq
 have hn : ow.getD q none = none := by
   have e : ow.getD q none = ow.getD q (some 0) := by simp [Array.getD, hlt]
   rw [e]
   simpa using hq
 refine ⟨by simp [h.sz], ?_⟩
 have hs := h.sz
 have sp : List.range (m + 1) = List.range q ++ q :: (List.range' (q + 1) (m - q)) := by
   rw [List.range_eq_range', show m + 1 = q + (1 + (m - q)) by omega, <- List.range'_append_1, <- List.range'_append_1, List.range_eq_range']
   simp
 have ne : ∀ j, j ≠ q -> (ow.setIfInBounds q (some k)).getD j none = ow.getD j none := λ j hj => by
   simp only [Array.getD_eq_getD_getElem?]
   rw [Array.getElem?_setIfInBounds_ne (λ z => hj z.symm)]
 have same : (ow.setIfInBounds q (some k)).getD q none = some k := by
   simp only [Array.getD_eq_getD_getElem?]
   rw [Array.getElem?_setIfInBounds_self_of_lt hlt]
   rfl
 have a : occ m (ow.setIfInBounds q (some k)) = (List.range q).filterMap (λ j => ow.getD j none) ++ k :: (List.range' (q + 1) (m - q)).filterMap (λ j => ow.getD j none) := by
   unfold occ
   rw [sp, List.filterMap_append, List.filterMap_cons_some (f := λ j => (ow.setIfInBounds q (some k)).getD j none) same]
   congr 1
   · exact fm_congr λ j hj => ne j (by have := List.mem_range.mp hj; omega)
   · congr 1
     exact fm_congr λ j hj => ne j (by have := List.mem_range'_1.mp hj; omega)
 have b : occ m ow = (List.range q).filterMap (λ j => ow.getD j none) ++ (List.range' (q + 1) (m - q)).filterMap (λ j => ow.getD j none) := by
   unfold occ
   rw [sp, List.filterMap_append, List.filterMap_cons_none (f := λ j => ow.getD j none) hn]
 rw [a, List.range_succ]
 have p := h.pm
 rw [b] at p
 exact (List.perm_middle.trans (p.cons k)).trans (List.perm_append_singleton _ _).symm
end RC

namespace RC
open PySem PySem.Spec PyProof.Rows L2
def kyM : Value -> Key
 | .int i _ => .inl i
 | .str x _ => .inr x
 | _ => .inl 0
def GdM (w : World) (e : Int × Value) : Prop := keyIs (kyM e.2) e.2 = true /\ e.1 = keyH w (kyM e.2)
def kys (es : Array (Int × Value)) : List Key := es.toList.map λ e => kyM e.2
def SM (w : World) (h : Heap) (a : Addr) (L : List Key) : Prop :=
 ∃ o es ep t, h.get? a = some o /\ o.ExactSet /\ o.data = .set es ep t /\ (∀ e ∈ es.toList, GdM w e) /\ kys es = L /\ L.Nodup /\ es.size < scanBound /\ t.fits es.size = true /\ Ris t.place.toList /\ (w.params.followText "set-order" = true \/ t.led = true)
section
variable {P : Program} {w : World} {h h' : Heap} {a : Addr} {L : List Key}
theorem SM.keep (R : SM w h a L) (k : ∀ o, h.get? a = some o -> h'.get? a = some o) : SM w h' a L := by
 obtain ⟨o, es, ep, t, ho, r⟩ := R
 exact ⟨o, es, ep, t, k o ho, r⟩
end
section
variable {P : Program} {w : World} {A : Around} {E : Value -> Shared -> Prop} {s : Shared} {a : Addr} {L : List Key}
end
end RC

namespace RC
open PySem PySem.Spec PyProof.Rows L2
structure SX (w : World) (h : Heap) (a : Addr) (es : Array (Int × Value)) (ep : Nat) (t : SetTable) : Prop where
 ob : ∃ o, h.get? a = some o /\ o.ExactSet /\ o.data = .set es ep t
 gd : ∀ e ∈ es.toList, GdM w e
 nd : (kys es).Nodup
 sz : es.size < scanBound
 ft : t.fits es.size = true
 rs : Ris t.place.toList
 ld : w.params.followText "set-order" = true \/ t.led = true
theorem SX.keep {w : World} {h h' : Heap} {a : Addr} {es : Array (Int × Value)} {ep : Nat} {t : SetTable} (R : SX w h a es ep t) (k : ∀ o, h.get? a = some o -> h'.get? a = some o) : SX w h' a es ep t := by
 obtain ⟨o, a1, a2, a3⟩ := R.ob
 exact ⟨⟨o, k o a1, a2, a3⟩, R.gd, R.nd, R.sz, R.ft, R.rs, R.ld⟩
theorem fit_of {t : SetTable} {n : Nat} (h1 : t.place.size = n) (h2 : t.dummies = #[]) (h3 : n <= t.mask) : t.fits n = true := by
 unfold SetTable.fits SetTable.fill
 rw [h2, Bool.and_eq_true, beq_iff_eq, decide_eq_true_eq]
 exact ⟨h1, by show t.place.size + 0 <= t.mask; omega⟩
section
variable {P : Program} {w : World} {A : Around} {E : Value -> Shared -> Prop} {s : Shared} {a : Addr} {es : Array (Int × Value)} {ep : Nat} {t : SetTable}
end
section
variable {P : Program} {w : World} {A : Around} {E : Value -> Shared -> Prop} {s : Shared} {a b : Addr} {es eo : Array (Int × Value)} {ep eq : Nat} {t to : SetTable}
end
end RC

namespace RC
open PySem PySem.Spec PyProof.Rows L2
theorem nodup_le {α : Type} : ∀ {l m : List α}, l.Nodup -> (∀ x ∈ l, x ∈ m) -> l.length <= m.length
 | [], m, _, _ => Nat.zero_le _
 | x :: l, m, nd, h => by
   obtain ⟨n1, n2⟩ := List.nodup_cons.mp nd
   obtain ⟨a, b, rfl⟩ := List.append_of_mem (h x List.mem_cons_self)
   have := nodup_le (m := a ++ b) n2 λ y hy => by
     have := h y (List.mem_cons_of_mem _ hy)
     rcases List.mem_append.mp this with z | z
     · exact List.mem_append_left _ z
     · rcases List.mem_cons.mp z with z | z
       · exact absurd (z ▸ hy) n1
       · exact List.mem_append_right _ z
   rw [List.length_append] at this
   rw [List.length_cons, List.length_append, List.length_cons]
   omega
section
variable {P : Program} {w : World} {A : Around} {E : Value -> Shared -> Prop} {s : Shared} {a b : Addr} {es eo : Array (Int × Value)} {ep eq : Nat} {t to : SetTable}
structure Got (L0 : List Key) (ks L : List Key) : Prop where
 nd : L.Nodup
 mem : ∀ k, k ∈ L ↔ k ∈ L0 \/ k ∈ ks
theorem Got.nil {L0 : List Key} (h : L0.Nodup) : Got L0 [] L0 := ⟨h, λ k => by simp⟩
theorem Got.len {L0 ks L : List Key} (g : Got L0 ks L) : L.length <= L0.length + ks.length := by
 have := nodup_le g.nd λ k hk => List.mem_append.mpr ((g.mem k).mp hk)
 rwa [List.length_append] at this
end
end RC

namespace RC
open PySem PySem.Spec PyProof.Rows L2
section
variable {P : Program} {w : World} {A : Around} {E : Value -> Shared -> Prop} {s : Shared}
variable {a d : Addr} {es : Array (Int × Value)} {ep : Nat} {t : SetTable} {vs : List (Key × Value)}
end
end RC

namespace RC
open PySem PySem.Spec PyProof.Rows L2
section
variable {P : Program} {w : World} {A : Around} {E : Value -> Shared -> Prop} {s : Shared} {a b : Addr} {ea eb : Array (Int × Value)} {pa pb : Nat} {ta tb : SetTable}
end
end RC

namespace RC
open PySem PySem.Spec PyProof.Rows L2
section
variable {P : Program} {w : World} {A : Around} {E : Value -> Shared -> Prop} {s : Shared} {a : Addr} {es : Array (Int × Value)} {ep : Nat} {t : SetTable}
end
section
variable {P : Program} {w : World} {A : Around} {E : Value -> Shared -> Prop} {s : Shared}
end
def SetH (w : World) (a : Addr) (L : List Key) : HO := .ext λ h => SM w h a L
section
variable {X : Cx}
def rSetL (K : Fr) (w : World) : List V -> Hp -> VK -> Prop := λ xs H Q => ∃ (l : Addr) (ks : List Key), xs = [.ref l] /\ SqL K H l (ks.map kV) /\ ks.length < 4000 /\ ∀ p L, H p = none -> Got [] ks L -> Q (.ref p) (upd H p (SetH w p L))
end
end RC

namespace RC
open PySem PySem.Spec PyProof.Rows L2
section
variable {P : Program} {w : World} {A : Around} {E : Value -> Shared -> Prop} {s : Shared} {a b : Addr} {ea eb : Array (Int × Value)} {pa pb : Nat} {ta tb : SetTable} {es : Array (Int × Value)} {ep : Nat} {t : SetTable}
end
section
variable {P : Program} {w : World} {A : Around} {E : Value -> Shared -> Prop} {s : Shared} {a b : Addr} {ea eb : Array (Int × Value)} {pa pb : Nat} {ta tb : SetTable} {es : Array (Int × Value)} {ep : Nat} {t : SetTable}
structure Left (L0 ks L : List Key) : Prop where
 nd : L.Nodup
 mem : ∀ k, k ∈ L ↔ k ∈ L0 /\ k ∉ ks
end
section
variable {P : Program} {w : World} {A : Around} {E : Value -> Shared -> Prop} {s : Shared} {a b : Addr} {ea eb : Array (Int × Value)} {pa pb : Nat} {ta tb : SetTable}
end
end RC

namespace RC
open PySem PySem.Spec PyProof.Rows L2
def dd {α : Type} [DecidableEq α] : List α -> List α
 | [] => []
 | x :: xs => x :: (dd xs).filter λ y => decide (y ≠ x)
structure SIs {κ : Type} (ik : κ -> Key) (L : List Key) (xs : List κ) : Prop where
 nd : L.Nodup
 mem : ∀ q, q ∈ L ↔ q ∈ xs.map ik
theorem SIs.len {κ : Type} {ik : κ -> Key} {L : List Key} {xs : List κ} (h : SIs ik L xs) : L.length <= xs.length := by
 have := nodup_le h.nd λ q hq => (h.mem q).mp hq
 rwa [List.length_map] at this
theorem perm_of {α : Type} {l m : List α} (h1 : l.Nodup) (h2 : m.Nodup) (h : ∀ x, x ∈ l ↔ x ∈ m) : l.Perm m := by
 induction l generalizing m with
 | nil =>
   have : m = [] := List.eq_nil_iff_forall_not_mem.mpr λ x hx => nomatch (h x).mpr hx
   rw [this]
 | cons x l ih =>
   obtain ⟨n1, n2⟩ := List.nodup_cons.mp h1
   obtain ⟨a, b, rfl⟩ := List.append_of_mem ((h x).mp List.mem_cons_self)
   have nd2 : (x :: (a ++ b)).Nodup := List.perm_middle.nodup_iff.mp h2
   obtain ⟨n3, n4⟩ := List.nodup_cons.mp nd2
   refine (List.Perm.cons x (ih n2 n4 λ y => ?_)).trans List.perm_middle.symm
   constructor
   · intro hy
     have := (h y).mp (List.mem_cons_of_mem _ hy)
     rcases List.mem_append.mp this with z | z
     · exact List.mem_append_left _ z
     · rcases List.mem_cons.mp z with z | z
       · exact absurd (z ▸ hy) n1
       · exact List.mem_append_right _ z
   · intro hy
     have : y ∈ a ++ x :: b := by
       rcases List.mem_append.mp hy with z | z
       · exact List.mem_append_left _ z
       · exact List.mem_append_right _ (List.mem_cons_of_mem _ z)
     rcases List.mem_cons.mp ((h y).mpr this) with z | z
     · exact absurd (z ▸ hy) n3
     · exact z
section
variable {K : Fr} {α : Type} {e : α -> PyData} {Rs : List Res} {H : Hp} {Q : VK} {v : V} {a b : Addr} {σ : L2.St} {w : World}
end
end RC

namespace RC
open PySem PySem.Spec PyProof.Rows L2
def tkey (h : Heap) : Value -> Str
 | .ref a => match h.get? a with
   | some o => match o.data with
     | .seq xs _ => match (xs[0]? : Option Value) with
       | some (Value.str y _) => y
       | _ => ""
     | _ => ""
   | none => ""
 | _ => ""
def TxP (h : Heap) (v : Value) (y : Str) (u : Value) : Prop := ∃ a o t n, v = .ref a /\ h.get? a = some o /\ o.cls = .type "tuple" /\ o.data = .seq #[.str y t, u] n
theorem TxP.key {h : Heap} {v : Value} {y : Str} {u : Value} (p : TxP h v y u) : tkey h v = y := by
 obtain ⟨a, o, t, n, rfl, ho, hc, hd⟩ := p
 unfold tkey
 simp only [ho, hd]
 rfl
theorem TxP.keeps {h h' : Heap} {v : Value} {y : Str} {u : Value} (p : TxP h v y u) (k : ∀ b o, v = .ref b -> h.get? b = some o -> h'.get? b = some o) : TxP h' v y u := by
 obtain ⟨a, o, t, n, rfl, ho, hc, hd⟩ := p
 exact ⟨a, o, t, n, rfl, k _ _ rfl ho, hc, hd⟩
section
variable {prog : Program} {w : World} {A : Around} {s : Shared}
end
section
variable {X : Cx}
end
end RC

namespace RC
open PySem PySem.Spec PyProof.Rows L2
section
variable {K : Fr} {α : Type} {e : α -> PyData} {Rs : List Res} {H H' : Hp} {Q : VK} {v : V} {p : Addr}
end
section
variable {K : Fr} {α : Type} {e : α -> PyData} {Rs : List Res} {H H' : Hp} {Q : VK} {v : V} {p : Addr} {σ : L2.St}
end
section
variable {K : Fr} {α β γ : Type} {ea : α -> PyData} {eb : β -> PyData} {ec : γ -> PyData} {Rs : List Res} {H H' : Hp} {Q : VK} {v : V} {p : Addr} {σ : L2.St}
end
section
variable {K : Fr} {Rs : List Res} {H : Hp} {Q : VK} {v : V} {d : PyData} {ta tb : TE} {σ : L2.St}
end
section
variable {K : Fr} {α κ : Type} {ik ik' : κ -> Key} {e e' : α -> PyData} {Rs : List Res} {H : Hp} {Q : VK} {v : V} {p : Addr} {m : List (κ × α)}
end
section
variable {β : Type} {F : β -> (β -> Prop) -> (β -> Prop) -> Prop} {s0 : β} {KK : β -> Prop} {tc : TT} {tb : TS} {D : Ends} {σ : L2.St} {H : Hp}
end
section
variable {K : Fr} {κ α β : Type} {ik : κ -> Key} {e : α -> PyData} {Rs : List Res} {H : Hp} {v : V} {m : List (κ × α)} {σ : L2.St} {f : DF}
end
end RC

namespace RC
open PySem PySem.Spec PyProof.Rows L2
section
variable {X : Cx}
end
section
variable {α β : Type} {K : Fr} {Rs : List Res} {H : Hp} {σ : L2.St} {Q : VK} {v : V} {p : Addr} {e : α -> PyData}
end
end RC

namespace RC
open PySem PySem.Spec PyProof.Rows L2
def dEq {κ α : Type} [DecidableEq κ] [DecidableEq α] (m n : List (κ × α)) : Bool := (m.length == n.length) && m.all λ p => decide (lk n p.1 = some p.2)
inductive HitsV (K : Fr) (H : Hp) (ls : List (Key × V)) : List (Key × V) -> Bool -> Prop
 | nil : HitsV K H ls [] true
 | miss {k : Key} {v : V} {r : List (Key × V)} (h : valV ls k = none) : HitsV K H ls ((k, v) :: r) false
 | hit {k : Key} {v u : V} {r : List (Key × V)} {d e : PyData} {b : Bool} (h : valV ls k = some u) (h1 : Dp K H v d) (h2 : Dp K H u e) (s1 : SeqAt.shaped d = true) (s2 : SeqAt.shaped e = true) (t : HitsV K H ls r b) : HitsV K H ls ((k, v) :: r) (PyData.eqv d e && b)
section
variable {X : Cx} {pins : List (Addr × Obj)} {σ : L2.St} {H : Hp} {s : Shared}
end
section
variable {X : Cx}
end
structure EqT {α : Type} [DecidableEq α] (e : α -> PyData) : Prop where
 sh : ∀ x, EqOk (e x)
 ev : ∀ x y, PyData.eqv (e x) (e y) = decide (x = y)
section
variable {κ α β : Type} [DecidableEq κ] [DecidableEq α] {K : Fr} {Rs : List Res} {H F : Hp} {σ : L2.St} {Q : VK} {v w : V} {p : Addr} {e : α -> PyData} {ik : κ -> Key} {m n : List (κ × α)}
theorem DVs.get {a : Addr} {k : κ} (inj : ∀ a b, ik a = ik b -> a = b) (D : DVs K Rs H ik e (.ref a) m) : ∃ o, DGet H a (kV (ik k)) o /\ ((lk m k = none /\ o = none) \/ ∃ x u, lk m k = some x /\ o = some u /\ M (da K u (e x) :: Rs) H) := by
 obtain ⟨p, kvs, F, L, e0, h1, s1, m1, t1⟩ := D
 cases e0
 refine ⟨valV kvs (ik k), .inl ⟨kvs, ik k, h1, rfl, rfl⟩, ?_⟩
 cases z : lk m k with
 | none => exact .inl ⟨rfl, t1.none inj z⟩
 | some x =>
   obtain ⟨u, hu, hd⟩ := t1.some inj z
   exact .inr ⟨x, u, rfl, hu, F, L, ⟨[], L, rfl, ⟨rfl, hd⟩, s1⟩, m1⟩
end
section
variable {κ α : Type} [DecidableEq κ] {K : Fr} {Rs : List Res} {H : Hp} {Q : VK}
theorem v_dictpG {ek : κ -> PyData} {ik : κ -> Key} {e : α -> PyData} {v : V} {ps : List (κ × α)} (hk : ∀ {F : Hp} {v : V} {k : κ}, Dq K F v (ek k) -> v = kV (ik k)) (inj : ∀ a b, ik a = ik b -> a = b) (S : M Rs H) (j : Nat) (hj : Rs[j]? = some (da K v (eL (eP ek e) ps)))
   (k : ∀ p H', M (adR K ik e p (dOf ps) :: Rs) H' -> Q (.ref p) H') : rDictP K [v] H Q := by
 obtain ⟨F, L, s, mm⟩ := S
 cases EnF.at j hj F L s with
 | @lst a vs _ hs q =>
   have key : ∀ {ps : List (κ × α)} {vs : List V}, DqAll K F vs (ps.map (eP ek e)) -> ∃ as kvs, vs = as.map V.ref /\ Paired (λ p (kv : Key × V) => SqT K F p [kV kv.1, kv.2]) as kvs /\ TKv K F ik e kvs ps := by
     intro ps
     induction ps with
     | nil =>
       intro vs h
       cases h
       exact ⟨[], [], rfl, .nil, .nil⟩
     | cons q ps ih =>
       intro vs h
       cases h with
       | cons d t =>
         obtain ⟨as, kvs, rfl, h2, h3⟩ := ih t
         cases d with
         | @tup b ws _ hb ht =>
           cases ht with
           | cons d1 t1 =>
             cases t1 with
             | cons d2 t2 =>
               cases t2
               have e1 := hk d1
               subst e1
               exact ⟨b :: as, (ik q.1, _) :: kvs, rfl, .cons hb h2, .cons d2 h3⟩
   obtain ⟨as, kvs, rfl, h2, h3⟩ := key q
   refine ⟨a, as, kvs, rfl, mm.ex.sqL hs, Paired.mapP h2 λ p kv z => mm.ex.sqT z, λ p hp => k p _ ?_⟩
   have mg : ∀ {ps : List (κ × α)} {kvs acc : List (Key × V)} {ac : List (κ × α)}, TKv K F ik e kvs ps -> TKv K F ik e acc ac -> TKv K F ik e (mergeK acc kvs) (ps.foldl (λ acc q => pk acc q.1 q.2) ac) := by
     intro ps
     induction ps with
     | nil =>
       intro kvs acc ac h1 h2
       cases h1
       exact h2
     | cons q ps ih =>
       intro kvs acc ac h1 h2
       cases h1 with
       | @cons k' _ _ _ _ d t =>
         have z := ih t (h2.put (k := k') inj d)
         exact z
   have S0 : M (tkR K ik e (mergeK [] kvs) (dOf ps) :: Rs) H := ⟨F, L, ⟨[], L, rfl, ⟨rfl, mg h3 .nil⟩, s⟩, mm⟩
   exact adR_close (S0.new hp)
end
end RC

namespace RC
open PySem PySem.Spec PyProof.Rows L2
end RC

namespace RC
open PySem PySem.Spec PyProof.Rows L2
section
variable {prog : Program} {w : World} {A : Around} {I : Addr} {fp wr : List Addr} {n : Nat} {P : Nat -> Value -> Prop} {St : Nat -> Heap -> Prop}
end
section
variable {prog : Program} {w : World} {A : Around} {E : Value -> Shared -> Prop} {s : Shared}
end
end RC

namespace RC
open PySem PySem.Spec PyProof.Rows L2
section
variable {X : Cx}
end
section
variable {κ α : Type} {K : Fr} {Rs : List Res} {H : Hp} {Q : VK} {v : V} {e : α -> PyData}
end
end RC

namespace RC
open PySem PySem.Spec PyProof.Rows L2
def repL {α : Type} (xs : List α) (n : Int) : List α := (List.replicate n.toNat xs).flatten
section
variable {α β γ : Type} {e : α -> PyData} {sv : α -> V} {K : Fr} {σ : L2.St} {H : Hp} {Q : VK} {D : Ends} {Rs : List Res} {v w : V} {xs ys : List α} {p : Addr}
theorem DqAll.rep {F : Hp} {vs : List V} {ds : List PyData} (q : DqAll K F vs ds) : ∀ n : Nat, DqAll K F (List.replicate n vs).flatten (List.replicate n ds).flatten
 | 0 => .nil
 | n + 1 => by
   rw [List.replicate_succ, List.replicate_succ, List.flatten_cons, List.flatten_cons]
   exact q.app (DqAll.rep q n)
theorem rep_map {f : α -> β} (n : Nat) : ((List.replicate n xs).flatten).map f = (List.replicate n (xs.map f)).flatten := by
 rw [List.map_flatten, List.map_replicate]
theorem v_repO {n : Int} (S : M Rs H) (j : Nat) (hj : Rs[j]? = some (acR K p (xs.map e))) (hk : -(2 ^ 63) <= n /\ n < 2 ^ 63 /\ xs.length * n.toNat <= 100000) (k : ∀ q H', M (acR K q ((repL xs n).map e) :: Rs) H' -> Q (.ref q) H') : rRep (.ref p) (.int n) H Q := by
 obtain ⟨vs, S2⟩ := (S.at j hj).ex
 have S3 := S2.sp
 have hl : vs.length = xs.length := by
   have := (S3.gotAA 1 rfl).len
   simpa using this
 refine ⟨p, n, vs, rfl, rfl, S3.got 0 rfl, hk.1, hk.2.1, Nat.le_trans (by rw [hl]; exact hk.2.2) (by decide), λ q hq => k q _ ?_⟩
 have S4 : M (pt q (.lst (List.replicate n.toNat vs).flatten) :: pt p (.lst vs) :: daA K vs (xs.map e) :: Rs.eraseIdx j) (upd H q (.lst (List.replicate n.toNat vs).flatten)) := S3.new hq
 obtain ⟨F, L, ⟨l1, l2, rfl, a1, l3, l4, rfl, a2, l5, l6, rfl, ⟨rfl, dq⟩, b⟩, mm⟩ := S4
 have dq2 : DqAll K F (List.replicate n.toNat vs).flatten ((repL xs n).map e) := by
   unfold repL
   rw [rep_map]
   exact dq.rep _
 have b2 : Sat F (acR K p (xs.map e) :: Rs.eraseIdx j) (l3 ++ l6) := ⟨l3, l6, rfl, ⟨vs, l3, [], by simp, a2, rfl, dq⟩, b⟩
 obtain ⟨L', pp, sat⟩ := b2.perm (perm_at j hj).symm
 exact ⟨F, l1 ++ L', ⟨l1, L', rfl, ⟨_, l1, [], by simp, a1, rfl, dq2⟩, sat⟩, mm.perm (by simpa using List.Perm.append_left l1 pp)⟩
end
end RC

namespace RC
open PySem PySem.Spec PyProof.Rows L2
section
variable {K : Fr} {H : Hp} {v w : V} {Q : VK} {Rs : List Res} {σ : L2.St} {D : Ends} {α β : Type} {e : α -> PyData} {xs : List α}
theorem div_okB {i j : Int} (h : 0 < j /\ j < 2 ^ 200) : CDivW i j := wide_div (b := 200) h.1 (by omega) (by decide) (by decide)
theorem v_divB {i j : Int} (h : 0 < j /\ j < 2 ^ 200) (k : Q (.int (i / j)) H) : uDiv (.int i) (.int j) H Q := ⟨i, j, rfl, rfl, div_okB h, k⟩
theorem v_inVI {n : Int} {xs : List Int} (h : Dq K H v (eV eI xs)) (k : Q (.bl (decide (n ∈ xs))) H) : uIn K (.int n) v H Q := by
 cases h with
 | tup a q =>
   exact .inl ⟨_, _, rfl, .inr ((flI.all q) ▸ a), rfl, flat_ints xs, by rw [inV_int]; exact k⟩
end
end RC

namespace RC
open PySem PySem.Spec PyProof.Rows L2
def cpOk : Nat -> PyData -> Prop
 | 0, d => match d with
   | .list _ => False
   | .tuple _ => False
   | .dict _ => False
   | _ => True
 | n + 1, d => match d with
   | .list ds => ds.length <= 1000 /\ ∀ x ∈ ds, cpOk n x
   | .tuple ds => ds.length <= 1000 /\ ∀ x ∈ ds, cpOk n x
   | .dict kvs => kvs.length <= 1000 /\ (kvs.map (·.1)).Nodup /\ ∀ p ∈ kvs, cpOk n p.2
   | _ => True
def spCp (K : Fr) : Nat -> Sp
 | 0 => λ _ _ _ _ => False
 | n + 1 => λ vs H Q _ => ∃ (Rs : List Res) (v : V) (d : PyData) (P : PyData -> Prop), vs = [v] /\ M (da K v (eA d) :: Rs) H /\ (cpOk n d /\ P d) /\ ∀ (r : PyData) (u : V) H', P r -> M (da K u (eA r) :: Rs) H' -> Q u H'
theorem len_cp {K : Fr} : ∀ (n : Nat) (vs : List V) (H : Hp) (Q : VK) (E : XK), spCp K n vs H Q E -> vs.length = 1
 | 0, _, _, _, _, h => h.elim
 | n + 1, _, _, _, _, ⟨_, _, _, _, e, _⟩ => by rw [e]; rfl
def rTupL (K : Fr) : List V -> Hp -> VK -> Prop := λ xs H Q => ∃ p ys, xs = [.ref p] /\ ((SqL K H p ys /\ ∀ l, H l = none -> Q (.ref l) (upd H l (.tup ys))) \/ (SqT K H p ys /\ Q (.ref p) H))
theorem cr_tupL {X : Cx} : CallR X (.type "tuple") (rTupL X.K) := call_tuple_of
abbrev tIsi (K : Fr) (c : String) : TT := tB (tCB (uIsi K) (tCons (tVar 0) (tCons (tC (.ty c)) tNil)))
abbrev tCpy (K : Fr) (sp : Sp) : TS := tSeq (tIfS (tIsi K "list") (tRet (tLc (iList K (tVar 0)) (gName 1) tYes (tCall sp [] E0 (tCons (tVar 1) tNil)) [1])) tNext)
 (tSeq (tIfS (tIsi K "tuple") (tRet (tCB (rTupL K) (tCons (tLc (iTup K (tVar 0)) (gName 1) tYes (tCall sp [] E0 (tCons (tVar 1) tNil)) [1]) tNil))) tNext)
 (tSeq (tIfS (tIsi K "dict") (tRet (tFzE (tCB (rDictP K) (tCons (tLkE (tLc (iKeys (tVar 0)) (gName 2) tYes (tTup (tCons (tVar 2) (tCons (tCall sp [] E0 (tCons (tOp rIxK (tVar 0) (tVar 2)) tNil)) tNil))) [2])) tNil)))) tNext)
 (tRet (tVar 0))))
section
variable {K : Fr} {H : Hp} {v w : V} {Q : VK} {Rs : List Res} {σ : L2.St} {α β : Type}
theorem lc_tup {te : TE} {tt : TT} {g : TG} {ws : List Nat} {F : α -> (Option β -> Prop) -> Prop} {e : α -> PyData} {e' : β -> PyData} {xs : List α} {vs : List V} {KK : List β -> Prop} {a : Addr} (hf : xs.length <= 100000 /\ lcD F xs [] KK) (S : M Rs H)
   (hrd : ∀ H, M Rs H -> SqT K H a vs /\ DqAll K H vs (xs.map e))
   (hs : ∀ (i : Nat) v x (acc : List β) E H (kk : Option β -> Prop) (N : Hp -> Prop), (acc.map e').length < 100000 -> M (acR K E (acc.map e') :: Rs) H -> vs[i]? = some v -> xs[i]? = some x -> F x kk ->
     (∀ y H, kk (some y) -> M (acR K E (acc.map e' ++ [e' y]) :: Rs) H -> N H) -> (∀ H, kk none -> M (acR K E (acc.map e') :: Rs) H -> N H) -> g v (wipe σ ws) H λ σ2 H2 => wipe σ2 ws = wipe σ ws /\ tt σ2 H2 λ b H3 =>
     if b = true then te σ2 H3 (LcK N E) else N H3)
   (hd : ∀ E (acc : List β) H, KK acc -> M (acR K E (acc.map e') :: Rs) H -> Q (.ref E) H) : LcW (Itt K a) g tt te ws σ Q H := by
 obtain ⟨hz, hf⟩ := hf
 have hl : vs.length = xs.length := by
   have := (hrd H S).2.len
   rwa [List.length_map] at this
 refine lc_X walk_tup (λ E i H => ∃ acc, lcD F (xs.drop i) acc KK /\ acc.length <= i /\ M (acR K E (acc.map e') :: Rs) H) (λ E hE => ⟨[], by simpa using hf, Nat.le_refl _, acR_nil (S.new hE)⟩) (λ E i H _ ⟨acc, _, _, S⟩ => (hrd H S.tl).1) ?_ ?_
 · rintro E i v H H' hi ⟨acc, hf, ha, S⟩ ⟨rfl, hv⟩
   have hi2 : i < xs.length := by omega
   rw [List.drop_eq_getElem_cons hi2] at hf
   refine hs i v _ acc E H' _ _ (by rw [List.length_map]; omega) S hv (List.getElem?_eq_getElem hi2) hf (λ y H hk S => ⟨acc ++ [y], hk, by rw [List.length_append]; simpa using ha, by rw [List.map_append]; exact S⟩) (λ H hk S => ⟨acc, ?_, by omega, S⟩)
   simpa using hk
 · rintro E H ⟨acc, hf, ha, S⟩
   rw [hl, List.drop_length] at hf
   exact hd E acc H hf S
theorem lcD_same : ∀ {xs : List PyData} {acc : List PyData} {ok : PyData -> Prop} {k : List PyData -> Prop}, (∀ x ∈ xs, ok x) -> k (acc ++ xs) -> lcD (λ x (kk : Option PyData -> Prop) => ok x /\ kk (some x)) xs acc k
 | [], acc, ok, k, _, h => by simpa [lcD] using h
 | x :: xs, acc, ok, k, ho, h => ⟨ho x List.mem_cons_self, lcD_same (λ y hy => ho y (List.mem_cons_of_mem _ hy)) (by simpa using h)⟩
theorem map_eA (ds : List PyData) : ds.map eA = ds := List.map_id _
theorem pure_cpL {n : Nat} {E : XK} {ds : List PyData} {P : PyData -> Prop} (S0 : M (da K v (.list ds) :: Rs) H) (ok : ds.length <= 1000 /\ ∀ x ∈ ds, cpOk n x) (hP : P (.list ds)) (hk : ∀ (r : PyData) (u : V) H', P r -> M (da K u (eA r) :: Rs) H' -> Q u H')
   : tLc (iList K (tVar 0)) (gName 1) tYes (tCall (spCp K (n + 1)) [] E0 (tCons (tVar 1) tNil)) [1] [some v, none, none] H Q := by
 refine g_lc (g_iList (g_var rfl ?_))
 obtain ⟨a, vs, ea, S1⟩ := (M.addA S0 (EnF.at 0 rfl)).openQ
 have S2 : M (rdL K a vs :: daA K vs (ds.map eA) :: da K v (.list ds) :: Rs) H := by rw [map_eA]; exact S1
 refine v_itLe ea (S2.gotR 0 rfl) ?_
 refine lc_lst (K := K) (e := eA) (e' := eA) (F := λ x kk => cpOk n x /\ kk (some x)) (KK := λ acc => acc = ds) ⟨by omega, lcD_same ok.2 (by simp)⟩ S2 (λ _ S => ⟨S.gotR 0 rfl, S.gotAA 1 rfl⟩) (λ i u x acc E2 H2 kk N hl S3 hv hx hf hp hn => ?_) (λ E2 acc H3 e S4 => ?_)
 · have S5 := S3.elA 2 rfl hv hx
   refine g_name (g_wipe rfl (g_yes (v_ifT (g_call (g_cons (g_var rfl (g_nil ⟨_, u, x, λ r => r = x, rfl, M.addA S5 (EnF.at 0 rfl), ⟨hf.1, rfl⟩, λ r u2 H4 er S6 => ?_⟩)))))))
   subst er
   refine acR_put S6 2 rfl (EnF.at 0 rfl) hl λ H5 S7 => ?_
   exact hp _ _ hf.2 (M.sub (.cons 0 rfl (.cons 2 rfl (.cons 2 rfl (.cons 2 rfl (.tl (.tl (.refl _))))))) S7)
 · subst e
   have S8 := acR_fix S4
   rw [map_eA] at S8
   exact hk _ _ _ hP (M.sub (.cons 0 rfl (.tl (.tl (.tl (.refl _))))) S8)
def rdT (K : Fr) (a : Addr) (vs : List V) : Res := ⟨λ F l => l = [] /\ SqT K F a vs, λ _ _ _ e h => ⟨h.1, e.sqT h.2⟩⟩
theorem M.gotTu {a : Addr} {vs : List V} (S : M Rs H) (i : Nat) (e : Rs[i]? = some (rdT K a vs)) : SqT K H a vs := by
 obtain ⟨F, L, s, m⟩ := S
 obtain ⟨l, h⟩ := s.get i e
 exact m.ex.sqT h.2
theorem M.openT {ds : List PyData} (S : M (da K v (.tuple ds) :: Rs) H) : ∃ a vs, v = .ref a /\ M (rdT K a vs :: daA K vs ds :: Rs) H := by
 obtain ⟨F, L, ⟨l1, l2, rfl, ⟨rfl, e⟩, b⟩, m⟩ := S
 cases e with
 | tup h1 h2 => exact ⟨_, _, rfl, F, l2, ⟨[], l2, rfl, ⟨rfl, h1⟩, [], l2, rfl, ⟨rfl, h2⟩, b⟩, m⟩
theorem pure_cpT {n : Nat} {ds : List PyData} {P : PyData -> Prop} (S0 : M (da K v (.tuple ds) :: Rs) H) (ok : ds.length <= 1000 /\ ∀ x ∈ ds, cpOk n x) (hP : P (.tuple ds)) (hk : ∀ (r : PyData) (u : V) H', P r -> M (da K u (eA r) :: Rs) H' -> Q u H')
   : tCB (rTupL K) (tCons (tLc (iTup K (tVar 0)) (gName 1) tYes (tCall (spCp K (n + 1)) [] E0 (tCons (tVar 1) tNil)) [1]) tNil) [some v, none, none] H Q := by
 obtain ⟨a, vs, ea, S1⟩ := (M.addA S0 (EnF.at 0 rfl)).openT
 have S2 : M (rdT K a vs :: daA K vs (ds.map eA) :: da K v (.tuple ds) :: Rs) H := by rw [map_eA]; exact S1
 refine g_cb (g_cons (g_lc (g_var rfl ⟨a, ea, ⟨vs, S2.gotTu 0 rfl⟩, ?_⟩)))
 refine lc_tup (K := K) (e := eA) (e' := eA) (F := λ x kk => cpOk n x /\ kk (some x)) (KK := λ acc => acc = ds) ⟨by omega, lcD_same ok.2 (by simp)⟩ S2 (λ _ S => ⟨S.gotTu 0 rfl, S.gotAA 1 rfl⟩) (λ i u x acc E2 H2 kk N hl S3 hv hx hf hp hn => ?_) (λ E2 acc H3 e S4 => ?_)
 · have S5 := S3.elA 2 rfl hv hx
   refine g_name (g_wipe rfl (g_yes (v_ifT (g_call (g_cons (g_var rfl (g_nil ⟨_, u, x, λ r => r = x, rfl, M.addA S5 (EnF.at 0 rfl), ⟨hf.1, rfl⟩, λ r u2 H4 er S6 => ?_⟩)))))))
   subst er
   refine acR_put S6 2 rfl (EnF.at 0 rfl) hl λ H5 S7 => ?_
   exact hp _ _ hf.2 (M.sub (.cons 0 rfl (.cons 2 rfl (.cons 2 rfl (.cons 2 rfl (.tl (.tl (.refl _))))))) S7)
 · subst e
   have S8 := acR_fix S4
   rw [map_eA] at S8
   obtain ⟨a2, vs2, e2, S9⟩ := (M.addA S8 (EnF.at 0 rfl)).openQ
   refine g_nil ⟨a2, vs2, by rw [e2], .inl ⟨S9.gotR 0 rfl, λ l hl => ?_⟩⟩
   have S10 := S9.new (o := .tup vs2) hl
   have S11 : M (da K (.ref l) (.tuple acc) :: _) _ := S10.fixG (φ := λ F => DqAll K F vs2 acc) (R := da K (.ref l) (.tuple acc)) (λ F L s => by
     obtain ⟨l, h⟩ := s.get 1 rfl
     exact h.2) λ F q fp => ⟨rfl, .tup (.inl (.inl fp)) q⟩
   exact hk _ _ _ hP (M.sub (.cons 0 rfl (.tl (.tl (.tl (.tl (.tl (.tl (.refl _)))))))) S11)
theorem DqKv.some_m : ∀ {kvs : List (Key × V)} {ds : List (PyData × PyData)}, DqKv K H kvs ds -> ∃ m : List (Key × PyData), ds = m.map λ p => (kD (id p.1), eA p.2)
 | _, _, .nil => ⟨[], rfl⟩
 | _, _, .cons (k := k) (d := d) h r => by
   obtain ⟨m, rfl⟩ := DqKv.some_m r
   exact ⟨(k, d) :: m, rfl⟩
theorem dOf_ndG {κ γ : Type} [DecidableEq κ] {m acc : List (κ × γ)} (h : (ks (acc ++ m)).Nodup) : m.foldl (λ acc q => pk acc q.1 q.2) acc = acc ++ m := by
 induction m generalizing acc with
 | nil => simp
 | cons q m ih =>
   have hx : q.1 ∉ ks acc := by
     unfold ks at h ⊢
     rw [List.map_append, List.map_cons, List.nodup_append] at h
     exact λ z => h.2.2 _ z _ List.mem_cons_self rfl
   have e1 : pk acc q.1 q.2 = acc ++ [q] := pk_new (lk_none_iff.mpr hx)
   rw [List.foldl_cons, e1, ih (by simpa using h)]
   simp
theorem keys_same {κ γ : Type} [DecidableEq κ] {m : List (κ × γ)} (nd : (ks m).Nodup) (d : γ) : (ks m).map (λ k => (k, (lk m k).getD d)) = m := by
 unfold ks
 rw [List.map_map]
 refine (List.map_congr_left λ q hq => ?_).trans (List.map_id _)
 have := lk_of_mem nd hq
 show (q.1, (lk m q.1).getD d) = q
 rw [this]
 rfl
theorem d_ixG {α : Type} {e : α -> PyData} {m : List (Key × α)} {n : Key} {x : α} (D : DVs K Rs H id e v m) (hx : lk m n = some x) (k : ∀ u, M (da K u (e x) :: Rs) H -> Q u H) : rIxK v (kV n) H Q := by
 obtain ⟨p, kvs, u, rfl, h, h1, S⟩ := D.at (λ _ _ e => e) hx
 exact ⟨p, u, rfl, .inl ⟨kvs, n, h, rfl, h1.symm⟩, k u S⟩
theorem dq_key (k : Key) : Dq K H (kV k) (kD k) := by
 cases k with
 | inl i => exact .int i
 | inr x => exact .str x
theorem dq_key' {k : Key} (h : Dq K H v (kD k)) : v = kV k := by
 cases k with
 | inl i => cases h; rfl
 | inr x => cases h; rfl
theorem pure_cpD {n : Nat} {ds : List (PyData × PyData)} {P : PyData -> Prop} (S0 : M (da K v (.dict ds) :: Rs) H) (ok : ds.length <= 1000 /\ (ds.map (·.1)).Nodup /\ ∀ p ∈ ds, cpOk n p.2) (hP : P (.dict ds)) (hk : ∀ (r : PyData) (u : V) H', P r -> M (da K u (eA r) :: Rs) H' -> Q u H')
   : tFzE (tCB (rDictP K) (tCons (tLkE (tLc (iKeys (tVar 0)) (gName 2) tYes (tTup (tCons (tVar 2) (tCons (tCall (spCp K (n + 1)) [] E0 (tCons (tOp rIxK (tVar 0) (tVar 2)) tNil)) tNil))) [2])) tNil)) [some v, none, none] H Q := by
 obtain ⟨m, rfl⟩ : ∃ m : List (Key × PyData), ds = m.map λ p => (kD (id p.1), eA p.2) := by
   obtain ⟨F, L, s, mm⟩ := S0
   cases EnF.at 0 rfl F L s with
   | dct h q => exact q.some_m
 have S0 : M (da K v (eD id eA m) :: Rs) H := S0
 have hP : P (eD id eA m) := hP
 obtain ⟨h1, h2, h3⟩ := ok
 rw [List.length_map] at h1
 have nd : (ks m).Nodup := by
   rw [List.map_map] at h2
   exact nd_of_map kD (by unfold ks; rw [List.map_map]; exact h2)
 obtain ⟨p, od, kvs, ep, hkv, S1⟩ := (M.addA S0 (EnF.at 0 rfl)).openDk
 show tCB _ _ _ _ (FzK Q)
 refine g_cb (g_cons (.inl (g_lc (g_iKeys (g_var rfl (v_itK ep (S1.gotF 0 rfl) ?_))))))
 refine lc_fz (K := K) (ik := id) (m := m) (β := Key × PyData) (e' := eP kD eA) (sv := kV) (F := λ k kk => ∃ d, lk m k = some d /\ cpOk n d /\ kk (some (k, d))) (KK := λ acc => acc = m) (λ _ => rfl) hkv ⟨by rw [ks_len]; omega, ?_⟩ S1 (λ _ _ S => S.gotF 0 rfl) (λ x acc E2 H2 kk N hl S3 hf hp hn => ?_) (λ E2 acc H3 e S4 => ?_)
 · refine lcD_map (λ k => (k, (lk m k).getD .none)) (λ k hk kk hkk => ?_) (by rw [List.nil_append, keys_same nd])
   obtain ⟨d, hd⟩ := lk_some hk
   rw [hd] at hkk
   exact ⟨d, hd, h3 (kD k, d) (List.mem_map.mpr ⟨(k, d), lk_mem hd, rfl⟩), hkk⟩
 · obtain ⟨d, hd, okd, hkk⟩ := hf
   refine g_name (g_wipe rfl (g_yes (v_ifT (g_tup (g_cons (g_var rfl (g_cons (g_call (g_cons (g_op (g_var rfl (g_var rfl (d_ixG (M.dvA S3 3 rfl) hd λ u S5 => ?_)))))))))))))
   refine g_nil ⟨_, u, d, λ r => r = d, rfl, S5, ⟨okd, rfl⟩, λ r u2 H4 er S6 => ?_⟩
   subst er
   refine g_nil (v_tupq (ds := [kD x, eA r]) S6 (EnF.consA (EnF.all λ _ => dq_key x) (EnF.consA (EnF.at 0 rfl) EnF.nilA)) (len_ok rfl) λ q H5 S7 => ?_)
   refine acR_put S7 2 rfl (EnF.at 0 rfl) hl λ H6 S8 => ?_
   exact hp (x, r) _ hkk (M.sub (.cons 0 rfl (.cons 2 rfl (.cons 2 rfl (.cons 2 rfl (.tl (.tl (.refl _))))))) S8)
 · subst e
   have S8 := acR_fixL S4
   refine g_nil (v_dictpG (ek := kD) (ik := id) (e := eA) (λ h => dq_key' h) (λ _ _ e => e) S8 0 rfl λ q H5 S9 => ?_)
   have e2 : dOf acc = acc := by
     have := dOf_ndG (m := acc) (acc := []) (by simpa using nd)
     simpa [dOf] using this
   rw [e2] at S9
   refine v_fzD S9 0 rfl λ H6 S10 => ?_
   exact hk _ _ _ hP (M.sub (.cons 0 rfl (.tl (.tl (.tl (.tl (.refl _)))))) S10)
theorem pure_cp (n : Nat) (vs : List V) (H : Hp) (Q : VK) (E : XK) (N : List Str) (hN : N.length = 3) (h : spCp K (n + 1) vs H Q E) : tCpy K (spCp K n) { nx := λ _ H' => Q .non H', rt := Q } (L2.start N vs) H := by
 obtain ⟨Rs, v, d, P, rfl, S0, ⟨ok, hP⟩, hk⟩ := h
 have es : L2.start N [v] = [some v, none, none] := by
   match N, hN with
   | [_, _, _], _ => rfl
 rw [es]
 have dn : RC.Dn K H v d := Dq.dn (M.gotA S0 0 rfl)
 have no : ∀ (c : String) (t u : TS) (D : Ends), c ∈ ["int", "bool", "str", "list", "tuple", "dict"] -> isA c d = false -> u D [some v, none, none] H -> tIfS (tIsi K c) t u D [some v, none, none] H := λ c t u D hc hi hu => by
   refine g_if (g_B (g_cb (g_cons (g_var rfl (g_cons (g_c (g_nil (v_isq dn hc hi (g_bl ?_)))))))))
   exact hu
 have yes : ∀ (c : String) (t u : TS) (D : Ends), c ∈ ["int", "bool", "str", "list", "tuple", "dict"] -> isA c d = true -> t D [some v, none, none] H -> tIfS (tIsi K c) t u D [some v, none, none] H := λ c t u D hc hi hu => by
   refine g_if (g_B (g_cb (g_cons (g_var rfl (g_cons (g_c (g_nil (v_isq dn hc hi (g_bl ?_)))))))))
   exact hu
 have fin : isA "list" d = false -> isA "tuple" d = false -> isA "dict" d = false -> tCpy K (spCp K n) { nx := λ _ H' => Q .non H', rt := Q } [some v, none, none] H := λ a b c => by
   refine g_seq (no "list" _ _ _ (by decide) a (g_next (g_nx ?_)))
   refine g_seq (no "tuple" _ _ _ (by decide) b (g_next (g_nx ?_)))
   refine g_seq (no "dict" _ _ _ (by decide) c (g_next (g_nx ?_)))
   exact g_ret (g_var rfl (hk d v H hP S0))
 cases d with
 | none => exact fin rfl rfl rfl
 | bool b => exact fin rfl rfl rfl
 | int i => exact fin rfl rfl rfl
 | str x => exact fin rfl rfl rfl
 | list ds =>
   cases n with
   | zero => exact ok.elim
   | succ n => exact g_seq (yes "list" _ _ _ (by decide) rfl (g_ret (pure_cpL (E := E) S0 ok hP hk)))
 | tuple ds =>
   cases n with
   | zero => exact ok.elim
   | succ n =>
     refine g_seq (no "list" _ _ _ (by decide) rfl (g_next (g_nx ?_)))
     exact g_seq (yes "tuple" _ _ _ (by decide) rfl (g_ret (pure_cpT S0 ok hP hk)))
 | dict ds =>
   cases n with
   | zero => exact ok.elim
   | succ n =>
     refine g_seq (no "list" _ _ _ (by decide) rfl (g_next (g_nx ?_)))
     refine g_seq (no "tuple" _ _ _ (by decide) rfl (g_next (g_nx ?_)))
     exact g_seq (yes "dict" _ _ _ (by decide) rfl (g_ret (pure_cpD S0 ok hP hk)))
end
end RC

namespace RC
open PySem PySem.Spec PyProof.Rows L2
section
variable {X : Cx} {x : Str} {C fI : Addr} {k : Nat} {fd : FuncData} {ps : List Str} {B newId initId : String} {bmB : List Value} {p pos pos' : Pos}
def spX0 (C : Addr) : Sp := λ vs H Q _ => ∃ (a : Addr), vs = [.ref a] /\ H a = some (exo a C none) /\ Q .non H
theorem lenX0 {C : Addr} (vs : List V) (H : Hp) (Q : VK) (E : XK) (h : spX0 C vs H Q E) : vs.length = 1 := by
 obtain ⟨a, rfl, _⟩ := h
 rfl
end
theorem pureX0 {K : Fr} {C : Addr} {msg : Str} {B newId initId : String} {bmB : List Value} {N : List Str} (hN : start N [] = [none]) (T : XcB K C B newId initId bmB) (vs : List V) (H : Hp) (Q : VK) (E : XK) (h : spX0 C vs H Q E) :
   tDrop (tXi K initId (tCons (tVar 0) (tCons (tC (.str msg)) tNil))) { nx := λ _ H' => Q .non H', rt := Q } (start N vs) H := by
 obtain ⟨a, rfl, ha, q⟩ := h
 have e : start N [V.ref a] = [some (V.ref a)] := by
   have l : N.length = 1 := by
     have := congrArg List.length hN
     simpa [L2.start] using this
   simp [L2.start, l]
 rw [e]
 exact ⟨_, rfl, a, C, [.str msg], B, newId, bmB, rfl, by simp, T, ha, q⟩
def emR : Res := ⟨λ _ l => l = [], λ _ _ _ _ h => h⟩
section
variable {K : Fr} {H : Hp} {Q : VK} {a D : Addr} {b : Bool}
end
end RC

namespace RC
open PySem PySem.Spec PyProof.Rows L2
section
variable {K : Fr} {H : Hp} {Q : VK} {Rs : List Res} {σ : L2.St} {κ α : Type} [DecidableEq κ] {ik : κ -> Key} {e : α -> PyData} {p : Addr}
abbrev DispK (p : Addr) (Q : VK) : List (V × V) -> Hp -> Prop := λ ps H2 => H2 p = some (.dK []) /\ ∃ kvs : List (Key × V), ps = kvs.map (λ kv => (kV kv.1, kv.2)) /\ kvs.length <= 15 /\ Q (.ref p) (upd H2 p (.dK (mergeK [] kvs)))
theorem g_disp {trs : List (TE × TE)} (S : M Rs H) (k : ∀ p H', M (pt p (.dK []) :: Rs) H' -> tPairs trs σ H' (DispK p Q)) : tDisp trs σ H Q := λ p hp => k p _ (S.new hp)
theorem g_pcons {tk tv : TE} {r : List (TE × TE)} {P : List (V × V) -> Hp -> Prop} (k : tk σ H λ x H1 => tv σ H1 λ y H2 => tPairs r σ H2 λ ps H3 => P ((x, y) :: ps) H3) : tPairs ((tk, tv) :: r) σ H P := k
theorem g_pnil {P : List (V × V) -> Hp -> Prop} (k : P [] H) : tPairs [] σ H P := k
inductive Prs (K : Fr) (F : Hp) (ik : κ -> Key) (e : α -> PyData) : List (V × V) -> List (κ × α) -> Prop
 | nil : Prs K F ik e [] []
 | cons {k : κ} {x : α} {v : V} {r : List (V × V)} {m : List (κ × α)} (h : Dq K F v (e x)) (t : Prs K F ik e r m) : Prs K F ik e ((kV (ik k), v) :: r) ((k, x) :: m)
theorem Prs.keyed {F : Hp} : ∀ {ps : List (V × V)} {m : List (κ × α)}, Prs K F ik e ps m -> ∃ kvs : List (Key × V), ps = kvs.map (λ kv => (kV kv.1, kv.2)) /\ TKv K F ik e kvs m
 | _, _, .nil => ⟨[], rfl, .nil⟩
 | _, _, .cons (k := k) (v := v) h t => by
   obtain ⟨kvs, rfl, q⟩ := t.keyed
   exact ⟨(ik k, v) :: kvs, rfl, .cons h q⟩
theorem tk_merge {F : Hp} (inj : ∀ a b, ik a = ik b -> a = b) {kvs : List (Key × V)} {m : List (κ × α)} (h : TKv K F ik e kvs m) : ∀ {kv0 : List (Key × V)} {m0 : List (κ × α)}, TKv K F ik e kv0 m0 -> TKv K F ik e (mergeK kv0 kvs) (m.foldl (λ acc q => pk acc q.1 q.2) m0) := by
 induction h with
 | nil => exact λ h => h
 | cons h t ih => exact λ h0 => ih (h0.put inj h)
theorem v_disp {ps : List (V × V)} {m : List (κ × α)} (inj : ∀ a b, ik a = ik b -> a = b) (S : M Rs H) (j : Nat) (hj : Rs[j]? = some (pt p (.dK []))) (h : EnF (Rs.eraseIdx j) (λ F => Prs K F ik e ps m)) (hl : ps.length <= 15)
   (k : ∀ H', M (adR K ik e p (dOf m) :: Rs.eraseIdx j) H' -> Q (.ref p) H') : DispK p Q ps H := by
 have S1 := S.at j hj
 obtain ⟨F, L, ⟨l1, l2, rfl, a, b⟩, mm⟩ := id S1
 obtain ⟨kvs, rfl, t⟩ := (h F l2 b).keyed
 refine ⟨S1.got 0 rfl, kvs, rfl, by simpa using hl, k _ ?_⟩
 have S2 := S1.putAt (o' := .dK (mergeK [] kvs)) 0 rfl
 obtain ⟨F2, L2, ⟨l1, l2, rfl, a2, b2⟩, mm2⟩ := S2
 obtain ⟨kvs2, e2, t2⟩ := (h F2 l2 b2).keyed
 have e3 : kvs = kvs2 := by
   have inj2 : ∀ x y : Key × V, (kV x.1, x.2) = (kV y.1, y.2) -> x = y := by
     rintro ⟨a, b⟩ ⟨c, d⟩ z
     have z1 := (Prod.mk.inj z).1
     have z2 := (Prod.mk.inj z).2
     dsimp only at z1 z2
     subst z2
     cases a <;> cases c <;> first | (cases z1; rfl) | cases z1
   exact List.map_inj_right inj2 |>.mp e2
 subst e3
 exact ⟨F2, _, ⟨l1, l2, rfl, ⟨_, l1, [], by simp, a2, rfl, tk_merge inj t2 .nil⟩, b2⟩, mm2⟩
theorem EnF.nilP : EnF Rs (λ F => Prs K F ik e [] []) := λ _ _ _ => .nil
theorem EnF.consP {k : κ} {x : α} {v : V} {ps : List (V × V)} {m : List (κ × α)} (h : EnF Rs (λ F => Dq K F v (e x))) (r : EnF Rs (λ F => Prs K F ik e ps m)) : EnF Rs (λ F => Prs K F ik e ((kV (ik k), v) :: ps) ((k, x) :: m)) := λ F L s => .cons (h F L s) (r F L s)
end
end RC

namespace RC
open PySem PySem.Spec PyProof.Rows L2
section
variable {X : Cx} {CX : CXT} {g : Bool} {k n : Nat} {f C : Addr} {fd : FuncData} {ps ks : List Str} {sp : Sp} {W : WX} {x m : Str} {p pos apos : Pos} {o e : Expr} {es : List Expr} {kws : List Keyword} {t tk : TA} {gg : List Value -> List Value -> List Value} {gV : List V -> List V -> List V}
variable {σ : L2.St} {H : Hp} {Q : VK} {Rs : List Res} {l : Nat}
end
end RC

namespace RC
open PySem PySem.Spec PyProof.Rows L2
section
variable {K : Fr} {α β γ δ : Type} {Rs : List Res} {H : Hp} {A : V -> α -> Res} {B : V -> β -> Res} {C : V -> γ -> Res} {D : V -> δ -> Res} {T : Addr -> α -> Res} {p : Addr} {Q : VK}
end
end RC

namespace RC
open PySem PySem.Spec PyProof.Rows L2
section
variable {κ α : Type} [DecidableEq κ]
end
section
variable {K : Fr} {κ α : Type} {Rs : List Res} {H : Hp} {A : V -> α -> Res} {ik : κ -> Key} {p : Addr} {Q : VK}
variable [DecidableEq κ]
end
section
variable {K : Fr} {α : Type} {Rs : List Res} {H : Hp} {A : V -> α -> Res} {p : Addr} {Q : VK}
end
section
variable {K : Fr} {κ α : Type} [DecidableEq κ] {Rs : List Res} {H : Hp} {A : V -> α -> Res} {ik : κ -> Key} {p : Addr} {Q : VK}
end
end RC
namespace RC
open PySem PySem.Spec PyProof.Rows L2
section
variable {K : Fr} {κ α : Type} {Rs : List Res} {H : Hp} {A : V -> α -> Res} {ik : κ -> Key} {p : Addr} {Q : VK}
end
section
variable {K : Fr} {Rs : List Res} {H : Hp} {Q : VK} {v : V} {α : Type} {σ : L2.St} {tb : TE}
end
end RC

namespace RC
open PySem PySem.Spec PyProof.Rows L2
inductive OD where
 | fz (d : PyData)
 | ol (l : List OD)
 | ot (l : List OD)
mutual
def OD.fgt : OD -> PyData
 | .fz d => d
 | .ol l => .list (OD.fgtAll l)
 | .ot l => .tuple (OD.fgtAll l)
def OD.fgtAll : List OD -> List PyData
 | [] => []
 | x :: xs => x.fgt :: OD.fgtAll xs
end
mutual
def odR (K : Fr) : V -> OD -> Res
 | v, .fz d => da K v d
 | v, .ol l => exi λ p => prp (v = .ref p) (exi λ vs => sp2 (pt p (.lst vs)) (odRs K vs l))
 | v, .ot l => exi λ p => prp (v = .ref p) (exi λ vs => sp2 (pt p (.tup vs)) (odRs K vs l))
def odRs (K : Fr) : List V -> List OD -> Res
 | [], [] => emR
 | v :: vs, x :: xs => sp2 (odR K v x) (odRs K vs xs)
 | [], _ :: _ => prp False emR
 | _ :: _, [] => prp False emR
end
section
variable {K : Fr} {Rs : List Res} {H : Hp} {Q : VK} {v : V} {p : Addr}
mutual
theorem M.gotOD : ∀ {x : OD} {v : V} {Rs : List Res}, M (odR K v x :: Rs) H -> Dn K H v x.fgt
 | .fz d, v, Rs, S => Dq.dn (M.gotA S 0 rfl)
 | .ol l, v, Rs, S => by
   obtain ⟨p, S1⟩ := S.ex
   obtain ⟨e, S2⟩ := S1.pr
   obtain ⟨vs, S3⟩ := S2.ex
   subst e
   exact .lst (SqL.of (S3.sp.got 0 rfl)) (M.gotODs (S3.sp.at 1 rfl))
 | .ot l, v, Rs, S => by
   obtain ⟨p, S1⟩ := S.ex
   obtain ⟨e, S2⟩ := S1.pr
   obtain ⟨vs, S3⟩ := S2.ex
   subst e
   exact .tup (.inl (.inl (S3.sp.got 0 rfl))) (M.gotODs (S3.sp.at 1 rfl))
theorem M.gotODs : ∀ {l : List OD} {vs : List V} {Rs : List Res}, M (odRs K vs l :: Rs) H -> DnAll K H vs (OD.fgtAll l)
 | [], [], _, _ => .nil
 | x :: xs, v :: vs, _, S => .cons (M.gotOD S.sp) (M.gotODs (S.sp.at 1 rfl))
 | _ :: _, [], _, S => (S.pr).1.elim
 | [], _ :: _, _, S => (S.pr).1.elim
end
mutual
theorem M.frzOD : ∀ {x : OD} {v : V} {Rs : List Res}, M (odR K v x :: Rs) H -> M (da K v x.fgt :: Rs) H
 | .fz d, v, Rs, S => S
 | .ol l, v, Rs, S => by
   obtain ⟨p, S1⟩ := S.ex
   obtain ⟨e, S2⟩ := S1.pr
   obtain ⟨vs, S3⟩ := S2.ex
   subst e
   have S4 := M.frzODs (S3.sp.at 1 rfl)
   have S5 : M (pt p (.lst vs) :: daA K vs (OD.fgtAll l) :: Rs) H := S4.at 1 rfl
   exact M.sub (.cons 0 rfl (.tl (.refl _))) (S5.fixG (φ := λ F => DqAll K F vs (OD.fgtAll l)) (R := da K (.ref p) (.list (OD.fgtAll l))) (λ F L s => by
     obtain ⟨l, h⟩ := s.get 0 rfl
     exact h.2) λ F q fp => ⟨rfl, .lst (.inl (.inl fp)) q⟩)
 | .ot l, v, Rs, S => by
   obtain ⟨p, S1⟩ := S.ex
   obtain ⟨e, S2⟩ := S1.pr
   obtain ⟨vs, S3⟩ := S2.ex
   subst e
   have S4 := M.frzODs (S3.sp.at 1 rfl)
   have S5 : M (pt p (.tup vs) :: daA K vs (OD.fgtAll l) :: Rs) H := S4.at 1 rfl
   exact M.sub (.cons 0 rfl (.tl (.refl _))) (S5.fixG (φ := λ F => DqAll K F vs (OD.fgtAll l)) (R := da K (.ref p) (.tuple (OD.fgtAll l))) (λ F L s => by
     obtain ⟨l, h⟩ := s.get 0 rfl
     exact h.2) λ F q fp => ⟨rfl, .tup (.inl (.inl fp)) q⟩)
theorem M.frzODs : ∀ {l : List OD} {vs : List V} {Rs : List Res}, M (odRs K vs l :: Rs) H -> M (daA K vs (OD.fgtAll l) :: Rs) H
 | [], [], _, S => by
   obtain ⟨F, L, ⟨l1, l2, e, a, s⟩, m⟩ := S
   exact ⟨F, L, ⟨l1, l2, e, ⟨a, .nil⟩, s⟩, m⟩
 | x :: xs, v :: vs, Rs, S => by
   have S1 := M.frzOD S.sp
   have S2 := M.frzODs (S1.at 1 rfl)
   have S3 : M (da K v x.fgt :: daA K vs (OD.fgtAll xs) :: Rs) H := S2.at 1 rfl
   obtain ⟨F, L, ⟨l1, l2, rfl, ⟨rfl, h⟩, l3, l4, rfl, ⟨rfl, q⟩, s⟩, m⟩ := S3
   exact ⟨F, l4, ⟨[], l4, rfl, ⟨rfl, .cons h q⟩, s⟩, m⟩
 | _ :: _, [], _, S => (S.pr).1.elim
 | [], _ :: _, _, S => (S.pr).1.elim
end
def OD.at : OD -> Int -> Option OD
 | .fz d, i => (anyAt d i).map .fz
 | .ol l, i => atI l i
 | .ot l, i => atI l i
end
section
variable {K : Fr} {α : Type} {Rs : List Res} {H : Hp} {A : V -> α -> Res} {p : Addr}
end
end RC

namespace RC
open PySem PySem.Spec PyProof.Rows L2
section
variable {σ : L2.St} {H : Hp} {D : Ends} {i j k : Nat} {ta : TA}
end
end RC

namespace RC
open PySem PySem.Spec PyProof.Rows L2
section
variable {K : Fr} {κ α : Type} {ik : κ -> Key} {e : α -> PyData} {m m2 : List (κ × α)} {Rs : List Res} {H : Hp} {Q : VK} {p : Addr} {v : V}
end
section
variable {X : Cx} {CX : CXT} {g : Bool} {k : Nat} {f : Addr} {fd : FuncData} {ps : List Str} {sp : Sp} {ds : List Value} {dvs : List V} {E : XK} {W : WX} {x : Str} {p pos : Pos}
end
section
variable {α : Type} {K : Fr} {Rs : List Res} {H : Hp} {Q : VK} {v : V} {e : α -> PyData}
end
end RC

namespace RC
open PySem PySem.Spec PyProof.Rows L2
section
open PySem.SeqAt AutoSeq1 MeetsSeq MeetsSeq2 MeetsSeq3 SeqRoads2
variable {prog : Program} {w : World}
end
inductive EqTD : PyData -> PyData -> Bool -> Prop
 | same {d : PyData} (h : dOk d) (hd : d.depth <= 60) : EqTD d d true
 | word {s t : Str} {x y : PyData} (h : s ≠ t) (h1 : EqOk (eS s)) (h2 : EqOk (eS t)) : EqTD (.tuple [.str s, x]) (.tuple [.str t, y]) false
 | dict {s : Str} {m n : List (Str × List Int)} (h : m ≠ n) (h1 : EqOk (eS s)) (hd : dEq m n = false) : EqTD (.tuple [.str s, eD iS (eL eI) m]) (.tuple [.str s, eD iS (eL eI) n]) false
section
variable {X : Cx} {pins : List (Addr × Obj)} {σ : L2.St} {H : Hp} {s : Shared}
end
section
variable {X : Cx}
end
end RC

namespace RC
open PySem PySem.Spec PyProof.Rows L2
section
variable {K : Fr} {α β γ : Type} {Rs : List Res} {H : Hp} {σ : L2.St} {D : Ends} {A : V -> α -> Res} {B : V -> β -> Res} {p : Addr} {Q : VK} {vs : List V} {xs : List α}
end
end RC

namespace RC
open PySem PySem.Spec PyProof.Rows L2
section
variable {prog : Program} {w : World} {A : Around} {E : Value -> Shared -> Prop} {s : Shared}
end
section
variable {X : Cx}
end
section
variable {K : Fr} {F : Hp}
end
section
variable {K : Fr} {Rs : List Res} {H : Hp} {σ : L2.St} {α : Type} {e : α -> PyData} {l b : Addr} {xs ys : List α} {Q : L2.St -> Hp -> Prop}
end
end RC

namespace RC
open PySem PySem.Spec PyProof.Rows L2
section
variable {X : Cx}
end
section
variable {K : Fr} {α β γ : Type} {Rs : List Res} {H : Hp} {σ : L2.St} {a b : Addr} {Q : VK} {vs us : List V} {xs : List α} {ys : List γ}
end
section
variable {K : Fr} {κ α κ2 γ : Type} [DecidableEq κ] [DecidableEq κ2] {Rs : List Res} {H : Hp} {σ : L2.St} {p : Addr} {Q : VK} {od : Obj} {kvs : List (Key × V)} {ik : κ -> Key} {m : List (κ × α)}
end
end RC

namespace RC
open PySem PySem.Spec PyProof.Rows L2
section
variable {K : Fr} {α : Type} {H : Hp} {A : V -> α -> Res} {p : Addr} {e : α -> PyData}
end
end RC

namespace RC
open PySem PySem.Spec PyProof.Rows L2
def tkeyI (h : Heap) : Value -> Int
 | .ref a => match h.get? a with
   | some o => match o.data with
     | .seq xs _ => match (xs[0]? : Option Value) with
       | some (Value.int y _) => y
       | _ => 0
     | _ => 0
   | none => 0
 | _ => 0
def TxPI (h : Heap) (v : Value) (y : Int) (u : Value) : Prop := ∃ a o t n, v = .ref a /\ h.get? a = some o /\ o.cls = .type "tuple" /\ o.data = .seq #[.int y t, u] n
theorem TxPI.key {h : Heap} {v : Value} {y : Int} {u : Value} (p : TxPI h v y u) : tkeyI h v = y := by
 obtain ⟨a, o, t, n, rfl, ho, hc, hd⟩ := p
 unfold tkeyI
 simp only [ho, hd]
 rfl
theorem TxPI.keeps {h h' : Heap} {v : Value} {y : Int} {u : Value} (p : TxPI h v y u) (k : ∀ b o, v = .ref b -> h.get? b = some o -> h'.get? b = some o) : TxPI h' v y u := by
 obtain ⟨a, o, t, n, rfl, ho, hc, hd⟩ := p
 exact ⟨a, o, t, n, rfl, k _ _ rfl ho, hc, hd⟩
section
variable {prog : Program} {w : World} {A : Around} {s : Shared}
end
section
variable {X : Cx}
end
section
variable {K : Fr} {α : Type} {e : α -> PyData} {Rs : List Res} {H H' : Hp} {Q : VK} {v : V} {p : Addr}
end
section
variable {α : Type} {A : V -> α -> Res} {p : Addr} {Rs : List Res} {H : Hp}
end
end RC

namespace RC
open PySem PySem.Spec PyProof.Rows L2
open PySem.Sem (wp)
def sIt : Bool -> String
 | true => "tuple_iterator"
 | false => "list_iterator"
def SIt (f : Bool) (h : Heap) (a l : Addr) (i : Nat) : Prop := ∃ o, h.get? a = some o /\ o.cls = .type (sIt f) /\ o.data = .fields #[.ref l, .int i 0]
theorem SIt.at {f : Bool} {h h' : Heap} {a l : Addr} {i : Nat} (x : SIt f h a l i) (e : ∀ o, h.get? a = some o -> h'.get? a = some o) : SIt f h' a l i := let ⟨o, ho, r⟩ := x; ⟨o, e _ ho, r⟩
section
variable {prog : Program} {w : World} {A : Around} {E : Value -> Shared -> Prop} {s : Shared}
end
section
variable {prog : Program} {w : World} {A : Around} {E : Value -> Shared -> Prop} {s : Shared}

end
section
variable {X : Cx} {pins : List (Addr × Obj)} {σ : L2.St} {H : Hp} {s : Shared} {f : Bool} {a : Addr} {xs ys : List V}
end
section
variable {K : Fr} {f1 f2 f : Bool} {a b : Addr} {vs us : List V} {Rs : List Res} {H : Hp} {σ : L2.St} {Q : VK} {α γ β : Type} {xs : List α} {ys : List γ} {D : Ends}
end
end RC

namespace RC
open PySem PySem.Spec PyProof.Rows L2
section
variable {P : Program} {w : World} {A : Around} {E : Value -> Shared -> Prop} {s : Shared} {a : Addr} {es : Array (Int × Value)} {ep : Nat} {t : SetTable}
end
section
variable {X : Cx}
end
section
variable {K : Fr} {α : Type} {e : α -> PyData} {Rs : List Res} {H : Hp} {Q : VK} {v : V} {a b : Addr} {σ : L2.St} {w : World}
end
section
variable {prog : Program} {w : World} {A : Around} {R : Result -> Shared -> Prop} {s : Shared} {elt t0 i0 t1 i1 : Expr} {ifs0 ifs1 : List Expr} {scope : Scope} {pos : Pos} {it acc : Value} {env : Env}
end

section
variable {X : Cx}
end
end RC

namespace RC
open PySem PySem.Spec PyProof.Rows L2
section
variable {K : Fr} {w : World} {Rs : List Res} {H : Hp} {σ : L2.St} {Q : VK} {α κ : Type} {vs : List V} {xs : List α} {a p D : Addr} {e : α -> PyData} {L : List Key} {acc : List Int}
end
structure InsY (K : Fr) (C : Addr) : Prop where
 ha : PySem.W.findIn K (.ref C) "__class__" = some (some (.builtin "object.__class__"))
 hn : PySem.W.specialIn K (.builtin "object.__class__") "__get__" = some (some (.builtin "getset_descriptor.__get__"))
 ht : PySem.W.takesIn K (.builtin "object.__class__") = some true
 hm : PySem.W.mroIn K C (.type "object") = some true
end RC

namespace RC
open PySem PySem.Spec PyProof.Rows L2
section
variable {K : Fr} {κ α β γ κ2 : Type} [DecidableEq κ] [DecidableEq κ2] {Rs : List Res} {H : Hp} {σ : L2.St} {p : Addr} {Q : VK} {od : Obj} {kvs : List (Key × V)} {ik : κ -> Key} {m : List (κ × α)} {e : α -> PyData} {sv : κ -> V} {D : Ends}
end
end RC

namespace RC
open PySem PySem.Spec PyProof.Rows L2
section
variable {K : Fr} {Rs : List Res} {H : Hp} {Q : VK} {p q : Addr} {m : List ((Int × Int) × Bool)} {x : Int × Int} {σ : L2.St}
end
section
variable {X : Cx}
end
section
variable {K : Fr} {α κ : Type} {ik : κ -> Key} {e : α -> PyData} {Rs : List Res} {H H' : Hp} {Q : VK} {v : V} {p : Addr} {m : List (κ × α)}
end
section
variable {K : Fr} {α β : Type} {A : V -> α -> Res} {B : List V -> β -> Res} {e : α -> PyData} {es : β -> List PyData} {Rs : List Res} {H : Hp} {p : Addr}
end
section
variable {K : Fr} {α : Type} {A : V -> α -> Res} {Rs : List Res} {H : Hp} {p : Addr}
end
end RC

namespace RC
open PySem PySem.Spec PyProof.Rows L2
section
variable {K : Fr} {α : Type} {e : α -> PyData} {Rs : List Res} {H : Hp} {p : Addr} {vs : List V} {xs : List α} {Q : VK}
end
section
variable {K : Fr} {H : Hp} {Q : VK} {v w : V}
end
end RC

namespace RC
open PySem PySem.Spec PyProof.Rows L2
section
variable {X : Cx}
end
section
variable {K : Fr} {Rs : List Res} {H : Hp} {Q : VK} {w : World} {a b : Addr}
end
section
variable {Rs : List Res} {H : Hp}
end
end RC

namespace RC
open PySem PySem.Spec PyProof.Rows L2
section
variable {K : Fr} {Rs : List Res} {H : Hp} {σ : L2.St} {Q : VK} {α β γ : Type} {xs : List α} {ys : List β} {a q D : Addr} {e : α -> PyData} {eb : β -> PyData} {e' : γ -> PyData} {sv : α -> V} {svb : β -> V} {acc : List γ}
end
section
variable {X : Cx}
end
end RC

namespace RC
open PySem PySem.Spec PyProof.Rows L2
section
variable {K : Fr} {Rs : List Res} {H : Hp} {σ : L2.St} {Q : VK} {α β γ : Type} {xs : List α} {ys : List β} {a q D : Addr} {e : α -> PyData} {eb : β -> PyData} {e' : γ -> PyData} {sv : α -> V} {svb : β -> V} {acc : List γ}
end
section
variable {K : Fr} {κ α β : Type} {ik : κ -> Key} {A : V -> α -> Res} {Rs : List Res} {H : Hp} {p : Addr} {m : List (κ × α)} {σ : L2.St} {od : Obj} {kvs : List (Key × V)} {Q : VK}
variable [DecidableEq κ]
end
end RC

namespace RC
open PySem PySem.Spec PyProof.Rows L2
section
variable {K : Fr} {α : Type} {e : α -> PyData} {Rs : List Res} {H : Hp} {Q : VK} {p q : Addr}
end
end RC

namespace RC
open PySem PySem.Spec PyProof.Rows L2
def nthR : List Res -> Nat -> Option Res
 | [], _ => none
 | R :: _, 0 => some R
 | _ :: Rs, n + 1 => nthR Rs n
def dropR : Nat -> List Res -> List Res
 | 0, Rs => Rs
 | _ + 1, [] => []
 | n + 1, _ :: Rs => dropR n Rs
def pkL (Bs tl : List Res) : List Nat -> List Res
 | [] => tl
 | j :: js => match nthR Bs j with
   | some R => R :: pkL Bs tl js
   | none => pkL Bs tl js
def notIn (j : Nat) : List Nat -> Bool
 | [] => true
 | i :: is => !(Nat.beq i j) && notIn j is
def okJ (n : Nat) : List Nat -> Bool
 | [] => true
 | j :: js => Nat.blt j n && (notIn j js && okJ n js)
theorem nthR_eq : ∀ (Bs : List Res) (n : Nat), nthR Bs n = Bs[n]?
 | [], n => by cases n <;> rfl
 | R :: Bs, 0 => rfl
 | R :: Bs, n + 1 => by
   rw [nthR, nthR_eq Bs n, List.getElem?_cons_succ]
theorem dropR_eq : ∀ (n : Nat) (Bs : List Res), dropR n Bs = Bs.drop n
 | 0, Bs => rfl
 | n + 1, [] => rfl
 | n + 1, R :: Bs => by
   rw [dropR, dropR_eq n Bs, List.drop_succ_cons]
theorem pkL_eq (Bs tl : List Res) : ∀ js : List Nat, pkL Bs tl js = js.filterMap (λ i => Bs[i]?) ++ tl
 | [] => rfl
 | j :: js => by
   rw [pkL, nthR_eq, pkL_eq Bs tl js, List.filterMap_cons]
   cases Bs[j]? <;> rfl
theorem notIn_ok {j : Nat} : ∀ {is : List Nat}, notIn j is = true -> j ∉ is
 | [], _ => λ h => nomatch h
 | i :: is, h => by
   obtain ⟨h1, h2⟩ := Bool.and_eq_true_iff.mp h
   intro hm
   rcases List.mem_cons.mp hm with e | e
   · subst e
     rw [show Nat.beq j j = true from Nat.beq_refl j] at h1
     cases h1
   · exact notIn_ok h2 e
theorem okJ_ok {n : Nat} : ∀ {js : List Nat}, okJ n js = true -> js.Nodup /\ ∀ j ∈ js, j < n
 | [], _ => ⟨List.nodup_nil, λ _ h => nomatch h⟩
 | j :: js, h => by
   obtain ⟨h1, h2⟩ := Bool.and_eq_true_iff.mp h
   obtain ⟨h3, h4⟩ := Bool.and_eq_true_iff.mp h2
   obtain ⟨i1, i2⟩ := okJ_ok h4
   refine ⟨List.nodup_cons.mpr ⟨notIn_ok h3, i1⟩, λ i hi => ?_⟩
   rcases List.mem_cons.mp hi with e | e
   · rw [e]
     exact Nat.le_of_ble_eq_true h1
   · exact i2 i e
theorem take_fm (Bs : List Res) (n : Nat) : (List.range n).filterMap (λ i => Bs[i]?) = Bs.take n := by
 induction n with
 | zero => rfl
 | succ n ih =>
   rw [List.range_succ, List.filterMap_append, ih, List.take_succ]
   cases e : Bs[n]? <;> simp [e]
theorem Sub.left (rest : List Res) : ∀ As : List Res, Sub As (As ++ rest)
 | [] => Sub.nil _
 | a :: As => Sub.cons 0 rfl (Sub.left rest As)
theorem M.pk {Bs : List Res} {H : Hp} (S : M Bs H) (n : Nat) (js : List Nat) (h : okJ n js = true) : M (pkL Bs (dropR n Bs) js) H := by
 obtain ⟨h1, h2⟩ := okJ_ok h
 rw [pkL_eq, dropR_eq]
 have hp : (js ++ (List.range n).filter λ i => !decide (i ∈ js)).Perm (List.range n) := by
   refine perm_of ?_ List.nodup_range λ x => ?_
   · refine List.nodup_append.mpr ⟨h1, List.nodup_range.sublist List.filter_sublist, λ a ha b hb e => ?_⟩
     subst e
     simp [ha] at hb
   · rw [List.mem_append, List.mem_filter, List.mem_range]
     constructor
     · rintro (h | h)
       · exact h2 x h
       · exact h.1
     · intro h
       by_cases z : x ∈ js
       · exact .inl z
       · exact .inr ⟨h, by simpa using z⟩
 have hq := (hp.filterMap λ i => Bs[i]?)
 rw [List.filterMap_append, take_fm] at hq
 have hr : ((js.filterMap (λ i => Bs[i]?) ++ Bs.drop n) ++ ((List.range n).filter λ i => !decide (i ∈ js)).filterMap (λ i => Bs[i]?)).Perm Bs := by
   have h3 := hq.append_right (Bs.drop n)
   rw [List.take_append_drop] at h3
   refine List.Perm.trans ?_ h3
   rw [List.append_assoc, List.append_assoc]
   exact List.Perm.append_left _ List.perm_append_comm
 refine M.sub (λ F L s => ?_) S
 obtain ⟨L0, p0, s0⟩ := s.perm hr.symm
 obtain ⟨L1, L2, p1, s1⟩ := Sub.left _ _ F L0 s0
 exact ⟨L1, L2, p0.trans p1, s1⟩
end RC

namespace RC
open PySem PySem.Spec PyProof.Rows L2
end RC

namespace RC
open PySem PySem.Spec PyProof.Rows L2
section
variable {K : Fr} {α : Type} {Rs : List Res} {H : Hp} {T : Addr -> α -> Res} {p : Addr} {Q : VK}
end
end RC

namespace RC
open PySem PySem.Spec PyProof.Rows L2
theorem FnX.or {g : Bool} {P : Program} {w : World} {K : Fr} {mg : Str -> Option Value} {base : Heap} {CX : CXT} {k : Nat} {f : Addr} {fd : FuncData} {ps : List Str} {s1 s2 : Sp}
   (F1 : FnX g P w K mg base CX k f fd ps s1) (F2 : FnX g P w K mg base CX k f fd ps s2) : FnX g P w K mg base CX k f fd ps (λ vs H Q E => s1 vs H Q E \/ s2 vs H Q E) :=
 ⟨λ vs H Q E h => h.elim (F1.lenG vs H Q E) (F2.lenG vs H Q E), λ B out t H args bs us vs Q E a b c d e f h => h.elim (F1.runG B out t H args bs us vs Q E a b c d e f) (F2.runG B out t H args bs us vs Q E a b c d e f)⟩
section
variable {K : Fr} {H : Hp} {v w : V} {Q : VK} {Rs : List Res} {σ : L2.St} {α β : Type}
end
section
variable {κ α : Type} [DecidableEq κ] {K : Fr} {ik : κ -> Key} {e : α -> PyData} {m : List (κ × α)} {Rs : List Res} {H : Hp} {Q : VK} {σ : L2.St} {p : Addr}
end
end RC

namespace RC
open PySem PySem.Spec PyProof.Rows L2
section
variable {X : Cx}
end
section
variable {α : Type} {K : Fr} {e : α -> PyData} {m : List (Int × α)} {Rs : List Res} {H : Hp} {Q : VK} {p : Addr}
end
section
variable {α : Type} {K : Fr} {Rs : List Res} {H : Hp} {Q : VK} {v w : V} {p : Addr} {e : α -> PyData}
end
end RC

namespace RC
open PySem PySem.Spec PyProof.Rows L2
section
variable {K : Fr} {κ α β : Type} {ik : κ -> Key} {A : V -> α -> Res} {e : α -> PyData} {Rs : List Res} {H : Hp} {p : Addr} {m : List (κ × α)} {σ : L2.St} {od : Obj} {kvs : List (Key × V)} {Q : VK}
end
end RC

namespace RC
open PySem PySem.Spec PyProof.Rows L2
section
variable {K : Fr} {α : Type} {A : V -> α -> Res} {Rs : List Res} {H : Hp} {p : Addr} {Q : VK}
variable {vs : List V} {xs : List α} {n m : Nat} {u1 u2 : V} {x1 x2 y1 y2 : α}
end
section
open PySem.SeqAt PySem.AutoSeq1 PySem.MeetsSeq PySem.MeetsSeq2 PySem.MeetsSeq3
end
section
variable {K : Fr} {α : Type} {e : α -> PyData} {Rs : List Res} {H : Hp} {p : Addr} {Q : VK} {om : List (Str × List Int)}
end
section
variable {w : World} {K : Fr} {α κ : Type} {Rs : List Res} {H : Hp} {Q : VK} {σ : L2.St} {p q : Addr} {od : Obj} {kvs : List (Key × V)} {ik : κ -> Key} {m : List (κ × α)} {D : Addr} {L : List Key} {acc : List Int} {β : Type} {eb : β -> PyData} {svb : β -> V} {ys : List β}
end
section
variable {K : Fr} {κ α : Type} {ik : κ -> Key} {e : α -> PyData} {Rs : List Res} {H : Hp} {p b : Addr} {m m2 : List (κ × α)} {Q : VK}
end
end RC

namespace RC
open PySem PySem.Spec PyProof.Rows L2
section
variable {K : Fr} {H : Hp} {Q : VK} {Rs : List Res} {p : Addr}
end
end RC

namespace RC
open PySem PySem.Spec PyProof.Rows L2
def ForUG (G : Hp -> Prop) (g : TG) (tb : TS) (D : Ends) : List V -> L2.St -> Hp -> Prop
 | [], σ, H => G H /\ D.nx σ H
 | v :: r, σ, H => G H /\ g v σ H λ σ2 H2 => tb { D with nx := λ σ' H' => ForUG G g tb D r σ' H', ct := λ σ' H' => ForUG G g tb D r σ' H', bk := D.nx } σ2 H2
theorem ForUG.g {G : Hp -> Prop} {g : TG} {tb : TS} {D : Ends} : ∀ {vs : List V} {σ : L2.St} {H : Hp}, ForUG G g tb D vs σ H -> G H
 | [], _, _, h => h.1
 | _ :: _, _, _, h => h.1
def LcU (G : Hp -> Prop) (g : TG) (tt : TT) (te : TE) (ws : List Nat) (σ : L2.St) (E : Addr) (Z : Hp -> Prop) : List V -> Hp -> Prop
 | [], H => G H /\ Z H
 | v :: r, H => G H /\ g v (wipe σ ws) H λ σ2 H2 => wipe σ2 ws = wipe σ ws /\ tt σ2 H2 λ b H3 => if b = true then te σ2 H3 (LcK (λ H4 => LcU G g tt te ws σ E Z r H4) E) else LcU G g tt te ws σ E Z r H3
theorem LcU.g {G : Hp -> Prop} {g : TG} {tt : TT} {te : TE} {ws : List Nat} {σ : L2.St} {E : Addr} {Z : Hp -> Prop} : ∀ {vs : List V} {H : Hp}, LcU G g tt te ws σ E Z vs H -> G H
 | [], _, h => h.1
 | _ :: _, _, h => h.1
section
variable {K : Fr} {a : Addr} {vs : List V} {g : TG} {tt : TT} {te : TE} {ws : List Nat} {σ : L2.St} {Q : VK} {H : Hp}
end
section
variable {α : Type} {A : V -> α -> Res} {p : Addr} {x y z : α} {xs : List α} {Rs : List Res} {H : Hp}
end
end RC
namespace RC
open PySem PySem.Spec PyProof.Rows L2
end RC

namespace RC
open PySem PySem.Spec PyProof.Rows L2
section
variable {X : Cx} {pins : List (Addr × Obj)} {σ : L2.St} {H : Hp} {s : Shared}
end
section
variable {α : Type} {A : V -> α -> Res} {p : Addr} {x y : α} {Rs : List Res} {H : Hp}
end
end RC

namespace RC
open PySem PySem.Spec PyProof.Rows L2
section
variable {X : Cx}
end
section
variable {α : Type} {K : Fr} {e : α -> PyData} {m : List (Int × α)} {Rs : List Res} {H : Hp} {Q : VK} {v : V}
end
end RC

namespace RC
open PySem PySem.Spec PyProof.Rows L2
section
variable {α β γ : Type} {e : α -> PyData} {sv : α -> V} {K : Fr} {σ : L2.St} {H : Hp} {Q : VK} {D : Ends} {Rs : List Res} {v w : V} {xs ys : List α} {p : Addr}
end
section
variable {K : Fr} {Rs : List Res} {H : Hp} {v : V} {vs : List V}
end
end RC

namespace RC
open PySem PySem.Spec PyProof.Rows L2
section
variable {K : Fr} {Rs : List Res} {H : Hp} {Q : VK} {p : Addr} {xs : List Str} {x : Str}
end
end RC

namespace RC
open PySem PySem.Spec PyProof.Rows L2
section
variable {Rs : List Res} {H : Hp} {K : Fr} {κ α : Type} [DecidableEq κ] [DecidableEq α] {ik : κ -> Key} {e : α -> PyData} {m : List (κ × Option α)} {Q : VK}
end
section
variable {K : Fr} {α : Type} {A : V -> α -> Res} {Rs : List Res} {H : Hp} {p : Addr}
end
section
variable {σ : L2.St} {H : Hp} {D : Ends} {ta : TA} {R : It -> Hp -> Prop}
end
end RC

namespace RC
open PySem PySem.Spec PyProof.Rows L2
section
variable {K : Fr} {Rs : List Res} {H : Hp} {v u u1 u2 : V} {vs : List V} {p q : Addr} {d d1 d2 : PyData} {l : List OD} {xs : List Int}
end
section
variable {K : Fr} {H : Hp} {Q : VK} {Rs : List Res} {p : Addr}
end
end RC

namespace RC
open PySem PySem.Spec PyProof.Rows L2
section
variable {K : Fr} {α : Type} {f : α -> V} {Rs : List Res} {H : Hp} {Q : VK} {p q : Addr} {m : List ((Int × Int) × α)} {x : Int × Int} {σ : L2.St}
end
end RC

namespace RC
open PySem PySem.Spec PyProof.Rows L2
section
variable {X : Cx}
end
end RC

namespace RC
open PySem PySem.Spec PyProof.Rows L2
@[reducible] def teKT (K : Fr) (i : Nat) (tf : TE) : TE := tOp (uAdd K) (tVar i) (tTup (tCons (tOp rIxK tf (tVar i)) tNil))
section
variable {K : Fr} {Rs : List Res} {σ : L2.St} {E a p : Addr} {m : List ((Int × Int) × Int)} {i : Nat} {tf : TE} {ws : List Nat} {Z : Hp -> Prop} {k : Addr -> Int × Int} {all : List V}
end
end RC
namespace RC
open PySem PySem.Spec PyProof.Rows L2
section
variable {K : Fr} {Rs : List Res} {H : Hp} {Q : VK} {σ : L2.St} {p : Addr} {m : List ((Int × Int) × Int)} {i : Nat} {tf : TE} {ws : List Nat}
end
end RC
namespace RC
open PySem PySem.Spec PyProof.Rows L2
section
variable {β : Type} {K : Fr} {Rs : List Res} {σ : L2.St} {H : Hp} {Q : VK} {ws : List Nat}
end
end RC
namespace RC
open PySem PySem.Spec PyProof.Rows L2
end RC
namespace RC
open PySem PySem.Spec PyProof.Rows L2
end RC

namespace RC
open PySem PySem.Spec PyProof.Rows L2
section
variable {X : Cx}
end
end RC
namespace RC
open PySem PySem.Spec PyProof.Rows L2
section
variable {K : Fr} {Rs : List Res} {H : Hp} {Q : VK} {p : Addr}
end
end RC
namespace RC
open PySem PySem.Spec PyProof.Rows L2
section
variable {α β : Type} {K : Fr} {Rs : List Res} {σ : L2.St} {H : Hp} {Q : VK} {p : Addr} {vs : List V} {xs : List α}
end
end RC

namespace RC
open PySem PySem.Spec PyProof.Rows L2
section
variable {K : Fr} {H : Hp} {Q : VK} {v : V}
end
end RC

namespace RC
open PySem PySem.Spec PyProof.Rows L2
section
variable {K : Fr} {Rs : List Res} {H : Hp} {Q : VK} {σ : L2.St}
end
end RC

namespace RC
open PySem PySem.Spec PyProof.Rows L2
end RC

namespace RC
open PySem PySem.Spec PyProof.Rows L2
section
variable {g : TG} {tt : TT} {te : TE} {ws : List Nat} {σ : L2.St} {Q : VK} {H : Hp} {n : Nat}
end
section
variable {K : Fr} {H : Hp} {Q : VK} {v : V}
end
end RC

namespace RC
open PySem PySem.Spec PyProof.Rows L2
section
variable {X : Cx}
end
section
variable {K : Fr} {H : Hp} {Q : VK} {v w : V}
end
end RC

namespace RC
open PySem PySem.Spec PyProof.Rows L2 PySem.SeqAt
section
variable {M : Model} {prog : Program} {w : World} {A : Around} {E : Value -> Shared -> Prop} {s : Shared} {K : Fr} {x C L f : Addr} {ox : Obj} {od : Option Obj} {h₀ : Heap} {m : Str -> Option Value} {b tb : Value}
theorem ifBound_objNe {args : List Value} {Q : Option Value -> Shared -> Prop} (X : K.In s.heap) (I : PySem.W.InstAt s.heap x ox C od) (hs : PySem.W.findIn K (.ref C) "__ne__" = some (some (.builtin "object.__ne__")))
   (h : wpAny M A (call (.builtin "object.__ne__") (.ref x :: args)) (λ v => Q (some v)) E s) : wpAny M A (callSpecialIfBound? (.ref x) "__ne__" args) Q E s := by
 simp only [callSpecialIfBound?, bindSpecialIfBound?]
 refine wpAny_holding (wpAny_bind (wpAny_bind (wpAny_bind (I.type.here ((PySem.W.looks_findIn X hs).here ?_)))))
 refine wpAny_bind (wpAny_askSetting (wpAny_ite ?_))
 have fin : wpAny M A (call (.builtin "object.__ne__") ([.ref x] ++ args) >>= λ v => pure (some v)) Q E s := wpAny_bind (wpAny_mono h (λ v s' h' => wpAny_pure h') λ _ _ h' => h')
 split
 · exact wpAny_bind (wpAny_of_eq (F.cmp_object.ne.bind _) (wpAny_pure (by exact fin)))
 · exact wpAny_tryCatch (wpAny_bind (wpAny_of_eq (F.cmp_object.ne.bind _) (wpAny_pure (by exact fin))))
theorem call_objNe {Q : Value -> Shared -> Prop} (hu : A.units + 1 < cLine) (X : K.In s.heap) (I : PySem.W.InstAt s.heap x ox C od) (hm : PySem.W.mroIn K C (.type "object") = some true)
   (hs : PySem.W.findIn K (.ref C) "__eq__" = some (some (.ref f))) (hf : PySem.W.isFn K (.ref f) = true)
   (h : wpAny (model prog w) A.in1 (call (.ref f) [.ref x, b]) (λ v s' => ∃ r : Bool, v = .bool r /\ Q (.bool (!r)) s') E s) :
   wpAny (model prog w) A (call (.builtin "object.__ne__") [.ref x, b]) Q E s := by
 refine wpAny_call (codeAny_call_builtin F.cmp_object.ne.plain F.cmpEntry_ne (PySem.W.check_slot F.cmpKind_ne F.cmpSplit_ne (I.type.andThen (PySem.W.looks_mroIn X hm)) (F.cmpArgs_ne _ _) ?_))
 unfold Builtin.«object.__ne__»
 have hu1 : A.in1.units < cLine := hu
 have go : wpAny (model prog w) A.in1 (callSpecialIfBound? (.ref x) "__eq__" [b]) (λ o s' => ∃ r : Bool, o = some (.bool r) /\ Q (.bool (!r)) s') E s :=
   PySem.W.ifBound_K X I hs hf (wpAny_mono h (λ v s' z => by obtain ⟨r, e, q⟩ := z; exact ⟨r, by rw [e], q⟩) λ _ _ z => z)
 have last : ∀ (r : Bool) (s' : Shared), Q (.bool (!r)) s' -> wpAny (model prog w) A.in1 (do
     let d <- truthy (.bool r)
     ret (.bool !d)) (λ fin s' => ∃ v, fin = .done (.ret v) /\ Q v s') E s' := λ r s' q => by
   repeat wp_step
   exact ⟨_, rfl, q⟩
 refine wpAny_mono (Q := λ fin s' => ∃ v, fin = .done (.ret v) /\ Q v s') (E := E) ?_ (λ fin s' z => by obtain ⟨v, rfl, q⟩ := z; exact q) (λ _ _ z => z)
 repeat (first | with_reducible refine wpAny_cRoomFor hu1 ?_ | with_reducible refine wpAny_mono go ?_ (λ _ _ z => z) | wp_step)
 rintro o s' ⟨r, rfl, q⟩
 exact last r s' q
theorem cmpNe_K {Q : Value -> Shared -> Prop} (hu : A.units + 1 < cLine) (F : PyProof.Rows.Fr h₀ L s.heap m) (X₀ : K.In h₀) (I : PySem.W.InstAt s.heap x ox C od) (hb : PySem.W.Looks (model prog w) s.heap (typeOf b) tb) (hn : PySem.W.notFirst K C tb = true)
   (hm : PySem.W.mroIn K C (.type "object") = some true) (hne : PySem.W.findIn K (.ref C) "__ne__" = some (some (.builtin "object.__ne__"))) (hs : PySem.W.findIn K (.ref C) "__eq__" = some (some (.ref f))) (hf : PySem.W.isFn K (.ref f) = true)
   (h : wpAny (model prog w) A.in1 (call (.ref f) [.ref x, b]) (λ v s' => ∃ r : Bool, v = .bool r /\ Q (.bool (!r)) s') E s) : wpAny (model prog w) A (richCompare .NotEq (.ref x) b) Q E s := by
 have X := X₀.keeps F.keep
 have one : wpAny (model prog w) A (tryCompare (.ref x) (cmpInfo .NotEq).2.1 b) (λ r s' => ∃ v, r = some v /\ Q v s') E s := by
   unfold tryCompare
   refine wpAny_bind (ifBound_objNe X I hne ?_)
   have c1 : wpAny (model prog w) A (call (.builtin "object.__ne__") [.ref x, b]) (λ v s' => ∃ r : Bool, v = .bool r /\ Q v s') E s :=
     call_objNe (Q := λ v s' => ∃ r : Bool, v = .bool r /\ Q v s') hu X I hm hs hf (wpAny_mono h (λ v s' z => by obtain ⟨r, e, q⟩ := z; exact ⟨r, e, !r, rfl, q⟩) λ _ _ e => e)
   refine wpAny_mono c1 (λ v s' z => ?_) λ _ _ e => e
   obtain ⟨r, e, q⟩ := z
   subst e
   exact wpAny_pure ⟨_, rfl, q⟩
 unfold richCompare
 simp only [oneThing_ref]
 refine wpAny_holding (wpAny_bind (wpAny_cRoomFor (Nat.lt_of_succ_lt hu) ?_))
 refine wpAny_bind (I.type.here (wpAny_bind (hb.here ?_)))
 split
 · rename_i q
   have e : PySem.W.subIn K tb (.ref C) = some false := by
     rcases Bool.or_eq_true_iff.mp hn with e | e
     · rw [beq_iff_eq.mp e] at q; simp at q
     · exact beq_iff_eq.mp e
   refine wpAny_bind ((PySem.W.looks_subIn X e).here ?_)
   simp only [Bool.false_eq_true, if_false]
   refine wpAny_bind (wpAny_mono one (λ r s' z => ?_) λ _ _ e => e)
   obtain ⟨v, rfl, hq⟩ := z
   exact wpAny_pure hq
 · refine wpAny_bind (wpAny_pure ?_)
   simp only [Bool.false_eq_true, if_false]
   refine wpAny_bind (wpAny_mono one (λ r s' z => ?_) λ _ _ e => e)
   obtain ⟨v, rfl, hq⟩ := z
   exact wpAny_pure hq
end
theorem sub_bt {K : Fr} {C : Addr} : ∀ n ∈ ["NoneType", "bool", "int", "str", "list", "tuple", "dict"], PySem.W.subIn K (.type n) (.ref C) = some false := by
 have go : ∀ (n : String) (ts : List String), fastBuiltinMro n = some (ts.map Value.type) -> PySem.W.subIn K (.type n) (.ref C) = some false := λ n ts e => by
   show (fastBuiltinMro n).map (·.contains (.ref C)) = some false
   rw [e]
   show some ((ts.map Value.type).contains (.ref C)) = some false
   congr 1
   induction ts with
   | nil => rfl
   | cons t ts ih => simp
 intro n hn
 simp only [List.mem_cons, List.not_mem_nil, or_false] at hn
 rcases hn with rfl | rfl | rfl | rfl | rfl | rfl | rfl
 · exact go _ ["NoneType", "object"] (by decide +kernel)
 · exact go _ ["bool", "int", "object"] (by decide +kernel)
 · exact go _ ["int", "object"] (by decide +kernel)
 · exact go _ ["str", "object"] (by decide +kernel)
 · exact go _ ["list", "object"] (by decide +kernel)
 · exact go _ ["tuple", "object"] (by decide +kernel)
 · exact go _ ["dict", "object"] (by decide +kernel)
theorem looks_dn {X : Cx} {pins : List (Addr × Obj)} {σ : L2.St} {H : Hp} {s : Shared} {y : V} {u : Value} {d : PyData} (I : Inv X pins σ H s) (r : RelV y u) (h : Dn X.K H y d) :
   ∃ n ∈ ["NoneType", "bool", "int", "str", "list", "tuple", "dict"], ∀ M, PySem.W.Looks M s.heap (typeOf u) (.type n) := by
 refine ⟨tyN d, by cases d <;> simp [tyN], λ M => ?_⟩
 rcases h.ty with z | ⟨a, kvs, rfl, hr, e⟩
 · obtain ⟨P, Z, p, _⟩ := kit_of I r z
   exact Z.ty M _ I.kIn p
 · cases (show u = Value.ref a from r)
   obtain ⟨_, _, vs, _, o, es, ep, h1, h2, _⟩ := dk_rd I.hok hr
   rw [e]
   exact PySem.W.kitx_dict.ty M _ I.kIn ⟨o, h1, h2.1⟩
def rCmD (K : Fr) (neg : Bool) (C : Addr) (sp : Sp) : R2 := λ x y H Q => ∃ a d dx fs, x = .ref a /\ H a = some (.ins C dx fs) /\ Dn K H y d /\ sp [.ref a, y] H (λ v H' => ∃ r : Bool, v = .bl r /\ Q (.bl (if neg then !r else r)) H') (λ _ _ _ => False)
theorem op_eqD {X : Cx} {g : Bool} {k : Nat} {C f : Addr} {fd : FuncData} {ps : List Str} {sp : Sp} (hm : Meth X.K C "__eq__" f) (F : FnX g X.prog X.w X.K X.mg X.base CX0 k f fd ps sp) (hgu : g = true -> X.A.guards = some []) (hr : Room k X.A) (hb : Binds X.K fd ps []) : OpR X (compareOp .Eq) (rCmD X.K false C sp) := by
 intro pins s σ H x y v u Q I rx ry hq
 obtain ⟨a, d, dx, fs, rfl, ha, hd, hq⟩ := hq
 cases rx
 obtain ⟨mA, J, _⟩ := ins_get I.hok ha
 obtain ⟨od, J, _⟩ := J.look
 obtain ⟨m, hF⟩ := I.fr
 obtain ⟨n, hn, hl⟩ := looks_dn I ry hd
 show wpAny (model X.prog X.w) X.A (richCompare .Eq (.ref a) u) (EP X pins σ Q) X.xe s
 refine PySem.W.cmp_K (op := .Eq) (tb := .type n) hr.units0 hF I.ok.mod.kin J (hl _) (by unfold PySem.W.notFirst; rw [sub_bt n hn]; simp) hm.at_ hm.fn ?_
 refine wpAny_mono (runW (us := [.ref a, u]) (vs := [.ref a, y]) F hgu hr hb .nil pas0 I (.cons rfl (.cons ry .nil)) hq) (λ w s' z => ?_) λ _ _ x => x
 obtain ⟨y, H', I', ry, r, rfl, q⟩ := z
 cases ry
 exact ⟨.bl r, H', I', rfl, q⟩
theorem op_neD {X : Cx} {g : Bool} {k : Nat} {C f : Addr} {fd : FuncData} {ps : List Str} {sp : Sp} (hm : Meth X.K C "__eq__" f) (hmr : PySem.W.mroIn X.K C (.type "object") = some true)
   (hne : PySem.W.findIn X.K (.ref C) "__ne__" = some (some (.builtin "object.__ne__"))) (F : FnX g X.prog X.w X.K X.mg X.base CX0 k f fd ps sp) (hgu : g = true -> X.A.guards = some []) (hr : Room (k + 1) X.A) (hb : Binds X.K fd ps []) : OpR X (compareOp .NotEq) (rCmD X.K true C sp) := by
 intro pins s σ H x y v u Q I rx ry hq
 obtain ⟨a, d, dx, fs, rfl, ha, hd, hq⟩ := hq
 cases rx
 obtain ⟨mA, J, _⟩ := ins_get I.hok ha
 obtain ⟨od, J, _⟩ := J.look
 obtain ⟨m, hF⟩ := I.fr
 obtain ⟨n, hn, hl⟩ := looks_dn I ry hd
 show wpAny (model X.prog X.w) X.A (richCompare .NotEq (.ref a) u) (EP X pins σ Q) X.xe s
 refine cmpNe_K (tb := .type n) (by have := hr.units; omega) hF I.ok.mod.kin J (hl _) (by unfold PySem.W.notFirst; rw [sub_bt n hn]; simp) hmr hne hm.at_ hm.fn ?_
 have e0 : Env0 X.prog X.w X.K X.mg X.base X.A.in1 X.stack s H := by
   have e := I.env0
   exact ⟨e.frames, e.mod, e.bs, e.bsz, e.funs, e.frf, e.hok, e.bare⟩
 have hl := F.lenG _ _ _ _ hq
 have go := F.runG X.A.in1 X.stack s _ ⟨[.ref a, u], []⟩ _ [.ref a, u] [.ref a, y] _ _ hgu hr.in1 e0 (by simpa using hb s [.ref a, u] I.kIn (by simpa using hl)) (.refl _) (.cons rfl (.cons ry .nil)) hq
 refine wpAny_call (codeAny_mono go λ res s' z => ?_)
 match res, z with
 | .error e, z => exact z.elim
 | .ok (.ret u), z =>
   obtain ⟨y, H', I', ry, r, rfl, q⟩ := I.after z
   cases ry
   exact ⟨r, rfl, .bl (!r), H', I', rfl, q⟩
 | .ok .next, z => cases z
 | .ok .brk, z => cases z
 | .ok .cont, z => cases z
end RC

namespace RC
open PySem PySem.Spec PyProof.Rows L2
section
variable {σ : L2.St} {H : Hp} {Q : VK} {R : Str -> Hp -> Prop} {t : TE} {ts : List TE} {acc y : Str} {i : Int}
end
end RC

namespace RC
open PySem PySem.Spec PyProof.Rows L2
end RC

namespace RC
open PySem PySem.Spec PyProof.Rows L2 HT
section
variable {prog : Program} {w : World} {A : Around} {E : Value -> Shared -> Prop} {s : Shared}
end
section
variable {α : Type} {K : Fr} {Rs : List Res} {H : Hp} {σ : L2.St} {Q : VK} {v : V} {e : α -> PyData} {xs : List α} {te : TE}
end
end RC

namespace RC
open PySem PySem.Spec PyProof.Rows L2
open PyProof.Rows.KTD (TabOf Rows datumAt tabLook tab_of_look kt_dictFind_strs)
section
variable {X : Cx}
end
section
variable {δ : Type} {K : Fr} {R : δ -> V -> Prop} {x : Str} {D : List (Str × δ)}
end
section
variable {prog : Program} {w : World} {A : Around} {E : Value -> Shared -> Prop} {s : Shared} {a : Addr} {δ : Type} {R : δ -> Value -> Prop} {D : List (Str × δ)} {k : Str} {tk : Tok}
end
section
variable {X : Cx} {δ : Type} {R : δ -> V -> Prop} {a : Addr} {D : List (Str × δ)} {x : Str} {p apos cpos : Pos} {e : Expr} {ty : TE}
end
structure CallF (X : Cx) (E : XK) (f : Addr) (sp : Sp) : Prop where
 keep : PySem.W.keepIn X.K (.ref f) = true
 run : ∀ (pins : List (Addr × Obj)) (σ : L2.St) (H : Hp) (s : Shared) (Q : VK) (us : List Value) (vs : List V), Inv X pins σ H s -> Vals vs us -> sp vs H Q E -> wpAny (model X.prog X.w) X.A (call (.ref f) us) (EP X pins σ Q) X.xe s
section
variable {X : Cx}
end
section
variable {K : Fr} {Rs : List Res} {H : Hp} {Q : VK} {a : Addr}
end
end RC

namespace RC
open PySem PySem.Spec PyProof.Rows L2
section
variable {K : Fr} {Rs : List Res} {H : Hp} {Q : VK} {v : V}
end
section
variable {X : Cx} {o e : Expr} {to te : TE}
end
section
variable {K : Fr} {Rs : List Res} {H : Hp} {Q : VK} {v w : V}
end
end RC

namespace RC
open PySem PySem.Spec PyProof.Rows L2
open Sem (wp) in
section
variable {α β : Type} {e : α -> PyData} {K : Fr} {σ : L2.St} {H : Hp} {D : Ends} {v : V} {xs : List α}
end
end RC

namespace RC
open PySem PySem.Spec PyProof.Rows L2
section
variable {K : Fr} {Rs Rs2 : List Res} {R : Res} {H : Hp} {Q : VK} {v w : V}
mutual
theorem od_dq {F F' : Hp} (e : Ext F F') : ∀ {x : OD} {v : V} {c : List Cell}, (odR K v x).on F c -> (∀ q ∈ c, F' q.1 = some q.2) -> Dq K F' v x.fgt
 | .fz d, v, c, h, _ => Dq_ext e h.2
 | .ol l, v, c, h, g => by
   obtain ⟨p, rfl, vs, c1, c2, rfl, rfl, h2⟩ := h
   exact .lst (.inl (.inl (g (p, .lst vs) (List.mem_append_left _ (List.mem_singleton.mpr rfl))))) (ods_dq e h2 λ q hq => g q (List.mem_append_right _ hq))
 | .ot l, v, c, h, g => by
   obtain ⟨p, rfl, vs, c1, c2, rfl, rfl, h2⟩ := h
   exact .tup (.inl (.inl (g (p, .tup vs) (List.mem_append_left _ (List.mem_singleton.mpr rfl))))) (ods_dq e h2 λ q hq => g q (List.mem_append_right _ hq))
theorem ods_dq {F F' : Hp} (e : Ext F F') : ∀ {l : List OD} {vs : List V} {c : List Cell}, (odRs K vs l).on F c -> (∀ q ∈ c, F' q.1 = some q.2) -> DqAll K F' vs (OD.fgtAll l)
 | [], [], _, _, _ => .nil
 | x :: xs, v :: vs, c, h, g => by
   obtain ⟨c1, c2, rfl, h1, h2⟩ := h
   exact .cons (od_dq e h1 λ q hq => g q (List.mem_append_left _ hq)) (ods_dq e h2 λ q hq => g q (List.mem_append_right _ hq))
 | _ :: _, [], _, h, _ => h.1.elim
 | [], _ :: _, _, h, _ => h.1.elim
end
end
section
variable {α β γ : Type} {K : Fr} {B : V -> β -> Res} {Rs : List Res} {H : Hp} {Q : VK} {σ : L2.St} {a b : Addr} {f1 f2 : Bool} {vs us : List V} {xs : List α} {ys : List γ}
end
end RC

namespace RC
open PySem PySem.Spec PyProof.Rows L2
section
variable {K : Fr} {Rs : List Res} {H : Hp} {κ α : Type} {A : V -> α -> Res} {e : α -> PyData} {ik : κ -> Key} {p : Addr} {m : List (κ × α)} {od : Obj} {kvs : List (Key × V)}
def Free (R : Res) : Prop := ∀ F F' l, R.on F l -> R.on F' l
theorem Free.pt {a : Addr} {o : HO} : Free (pt a o) := λ _ _ _ h => h
def FreeA (Rs : List Res) : Prop := ∀ R ∈ Rs, Free R
theorem Sat.free {F F' : Hp} : ∀ {Rs : List Res} {l : List Cell}, FreeA Rs -> Sat F Rs l -> Sat F' Rs l
 | [], _, _, h => h
 | R :: Rs, _, g, ⟨l1, l2, e, a, b⟩ => ⟨l1, l2, e, g R List.mem_cons_self _ _ _ a, Sat.free (λ S hS => g S (List.mem_cons_of_mem _ hS)) b⟩
theorem Sat.app {F : Hp} {Rs2 : List Res} : ∀ {Rs1 : List Res} {l1 l2 : List Cell}, Sat F Rs1 l1 -> Sat F Rs2 l2 -> Sat F (Rs1 ++ Rs2) (l1 ++ l2)
 | [], l1, l2, h1, h2 => by
   have : l1 = [] := h1
   subst this
   exact h2
 | R :: Rs1, l1, l2, ⟨a, b, e, x, y⟩, h2 => by
   subst e
   exact ⟨a, b ++ l2, by rw [List.append_assoc], x, Sat.app y h2⟩
end
end RC

namespace RC
open PySem PySem.Spec PyProof.Rows L2
section
variable {K : Fr} {κ κ2 α γ : Type} [DecidableEq κ] [DecidableEq κ2] {ik : κ -> Key} {A : V -> α -> Res} {Rs : List Res} {H : Hp} {Q : VK} {σ : L2.St} {p : Addr} {m : List (κ × α)}
end
section
variable {K : Fr} {α : Type} {B : V -> α -> Res} {H : Hp} {Q : VK}
end
section
variable {α β : Type} {e : α -> PyData} {sv : α -> V} {K : Fr} {B : V -> β -> Res} {σ : L2.St} {H : Hp} {Q : VK} {Rs : List Res} {v : V} {xs : List α}
end
section
variable {K : Fr} {α κ : Type} {ik ik' : κ -> Key} {e e' : α -> PyData} {Rs : List Res} {H : Hp} {Q : VK} {v : V} {p : Addr} {m : List (κ × α)}
end
end RC

namespace RC
open PySem PySem.Spec PyProof.Rows L2
section
variable {K : Fr} {κ α β : Type} [DecidableEq κ] {ik : κ -> Key} {A : V -> α -> Res} {Rs : List Res} {H : Hp} {p : Addr} {m : List (κ × α)} {σ : L2.St} {od : Obj} {kvs : List (Key × V)} {Q : VK} {e : α -> PyData}
end
end RC

namespace RC
open PySem PySem.Spec PyProof.Rows L2
section
variable {K : Fr} {α : Type} {A : V -> α -> Res} {H : Hp}
end
section
variable {K : Fr} {κ α β : Type} [DecidableEq κ] {ik : κ -> Key} {A : V -> α -> Res} {B : V -> β -> Res} {Rs : List Res} {H : Hp} {Q : VK} {σ : L2.St} {p : Addr} {m : List (κ × α)} {od : Obj} {kvs : List (Key × V)}
end
section
variable {K : Fr} {α : Type} {B : V -> α -> Res} {H : Hp} {Q : VK}
end
section
variable {K : Fr} {H : Hp} {Q : VK} {Rs : List Res} {p : Addr}
end
section
variable {K : Fr} {H : Hp} {Q : VK} {Rs : List Res} {l : Addr}
end
section
variable {σ : L2.St} {H : Hp} {D : Ends} {ta : TA} {R : It -> Hp -> Prop}
end
end RC

namespace RC
open PySem PySem.Spec PyProof.Rows L2
abbrev KT := List Key
abbrev TuM (P : Program) (w : World) (h : Heap) (k : KT) (b : Addr) : Prop := IsTupleKey (mixKind P w) h k b
abbrev tuH (P : Program) (w : World) (k : KT) : Int := tupleKeyHash (mixKind P w) k
section
variable {P : Program} {w : World} {A : Around} {E : Value -> Shared -> Prop} {s : Shared} {h h' : Heap} {a b : Addr} {k : KT}
end
end RC

namespace RC
open PySem PySem.Spec PyProof.Rows L2
abbrev rwT (P : Program) (w : World) (L : List (Addr × KT)) : List (Int × Value) := L.map λ p => (tuH P w p.2, Value.ref p.1)
abbrev hsT (P : Program) (w : World) (L : List (Addr × KT)) : List Int := L.map λ p => tuH P w p.2
structure TX (P : Program) (w : World) (h : Heap) (a : Addr) (L : List (Addr × KT)) (es : Array (Int × Value)) (ep : Nat) (t : SetTable) : Prop where
 ob : ∃ o, h.get? a = some o /\ o.ExactSet /\ o.data = .set es ep t
 rw_ : es.toList = rwT P w L
 tb : TabOk t (hsT P w L)
 nd : (L.map (·.2)).Nodup
 tu : ∀ p ∈ L, TuM P w h p.2 p.1
 ld : w.params.followText "set-order" = true \/ t.led = true
 rm : L.length * 5 < t.mask * 3
 fw : L.length < 64
section
variable {P : Program} {w : World} {A : Around} {E : Value -> Shared -> Prop} {s : Shared} {a : Addr} {L : List (Addr × KT)} {es : Array (Int × Value)} {ep : Nat} {t : SetTable}
theorem rwT_len (h : es.toList = rwT P w L) : es.size = L.length := by
 rw [<- Array.length_toList, h, List.length_map]
theorem TX.ft {h : Heap} (R : TX P w h a L es ep t) : t.fits es.size = true := by
 refine fit_of ?_ R.tb.dm ?_
 · rw [R.tb.sz, List.length_map, rwT_len R.rw_]
 · have := R.rm
   rw [rwT_len R.rw_]
   omega
end
end RC

namespace RC
open PySem PySem.Spec PyProof.Rows L2
section
variable {P : Program} {w : World} {A : Around} {E : Value -> Shared -> Prop} {s : Shared} {a : Addr} {L : List (Addr × KT)} {es : Array (Int × Value)} {ep : Nat} {t : SetTable}
end
end RC

namespace RC
open PySem PySem.Spec PyProof.Rows L2
structure GotT (ks L : List (Addr × KT)) : Prop where
 sub : ∀ p ∈ L, p ∈ ks
 all : ∀ p ∈ ks, p.2 ∈ L.map (·.2)
section
variable {P : Program} {w : World} {A : Around} {E : Value -> Shared -> Prop} {s : Shared}
theorem TX.keep {h h' : Heap} {a : Addr} {L : List (Addr × KT)} {es : Array (Int × Value)} {ep : Nat} {t : SetTable} (R : TX P w h a L es ep t) (q : ∀ o, h.get? a = some o -> h'.get? a = some o) (tu : ∀ p ∈ L, TuM P w h' p.2 p.1) : TX P w h' a L es ep t := by
 obtain ⟨o, ho, r⟩ := R.ob
 exact ⟨⟨o, q o ho, r⟩, R.rw_, R.tb, R.nd, tu, R.ld, R.rm, R.fw⟩
end
end RC

namespace RC
open PySem PySem.Spec PyProof.Rows L2
def ltIS (p q : Int × Str) : Prop := p.1 < q.1 \/ p.1 = q.1 /\ p.2.cps.toList < q.2.cps.toList
def kyP (p : Int × Str) : KT := [.inl p.1, .inr p.2]
section
variable {P : Program} {w : World} {A : Around} {E : Value -> Shared -> Prop} {s : Shared}
end
end RC

namespace RC
open PySem PySem.Spec PyProof.Rows L2
def TX0 (P : Program) (w : World) (h : Heap) (a : Addr) (L : List (Addr × (Int × Str))) : Prop :=
 ∃ o es ep t, h.get? a = some o /\ o.ExactSet /\ o.data = .set es ep t /\ es.toList = rwT P w (L.map λ p => (p.1, kyP p.2)) /\ TabOk t (hsT P w (L.map λ p => (p.1, kyP p.2))) /\ ((L.map λ p => (p.1, kyP p.2)).map (·.2)).Nodup /\
   (w.params.followText "set-order" = true \/ t.led = true) /\ (L.map λ p => (p.1, kyP p.2)).length * 5 < t.mask * 3 /\ (L.map λ p => (p.1, kyP p.2)).length < 64
section
variable {P : Program} {w : World}
theorem TX0.keep {h h' : Heap} {a : Addr} {L : List (Addr × (Int × Str))} (R : TX0 P w h a L) (k : ∀ o, h.get? a = some o -> h'.get? a = some o) : TX0 P w h' a L := by
 obtain ⟨o, es, ep, t, ho, r⟩ := R
 exact ⟨o, es, ep, t, k o ho, r⟩
end
section
variable {X : Cx}
end
structure SdIS (xs zs : List (Int × Str)) : Prop where
 pw : zs.Pairwise ltIS
 mem : ∀ z, z ∈ zs ↔ z ∈ xs
section
variable {K : Fr} {Rs : List Res} {H F : Hp} {Q : VK} {v : V}
end
end RC

namespace RC
open PySem PySem.Spec PyProof.Rows L2
class PW where
 P : Program
 w : World
abbrev PK := Int × Str
abbrev DL := List (List Key × Addr × V)
def RelX (p : List Key × Addr × V) (q : List Key × Addr × Value) : Prop := p.1 = q.1 /\ p.2.1 = q.2.1 /\ RelV p.2.2 q.2.2
abbrev RX : DL -> List (List Key × Addr × Value) -> Prop := Paired RelX
def lkX (L : DL) (k : List Key) : Option (Addr × V) := (L.find? λ x => decide (x.1 = k)).map (·.2)
def ptX (k : List Key) (v : V) (x : List Key × Addr × V) : List Key × Addr × V := if x.1 = k then (x.1, x.2.1, v) else x
def putX (L : DL) (k : List Key) (b : Addr) (v : V) : DL := if (lkX L k).isSome then L.map (ptX k v) else L ++ [(k, b, v)]
theorem RX.val {L : DL} {xs : List (List Key × Addr × Value)} (r : RX L xs) (k : List Key) : (lkX L k = none /\ PySem.atKey xs k = none) \/ ∃ b v u, lkX L k = some (b, v) /\ PySem.atKey xs k = some (b, u) /\ RelV v u := by
 induction r with
 | nil => exact .inl ⟨rfl, rfl⟩
 | @cons p q ps qs h t ih =>
   obtain ⟨h1, h2, h3⟩ := h
   by_cases e : p.1 = k
   · refine .inr ⟨p.2.1, p.2.2, q.2.2, ?_, ?_, h3⟩
     · simp [lkX, List.find?_cons, e]
     · simp [PySem.atKey, List.find?_cons, h1.symm.trans e, h2]
   · have e' : ¬ q.1 = k := λ z => e (h1.trans z)
     have a : lkX (p :: ps) k = lkX ps k := by simp [lkX, List.find?_cons, e]
     have b : PySem.atKey (q :: qs) k = PySem.atKey qs k := by simp [PySem.atKey, List.find?_cons, e']
     rw [a, b]
     exact ih
theorem RX.put {L : DL} {xs : List (List Key × Addr × Value)} (r : RX L xs) (k : List Key) (b : Addr) {v : V} {u : Value} (rv : RelV v u) : RX (putX L k b v) (storedH xs k b u) := by
 have e : (lkX L k).isSome = (PySem.atKey xs k).isSome := by
   rcases r.val k with ⟨h1, h2⟩ | ⟨_, _, _, h1, h2, _⟩ <;> rw [h1, h2] <;> rfl
 unfold putX storedH
 rw [e]
 by_cases q : (PySem.atKey xs k).isSome = true
 · rw [if_pos q, if_pos q]
   clear e q
   induction r with
   | nil => exact .nil
   | @cons p q ps qs h t ih =>
     rw [List.map_cons, List.map_cons]
     refine .cons ?_ ih
     obtain ⟨h1, h2, h3⟩ := h
     unfold putAt ptX
     by_cases e : p.1 = k
     · rw [if_pos e, if_pos (h1.symm.trans e)]; exact ⟨h1, h2, rv⟩
     · rw [if_neg e, if_neg (λ z => e (h1.trans z))]; exact ⟨h1, h2, h3⟩
 · rw [if_neg q, if_neg q]; exact Paired.snoc r ⟨rfl, rfl, rv⟩
def DX0 (P : Program) (w : World) (h : Heap) (a : Addr) (L : DL) : Prop :=
 L.length <= sizeLine /\ (a == sysModules) = false /\ ∃ xs : List (List Key × Addr × Value), RX L xs /\
   ∃ o es ep, h.get? a = some o /\ o.ExactDict /\ o.data = .dict es ep /\ es.toList = xs.map (entryOfKey (tupleKind (mixKind P w))) /\ (xs.map (·.1)).Nodup
section
variable {P : Program} {w : World}
theorem DX0.keep {h h' : Heap} {a : Addr} {L : DL} (R : DX0 P w h a L) (k : ∀ o, h.get? a = some o -> h'.get? a = some o) : DX0 P w h' a L := by
 obtain ⟨z, s, xs, r, o, es, ep, ho, q⟩ := R
 exact ⟨z, s, xs, r, o, es, ep, k o ho, q⟩
end
section
variable {X : Cx}
end
end RC

namespace RC
open PySem PySem.Spec PyProof.Rows L2
end RC
namespace RC
open PySem PySem.Spec PyProof.Rows L2
section
variable [PW] {α : Type} {K : Fr} {e : α -> PyData} {Rs : List Res} {H F : Hp} {Q : VK} {p q : Addr} {m : List (PK × α)} {x : PK} {σ : L2.St} {L : DL}
end
end RC

namespace RC
open PySem PySem.Spec PyProof.Rows L2
def tMkX (C : Addr) (f : Str) (te : TE) : TE := λ σ H Q => te σ H λ v H1 => ∀ a dx, H1 a = none -> upd H1 a (exo a C none) dx = none -> dx ≠ a -> Q (.ref a) (upd (upd (upd H1 a (exo a C none)) dx (exd dx [(f, v)])) a (exo a C (some dx)))
def tMkX0 (C : Addr) : TE := λ _ H Q => ∀ a, H a = none -> Q (.ref a) (upd H a (exo a C none))
section
variable {X : Cx} {CX : CXT} {x f : Str} {C fI : Addr} {k : Nat} {fd : FuncData} {ps : List Str} {B newId initId : String} {bmB : List Value} {e : Expr} {te : TE} {p pos : Pos}
theorem pe_mkX (T : XcB X.K C B newId initId bmB) (iC : PySem.W.findIn X.K (.ref C) "__init__" = some (some (.ref fI))) (tI : PySem.W.typeIn X.K (.ref fI) = some (.type "function")) (F : FnX false X.prog X.w X.K X.mg X.base CX k fI fd ps (spX C f)) (hr : Room (k + 1) X.A) (hb : Binds X.K fd ps [])
   (hx : Passes CX X (λ _ _ _ => False)) (hg : Gl X x) (hm : X.mg x = some (.ref C)) (ha : PE X e te) (hdb : (x == ("__debug__" : Str)) = false := by decide) (he : starEach [e] X.env = (false, eval e X.env) :: starEach [] X.env := by rfl) :
   PE X (.Call (.Name x p) [e] [] pos) (tMkX C f te) := by
 constructor
 intro pins s σ H Q I h
 refine wpAny_Call_Name_kw (ld_glob I hg hm ?_ hdb)
 have pa := pa_cons (PE.wk ha) (pa_nil (X := X)) he
 refine PySem.W.callWith_K (h₀ := X.base) I.ok.mod.kin T.kC (thn (pa.run pos pins s σ H (λ vs H1 => ∃ v, vs = [v] /\ ∀ a dx, H1 a = none -> upd H1 a (exo a C none) dx = none -> dx ≠ a -> Q (.ref a) (upd (upd (upd H1 a (exo a C none)) dx (exd dx [(f, v)])) a (exo a C (some dx)))) I ⟨_, h, λ v H1 z => ⟨v, rfl, z⟩⟩) ?_) he rfl
 rintro us s1 ⟨vs, H1, I1, r1, v, rfl, q1⟩
 refine ⟨I1.kIn, ?_⟩
 show wpAny _ _ (call (.ref C) us) _ _ _
 obtain ⟨nm, N, qn, bs, bm, hdct, sn, sub, ab, col, dd, k0, k1, k2, k3, k5, hC, hT⟩ := PySem.W.excInit_of I1.kIn T.ini
 obtain ⟨hp, g, dr, tk, os⟩ := s1
 have hsz : hp.objs.size <= hp.objs.size + 1 := Nat.le_succ _
 have na : H1 (hp.objs.size + 1) = none := I1.hok.fresh hsz
 have hq : spX C f (.ref (hp.objs.size + 1) :: [v]) (upd H1 (hp.objs.size + 1) (exo (hp.objs.size + 1) C none)) (λ u H2 => u = .non /\ ∃ dx, upd H1 (hp.objs.size + 1) (exo (hp.objs.size + 1) C none) dx = none /\ dx ≠ hp.objs.size + 1 /\ H2 = upd (upd (upd H1 (hp.objs.size + 1) (exo (hp.objs.size + 1) C none)) dx (exd dx [(f, v)])) (hp.objs.size + 1) (exo (hp.objs.size + 1) C (some dx))) (λ _ _ _ => False) :=
   ⟨_, v, rfl, upd_same, λ dx hdx hne => ⟨rfl, dx, hdx, hne, rfl⟩⟩
 have kk : ∀ b o, hp.get? b = some o -> ((hp.push (PySem.W.kdv_tup us)).push (HandSPX.excO C hp.objs.size)).get? b = some o := λ b o z => Heap.get?_push_of_some _ (Heap.get?_push_of_some _ z)
 have hget : ((hp.push (PySem.W.kdv_tup us)).push (HandSPX.excO C hp.objs.size)).get? (hp.objs.size + 1) = some (HandSPX.excO C hp.objs.size) := by heap_get
 have I2 := I1.laid (t' := tk) (a := hp.objs.size + 1) (o := exo (hp.objs.size + 1) C none) (h' := (hp.push (PySem.W.kdv_tup us)).push (HandSPX.excO C hp.objs.size)) kk hsz (exo_ok hget)
 have r2 : Vals (V.ref (hp.objs.size + 1) :: [v]) (Value.ref (hp.objs.size + 1) :: us) := .cons rfl r1
 have hl : (Value.ref (hp.objs.size + 1) :: us ++ []).length = ps.length := by
   rw [List.append_nil]
   exact r2.length.symm.trans (F.lenG _ _ _ _ hq)
 have hus : us.length <= sizeLine := by
   rw [<- Paired.length r1, sizeLine_eq]
   show 1 <= 16777216
   decide
 have hb2 := hb ⟨(hp.push (PySem.W.kdv_tup us)).push (HandSPX.excO C hp.objs.size), g, dr, tk, os⟩ (Value.ref (hp.objs.size + 1) :: us) I2.kIn hl
 rw [List.append_nil] at hb2
 have go := F.runG (X.A.under (.builtin "type.__call__" ⟨.ref C :: us, []⟩)) X.stack _ _ ⟨Value.ref (hp.objs.size + 1) :: us, []⟩ _ (Value.ref (hp.objs.size + 1) :: us) _ _ (λ _ _ _ => False) (λ z => nomatch z) (hr.make C us []) (I2.env0.make C us []) hb2 (.refl _) r2 hq
 refine wpAny_call (HandSPX.call_own T.fb hT hC (PySem.W.looks_findIn I1.kIn iC) (λ self => PySem.W.bind_fn I1.kIn self tI) hus (codeAny_mono go λ r s' hq' => ?_))
 match r, hq' with
 | .error er, hq' => exact hx pins σ _ _ er s' I2 hq'
 | .ok (.ret u), hq' =>
   obtain ⟨u2, H2, J, rv, rfl, dx, hdx, hne, rfl⟩ := I2.after hq'
   exact ⟨rv, .ref (hp.objs.size + 1), _, J, rfl, q1 _ dx na hdx hne⟩
 | .ok .next, hq' => cases hq'
 | .ok .brk, hq' => cases hq'
 | .ok .cont, hq' => cases hq'
theorem pe_mkX0 (T : XcB X.K C B newId initId bmB) (iC : PySem.W.findIn X.K (.ref C) "__init__" = some (some (.ref fI))) (tI : PySem.W.typeIn X.K (.ref fI) = some (.type "function")) (F : FnX false X.prog X.w X.K X.mg X.base CX k fI fd ps (spX0 C)) (hr : Room (k + 1) X.A)
   (hb : Binds X.K fd ps []) (hx : Passes CX X (λ _ _ _ => False)) (hg : Gl X x) (hm : X.mg x = some (.ref C)) (hdb : (x == ("__debug__" : Str)) = false := by decide) : PE X (.Call (.Name x p) [] [] pos) (tMkX0 C) := by
 constructor
 intro pins s σ H Q I h
 refine wpAny_Call_Name_kw (ld_glob I hg hm ?_ hdb)
 refine PySem.W.callWith_K0 I.kIn T.kC ?_
 show wpAny _ _ (call (.ref C) []) _ _ _
 obtain ⟨nm, N, qn, bs, bm, hdct, sn, sub, ab, col, dd, k0, k1, k2, k3, k5, hC, hT⟩ := PySem.W.excInit_of I.kIn T.ini
 obtain ⟨hp, g, dr, tk, os⟩ := s
 have hsz : hp.objs.size <= hp.objs.size + 1 := Nat.le_succ _
 have na : H (hp.objs.size + 1) = none := I.hok.fresh hsz
 have kk : ∀ b o, hp.get? b = some o -> ((hp.push (PySem.W.kdv_tup [])).push (HandSPX.excO C hp.objs.size)).get? b = some o := λ b o z => Heap.get?_push_of_some _ (Heap.get?_push_of_some _ z)
 have hget : ((hp.push (PySem.W.kdv_tup [])).push (HandSPX.excO C hp.objs.size)).get? (hp.objs.size + 1) = some (HandSPX.excO C hp.objs.size) := by heap_get
 have I2 := I.laid (t' := tk) (a := hp.objs.size + 1) (o := exo (hp.objs.size + 1) C none) (h' := (hp.push (PySem.W.kdv_tup [])).push (HandSPX.excO C hp.objs.size)) kk hsz (exo_ok hget)
 have hq : spX0 C [V.ref (hp.objs.size + 1)] (upd H (hp.objs.size + 1) (exo (hp.objs.size + 1) C none)) (λ v H2 => v = .non /\ H2 = upd H (hp.objs.size + 1) (exo (hp.objs.size + 1) C none)) (λ _ _ _ => False) := ⟨_, rfl, upd_same, rfl, rfl⟩
 have r2 : Vals [V.ref (hp.objs.size + 1)] [Value.ref (hp.objs.size + 1)] := .cons rfl .nil
 have hl : ([Value.ref (hp.objs.size + 1)] ++ []).length = ps.length := F.lenG _ _ _ _ hq
 have hb2 := hb ⟨(hp.push (PySem.W.kdv_tup [])).push (HandSPX.excO C hp.objs.size), g, dr, tk, os⟩ [Value.ref (hp.objs.size + 1)] I2.kIn hl
 rw [List.append_nil] at hb2
 have go := F.runG (X.A.under (.builtin "type.__call__" ⟨[.ref C], []⟩)) X.stack _ _ ⟨[Value.ref (hp.objs.size + 1)], []⟩ _ [Value.ref (hp.objs.size + 1)] _ _ (λ _ _ _ => False) (λ z => nomatch z) (hr.make C [] []) (I2.env0.make C [] []) hb2 (.refl _) r2 hq
 refine wpAny_call (HandSPX.call_own T.fb hT hC (PySem.W.looks_findIn I.kIn iC) (λ self => PySem.W.bind_fn I.kIn self tI) (Nat.zero_le _) (codeAny_mono go λ r s' hq' => ?_))
 match r, hq' with
 | .error er, hq' => exact hx pins σ _ _ er s' I2 hq'
 | .ok (.ret u), hq' =>
   obtain ⟨u2, H2, J, rv, rfl, rfl⟩ := I2.after hq'
   exact ⟨rv, .ref (hp.objs.size + 1), _, J, rfl, h _ na⟩
 | .ok .next, hq' => cases hq'
 | .ok .brk, hq' => cases hq'
 | .ok .cont, hq' => cases hq'
end
def rIsO (K : Fr) : List V -> Hp -> VK -> Prop := λ xs H Q => ∃ (a D : Addr) (od : Option Addr) (c : V) (cv : Value) (b : Bool), xs = [.ref a, c] /\ H a = some (exo a D od) /\ (od = none \/ ∃ dd fs, od = some dd /\ H dd = some (exd dd fs)) /\ ExcC K D /\ ClsV c cv /\ PySem.W.kitOne K (.ref D) cv = some b /\ Q (.bl b) H
def tXgO (K : Fr) (n : Str) (te : TE) : TE := λ σ H Q => te σ H λ x H1 => ∃ (a D dd : Addr) (fs : List (Str × V)) (v : V), x = .ref a /\ H1 a = some (exo a D (some dd)) /\ H1 dd = some (exd dd fs) /\ ExcC K D /\ PySem.W.findIn K (.ref D) n = some none /\ fs.lookup n = some v /\ Q v H1
section
variable {X : Cx}
theorem exo_inst {pins : List (Addr × Obj)} {σ : L2.St} {H : Hp} {s : Shared} {a D : Addr} {od : Option Addr} (I : Inv X pins σ H s) (e : H a = some (exo a D od)) (hd : od = none \/ ∃ dd fs, od = some dd /\ H dd = some (exd dd fs)) :
   ∃ oe o, PySem.W.InstAt s.heap a oe D o := by
 obtain ⟨t1, ho⟩ := (show ObjOk X.prog X.w H s.heap a (exo a D od) from I.hok a _ e).1
 rcases hd with rfl | ⟨dd, fs, rfl, ed⟩
 · exact ⟨_, none, ho, rfl, rfl, trivial⟩
 · obtain ⟨mA, ⟨o, es, ep, e1, e2⟩, hr⟩ := (show ObjOk X.prog X.w H s.heap dd (exd dd fs) from I.hok dd _ ed).1
   exact ⟨_, some o, ho, rfl, rfl, e1⟩
theorem cr_isO : CallR X (.builtin "isinstance") (rIsO X.K) := by
 intro pins s σ H xs us Q I r h
 obtain ⟨a, D, od, c, cv, b, rfl, ea, hd, C, k, e, q⟩ := h
 obtain ⟨u1, u2, rfl, r1, r2⟩ := vals2 r
 cases (show u1 = Value.ref a from r1)
 cases k.eq r2
 obtain ⟨oe, o, J⟩ := exo_inst I ea hd
 exact PySem.W.kia_one (kit_exc C) I.kIn J e (λ z => nomatch z) λ tk => ⟨.bl b, H, I.tok tk, rfl, q⟩
theorem pe_xgO {e : Expr} {te : TE} {pos : Pos} {n : Str} (he : PE X e te) (hb : attributeBase e n X.env (eval e X.env) = eval e X.env := by rfl) :
   PE X (.Attribute e n pos) (tXgO X.K n te) := by
 constructor
 intro pins s σ H Q I h
 refine attr_of hb (thn (he.run pins s σ H _ I h) ?_)
 rintro u s1 ⟨x, H1, I1, rx, a, D, dd, fs, v, rfl, ea, ed, C, hno, l, q⟩
 cases (show u = Value.ref a from rx)
 obtain ⟨t1, ho⟩ := (show ObjOk X.prog X.w H1 s1.heap a (exo a D (some dd)) from I1.hok a _ ea).1
 obtain ⟨mA, hns, hr⟩ := (show ObjOk X.prog X.w H1 s1.heap dd (exd dd fs) from I1.hok dd _ ed).1
 obtain ⟨od, hod, hl⟩ := lookIn_ns hns
 obtain ⟨u, hu, ru⟩ := RelO.some_of (v := v) (o := mA n) (by rw [<- l]; exact hr n)
 have J : PySem.W.InstAt s1.heap a _ D (some od) := ⟨ho, rfl, rfl, hod⟩
 exact HandSPX.exc_get I1.kIn J C.hg C.hk C.hs (PySem.W.findObj_own C.hd hno rfl (by rw [hl, hu])) (handed_of ru) ⟨v, H1, I1.tok _, ru, q⟩
end
structure PV (α : Type) where
 on : Hp -> V -> α -> Prop
 mono : ∀ F F' v x, Ext F F' -> on F v x -> on F' v x
def pvR {α : Type} (A : PV α) (v : V) (x : α) : Res := ⟨λ F l => l = [] /\ A.on F v x, λ _ _ _ e h => ⟨h.1, A.mono _ _ _ _ e h.2⟩⟩
def PV.dq {α : Type} (K : Fr) (e : α -> PyData) : PV α := ⟨λ F v x => Dq K F v (e x), λ _ _ _ _ e h => Dq_ext e h⟩
def XqF (K : Fr) (F : Hp) (v : V) (C : Addr) : Option (Str × PyData) -> Prop
 | none => ∃ a, v = .ref a /\ F a = some (exo a C none)
 | some q => ∃ a dx w, v = .ref a /\ F a = some (exo a C (some dx)) /\ F dx = some (exd dx [(q.1, w)]) /\ Dq K F w q.2
theorem XqF_ext {K : Fr} {F F' : Hp} {v : V} {C : Addr} (e : Ext F F') : ∀ {q : Option (Str × PyData)}, XqF K F v C q -> XqF K F' v C q
 | none, ⟨a, h1, h2⟩ => ⟨a, h1, e _ _ h2⟩
 | some q, ⟨a, dx, w, h1, h2, h3, h4⟩ => ⟨a, dx, w, h1, e _ _ h2, e _ _ h3, Dq_ext e h4⟩
def xqG (K : Fr) (v : V) (C : Addr) (q : Option (Str × PyData)) : Res := ⟨λ F l => l = [] /\ XqF K F v C q, λ _ _ _ e h => ⟨h.1, XqF_ext e h.2⟩⟩
def PV.t3 {α β γ : Type} (K : Fr) (A : PV α) (B : PV β) (C : PV γ) : PV (α × β × γ) := ⟨λ F v x => ∃ a u1 u2 u3, v = .ref a /\ SqT K F a [u1, u2, u3] /\ A.on F u1 x.1 /\ B.on F u2 x.2.1 /\ C.on F u3 x.2.2,
 λ _ _ _ _ e ⟨a, u1, u2, u3, h1, h2, h3, h4, h5⟩ => ⟨a, u1, u2, u3, h1, e.sqT h2, A.mono _ _ _ _ e h3, B.mono _ _ _ _ e h4, C.mono _ _ _ _ e h5⟩⟩
def pvA {α : Type} (A : PV α) (vs : List V) (xs : List α) : Res := ⟨λ F l => l = [] /\ Paired (A.on F) vs xs, λ _ _ _ e h => ⟨h.1, Paired.mapP h.2 λ _ _ z => A.mono _ _ _ _ e z⟩⟩
def plR {α : Type} (A : PV α) (p : Addr) (xs : List α) : Res := exi λ vs => sp2 (pt p (.lst vs)) (pvA A vs xs)
section
variable {α β γ : Type} {K : Fr} {Rs : List Res} {H : Hp} {Q : VK} {p a C : Addr} {v : V} {q : Option (Str × PyData)} {b : Bool} {A : PV α} {B : PV β} {G : PV γ} {xs ys : List α} {σ : L2.St}
theorem M.pvOf {x : α} (S : M Rs H) (h : EnF Rs (λ F => A.on F v x)) : M (pvR A v x :: Rs) H := by
 obtain ⟨F, L, s, m⟩ := S
 exact ⟨F, L, ⟨[], L, rfl, ⟨rfl, h F L s⟩, s⟩, m⟩
theorem EnF.pv {x : α} (j : Nat) (hj : Rs[j]? = some (pvR A v x)) : EnF Rs (λ F => A.on F v x) := λ F L s => by
 obtain ⟨l, h⟩ := s.get j hj
 exact h.2
theorem v_mkX {w : V} {f : Str} {d : PyData} (S : M Rs H) (hw : EnF Rs (λ F => Dq K F w d)) (k : ∀ v H', M (xqG K v C (some (f, d)) :: Rs) H' -> Q v H') : ∀ a dx, H a = none -> upd H a (exo a C none) dx = none -> dx ≠ a -> Q (.ref a) (upd (upd (upd H a (exo a C none)) dx (exd dx [(f, w)])) a (exo a C (some dx))) := by
 intro a dx ha hdx hne
 refine k _ _ ?_
 have S1 : M (da K w d :: Rs) H := S.addA hw
 have S2 := S1.new (o := exo a C none) ha
 have S3 := S2.new (o := exd dx [(f, w)]) hdx
 have S4 := S3.putAt (o' := exo a C (some dx)) 1 rfl
 have S5 := (S4.fixAt 0 rfl).fixAt 1 rfl
 obtain ⟨F, L, ⟨l1, l2, rfl, ⟨rfl, h1⟩, l3, l4, rfl, ⟨rfl, h2⟩, l5, l6, rfl, ⟨rfl, h3⟩, s⟩, m⟩ := S5
 exact ⟨F, l6, ⟨[], l6, rfl, ⟨rfl, a, dx, w, rfl, h2, h1, h3⟩, s⟩, m⟩
theorem v_mkX0 (S : M Rs H) (k : ∀ v H', M (xqG K v C none :: Rs) H' -> Q v H') : tMkX0 C σ H Q := by
 intro a ha
 refine k _ _ ?_
 have S2 := S.new (o := exo a C none) ha
 have S5 := S2.fixAt 0 rfl
 obtain ⟨F, L, ⟨l1, l2, rfl, ⟨rfl, h1⟩, s⟩, m⟩ := S5
 exact ⟨F, l2, ⟨[], l2, rfl, ⟨rfl, a, rfl, h1⟩, s⟩, m⟩
theorem v_isXO {c : V} {cv : Value} (S : M Rs H) (j : Nat) (hj : Rs[j]? = some (xqG K v C q)) (hc : ExcC K C) (k : ClsV c cv) (e : PySem.W.kitOne K (.ref C) cv = some b) (g : Q (.bl b) H) : rIsO K [v, c] H Q := by
 obtain ⟨F, L, s, m⟩ := S
 obtain ⟨l, h⟩ := s.get j hj
 obtain ⟨_, h⟩ := h
 cases q with
 | none =>
   obtain ⟨a, rfl, h2⟩ := h
   exact ⟨a, C, none, c, cv, b, rfl, m.ex _ _ h2, .inl rfl, hc, k, e, g⟩
 | some q =>
   obtain ⟨a, dx, w, rfl, h2, h3, _⟩ := h
   exact ⟨a, C, some dx, c, cv, b, rfl, m.ex _ _ h2, .inr ⟨dx, _, rfl, m.ex _ _ h3⟩, hc, k, e, g⟩
theorem v_xgO {te : TE} {n : Str} {d : PyData} (S : M Rs H) (j : Nat) (hj : Rs[j]? = some (xqG K v C (some (n, d)))) (hc : ExcC K C) (hno : PySem.W.findIn K (.ref C) n = some none) (ht : ∀ Q, Q v H -> te σ H Q) (k : ∀ w, M (da K w d :: Rs) H -> Q w H) : tXgO K n te σ H Q := by
 refine ht _ ?_
 obtain ⟨F, L, s, m⟩ := S
 obtain ⟨l, h⟩ := s.get j hj
 obtain ⟨_, a, dx, w, rfl, h2, h3, h4⟩ := h
 refine ⟨a, C, dx, _, w, rfl, m.ex _ _ h2, m.ex _ _ h3, hc, hno, ?_, k w ⟨F, L, ⟨[], L, rfl, ⟨rfl, h4⟩, s⟩, m⟩⟩
 show List.lookup n [(n, w)] = some w
 simp [List.lookup]
theorem v_t3 {x : α} {y : β} {z : γ} {u1 u2 u3 : V} (S : M Rs H) (h1 : EnF Rs (λ F => A.on F u1 x)) (h2 : EnF Rs (λ F => B.on F u2 y)) (h3 : EnF Rs (λ F => G.on F u3 z)) (k : ∀ v H', M (pvR (PV.t3 K A B G) v (x, y, z) :: Rs) H' -> Q v H') :
   TupK Q [u1, u2, u3] H := by
 refine ⟨show 3 <= 16777216 by decide, λ c hc => k _ _ ?_⟩
 have S2 := (S.new (o := .tup [u1, u2, u3]) hc).fixAt 0 rfl
 obtain ⟨F, L, ⟨l1, l2, rfl, ⟨rfl, h⟩, s⟩, m⟩ := S2
 exact ⟨F, l2, ⟨[], l2, rfl, ⟨rfl, c, u1, u2, u3, rfl, .inl (.inl h), h1 F l2 s, h2 F l2 s, h3 F l2 s⟩, s⟩, m⟩
end
end RC
namespace RC
open PySem PySem.Spec PyProof.Rows L2
section
variable {α β γ : Type} {K : Fr} {Rs : List Res} {H : Hp} {Q : VK} {p a : Addr} {v : V} {A : PV α} {B : PV β} {G : PV γ} {xs ys : List α} {vs : List V} {σ : L2.St} {D : Ends}
theorem PairedP.at {F : V -> α -> Prop} : ∀ {vs : List V} {xs : List α}, Paired F vs xs -> ∀ {i : Nat} {v : V} {x : α}, vs[i]? = some v -> xs[i]? = some x -> F v x
 | _, _, .cons a r, 0, v, x, h, g => by
   cases (show some _ = some v from h)
   cases (show some _ = some x from g)
   exact a
 | _, _, .cons a r, i + 1, v, x, h, g => PairedP.at r (by simpa using h) (by simpa using g)
theorem PairedP.rev {F : V -> α -> Prop} : ∀ {vs : List V} {xs : List α}, Paired F vs xs -> Paired F vs.reverse xs.reverse
 | _, _, .nil => .nil
 | _, _, .cons a r => by
   rw [List.reverse_cons, List.reverse_cons]
   exact Paired.snoc (PairedP.rev r) a
theorem PairedP.app {F : V -> α -> Prop} : ∀ {vs ws : List V} {xs ys : List α}, Paired F vs xs -> Paired F ws ys -> Paired F (vs ++ ws) (xs ++ ys)
 | _, _, _, _, .nil, h => h
 | _, _, _, _, .cons a r, h => .cons a (PairedP.app r h)
theorem M.elP {i : Nat} {x : α} (S : M Rs H) (j : Nat) (hj : Rs[j]? = some (pvA A vs xs)) (hv : vs[i]? = some v) (hx : xs[i]? = some x) : M (pvR A v x :: Rs) H :=
 S.pvOf λ F L s => by
   obtain ⟨l, h⟩ := s.get j hj
   exact PairedP.at h.2 hv hx
theorem M.pvLen (S : M Rs H) (j : Nat) (hj : Rs[j]? = some (pvA A vs xs)) : vs.length = xs.length := by
 obtain ⟨F, L, s, m⟩ := S
 obtain ⟨l, h⟩ := s.get j hj
 exact Paired.length h.2
theorem M.plO (S : M (plR A p xs :: Rs) H) : ∃ vs, M (pt p (.lst vs) :: pvA A vs xs :: Rs) H := by
 obtain ⟨vs, S1⟩ := S.ex
 exact ⟨vs, S1.sp⟩
theorem v_lstP (S : M Rs H) (k : ∀ p H', M (plR A p [] :: Rs) H' -> Q (.ref p) H') : LstK Q [] H := by
 refine ⟨Nat.zero_le _, λ c hc => k c _ ?_⟩
 have S1 := S.new (o := .lst []) hc
 obtain ⟨F, L, ⟨l1, l2, rfl, a, b⟩, m⟩ := S1
 exact ⟨F, _, ⟨l1, l2, rfl, ⟨[], l1, [], by simp, a, rfl, .nil⟩, b⟩, m⟩
theorem v_apP {y : V} {x : α} (S : M Rs H) (j : Nat) (hj : Rs[j]? = some (plR A p xs)) (h : EnF Rs (λ F => A.on F y x)) (hz : xs.length < 100000) (k : ∀ H', M (plR A p (xs ++ [x]) :: Rs.eraseIdx j) H' -> Q .non H') : rAppend (.ref p) [y] H Q := by
 have S0 : M (pvR A y x :: Rs) H := S.pvOf h
 have S1 : M (plR A p xs :: pvR A y x :: Rs.eraseIdx j) H := (S0.at (j + 1) (by simpa using hj))
 obtain ⟨vs, S3⟩ := S1.plO
 have hl : vs.length = xs.length := S3.pvLen 1 rfl
 refine v_app S3 0 rfl (by rw [hl]; exact hz) λ H' S4 => k H' ?_
 obtain ⟨F, L, ⟨l1, l2, rfl, a, l3, l4, rfl, ⟨rfl, q⟩, l5, l6, rfl, ⟨rfl, q2⟩, b⟩, m⟩ := S4
 exact ⟨F, _, ⟨l1, l6, by simp, ⟨vs ++ [y], l1, [], by simp, a, rfl, Paired.snoc q q2⟩, b⟩, m⟩
theorem v_revP (S : M Rs H) (j : Nat) (hj : Rs[j]? = some (plR A p xs)) (k : ∀ q H', M (plR A q xs.reverse :: Rs) H' -> Q (.ref q) H') : RevK K Q (.ref p) H := by
 obtain ⟨vs, S3⟩ := (S.at j hj).plO
 refine v_rev S3 (SqL.of (S3.got 0 rfl)) λ q H' S4 => k q H' ?_
 obtain ⟨F, L, ⟨l0, l1, rfl, a0, l2, l3, rfl, a, l4, l5, rfl, ⟨rfl, q2⟩, b⟩, m⟩ := S4
 have b' : Sat F (plR A p xs :: Rs.eraseIdx j) (l2 ++ l5) := ⟨l2, l5, rfl, ⟨vs, l2, [], by simp, a, rfl, q2⟩, b⟩
 obtain ⟨L', pp, sat⟩ := b'.perm (perm_at j hj).symm
 exact ⟨F, l0 ++ L', ⟨l0, L', rfl, ⟨vs.reverse, l0, [], by simp, a0, rfl, PairedP.rev q2⟩, sat⟩, m.perm (by simpa using pp.append_left l0)⟩
theorem v_catP {q : Addr} (S : M (plR A q ys :: plR A p xs :: Rs) H) (hz : xs.length + ys.length <= 100000) (k : ∀ r H', M (plR A r (xs ++ ys) :: plR A p xs :: Rs) H' -> Q (.ref r) H') : uAdd K (.ref p) (.ref q) H Q := by
 obtain ⟨ws, S1⟩ := S.plO
 obtain ⟨vs, S2⟩ := (S1.at 2 rfl).plO
 have h1 : vs.length = xs.length := S2.pvLen 1 rfl
 have h2 : ws.length = ys.length := S2.pvLen 3 rfl
 refine v_catS S2 (SqL.of (S2.got 0 rfl)) (SqL.of (S2.got 2 rfl)) (by rw [h1, h2]; exact hz) λ r H' S4 => k r H' ?_
 obtain ⟨F, L, ⟨l0, l1, rfl, a0, l2, l3, rfl, a, l4, l5, rfl, ⟨rfl, q2⟩, l6, l7, rfl, a3, l8, l9, rfl, ⟨rfl, q3⟩, b⟩, m⟩ := S4
 refine ⟨F, l0 ++ (l2 ++ l9), ⟨l0, l2 ++ l9, rfl, ⟨vs ++ ws, l0, [], by simp, a0, rfl, PairedP.app q2 q3⟩, l2, l9, rfl, ⟨vs, l2, [], by simp, a, rfl, q2⟩, b⟩, ?_⟩
 refine ⟨m.ex, λ c hc => m.own c ?_, ?_⟩
 · simp only [List.mem_append] at hc ⊢
   rcases hc with hc | hc | hc
   · exact .inl hc
   · exact .inr (.inl hc)
   · exact .inr (.inr (.inr (.inr (.inr (by first | exact hc | simpa using hc)))))
 · have := m.nd
   simp only [List.map_append] at this ⊢
   refine this.sublist ?_
   refine List.Sublist.append (List.Sublist.refl _) (List.Sublist.append (List.Sublist.refl _) ?_)
   refine List.Sublist.trans ?_ (List.sublist_append_right _ _)
   refine List.Sublist.trans ?_ (List.sublist_append_right _ _)
   exact List.sublist_append_right _ _
theorem for_pl {δ : Type} {F : α -> δ -> (δ -> Prop) -> Prop} {s0 : δ} {KK : δ -> Prop} {g : TG} {tb : TS} (hl : vs.length = xs.length) (hf : forD F xs s0 KK) (Inv : δ -> L2.St -> Hp -> Prop) (h0 : Inv s0 σ H)
   (hrd : ∀ s σ H, Inv s σ H -> SqL K H a vs)
   (hs : ∀ (i : Nat) v x s σ H (kk : δ -> Prop), Inv s σ H -> vs[i]? = some v -> xs[i]? = some x -> F x s kk -> g v σ H λ σ2 H2 => tb ⟨λ σ H => ∃ s', kk s' /\ Inv s' σ H, D.rt, D.nx, λ σ H => ∃ s', kk s' /\ Inv s' σ H⟩ σ2 H2)
   (hd : ∀ s σ H, KK s -> Inv s σ H -> D.nx σ H) : ForW (Itl K a) g tb D σ H := by
 refine for_W walk_list (λ i σ H => ∃ s, forD F (xs.drop i) s KK /\ Inv s σ H) ⟨s0, by simpa using hf, h0⟩ (λ i σ H _ ⟨s, _, h⟩ => hrd s σ H h) ?_ ?_
 · rintro i v σ H H' hi ⟨s, hf, h⟩ ⟨rfl, hv⟩
   have hi2 : i < xs.length := by omega
   rw [List.drop_eq_getElem_cons hi2] at hf
   exact hs i v _ s σ H' _ h hv (List.getElem?_eq_getElem hi2) hf
 · rintro σ H ⟨s, hf, h⟩
   rw [hl, List.drop_length] at hf
   exact hd s σ H hf h
theorem M.openT3P {x : α × β × γ} (S : M Rs H) (j : Nat) (hj : Rs[j]? = some (pvR (PV.t3 K A B G) v x)) : ∃ a u w y, v = .ref a /\ SqT K H a [u, w, y] /\ M (pvR A u x.1 :: pvR B w x.2.1 :: pvR G y x.2.2 :: Rs) H := by
 obtain ⟨F, L, s, m⟩ := S
 obtain ⟨l, h⟩ := s.get j hj
 obtain ⟨_, a, u1, u2, u3, rfl, h1, h2, h3, h4⟩ := h
 exact ⟨a, u1, u2, u3, rfl, m.ex.sqT h1, F, L, ⟨[], L, rfl, ⟨rfl, h2⟩, [], L, rfl, ⟨rfl, h3⟩, [], L, rfl, ⟨rfl, h4⟩, s⟩, m⟩
end
theorem chDK_ok {K : Fr} {d : Str} {l : List (Str × Bool)} (h : chDK K d l = true) : ∀ (i : Nat) (p : Str × Bool), l[i]? = some p -> PySem.W.kitOne K (.ref (He.ga K p.1)) (.ref (He.ga K d)) = some p.2 := λ i p hp => chK_ok (List.all_eq_true.mp h p (List.mem_of_getElem? hp))
theorem chDT_ok {K : Fr} {d : String} {l : List (Str × Bool)} (h : chDT K d l = true) : ∀ (i : Nat) (p : Str × Bool), l[i]? = some p -> PySem.W.kitOne K (.ref (He.ga K p.1)) (.type d) = some p.2 := λ i p hp => chT_ok (List.all_eq_true.mp h p (List.mem_of_getElem? hp))
end RC
namespace RC
open PySem PySem.Spec PyProof.Rows L2
section
variable {α : Type} {K : Fr} {Rs : List Res} {H : Hp} {A : PV α} {xs : List α} {σ : L2.St} {Q : VK} {C : Addr} {f : Str} {te : TE}
theorem M.tyP {p : Addr} {φ : Prop} (S : M Rs H) (j : Nat) (hj : Rs[j]? = some (plR A p xs)) (k : φ) : tyV K "list" (.ref p) H /\ φ := by
 obtain ⟨vs, S1⟩ := (S.at j hj).plO
 exact v_tyL (SqL.of (S1.got 0 rfl)) k
theorem g_mkX (k : te σ H λ v H1 => ∀ a dx, H1 a = none -> upd H1 a (exo a C none) dx = none -> dx ≠ a -> Q (.ref a) (upd (upd (upd H1 a (exo a C none)) dx (exd dx [(f, v)])) a (exo a C (some dx)))) : tMkX C f te σ H Q := k
end
end RC

namespace RC
open PySem PySem.Spec PyProof.Rows L2
@[reducible] def oo2 {a0 a1 : Res} (r : List Res) : List Res := a0 :: a1 :: r
@[reducible] def oo3 {a0 a1 a2 : Res} (r : List Res) : List Res := a0 :: a1 :: a2 :: r
@[reducible] def oo4 {a0 a1 a2 a3 : Res} (r : List Res) : List Res := a0 :: a1 :: a2 :: a3 :: r
@[reducible] def oo5 {a0 a1 a2 a3 a4 : Res} (r : List Res) : List Res := a0 :: a1 :: a2 :: a3 :: a4 :: r
@[reducible] def oo6 {a0 a1 a2 a3 a4 a5 : Res} (r : List Res) : List Res := a0 :: a1 :: a2 :: a3 :: a4 :: a5 :: r
@[reducible] def oo7 {a0 a1 a2 a3 a4 a5 a6 : Res} (r : List Res) : List Res := a0 :: a1 :: a2 :: a3 :: a4 :: a5 :: a6 :: r
@[reducible] def oo8 {a0 a1 a2 a3 a4 a5 a6 a7 : Res} (r : List Res) : List Res := a0 :: a1 :: a2 :: a3 :: a4 :: a5 :: a6 :: a7 :: r
@[reducible] def oo9 {a0 a1 a2 a3 a4 a5 a6 a7 a8 : Res} (r : List Res) : List Res := a0 :: a1 :: a2 :: a3 :: a4 :: a5 :: a6 :: a7 :: a8 :: r
@[reducible] def oo10 {a0 a1 a2 a3 a4 a5 a6 a7 a8 a9 : Res} (r : List Res) : List Res := a0 :: a1 :: a2 :: a3 :: a4 :: a5 :: a6 :: a7 :: a8 :: a9 :: r
@[reducible] def oo11 {a0 a1 a2 a3 a4 a5 a6 a7 a8 a9 a10 : Res} (r : List Res) : List Res := a0 :: a1 :: a2 :: a3 :: a4 :: a5 :: a6 :: a7 :: a8 :: a9 :: a10 :: r
@[reducible] def oo12 {a0 a1 a2 a3 a4 a5 a6 a7 a8 a9 a10 a11 : Res} (r : List Res) : List Res := a0 :: a1 :: a2 :: a3 :: a4 :: a5 :: a6 :: a7 :: a8 :: a9 :: a10 :: a11 :: r
@[reducible] def oo13 {a0 a1 a2 a3 a4 a5 a6 a7 a8 a9 a10 a11 a12 : Res} (r : List Res) : List Res := a0 :: a1 :: a2 :: a3 :: a4 :: a5 :: a6 :: a7 :: a8 :: a9 :: a10 :: a11 :: a12 :: r
@[reducible] def oo14 {a0 a1 a2 a3 a4 a5 a6 a7 a8 a9 a10 a11 a12 a13 : Res} (r : List Res) : List Res := a0 :: a1 :: a2 :: a3 :: a4 :: a5 :: a6 :: a7 :: a8 :: a9 :: a10 :: a11 :: a12 :: a13 :: r
local macro_rules | `(tactic| walk_at "S") => `(tactic| assumption)
local macro_rules | `(tactic| walk_at "hp") => `(tactic| first
 | assumption
 | exact M.got (by assumption) 0 rfl | exact M.got (by assumption) 1 rfl | exact M.got (by assumption) 2 rfl | exact M.got (by assumption) 3 rfl | exact M.got (by assumption) 4 rfl
 | exact M.got (by assumption) 5 rfl | exact M.got (by assumption) 6 rfl | exact M.got (by assumption) 7 rfl | exact M.got (by assumption) 8 rfl
 | exact M.gotF (by assumption) 0 rfl | exact M.gotF (by assumption) 1 rfl | exact M.gotF (by assumption) 2 rfl | exact M.gotF (by assumption) 3 rfl | exact M.gotF (by assumption) 4 rfl
 | exact M.gotF (by assumption) 5 rfl | exact M.gotF (by assumption) 6 rfl | exact M.gotF (by assumption) 7 rfl | exact M.gotF (by assumption) 8 rfl)
local macro_rules | `(tactic| walk_at "sl") => `(tactic| first
 | assumption
 | exact SqL.of (by walk_at "hp")
 | exact M.gotR (by assumption) 0 rfl | exact M.gotR (by assumption) 1 rfl | exact M.gotR (by assumption) 2 rfl | exact M.gotR (by assumption) 3 rfl)
local macro_rules | `(tactic| walk_at "mul") => `(tactic| first
 | exact Or.inl (Or.inr ⟨by decide, by decide⟩) | exact Or.inl (Or.inl ⟨by decide, by decide⟩) | exact Or.inl (Or.inr ⟨by omega, by omega⟩) | exact Or.inl (Or.inl ⟨by omega, by omega⟩))
local macro_rules | `(tactic| walk_at "sq") => `(tactic| first | assumption | exact SqT.of (by walk_at "hp"))
local macro_rules | `(tactic| walk_at "sts") => `(tactic| first
 | with_reducible refine g_asg ?_
 | with_reducible refine g_asgX ?_
 | with_reducible refine g_drop ?_
 | with_reducible refine g_ret ?_
 | with_reducible refine g_retN ?_
 | with_reducible refine g_if ?_
 | with_reducible refine g_next ?_
 | with_reducible refine g_bk ?_
 | with_reducible refine g_ct ?_
 | with_reducible refine g_augS ?_
 | with_reducible refine g_for ?_
 | with_reducible refine g_while ?_
 | with_reducible refine g_par ?_
 | ((with_reducible refine' g_aug ?hh ?kk); (case hh => exact rfl)))
local macro_rules | `(tactic| walk_at "ev1") => `(tactic| first
 | with_reducible refine g_rt ?_
 | with_reducible refine g_lc ?_
 | with_reducible refine g_iList ?_
 | with_reducible refine g_iRng1 ?_
 | with_reducible refine g_iRev ?_
 | with_reducible refine g_yes ?_
 | ((with_reducible refine' g_wipe ?hh ?kk); (case hh => exact rfl))
 | with_reducible refine g_name ?_
 | ((with_reducible refine' g_var ?hh ?kk); (case hh => exact rfl))
 | with_reducible refine g_c ?_
 | with_reducible refine g_op ?_
 | with_reducible refine g_un ?_
 | with_reducible refine g_nil ?_
 | with_reducible refine g_cons ?_
 | with_reducible refine g_cb ?_
 | with_reducible refine g_call ?_
 | with_reducible refine g_lst ?_
 | with_reducible refine g_tup ?_
 | with_reducible refine g_test ?_
 | with_reducible refine g_B ?_
 | with_reducible refine g_bl ?_
 | with_reducible refine g_int ?_
 | with_reducible refine g_and ?_
 | with_reducible refine g_or ?_
 | with_reducible refine g_not ?_
 | with_reducible refine g_andV ?_
 | with_reducible refine g_orV ?_
 | with_reducible refine g_notV ?_
 | with_reducible refine g_ifE ?_
 | with_reducible refine g_chain ?_
 | with_reducible refine g_sub ?_
 | with_reducible refine g_sl ?_
 | with_reducible refine g_noPart ?_
 | with_reducible refine g_part ?_
 | with_reducible refine g_rev ?_
 | with_reducible refine g_bm ?_
 | with_reducible refine g_bm0 ?_
 | with_reducible refine v_add ?_
 | with_reducible refine v_sub ?_
 | with_reducible refine v_iadd ?_
 | with_reducible refine v_isub ?_
 | with_reducible refine v_lt ?_
 | with_reducible refine v_le ?_
 | with_reducible refine v_gt ?_
 | with_reducible refine v_ge ?_
 | with_reducible refine v_eqI ?_
 | with_reducible refine v_neI ?_
 | with_reducible refine v_eqS ?_
 | with_reducible refine v_eqB ?_
 | with_reducible refine v_neB ?_
 | ((with_reducible refine' v_mod ?hh ?kk); (case hh => first | decide | omega))
 | ((with_reducible refine' v_mul ?hh ?kk); (case hh => walk_at "mul"))
 | ((with_reducible refine' v_imul ?hh ?kk); (case hh => first | exact Or.inr ⟨by decide, by decide⟩ | exact Or.inl ⟨by decide, by decide⟩ | exact Or.inr ⟨by omega, by omega⟩ | exact Or.inl ⟨by omega, by omega⟩))
 | ((with_reducible refine' v_div ?hh ?kk); (case hh => first | decide | exact ⟨by omega, by omega⟩))
 | ((with_reducible refine' v_divB ?hh ?kk); (case hh => first | decide | exact ⟨by omega, by omega⟩))
 | ((with_reducible refine' v_idiv ?hh ?kk); (case hh => first | exact ⟨by decide, by decide⟩ | exact ⟨by omega, by omega⟩))
 | ((with_reducible refine' v_ixL ?hs ?hh ?kk); (case hs => walk_at "sl"); (case hh => exact rfl))
 | ((with_reducible refine' v_ixT ?hs ?hh ?kk); (case hs => walk_at "sq"); (case hh => exact rfl))
 | ((with_reducible refine' v_get ?hs ?h0 ?hh ?kk); (case hs => walk_at "sl"); (case h0 => decide); (case hh => exact rfl))
 | ((with_reducible refine' v_lenL ?hs ?kk); (case hs => walk_at "sl"))
 | ((with_reducible refine' v_pow ?hh ?kk); (case hh => decide +kernel))
 | with_reducible refine v_abs ?_
 | with_reducible refine v_neg ?_
 | with_reducible refine v_isN ?_
 | with_reducible refine v_notN ?_
 | with_reducible refine v_two ?_
 | with_reducible refine g_callN ?_
 | ((with_reducible refine' v_lens ?h1 ?h2 ?kk); (case h1 => exact rfl); (case h2 => exact rfl))
 | ((with_reducible refine' g_gtup ?h1 ?h2 ?kk); (case h1 => walk_at "sq"); (case h2 => exact rfl))
 | with_reducible refine g_gcons ?_
 | with_reducible refine g_gnil ?_
 | with_reducible refine v_ifNT ?_
 | with_reducible refine v_ifNF ?_
 | with_reducible refine v_ifT ?_
 | with_reducible refine v_ifF ?_)
local macro_rules | `(tactic| walk_at "ev") => `(tactic| repeat walk_at "ev1")
local macro_rules | `(tactic| walk_at "nx") => `(tactic| repeat with_reducible refine g_nx ?_)
local macro_rules | `(tactic| walk_at "st") => `(tactic| ((repeat first | with_reducible refine g_nx ?_ | with_reducible refine g_seq ?_); walk_at "sts"; walk_at "ev"))
local macro_rules | `(tactic| walk_at "go1") => `(tactic| first | with_reducible refine g_nx ?_ | with_reducible refine g_seq ?_ | walk_at "sts" | walk_at "ev1")
local macro_rules | `(tactic| walk_at "go") => `(tactic| repeat walk_at "go1")
local macro_rules | `(tactic| walk_at "sub1") => `(tactic| first
 | exact Sub.refl _ | exact Sub.nil _
 | refine Sub.cons 0 rfl ?_ | refine Sub.cons 1 rfl ?_ | refine Sub.cons 2 rfl ?_ | refine Sub.cons 3 rfl ?_ | refine Sub.cons 4 rfl ?_ | refine Sub.cons 5 rfl ?_ | refine Sub.cons 6 rfl ?_ | refine Sub.cons 7 rfl ?_
 | refine Sub.cons 8 rfl ?_ | refine Sub.cons 9 rfl ?_ | refine Sub.cons 10 rfl ?_ | refine Sub.cons 11 rfl ?_ | refine Sub.cons 12 rfl ?_ | refine Sub.cons 13 rfl ?_ | refine Sub.cons 14 rfl ?_ | refine Sub.cons 15 rfl ?_ | refine Sub.tl ?_)
local macro_rules | `(tactic| walk_at "sub") => `(tactic| (refine M.sub ?_ (by assumption); repeat walk_at "sub1"))
local macro_rules | `(tactic| walk_at "sts") => `(tactic| first
 | with_reducible refine g_sfld ?_
 | with_reducible refine g_rz ?_
 | with_reducible refine g_try ?_)
local macro_rules | `(tactic| walk_at "ev1") => `(tactic| first
 | with_reducible refine g_callW ?_
 | with_reducible refine g_meth ?_
 | with_reducible refine g_make ?_
 | with_reducible refine g_fld ?_
 | with_reducible refine g_dpop ?_
 | with_reducible refine g_callE ?_
 | with_reducible refine g_xg ?_)
abbrev bagO (x y z : Int) (cl : Addr) : HO := .lst [.int x, .int y, .int z, .ref cl]
structure BagOk (x y z : Int) (ns : List Int) : Prop where
 x0 : 0 <= x
 y0 : 0 <= y
 y1 : y < 2147483647
 z0 : 0 <= z
 nn : ∀ n ∈ ns, (0 : Int) <= n
def bagR (bag : Addr) : Res := exi λ (b : Int × Int × Int × Addr × List Int) => prp (BagOk b.1 b.2.1 b.2.2.1 b.2.2.2.2) (sp2 (pt bag (bagO b.1 b.2.1 b.2.2.1 b.2.2.2.1)) (pt b.2.2.2.1 (.lst (b.2.2.2.2.map V.int))))
theorem bag_open {bag : Addr} {Rs : List Res} {H : Hp} (S : M (bagR bag :: Rs) H) : ∃ x y z cl ns, BagOk x y z ns /\ M (pt bag (bagO x y z cl) :: pt cl (.lst (ns.map V.int)) :: Rs) H := by
 obtain ⟨⟨x, y, z, cl, ns⟩, S⟩ := S.ex
 obtain ⟨ok, S⟩ := S.pr
 exact ⟨x, y, z, cl, ns, ok, S.sp⟩
theorem bag_close {bag cl : Addr} {x y z : Int} {ns : List Int} {Rs : List Res} {H : Hp} (ok : BagOk x y z ns) (S : M (pt bag (bagO x y z cl) :: pt cl (.lst (ns.map V.int)) :: Rs) H) : M (bagR bag :: Rs) H :=
 M.ex' (T := λ (b : Int × Int × Int × Addr × List Int) => prp (BagOk b.1 b.2.1 b.2.2.1 b.2.2.2.2) (sp2 (pt bag (bagO b.1 b.2.1 b.2.2.1 b.2.2.2.1)) (pt b.2.2.2.1 (.lst (b.2.2.2.2.map V.int))))) (x, y, z, cl, ns) (M.pr' ok S.sp')
def sp_l_take (K : Fr) : Sp := λ vs H Q _ => ∃ (Rs : List Res) (bag : Addr) (many : Int), vs = [.ref bag, .int many] /\ M (bagR bag :: Rs) H /\ 0 < many /\ many < 2 ^ 120 /\
 ∀ v H', 0 <= v -> v < many -> M (bagR bag :: Rs) H' -> Q (.int v) H'
abbrev t_l_take_6 (K : Fr) : TS := (tSeq (tIfS (tTest (tOp uGe (tVar 4) (tC (.int 1000000000000000000)))) (tAsg (tVar 4) (gSub (tVar 0) (tC (.int 0)) uSet)) tNext)
 (tAsg (tOp uMod (tOp (uAdd K) (tOp (uAdd K) (tOp uMul (tOp (uIx K) (tVar 0) (tC (.int 1))) (tC (.int 48271))) (tOp uMod (tVar 4) (tC (.int 2147483647)))) (tOp uMul (tC (.int 7919)) (tOp (uIx K) (tVar 0) (tC (.int 2))))) (tC (.int 2147483647))) (gSub (tVar 0) (tC (.int 1)) uSet)))
abbrev t_l_take_5 (K : Fr) : TS := (tSeq (tAugS (tVar 0) (tC (.int 2)) (tC (.int 1)) (gIx K) iAdd uSet)
 (t_l_take_6 K))
abbrev t_l_take_3 (K : Fr) : TS := (tSeq (tIfS (tTest (tOp uLt (tOp (uIx K) (tVar 0) (tC (.int 2))) (tCB (uLen K) (tCons (tOp (uIx K) (tVar 0) (tC (.int 3))) tNil)))) (tAsg (tOp (uIx K) (tOp (uIx K) (tVar 0) (tC (.int 3))) (tOp (uIx K) (tVar 0) (tC (.int 2)))) (gName 4)) tNext)
 (t_l_take_5 K))
abbrev t_l_take_2 (K : Fr) : TS := (tSeq (tAsg (tC (.int 0)) (gName 4))
 (t_l_take_3 K))
abbrev t_l_take_11 (K : Fr) : TS := (tSeq (tAsg (tOp uDiv (tOp (uIx K) (tVar 0) (tC (.int 0))) (tVar 1)) (gSub (tVar 0) (tC (.int 0)) uSet))
 (tRet (tVar 5)))
abbrev t_l_take_10 (K : Fr) : TS := (tSeq (tAsg (tOp uMod (tOp (uIx K) (tVar 0) (tC (.int 0))) (tVar 1)) (gName 5))
 (t_l_take_11 K))
abbrev t_l_take_15 (K : Fr) : TS := (tSeq (tIfS (tTest (tOp uGt (tVar 1) (tC (.int 1000000)))) (tRet (tOp uMod (tOp (uAdd K) (tOp uMul (tVar 3) (tC (.int 1000000007))) (tVar 2)) (tVar 1))) tNext)
 (tRet (tOp uMod (tOp uDiv (tVar 3) (tC (.int 7))) (tVar 1))))
abbrev t_l_take_14 (K : Fr) : TS := (tSeq (tAsg (tOp uMod (tOp uMul (tOp uMod (tOp uMul (tVar 2) (tVar 2)) (tC (.int 998244353))) (tC (.int 30011))) (tC (.int 998244353))) (gName 3))
 (t_l_take_15 K))
abbrev t_l_take_13 (K : Fr) : TS := (tSeq (tAsg (tOp uMod (tOp uMul (tOp (uAdd K) (tOp (uIx K) (tVar 0) (tC (.int 1))) (tC (.int 1))) (tC (.int 39373))) (tC (.int 1000000007))) (gName 2))
 (t_l_take_14 K))
abbrev t_l_take_9 (K : Fr) : TS := (tSeq (tIfS (tTest (tOp uGt (tOp (uIx K) (tVar 0) (tC (.int 0))) (tC (.int 0)))) (t_l_take_10 K) tNext)
 (t_l_take_13 K))
abbrev t_l_take_1 (K : Fr) : TS := (tSeq (tIfS (tTest (tOp (uEq K) (tOp (uIx K) (tVar 0) (tC (.int 0))) (tC (.int 0)))) (t_l_take_2 K) tNext)
 (t_l_take_9 K))
abbrev t_l_take (K : Fr) : TS := (t_l_take_1 K)
theorem take_tail {K : Fr} {Q : VK} {Rs : List Res} {bag cl : Addr} {many x y z : Int} {ns : List Int} {c : Option V} {H : Hp} (m0 : 0 < many) (m1 : many < 2 ^ 120) (ok : BagOk x y z ns)
   (k : ∀ v H', 0 <= v -> v < many -> M (bagR bag :: Rs) H' -> Q (.int v) H') (S : M (pt bag (bagO x y z cl) :: pt cl (.lst (ns.map V.int)) :: Rs) H) :
   t_l_take_9 K { nx := λ _ H' => Q .non H', rt := Q } [some (V.ref bag), some (V.int many), none, none, c, none] H := by
 have x0 := ok.x0
 have y0 := ok.y0
 have y1 := ok.y1
 walk_at "go"
 refine v_ifD (λ h => ?_) (λ h => ?_)
 · walk_at "go"
   refine v_set S 0 rfl rfl λ H' S' => ?_
   have S2 : M (pt bag (bagO (x / many) y z cl) :: pt cl (.lst (ns.map V.int)) :: Rs) H' := S'
   walk_at "go"
   exact k _ _ (Int.emod_nonneg _ (by omega)) (Int.emod_lt_of_pos _ m0) (bag_close ⟨Int.ediv_nonneg x0 (Int.le_of_lt m0), y0, y1, ok.z0, ok.nn⟩ S2)
 · walk_at "go"
   have f0 := Int.emod_nonneg ((y + 1) * 39373) (show (1000000007 : Int) ≠ 0 by decide)
   have f1 := Int.emod_lt_of_pos ((y + 1) * 39373) (show (0 : Int) < 1000000007 by decide)
   walk_at "go"
   have g0 := Int.emod_nonneg ((y + 1) * 39373 % 1000000007 * ((y + 1) * 39373 % 1000000007) % 998244353 * 30011) (show (998244353 : Int) ≠ 0 by decide)
   have g1 := Int.emod_lt_of_pos ((y + 1) * 39373 % 1000000007 * ((y + 1) * 39373 % 1000000007) % 998244353 * 30011) (show (0 : Int) < 998244353 by decide)
   refine v_ifD (λ h => ?_) (λ h => ?_)
   · walk_at "go"
     exact k _ _ (Int.emod_nonneg _ (by omega)) (Int.emod_lt_of_pos _ m0) (bag_close ok S)
   · walk_at "go"
     exact k _ _ (Int.emod_nonneg _ (by omega)) (Int.emod_lt_of_pos _ m0) (bag_close ok S)
theorem take_mid {K : Fr} {Q : VK} {Rs : List Res} {bag cl : Addr} {many y z c : Int} {ns : List Int} {H : Hp} (m0 : 0 < many) (m1 : many < 2 ^ 120) (ok : BagOk 0 y z ns) (c0 : 0 <= c)
   (k : ∀ v H', 0 <= v -> v < many -> M (bagR bag :: Rs) H' -> Q (.int v) H') (S : M (pt bag (bagO 0 y z cl) :: pt cl (.lst (ns.map V.int)) :: Rs) H) :
   t_l_take_5 K { nx := t_l_take_9 K { nx := λ _ H' => Q .non H', rt := Q }, rt := Q } [some (V.ref bag), some (V.int many), none, none, some (.int c), none] H := by
 have y0 := ok.y0
 have y1 := ok.y1
 have z0 := ok.z0
 have fin : ∀ {x : Int} {H' : Hp}, 0 <= x -> M (pt bag (bagO x y (z + 1) cl) :: pt cl (.lst (ns.map V.int)) :: Rs) H' ->
     tAsg (tOp uMod (tOp (uAdd K) (tOp (uAdd K) (tOp uMul (tOp (uIx K) (tVar 0) (tC (.int 1))) (tC (.int 48271))) (tOp uMod (tVar 4) (tC (.int 2147483647)))) (tOp uMul (tC (.int 7919)) (tOp (uIx K) (tVar 0) (tC (.int 2))))) (tC (.int 2147483647))) (gSub (tVar 0) (tC (.int 1)) uSet)
       { nx := t_l_take_9 K { nx := λ _ H' => Q .non H', rt := Q }, rt := Q } [some (V.ref bag), some (V.int many), none, none, some (.int c), none] H' := by
   intro x H' x0 S
   walk_at "go"
   refine v_set S 0 rfl rfl λ H2 S' => ?_
   have S2 : M (pt bag (bagO x ((y * 48271 + c % 2147483647 + 7919 * (z + 1)) % 2147483647) (z + 1) cl) :: pt cl (.lst (ns.map V.int)) :: Rs) H2 := S'
   walk_at "nx"
   exact take_tail m0 m1 ⟨x0, Int.emod_nonneg _ (by decide), Int.emod_lt_of_pos _ (by decide), by omega, ok.nn⟩ k S2
 walk_at "go"
 refine v_set S 0 rfl rfl λ H' S' => ?_
 have S2 : M (pt bag (bagO 0 y (z + 1) cl) :: pt cl (.lst (ns.map V.int)) :: Rs) H' := S'
 walk_at "go"
 refine v_ifD (λ h => ?_) (λ h => ?_)
 · walk_at "go"
   refine v_set S2 0 rfl rfl λ H2 S' => ?_
   have S3 : M (pt bag (bagO c y (z + 1) cl) :: pt cl (.lst (ns.map V.int)) :: Rs) H2 := S'
   exact fin c0 S3
 · walk_at "st"
   exact fin (Int.le_refl 0) S2
theorem len_l_take {K : Fr} (vs : List V) (H : Hp) (Q : VK) (E : XK) (h : sp_l_take K vs H Q E) : vs.length = 2 := by
 obtain ⟨Rs, bag, many, rfl, _⟩ := h
 rfl
theorem pure_l_take {K : Fr} (vs : List V) (H : Hp) (Q : VK) (E : XK) (h : sp_l_take K vs H Q E) : t_l_take K { nx := λ _ H' => Q .non H', rt := Q } (start ["_law_bag_here", "_law_many", "_law_first", "_law_second", "_law_cell", "_law_value"] vs) H := by
 obtain ⟨Rs, bag, many, rfl, S, m0, m1, k⟩ := h
 obtain ⟨x, y, z, cl, ns, ok, S⟩ := bag_open S
 show t_l_take K _ [some (V.ref bag), some (V.int many), none, none, none, none] H
 walk_at "go"
 refine v_ifD (λ h => ?_) (λ h => ?_)
 · subst h
   walk_at "go"
   refine v_ifD (λ h => ?_) (λ h => ?_)
   · rw [List.length_map] at h
     walk_at "go"
     refine v_ixL (SqL.of (S.got 1 rfl)) (atI_ints ok.z0 h) ?_
     walk_at "nx"
     refine take_mid m0 m1 ok ?_ k S
     rw [List.getD_eq_getElem?_getD]
     cases e : ns[z.toNat]? with
     | none => exact Int.le_refl 0
     | some n => exact ok.nn n (List.mem_of_getElem? e)
   · walk_at "st"
     exact take_mid m0 m1 ok (Int.le_refl 0) k S
 · walk_at "st"
   exact take_tail m0 m1 ok k S
def sp_l_bag (K : Fr) : Sp := λ vs H Q _ => ∃ (Rs : List Res) (a : Addr) (ns : List Int), vs = [.ref a] /\ M Rs H /\ Ent Rs (λ H => SqL K H a (ns.map V.int)) /\ ns.length <= 63 /\ ∀ bag H', M (bagR bag :: Rs) H' -> Q (.ref bag) H'
theorem len_l_bag {K : Fr} (vs : List V) (H : Hp) (Q : VK) (E : XK) (h : sp_l_bag K vs H Q E) : vs.length = 1 := by
 obtain ⟨Rs, a, ns, rfl, _⟩ := h
 rfl
abbrev t_l_bag (K : Fr) : TS := (tRet (tLst (tCons (tC (.int 0)) (tCons (tC (.int 1234567891)) (tCons (tC (.int 0)) (tCons (tLc (iList K (tSl (uSl K) (tVar 0) tNoPart (tPart (tC (.int 63))))) (gName 1) tYes (tCB rAbs (tCons (tVar 1) tNil)) [1]) tNil))))))
theorem pure_l_bag {K : Fr} (vs : List V) (H : Hp) (Q : VK) (E : XK) (h : sp_l_bag K vs H Q E) : t_l_bag K { nx := λ _ H' => Q .non H', rt := Q } (start ["_law_script", "_law_cell"] vs) H := by
 obtain ⟨Rs, a, ns, rfl, S, hS, hl, k⟩ := h
 show t_l_bag K _ [some (V.ref a), none] H
 walk_at "go"
 refine v_slL S (hS H S) λ q H1 S1 => ?_
 rw [show cutV (ns.map V.int) none (some 63) = (ns.map V.int).take 63 from cut_to _ 63, <- List.map_take] at S1
 refine v_itL (SqL.of (S1.got 0 rfl)) ?_
 refine lc_W walk_list S1 (λ i acc => ∃ ms : List Int, acc = ms.map V.int /\ ms.length <= i /\ ∀ n ∈ ms, 0 <= n) ⟨[], rfl, Nat.le_refl _, (λ _ h => nomatch h)⟩ (λ H S => SqL.of (S.got 0 rfl)) ?_ ?_
 · intro i x acc E H H' hi hp S y
   obtain ⟨rfl, hx⟩ := y
   obtain ⟨n, _, rfl⟩ := ints_get hx
   obtain ⟨ms, rfl, hm, hn⟩ := hp
   walk_at "go"
   have hz : i < 63 := by
     rw [List.length_map, List.length_take] at hi
     omega
   refine lc_next S 0 rfl (by rw [List.length_map]; omega) λ H' S' => ?_
   refine ⟨_, ⟨ms ++ [if n < 0 then -n else n], by simp, by simp; omega, λ m h => ?_⟩, S'⟩
   rcases List.mem_append.mp h with h | h
   · exact hn m h
   · cases List.mem_singleton.mp h
     split <;> omega
 · rintro E acc H ⟨ms, rfl, _, hn⟩ S
   walk_at "go"
   refine v_lst S (by simp) λ p H' S' => ?_
   walk_at "go"
   have S2 : M (pt p (bagO 0 1234567891 0 E) :: pt E (.lst (ms.map V.int)) :: Rs) H' := (S'.at 2 rfl).tl
   exact k p H' (bag_close ⟨by decide, by decide, by decide, by decide, hn⟩ S2)
theorem u_take {K : Fr} {Rs : List Res} {H : Hp} {bag : Addr} {many : Int} {Q : VK} {E : XK} (S : M (bagR bag :: Rs) H) (h : 0 < many /\ many < 2 ^ 62) (k : ∀ v H', 0 <= v -> v < many -> M (bagR bag :: Rs) H' -> Q (.int v) H') :
   sp_l_take K ([.ref bag, .int many] ++ []) H Q E := ⟨Rs, bag, many, rfl, S, h.1, by omega, k⟩
def sp_l_alike (K : Fr) : Sp := λ vs H Q _ => ∃ (x y : V) (d : PyData), vs = [x, y] /\ Dn K H x d /\ Dn K H y d /\ AlkOk d /\ Q (.bl true) H
theorem len_l_alike {K : Fr} (vs : List V) (H : Hp) (Q : VK) (E : XK) (h : sp_l_alike K vs H Q E) : vs.length = 2 := by
 obtain ⟨x, y, d, rfl, _⟩ := h
 rfl
abbrev t_l_alike (K : Fr) : TS := (tRet (tAndV (tOp (uEqQ K) (tVar 0) (tVar 1)) (tOp (uEqQ K) (tCB (rReprQ K) (tCons (tVar 0) tNil)) (tCB (rReprQ K) (tCons (tVar 1) tNil)))))
theorem pure_l_alike {K : Fr} (vs : List V) (H : Hp) (Q : VK) (E : XK) (h : sp_l_alike K vs H Q E) : t_l_alike K { nx := λ _ H' => Q .non H', rt := Q } (L2.start ["_law_found", "_law_due"] vs) H := by
 obtain ⟨x, y, d, rfl, h1, h2, ok, k⟩ := h
 show t_l_alike K _ [some x, some y] H
 refine g_ret (g_andV (g_op (g_var rfl (g_var rfl (.inr ⟨d, h1, h2, ok.ok, ok.dp, g_bl (v_ifT ?_)⟩)))))
 refine g_op (g_cb (g_cons (g_var rfl (g_nil ⟨x, d, rfl, h1, ok.sh, ok.dp, ok.ln, ?_⟩))))
 refine g_cb (g_cons (g_var rfl (g_nil ⟨y, d, rfl, h2, ok.sh, ok.dp, ok.ln, ?_⟩)))
 refine .inl (v_eqS ?_)
 rw [decide_eq_true rfl]
 exact k
structure TxC (K : Fr) : Prop where
 xc_Wrong : ExcC K (He.ga K "Wrong")
 xn_Wrong_at : chN K "Wrong" "at" = true
 xc_There : ExcC K (He.ga K "There")
 xn_There_thing : chN K "There" "thing" = true
 xc_TooMany : ExcC K (He.ga K "TooMany")
 xn_TooMany_most : chN K "TooMany" "most" = true
 xc_NoBase : ExcC K (He.ga K "NoBase")
 xn_NoBase_time : chN K "NoBase" "time" = true
 xc_NoFit : ExcC K (He.ga K "NoFit")
 xn_NoFit_at : chN K "NoFit" "at" = true
 xc_Unlike : ExcC K (He.ga K "Unlike")
 xn_Unlike_seal : chN K "Unlike" "seal" = true
 xc_NoLog : ExcC K (He.ga K "NoLog")
 xn_NoLog_at : chN K "NoLog" "at" = true
 xc_NoFile : ExcC K (He.ga K "NoFile")
 xn_NoFile_name : chN K "NoFile" "name" = true
 xc_NoPiece : ExcC K (He.ga K "NoPiece")
 xn_NoPiece_seal : chN K "NoPiece" "seal" = true
 xc_NoMoment : ExcC K (He.ga K "NoMoment")
 xn_NoMoment_time : chN K "NoMoment" "time" = true
 xc_NoHolder : ExcC K (He.ga K "NoHolder")
 xn_NoHolder_name : chN K "NoHolder" "name" = true
 xc_Busy : ExcC K (He.ga K "Busy")
 xn_Busy_why : chN K "Busy" "why" = true
 xc_NoRoom : ExcC K (He.ga K "NoRoom")
 xn_NoRoom_room : chN K "NoRoom" "room" = true
 xc_Held : ExcC K (He.ga K "Held")
 xn_Held_holders : chN K "Held" "holders" = true
 xc_Broken : ExcC K (He.ga K "Broken")
 xn_Broken_seal : chN K "Broken" "seal" = true
 xc_Undone : ExcC K (He.ga K "Undone")
 xn_Undone_names : chN K "Undone" "names" = true
 xc_OtherCut : ExcC K (He.ga K "OtherCut")
 xc_NoText : ExcC K (He.ga K "NoText")
 xc_NoRow : ExcC K (He.ga K "NoRow")
 xc_NoRun : ExcC K (He.ga K "NoRun")
 xd_Wrong : ∀ (i : Nat) (p : Str × Bool), ([("Wrong", true), ("There", false), ("TooMany", false), ("NoBase", false), ("NoFit", false), ("Unlike", false), ("NoLog", false), ("NoFile", false), ("NoPiece", false), ("NoMoment", false), ("NoHolder", false), ("Busy", false), ("NoRoom", false), ("Held", false), ("Broken", false), ("Undone", false), ("OtherCut", false), ("NoText", false), ("NoRow", false), ("NoRun", false)] : List (Str × Bool))[i]? = some p -> PySem.W.kitOne K (.ref (He.ga K p.1)) (.ref (He.ga K "Wrong")) = some p.2
 xd_There : ∀ (i : Nat) (p : Str × Bool), ([("Wrong", false), ("There", true), ("TooMany", false), ("NoBase", false), ("NoFit", false), ("Unlike", false), ("NoLog", false), ("NoFile", false), ("NoPiece", false), ("NoMoment", false), ("NoHolder", false), ("Busy", false), ("NoRoom", false), ("Held", false), ("Broken", false), ("Undone", false), ("OtherCut", false), ("NoText", false), ("NoRow", false), ("NoRun", false)] : List (Str × Bool))[i]? = some p -> PySem.W.kitOne K (.ref (He.ga K p.1)) (.ref (He.ga K "There")) = some p.2
 xd_TooMany : ∀ (i : Nat) (p : Str × Bool), ([("Wrong", false), ("There", false), ("TooMany", true), ("NoBase", false), ("NoFit", false), ("Unlike", false), ("NoLog", false), ("NoFile", false), ("NoPiece", false), ("NoMoment", false), ("NoHolder", false), ("Busy", false), ("NoRoom", false), ("Held", false), ("Broken", false), ("Undone", false), ("OtherCut", false), ("NoText", false), ("NoRow", false), ("NoRun", false)] : List (Str × Bool))[i]? = some p -> PySem.W.kitOne K (.ref (He.ga K p.1)) (.ref (He.ga K "TooMany")) = some p.2
 xd_NoBase : ∀ (i : Nat) (p : Str × Bool), ([("Wrong", false), ("There", false), ("TooMany", false), ("NoBase", true), ("NoFit", false), ("Unlike", false), ("NoLog", false), ("NoFile", false), ("NoPiece", false), ("NoMoment", false), ("NoHolder", false), ("Busy", false), ("NoRoom", false), ("Held", false), ("Broken", false), ("Undone", false), ("OtherCut", false), ("NoText", false), ("NoRow", false), ("NoRun", false)] : List (Str × Bool))[i]? = some p -> PySem.W.kitOne K (.ref (He.ga K p.1)) (.ref (He.ga K "NoBase")) = some p.2
 xd_NoFit : ∀ (i : Nat) (p : Str × Bool), ([("Wrong", false), ("There", false), ("TooMany", false), ("NoBase", false), ("NoFit", true), ("Unlike", false), ("NoLog", false), ("NoFile", false), ("NoPiece", false), ("NoMoment", false), ("NoHolder", false), ("Busy", false), ("NoRoom", false), ("Held", false), ("Broken", false), ("Undone", false), ("OtherCut", false), ("NoText", false), ("NoRow", false), ("NoRun", false)] : List (Str × Bool))[i]? = some p -> PySem.W.kitOne K (.ref (He.ga K p.1)) (.ref (He.ga K "NoFit")) = some p.2
 xd_Unlike : ∀ (i : Nat) (p : Str × Bool), ([("Wrong", false), ("There", false), ("TooMany", false), ("NoBase", false), ("NoFit", false), ("Unlike", true), ("NoLog", false), ("NoFile", false), ("NoPiece", false), ("NoMoment", false), ("NoHolder", false), ("Busy", false), ("NoRoom", false), ("Held", false), ("Broken", false), ("Undone", false), ("OtherCut", false), ("NoText", false), ("NoRow", false), ("NoRun", false)] : List (Str × Bool))[i]? = some p -> PySem.W.kitOne K (.ref (He.ga K p.1)) (.ref (He.ga K "Unlike")) = some p.2
 xd_NoLog : ∀ (i : Nat) (p : Str × Bool), ([("Wrong", false), ("There", false), ("TooMany", false), ("NoBase", false), ("NoFit", false), ("Unlike", false), ("NoLog", true), ("NoFile", false), ("NoPiece", false), ("NoMoment", false), ("NoHolder", false), ("Busy", false), ("NoRoom", false), ("Held", false), ("Broken", false), ("Undone", false), ("OtherCut", false), ("NoText", false), ("NoRow", false), ("NoRun", false)] : List (Str × Bool))[i]? = some p -> PySem.W.kitOne K (.ref (He.ga K p.1)) (.ref (He.ga K "NoLog")) = some p.2
 xd_NoFile : ∀ (i : Nat) (p : Str × Bool), ([("Wrong", false), ("There", false), ("TooMany", false), ("NoBase", false), ("NoFit", false), ("Unlike", false), ("NoLog", false), ("NoFile", true), ("NoPiece", false), ("NoMoment", false), ("NoHolder", false), ("Busy", false), ("NoRoom", false), ("Held", false), ("Broken", false), ("Undone", false), ("OtherCut", false), ("NoText", false), ("NoRow", false), ("NoRun", false)] : List (Str × Bool))[i]? = some p -> PySem.W.kitOne K (.ref (He.ga K p.1)) (.ref (He.ga K "NoFile")) = some p.2
 xd_NoPiece : ∀ (i : Nat) (p : Str × Bool), ([("Wrong", false), ("There", false), ("TooMany", false), ("NoBase", false), ("NoFit", false), ("Unlike", false), ("NoLog", false), ("NoFile", false), ("NoPiece", true), ("NoMoment", false), ("NoHolder", false), ("Busy", false), ("NoRoom", false), ("Held", false), ("Broken", false), ("Undone", false), ("OtherCut", false), ("NoText", false), ("NoRow", false), ("NoRun", false)] : List (Str × Bool))[i]? = some p -> PySem.W.kitOne K (.ref (He.ga K p.1)) (.ref (He.ga K "NoPiece")) = some p.2
 xd_NoMoment : ∀ (i : Nat) (p : Str × Bool), ([("Wrong", false), ("There", false), ("TooMany", false), ("NoBase", false), ("NoFit", false), ("Unlike", false), ("NoLog", false), ("NoFile", false), ("NoPiece", false), ("NoMoment", true), ("NoHolder", false), ("Busy", false), ("NoRoom", false), ("Held", false), ("Broken", false), ("Undone", false), ("OtherCut", false), ("NoText", false), ("NoRow", false), ("NoRun", false)] : List (Str × Bool))[i]? = some p -> PySem.W.kitOne K (.ref (He.ga K p.1)) (.ref (He.ga K "NoMoment")) = some p.2
 xd_NoHolder : ∀ (i : Nat) (p : Str × Bool), ([("Wrong", false), ("There", false), ("TooMany", false), ("NoBase", false), ("NoFit", false), ("Unlike", false), ("NoLog", false), ("NoFile", false), ("NoPiece", false), ("NoMoment", false), ("NoHolder", true), ("Busy", false), ("NoRoom", false), ("Held", false), ("Broken", false), ("Undone", false), ("OtherCut", false), ("NoText", false), ("NoRow", false), ("NoRun", false)] : List (Str × Bool))[i]? = some p -> PySem.W.kitOne K (.ref (He.ga K p.1)) (.ref (He.ga K "NoHolder")) = some p.2
 xd_Busy : ∀ (i : Nat) (p : Str × Bool), ([("Wrong", false), ("There", false), ("TooMany", false), ("NoBase", false), ("NoFit", false), ("Unlike", false), ("NoLog", false), ("NoFile", false), ("NoPiece", false), ("NoMoment", false), ("NoHolder", false), ("Busy", true), ("NoRoom", false), ("Held", false), ("Broken", false), ("Undone", false), ("OtherCut", false), ("NoText", false), ("NoRow", false), ("NoRun", false)] : List (Str × Bool))[i]? = some p -> PySem.W.kitOne K (.ref (He.ga K p.1)) (.ref (He.ga K "Busy")) = some p.2
 xd_NoRoom : ∀ (i : Nat) (p : Str × Bool), ([("Wrong", false), ("There", false), ("TooMany", false), ("NoBase", false), ("NoFit", false), ("Unlike", false), ("NoLog", false), ("NoFile", false), ("NoPiece", false), ("NoMoment", false), ("NoHolder", false), ("Busy", false), ("NoRoom", true), ("Held", false), ("Broken", false), ("Undone", false), ("OtherCut", false), ("NoText", false), ("NoRow", false), ("NoRun", false)] : List (Str × Bool))[i]? = some p -> PySem.W.kitOne K (.ref (He.ga K p.1)) (.ref (He.ga K "NoRoom")) = some p.2
 xd_Held : ∀ (i : Nat) (p : Str × Bool), ([("Wrong", false), ("There", false), ("TooMany", false), ("NoBase", false), ("NoFit", false), ("Unlike", false), ("NoLog", false), ("NoFile", false), ("NoPiece", false), ("NoMoment", false), ("NoHolder", false), ("Busy", false), ("NoRoom", false), ("Held", true), ("Broken", false), ("Undone", false), ("OtherCut", false), ("NoText", false), ("NoRow", false), ("NoRun", false)] : List (Str × Bool))[i]? = some p -> PySem.W.kitOne K (.ref (He.ga K p.1)) (.ref (He.ga K "Held")) = some p.2
 xd_Broken : ∀ (i : Nat) (p : Str × Bool), ([("Wrong", false), ("There", false), ("TooMany", false), ("NoBase", false), ("NoFit", false), ("Unlike", false), ("NoLog", false), ("NoFile", false), ("NoPiece", false), ("NoMoment", false), ("NoHolder", false), ("Busy", false), ("NoRoom", false), ("Held", false), ("Broken", true), ("Undone", false), ("OtherCut", false), ("NoText", false), ("NoRow", false), ("NoRun", false)] : List (Str × Bool))[i]? = some p -> PySem.W.kitOne K (.ref (He.ga K p.1)) (.ref (He.ga K "Broken")) = some p.2
 xd_Undone : ∀ (i : Nat) (p : Str × Bool), ([("Wrong", false), ("There", false), ("TooMany", false), ("NoBase", false), ("NoFit", false), ("Unlike", false), ("NoLog", false), ("NoFile", false), ("NoPiece", false), ("NoMoment", false), ("NoHolder", false), ("Busy", false), ("NoRoom", false), ("Held", false), ("Broken", false), ("Undone", true), ("OtherCut", false), ("NoText", false), ("NoRow", false), ("NoRun", false)] : List (Str × Bool))[i]? = some p -> PySem.W.kitOne K (.ref (He.ga K p.1)) (.ref (He.ga K "Undone")) = some p.2
 xd_OtherCut : ∀ (i : Nat) (p : Str × Bool), ([("Wrong", false), ("There", false), ("TooMany", false), ("NoBase", false), ("NoFit", false), ("Unlike", false), ("NoLog", false), ("NoFile", false), ("NoPiece", false), ("NoMoment", false), ("NoHolder", false), ("Busy", false), ("NoRoom", false), ("Held", false), ("Broken", false), ("Undone", false), ("OtherCut", true), ("NoText", false), ("NoRow", false), ("NoRun", false)] : List (Str × Bool))[i]? = some p -> PySem.W.kitOne K (.ref (He.ga K p.1)) (.ref (He.ga K "OtherCut")) = some p.2
 xd_NoText : ∀ (i : Nat) (p : Str × Bool), ([("Wrong", false), ("There", false), ("TooMany", false), ("NoBase", false), ("NoFit", false), ("Unlike", false), ("NoLog", false), ("NoFile", false), ("NoPiece", false), ("NoMoment", false), ("NoHolder", false), ("Busy", false), ("NoRoom", false), ("Held", false), ("Broken", false), ("Undone", false), ("OtherCut", false), ("NoText", true), ("NoRow", false), ("NoRun", false)] : List (Str × Bool))[i]? = some p -> PySem.W.kitOne K (.ref (He.ga K p.1)) (.ref (He.ga K "NoText")) = some p.2
 xd_NoRow : ∀ (i : Nat) (p : Str × Bool), ([("Wrong", false), ("There", false), ("TooMany", false), ("NoBase", false), ("NoFit", false), ("Unlike", false), ("NoLog", false), ("NoFile", false), ("NoPiece", false), ("NoMoment", false), ("NoHolder", false), ("Busy", false), ("NoRoom", false), ("Held", false), ("Broken", false), ("Undone", false), ("OtherCut", false), ("NoText", false), ("NoRow", true), ("NoRun", false)] : List (Str × Bool))[i]? = some p -> PySem.W.kitOne K (.ref (He.ga K p.1)) (.ref (He.ga K "NoRow")) = some p.2
 xd_NoRun : ∀ (i : Nat) (p : Str × Bool), ([("Wrong", false), ("There", false), ("TooMany", false), ("NoBase", false), ("NoFit", false), ("Unlike", false), ("NoLog", false), ("NoFile", false), ("NoPiece", false), ("NoMoment", false), ("NoHolder", false), ("Busy", false), ("NoRoom", false), ("Held", false), ("Broken", false), ("Undone", false), ("OtherCut", false), ("NoText", false), ("NoRow", false), ("NoRun", true)] : List (Str × Bool))[i]? = some p -> PySem.W.kitOne K (.ref (He.ga K p.1)) (.ref (He.ga K "NoRun")) = some p.2
 xd_StoreError : ∀ (i : Nat) (p : Str × Bool), ([("Wrong", true), ("There", true), ("TooMany", true), ("NoBase", true), ("NoFit", true), ("Unlike", true), ("NoLog", true), ("NoFile", false), ("NoPiece", false), ("NoMoment", false), ("NoHolder", false), ("Busy", false), ("NoRoom", false), ("Held", false), ("Broken", false), ("Undone", false), ("OtherCut", true), ("NoText", true), ("NoRow", true), ("NoRun", false)] : List (Str × Bool))[i]? = some p -> PySem.W.kitOne K (.ref (He.ga K p.1)) (.ref (He.ga K "StoreError")) = some p.2
 xd_Missing : ∀ (i : Nat) (p : Str × Bool), ([("Wrong", false), ("There", false), ("TooMany", false), ("NoBase", false), ("NoFit", false), ("Unlike", false), ("NoLog", false), ("NoFile", true), ("NoPiece", true), ("NoMoment", true), ("NoHolder", true), ("Busy", false), ("NoRoom", false), ("Held", false), ("Broken", false), ("Undone", false), ("OtherCut", false), ("NoText", false), ("NoRow", false), ("NoRun", true)] : List (Str × Bool))[i]? = some p -> PySem.W.kitOne K (.ref (He.ga K p.1)) (.ref (He.ga K "Missing")) = some p.2
 xd_Halted : ∀ (i : Nat) (p : Str × Bool), ([("Wrong", false), ("There", false), ("TooMany", false), ("NoBase", false), ("NoFit", false), ("Unlike", false), ("NoLog", false), ("NoFile", false), ("NoPiece", false), ("NoMoment", false), ("NoHolder", false), ("Busy", true), ("NoRoom", true), ("Held", true), ("Broken", true), ("Undone", true), ("OtherCut", false), ("NoText", false), ("NoRow", false), ("NoRun", false)] : List (Str × Bool))[i]? = some p -> PySem.W.kitOne K (.ref (He.ga K p.1)) (.ref (He.ga K "Halted")) = some p.2
 xd_ValueError : ∀ (i : Nat) (p : Str × Bool), ([("Wrong", true), ("There", true), ("TooMany", true), ("NoBase", true), ("NoFit", true), ("Unlike", true), ("NoLog", true), ("NoFile", false), ("NoPiece", false), ("NoMoment", false), ("NoHolder", false), ("Busy", false), ("NoRoom", false), ("Held", false), ("Broken", false), ("Undone", false), ("OtherCut", true), ("NoText", true), ("NoRow", true), ("NoRun", false)] : List (Str × Bool))[i]? = some p -> PySem.W.kitOne K (.ref (He.ga K p.1)) (.type "ValueError") = some p.2
 xd_LookupError : ∀ (i : Nat) (p : Str × Bool), ([("Wrong", false), ("There", false), ("TooMany", false), ("NoBase", false), ("NoFit", false), ("Unlike", false), ("NoLog", false), ("NoFile", true), ("NoPiece", true), ("NoMoment", true), ("NoHolder", true), ("Busy", false), ("NoRoom", false), ("Held", false), ("Broken", false), ("Undone", false), ("OtherCut", false), ("NoText", false), ("NoRow", false), ("NoRun", true)] : List (Str × Bool))[i]? = some p -> PySem.W.kitOne K (.ref (He.ga K p.1)) (.type "LookupError") = some p.2
 xd_RuntimeError : ∀ (i : Nat) (p : Str × Bool), ([("Wrong", false), ("There", false), ("TooMany", false), ("NoBase", false), ("NoFit", false), ("Unlike", false), ("NoLog", false), ("NoFile", false), ("NoPiece", false), ("NoMoment", false), ("NoHolder", false), ("Busy", true), ("NoRoom", true), ("Held", true), ("Broken", true), ("Undone", true), ("OtherCut", false), ("NoText", false), ("NoRow", false), ("NoRun", false)] : List (Str × Bool))[i]? = some p -> PySem.W.kitOne K (.ref (He.ga K p.1)) (.type "RuntimeError") = some p.2
inductive Ex where
 | Wrong (w : PyData)
 | There (w : PyData)
 | TooMany (w : PyData)
 | NoBase (w : PyData)
 | NoFit (w : PyData)
 | Unlike (w : PyData)
 | NoLog (w : PyData)
 | NoFile (w : PyData)
 | NoPiece (w : PyData)
 | NoMoment (w : PyData)
 | NoHolder (w : PyData)
 | Busy (w : PyData)
 | NoRoom (w : PyData)
 | Held (w : PyData)
 | Broken (w : PyData)
 | Undone (w : PyData)
 | OtherCut
 | NoText
 | NoRow
 | NoRun
def Ex.cls : Ex -> Str
 | .Wrong _ => "Wrong"
 | .There _ => "There"
 | .TooMany _ => "TooMany"
 | .NoBase _ => "NoBase"
 | .NoFit _ => "NoFit"
 | .Unlike _ => "Unlike"
 | .NoLog _ => "NoLog"
 | .NoFile _ => "NoFile"
 | .NoPiece _ => "NoPiece"
 | .NoMoment _ => "NoMoment"
 | .NoHolder _ => "NoHolder"
 | .Busy _ => "Busy"
 | .NoRoom _ => "NoRoom"
 | .Held _ => "Held"
 | .Broken _ => "Broken"
 | .Undone _ => "Undone"
 | .OtherCut => "OtherCut"
 | .NoText => "NoText"
 | .NoRow => "NoRow"
 | .NoRun => "NoRun"
def Ex.val : Ex -> PyData
 | .Wrong w => w
 | .There w => w
 | .TooMany w => w
 | .NoBase w => w
 | .NoFit w => w
 | .Unlike w => w
 | .NoLog w => w
 | .NoFile w => w
 | .NoPiece w => w
 | .NoMoment w => w
 | .NoHolder w => w
 | .Busy w => w
 | .NoRoom w => w
 | .Held w => w
 | .Broken w => w
 | .Undone w => w
 | .OtherCut => .none
 | .NoText => .none
 | .NoRow => .none
 | .NoRun => .none
def Ex.rs : Ex -> Addr -> V -> Res
 | .Wrong _, d, v => pt d (.xd [("at", v)])
 | .There _, d, v => pt d (.xd [("thing", v)])
 | .TooMany _, d, v => pt d (.xd [("most", v)])
 | .NoBase _, d, v => pt d (.xd [("time", v)])
 | .NoFit _, d, v => pt d (.xd [("at", v)])
 | .Unlike _, d, v => pt d (.xd [("seal", v)])
 | .NoLog _, d, v => pt d (.xd [("at", v)])
 | .NoFile _, d, v => pt d (.xd [("name", v)])
 | .NoPiece _, d, v => pt d (.xd [("seal", v)])
 | .NoMoment _, d, v => pt d (.xd [("time", v)])
 | .NoHolder _, d, v => pt d (.xd [("name", v)])
 | .Busy _, d, v => pt d (.xd [("why", v)])
 | .NoRoom _, d, v => pt d (.xd [("room", v)])
 | .Held _, d, v => pt d (.xd [("holders", v)])
 | .Broken _, d, v => pt d (.xd [("seal", v)])
 | .Undone _, d, v => pt d (.xd [("names", v)])
 | .OtherCut, d, v => emR
 | .NoText, d, v => emR
 | .NoRow, d, v => emR
 | .NoRun, d, v => emR
abbrev eXv (x : Ex) : Ex := x
abbrev eXt (x : Int × Ex × PyData) : Int × Ex × PyData := x
def Ex.fo : Ex -> Option (Str × PyData)
 | .Wrong w => some ("at", w)
 | .There w => some ("thing", w)
 | .TooMany w => some ("most", w)
 | .NoBase w => some ("time", w)
 | .NoFit w => some ("at", w)
 | .Unlike w => some ("seal", w)
 | .NoLog w => some ("at", w)
 | .NoFile w => some ("name", w)
 | .NoPiece w => some ("seal", w)
 | .NoMoment w => some ("time", w)
 | .NoHolder w => some ("name", w)
 | .Busy w => some ("why", w)
 | .NoRoom w => some ("room", w)
 | .Held w => some ("holders", w)
 | .Broken w => some ("seal", w)
 | .Undone w => some ("names", w)
 | .OtherCut => none
 | .NoText => none
 | .NoRow => none
 | .NoRun => none
def xqP (K : Fr) : PV Ex := ⟨λ F v x => XqF K F v (He.ga K x.cls) x.fo, λ _ _ _ _ e h => XqF_ext e h⟩
def xqR (K : Fr) (v : V) (x : Ex) : Res := pvR (xqP K) v x
abbrev tqP (K : Fr) : PV (Int × Ex × PyData) := PV.t3 K (PV.dq K eI) (xqP K) (PV.dq K eA)
def tqR (K : Fr) (v : V) (x : Int × Ex × PyData) : Res := pvR (tqP K) v x
theorem xc_ok {K : Fr} (T : TxC K) : ∀ x : Ex, ExcC K (He.ga K x.cls)
 | .Wrong _ => T.xc_Wrong
 | .There _ => T.xc_There
 | .TooMany _ => T.xc_TooMany
 | .NoBase _ => T.xc_NoBase
 | .NoFit _ => T.xc_NoFit
 | .Unlike _ => T.xc_Unlike
 | .NoLog _ => T.xc_NoLog
 | .NoFile _ => T.xc_NoFile
 | .NoPiece _ => T.xc_NoPiece
 | .NoMoment _ => T.xc_NoMoment
 | .NoHolder _ => T.xc_NoHolder
 | .Busy _ => T.xc_Busy
 | .NoRoom _ => T.xc_NoRoom
 | .Held _ => T.xc_Held
 | .Broken _ => T.xc_Broken
 | .Undone _ => T.xc_Undone
 | .OtherCut => T.xc_OtherCut
 | .NoText => T.xc_NoText
 | .NoRow => T.xc_NoRow
 | .NoRun => T.xc_NoRun
def Ex.isa_Wrong : Ex -> Bool
 | .Wrong _ => true
 | .There _ => false
 | .TooMany _ => false
 | .NoBase _ => false
 | .NoFit _ => false
 | .Unlike _ => false
 | .NoLog _ => false
 | .NoFile _ => false
 | .NoPiece _ => false
 | .NoMoment _ => false
 | .NoHolder _ => false
 | .Busy _ => false
 | .NoRoom _ => false
 | .Held _ => false
 | .Broken _ => false
 | .Undone _ => false
 | .OtherCut => false
 | .NoText => false
 | .NoRow => false
 | .NoRun => false
theorem isa_Wrong_ok {K : Fr} (T : TxC K) : ∀ x : Ex, PySem.W.kitOne K (.ref (He.ga K x.cls)) (.ref (He.ga K "Wrong")) = some x.isa_Wrong
 | .Wrong _ => T.xd_Wrong 0 ("Wrong", true) rfl
 | .There _ => T.xd_Wrong 1 ("There", false) rfl
 | .TooMany _ => T.xd_Wrong 2 ("TooMany", false) rfl
 | .NoBase _ => T.xd_Wrong 3 ("NoBase", false) rfl
 | .NoFit _ => T.xd_Wrong 4 ("NoFit", false) rfl
 | .Unlike _ => T.xd_Wrong 5 ("Unlike", false) rfl
 | .NoLog _ => T.xd_Wrong 6 ("NoLog", false) rfl
 | .NoFile _ => T.xd_Wrong 7 ("NoFile", false) rfl
 | .NoPiece _ => T.xd_Wrong 8 ("NoPiece", false) rfl
 | .NoMoment _ => T.xd_Wrong 9 ("NoMoment", false) rfl
 | .NoHolder _ => T.xd_Wrong 10 ("NoHolder", false) rfl
 | .Busy _ => T.xd_Wrong 11 ("Busy", false) rfl
 | .NoRoom _ => T.xd_Wrong 12 ("NoRoom", false) rfl
 | .Held _ => T.xd_Wrong 13 ("Held", false) rfl
 | .Broken _ => T.xd_Wrong 14 ("Broken", false) rfl
 | .Undone _ => T.xd_Wrong 15 ("Undone", false) rfl
 | .OtherCut => T.xd_Wrong 16 ("OtherCut", false) rfl
 | .NoText => T.xd_Wrong 17 ("NoText", false) rfl
 | .NoRow => T.xd_Wrong 18 ("NoRow", false) rfl
 | .NoRun => T.xd_Wrong 19 ("NoRun", false) rfl
def Ex.isa_There : Ex -> Bool
 | .Wrong _ => false
 | .There _ => true
 | .TooMany _ => false
 | .NoBase _ => false
 | .NoFit _ => false
 | .Unlike _ => false
 | .NoLog _ => false
 | .NoFile _ => false
 | .NoPiece _ => false
 | .NoMoment _ => false
 | .NoHolder _ => false
 | .Busy _ => false
 | .NoRoom _ => false
 | .Held _ => false
 | .Broken _ => false
 | .Undone _ => false
 | .OtherCut => false
 | .NoText => false
 | .NoRow => false
 | .NoRun => false
theorem isa_There_ok {K : Fr} (T : TxC K) : ∀ x : Ex, PySem.W.kitOne K (.ref (He.ga K x.cls)) (.ref (He.ga K "There")) = some x.isa_There
 | .Wrong _ => T.xd_There 0 ("Wrong", false) rfl
 | .There _ => T.xd_There 1 ("There", true) rfl
 | .TooMany _ => T.xd_There 2 ("TooMany", false) rfl
 | .NoBase _ => T.xd_There 3 ("NoBase", false) rfl
 | .NoFit _ => T.xd_There 4 ("NoFit", false) rfl
 | .Unlike _ => T.xd_There 5 ("Unlike", false) rfl
 | .NoLog _ => T.xd_There 6 ("NoLog", false) rfl
 | .NoFile _ => T.xd_There 7 ("NoFile", false) rfl
 | .NoPiece _ => T.xd_There 8 ("NoPiece", false) rfl
 | .NoMoment _ => T.xd_There 9 ("NoMoment", false) rfl
 | .NoHolder _ => T.xd_There 10 ("NoHolder", false) rfl
 | .Busy _ => T.xd_There 11 ("Busy", false) rfl
 | .NoRoom _ => T.xd_There 12 ("NoRoom", false) rfl
 | .Held _ => T.xd_There 13 ("Held", false) rfl
 | .Broken _ => T.xd_There 14 ("Broken", false) rfl
 | .Undone _ => T.xd_There 15 ("Undone", false) rfl
 | .OtherCut => T.xd_There 16 ("OtherCut", false) rfl
 | .NoText => T.xd_There 17 ("NoText", false) rfl
 | .NoRow => T.xd_There 18 ("NoRow", false) rfl
 | .NoRun => T.xd_There 19 ("NoRun", false) rfl
def Ex.isa_TooMany : Ex -> Bool
 | .Wrong _ => false
 | .There _ => false
 | .TooMany _ => true
 | .NoBase _ => false
 | .NoFit _ => false
 | .Unlike _ => false
 | .NoLog _ => false
 | .NoFile _ => false
 | .NoPiece _ => false
 | .NoMoment _ => false
 | .NoHolder _ => false
 | .Busy _ => false
 | .NoRoom _ => false
 | .Held _ => false
 | .Broken _ => false
 | .Undone _ => false
 | .OtherCut => false
 | .NoText => false
 | .NoRow => false
 | .NoRun => false
theorem isa_TooMany_ok {K : Fr} (T : TxC K) : ∀ x : Ex, PySem.W.kitOne K (.ref (He.ga K x.cls)) (.ref (He.ga K "TooMany")) = some x.isa_TooMany
 | .Wrong _ => T.xd_TooMany 0 ("Wrong", false) rfl
 | .There _ => T.xd_TooMany 1 ("There", false) rfl
 | .TooMany _ => T.xd_TooMany 2 ("TooMany", true) rfl
 | .NoBase _ => T.xd_TooMany 3 ("NoBase", false) rfl
 | .NoFit _ => T.xd_TooMany 4 ("NoFit", false) rfl
 | .Unlike _ => T.xd_TooMany 5 ("Unlike", false) rfl
 | .NoLog _ => T.xd_TooMany 6 ("NoLog", false) rfl
 | .NoFile _ => T.xd_TooMany 7 ("NoFile", false) rfl
 | .NoPiece _ => T.xd_TooMany 8 ("NoPiece", false) rfl
 | .NoMoment _ => T.xd_TooMany 9 ("NoMoment", false) rfl
 | .NoHolder _ => T.xd_TooMany 10 ("NoHolder", false) rfl
 | .Busy _ => T.xd_TooMany 11 ("Busy", false) rfl
 | .NoRoom _ => T.xd_TooMany 12 ("NoRoom", false) rfl
 | .Held _ => T.xd_TooMany 13 ("Held", false) rfl
 | .Broken _ => T.xd_TooMany 14 ("Broken", false) rfl
 | .Undone _ => T.xd_TooMany 15 ("Undone", false) rfl
 | .OtherCut => T.xd_TooMany 16 ("OtherCut", false) rfl
 | .NoText => T.xd_TooMany 17 ("NoText", false) rfl
 | .NoRow => T.xd_TooMany 18 ("NoRow", false) rfl
 | .NoRun => T.xd_TooMany 19 ("NoRun", false) rfl
def Ex.isa_NoBase : Ex -> Bool
 | .Wrong _ => false
 | .There _ => false
 | .TooMany _ => false
 | .NoBase _ => true
 | .NoFit _ => false
 | .Unlike _ => false
 | .NoLog _ => false
 | .NoFile _ => false
 | .NoPiece _ => false
 | .NoMoment _ => false
 | .NoHolder _ => false
 | .Busy _ => false
 | .NoRoom _ => false
 | .Held _ => false
 | .Broken _ => false
 | .Undone _ => false
 | .OtherCut => false
 | .NoText => false
 | .NoRow => false
 | .NoRun => false
theorem isa_NoBase_ok {K : Fr} (T : TxC K) : ∀ x : Ex, PySem.W.kitOne K (.ref (He.ga K x.cls)) (.ref (He.ga K "NoBase")) = some x.isa_NoBase
 | .Wrong _ => T.xd_NoBase 0 ("Wrong", false) rfl
 | .There _ => T.xd_NoBase 1 ("There", false) rfl
 | .TooMany _ => T.xd_NoBase 2 ("TooMany", false) rfl
 | .NoBase _ => T.xd_NoBase 3 ("NoBase", true) rfl
 | .NoFit _ => T.xd_NoBase 4 ("NoFit", false) rfl
 | .Unlike _ => T.xd_NoBase 5 ("Unlike", false) rfl
 | .NoLog _ => T.xd_NoBase 6 ("NoLog", false) rfl
 | .NoFile _ => T.xd_NoBase 7 ("NoFile", false) rfl
 | .NoPiece _ => T.xd_NoBase 8 ("NoPiece", false) rfl
 | .NoMoment _ => T.xd_NoBase 9 ("NoMoment", false) rfl
 | .NoHolder _ => T.xd_NoBase 10 ("NoHolder", false) rfl
 | .Busy _ => T.xd_NoBase 11 ("Busy", false) rfl
 | .NoRoom _ => T.xd_NoBase 12 ("NoRoom", false) rfl
 | .Held _ => T.xd_NoBase 13 ("Held", false) rfl
 | .Broken _ => T.xd_NoBase 14 ("Broken", false) rfl
 | .Undone _ => T.xd_NoBase 15 ("Undone", false) rfl
 | .OtherCut => T.xd_NoBase 16 ("OtherCut", false) rfl
 | .NoText => T.xd_NoBase 17 ("NoText", false) rfl
 | .NoRow => T.xd_NoBase 18 ("NoRow", false) rfl
 | .NoRun => T.xd_NoBase 19 ("NoRun", false) rfl
def Ex.isa_NoFit : Ex -> Bool
 | .Wrong _ => false
 | .There _ => false
 | .TooMany _ => false
 | .NoBase _ => false
 | .NoFit _ => true
 | .Unlike _ => false
 | .NoLog _ => false
 | .NoFile _ => false
 | .NoPiece _ => false
 | .NoMoment _ => false
 | .NoHolder _ => false
 | .Busy _ => false
 | .NoRoom _ => false
 | .Held _ => false
 | .Broken _ => false
 | .Undone _ => false
 | .OtherCut => false
 | .NoText => false
 | .NoRow => false
 | .NoRun => false
theorem isa_NoFit_ok {K : Fr} (T : TxC K) : ∀ x : Ex, PySem.W.kitOne K (.ref (He.ga K x.cls)) (.ref (He.ga K "NoFit")) = some x.isa_NoFit
 | .Wrong _ => T.xd_NoFit 0 ("Wrong", false) rfl
 | .There _ => T.xd_NoFit 1 ("There", false) rfl
 | .TooMany _ => T.xd_NoFit 2 ("TooMany", false) rfl
 | .NoBase _ => T.xd_NoFit 3 ("NoBase", false) rfl
 | .NoFit _ => T.xd_NoFit 4 ("NoFit", true) rfl
 | .Unlike _ => T.xd_NoFit 5 ("Unlike", false) rfl
 | .NoLog _ => T.xd_NoFit 6 ("NoLog", false) rfl
 | .NoFile _ => T.xd_NoFit 7 ("NoFile", false) rfl
 | .NoPiece _ => T.xd_NoFit 8 ("NoPiece", false) rfl
 | .NoMoment _ => T.xd_NoFit 9 ("NoMoment", false) rfl
 | .NoHolder _ => T.xd_NoFit 10 ("NoHolder", false) rfl
 | .Busy _ => T.xd_NoFit 11 ("Busy", false) rfl
 | .NoRoom _ => T.xd_NoFit 12 ("NoRoom", false) rfl
 | .Held _ => T.xd_NoFit 13 ("Held", false) rfl
 | .Broken _ => T.xd_NoFit 14 ("Broken", false) rfl
 | .Undone _ => T.xd_NoFit 15 ("Undone", false) rfl
 | .OtherCut => T.xd_NoFit 16 ("OtherCut", false) rfl
 | .NoText => T.xd_NoFit 17 ("NoText", false) rfl
 | .NoRow => T.xd_NoFit 18 ("NoRow", false) rfl
 | .NoRun => T.xd_NoFit 19 ("NoRun", false) rfl
def Ex.isa_Unlike : Ex -> Bool
 | .Wrong _ => false
 | .There _ => false
 | .TooMany _ => false
 | .NoBase _ => false
 | .NoFit _ => false
 | .Unlike _ => true
 | .NoLog _ => false
 | .NoFile _ => false
 | .NoPiece _ => false
 | .NoMoment _ => false
 | .NoHolder _ => false
 | .Busy _ => false
 | .NoRoom _ => false
 | .Held _ => false
 | .Broken _ => false
 | .Undone _ => false
 | .OtherCut => false
 | .NoText => false
 | .NoRow => false
 | .NoRun => false
theorem isa_Unlike_ok {K : Fr} (T : TxC K) : ∀ x : Ex, PySem.W.kitOne K (.ref (He.ga K x.cls)) (.ref (He.ga K "Unlike")) = some x.isa_Unlike
 | .Wrong _ => T.xd_Unlike 0 ("Wrong", false) rfl
 | .There _ => T.xd_Unlike 1 ("There", false) rfl
 | .TooMany _ => T.xd_Unlike 2 ("TooMany", false) rfl
 | .NoBase _ => T.xd_Unlike 3 ("NoBase", false) rfl
 | .NoFit _ => T.xd_Unlike 4 ("NoFit", false) rfl
 | .Unlike _ => T.xd_Unlike 5 ("Unlike", true) rfl
 | .NoLog _ => T.xd_Unlike 6 ("NoLog", false) rfl
 | .NoFile _ => T.xd_Unlike 7 ("NoFile", false) rfl
 | .NoPiece _ => T.xd_Unlike 8 ("NoPiece", false) rfl
 | .NoMoment _ => T.xd_Unlike 9 ("NoMoment", false) rfl
 | .NoHolder _ => T.xd_Unlike 10 ("NoHolder", false) rfl
 | .Busy _ => T.xd_Unlike 11 ("Busy", false) rfl
 | .NoRoom _ => T.xd_Unlike 12 ("NoRoom", false) rfl
 | .Held _ => T.xd_Unlike 13 ("Held", false) rfl
 | .Broken _ => T.xd_Unlike 14 ("Broken", false) rfl
 | .Undone _ => T.xd_Unlike 15 ("Undone", false) rfl
 | .OtherCut => T.xd_Unlike 16 ("OtherCut", false) rfl
 | .NoText => T.xd_Unlike 17 ("NoText", false) rfl
 | .NoRow => T.xd_Unlike 18 ("NoRow", false) rfl
 | .NoRun => T.xd_Unlike 19 ("NoRun", false) rfl
def Ex.isa_NoLog : Ex -> Bool
 | .Wrong _ => false
 | .There _ => false
 | .TooMany _ => false
 | .NoBase _ => false
 | .NoFit _ => false
 | .Unlike _ => false
 | .NoLog _ => true
 | .NoFile _ => false
 | .NoPiece _ => false
 | .NoMoment _ => false
 | .NoHolder _ => false
 | .Busy _ => false
 | .NoRoom _ => false
 | .Held _ => false
 | .Broken _ => false
 | .Undone _ => false
 | .OtherCut => false
 | .NoText => false
 | .NoRow => false
 | .NoRun => false
theorem isa_NoLog_ok {K : Fr} (T : TxC K) : ∀ x : Ex, PySem.W.kitOne K (.ref (He.ga K x.cls)) (.ref (He.ga K "NoLog")) = some x.isa_NoLog
 | .Wrong _ => T.xd_NoLog 0 ("Wrong", false) rfl
 | .There _ => T.xd_NoLog 1 ("There", false) rfl
 | .TooMany _ => T.xd_NoLog 2 ("TooMany", false) rfl
 | .NoBase _ => T.xd_NoLog 3 ("NoBase", false) rfl
 | .NoFit _ => T.xd_NoLog 4 ("NoFit", false) rfl
 | .Unlike _ => T.xd_NoLog 5 ("Unlike", false) rfl
 | .NoLog _ => T.xd_NoLog 6 ("NoLog", true) rfl
 | .NoFile _ => T.xd_NoLog 7 ("NoFile", false) rfl
 | .NoPiece _ => T.xd_NoLog 8 ("NoPiece", false) rfl
 | .NoMoment _ => T.xd_NoLog 9 ("NoMoment", false) rfl
 | .NoHolder _ => T.xd_NoLog 10 ("NoHolder", false) rfl
 | .Busy _ => T.xd_NoLog 11 ("Busy", false) rfl
 | .NoRoom _ => T.xd_NoLog 12 ("NoRoom", false) rfl
 | .Held _ => T.xd_NoLog 13 ("Held", false) rfl
 | .Broken _ => T.xd_NoLog 14 ("Broken", false) rfl
 | .Undone _ => T.xd_NoLog 15 ("Undone", false) rfl
 | .OtherCut => T.xd_NoLog 16 ("OtherCut", false) rfl
 | .NoText => T.xd_NoLog 17 ("NoText", false) rfl
 | .NoRow => T.xd_NoLog 18 ("NoRow", false) rfl
 | .NoRun => T.xd_NoLog 19 ("NoRun", false) rfl
def Ex.isa_NoFile : Ex -> Bool
 | .Wrong _ => false
 | .There _ => false
 | .TooMany _ => false
 | .NoBase _ => false
 | .NoFit _ => false
 | .Unlike _ => false
 | .NoLog _ => false
 | .NoFile _ => true
 | .NoPiece _ => false
 | .NoMoment _ => false
 | .NoHolder _ => false
 | .Busy _ => false
 | .NoRoom _ => false
 | .Held _ => false
 | .Broken _ => false
 | .Undone _ => false
 | .OtherCut => false
 | .NoText => false
 | .NoRow => false
 | .NoRun => false
theorem isa_NoFile_ok {K : Fr} (T : TxC K) : ∀ x : Ex, PySem.W.kitOne K (.ref (He.ga K x.cls)) (.ref (He.ga K "NoFile")) = some x.isa_NoFile
 | .Wrong _ => T.xd_NoFile 0 ("Wrong", false) rfl
 | .There _ => T.xd_NoFile 1 ("There", false) rfl
 | .TooMany _ => T.xd_NoFile 2 ("TooMany", false) rfl
 | .NoBase _ => T.xd_NoFile 3 ("NoBase", false) rfl
 | .NoFit _ => T.xd_NoFile 4 ("NoFit", false) rfl
 | .Unlike _ => T.xd_NoFile 5 ("Unlike", false) rfl
 | .NoLog _ => T.xd_NoFile 6 ("NoLog", false) rfl
 | .NoFile _ => T.xd_NoFile 7 ("NoFile", true) rfl
 | .NoPiece _ => T.xd_NoFile 8 ("NoPiece", false) rfl
 | .NoMoment _ => T.xd_NoFile 9 ("NoMoment", false) rfl
 | .NoHolder _ => T.xd_NoFile 10 ("NoHolder", false) rfl
 | .Busy _ => T.xd_NoFile 11 ("Busy", false) rfl
 | .NoRoom _ => T.xd_NoFile 12 ("NoRoom", false) rfl
 | .Held _ => T.xd_NoFile 13 ("Held", false) rfl
 | .Broken _ => T.xd_NoFile 14 ("Broken", false) rfl
 | .Undone _ => T.xd_NoFile 15 ("Undone", false) rfl
 | .OtherCut => T.xd_NoFile 16 ("OtherCut", false) rfl
 | .NoText => T.xd_NoFile 17 ("NoText", false) rfl
 | .NoRow => T.xd_NoFile 18 ("NoRow", false) rfl
 | .NoRun => T.xd_NoFile 19 ("NoRun", false) rfl
def Ex.isa_NoPiece : Ex -> Bool
 | .Wrong _ => false
 | .There _ => false
 | .TooMany _ => false
 | .NoBase _ => false
 | .NoFit _ => false
 | .Unlike _ => false
 | .NoLog _ => false
 | .NoFile _ => false
 | .NoPiece _ => true
 | .NoMoment _ => false
 | .NoHolder _ => false
 | .Busy _ => false
 | .NoRoom _ => false
 | .Held _ => false
 | .Broken _ => false
 | .Undone _ => false
 | .OtherCut => false
 | .NoText => false
 | .NoRow => false
 | .NoRun => false
theorem isa_NoPiece_ok {K : Fr} (T : TxC K) : ∀ x : Ex, PySem.W.kitOne K (.ref (He.ga K x.cls)) (.ref (He.ga K "NoPiece")) = some x.isa_NoPiece
 | .Wrong _ => T.xd_NoPiece 0 ("Wrong", false) rfl
 | .There _ => T.xd_NoPiece 1 ("There", false) rfl
 | .TooMany _ => T.xd_NoPiece 2 ("TooMany", false) rfl
 | .NoBase _ => T.xd_NoPiece 3 ("NoBase", false) rfl
 | .NoFit _ => T.xd_NoPiece 4 ("NoFit", false) rfl
 | .Unlike _ => T.xd_NoPiece 5 ("Unlike", false) rfl
 | .NoLog _ => T.xd_NoPiece 6 ("NoLog", false) rfl
 | .NoFile _ => T.xd_NoPiece 7 ("NoFile", false) rfl
 | .NoPiece _ => T.xd_NoPiece 8 ("NoPiece", true) rfl
 | .NoMoment _ => T.xd_NoPiece 9 ("NoMoment", false) rfl
 | .NoHolder _ => T.xd_NoPiece 10 ("NoHolder", false) rfl
 | .Busy _ => T.xd_NoPiece 11 ("Busy", false) rfl
 | .NoRoom _ => T.xd_NoPiece 12 ("NoRoom", false) rfl
 | .Held _ => T.xd_NoPiece 13 ("Held", false) rfl
 | .Broken _ => T.xd_NoPiece 14 ("Broken", false) rfl
 | .Undone _ => T.xd_NoPiece 15 ("Undone", false) rfl
 | .OtherCut => T.xd_NoPiece 16 ("OtherCut", false) rfl
 | .NoText => T.xd_NoPiece 17 ("NoText", false) rfl
 | .NoRow => T.xd_NoPiece 18 ("NoRow", false) rfl
 | .NoRun => T.xd_NoPiece 19 ("NoRun", false) rfl
def Ex.isa_NoMoment : Ex -> Bool
 | .Wrong _ => false
 | .There _ => false
 | .TooMany _ => false
 | .NoBase _ => false
 | .NoFit _ => false
 | .Unlike _ => false
 | .NoLog _ => false
 | .NoFile _ => false
 | .NoPiece _ => false
 | .NoMoment _ => true
 | .NoHolder _ => false
 | .Busy _ => false
 | .NoRoom _ => false
 | .Held _ => false
 | .Broken _ => false
 | .Undone _ => false
 | .OtherCut => false
 | .NoText => false
 | .NoRow => false
 | .NoRun => false
theorem isa_NoMoment_ok {K : Fr} (T : TxC K) : ∀ x : Ex, PySem.W.kitOne K (.ref (He.ga K x.cls)) (.ref (He.ga K "NoMoment")) = some x.isa_NoMoment
 | .Wrong _ => T.xd_NoMoment 0 ("Wrong", false) rfl
 | .There _ => T.xd_NoMoment 1 ("There", false) rfl
 | .TooMany _ => T.xd_NoMoment 2 ("TooMany", false) rfl
 | .NoBase _ => T.xd_NoMoment 3 ("NoBase", false) rfl
 | .NoFit _ => T.xd_NoMoment 4 ("NoFit", false) rfl
 | .Unlike _ => T.xd_NoMoment 5 ("Unlike", false) rfl
 | .NoLog _ => T.xd_NoMoment 6 ("NoLog", false) rfl
 | .NoFile _ => T.xd_NoMoment 7 ("NoFile", false) rfl
 | .NoPiece _ => T.xd_NoMoment 8 ("NoPiece", false) rfl
 | .NoMoment _ => T.xd_NoMoment 9 ("NoMoment", true) rfl
 | .NoHolder _ => T.xd_NoMoment 10 ("NoHolder", false) rfl
 | .Busy _ => T.xd_NoMoment 11 ("Busy", false) rfl
 | .NoRoom _ => T.xd_NoMoment 12 ("NoRoom", false) rfl
 | .Held _ => T.xd_NoMoment 13 ("Held", false) rfl
 | .Broken _ => T.xd_NoMoment 14 ("Broken", false) rfl
 | .Undone _ => T.xd_NoMoment 15 ("Undone", false) rfl
 | .OtherCut => T.xd_NoMoment 16 ("OtherCut", false) rfl
 | .NoText => T.xd_NoMoment 17 ("NoText", false) rfl
 | .NoRow => T.xd_NoMoment 18 ("NoRow", false) rfl
 | .NoRun => T.xd_NoMoment 19 ("NoRun", false) rfl
def Ex.isa_NoHolder : Ex -> Bool
 | .Wrong _ => false
 | .There _ => false
 | .TooMany _ => false
 | .NoBase _ => false
 | .NoFit _ => false
 | .Unlike _ => false
 | .NoLog _ => false
 | .NoFile _ => false
 | .NoPiece _ => false
 | .NoMoment _ => false
 | .NoHolder _ => true
 | .Busy _ => false
 | .NoRoom _ => false
 | .Held _ => false
 | .Broken _ => false
 | .Undone _ => false
 | .OtherCut => false
 | .NoText => false
 | .NoRow => false
 | .NoRun => false
theorem isa_NoHolder_ok {K : Fr} (T : TxC K) : ∀ x : Ex, PySem.W.kitOne K (.ref (He.ga K x.cls)) (.ref (He.ga K "NoHolder")) = some x.isa_NoHolder
 | .Wrong _ => T.xd_NoHolder 0 ("Wrong", false) rfl
 | .There _ => T.xd_NoHolder 1 ("There", false) rfl
 | .TooMany _ => T.xd_NoHolder 2 ("TooMany", false) rfl
 | .NoBase _ => T.xd_NoHolder 3 ("NoBase", false) rfl
 | .NoFit _ => T.xd_NoHolder 4 ("NoFit", false) rfl
 | .Unlike _ => T.xd_NoHolder 5 ("Unlike", false) rfl
 | .NoLog _ => T.xd_NoHolder 6 ("NoLog", false) rfl
 | .NoFile _ => T.xd_NoHolder 7 ("NoFile", false) rfl
 | .NoPiece _ => T.xd_NoHolder 8 ("NoPiece", false) rfl
 | .NoMoment _ => T.xd_NoHolder 9 ("NoMoment", false) rfl
 | .NoHolder _ => T.xd_NoHolder 10 ("NoHolder", true) rfl
 | .Busy _ => T.xd_NoHolder 11 ("Busy", false) rfl
 | .NoRoom _ => T.xd_NoHolder 12 ("NoRoom", false) rfl
 | .Held _ => T.xd_NoHolder 13 ("Held", false) rfl
 | .Broken _ => T.xd_NoHolder 14 ("Broken", false) rfl
 | .Undone _ => T.xd_NoHolder 15 ("Undone", false) rfl
 | .OtherCut => T.xd_NoHolder 16 ("OtherCut", false) rfl
 | .NoText => T.xd_NoHolder 17 ("NoText", false) rfl
 | .NoRow => T.xd_NoHolder 18 ("NoRow", false) rfl
 | .NoRun => T.xd_NoHolder 19 ("NoRun", false) rfl
def Ex.isa_Busy : Ex -> Bool
 | .Wrong _ => false
 | .There _ => false
 | .TooMany _ => false
 | .NoBase _ => false
 | .NoFit _ => false
 | .Unlike _ => false
 | .NoLog _ => false
 | .NoFile _ => false
 | .NoPiece _ => false
 | .NoMoment _ => false
 | .NoHolder _ => false
 | .Busy _ => true
 | .NoRoom _ => false
 | .Held _ => false
 | .Broken _ => false
 | .Undone _ => false
 | .OtherCut => false
 | .NoText => false
 | .NoRow => false
 | .NoRun => false
theorem isa_Busy_ok {K : Fr} (T : TxC K) : ∀ x : Ex, PySem.W.kitOne K (.ref (He.ga K x.cls)) (.ref (He.ga K "Busy")) = some x.isa_Busy
 | .Wrong _ => T.xd_Busy 0 ("Wrong", false) rfl
 | .There _ => T.xd_Busy 1 ("There", false) rfl
 | .TooMany _ => T.xd_Busy 2 ("TooMany", false) rfl
 | .NoBase _ => T.xd_Busy 3 ("NoBase", false) rfl
 | .NoFit _ => T.xd_Busy 4 ("NoFit", false) rfl
 | .Unlike _ => T.xd_Busy 5 ("Unlike", false) rfl
 | .NoLog _ => T.xd_Busy 6 ("NoLog", false) rfl
 | .NoFile _ => T.xd_Busy 7 ("NoFile", false) rfl
 | .NoPiece _ => T.xd_Busy 8 ("NoPiece", false) rfl
 | .NoMoment _ => T.xd_Busy 9 ("NoMoment", false) rfl
 | .NoHolder _ => T.xd_Busy 10 ("NoHolder", false) rfl
 | .Busy _ => T.xd_Busy 11 ("Busy", true) rfl
 | .NoRoom _ => T.xd_Busy 12 ("NoRoom", false) rfl
 | .Held _ => T.xd_Busy 13 ("Held", false) rfl
 | .Broken _ => T.xd_Busy 14 ("Broken", false) rfl
 | .Undone _ => T.xd_Busy 15 ("Undone", false) rfl
 | .OtherCut => T.xd_Busy 16 ("OtherCut", false) rfl
 | .NoText => T.xd_Busy 17 ("NoText", false) rfl
 | .NoRow => T.xd_Busy 18 ("NoRow", false) rfl
 | .NoRun => T.xd_Busy 19 ("NoRun", false) rfl
def Ex.isa_NoRoom : Ex -> Bool
 | .Wrong _ => false
 | .There _ => false
 | .TooMany _ => false
 | .NoBase _ => false
 | .NoFit _ => false
 | .Unlike _ => false
 | .NoLog _ => false
 | .NoFile _ => false
 | .NoPiece _ => false
 | .NoMoment _ => false
 | .NoHolder _ => false
 | .Busy _ => false
 | .NoRoom _ => true
 | .Held _ => false
 | .Broken _ => false
 | .Undone _ => false
 | .OtherCut => false
 | .NoText => false
 | .NoRow => false
 | .NoRun => false
theorem isa_NoRoom_ok {K : Fr} (T : TxC K) : ∀ x : Ex, PySem.W.kitOne K (.ref (He.ga K x.cls)) (.ref (He.ga K "NoRoom")) = some x.isa_NoRoom
 | .Wrong _ => T.xd_NoRoom 0 ("Wrong", false) rfl
 | .There _ => T.xd_NoRoom 1 ("There", false) rfl
 | .TooMany _ => T.xd_NoRoom 2 ("TooMany", false) rfl
 | .NoBase _ => T.xd_NoRoom 3 ("NoBase", false) rfl
 | .NoFit _ => T.xd_NoRoom 4 ("NoFit", false) rfl
 | .Unlike _ => T.xd_NoRoom 5 ("Unlike", false) rfl
 | .NoLog _ => T.xd_NoRoom 6 ("NoLog", false) rfl
 | .NoFile _ => T.xd_NoRoom 7 ("NoFile", false) rfl
 | .NoPiece _ => T.xd_NoRoom 8 ("NoPiece", false) rfl
 | .NoMoment _ => T.xd_NoRoom 9 ("NoMoment", false) rfl
 | .NoHolder _ => T.xd_NoRoom 10 ("NoHolder", false) rfl
 | .Busy _ => T.xd_NoRoom 11 ("Busy", false) rfl
 | .NoRoom _ => T.xd_NoRoom 12 ("NoRoom", true) rfl
 | .Held _ => T.xd_NoRoom 13 ("Held", false) rfl
 | .Broken _ => T.xd_NoRoom 14 ("Broken", false) rfl
 | .Undone _ => T.xd_NoRoom 15 ("Undone", false) rfl
 | .OtherCut => T.xd_NoRoom 16 ("OtherCut", false) rfl
 | .NoText => T.xd_NoRoom 17 ("NoText", false) rfl
 | .NoRow => T.xd_NoRoom 18 ("NoRow", false) rfl
 | .NoRun => T.xd_NoRoom 19 ("NoRun", false) rfl
def Ex.isa_Held : Ex -> Bool
 | .Wrong _ => false
 | .There _ => false
 | .TooMany _ => false
 | .NoBase _ => false
 | .NoFit _ => false
 | .Unlike _ => false
 | .NoLog _ => false
 | .NoFile _ => false
 | .NoPiece _ => false
 | .NoMoment _ => false
 | .NoHolder _ => false
 | .Busy _ => false
 | .NoRoom _ => false
 | .Held _ => true
 | .Broken _ => false
 | .Undone _ => false
 | .OtherCut => false
 | .NoText => false
 | .NoRow => false
 | .NoRun => false
theorem isa_Held_ok {K : Fr} (T : TxC K) : ∀ x : Ex, PySem.W.kitOne K (.ref (He.ga K x.cls)) (.ref (He.ga K "Held")) = some x.isa_Held
 | .Wrong _ => T.xd_Held 0 ("Wrong", false) rfl
 | .There _ => T.xd_Held 1 ("There", false) rfl
 | .TooMany _ => T.xd_Held 2 ("TooMany", false) rfl
 | .NoBase _ => T.xd_Held 3 ("NoBase", false) rfl
 | .NoFit _ => T.xd_Held 4 ("NoFit", false) rfl
 | .Unlike _ => T.xd_Held 5 ("Unlike", false) rfl
 | .NoLog _ => T.xd_Held 6 ("NoLog", false) rfl
 | .NoFile _ => T.xd_Held 7 ("NoFile", false) rfl
 | .NoPiece _ => T.xd_Held 8 ("NoPiece", false) rfl
 | .NoMoment _ => T.xd_Held 9 ("NoMoment", false) rfl
 | .NoHolder _ => T.xd_Held 10 ("NoHolder", false) rfl
 | .Busy _ => T.xd_Held 11 ("Busy", false) rfl
 | .NoRoom _ => T.xd_Held 12 ("NoRoom", false) rfl
 | .Held _ => T.xd_Held 13 ("Held", true) rfl
 | .Broken _ => T.xd_Held 14 ("Broken", false) rfl
 | .Undone _ => T.xd_Held 15 ("Undone", false) rfl
 | .OtherCut => T.xd_Held 16 ("OtherCut", false) rfl
 | .NoText => T.xd_Held 17 ("NoText", false) rfl
 | .NoRow => T.xd_Held 18 ("NoRow", false) rfl
 | .NoRun => T.xd_Held 19 ("NoRun", false) rfl
def Ex.isa_Broken : Ex -> Bool
 | .Wrong _ => false
 | .There _ => false
 | .TooMany _ => false
 | .NoBase _ => false
 | .NoFit _ => false
 | .Unlike _ => false
 | .NoLog _ => false
 | .NoFile _ => false
 | .NoPiece _ => false
 | .NoMoment _ => false
 | .NoHolder _ => false
 | .Busy _ => false
 | .NoRoom _ => false
 | .Held _ => false
 | .Broken _ => true
 | .Undone _ => false
 | .OtherCut => false
 | .NoText => false
 | .NoRow => false
 | .NoRun => false
theorem isa_Broken_ok {K : Fr} (T : TxC K) : ∀ x : Ex, PySem.W.kitOne K (.ref (He.ga K x.cls)) (.ref (He.ga K "Broken")) = some x.isa_Broken
 | .Wrong _ => T.xd_Broken 0 ("Wrong", false) rfl
 | .There _ => T.xd_Broken 1 ("There", false) rfl
 | .TooMany _ => T.xd_Broken 2 ("TooMany", false) rfl
 | .NoBase _ => T.xd_Broken 3 ("NoBase", false) rfl
 | .NoFit _ => T.xd_Broken 4 ("NoFit", false) rfl
 | .Unlike _ => T.xd_Broken 5 ("Unlike", false) rfl
 | .NoLog _ => T.xd_Broken 6 ("NoLog", false) rfl
 | .NoFile _ => T.xd_Broken 7 ("NoFile", false) rfl
 | .NoPiece _ => T.xd_Broken 8 ("NoPiece", false) rfl
 | .NoMoment _ => T.xd_Broken 9 ("NoMoment", false) rfl
 | .NoHolder _ => T.xd_Broken 10 ("NoHolder", false) rfl
 | .Busy _ => T.xd_Broken 11 ("Busy", false) rfl
 | .NoRoom _ => T.xd_Broken 12 ("NoRoom", false) rfl
 | .Held _ => T.xd_Broken 13 ("Held", false) rfl
 | .Broken _ => T.xd_Broken 14 ("Broken", true) rfl
 | .Undone _ => T.xd_Broken 15 ("Undone", false) rfl
 | .OtherCut => T.xd_Broken 16 ("OtherCut", false) rfl
 | .NoText => T.xd_Broken 17 ("NoText", false) rfl
 | .NoRow => T.xd_Broken 18 ("NoRow", false) rfl
 | .NoRun => T.xd_Broken 19 ("NoRun", false) rfl
def Ex.isa_Undone : Ex -> Bool
 | .Wrong _ => false
 | .There _ => false
 | .TooMany _ => false
 | .NoBase _ => false
 | .NoFit _ => false
 | .Unlike _ => false
 | .NoLog _ => false
 | .NoFile _ => false
 | .NoPiece _ => false
 | .NoMoment _ => false
 | .NoHolder _ => false
 | .Busy _ => false
 | .NoRoom _ => false
 | .Held _ => false
 | .Broken _ => false
 | .Undone _ => true
 | .OtherCut => false
 | .NoText => false
 | .NoRow => false
 | .NoRun => false
theorem isa_Undone_ok {K : Fr} (T : TxC K) : ∀ x : Ex, PySem.W.kitOne K (.ref (He.ga K x.cls)) (.ref (He.ga K "Undone")) = some x.isa_Undone
 | .Wrong _ => T.xd_Undone 0 ("Wrong", false) rfl
 | .There _ => T.xd_Undone 1 ("There", false) rfl
 | .TooMany _ => T.xd_Undone 2 ("TooMany", false) rfl
 | .NoBase _ => T.xd_Undone 3 ("NoBase", false) rfl
 | .NoFit _ => T.xd_Undone 4 ("NoFit", false) rfl
 | .Unlike _ => T.xd_Undone 5 ("Unlike", false) rfl
 | .NoLog _ => T.xd_Undone 6 ("NoLog", false) rfl
 | .NoFile _ => T.xd_Undone 7 ("NoFile", false) rfl
 | .NoPiece _ => T.xd_Undone 8 ("NoPiece", false) rfl
 | .NoMoment _ => T.xd_Undone 9 ("NoMoment", false) rfl
 | .NoHolder _ => T.xd_Undone 10 ("NoHolder", false) rfl
 | .Busy _ => T.xd_Undone 11 ("Busy", false) rfl
 | .NoRoom _ => T.xd_Undone 12 ("NoRoom", false) rfl
 | .Held _ => T.xd_Undone 13 ("Held", false) rfl
 | .Broken _ => T.xd_Undone 14 ("Broken", false) rfl
 | .Undone _ => T.xd_Undone 15 ("Undone", true) rfl
 | .OtherCut => T.xd_Undone 16 ("OtherCut", false) rfl
 | .NoText => T.xd_Undone 17 ("NoText", false) rfl
 | .NoRow => T.xd_Undone 18 ("NoRow", false) rfl
 | .NoRun => T.xd_Undone 19 ("NoRun", false) rfl
def Ex.isa_OtherCut : Ex -> Bool
 | .Wrong _ => false
 | .There _ => false
 | .TooMany _ => false
 | .NoBase _ => false
 | .NoFit _ => false
 | .Unlike _ => false
 | .NoLog _ => false
 | .NoFile _ => false
 | .NoPiece _ => false
 | .NoMoment _ => false
 | .NoHolder _ => false
 | .Busy _ => false
 | .NoRoom _ => false
 | .Held _ => false
 | .Broken _ => false
 | .Undone _ => false
 | .OtherCut => true
 | .NoText => false
 | .NoRow => false
 | .NoRun => false
theorem isa_OtherCut_ok {K : Fr} (T : TxC K) : ∀ x : Ex, PySem.W.kitOne K (.ref (He.ga K x.cls)) (.ref (He.ga K "OtherCut")) = some x.isa_OtherCut
 | .Wrong _ => T.xd_OtherCut 0 ("Wrong", false) rfl
 | .There _ => T.xd_OtherCut 1 ("There", false) rfl
 | .TooMany _ => T.xd_OtherCut 2 ("TooMany", false) rfl
 | .NoBase _ => T.xd_OtherCut 3 ("NoBase", false) rfl
 | .NoFit _ => T.xd_OtherCut 4 ("NoFit", false) rfl
 | .Unlike _ => T.xd_OtherCut 5 ("Unlike", false) rfl
 | .NoLog _ => T.xd_OtherCut 6 ("NoLog", false) rfl
 | .NoFile _ => T.xd_OtherCut 7 ("NoFile", false) rfl
 | .NoPiece _ => T.xd_OtherCut 8 ("NoPiece", false) rfl
 | .NoMoment _ => T.xd_OtherCut 9 ("NoMoment", false) rfl
 | .NoHolder _ => T.xd_OtherCut 10 ("NoHolder", false) rfl
 | .Busy _ => T.xd_OtherCut 11 ("Busy", false) rfl
 | .NoRoom _ => T.xd_OtherCut 12 ("NoRoom", false) rfl
 | .Held _ => T.xd_OtherCut 13 ("Held", false) rfl
 | .Broken _ => T.xd_OtherCut 14 ("Broken", false) rfl
 | .Undone _ => T.xd_OtherCut 15 ("Undone", false) rfl
 | .OtherCut => T.xd_OtherCut 16 ("OtherCut", true) rfl
 | .NoText => T.xd_OtherCut 17 ("NoText", false) rfl
 | .NoRow => T.xd_OtherCut 18 ("NoRow", false) rfl
 | .NoRun => T.xd_OtherCut 19 ("NoRun", false) rfl
def Ex.isa_NoText : Ex -> Bool
 | .Wrong _ => false
 | .There _ => false
 | .TooMany _ => false
 | .NoBase _ => false
 | .NoFit _ => false
 | .Unlike _ => false
 | .NoLog _ => false
 | .NoFile _ => false
 | .NoPiece _ => false
 | .NoMoment _ => false
 | .NoHolder _ => false
 | .Busy _ => false
 | .NoRoom _ => false
 | .Held _ => false
 | .Broken _ => false
 | .Undone _ => false
 | .OtherCut => false
 | .NoText => true
 | .NoRow => false
 | .NoRun => false
theorem isa_NoText_ok {K : Fr} (T : TxC K) : ∀ x : Ex, PySem.W.kitOne K (.ref (He.ga K x.cls)) (.ref (He.ga K "NoText")) = some x.isa_NoText
 | .Wrong _ => T.xd_NoText 0 ("Wrong", false) rfl
 | .There _ => T.xd_NoText 1 ("There", false) rfl
 | .TooMany _ => T.xd_NoText 2 ("TooMany", false) rfl
 | .NoBase _ => T.xd_NoText 3 ("NoBase", false) rfl
 | .NoFit _ => T.xd_NoText 4 ("NoFit", false) rfl
 | .Unlike _ => T.xd_NoText 5 ("Unlike", false) rfl
 | .NoLog _ => T.xd_NoText 6 ("NoLog", false) rfl
 | .NoFile _ => T.xd_NoText 7 ("NoFile", false) rfl
 | .NoPiece _ => T.xd_NoText 8 ("NoPiece", false) rfl
 | .NoMoment _ => T.xd_NoText 9 ("NoMoment", false) rfl
 | .NoHolder _ => T.xd_NoText 10 ("NoHolder", false) rfl
 | .Busy _ => T.xd_NoText 11 ("Busy", false) rfl
 | .NoRoom _ => T.xd_NoText 12 ("NoRoom", false) rfl
 | .Held _ => T.xd_NoText 13 ("Held", false) rfl
 | .Broken _ => T.xd_NoText 14 ("Broken", false) rfl
 | .Undone _ => T.xd_NoText 15 ("Undone", false) rfl
 | .OtherCut => T.xd_NoText 16 ("OtherCut", false) rfl
 | .NoText => T.xd_NoText 17 ("NoText", true) rfl
 | .NoRow => T.xd_NoText 18 ("NoRow", false) rfl
 | .NoRun => T.xd_NoText 19 ("NoRun", false) rfl
def Ex.isa_NoRow : Ex -> Bool
 | .Wrong _ => false
 | .There _ => false
 | .TooMany _ => false
 | .NoBase _ => false
 | .NoFit _ => false
 | .Unlike _ => false
 | .NoLog _ => false
 | .NoFile _ => false
 | .NoPiece _ => false
 | .NoMoment _ => false
 | .NoHolder _ => false
 | .Busy _ => false
 | .NoRoom _ => false
 | .Held _ => false
 | .Broken _ => false
 | .Undone _ => false
 | .OtherCut => false
 | .NoText => false
 | .NoRow => true
 | .NoRun => false
theorem isa_NoRow_ok {K : Fr} (T : TxC K) : ∀ x : Ex, PySem.W.kitOne K (.ref (He.ga K x.cls)) (.ref (He.ga K "NoRow")) = some x.isa_NoRow
 | .Wrong _ => T.xd_NoRow 0 ("Wrong", false) rfl
 | .There _ => T.xd_NoRow 1 ("There", false) rfl
 | .TooMany _ => T.xd_NoRow 2 ("TooMany", false) rfl
 | .NoBase _ => T.xd_NoRow 3 ("NoBase", false) rfl
 | .NoFit _ => T.xd_NoRow 4 ("NoFit", false) rfl
 | .Unlike _ => T.xd_NoRow 5 ("Unlike", false) rfl
 | .NoLog _ => T.xd_NoRow 6 ("NoLog", false) rfl
 | .NoFile _ => T.xd_NoRow 7 ("NoFile", false) rfl
 | .NoPiece _ => T.xd_NoRow 8 ("NoPiece", false) rfl
 | .NoMoment _ => T.xd_NoRow 9 ("NoMoment", false) rfl
 | .NoHolder _ => T.xd_NoRow 10 ("NoHolder", false) rfl
 | .Busy _ => T.xd_NoRow 11 ("Busy", false) rfl
 | .NoRoom _ => T.xd_NoRow 12 ("NoRoom", false) rfl
 | .Held _ => T.xd_NoRow 13 ("Held", false) rfl
 | .Broken _ => T.xd_NoRow 14 ("Broken", false) rfl
 | .Undone _ => T.xd_NoRow 15 ("Undone", false) rfl
 | .OtherCut => T.xd_NoRow 16 ("OtherCut", false) rfl
 | .NoText => T.xd_NoRow 17 ("NoText", false) rfl
 | .NoRow => T.xd_NoRow 18 ("NoRow", true) rfl
 | .NoRun => T.xd_NoRow 19 ("NoRun", false) rfl
def Ex.isa_NoRun : Ex -> Bool
 | .Wrong _ => false
 | .There _ => false
 | .TooMany _ => false
 | .NoBase _ => false
 | .NoFit _ => false
 | .Unlike _ => false
 | .NoLog _ => false
 | .NoFile _ => false
 | .NoPiece _ => false
 | .NoMoment _ => false
 | .NoHolder _ => false
 | .Busy _ => false
 | .NoRoom _ => false
 | .Held _ => false
 | .Broken _ => false
 | .Undone _ => false
 | .OtherCut => false
 | .NoText => false
 | .NoRow => false
 | .NoRun => true
theorem isa_NoRun_ok {K : Fr} (T : TxC K) : ∀ x : Ex, PySem.W.kitOne K (.ref (He.ga K x.cls)) (.ref (He.ga K "NoRun")) = some x.isa_NoRun
 | .Wrong _ => T.xd_NoRun 0 ("Wrong", false) rfl
 | .There _ => T.xd_NoRun 1 ("There", false) rfl
 | .TooMany _ => T.xd_NoRun 2 ("TooMany", false) rfl
 | .NoBase _ => T.xd_NoRun 3 ("NoBase", false) rfl
 | .NoFit _ => T.xd_NoRun 4 ("NoFit", false) rfl
 | .Unlike _ => T.xd_NoRun 5 ("Unlike", false) rfl
 | .NoLog _ => T.xd_NoRun 6 ("NoLog", false) rfl
 | .NoFile _ => T.xd_NoRun 7 ("NoFile", false) rfl
 | .NoPiece _ => T.xd_NoRun 8 ("NoPiece", false) rfl
 | .NoMoment _ => T.xd_NoRun 9 ("NoMoment", false) rfl
 | .NoHolder _ => T.xd_NoRun 10 ("NoHolder", false) rfl
 | .Busy _ => T.xd_NoRun 11 ("Busy", false) rfl
 | .NoRoom _ => T.xd_NoRun 12 ("NoRoom", false) rfl
 | .Held _ => T.xd_NoRun 13 ("Held", false) rfl
 | .Broken _ => T.xd_NoRun 14 ("Broken", false) rfl
 | .Undone _ => T.xd_NoRun 15 ("Undone", false) rfl
 | .OtherCut => T.xd_NoRun 16 ("OtherCut", false) rfl
 | .NoText => T.xd_NoRun 17 ("NoText", false) rfl
 | .NoRow => T.xd_NoRun 18 ("NoRow", false) rfl
 | .NoRun => T.xd_NoRun 19 ("NoRun", true) rfl
def Ex.isa_StoreError : Ex -> Bool
 | .Wrong _ => true
 | .There _ => true
 | .TooMany _ => true
 | .NoBase _ => true
 | .NoFit _ => true
 | .Unlike _ => true
 | .NoLog _ => true
 | .NoFile _ => false
 | .NoPiece _ => false
 | .NoMoment _ => false
 | .NoHolder _ => false
 | .Busy _ => false
 | .NoRoom _ => false
 | .Held _ => false
 | .Broken _ => false
 | .Undone _ => false
 | .OtherCut => true
 | .NoText => true
 | .NoRow => true
 | .NoRun => false
theorem isa_StoreError_ok {K : Fr} (T : TxC K) : ∀ x : Ex, PySem.W.kitOne K (.ref (He.ga K x.cls)) (.ref (He.ga K "StoreError")) = some x.isa_StoreError
 | .Wrong _ => T.xd_StoreError 0 ("Wrong", true) rfl
 | .There _ => T.xd_StoreError 1 ("There", true) rfl
 | .TooMany _ => T.xd_StoreError 2 ("TooMany", true) rfl
 | .NoBase _ => T.xd_StoreError 3 ("NoBase", true) rfl
 | .NoFit _ => T.xd_StoreError 4 ("NoFit", true) rfl
 | .Unlike _ => T.xd_StoreError 5 ("Unlike", true) rfl
 | .NoLog _ => T.xd_StoreError 6 ("NoLog", true) rfl
 | .NoFile _ => T.xd_StoreError 7 ("NoFile", false) rfl
 | .NoPiece _ => T.xd_StoreError 8 ("NoPiece", false) rfl
 | .NoMoment _ => T.xd_StoreError 9 ("NoMoment", false) rfl
 | .NoHolder _ => T.xd_StoreError 10 ("NoHolder", false) rfl
 | .Busy _ => T.xd_StoreError 11 ("Busy", false) rfl
 | .NoRoom _ => T.xd_StoreError 12 ("NoRoom", false) rfl
 | .Held _ => T.xd_StoreError 13 ("Held", false) rfl
 | .Broken _ => T.xd_StoreError 14 ("Broken", false) rfl
 | .Undone _ => T.xd_StoreError 15 ("Undone", false) rfl
 | .OtherCut => T.xd_StoreError 16 ("OtherCut", true) rfl
 | .NoText => T.xd_StoreError 17 ("NoText", true) rfl
 | .NoRow => T.xd_StoreError 18 ("NoRow", true) rfl
 | .NoRun => T.xd_StoreError 19 ("NoRun", false) rfl
def Ex.isa_Missing : Ex -> Bool
 | .Wrong _ => false
 | .There _ => false
 | .TooMany _ => false
 | .NoBase _ => false
 | .NoFit _ => false
 | .Unlike _ => false
 | .NoLog _ => false
 | .NoFile _ => true
 | .NoPiece _ => true
 | .NoMoment _ => true
 | .NoHolder _ => true
 | .Busy _ => false
 | .NoRoom _ => false
 | .Held _ => false
 | .Broken _ => false
 | .Undone _ => false
 | .OtherCut => false
 | .NoText => false
 | .NoRow => false
 | .NoRun => true
theorem isa_Missing_ok {K : Fr} (T : TxC K) : ∀ x : Ex, PySem.W.kitOne K (.ref (He.ga K x.cls)) (.ref (He.ga K "Missing")) = some x.isa_Missing
 | .Wrong _ => T.xd_Missing 0 ("Wrong", false) rfl
 | .There _ => T.xd_Missing 1 ("There", false) rfl
 | .TooMany _ => T.xd_Missing 2 ("TooMany", false) rfl
 | .NoBase _ => T.xd_Missing 3 ("NoBase", false) rfl
 | .NoFit _ => T.xd_Missing 4 ("NoFit", false) rfl
 | .Unlike _ => T.xd_Missing 5 ("Unlike", false) rfl
 | .NoLog _ => T.xd_Missing 6 ("NoLog", false) rfl
 | .NoFile _ => T.xd_Missing 7 ("NoFile", true) rfl
 | .NoPiece _ => T.xd_Missing 8 ("NoPiece", true) rfl
 | .NoMoment _ => T.xd_Missing 9 ("NoMoment", true) rfl
 | .NoHolder _ => T.xd_Missing 10 ("NoHolder", true) rfl
 | .Busy _ => T.xd_Missing 11 ("Busy", false) rfl
 | .NoRoom _ => T.xd_Missing 12 ("NoRoom", false) rfl
 | .Held _ => T.xd_Missing 13 ("Held", false) rfl
 | .Broken _ => T.xd_Missing 14 ("Broken", false) rfl
 | .Undone _ => T.xd_Missing 15 ("Undone", false) rfl
 | .OtherCut => T.xd_Missing 16 ("OtherCut", false) rfl
 | .NoText => T.xd_Missing 17 ("NoText", false) rfl
 | .NoRow => T.xd_Missing 18 ("NoRow", false) rfl
 | .NoRun => T.xd_Missing 19 ("NoRun", true) rfl
def Ex.isa_Halted : Ex -> Bool
 | .Wrong _ => false
 | .There _ => false
 | .TooMany _ => false
 | .NoBase _ => false
 | .NoFit _ => false
 | .Unlike _ => false
 | .NoLog _ => false
 | .NoFile _ => false
 | .NoPiece _ => false
 | .NoMoment _ => false
 | .NoHolder _ => false
 | .Busy _ => true
 | .NoRoom _ => true
 | .Held _ => true
 | .Broken _ => true
 | .Undone _ => true
 | .OtherCut => false
 | .NoText => false
 | .NoRow => false
 | .NoRun => false
theorem isa_Halted_ok {K : Fr} (T : TxC K) : ∀ x : Ex, PySem.W.kitOne K (.ref (He.ga K x.cls)) (.ref (He.ga K "Halted")) = some x.isa_Halted
 | .Wrong _ => T.xd_Halted 0 ("Wrong", false) rfl
 | .There _ => T.xd_Halted 1 ("There", false) rfl
 | .TooMany _ => T.xd_Halted 2 ("TooMany", false) rfl
 | .NoBase _ => T.xd_Halted 3 ("NoBase", false) rfl
 | .NoFit _ => T.xd_Halted 4 ("NoFit", false) rfl
 | .Unlike _ => T.xd_Halted 5 ("Unlike", false) rfl
 | .NoLog _ => T.xd_Halted 6 ("NoLog", false) rfl
 | .NoFile _ => T.xd_Halted 7 ("NoFile", false) rfl
 | .NoPiece _ => T.xd_Halted 8 ("NoPiece", false) rfl
 | .NoMoment _ => T.xd_Halted 9 ("NoMoment", false) rfl
 | .NoHolder _ => T.xd_Halted 10 ("NoHolder", false) rfl
 | .Busy _ => T.xd_Halted 11 ("Busy", true) rfl
 | .NoRoom _ => T.xd_Halted 12 ("NoRoom", true) rfl
 | .Held _ => T.xd_Halted 13 ("Held", true) rfl
 | .Broken _ => T.xd_Halted 14 ("Broken", true) rfl
 | .Undone _ => T.xd_Halted 15 ("Undone", true) rfl
 | .OtherCut => T.xd_Halted 16 ("OtherCut", false) rfl
 | .NoText => T.xd_Halted 17 ("NoText", false) rfl
 | .NoRow => T.xd_Halted 18 ("NoRow", false) rfl
 | .NoRun => T.xd_Halted 19 ("NoRun", false) rfl
def Ex.isa_ValueError : Ex -> Bool
 | .Wrong _ => true
 | .There _ => true
 | .TooMany _ => true
 | .NoBase _ => true
 | .NoFit _ => true
 | .Unlike _ => true
 | .NoLog _ => true
 | .NoFile _ => false
 | .NoPiece _ => false
 | .NoMoment _ => false
 | .NoHolder _ => false
 | .Busy _ => false
 | .NoRoom _ => false
 | .Held _ => false
 | .Broken _ => false
 | .Undone _ => false
 | .OtherCut => true
 | .NoText => true
 | .NoRow => true
 | .NoRun => false
theorem isa_ValueError_ok {K : Fr} (T : TxC K) : ∀ x : Ex, PySem.W.kitOne K (.ref (He.ga K x.cls)) (.type "ValueError") = some x.isa_ValueError
 | .Wrong _ => T.xd_ValueError 0 ("Wrong", true) rfl
 | .There _ => T.xd_ValueError 1 ("There", true) rfl
 | .TooMany _ => T.xd_ValueError 2 ("TooMany", true) rfl
 | .NoBase _ => T.xd_ValueError 3 ("NoBase", true) rfl
 | .NoFit _ => T.xd_ValueError 4 ("NoFit", true) rfl
 | .Unlike _ => T.xd_ValueError 5 ("Unlike", true) rfl
 | .NoLog _ => T.xd_ValueError 6 ("NoLog", true) rfl
 | .NoFile _ => T.xd_ValueError 7 ("NoFile", false) rfl
 | .NoPiece _ => T.xd_ValueError 8 ("NoPiece", false) rfl
 | .NoMoment _ => T.xd_ValueError 9 ("NoMoment", false) rfl
 | .NoHolder _ => T.xd_ValueError 10 ("NoHolder", false) rfl
 | .Busy _ => T.xd_ValueError 11 ("Busy", false) rfl
 | .NoRoom _ => T.xd_ValueError 12 ("NoRoom", false) rfl
 | .Held _ => T.xd_ValueError 13 ("Held", false) rfl
 | .Broken _ => T.xd_ValueError 14 ("Broken", false) rfl
 | .Undone _ => T.xd_ValueError 15 ("Undone", false) rfl
 | .OtherCut => T.xd_ValueError 16 ("OtherCut", true) rfl
 | .NoText => T.xd_ValueError 17 ("NoText", true) rfl
 | .NoRow => T.xd_ValueError 18 ("NoRow", true) rfl
 | .NoRun => T.xd_ValueError 19 ("NoRun", false) rfl
def Ex.isa_LookupError : Ex -> Bool
 | .Wrong _ => false
 | .There _ => false
 | .TooMany _ => false
 | .NoBase _ => false
 | .NoFit _ => false
 | .Unlike _ => false
 | .NoLog _ => false
 | .NoFile _ => true
 | .NoPiece _ => true
 | .NoMoment _ => true
 | .NoHolder _ => true
 | .Busy _ => false
 | .NoRoom _ => false
 | .Held _ => false
 | .Broken _ => false
 | .Undone _ => false
 | .OtherCut => false
 | .NoText => false
 | .NoRow => false
 | .NoRun => true
theorem isa_LookupError_ok {K : Fr} (T : TxC K) : ∀ x : Ex, PySem.W.kitOne K (.ref (He.ga K x.cls)) (.type "LookupError") = some x.isa_LookupError
 | .Wrong _ => T.xd_LookupError 0 ("Wrong", false) rfl
 | .There _ => T.xd_LookupError 1 ("There", false) rfl
 | .TooMany _ => T.xd_LookupError 2 ("TooMany", false) rfl
 | .NoBase _ => T.xd_LookupError 3 ("NoBase", false) rfl
 | .NoFit _ => T.xd_LookupError 4 ("NoFit", false) rfl
 | .Unlike _ => T.xd_LookupError 5 ("Unlike", false) rfl
 | .NoLog _ => T.xd_LookupError 6 ("NoLog", false) rfl
 | .NoFile _ => T.xd_LookupError 7 ("NoFile", true) rfl
 | .NoPiece _ => T.xd_LookupError 8 ("NoPiece", true) rfl
 | .NoMoment _ => T.xd_LookupError 9 ("NoMoment", true) rfl
 | .NoHolder _ => T.xd_LookupError 10 ("NoHolder", true) rfl
 | .Busy _ => T.xd_LookupError 11 ("Busy", false) rfl
 | .NoRoom _ => T.xd_LookupError 12 ("NoRoom", false) rfl
 | .Held _ => T.xd_LookupError 13 ("Held", false) rfl
 | .Broken _ => T.xd_LookupError 14 ("Broken", false) rfl
 | .Undone _ => T.xd_LookupError 15 ("Undone", false) rfl
 | .OtherCut => T.xd_LookupError 16 ("OtherCut", false) rfl
 | .NoText => T.xd_LookupError 17 ("NoText", false) rfl
 | .NoRow => T.xd_LookupError 18 ("NoRow", false) rfl
 | .NoRun => T.xd_LookupError 19 ("NoRun", true) rfl
def Ex.isa_RuntimeError : Ex -> Bool
 | .Wrong _ => false
 | .There _ => false
 | .TooMany _ => false
 | .NoBase _ => false
 | .NoFit _ => false
 | .Unlike _ => false
 | .NoLog _ => false
 | .NoFile _ => false
 | .NoPiece _ => false
 | .NoMoment _ => false
 | .NoHolder _ => false
 | .Busy _ => true
 | .NoRoom _ => true
 | .Held _ => true
 | .Broken _ => true
 | .Undone _ => true
 | .OtherCut => false
 | .NoText => false
 | .NoRow => false
 | .NoRun => false
theorem isa_RuntimeError_ok {K : Fr} (T : TxC K) : ∀ x : Ex, PySem.W.kitOne K (.ref (He.ga K x.cls)) (.type "RuntimeError") = some x.isa_RuntimeError
 | .Wrong _ => T.xd_RuntimeError 0 ("Wrong", false) rfl
 | .There _ => T.xd_RuntimeError 1 ("There", false) rfl
 | .TooMany _ => T.xd_RuntimeError 2 ("TooMany", false) rfl
 | .NoBase _ => T.xd_RuntimeError 3 ("NoBase", false) rfl
 | .NoFit _ => T.xd_RuntimeError 4 ("NoFit", false) rfl
 | .Unlike _ => T.xd_RuntimeError 5 ("Unlike", false) rfl
 | .NoLog _ => T.xd_RuntimeError 6 ("NoLog", false) rfl
 | .NoFile _ => T.xd_RuntimeError 7 ("NoFile", false) rfl
 | .NoPiece _ => T.xd_RuntimeError 8 ("NoPiece", false) rfl
 | .NoMoment _ => T.xd_RuntimeError 9 ("NoMoment", false) rfl
 | .NoHolder _ => T.xd_RuntimeError 10 ("NoHolder", false) rfl
 | .Busy _ => T.xd_RuntimeError 11 ("Busy", true) rfl
 | .NoRoom _ => T.xd_RuntimeError 12 ("NoRoom", true) rfl
 | .Held _ => T.xd_RuntimeError 13 ("Held", true) rfl
 | .Broken _ => T.xd_RuntimeError 14 ("Broken", true) rfl
 | .Undone _ => T.xd_RuntimeError 15 ("Undone", true) rfl
 | .OtherCut => T.xd_RuntimeError 16 ("OtherCut", false) rfl
 | .NoText => T.xd_RuntimeError 17 ("NoText", false) rfl
 | .NoRow => T.xd_RuntimeError 18 ("NoRow", false) rfl
 | .NoRun => T.xd_RuntimeError 19 ("NoRun", false) rfl
def Ex.get_at : Ex -> Option PyData
 | .Wrong w => some w
 | .NoFit w => some w
 | .NoLog w => some w
 | _ => none
theorem get_at_ok {x : Ex} {d : PyData} (h : x.get_at = some d) : x.fo = some (("at" : Str), d) := by
 cases x <;> first | (cases h; rfl) | cases h
theorem get_at_no {K : Fr} (T : TxC K) {x : Ex} {d : PyData} (h : x.get_at = some d) : PySem.W.findIn K (.ref (He.ga K x.cls)) "at" = some none := by
 cases x with
 | Wrong w => exact chN_ok T.xn_Wrong_at
 | There w => cases h
 | TooMany w => cases h
 | NoBase w => cases h
 | NoFit w => exact chN_ok T.xn_NoFit_at
 | Unlike w => cases h
 | NoLog w => exact chN_ok T.xn_NoLog_at
 | NoFile w => cases h
 | NoPiece w => cases h
 | NoMoment w => cases h
 | NoHolder w => cases h
 | Busy w => cases h
 | NoRoom w => cases h
 | Held w => cases h
 | Broken w => cases h
 | Undone w => cases h
 | OtherCut => cases h
 | NoText => cases h
 | NoRow => cases h
 | NoRun => cases h
theorem v_xg_at {K : Fr} {Rs : List Res} {H : Hp} {Q : VK} {v : V} {σ : L2.St} {te : TE} {x : Ex} {d : PyData} (T : TxC K) (h : x.get_at = some d) (S : M Rs H) (j : Nat) (hj : Rs[j]? = some (xqR K v (eXv x))) (ht : ∀ Q, Q v H -> te σ H Q) (k : ∀ w, M (da K w (eA d) :: Rs) H -> Q w H) : tXgO K "at" te σ H Q :=
 v_xgO (C := He.ga K x.cls) S j (hj.trans (congrArg some (show xqR K v x = xqG K v (He.ga K x.cls) (some (("at" : Str), d)) from by rw [<- get_at_ok h]; rfl))) (xc_ok T x) (get_at_no T h) ht k
def Ex.get_holders : Ex -> Option PyData
 | .Held w => some w
 | _ => none
theorem get_holders_ok {x : Ex} {d : PyData} (h : x.get_holders = some d) : x.fo = some (("holders" : Str), d) := by
 cases x <;> first | (cases h; rfl) | cases h
theorem get_holders_no {K : Fr} (T : TxC K) {x : Ex} {d : PyData} (h : x.get_holders = some d) : PySem.W.findIn K (.ref (He.ga K x.cls)) "holders" = some none := by
 cases x with
 | Wrong w => cases h
 | There w => cases h
 | TooMany w => cases h
 | NoBase w => cases h
 | NoFit w => cases h
 | Unlike w => cases h
 | NoLog w => cases h
 | NoFile w => cases h
 | NoPiece w => cases h
 | NoMoment w => cases h
 | NoHolder w => cases h
 | Busy w => cases h
 | NoRoom w => cases h
 | Held w => exact chN_ok T.xn_Held_holders
 | Broken w => cases h
 | Undone w => cases h
 | OtherCut => cases h
 | NoText => cases h
 | NoRow => cases h
 | NoRun => cases h
theorem v_xg_holders {K : Fr} {Rs : List Res} {H : Hp} {Q : VK} {v : V} {σ : L2.St} {te : TE} {x : Ex} {d : PyData} (T : TxC K) (h : x.get_holders = some d) (S : M Rs H) (j : Nat) (hj : Rs[j]? = some (xqR K v (eXv x))) (ht : ∀ Q, Q v H -> te σ H Q) (k : ∀ w, M (da K w (eA d) :: Rs) H -> Q w H) : tXgO K "holders" te σ H Q :=
 v_xgO (C := He.ga K x.cls) S j (hj.trans (congrArg some (show xqR K v x = xqG K v (He.ga K x.cls) (some (("holders" : Str), d)) from by rw [<- get_holders_ok h]; rfl))) (xc_ok T x) (get_holders_no T h) ht k
def Ex.get_most : Ex -> Option PyData
 | .TooMany w => some w
 | _ => none
theorem get_most_ok {x : Ex} {d : PyData} (h : x.get_most = some d) : x.fo = some (("most" : Str), d) := by
 cases x <;> first | (cases h; rfl) | cases h
theorem get_most_no {K : Fr} (T : TxC K) {x : Ex} {d : PyData} (h : x.get_most = some d) : PySem.W.findIn K (.ref (He.ga K x.cls)) "most" = some none := by
 cases x with
 | Wrong w => cases h
 | There w => cases h
 | TooMany w => exact chN_ok T.xn_TooMany_most
 | NoBase w => cases h
 | NoFit w => cases h
 | Unlike w => cases h
 | NoLog w => cases h
 | NoFile w => cases h
 | NoPiece w => cases h
 | NoMoment w => cases h
 | NoHolder w => cases h
 | Busy w => cases h
 | NoRoom w => cases h
 | Held w => cases h
 | Broken w => cases h
 | Undone w => cases h
 | OtherCut => cases h
 | NoText => cases h
 | NoRow => cases h
 | NoRun => cases h
theorem v_xg_most {K : Fr} {Rs : List Res} {H : Hp} {Q : VK} {v : V} {σ : L2.St} {te : TE} {x : Ex} {d : PyData} (T : TxC K) (h : x.get_most = some d) (S : M Rs H) (j : Nat) (hj : Rs[j]? = some (xqR K v (eXv x))) (ht : ∀ Q, Q v H -> te σ H Q) (k : ∀ w, M (da K w (eA d) :: Rs) H -> Q w H) : tXgO K "most" te σ H Q :=
 v_xgO (C := He.ga K x.cls) S j (hj.trans (congrArg some (show xqR K v x = xqG K v (He.ga K x.cls) (some (("most" : Str), d)) from by rw [<- get_most_ok h]; rfl))) (xc_ok T x) (get_most_no T h) ht k
def Ex.get_name : Ex -> Option PyData
 | .NoFile w => some w
 | .NoHolder w => some w
 | _ => none
theorem get_name_ok {x : Ex} {d : PyData} (h : x.get_name = some d) : x.fo = some (("name" : Str), d) := by
 cases x <;> first | (cases h; rfl) | cases h
theorem get_name_no {K : Fr} (T : TxC K) {x : Ex} {d : PyData} (h : x.get_name = some d) : PySem.W.findIn K (.ref (He.ga K x.cls)) "name" = some none := by
 cases x with
 | Wrong w => cases h
 | There w => cases h
 | TooMany w => cases h
 | NoBase w => cases h
 | NoFit w => cases h
 | Unlike w => cases h
 | NoLog w => cases h
 | NoFile w => exact chN_ok T.xn_NoFile_name
 | NoPiece w => cases h
 | NoMoment w => cases h
 | NoHolder w => exact chN_ok T.xn_NoHolder_name
 | Busy w => cases h
 | NoRoom w => cases h
 | Held w => cases h
 | Broken w => cases h
 | Undone w => cases h
 | OtherCut => cases h
 | NoText => cases h
 | NoRow => cases h
 | NoRun => cases h
theorem v_xg_name {K : Fr} {Rs : List Res} {H : Hp} {Q : VK} {v : V} {σ : L2.St} {te : TE} {x : Ex} {d : PyData} (T : TxC K) (h : x.get_name = some d) (S : M Rs H) (j : Nat) (hj : Rs[j]? = some (xqR K v (eXv x))) (ht : ∀ Q, Q v H -> te σ H Q) (k : ∀ w, M (da K w (eA d) :: Rs) H -> Q w H) : tXgO K "name" te σ H Q :=
 v_xgO (C := He.ga K x.cls) S j (hj.trans (congrArg some (show xqR K v x = xqG K v (He.ga K x.cls) (some (("name" : Str), d)) from by rw [<- get_name_ok h]; rfl))) (xc_ok T x) (get_name_no T h) ht k
def Ex.get_names : Ex -> Option PyData
 | .Undone w => some w
 | _ => none
theorem get_names_ok {x : Ex} {d : PyData} (h : x.get_names = some d) : x.fo = some (("names" : Str), d) := by
 cases x <;> first | (cases h; rfl) | cases h
theorem get_names_no {K : Fr} (T : TxC K) {x : Ex} {d : PyData} (h : x.get_names = some d) : PySem.W.findIn K (.ref (He.ga K x.cls)) "names" = some none := by
 cases x with
 | Wrong w => cases h
 | There w => cases h
 | TooMany w => cases h
 | NoBase w => cases h
 | NoFit w => cases h
 | Unlike w => cases h
 | NoLog w => cases h
 | NoFile w => cases h
 | NoPiece w => cases h
 | NoMoment w => cases h
 | NoHolder w => cases h
 | Busy w => cases h
 | NoRoom w => cases h
 | Held w => cases h
 | Broken w => cases h
 | Undone w => exact chN_ok T.xn_Undone_names
 | OtherCut => cases h
 | NoText => cases h
 | NoRow => cases h
 | NoRun => cases h
theorem v_xg_names {K : Fr} {Rs : List Res} {H : Hp} {Q : VK} {v : V} {σ : L2.St} {te : TE} {x : Ex} {d : PyData} (T : TxC K) (h : x.get_names = some d) (S : M Rs H) (j : Nat) (hj : Rs[j]? = some (xqR K v (eXv x))) (ht : ∀ Q, Q v H -> te σ H Q) (k : ∀ w, M (da K w (eA d) :: Rs) H -> Q w H) : tXgO K "names" te σ H Q :=
 v_xgO (C := He.ga K x.cls) S j (hj.trans (congrArg some (show xqR K v x = xqG K v (He.ga K x.cls) (some (("names" : Str), d)) from by rw [<- get_names_ok h]; rfl))) (xc_ok T x) (get_names_no T h) ht k
def Ex.get_room : Ex -> Option PyData
 | .NoRoom w => some w
 | _ => none
theorem get_room_ok {x : Ex} {d : PyData} (h : x.get_room = some d) : x.fo = some (("room" : Str), d) := by
 cases x <;> first | (cases h; rfl) | cases h
theorem get_room_no {K : Fr} (T : TxC K) {x : Ex} {d : PyData} (h : x.get_room = some d) : PySem.W.findIn K (.ref (He.ga K x.cls)) "room" = some none := by
 cases x with
 | Wrong w => cases h
 | There w => cases h
 | TooMany w => cases h
 | NoBase w => cases h
 | NoFit w => cases h
 | Unlike w => cases h
 | NoLog w => cases h
 | NoFile w => cases h
 | NoPiece w => cases h
 | NoMoment w => cases h
 | NoHolder w => cases h
 | Busy w => cases h
 | NoRoom w => exact chN_ok T.xn_NoRoom_room
 | Held w => cases h
 | Broken w => cases h
 | Undone w => cases h
 | OtherCut => cases h
 | NoText => cases h
 | NoRow => cases h
 | NoRun => cases h
theorem v_xg_room {K : Fr} {Rs : List Res} {H : Hp} {Q : VK} {v : V} {σ : L2.St} {te : TE} {x : Ex} {d : PyData} (T : TxC K) (h : x.get_room = some d) (S : M Rs H) (j : Nat) (hj : Rs[j]? = some (xqR K v (eXv x))) (ht : ∀ Q, Q v H -> te σ H Q) (k : ∀ w, M (da K w (eA d) :: Rs) H -> Q w H) : tXgO K "room" te σ H Q :=
 v_xgO (C := He.ga K x.cls) S j (hj.trans (congrArg some (show xqR K v x = xqG K v (He.ga K x.cls) (some (("room" : Str), d)) from by rw [<- get_room_ok h]; rfl))) (xc_ok T x) (get_room_no T h) ht k
def Ex.get_seal : Ex -> Option PyData
 | .Unlike w => some w
 | .NoPiece w => some w
 | .Broken w => some w
 | _ => none
theorem get_seal_ok {x : Ex} {d : PyData} (h : x.get_seal = some d) : x.fo = some (("seal" : Str), d) := by
 cases x <;> first | (cases h; rfl) | cases h
theorem get_seal_no {K : Fr} (T : TxC K) {x : Ex} {d : PyData} (h : x.get_seal = some d) : PySem.W.findIn K (.ref (He.ga K x.cls)) "seal" = some none := by
 cases x with
 | Wrong w => cases h
 | There w => cases h
 | TooMany w => cases h
 | NoBase w => cases h
 | NoFit w => cases h
 | Unlike w => exact chN_ok T.xn_Unlike_seal
 | NoLog w => cases h
 | NoFile w => cases h
 | NoPiece w => exact chN_ok T.xn_NoPiece_seal
 | NoMoment w => cases h
 | NoHolder w => cases h
 | Busy w => cases h
 | NoRoom w => cases h
 | Held w => cases h
 | Broken w => exact chN_ok T.xn_Broken_seal
 | Undone w => cases h
 | OtherCut => cases h
 | NoText => cases h
 | NoRow => cases h
 | NoRun => cases h
theorem v_xg_seal {K : Fr} {Rs : List Res} {H : Hp} {Q : VK} {v : V} {σ : L2.St} {te : TE} {x : Ex} {d : PyData} (T : TxC K) (h : x.get_seal = some d) (S : M Rs H) (j : Nat) (hj : Rs[j]? = some (xqR K v (eXv x))) (ht : ∀ Q, Q v H -> te σ H Q) (k : ∀ w, M (da K w (eA d) :: Rs) H -> Q w H) : tXgO K "seal" te σ H Q :=
 v_xgO (C := He.ga K x.cls) S j (hj.trans (congrArg some (show xqR K v x = xqG K v (He.ga K x.cls) (some (("seal" : Str), d)) from by rw [<- get_seal_ok h]; rfl))) (xc_ok T x) (get_seal_no T h) ht k
def Ex.get_thing : Ex -> Option PyData
 | .There w => some w
 | _ => none
theorem get_thing_ok {x : Ex} {d : PyData} (h : x.get_thing = some d) : x.fo = some (("thing" : Str), d) := by
 cases x <;> first | (cases h; rfl) | cases h
theorem get_thing_no {K : Fr} (T : TxC K) {x : Ex} {d : PyData} (h : x.get_thing = some d) : PySem.W.findIn K (.ref (He.ga K x.cls)) "thing" = some none := by
 cases x with
 | Wrong w => cases h
 | There w => exact chN_ok T.xn_There_thing
 | TooMany w => cases h
 | NoBase w => cases h
 | NoFit w => cases h
 | Unlike w => cases h
 | NoLog w => cases h
 | NoFile w => cases h
 | NoPiece w => cases h
 | NoMoment w => cases h
 | NoHolder w => cases h
 | Busy w => cases h
 | NoRoom w => cases h
 | Held w => cases h
 | Broken w => cases h
 | Undone w => cases h
 | OtherCut => cases h
 | NoText => cases h
 | NoRow => cases h
 | NoRun => cases h
theorem v_xg_thing {K : Fr} {Rs : List Res} {H : Hp} {Q : VK} {v : V} {σ : L2.St} {te : TE} {x : Ex} {d : PyData} (T : TxC K) (h : x.get_thing = some d) (S : M Rs H) (j : Nat) (hj : Rs[j]? = some (xqR K v (eXv x))) (ht : ∀ Q, Q v H -> te σ H Q) (k : ∀ w, M (da K w (eA d) :: Rs) H -> Q w H) : tXgO K "thing" te σ H Q :=
 v_xgO (C := He.ga K x.cls) S j (hj.trans (congrArg some (show xqR K v x = xqG K v (He.ga K x.cls) (some (("thing" : Str), d)) from by rw [<- get_thing_ok h]; rfl))) (xc_ok T x) (get_thing_no T h) ht k
def Ex.get_time : Ex -> Option PyData
 | .NoBase w => some w
 | .NoMoment w => some w
 | _ => none
theorem get_time_ok {x : Ex} {d : PyData} (h : x.get_time = some d) : x.fo = some (("time" : Str), d) := by
 cases x <;> first | (cases h; rfl) | cases h
theorem get_time_no {K : Fr} (T : TxC K) {x : Ex} {d : PyData} (h : x.get_time = some d) : PySem.W.findIn K (.ref (He.ga K x.cls)) "time" = some none := by
 cases x with
 | Wrong w => cases h
 | There w => cases h
 | TooMany w => cases h
 | NoBase w => exact chN_ok T.xn_NoBase_time
 | NoFit w => cases h
 | Unlike w => cases h
 | NoLog w => cases h
 | NoFile w => cases h
 | NoPiece w => cases h
 | NoMoment w => exact chN_ok T.xn_NoMoment_time
 | NoHolder w => cases h
 | Busy w => cases h
 | NoRoom w => cases h
 | Held w => cases h
 | Broken w => cases h
 | Undone w => cases h
 | OtherCut => cases h
 | NoText => cases h
 | NoRow => cases h
 | NoRun => cases h
theorem v_xg_time {K : Fr} {Rs : List Res} {H : Hp} {Q : VK} {v : V} {σ : L2.St} {te : TE} {x : Ex} {d : PyData} (T : TxC K) (h : x.get_time = some d) (S : M Rs H) (j : Nat) (hj : Rs[j]? = some (xqR K v (eXv x))) (ht : ∀ Q, Q v H -> te σ H Q) (k : ∀ w, M (da K w (eA d) :: Rs) H -> Q w H) : tXgO K "time" te σ H Q :=
 v_xgO (C := He.ga K x.cls) S j (hj.trans (congrArg some (show xqR K v x = xqG K v (He.ga K x.cls) (some (("time" : Str), d)) from by rw [<- get_time_ok h]; rfl))) (xc_ok T x) (get_time_no T h) ht k
def Ex.get_why : Ex -> Option PyData
 | .Busy w => some w
 | _ => none
theorem get_why_ok {x : Ex} {d : PyData} (h : x.get_why = some d) : x.fo = some (("why" : Str), d) := by
 cases x <;> first | (cases h; rfl) | cases h
theorem get_why_no {K : Fr} (T : TxC K) {x : Ex} {d : PyData} (h : x.get_why = some d) : PySem.W.findIn K (.ref (He.ga K x.cls)) "why" = some none := by
 cases x with
 | Wrong w => cases h
 | There w => cases h
 | TooMany w => cases h
 | NoBase w => cases h
 | NoFit w => cases h
 | Unlike w => cases h
 | NoLog w => cases h
 | NoFile w => cases h
 | NoPiece w => cases h
 | NoMoment w => cases h
 | NoHolder w => cases h
 | Busy w => exact chN_ok T.xn_Busy_why
 | NoRoom w => cases h
 | Held w => cases h
 | Broken w => cases h
 | Undone w => cases h
 | OtherCut => cases h
 | NoText => cases h
 | NoRow => cases h
 | NoRun => cases h
theorem v_xg_why {K : Fr} {Rs : List Res} {H : Hp} {Q : VK} {v : V} {σ : L2.St} {te : TE} {x : Ex} {d : PyData} (T : TxC K) (h : x.get_why = some d) (S : M Rs H) (j : Nat) (hj : Rs[j]? = some (xqR K v (eXv x))) (ht : ∀ Q, Q v H -> te σ H Q) (k : ∀ w, M (da K w (eA d) :: Rs) H -> Q w H) : tXgO K "why" te σ H Q :=
 v_xgO (C := He.ga K x.cls) S j (hj.trans (congrArg some (show xqR K v x = xqG K v (He.ga K x.cls) (some (("why" : Str), d)) from by rw [<- get_why_ok h]; rfl))) (xc_ok T x) (get_why_no T h) ht k
theorem v_isXV {K : Fr} {Rs : List Res} {H : Hp} {Q : VK} {v : V} {x : Ex} {c : V} {cv : Value} {b : Bool} (T : TxC K) (S : M Rs H) (j : Nat) (hj : Rs[j]? = some (xqR K v (eXv x))) (k : ClsV c cv) (e : PySem.W.kitOne K (.ref (He.ga K x.cls)) cv = some b) (g : Q (.bl b) H) : rIsO K [v, c] H Q := v_isXO (C := He.ga K x.cls) (q := x.fo) S j hj (xc_ok T x) k e g
theorem M.addX {K : Fr} {Rs : List Res} {H : Hp} {v : V} {x : Ex} (S : M Rs H) (i : Nat) (h : Rs[i]? = some (xqR K v (eXv x))) : M (xqR K v (eXv x) :: Rs) H := M.pvOf (A := xqP K) S (EnF.pv i h)
theorem M.openTX {K : Fr} {Rs : List Res} {H : Hp} {v : V} {x : Int × Ex × PyData} (S : M Rs H) (j : Nat) (hj : Rs[j]? = some (tqR K v (eXt x))) : ∃ a u w y, v = .ref a /\ SqT K H a [u, w, y] /\ M (da K u (eI x.1) :: xqR K w (eXv x.2.1) :: da K y (eA x.2.2) :: Rs) H := M.openT3P S j hj
theorem v_tX {K : Fr} {Rs : List Res} {H : Hp} {Q : VK} {x : Int × Ex × PyData} {u2 u3 : V} (S : M Rs H) (i : Nat) (h2 : Rs[i]? = some (xqR K u2 (eXv x.2.1))) (h3 : EnF Rs (λ F => Dq K F u3 (eA x.2.2))) (k : ∀ v H', M (tqR K v (eXt x) :: Rs) H' -> Q v H') : TupK Q [V.int x.1, u2, u3] H := v_t3 (A := PV.dq K eI) (B := xqP K) (G := PV.dq K eA) S (λ F L s => Dq.int _) (EnF.pv i h2) h3 k
theorem v_apX {K : Fr} {Rs : List Res} {H : Hp} {Q : VK} {v : V} {p : Addr} {xs : List (Int × Ex × PyData)} {x : Int × Ex × PyData} (S : M Rs H) (j i : Nat) (hj : Rs[j]? = some (plR (tqP K) p xs)) (hi : Rs[i]? = some (tqR K v (eXt x))) (hz : xs.length < 100000) (k : ∀ H', M (plR (tqP K) p (xs ++ [x]) :: Rs.eraseIdx j) H' -> Q .non H') : rAppend (.ref p) [v] H Q := v_apP S j hj (EnF.pv (A := tqP K) i hi) hz k
def p_l_copy (a_thing : PyData) (P : PyData -> Prop) : Prop := cpOk 7 a_thing /\ P a_thing
def sp_l_copy (K : Fr) : Sp := λ vs H Q _ => ∃ (Rs : List Res) (v_a_thing : V) (a_thing : PyData) (P : PyData -> Prop), vs = [v_a_thing] /\ M (da K v_a_thing (eA a_thing) :: Rs) H /\ p_l_copy a_thing P /\ ∀ (r : PyData) (v : V) H', P r -> M (da K v (eA r) :: Rs) H' -> Q v H'

def p_l_odd  (P : PyData -> Prop) : Prop := (([eN (), eB true, eB false, eI (-1), eI 0, eI 1, eI 999, eI 1000, eI 1001, eS ("" : Str), eS ("a" : Str), eS ("A" : Str), eS ("a b" : Str), (eV eA) ([] : List PyData), (eL eI) ([] : (List Int)), (eV eI) ([1]), (eL eI) ([0] : List Int), (eL eI) ([1000] : List Int), (eL eI) ([(-1)] : List Int)] : List PyData)).length + (([(eL eB) ([true]), (eL eN) ([()]), (eL eS) ([("a" : Str)]), (eL (eL eI)) ([([1] : List Int)]), (eD iS eA) ([] : (List (Str × PyData))), (eD iS (eL eI)) ([(("a" : Str), ([] : (List Int)))] : List (Str × (List Int))), (eD iI (eL eI)) ([(1, ([] : (List Int)))] : List (Int × (List Int))), (eD iS (eL eI)) ([(("a" : Str), ([1] : List Int))] : List (Str × (List Int))), (eP eI eI) (1, 2), eI (1000000 + 1), eI (-1000000000000000000000000000000)] : List PyData)).length <= 100000 /\ ((-(2 ^ 63) : Int) <= 16 /\ 16 < (2 ^ 63 : Int) /\ (([0] : List Int)).length * (16 : Int).toNat <= 100000) /\ ((-(2 ^ 63) : Int) <= 17 /\ 17 < (2 ^ 63 : Int) /\ (([0] : List Int)).length * (17 : Int).toNat <= 100000) /\ ((-(2 ^ 63) : Int) <= 48 /\ 48 < (2 ^ 63 : Int) /\ (([0] : List Int)).length * (48 : Int).toNat <= 100000) /\ ((-(2 ^ 63) : Int) <= 49 /\ 49 < (2 ^ 63 : Int) /\ (([0] : List Int)).length * (49 : Int).toNat <= 100000) /\ ((cat ([eN (), eB true, eB false, eI (-1), eI 0, eI 1, eI 999, eI 1000, eI 1001, eS ("" : Str), eS ("a" : Str), eS ("A" : Str), eS ("a b" : Str), (eV eA) ([] : List PyData), (eL eI) ([] : (List Int)), (eV eI) ([1]), (eL eI) ([0] : List Int), (eL eI) ([1000] : List Int), (eL eI) ([(-1)] : List Int)] : List PyData) ([(eL eB) ([true]), (eL eN) ([()]), (eL eS) ([("a" : Str)]), (eL (eL eI)) ([([1] : List Int)]), (eD iS eA) ([] : (List (Str × PyData))), (eD iS (eL eI)) ([(("a" : Str), ([] : (List Int)))] : List (Str × (List Int))), (eD iI (eL eI)) ([(1, ([] : (List Int)))] : List (Int × (List Int))), (eD iS (eL eI)) ([(("a" : Str), ([1] : List Int))] : List (Str × (List Int))), (eP eI eI) (1, 2), eI (1000000 + 1), eI (-1000000000000000000000000000000)] : List PyData))).length + (([(eL eI) (repL ([0] : List Int) 16), (eL eI) (repL ([0] : List Int) 17), (eL eI) (repL ([0] : List Int) 48), (eL eI) (repL ([0] : List Int) 49), eI 2, eI 50, eI 51, eI 16, eI 17, eS ("7" : Str), (eL eI) ([1, 2] : List Int)] : List PyData)).length <= 100000 /\ takeD (((cat (cat ([eN (), eB true, eB false, eI (-1), eI 0, eI 1, eI 999, eI 1000, eI 1001, eS ("" : Str), eS ("a" : Str), eS ("A" : Str), eS ("a b" : Str), (eV eA) ([] : List PyData), (eL eI) ([] : (List Int)), (eV eI) ([1]), (eL eI) ([0] : List Int), (eL eI) ([1000] : List Int), (eL eI) ([(-1)] : List Int)] : List PyData) ([(eL eB) ([true]), (eL eN) ([()]), (eL eS) ([("a" : Str)]), (eL (eL eI)) ([([1] : List Int)]), (eD iS eA) ([] : (List (Str × PyData))), (eD iS (eL eI)) ([(("a" : Str), ([] : (List Int)))] : List (Str × (List Int))), (eD iI (eL eI)) ([(1, ([] : (List Int)))] : List (Int × (List Int))), (eD iS (eL eI)) ([(("a" : Str), ([1] : List Int))] : List (Str × (List Int))), (eP eI eI) (1, 2), eI (1000000 + 1), eI (-1000000000000000000000000000000)] : List PyData)) ([(eL eI) (repL ([0] : List Int) 16), (eL eI) (repL ([0] : List Int) 17), (eL eI) (repL ([0] : List Int) 48), (eL eI) (repL ([0] : List Int) 49), eI 2, eI 50, eI 51, eI 16, eI 17, eS ("7" : Str), (eL eI) ([1, 2] : List Int)] : List PyData))).length : Int) λ n208 => ∃ x211, atI (cat (cat ([eN (), eB true, eB false, eI (-1), eI 0, eI 1, eI 999, eI 1000, eI 1001, eS ("" : Str), eS ("a" : Str), eS ("A" : Str), eS ("a b" : Str), (eV eA) ([] : List PyData), (eL eI) ([] : (List Int)), (eV eI) ([1]), (eL eI) ([0] : List Int), (eL eI) ([1000] : List Int), (eL eI) ([(-1)] : List Int)] : List PyData) ([(eL eB) ([true]), (eL eN) ([()]), (eL eS) ([("a" : Str)]), (eL (eL eI)) ([([1] : List Int)]), (eD iS eA) ([] : (List (Str × PyData))), (eD iS (eL eI)) ([(("a" : Str), ([] : (List Int)))] : List (Str × (List Int))), (eD iI (eL eI)) ([(1, ([] : (List Int)))] : List (Int × (List Int))), (eD iS (eL eI)) ([(("a" : Str), ([1] : List Int))] : List (Str × (List Int))), (eP eI eI) (1, 2), eI (1000000 + 1), eI (-1000000000000000000000000000000)] : List PyData)) ([(eL eI) (repL ([0] : List Int) 16), (eL eI) (repL ([0] : List Int) 17), (eL eI) (repL ([0] : List Int) 48), (eL eI) (repL ([0] : List Int) 49), eI 2, eI 50, eI 51, eI 16, eI 17, eS ("7" : Str), (eL eI) ([1, 2] : List Int)] : List PyData)) n208 = some x211 /\ p_l_copy x211 λ x217 => P x217
def sp_l_odd (K : Fr) : Sp := λ vs H Q _ => ∃ (Rs : List Res) (a_bag_here : Addr) (P : PyData -> Prop), vs = [(V.ref a_bag_here)] /\ M (bagR a_bag_here :: Rs) H /\ p_l_odd P /\ ∀ (r : PyData) (v : V) H', P r -> M (da K v (eA r) :: bagR a_bag_here :: Rs) H' -> Q v H'
theorem len_l_odd {K : Fr} (vs : List V) (H : Hp) (Q : VK) (E : XK) (h : sp_l_odd K vs H Q E) : vs.length = 1 := by
 obtain ⟨Rs, a_bag_here, P, rfl, _⟩ := h
 rfl
abbrev t_l_odd_3 (K : Fr) : TS := (tSeq (tAsg (tOp (uAdd K) (tVar 1) (tLst (tCons (tOp rRep (tLst (tCons (tC (.int 0)) tNil)) (tC (.int 16))) (tCons (tOp rRep (tLst (tCons (tC (.int 0)) tNil)) (tC (.int 17))) (tCons (tOp rRep (tLst (tCons (tC (.int 0)) tNil)) (tC (.int 48))) (tCons (tOp rRep (tLst (tCons (tC (.int 0)) tNil)) (tC (.int 49))) (tCons (tC (.int 2)) (tCons (tC (.int 50)) (tCons (tC (.int 51)) (tCons (tC (.int 16)) (tCons (tC (.int 17)) (tCons (tC (.str "7")) (tCons (tLst (tCons (tC (.int 1)) (tCons (tC (.int 2)) tNil))) tNil))))))))))))) (gName 1))
 (tRet (tCall (sp_l_copy K) [] E0 (tCons (tOp (uIx K) (tVar 1) (tCall (sp_l_take K) [] E0 (tCons (tVar 0) (tCons (tCB (uLen K) (tCons (tVar 1) tNil)) tNil)))) tNil))))
abbrev t_l_odd_2 (K : Fr) : TS := (tSeq (tAsg (tOp (uAdd K) (tVar 1) (tLst (tCons (tLst (tCons (tC (.bl true)) tNil)) (tCons (tLst (tCons (tC .non) tNil)) (tCons (tLst (tCons (tC (.str "a")) tNil)) (tCons (tLst (tCons (tLst (tCons (tC (.int 1)) tNil)) tNil)) (tCons (tFzE tDNewK) (tCons (tFzE (tDisp [((tC (.str "a")), (tLst tNil))])) (tCons (tFzE (tDisp [((tC (.int 1)), (tLst tNil))])) (tCons (tFzE (tDisp [((tC (.str "a")), (tLst (tCons (tC (.int 1)) tNil)))])) (tCons (tTup (tCons (tC (.int 1)) (tCons (tC (.int 2)) tNil))) (tCons (tOp (uAdd K) (tOp uPow (tC (.int 10)) (tC (.int 6))) (tC (.int 1))) (tCons (tUn (rU λ i => .int (-i)) (tOp uPow (tC (.int 10)) (tC (.int 30)))) tNil))))))))))))) (gName 1))
 (t_l_odd_3 K))
abbrev t_l_odd_1 (K : Fr) : TS := (tSeq (tAsg (tLst (tCons (tC .non) (tCons (tC (.bl true)) (tCons (tC (.bl false)) (tCons (tUn (rU λ i => .int (-i)) (tC (.int 1))) (tCons (tC (.int 0)) (tCons (tC (.int 1)) (tCons (tC (.int 999)) (tCons (tC (.int 1000)) (tCons (tC (.int 1001)) (tCons (tC (.str "")) (tCons (tC (.str "a")) (tCons (tC (.str "A")) (tCons (tC (.str "a b")) (tCons (tTup tNil) (tCons (tLst tNil) (tCons (tTup (tCons (tC (.int 1)) tNil)) (tCons (tLst (tCons (tC (.int 0)) tNil)) (tCons (tLst (tCons (tC (.int 1000)) tNil)) (tCons (tLst (tCons (tUn (rU λ i => .int (-i)) (tC (.int 1))) tNil)) tNil)))))))))))))))))))) (gName 1))
 (t_l_odd_2 K))
abbrev t_l_odd (K : Fr) : TS := (t_l_odd_1 K)
theorem pure_l_odd {K : Fr} (vs : List V) (H : Hp) (Q : VK) (E : XK) (h : sp_l_odd K vs H Q E) : t_l_odd K { nx := λ _ H' => Q .non H', rt := Q } (L2.start ["_law_bag_here", "_law_some"] vs) H := by
 obtain ⟨Rs, a_bag_here, P, rfl, S0, hf, hk⟩ := h
 show t_l_odd K _ [some (V.ref a_bag_here), none] H
 refine g_seq (g_asg (g_lst (g_cons (g_c (g_cons (g_c (g_cons (g_c (g_cons (g_un (g_c (v_neg (g_cons (g_c (g_cons (g_c (g_cons (g_c (g_cons (g_c (g_cons (g_c (g_cons (g_c (g_cons (g_c (g_cons (g_c (g_cons (g_c (g_cons (g_tup (g_nil (v_tupq S0 EnF.nilA (len_ok rfl) λ p1 H3 (S2 : M (da K (V.ref p1) (eV eA []) :: _ :: Rs) H3) => ?_))))))))))))))))))))))))))))))))))
 refine g_cons (g_lst (g_nil (v_lsto (ds := ([] : (List Int)).map eI) S2 EnF.nilA (len_ok rfl) λ p5 H7 (S6 : M (acR K p5 (([] : (List Int)).map eI) :: oo2 Rs) H7) => ?_)))
 have S9 : M (da K (V.ref p5) ((eL eI) ([] : (List Int))) :: oo2 Rs) H7 := acR_fixL S6
 refine g_cons (g_tup (g_cons (g_c (g_nil (v_tupq S9 (EnF.consA (EnF.all λ _ => .int _) EnF.nilA) (len_ok rfl) λ p11 H13 (S12 : M (da K (V.ref p11) ((eV eI) [1]) :: oo3 Rs) H13) => ?_)))))
 refine g_cons (g_lst (g_cons (g_c (g_nil (v_lsto (ds := ([0] : List Int).map eI) S12 (EnF.consA (EnF.all λ _ => .int _) EnF.nilA) (len_ok rfl) λ p15 H17 (S16 : M (acR K p15 (([0] : List Int).map eI) :: oo4 Rs) H17) => ?_)))))
 have S19 : M (da K (V.ref p15) ((eL eI) ([0] : List Int)) :: oo4 Rs) H17 := acR_fixL S16
 refine g_cons (g_lst (g_cons (g_c (g_nil (v_lsto (ds := ([1000] : List Int).map eI) S19 (EnF.consA (EnF.all λ _ => .int _) EnF.nilA) (len_ok rfl) λ p21 H23 (S22 : M (acR K p21 (([1000] : List Int).map eI) :: oo5 Rs) H23) => ?_)))))
 have S25 : M (da K (V.ref p21) ((eL eI) ([1000] : List Int)) :: oo5 Rs) H23 := acR_fixL S22
 refine g_cons (g_lst (g_cons (g_un (g_c (v_neg (g_nil (v_lsto (ds := ([(-1)] : List Int).map eI) S25 (EnF.consA (EnF.all λ _ => .int _) EnF.nilA) (len_ok rfl) λ p27 H29 (S28 : M (acR K p27 (([(-1)] : List Int).map eI) :: oo6 Rs) H29) => ?_)))))))
 have S31 : M (da K (V.ref p27) ((eL eI) ([(-1)] : List Int)) :: oo6 Rs) H29 := acR_fixL S28
 refine g_nil (v_lsto (ds := ([eN (), eB true, eB false, eI (-1), eI 0, eI 1, eI 999, eI 1000, eI 1001, eS ("" : Str), eS ("a" : Str), eS ("A" : Str), eS ("a b" : Str), (eV eA) ([] : List PyData), (eL eI) ([] : (List Int)), (eV eI) ([1]), (eL eI) ([0] : List Int), (eL eI) ([1000] : List Int), (eL eI) ([(-1)] : List Int)] : List PyData).map eA) S31 (EnF.consA (EnF.all λ _ => .non) (EnF.consA (EnF.all λ _ => .bl _) (EnF.consA (EnF.all λ _ => .bl _) (EnF.consA (EnF.all λ _ => .int _) (EnF.consA (EnF.all λ _ => .int _) (EnF.consA (EnF.all λ _ => .int _) (EnF.consA (EnF.all λ _ => .int _) (EnF.consA (EnF.all λ _ => .int _) (EnF.consA (EnF.all λ _ => .int _) (EnF.consA (EnF.all λ _ => .str _) (EnF.consA (EnF.all λ _ => .str _) (EnF.consA (EnF.all λ _ => .str _) (EnF.consA (EnF.all λ _ => .str _) (EnF.consA (EnF.at 5 rfl) (EnF.consA (EnF.at 4 rfl) (EnF.consA (EnF.at 3 rfl) (EnF.consA (EnF.at 2 rfl) (EnF.consA (EnF.at 1 rfl) (EnF.consA (EnF.at 0 rfl) EnF.nilA))))))))))))))))))) (len_ok rfl) λ p33 H35 (S34 : M (acR K p33 (([eN (), eB true, eB false, eI (-1), eI 0, eI 1, eI 999, eI 1000, eI 1001, eS ("" : Str), eS ("a" : Str), eS ("A" : Str), eS ("a b" : Str), (eV eA) ([] : List PyData), (eL eI) ([] : (List Int)), (eV eI) ([1]), (eL eI) ([0] : List Int), (eL eI) ([1000] : List Int), (eL eI) ([(-1)] : List Int)] : List PyData).map eA) :: oo7 Rs) H35) => ?_)
 have S37 : M (da K (V.ref p33) ((eL eA) ([eN (), eB true, eB false, eI (-1), eI 0, eI 1, eI 999, eI 1000, eI 1001, eS ("" : Str), eS ("a" : Str), eS ("A" : Str), eS ("a b" : Str), (eV eA) ([] : List PyData), (eL eI) ([] : (List Int)), (eV eI) ([1]), (eL eI) ([0] : List Int), (eL eI) ([1000] : List Int), (eL eI) ([(-1)] : List Int)] : List PyData)) :: oo7 Rs) H35 := acR_fixL S34
 refine g_nx ?_
 show (_ : TS) _ [some (V.ref a_bag_here), some (V.ref p33)] _
 have S39 : M (oo2 Rs) H35 := (M.drp (M.drp (M.drp (M.drp (M.drp (M.drp S37 6) 5) 4) 3) 2) 1)
 refine g_seq (g_asg (g_op (g_var rfl (g_lst (g_cons (g_lst (g_cons (g_c (g_nil (v_lsto (ds := ([true]).map eB) S39 (EnF.consA (EnF.all λ _ => .bl _) EnF.nilA) (len_ok rfl) λ p40 H42 (S41 : M (acR K p40 (([true]).map eB) :: oo2 Rs) H42) => ?_))))))))))
 have S44 : M (da K (V.ref p40) ((eL eB) ([true])) :: oo2 Rs) H42 := acR_fixL S41
 refine g_cons (g_lst (g_cons (g_c (g_nil (v_lsto (ds := ([()]).map eN) S44 (EnF.consA (EnF.all λ _ => .non) EnF.nilA) (len_ok rfl) λ p46 H48 (S47 : M (acR K p46 (([()]).map eN) :: oo3 Rs) H48) => ?_)))))
 have S50 : M (da K (V.ref p46) ((eL eN) ([()])) :: oo3 Rs) H48 := acR_fixL S47
 refine g_cons (g_lst (g_cons (g_c (g_nil (v_lsto (ds := ([("a" : Str)]).map eS) S50 (EnF.consA (EnF.all λ _ => .str _) EnF.nilA) (len_ok rfl) λ p52 H54 (S53 : M (acR K p52 (([("a" : Str)]).map eS) :: oo4 Rs) H54) => ?_)))))
 have S56 : M (da K (V.ref p52) ((eL eS) ([("a" : Str)])) :: oo4 Rs) H54 := acR_fixL S53
 refine g_cons (g_lst (g_cons (g_lst (g_cons (g_c (g_nil (v_lsto (ds := ([1] : List Int).map eI) S56 (EnF.consA (EnF.all λ _ => .int _) EnF.nilA) (len_ok rfl) λ p58 H60 (S59 : M (acR K p58 (([1] : List Int).map eI) :: oo5 Rs) H60) => ?_)))))))
 have S62 : M (da K (V.ref p58) ((eL eI) ([1] : List Int)) :: oo5 Rs) H60 := acR_fixL S59
 refine g_nil (v_lsto (ds := ([([1] : List Int)]).map (eL eI)) S62 (EnF.consA (EnF.at 0 rfl) EnF.nilA) (len_ok rfl) λ p64 H66 (S65 : M (acR K p64 (([([1] : List Int)]).map (eL eI)) :: oo6 Rs) H66) => ?_)
 have S68 : M (da K (V.ref p64) ((eL (eL eI)) ([([1] : List Int)])) :: oo6 Rs) H66 := acR_fixL S65
 refine g_cons (v_dnewo S68 λ p70 H72 (S71 : M (adR K iS eA p70 ([] : (List (Str × PyData))) :: oo7 Rs) H72) => ?_)
 refine v_fzD S71 0 rfl λ H75 (S74 : M (da K (V.ref p70) ((eD iS eA) ([] : (List (Str × PyData)))) :: oo7 Rs) H75) => ?_
 refine g_cons (g_disp S74 λ p77 H79 (S78 : M (pt p77 (.dK []) :: oo8 Rs) H79) => ?_)
 refine g_pcons (g_c (g_lst (g_nil (v_lsto (ds := ([] : (List Int)).map eI) S78 EnF.nilA (len_ok rfl) λ p81 H83 (S82 : M (acR K p81 (([] : (List Int)).map eI) :: oo9 Rs) H83) => ?_))))
 have S85 : M (da K (V.ref p81) ((eL eI) ([] : (List Int))) :: oo9 Rs) H83 := acR_fixL S82
 refine g_pnil (v_disp (m := ([(("a" : Str), ([] : (List Int)))] : List (Str × (List Int)))) injS S85 1 rfl (EnF.consP (k := ("a" : Str)) (x := ([] : (List Int))) (e := (eL eI)) (EnF.at 0 rfl) EnF.nilP) (Nat.le_of_ble_eq_true rfl) λ H88 (S87 : M (adR K iS (eL eI) p77 ([(("a" : Str), ([] : (List Int)))] : List (Str × (List Int))) :: oo9 Rs) H88) => ?_)
 refine v_fzD S87 0 rfl λ H91 (S90 : M (da K (V.ref p77) ((eD iS (eL eI)) ([(("a" : Str), ([] : (List Int)))] : List (Str × (List Int)))) :: oo9 Rs) H91) => ?_
 refine g_cons (g_disp S90 λ p93 H95 (S94 : M (pt p93 (.dK []) :: oo10 Rs) H95) => ?_)
 refine g_pcons (g_c (g_lst (g_nil (v_lsto (ds := ([] : (List Int)).map eI) S94 EnF.nilA (len_ok rfl) λ p97 H99 (S98 : M (acR K p97 (([] : (List Int)).map eI) :: oo11 Rs) H99) => ?_))))
 have S101 : M (da K (V.ref p97) ((eL eI) ([] : (List Int))) :: oo11 Rs) H99 := acR_fixL S98
 refine g_pnil (v_disp (m := ([(1, ([] : (List Int)))] : List (Int × (List Int)))) injI S101 1 rfl (EnF.consP (k := 1) (x := ([] : (List Int))) (e := (eL eI)) (EnF.at 0 rfl) EnF.nilP) (Nat.le_of_ble_eq_true rfl) λ H104 (S103 : M (adR K iI (eL eI) p93 ([(1, ([] : (List Int)))] : List (Int × (List Int))) :: oo11 Rs) H104) => ?_)
 refine v_fzD S103 0 rfl λ H107 (S106 : M (da K (V.ref p93) ((eD iI (eL eI)) ([(1, ([] : (List Int)))] : List (Int × (List Int)))) :: oo11 Rs) H107) => ?_
 refine g_cons (g_disp S106 λ p109 H111 (S110 : M (pt p109 (.dK []) :: oo12 Rs) H111) => ?_)
 refine g_pcons (g_c (g_lst (g_cons (g_c (g_nil (v_lsto (ds := ([1] : List Int).map eI) S110 (EnF.consA (EnF.all λ _ => .int _) EnF.nilA) (len_ok rfl) λ p113 H115 (S114 : M (acR K p113 (([1] : List Int).map eI) :: oo13 Rs) H115) => ?_))))))
 have S117 : M (da K (V.ref p113) ((eL eI) ([1] : List Int)) :: oo13 Rs) H115 := acR_fixL S114
 refine g_pnil (v_disp (m := ([(("a" : Str), ([1] : List Int))] : List (Str × (List Int)))) injS S117 1 rfl (EnF.consP (k := ("a" : Str)) (x := ([1] : List Int)) (e := (eL eI)) (EnF.at 0 rfl) EnF.nilP) (Nat.le_of_ble_eq_true rfl) λ H120 (S119 : M (adR K iS (eL eI) p109 ([(("a" : Str), ([1] : List Int))] : List (Str × (List Int))) :: oo13 Rs) H120) => ?_)
 refine v_fzD S119 0 rfl λ H123 (S122 : M (da K (V.ref p109) ((eD iS (eL eI)) ([(("a" : Str), ([1] : List Int))] : List (Str × (List Int)))) :: oo13 Rs) H123) => ?_
 refine g_cons (g_tup (g_cons (g_c (g_cons (g_c (g_nil (v_tupq S122 (EnF.consA (EnF.all λ _ => .int _) (EnF.consA (EnF.all λ _ => .int _) EnF.nilA)) (len_ok rfl) λ p125 H127 (S126 : M (da K (V.ref p125) ((eP eI eI) (1, 2)) :: oo14 Rs) H127) => ?_)))))))
 refine g_cons (g_op (g_op (g_c (g_c (v_powc (n := 1000000) (by decide) (by decide) (g_c (v_add (g_cons (g_un (g_op (g_c (g_c (v_powc (n := 1000000000000000000000000000000) (by decide) (by decide) (v_neg (g_nil (v_lsto (ds := ([(eL eB) ([true]), (eL eN) ([()]), (eL eS) ([("a" : Str)]), (eL (eL eI)) ([([1] : List Int)]), (eD iS eA) ([] : (List (Str × PyData))), (eD iS (eL eI)) ([(("a" : Str), ([] : (List Int)))] : List (Str × (List Int))), (eD iI (eL eI)) ([(1, ([] : (List Int)))] : List (Int × (List Int))), (eD iS (eL eI)) ([(("a" : Str), ([1] : List Int))] : List (Str × (List Int))), (eP eI eI) (1, 2), eI (1000000 + 1), eI (-1000000000000000000000000000000)] : List PyData).map eA) S126 (EnF.consA (EnF.at 12 rfl) (EnF.consA (EnF.at 11 rfl) (EnF.consA (EnF.at 10 rfl) (EnF.consA (EnF.at 8 rfl) (EnF.consA (EnF.at 7 rfl) (EnF.consA (EnF.at 5 rfl) (EnF.consA (EnF.at 3 rfl) (EnF.consA (EnF.at 1 rfl) (EnF.consA (EnF.at 0 rfl) (EnF.consA (EnF.all λ _ => .int _) (EnF.consA (EnF.all λ _ => .int _) EnF.nilA))))))))))) (len_ok rfl) λ p129 H131 (S130 : M (acR K p129 (([(eL eB) ([true]), (eL eN) ([()]), (eL eS) ([("a" : Str)]), (eL (eL eI)) ([([1] : List Int)]), (eD iS eA) ([] : (List (Str × PyData))), (eD iS (eL eI)) ([(("a" : Str), ([] : (List Int)))] : List (Str × (List Int))), (eD iI (eL eI)) ([(1, ([] : (List Int)))] : List (Int × (List Int))), (eD iS (eL eI)) ([(("a" : Str), ([1] : List Int))] : List (Str × (List Int))), (eP eI eI) (1, 2), eI (1000000 + 1), eI (-1000000000000000000000000000000)] : List PyData).map eA) :: _ :: oo14 Rs) H131) => ?_))))))))))))))))
 have S133 : M (da K (V.ref p129) ((eL eA) ([(eL eB) ([true]), (eL eN) ([()]), (eL eS) ([("a" : Str)]), (eL (eL eI)) ([([1] : List Int)]), (eD iS eA) ([] : (List (Str × PyData))), (eD iS (eL eI)) ([(("a" : Str), ([] : (List Int)))] : List (Str × (List Int))), (eD iI (eL eI)) ([(1, ([] : (List Int)))] : List (Int × (List Int))), (eD iS (eL eI)) ([(("a" : Str), ([1] : List Int))] : List (Str × (List Int))), (eP eI eI) (1, 2), eI (1000000 + 1), eI (-1000000000000000000000000000000)] : List PyData)) :: _ :: oo14 Rs) H131 := acR_fixL S130
 obtain ⟨h135, hf⟩ := hf
 refine v_catq S133 14 0 rfl rfl h135 λ p136 H138 (S137 : M (acR K p136 ((cat ([eN (), eB true, eB false, eI (-1), eI 0, eI 1, eI 999, eI 1000, eI 1001, eS ("" : Str), eS ("a" : Str), eS ("A" : Str), eS ("a b" : Str), (eV eA) ([] : List PyData), (eL eI) ([] : (List Int)), (eV eI) ([1]), (eL eI) ([0] : List Int), (eL eI) ([1000] : List Int), (eL eI) ([(-1)] : List Int)] : List PyData) ([(eL eB) ([true]), (eL eN) ([()]), (eL eS) ([("a" : Str)]), (eL (eL eI)) ([([1] : List Int)]), (eD iS eA) ([] : (List (Str × PyData))), (eD iS (eL eI)) ([(("a" : Str), ([] : (List Int)))] : List (Str × (List Int))), (eD iI (eL eI)) ([(1, ([] : (List Int)))] : List (Int × (List Int))), (eD iS (eL eI)) ([(("a" : Str), ([1] : List Int))] : List (Str × (List Int))), (eP eI eI) (1, 2), eI (1000000 + 1), eI (-1000000000000000000000000000000)] : List PyData)).map eA) :: oo2 (oo14 Rs)) H138) => ?_
 have S140 : M (da K (V.ref p136) ((eL eA) (cat ([eN (), eB true, eB false, eI (-1), eI 0, eI 1, eI 999, eI 1000, eI 1001, eS ("" : Str), eS ("a" : Str), eS ("A" : Str), eS ("a b" : Str), (eV eA) ([] : List PyData), (eL eI) ([] : (List Int)), (eV eI) ([1]), (eL eI) ([0] : List Int), (eL eI) ([1000] : List Int), (eL eI) ([(-1)] : List Int)] : List PyData) ([(eL eB) ([true]), (eL eN) ([()]), (eL eS) ([("a" : Str)]), (eL (eL eI)) ([([1] : List Int)]), (eD iS eA) ([] : (List (Str × PyData))), (eD iS (eL eI)) ([(("a" : Str), ([] : (List Int)))] : List (Str × (List Int))), (eD iI (eL eI)) ([(1, ([] : (List Int)))] : List (Int × (List Int))), (eD iS (eL eI)) ([(("a" : Str), ([1] : List Int))] : List (Str × (List Int))), (eP eI eI) (1, 2), eI (1000000 + 1), eI (-1000000000000000000000000000000)] : List PyData))) :: oo2 (oo14 Rs)) H138 := acR_fixL S137
 refine g_nx ?_
 show (_ : TS) _ [some (V.ref a_bag_here), some (V.ref p136)] _
 have S142 : M (oo2 Rs) H138 := (M.drp (M.drp (M.drp (M.drp (M.drp (M.drp (M.drp (M.drp (M.drp (M.drp (M.drp (M.drp (M.drp (M.drp (M.drp S140 15) 14) 13) 12) 11) 10) 9) 8) 7) 6) 5) 4) 3) 2) 1)
 refine g_seq (g_asg (g_op (g_var rfl (g_lst (g_cons (g_op (g_lst (g_cons (g_c (g_nil (v_lsto (ds := ([0] : List Int).map eI) S142 (EnF.consA (EnF.all λ _ => .int _) EnF.nilA) (len_ok rfl) λ p143 H145 (S144 : M (acR K p143 (([0] : List Int).map eI) :: oo2 Rs) H145) => ?_)))))))))))
 refine g_c ?_
 obtain ⟨h147, hf⟩ := hf
 refine v_repO (e := eI) S144 0 rfl h147 λ p148 H150 (S149 : M (acR K p148 ((repL ([0] : List Int) 16).map eI) :: oo3 Rs) H150) => ?_
 have S152 : M (da K (V.ref p148) ((eL eI) (repL ([0] : List Int) 16)) :: oo3 Rs) H150 := acR_fixL S149
 refine g_cons (g_op (g_lst (g_cons (g_c (g_nil (v_lsto (ds := ([0] : List Int).map eI) S152 (EnF.consA (EnF.all λ _ => .int _) EnF.nilA) (len_ok rfl) λ p154 H156 (S155 : M (acR K p154 (([0] : List Int).map eI) :: oo4 Rs) H156) => ?_))))))
 refine g_c ?_
 obtain ⟨h158, hf⟩ := hf
 refine v_repO (e := eI) S155 0 rfl h158 λ p159 H161 (S160 : M (acR K p159 ((repL ([0] : List Int) 17).map eI) :: oo5 Rs) H161) => ?_
 have S163 : M (da K (V.ref p159) ((eL eI) (repL ([0] : List Int) 17)) :: oo5 Rs) H161 := acR_fixL S160
 refine g_cons (g_op (g_lst (g_cons (g_c (g_nil (v_lsto (ds := ([0] : List Int).map eI) S163 (EnF.consA (EnF.all λ _ => .int _) EnF.nilA) (len_ok rfl) λ p165 H167 (S166 : M (acR K p165 (([0] : List Int).map eI) :: oo6 Rs) H167) => ?_))))))
 refine g_c ?_
 obtain ⟨h169, hf⟩ := hf
 refine v_repO (e := eI) S166 0 rfl h169 λ p170 H172 (S171 : M (acR K p170 ((repL ([0] : List Int) 48).map eI) :: oo7 Rs) H172) => ?_
 have S174 : M (da K (V.ref p170) ((eL eI) (repL ([0] : List Int) 48)) :: oo7 Rs) H172 := acR_fixL S171
 refine g_cons (g_op (g_lst (g_cons (g_c (g_nil (v_lsto (ds := ([0] : List Int).map eI) S174 (EnF.consA (EnF.all λ _ => .int _) EnF.nilA) (len_ok rfl) λ p176 H178 (S177 : M (acR K p176 (([0] : List Int).map eI) :: oo8 Rs) H178) => ?_))))))
 refine g_c ?_
 obtain ⟨h180, hf⟩ := hf
 refine v_repO (e := eI) S177 0 rfl h180 λ p181 H183 (S182 : M (acR K p181 ((repL ([0] : List Int) 49).map eI) :: oo9 Rs) H183) => ?_
 have S185 : M (da K (V.ref p181) ((eL eI) (repL ([0] : List Int) 49)) :: oo9 Rs) H183 := acR_fixL S182
 refine g_cons (g_c (g_cons (g_c (g_cons (g_c (g_cons (g_c (g_cons (g_c (g_cons (g_c (g_cons (g_lst (g_cons (g_c (g_cons (g_c (g_nil (v_lsto (ds := ([1, 2] : List Int).map eI) S185 (EnF.consA (EnF.all λ _ => .int _) (EnF.consA (EnF.all λ _ => .int _) EnF.nilA)) (len_ok rfl) λ p187 H189 (S188 : M (acR K p187 (([1, 2] : List Int).map eI) :: oo10 Rs) H189) => ?_)))))))))))))))))))
 have S191 : M (da K (V.ref p187) ((eL eI) ([1, 2] : List Int)) :: oo10 Rs) H189 := acR_fixL S188
 refine g_nil (v_lsto (ds := ([(eL eI) (repL ([0] : List Int) 16), (eL eI) (repL ([0] : List Int) 17), (eL eI) (repL ([0] : List Int) 48), (eL eI) (repL ([0] : List Int) 49), eI 2, eI 50, eI 51, eI 16, eI 17, eS ("7" : Str), (eL eI) ([1, 2] : List Int)] : List PyData).map eA) S191 (EnF.consA (EnF.at 7 rfl) (EnF.consA (EnF.at 5 rfl) (EnF.consA (EnF.at 3 rfl) (EnF.consA (EnF.at 1 rfl) (EnF.consA (EnF.all λ _ => .int _) (EnF.consA (EnF.all λ _ => .int _) (EnF.consA (EnF.all λ _ => .int _) (EnF.consA (EnF.all λ _ => .int _) (EnF.consA (EnF.all λ _ => .int _) (EnF.consA (EnF.all λ _ => .str _) (EnF.consA (EnF.at 0 rfl) EnF.nilA))))))))))) (len_ok rfl) λ p193 H195 (S194 : M (acR K p193 (([(eL eI) (repL ([0] : List Int) 16), (eL eI) (repL ([0] : List Int) 17), (eL eI) (repL ([0] : List Int) 48), (eL eI) (repL ([0] : List Int) 49), eI 2, eI 50, eI 51, eI 16, eI 17, eS ("7" : Str), (eL eI) ([1, 2] : List Int)] : List PyData).map eA) :: oo11 Rs) H195) => ?_)
 have S197 : M (da K (V.ref p193) ((eL eA) ([(eL eI) (repL ([0] : List Int) 16), (eL eI) (repL ([0] : List Int) 17), (eL eI) (repL ([0] : List Int) 48), (eL eI) (repL ([0] : List Int) 49), eI 2, eI 50, eI 51, eI 16, eI 17, eS ("7" : Str), (eL eI) ([1, 2] : List Int)] : List PyData)) :: oo11 Rs) H195 := acR_fixL S194
 obtain ⟨h199, hf⟩ := hf
 refine v_catq S197 10 0 rfl rfl h199 λ p200 H202 (S201 : M (acR K p200 ((cat (cat ([eN (), eB true, eB false, eI (-1), eI 0, eI 1, eI 999, eI 1000, eI 1001, eS ("" : Str), eS ("a" : Str), eS ("A" : Str), eS ("a b" : Str), (eV eA) ([] : List PyData), (eL eI) ([] : (List Int)), (eV eI) ([1]), (eL eI) ([0] : List Int), (eL eI) ([1000] : List Int), (eL eI) ([(-1)] : List Int)] : List PyData) ([(eL eB) ([true]), (eL eN) ([()]), (eL eS) ([("a" : Str)]), (eL (eL eI)) ([([1] : List Int)]), (eD iS eA) ([] : (List (Str × PyData))), (eD iS (eL eI)) ([(("a" : Str), ([] : (List Int)))] : List (Str × (List Int))), (eD iI (eL eI)) ([(1, ([] : (List Int)))] : List (Int × (List Int))), (eD iS (eL eI)) ([(("a" : Str), ([1] : List Int))] : List (Str × (List Int))), (eP eI eI) (1, 2), eI (1000000 + 1), eI (-1000000000000000000000000000000)] : List PyData)) ([(eL eI) (repL ([0] : List Int) 16), (eL eI) (repL ([0] : List Int) 17), (eL eI) (repL ([0] : List Int) 48), (eL eI) (repL ([0] : List Int) 49), eI 2, eI 50, eI 51, eI 16, eI 17, eS ("7" : Str), (eL eI) ([1, 2] : List Int)] : List PyData)).map eA) :: oo12 Rs) H202) => ?_
 have S204 : M (da K (V.ref p200) ((eL eA) (cat (cat ([eN (), eB true, eB false, eI (-1), eI 0, eI 1, eI 999, eI 1000, eI 1001, eS ("" : Str), eS ("a" : Str), eS ("A" : Str), eS ("a b" : Str), (eV eA) ([] : List PyData), (eL eI) ([] : (List Int)), (eV eI) ([1]), (eL eI) ([0] : List Int), (eL eI) ([1000] : List Int), (eL eI) ([(-1)] : List Int)] : List PyData) ([(eL eB) ([true]), (eL eN) ([()]), (eL eS) ([("a" : Str)]), (eL (eL eI)) ([([1] : List Int)]), (eD iS eA) ([] : (List (Str × PyData))), (eD iS (eL eI)) ([(("a" : Str), ([] : (List Int)))] : List (Str × (List Int))), (eD iI (eL eI)) ([(1, ([] : (List Int)))] : List (Int × (List Int))), (eD iS (eL eI)) ([(("a" : Str), ([1] : List Int))] : List (Str × (List Int))), (eP eI eI) (1, 2), eI (1000000 + 1), eI (-1000000000000000000000000000000)] : List PyData)) ([(eL eI) (repL ([0] : List Int) 16), (eL eI) (repL ([0] : List Int) 17), (eL eI) (repL ([0] : List Int) 48), (eL eI) (repL ([0] : List Int) 49), eI 2, eI 50, eI 51, eI 16, eI 17, eS ("7" : Str), (eL eI) ([1, 2] : List Int)] : List PyData))) :: oo12 Rs) H202 := acR_fixL S201
 refine g_nx ?_
 show (_ : TS) _ [some (V.ref a_bag_here), some (V.ref p200)] _
 have S206 : M (oo6 Rs) H202 := (M.drp (M.drp (M.drp (M.drp (M.drp (M.drp (M.drp S204 11) 9) 7) 5) 3) 2) 1)
 refine g_ret (g_call (g_cons (g_op (g_var rfl (g_call (g_cons (g_var rfl (g_cons (g_cb (g_cons (g_var rfl (g_nil (v_lenl S206 0 rfl (g_nil ?_))))))))))))))
 obtain ⟨h207, hf⟩ := hf
 refine u_take (S206.at 5 rfl) h207 λ n208 H210 n208l n208u (S209 : M (oo6 Rs) H210) => ?_
 replace hf := hf n208 n208l n208u
 obtain ⟨x211, h212, hf⟩ := hf
 refine v_ixl S209 1 rfl h212 λ u213 S214 => ?_
 refine g_nil (⟨_, _, _, _, rfl, (M.addA S214 (EnF.at 0 rfl)), hf, λ x217 u220 H219 hf (S218 : M (da K u220 (eA x217) :: da K u213 (eA x211) :: oo6 Rs) H219) => ?_⟩)
 exact hk _ _ _ hf (M.pk S218 8 [0, 2] rfl)
def p_l_made_else (a_which : Int) (a_thing : PyData) (P : Ex -> Prop) : Prop := if (decide (a_which = 10)) = true then (P (Ex.NoHolder a_thing)) else (if (decide (a_which = 11)) = true then (P (Ex.Busy a_thing)) else (if (decide (a_which = 12)) = true then (P (Ex.NoRoom a_thing)) else (if (decide (a_which = 13)) = true then (P (Ex.Held a_thing)) else (if (decide (a_which = 14)) = true then (P (Ex.Broken a_thing)) else (if (decide (a_which = 15)) = true then (P (Ex.Undone a_thing)) else (if (decide (a_which = 16)) = true then (P Ex.OtherCut) else (if (decide (a_which = 17)) = true then (P Ex.NoText) else (if (decide (a_which = 18)) = true then (P Ex.NoRow) else (P Ex.NoRun)))))))))
def sp_l_made_else (K : Fr) : Sp := λ vs H Q _ => ∃ (Rs : List Res) (a_which : Int) (v_a_thing : V) (a_thing : PyData) (P : Ex -> Prop), vs = [(V.int a_which), v_a_thing] /\ M (da K v_a_thing (eA a_thing) :: Rs) H /\ p_l_made_else a_which a_thing P /\ ∀ (r : Ex) (v : V) H', P r -> M (xqR K v (eXv r) :: Rs) H' -> Q v H'
theorem len_l_made_else {K : Fr} (vs : List V) (H : Hp) (Q : VK) (E : XK) (h : sp_l_made_else K vs H Q E) : vs.length = 2 := by
 obtain ⟨Rs, a_which, v_a_thing, a_thing, P, rfl, _⟩ := h
 rfl
abbrev t_l_made_else_17 (K : Fr) : TS := (tSeq (tIfS (tTest (tOp (uEq K) (tVar 0) (tC (.int 18)))) (tRet (tMkX0 (He.ga K "NoRow"))) tNext)
 (tRet (tMkX0 (He.ga K "NoRun"))))
abbrev t_l_made_else_15 (K : Fr) : TS := (tSeq (tIfS (tTest (tOp (uEq K) (tVar 0) (tC (.int 17)))) (tRet (tMkX0 (He.ga K "NoText"))) tNext)
 (t_l_made_else_17 K))
abbrev t_l_made_else_13 (K : Fr) : TS := (tSeq (tIfS (tTest (tOp (uEq K) (tVar 0) (tC (.int 16)))) (tRet (tMkX0 (He.ga K "OtherCut"))) tNext)
 (t_l_made_else_15 K))
abbrev t_l_made_else_11 (K : Fr) : TS := (tSeq (tIfS (tTest (tOp (uEq K) (tVar 0) (tC (.int 15)))) (tRet (tMkX (He.ga K "Undone") "names" (tVar 1))) tNext)
 (t_l_made_else_13 K))
abbrev t_l_made_else_9 (K : Fr) : TS := (tSeq (tIfS (tTest (tOp (uEq K) (tVar 0) (tC (.int 14)))) (tRet (tMkX (He.ga K "Broken") "seal" (tVar 1))) tNext)
 (t_l_made_else_11 K))
abbrev t_l_made_else_7 (K : Fr) : TS := (tSeq (tIfS (tTest (tOp (uEq K) (tVar 0) (tC (.int 13)))) (tRet (tMkX (He.ga K "Held") "holders" (tVar 1))) tNext)
 (t_l_made_else_9 K))
abbrev t_l_made_else_5 (K : Fr) : TS := (tSeq (tIfS (tTest (tOp (uEq K) (tVar 0) (tC (.int 12)))) (tRet (tMkX (He.ga K "NoRoom") "room" (tVar 1))) tNext)
 (t_l_made_else_7 K))
abbrev t_l_made_else_3 (K : Fr) : TS := (tSeq (tIfS (tTest (tOp (uEq K) (tVar 0) (tC (.int 11)))) (tRet (tMkX (He.ga K "Busy") "why" (tVar 1))) tNext)
 (t_l_made_else_5 K))
abbrev t_l_made_else_1 (K : Fr) : TS := (tSeq (tIfS (tTest (tOp (uEq K) (tVar 0) (tC (.int 10)))) (tRet (tMkX (He.ga K "NoHolder") "name" (tVar 1))) tNext)
 (t_l_made_else_3 K))
abbrev t_l_made_else (K : Fr) : TS := (t_l_made_else_1 K)
theorem pure_l_made_else {K : Fr} (T : TxC K) (vs : List V) (H : Hp) (Q : VK) (E : XK) (h : sp_l_made_else K vs H Q E) : t_l_made_else K { nx := λ _ H' => Q .non H', rt := Q } (L2.start ["_law_which", "_law_thing"] vs) H := by
 obtain ⟨Rs, a_which, v_a_thing, a_thing, P, rfl, S0, hf, hk⟩ := h
 show t_l_made_else K _ [some (V.int a_which), some v_a_thing] H
 refine g_seq (g_if (g_test (g_op (g_var rfl (g_c (v_eqI (g_bl (v_iff hf (λ _ hf => ?_) (λ _ hf => ?_)))))))))
 ·
  refine g_ret (g_mkX (g_var rfl ?_))
  refine v_mkX (K := K) S0 (EnF.at 0 rfl) λ u1 H3 (S2 : M (xqR K u1 (eXv (Ex.NoHolder a_thing)) :: _ :: Rs) H3) => ?_
  exact hk _ _ _ hf (M.pk S2 2 [0] rfl)
 ·
  refine g_next (g_nx (g_seq (g_if (g_test (g_op (g_var rfl (g_c (v_eqI (g_bl (v_iff hf (λ _ hf => ?_) (λ _ hf => ?_)))))))))))
  ·
   refine g_ret (g_mkX (g_var rfl ?_))
   refine v_mkX (K := K) S0 (EnF.at 0 rfl) λ u5 H7 (S6 : M (xqR K u5 (eXv (Ex.Busy a_thing)) :: _ :: Rs) H7) => ?_
   exact hk _ _ _ hf (M.pk S6 2 [0] rfl)
  ·
   refine g_next (g_nx (g_seq (g_if (g_test (g_op (g_var rfl (g_c (v_eqI (g_bl (v_iff hf (λ _ hf => ?_) (λ _ hf => ?_)))))))))))
   ·
    refine g_ret (g_mkX (g_var rfl ?_))
    refine v_mkX (K := K) S0 (EnF.at 0 rfl) λ u9 H11 (S10 : M (xqR K u9 (eXv (Ex.NoRoom a_thing)) :: _ :: Rs) H11) => ?_
    exact hk _ _ _ hf (M.pk S10 2 [0] rfl)
   ·
    refine g_next (g_nx (g_seq (g_if (g_test (g_op (g_var rfl (g_c (v_eqI (g_bl (v_iff hf (λ _ hf => ?_) (λ _ hf => ?_)))))))))))
    ·
     refine g_ret (g_mkX (g_var rfl ?_))
     refine v_mkX (K := K) S0 (EnF.at 0 rfl) λ u13 H15 (S14 : M (xqR K u13 (eXv (Ex.Held a_thing)) :: _ :: Rs) H15) => ?_
     exact hk _ _ _ hf (M.pk S14 2 [0] rfl)
    ·
     refine g_next (g_nx (g_seq (g_if (g_test (g_op (g_var rfl (g_c (v_eqI (g_bl (v_iff hf (λ _ hf => ?_) (λ _ hf => ?_)))))))))))
     ·
      refine g_ret (g_mkX (g_var rfl ?_))
      refine v_mkX (K := K) S0 (EnF.at 0 rfl) λ u17 H19 (S18 : M (xqR K u17 (eXv (Ex.Broken a_thing)) :: _ :: Rs) H19) => ?_
      exact hk _ _ _ hf (M.pk S18 2 [0] rfl)
     ·
      refine g_next (g_nx (g_seq (g_if (g_test (g_op (g_var rfl (g_c (v_eqI (g_bl (v_iff hf (λ _ hf => ?_) (λ _ hf => ?_)))))))))))
      ·
       refine g_ret (g_mkX (g_var rfl ?_))
       refine v_mkX (K := K) S0 (EnF.at 0 rfl) λ u21 H23 (S22 : M (xqR K u21 (eXv (Ex.Undone a_thing)) :: _ :: Rs) H23) => ?_
       exact hk _ _ _ hf (M.pk S22 2 [0] rfl)
      ·
       refine g_next (g_nx (g_seq (g_if (g_test (g_op (g_var rfl (g_c (v_eqI (g_bl (v_iff hf (λ _ hf => ?_) (λ _ hf => ?_)))))))))))
       ·
        refine g_ret (v_mkX0 (K := K) S0 λ u25 H27 (S26 : M (xqR K u25 (eXv Ex.OtherCut) :: _ :: Rs) H27) => ?_)
        exact hk _ _ _ hf (M.pk S26 2 [0] rfl)
       ·
        refine g_next (g_nx (g_seq (g_if (g_test (g_op (g_var rfl (g_c (v_eqI (g_bl (v_iff hf (λ _ hf => ?_) (λ _ hf => ?_)))))))))))
        ·
         refine g_ret (v_mkX0 (K := K) S0 λ u29 H31 (S30 : M (xqR K u29 (eXv Ex.NoText) :: _ :: Rs) H31) => ?_)
         exact hk _ _ _ hf (M.pk S30 2 [0] rfl)
        ·
         refine g_next (g_nx (g_seq (g_if (g_test (g_op (g_var rfl (g_c (v_eqI (g_bl (v_iff hf (λ _ hf => ?_) (λ _ hf => ?_)))))))))))
         ·
          refine g_ret (v_mkX0 (K := K) S0 λ u33 H35 (S34 : M (xqR K u33 (eXv Ex.NoRow) :: _ :: Rs) H35) => ?_)
          exact hk _ _ _ hf (M.pk S34 2 [0] rfl)
         ·
          refine g_next (g_nx (g_ret (v_mkX0 (K := K) S0 λ u37 H39 (S38 : M (xqR K u37 (eXv Ex.NoRun) :: _ :: Rs) H39) => ?_)))
          exact hk _ _ _ hf (M.pk S38 2 [0] rfl)
def p_l_made (a_which : Int) (a_thing : PyData) (P : Ex -> Prop) : Prop := if (decide (a_which = 0)) = true then (P (Ex.Wrong a_thing)) else (if (decide (a_which = 1)) = true then (P (Ex.There a_thing)) else (if (decide (a_which = 2)) = true then (P (Ex.TooMany a_thing)) else (if (decide (a_which = 3)) = true then (P (Ex.NoBase a_thing)) else (if (decide (a_which = 4)) = true then (P (Ex.NoFit a_thing)) else (if (decide (a_which = 5)) = true then (P (Ex.Unlike a_thing)) else (if (decide (a_which = 6)) = true then (P (Ex.NoLog a_thing)) else (if (decide (a_which = 7)) = true then (P (Ex.NoFile a_thing)) else (if (decide (a_which = 8)) = true then (P (Ex.NoPiece a_thing)) else (if (decide (a_which = 9)) = true then (P (Ex.NoMoment a_thing)) else (p_l_made_else a_which a_thing λ x42 => P x42))))))))))
def sp_l_made (K : Fr) : Sp := λ vs H Q _ => ∃ (Rs : List Res) (a_which : Int) (v_a_thing : V) (a_thing : PyData) (P : Ex -> Prop), vs = [(V.int a_which), v_a_thing] /\ M (da K v_a_thing (eA a_thing) :: Rs) H /\ p_l_made a_which a_thing P /\ ∀ (r : Ex) (v : V) H', P r -> M (xqR K v (eXv r) :: Rs) H' -> Q v H'
theorem len_l_made {K : Fr} (vs : List V) (H : Hp) (Q : VK) (E : XK) (h : sp_l_made K vs H Q E) : vs.length = 2 := by
 obtain ⟨Rs, a_which, v_a_thing, a_thing, P, rfl, _⟩ := h
 rfl
abbrev t_l_made_19 (K : Fr) : TS := (tSeq (tIfS (tTest (tOp (uEq K) (tVar 0) (tC (.int 9)))) (tRet (tMkX (He.ga K "NoMoment") "time" (tVar 1))) tNext)
 (tRet (tCall (sp_l_made_else K) [] E0 (tCons (tVar 0) (tCons (tVar 1) tNil)))))
abbrev t_l_made_17 (K : Fr) : TS := (tSeq (tIfS (tTest (tOp (uEq K) (tVar 0) (tC (.int 8)))) (tRet (tMkX (He.ga K "NoPiece") "seal" (tVar 1))) tNext)
 (t_l_made_19 K))
abbrev t_l_made_15 (K : Fr) : TS := (tSeq (tIfS (tTest (tOp (uEq K) (tVar 0) (tC (.int 7)))) (tRet (tMkX (He.ga K "NoFile") "name" (tVar 1))) tNext)
 (t_l_made_17 K))
abbrev t_l_made_13 (K : Fr) : TS := (tSeq (tIfS (tTest (tOp (uEq K) (tVar 0) (tC (.int 6)))) (tRet (tMkX (He.ga K "NoLog") "at" (tVar 1))) tNext)
 (t_l_made_15 K))
abbrev t_l_made_11 (K : Fr) : TS := (tSeq (tIfS (tTest (tOp (uEq K) (tVar 0) (tC (.int 5)))) (tRet (tMkX (He.ga K "Unlike") "seal" (tVar 1))) tNext)
 (t_l_made_13 K))
abbrev t_l_made_9 (K : Fr) : TS := (tSeq (tIfS (tTest (tOp (uEq K) (tVar 0) (tC (.int 4)))) (tRet (tMkX (He.ga K "NoFit") "at" (tVar 1))) tNext)
 (t_l_made_11 K))
abbrev t_l_made_7 (K : Fr) : TS := (tSeq (tIfS (tTest (tOp (uEq K) (tVar 0) (tC (.int 3)))) (tRet (tMkX (He.ga K "NoBase") "time" (tVar 1))) tNext)
 (t_l_made_9 K))
abbrev t_l_made_5 (K : Fr) : TS := (tSeq (tIfS (tTest (tOp (uEq K) (tVar 0) (tC (.int 2)))) (tRet (tMkX (He.ga K "TooMany") "most" (tVar 1))) tNext)
 (t_l_made_7 K))
abbrev t_l_made_3 (K : Fr) : TS := (tSeq (tIfS (tTest (tOp (uEq K) (tVar 0) (tC (.int 1)))) (tRet (tMkX (He.ga K "There") "thing" (tVar 1))) tNext)
 (t_l_made_5 K))
abbrev t_l_made_1 (K : Fr) : TS := (tSeq (tIfS (tTest (tOp (uEq K) (tVar 0) (tC (.int 0)))) (tRet (tMkX (He.ga K "Wrong") "at" (tVar 1))) tNext)
 (t_l_made_3 K))
abbrev t_l_made (K : Fr) : TS := (t_l_made_1 K)
theorem pure_l_made {K : Fr} (T : TxC K) (vs : List V) (H : Hp) (Q : VK) (E : XK) (h : sp_l_made K vs H Q E) : t_l_made K { nx := λ _ H' => Q .non H', rt := Q } (L2.start ["_law_which", "_law_thing"] vs) H := by
 obtain ⟨Rs, a_which, v_a_thing, a_thing, P, rfl, S0, hf, hk⟩ := h
 show t_l_made K _ [some (V.int a_which), some v_a_thing] H
 refine g_seq (g_if (g_test (g_op (g_var rfl (g_c (v_eqI (g_bl (v_iff hf (λ _ hf => ?_) (λ _ hf => ?_)))))))))
 ·
  refine g_ret (g_mkX (g_var rfl ?_))
  refine v_mkX (K := K) S0 (EnF.at 0 rfl) λ u1 H3 (S2 : M (xqR K u1 (eXv (Ex.Wrong a_thing)) :: _ :: Rs) H3) => ?_
  exact hk _ _ _ hf (M.pk S2 2 [0] rfl)
 ·
  refine g_next (g_nx (g_seq (g_if (g_test (g_op (g_var rfl (g_c (v_eqI (g_bl (v_iff hf (λ _ hf => ?_) (λ _ hf => ?_)))))))))))
  ·
   refine g_ret (g_mkX (g_var rfl ?_))
   refine v_mkX (K := K) S0 (EnF.at 0 rfl) λ u5 H7 (S6 : M (xqR K u5 (eXv (Ex.There a_thing)) :: _ :: Rs) H7) => ?_
   exact hk _ _ _ hf (M.pk S6 2 [0] rfl)
  ·
   refine g_next (g_nx (g_seq (g_if (g_test (g_op (g_var rfl (g_c (v_eqI (g_bl (v_iff hf (λ _ hf => ?_) (λ _ hf => ?_)))))))))))
   ·
    refine g_ret (g_mkX (g_var rfl ?_))
    refine v_mkX (K := K) S0 (EnF.at 0 rfl) λ u9 H11 (S10 : M (xqR K u9 (eXv (Ex.TooMany a_thing)) :: _ :: Rs) H11) => ?_
    exact hk _ _ _ hf (M.pk S10 2 [0] rfl)
   ·
    refine g_next (g_nx (g_seq (g_if (g_test (g_op (g_var rfl (g_c (v_eqI (g_bl (v_iff hf (λ _ hf => ?_) (λ _ hf => ?_)))))))))))
    ·
     refine g_ret (g_mkX (g_var rfl ?_))
     refine v_mkX (K := K) S0 (EnF.at 0 rfl) λ u13 H15 (S14 : M (xqR K u13 (eXv (Ex.NoBase a_thing)) :: _ :: Rs) H15) => ?_
     exact hk _ _ _ hf (M.pk S14 2 [0] rfl)
    ·
     refine g_next (g_nx (g_seq (g_if (g_test (g_op (g_var rfl (g_c (v_eqI (g_bl (v_iff hf (λ _ hf => ?_) (λ _ hf => ?_)))))))))))
     ·
      refine g_ret (g_mkX (g_var rfl ?_))
      refine v_mkX (K := K) S0 (EnF.at 0 rfl) λ u17 H19 (S18 : M (xqR K u17 (eXv (Ex.NoFit a_thing)) :: _ :: Rs) H19) => ?_
      exact hk _ _ _ hf (M.pk S18 2 [0] rfl)
     ·
      refine g_next (g_nx (g_seq (g_if (g_test (g_op (g_var rfl (g_c (v_eqI (g_bl (v_iff hf (λ _ hf => ?_) (λ _ hf => ?_)))))))))))
      ·
       refine g_ret (g_mkX (g_var rfl ?_))
       refine v_mkX (K := K) S0 (EnF.at 0 rfl) λ u21 H23 (S22 : M (xqR K u21 (eXv (Ex.Unlike a_thing)) :: _ :: Rs) H23) => ?_
       exact hk _ _ _ hf (M.pk S22 2 [0] rfl)
      ·
       refine g_next (g_nx (g_seq (g_if (g_test (g_op (g_var rfl (g_c (v_eqI (g_bl (v_iff hf (λ _ hf => ?_) (λ _ hf => ?_)))))))))))
       ·
        refine g_ret (g_mkX (g_var rfl ?_))
        refine v_mkX (K := K) S0 (EnF.at 0 rfl) λ u25 H27 (S26 : M (xqR K u25 (eXv (Ex.NoLog a_thing)) :: _ :: Rs) H27) => ?_
        exact hk _ _ _ hf (M.pk S26 2 [0] rfl)
       ·
        refine g_next (g_nx (g_seq (g_if (g_test (g_op (g_var rfl (g_c (v_eqI (g_bl (v_iff hf (λ _ hf => ?_) (λ _ hf => ?_)))))))))))
        ·
         refine g_ret (g_mkX (g_var rfl ?_))
         refine v_mkX (K := K) S0 (EnF.at 0 rfl) λ u29 H31 (S30 : M (xqR K u29 (eXv (Ex.NoFile a_thing)) :: _ :: Rs) H31) => ?_
         exact hk _ _ _ hf (M.pk S30 2 [0] rfl)
        ·
         refine g_next (g_nx (g_seq (g_if (g_test (g_op (g_var rfl (g_c (v_eqI (g_bl (v_iff hf (λ _ hf => ?_) (λ _ hf => ?_)))))))))))
         ·
          refine g_ret (g_mkX (g_var rfl ?_))
          refine v_mkX (K := K) S0 (EnF.at 0 rfl) λ u33 H35 (S34 : M (xqR K u33 (eXv (Ex.NoPiece a_thing)) :: _ :: Rs) H35) => ?_
          exact hk _ _ _ hf (M.pk S34 2 [0] rfl)
         ·
          refine g_next (g_nx (g_seq (g_if (g_test (g_op (g_var rfl (g_c (v_eqI (g_bl (v_iff hf (λ _ hf => ?_) (λ _ hf => ?_)))))))))))
          ·
           refine g_ret (g_mkX (g_var rfl ?_))
           refine v_mkX (K := K) S0 (EnF.at 0 rfl) λ u37 H39 (S38 : M (xqR K u37 (eXv (Ex.NoMoment a_thing)) :: _ :: Rs) H39) => ?_
           exact hk _ _ _ hf (M.pk S38 2 [0] rfl)
          ·
           refine g_next (g_nx (g_ret (g_call (g_cons (g_var rfl (g_cons (g_var rfl (g_nil (⟨_, _, _, _, _, rfl, (M.addA S0 (EnF.at 0 rfl)), hf, λ x42 u45 H44 hf (S43 : M (xqR K u45 (eXv x42) :: _ :: Rs) H44) => ?_⟩)))))))))
           exact hk _ _ _ hf (M.pk S43 2 [0] rfl)
def p_l_classes (a_e : Ex) (P : (List Int) -> Prop) : Prop := ([(Ex.isa_Wrong a_e), (Ex.isa_There a_e), (Ex.isa_TooMany a_e), (Ex.isa_NoBase a_e)]).length + ([(Ex.isa_NoFit a_e), (Ex.isa_Unlike a_e), (Ex.isa_NoLog a_e), (Ex.isa_NoFile a_e)]).length <= 100000 /\ ((cat ([(Ex.isa_Wrong a_e), (Ex.isa_There a_e), (Ex.isa_TooMany a_e), (Ex.isa_NoBase a_e)]) ([(Ex.isa_NoFit a_e), (Ex.isa_Unlike a_e), (Ex.isa_NoLog a_e), (Ex.isa_NoFile a_e)]))).length + ([(Ex.isa_NoPiece a_e), (Ex.isa_NoMoment a_e), (Ex.isa_NoHolder a_e), (Ex.isa_Busy a_e)]).length <= 100000 /\ ((cat (cat ([(Ex.isa_Wrong a_e), (Ex.isa_There a_e), (Ex.isa_TooMany a_e), (Ex.isa_NoBase a_e)]) ([(Ex.isa_NoFit a_e), (Ex.isa_Unlike a_e), (Ex.isa_NoLog a_e), (Ex.isa_NoFile a_e)])) ([(Ex.isa_NoPiece a_e), (Ex.isa_NoMoment a_e), (Ex.isa_NoHolder a_e), (Ex.isa_Busy a_e)]))).length + ([(Ex.isa_NoRoom a_e), (Ex.isa_Held a_e), (Ex.isa_Broken a_e), (Ex.isa_Undone a_e)]).length <= 100000 /\ ((cat (cat (cat ([(Ex.isa_Wrong a_e), (Ex.isa_There a_e), (Ex.isa_TooMany a_e), (Ex.isa_NoBase a_e)]) ([(Ex.isa_NoFit a_e), (Ex.isa_Unlike a_e), (Ex.isa_NoLog a_e), (Ex.isa_NoFile a_e)])) ([(Ex.isa_NoPiece a_e), (Ex.isa_NoMoment a_e), (Ex.isa_NoHolder a_e), (Ex.isa_Busy a_e)])) ([(Ex.isa_NoRoom a_e), (Ex.isa_Held a_e), (Ex.isa_Broken a_e), (Ex.isa_Undone a_e)]))).length + ([(Ex.isa_OtherCut a_e), (Ex.isa_NoText a_e), (Ex.isa_NoRow a_e), (Ex.isa_NoRun a_e)]).length <= 100000 /\ ((-(2 ^ 62) : Int) <= 20 /\ 20 < (2 ^ 62 : Int)) /\ (rng 20).length <= 100000 /\ lcD (λ (x69 : Int) (k76 : Option Int -> Prop) => ∃ x77, atI (cat (cat (cat (cat ([(Ex.isa_Wrong a_e), (Ex.isa_There a_e), (Ex.isa_TooMany a_e), (Ex.isa_NoBase a_e)]) ([(Ex.isa_NoFit a_e), (Ex.isa_Unlike a_e), (Ex.isa_NoLog a_e), (Ex.isa_NoFile a_e)])) ([(Ex.isa_NoPiece a_e), (Ex.isa_NoMoment a_e), (Ex.isa_NoHolder a_e), (Ex.isa_Busy a_e)])) ([(Ex.isa_NoRoom a_e), (Ex.isa_Held a_e), (Ex.isa_Broken a_e), (Ex.isa_Undone a_e)])) ([(Ex.isa_OtherCut a_e), (Ex.isa_NoText a_e), (Ex.isa_NoRow a_e), (Ex.isa_NoRun a_e)])) x69 = some x77 /\ if x77 = true then (k76 (some x69)) else (k76 none)) (rng 20) [] λ acc66 => P acc66
def sp_l_classes (K : Fr) : Sp := λ vs H Q _ => ∃ (Rs : List Res) (v_a_e : V) (a_e : Ex) (P : (List Int) -> Prop), vs = [v_a_e] /\ M (xqR K v_a_e (eXv a_e) :: Rs) H /\ p_l_classes a_e P /\ ∀ (r : (List Int)) (v : V) H', P r -> M (da K v ((eL eI) r) :: Rs) H' -> Q v H'
theorem len_l_classes {K : Fr} (vs : List V) (H : Hp) (Q : VK) (E : XK) (h : sp_l_classes K vs H Q E) : vs.length = 1 := by
 obtain ⟨Rs, v_a_e, a_e, P, rfl, _⟩ := h
 rfl
abbrev t_l_classes_5 (K : Fr) : TS := (tSeq (tAsg (tOp (uAdd K) (tVar 1) (tLst (tCons (tCB (rIsO K) (tCons (tVar 0) (tCons (tC (.ref (He.ga K "OtherCut"))) tNil))) (tCons (tCB (rIsO K) (tCons (tVar 0) (tCons (tC (.ref (He.ga K "NoText"))) tNil))) (tCons (tCB (rIsO K) (tCons (tVar 0) (tCons (tC (.ref (He.ga K "NoRow"))) tNil))) (tCons (tCB (rIsO K) (tCons (tVar 0) (tCons (tC (.ref (He.ga K "NoRun"))) tNil))) tNil)))))) (gName 1))
 (tRet (tLc (iRng1 (tCons (tC (.int 20)) tNil)) (gName 2) (tB (tOp (uIx K) (tVar 1) (tVar 2))) (tVar 2) [2])))
abbrev t_l_classes_4 (K : Fr) : TS := (tSeq (tAsg (tOp (uAdd K) (tVar 1) (tLst (tCons (tCB (rIsO K) (tCons (tVar 0) (tCons (tC (.ref (He.ga K "NoRoom"))) tNil))) (tCons (tCB (rIsO K) (tCons (tVar 0) (tCons (tC (.ref (He.ga K "Held"))) tNil))) (tCons (tCB (rIsO K) (tCons (tVar 0) (tCons (tC (.ref (He.ga K "Broken"))) tNil))) (tCons (tCB (rIsO K) (tCons (tVar 0) (tCons (tC (.ref (He.ga K "Undone"))) tNil))) tNil)))))) (gName 1))
 (t_l_classes_5 K))
abbrev t_l_classes_3 (K : Fr) : TS := (tSeq (tAsg (tOp (uAdd K) (tVar 1) (tLst (tCons (tCB (rIsO K) (tCons (tVar 0) (tCons (tC (.ref (He.ga K "NoPiece"))) tNil))) (tCons (tCB (rIsO K) (tCons (tVar 0) (tCons (tC (.ref (He.ga K "NoMoment"))) tNil))) (tCons (tCB (rIsO K) (tCons (tVar 0) (tCons (tC (.ref (He.ga K "NoHolder"))) tNil))) (tCons (tCB (rIsO K) (tCons (tVar 0) (tCons (tC (.ref (He.ga K "Busy"))) tNil))) tNil)))))) (gName 1))
 (t_l_classes_4 K))
abbrev t_l_classes_2 (K : Fr) : TS := (tSeq (tAsg (tOp (uAdd K) (tVar 1) (tLst (tCons (tCB (rIsO K) (tCons (tVar 0) (tCons (tC (.ref (He.ga K "NoFit"))) tNil))) (tCons (tCB (rIsO K) (tCons (tVar 0) (tCons (tC (.ref (He.ga K "Unlike"))) tNil))) (tCons (tCB (rIsO K) (tCons (tVar 0) (tCons (tC (.ref (He.ga K "NoLog"))) tNil))) (tCons (tCB (rIsO K) (tCons (tVar 0) (tCons (tC (.ref (He.ga K "NoFile"))) tNil))) tNil)))))) (gName 1))
 (t_l_classes_3 K))
abbrev t_l_classes_1 (K : Fr) : TS := (tSeq (tAsg (tLst (tCons (tCB (rIsO K) (tCons (tVar 0) (tCons (tC (.ref (He.ga K "Wrong"))) tNil))) (tCons (tCB (rIsO K) (tCons (tVar 0) (tCons (tC (.ref (He.ga K "There"))) tNil))) (tCons (tCB (rIsO K) (tCons (tVar 0) (tCons (tC (.ref (He.ga K "TooMany"))) tNil))) (tCons (tCB (rIsO K) (tCons (tVar 0) (tCons (tC (.ref (He.ga K "NoBase"))) tNil))) tNil))))) (gName 1))
 (t_l_classes_2 K))
abbrev t_l_classes (K : Fr) : TS := (t_l_classes_1 K)
theorem pure_l_classes {K : Fr} (T : TxC K) (vs : List V) (H : Hp) (Q : VK) (E : XK) (h : sp_l_classes K vs H Q E) : t_l_classes K { nx := λ _ H' => Q .non H', rt := Q } (L2.start ["_law_e", "_law_found", "_law_k"] vs) H := by
 obtain ⟨Rs, v_a_e, a_e, P, rfl, S0, hf, hk⟩ := h
 show t_l_classes K _ [some v_a_e, none, none] H
 refine g_seq (g_asg (g_lst (g_cons (g_cb (g_cons (g_var rfl (g_cons (g_c (g_nil (v_isXV (x := a_e) T S0 0 rfl (.own _) (isa_Wrong_ok T a_e) (g_cons (g_cb (g_cons (g_var rfl (g_cons (g_c (g_nil (v_isXV (x := a_e) T S0 0 rfl (.own _) (isa_There_ok T a_e) (g_cons (g_cb (g_cons (g_var rfl (g_cons (g_c (g_nil (v_isXV (x := a_e) T S0 0 rfl (.own _) (isa_TooMany_ok T a_e) (g_cons (g_cb (g_cons (g_var rfl (g_cons (g_c (g_nil (v_isXV (x := a_e) T S0 0 rfl (.own _) (isa_NoBase_ok T a_e) (g_nil (v_lsto (ds := ([(Ex.isa_Wrong a_e), (Ex.isa_There a_e), (Ex.isa_TooMany a_e), (Ex.isa_NoBase a_e)]).map eB) S0 (EnF.consA (EnF.all λ _ => .bl _) (EnF.consA (EnF.all λ _ => .bl _) (EnF.consA (EnF.all λ _ => .bl _) (EnF.consA (EnF.all λ _ => .bl _) EnF.nilA)))) (len_ok rfl) λ p1 H3 (S2 : M (acR K p1 (([(Ex.isa_Wrong a_e), (Ex.isa_There a_e), (Ex.isa_TooMany a_e), (Ex.isa_NoBase a_e)]).map eB) :: _ :: Rs) H3) => ?_))))))))))))))))))))))))))))))))))))
 have S5 : M (da K (V.ref p1) ((eL eB) ([(Ex.isa_Wrong a_e), (Ex.isa_There a_e), (Ex.isa_TooMany a_e), (Ex.isa_NoBase a_e)])) :: _ :: Rs) H3 := acR_fixL S2
 refine g_nx ?_
 show (_ : TS) _ [some v_a_e, some (V.ref p1), none] _
 refine g_seq (g_asg (g_op (g_var rfl (g_lst (g_cons (g_cb (g_cons (g_var rfl (g_cons (g_c (g_nil (v_isXV (x := a_e) T S5 1 rfl (.own _) (isa_NoFit_ok T a_e) (g_cons (g_cb (g_cons (g_var rfl (g_cons (g_c (g_nil (v_isXV (x := a_e) T S5 1 rfl (.own _) (isa_Unlike_ok T a_e) (g_cons (g_cb (g_cons (g_var rfl (g_cons (g_c (g_nil (v_isXV (x := a_e) T S5 1 rfl (.own _) (isa_NoLog_ok T a_e) (g_cons (g_cb (g_cons (g_var rfl (g_cons (g_c (g_nil (v_isXV (x := a_e) T S5 1 rfl (.own _) (isa_NoFile_ok T a_e) (g_nil (v_lsto (ds := ([(Ex.isa_NoFit a_e), (Ex.isa_Unlike a_e), (Ex.isa_NoLog a_e), (Ex.isa_NoFile a_e)]).map eB) S5 (EnF.consA (EnF.all λ _ => .bl _) (EnF.consA (EnF.all λ _ => .bl _) (EnF.consA (EnF.all λ _ => .bl _) (EnF.consA (EnF.all λ _ => .bl _) EnF.nilA)))) (len_ok rfl) λ p7 H9 (S8 : M (acR K p7 (([(Ex.isa_NoFit a_e), (Ex.isa_Unlike a_e), (Ex.isa_NoLog a_e), (Ex.isa_NoFile a_e)]).map eB) :: oo2 Rs) H9) => ?_))))))))))))))))))))))))))))))))))))))
 have S11 : M (da K (V.ref p7) ((eL eB) ([(Ex.isa_NoFit a_e), (Ex.isa_Unlike a_e), (Ex.isa_NoLog a_e), (Ex.isa_NoFile a_e)])) :: oo2 Rs) H9 := acR_fixL S8
 obtain ⟨h13, hf⟩ := hf
 refine v_catN flB S11 (M.gotA S11 1 rfl) (M.gotA S11 0 rfl) h13 λ p14 H16 (S15 : M (acR K p14 ((cat ([(Ex.isa_Wrong a_e), (Ex.isa_There a_e), (Ex.isa_TooMany a_e), (Ex.isa_NoBase a_e)]) ([(Ex.isa_NoFit a_e), (Ex.isa_Unlike a_e), (Ex.isa_NoLog a_e), (Ex.isa_NoFile a_e)])).map eB) :: oo3 Rs) H16) => ?_
 have S18 : M (da K (V.ref p14) ((eL eB) (cat ([(Ex.isa_Wrong a_e), (Ex.isa_There a_e), (Ex.isa_TooMany a_e), (Ex.isa_NoBase a_e)]) ([(Ex.isa_NoFit a_e), (Ex.isa_Unlike a_e), (Ex.isa_NoLog a_e), (Ex.isa_NoFile a_e)]))) :: oo3 Rs) H16 := acR_fixL S15
 refine g_nx ?_
 show (_ : TS) _ [some v_a_e, some (V.ref p14), none] _
 have S20 : M (oo2 Rs) H16 := (M.drp (M.drp S18 2) 1)
 refine g_seq (g_asg (g_op (g_var rfl (g_lst (g_cons (g_cb (g_cons (g_var rfl (g_cons (g_c (g_nil (v_isXV (x := a_e) T S20 1 rfl (.own _) (isa_NoPiece_ok T a_e) (g_cons (g_cb (g_cons (g_var rfl (g_cons (g_c (g_nil (v_isXV (x := a_e) T S20 1 rfl (.own _) (isa_NoMoment_ok T a_e) (g_cons (g_cb (g_cons (g_var rfl (g_cons (g_c (g_nil (v_isXV (x := a_e) T S20 1 rfl (.own _) (isa_NoHolder_ok T a_e) (g_cons (g_cb (g_cons (g_var rfl (g_cons (g_c (g_nil (v_isXV (x := a_e) T S20 1 rfl (.own _) (isa_Busy_ok T a_e) (g_nil (v_lsto (ds := ([(Ex.isa_NoPiece a_e), (Ex.isa_NoMoment a_e), (Ex.isa_NoHolder a_e), (Ex.isa_Busy a_e)]).map eB) S20 (EnF.consA (EnF.all λ _ => .bl _) (EnF.consA (EnF.all λ _ => .bl _) (EnF.consA (EnF.all λ _ => .bl _) (EnF.consA (EnF.all λ _ => .bl _) EnF.nilA)))) (len_ok rfl) λ p21 H23 (S22 : M (acR K p21 (([(Ex.isa_NoPiece a_e), (Ex.isa_NoMoment a_e), (Ex.isa_NoHolder a_e), (Ex.isa_Busy a_e)]).map eB) :: oo2 Rs) H23) => ?_))))))))))))))))))))))))))))))))))))))
 have S25 : M (da K (V.ref p21) ((eL eB) ([(Ex.isa_NoPiece a_e), (Ex.isa_NoMoment a_e), (Ex.isa_NoHolder a_e), (Ex.isa_Busy a_e)])) :: oo2 Rs) H23 := acR_fixL S22
 obtain ⟨h27, hf⟩ := hf
 refine v_catN flB S25 (M.gotA S25 1 rfl) (M.gotA S25 0 rfl) h27 λ p28 H30 (S29 : M (acR K p28 ((cat (cat ([(Ex.isa_Wrong a_e), (Ex.isa_There a_e), (Ex.isa_TooMany a_e), (Ex.isa_NoBase a_e)]) ([(Ex.isa_NoFit a_e), (Ex.isa_Unlike a_e), (Ex.isa_NoLog a_e), (Ex.isa_NoFile a_e)])) ([(Ex.isa_NoPiece a_e), (Ex.isa_NoMoment a_e), (Ex.isa_NoHolder a_e), (Ex.isa_Busy a_e)])).map eB) :: oo3 Rs) H30) => ?_
 have S32 : M (da K (V.ref p28) ((eL eB) (cat (cat ([(Ex.isa_Wrong a_e), (Ex.isa_There a_e), (Ex.isa_TooMany a_e), (Ex.isa_NoBase a_e)]) ([(Ex.isa_NoFit a_e), (Ex.isa_Unlike a_e), (Ex.isa_NoLog a_e), (Ex.isa_NoFile a_e)])) ([(Ex.isa_NoPiece a_e), (Ex.isa_NoMoment a_e), (Ex.isa_NoHolder a_e), (Ex.isa_Busy a_e)]))) :: oo3 Rs) H30 := acR_fixL S29
 refine g_nx ?_
 show (_ : TS) _ [some v_a_e, some (V.ref p28), none] _
 have S34 : M (oo2 Rs) H30 := (M.drp (M.drp S32 2) 1)
 refine g_seq (g_asg (g_op (g_var rfl (g_lst (g_cons (g_cb (g_cons (g_var rfl (g_cons (g_c (g_nil (v_isXV (x := a_e) T S34 1 rfl (.own _) (isa_NoRoom_ok T a_e) (g_cons (g_cb (g_cons (g_var rfl (g_cons (g_c (g_nil (v_isXV (x := a_e) T S34 1 rfl (.own _) (isa_Held_ok T a_e) (g_cons (g_cb (g_cons (g_var rfl (g_cons (g_c (g_nil (v_isXV (x := a_e) T S34 1 rfl (.own _) (isa_Broken_ok T a_e) (g_cons (g_cb (g_cons (g_var rfl (g_cons (g_c (g_nil (v_isXV (x := a_e) T S34 1 rfl (.own _) (isa_Undone_ok T a_e) (g_nil (v_lsto (ds := ([(Ex.isa_NoRoom a_e), (Ex.isa_Held a_e), (Ex.isa_Broken a_e), (Ex.isa_Undone a_e)]).map eB) S34 (EnF.consA (EnF.all λ _ => .bl _) (EnF.consA (EnF.all λ _ => .bl _) (EnF.consA (EnF.all λ _ => .bl _) (EnF.consA (EnF.all λ _ => .bl _) EnF.nilA)))) (len_ok rfl) λ p35 H37 (S36 : M (acR K p35 (([(Ex.isa_NoRoom a_e), (Ex.isa_Held a_e), (Ex.isa_Broken a_e), (Ex.isa_Undone a_e)]).map eB) :: oo2 Rs) H37) => ?_))))))))))))))))))))))))))))))))))))))
 have S39 : M (da K (V.ref p35) ((eL eB) ([(Ex.isa_NoRoom a_e), (Ex.isa_Held a_e), (Ex.isa_Broken a_e), (Ex.isa_Undone a_e)])) :: oo2 Rs) H37 := acR_fixL S36
 obtain ⟨h41, hf⟩ := hf
 refine v_catN flB S39 (M.gotA S39 1 rfl) (M.gotA S39 0 rfl) h41 λ p42 H44 (S43 : M (acR K p42 ((cat (cat (cat ([(Ex.isa_Wrong a_e), (Ex.isa_There a_e), (Ex.isa_TooMany a_e), (Ex.isa_NoBase a_e)]) ([(Ex.isa_NoFit a_e), (Ex.isa_Unlike a_e), (Ex.isa_NoLog a_e), (Ex.isa_NoFile a_e)])) ([(Ex.isa_NoPiece a_e), (Ex.isa_NoMoment a_e), (Ex.isa_NoHolder a_e), (Ex.isa_Busy a_e)])) ([(Ex.isa_NoRoom a_e), (Ex.isa_Held a_e), (Ex.isa_Broken a_e), (Ex.isa_Undone a_e)])).map eB) :: oo3 Rs) H44) => ?_
 have S46 : M (da K (V.ref p42) ((eL eB) (cat (cat (cat ([(Ex.isa_Wrong a_e), (Ex.isa_There a_e), (Ex.isa_TooMany a_e), (Ex.isa_NoBase a_e)]) ([(Ex.isa_NoFit a_e), (Ex.isa_Unlike a_e), (Ex.isa_NoLog a_e), (Ex.isa_NoFile a_e)])) ([(Ex.isa_NoPiece a_e), (Ex.isa_NoMoment a_e), (Ex.isa_NoHolder a_e), (Ex.isa_Busy a_e)])) ([(Ex.isa_NoRoom a_e), (Ex.isa_Held a_e), (Ex.isa_Broken a_e), (Ex.isa_Undone a_e)]))) :: oo3 Rs) H44 := acR_fixL S43
 refine g_nx ?_
 show (_ : TS) _ [some v_a_e, some (V.ref p42), none] _
 have S48 : M (oo2 Rs) H44 := (M.drp (M.drp S46 2) 1)
 refine g_seq (g_asg (g_op (g_var rfl (g_lst (g_cons (g_cb (g_cons (g_var rfl (g_cons (g_c (g_nil (v_isXV (x := a_e) T S48 1 rfl (.own _) (isa_OtherCut_ok T a_e) (g_cons (g_cb (g_cons (g_var rfl (g_cons (g_c (g_nil (v_isXV (x := a_e) T S48 1 rfl (.own _) (isa_NoText_ok T a_e) (g_cons (g_cb (g_cons (g_var rfl (g_cons (g_c (g_nil (v_isXV (x := a_e) T S48 1 rfl (.own _) (isa_NoRow_ok T a_e) (g_cons (g_cb (g_cons (g_var rfl (g_cons (g_c (g_nil (v_isXV (x := a_e) T S48 1 rfl (.own _) (isa_NoRun_ok T a_e) (g_nil (v_lsto (ds := ([(Ex.isa_OtherCut a_e), (Ex.isa_NoText a_e), (Ex.isa_NoRow a_e), (Ex.isa_NoRun a_e)]).map eB) S48 (EnF.consA (EnF.all λ _ => .bl _) (EnF.consA (EnF.all λ _ => .bl _) (EnF.consA (EnF.all λ _ => .bl _) (EnF.consA (EnF.all λ _ => .bl _) EnF.nilA)))) (len_ok rfl) λ p49 H51 (S50 : M (acR K p49 (([(Ex.isa_OtherCut a_e), (Ex.isa_NoText a_e), (Ex.isa_NoRow a_e), (Ex.isa_NoRun a_e)]).map eB) :: oo2 Rs) H51) => ?_))))))))))))))))))))))))))))))))))))))
 have S53 : M (da K (V.ref p49) ((eL eB) ([(Ex.isa_OtherCut a_e), (Ex.isa_NoText a_e), (Ex.isa_NoRow a_e), (Ex.isa_NoRun a_e)])) :: oo2 Rs) H51 := acR_fixL S50
 obtain ⟨h55, hf⟩ := hf
 refine v_catN flB S53 (M.gotA S53 1 rfl) (M.gotA S53 0 rfl) h55 λ p56 H58 (S57 : M (acR K p56 ((cat (cat (cat (cat ([(Ex.isa_Wrong a_e), (Ex.isa_There a_e), (Ex.isa_TooMany a_e), (Ex.isa_NoBase a_e)]) ([(Ex.isa_NoFit a_e), (Ex.isa_Unlike a_e), (Ex.isa_NoLog a_e), (Ex.isa_NoFile a_e)])) ([(Ex.isa_NoPiece a_e), (Ex.isa_NoMoment a_e), (Ex.isa_NoHolder a_e), (Ex.isa_Busy a_e)])) ([(Ex.isa_NoRoom a_e), (Ex.isa_Held a_e), (Ex.isa_Broken a_e), (Ex.isa_Undone a_e)])) ([(Ex.isa_OtherCut a_e), (Ex.isa_NoText a_e), (Ex.isa_NoRow a_e), (Ex.isa_NoRun a_e)])).map eB) :: oo3 Rs) H58) => ?_
 have S60 : M (da K (V.ref p56) ((eL eB) (cat (cat (cat (cat ([(Ex.isa_Wrong a_e), (Ex.isa_There a_e), (Ex.isa_TooMany a_e), (Ex.isa_NoBase a_e)]) ([(Ex.isa_NoFit a_e), (Ex.isa_Unlike a_e), (Ex.isa_NoLog a_e), (Ex.isa_NoFile a_e)])) ([(Ex.isa_NoPiece a_e), (Ex.isa_NoMoment a_e), (Ex.isa_NoHolder a_e), (Ex.isa_Busy a_e)])) ([(Ex.isa_NoRoom a_e), (Ex.isa_Held a_e), (Ex.isa_Broken a_e), (Ex.isa_Undone a_e)])) ([(Ex.isa_OtherCut a_e), (Ex.isa_NoText a_e), (Ex.isa_NoRow a_e), (Ex.isa_NoRun a_e)]))) :: oo3 Rs) H58 := acR_fixL S57
 refine g_nx ?_
 show (_ : TS) _ [some v_a_e, some (V.ref p56), none] _
 have S62 : M (oo2 Rs) H58 := (M.drp (M.drp S60 2) 1)
 obtain ⟨h65, hf⟩ := hf
 refine g_ret (g_lc (g_iRng1 (g_cons (g_c (g_nil (v_itR h65 ?_))))))
 refine lc_rng (K := K) (e' := eI) hf S62 (λ x69 acc66 E67 H75 kk68 N70 hl71 S74 hf hp72 hn73 => ?_) (λ E67 acc66 H82 hf S81 => ?_)
 ·
  obtain ⟨x77, h78, hf⟩ := hf
  refine g_name (g_wipe rfl (g_B (g_op (g_var rfl (g_var rfl (v_ixN flB (M.gotA S74 1 rfl) h78 (g_bl (v_iff hf (λ _ hf => ?_) (λ _ hf => ?_)))))))))
  ·
   refine g_var rfl (acR_put S74 0 rfl (EnF.all λ _ => .int _) hl71 λ H80 (S79 : M (acR K E67 (acc66.map eI ++ [eI x69]) :: oo2 Rs) H80) => ?_)
   exact hp72 _ _ hf (M.pk S79 3 [0, 1, 2] rfl)
  ·
   exact hn73 _ hf (M.sub (.cons 0 rfl (.cons 0 rfl (.cons 0 rfl (.refl _)))) S74)
 have S84 : M (da K (V.ref E67) ((eL eI) acc66) :: oo2 Rs) H82 := acR_fixL S81
 exact hk _ _ _ hf (M.pk S84 3 [0] rfl)
def p_l_kinds (a_e : Ex) (P : (List Bool) -> Prop) : Prop := ([(Ex.isa_StoreError a_e), (Ex.isa_Missing a_e), (Ex.isa_Halted a_e)]).length + ([(Ex.isa_ValueError a_e), (Ex.isa_LookupError a_e), (Ex.isa_RuntimeError a_e)]).length <= 100000 /\ P (cat ([(Ex.isa_StoreError a_e), (Ex.isa_Missing a_e), (Ex.isa_Halted a_e)]) ([(Ex.isa_ValueError a_e), (Ex.isa_LookupError a_e), (Ex.isa_RuntimeError a_e)]))
def sp_l_kinds (K : Fr) : Sp := λ vs H Q _ => ∃ (Rs : List Res) (v_a_e : V) (a_e : Ex) (P : (List Bool) -> Prop), vs = [v_a_e] /\ M (xqR K v_a_e (eXv a_e) :: Rs) H /\ p_l_kinds a_e P /\ ∀ (r : (List Bool)) (v : V) H', P r -> M (da K v ((eL eB) r) :: Rs) H' -> Q v H'
theorem len_l_kinds {K : Fr} (vs : List V) (H : Hp) (Q : VK) (E : XK) (h : sp_l_kinds K vs H Q E) : vs.length = 1 := by
 obtain ⟨Rs, v_a_e, a_e, P, rfl, _⟩ := h
 rfl
abbrev t_l_kinds_1 (K : Fr) : TS := (tSeq (tAsg (tLst (tCons (tCB (rIsO K) (tCons (tVar 0) (tCons (tC (.ref (He.ga K "StoreError"))) tNil))) (tCons (tCB (rIsO K) (tCons (tVar 0) (tCons (tC (.ref (He.ga K "Missing"))) tNil))) (tCons (tCB (rIsO K) (tCons (tVar 0) (tCons (tC (.ref (He.ga K "Halted"))) tNil))) tNil)))) (gName 1))
 (tRet (tOp (uAdd K) (tVar 1) (tLst (tCons (tCB (rIsO K) (tCons (tVar 0) (tCons (tC (.ty "ValueError")) tNil))) (tCons (tCB (rIsO K) (tCons (tVar 0) (tCons (tC (.ty "LookupError")) tNil))) (tCons (tCB (rIsO K) (tCons (tVar 0) (tCons (tC (.ty "RuntimeError")) tNil))) tNil)))))))
abbrev t_l_kinds (K : Fr) : TS := (t_l_kinds_1 K)
theorem pure_l_kinds {K : Fr} (T : TxC K) (vs : List V) (H : Hp) (Q : VK) (E : XK) (h : sp_l_kinds K vs H Q E) : t_l_kinds K { nx := λ _ H' => Q .non H', rt := Q } (L2.start ["_law_e", "_law_under"] vs) H := by
 obtain ⟨Rs, v_a_e, a_e, P, rfl, S0, hf, hk⟩ := h
 show t_l_kinds K _ [some v_a_e, none] H
 refine g_seq (g_asg (g_lst (g_cons (g_cb (g_cons (g_var rfl (g_cons (g_c (g_nil (v_isXV (x := a_e) T S0 0 rfl (.own _) (isa_StoreError_ok T a_e) (g_cons (g_cb (g_cons (g_var rfl (g_cons (g_c (g_nil (v_isXV (x := a_e) T S0 0 rfl (.own _) (isa_Missing_ok T a_e) (g_cons (g_cb (g_cons (g_var rfl (g_cons (g_c (g_nil (v_isXV (x := a_e) T S0 0 rfl (.own _) (isa_Halted_ok T a_e) (g_nil (v_lsto (ds := ([(Ex.isa_StoreError a_e), (Ex.isa_Missing a_e), (Ex.isa_Halted a_e)]).map eB) S0 (EnF.consA (EnF.all λ _ => .bl _) (EnF.consA (EnF.all λ _ => .bl _) (EnF.consA (EnF.all λ _ => .bl _) EnF.nilA))) (len_ok rfl) λ p1 H3 (S2 : M (acR K p1 (([(Ex.isa_StoreError a_e), (Ex.isa_Missing a_e), (Ex.isa_Halted a_e)]).map eB) :: _ :: Rs) H3) => ?_))))))))))))))))))))))))))))
 have S5 : M (da K (V.ref p1) ((eL eB) ([(Ex.isa_StoreError a_e), (Ex.isa_Missing a_e), (Ex.isa_Halted a_e)])) :: _ :: Rs) H3 := acR_fixL S2
 refine g_nx ?_
 show (_ : TS) _ [some v_a_e, some (V.ref p1)] _
 refine g_ret (g_op (g_var rfl (g_lst (g_cons (g_cb (g_cons (g_var rfl (g_cons (g_c (g_nil (v_isXV (x := a_e) T S5 1 rfl (.ty _) (isa_ValueError_ok T a_e) (g_cons (g_cb (g_cons (g_var rfl (g_cons (g_c (g_nil (v_isXV (x := a_e) T S5 1 rfl (.ty _) (isa_LookupError_ok T a_e) (g_cons (g_cb (g_cons (g_var rfl (g_cons (g_c (g_nil (v_isXV (x := a_e) T S5 1 rfl (.ty _) (isa_RuntimeError_ok T a_e) (g_nil (v_lsto (ds := ([(Ex.isa_ValueError a_e), (Ex.isa_LookupError a_e), (Ex.isa_RuntimeError a_e)]).map eB) S5 (EnF.consA (EnF.all λ _ => .bl _) (EnF.consA (EnF.all λ _ => .bl _) (EnF.consA (EnF.all λ _ => .bl _) EnF.nilA))) (len_ok rfl) λ p7 H9 (S8 : M (acR K p7 (([(Ex.isa_ValueError a_e), (Ex.isa_LookupError a_e), (Ex.isa_RuntimeError a_e)]).map eB) :: oo2 Rs) H9) => ?_)))))))))))))))))))))))))))))
 have S11 : M (da K (V.ref p7) ((eL eB) ([(Ex.isa_ValueError a_e), (Ex.isa_LookupError a_e), (Ex.isa_RuntimeError a_e)])) :: oo2 Rs) H9 := acR_fixL S8
 obtain ⟨h13, hf⟩ := hf
 refine v_catN flB S11 (M.gotA S11 1 rfl) (M.gotA S11 0 rfl) h13 λ p14 H16 (S15 : M (acR K p14 ((cat ([(Ex.isa_StoreError a_e), (Ex.isa_Missing a_e), (Ex.isa_Halted a_e)]) ([(Ex.isa_ValueError a_e), (Ex.isa_LookupError a_e), (Ex.isa_RuntimeError a_e)])).map eB) :: oo3 Rs) H16) => ?_
 have S18 : M (da K (V.ref p14) ((eL eB) (cat ([(Ex.isa_StoreError a_e), (Ex.isa_Missing a_e), (Ex.isa_Halted a_e)]) ([(Ex.isa_ValueError a_e), (Ex.isa_LookupError a_e), (Ex.isa_RuntimeError a_e)]))) :: oo3 Rs) H16 := acR_fixL S15
 exact hk _ _ _ hf (M.pk S18 4 [0] rfl)
def p_l_kept_thing (a_which : Int) (a_e : Ex) (P : PyData -> Prop) : Prop := if (decide (a_which ∈ ([0, 4, 6] : List Int))) = true then (∃ d5, Ex.get_at a_e = some d5 /\ P d5) else (if (decide (a_which = 1)) = true then (∃ d10, Ex.get_thing a_e = some d10 /\ P d10) else (if (decide (a_which = 2)) = true then (∃ d15, Ex.get_most a_e = some d15 /\ P d15) else (if (decide (a_which ∈ ([3, 9] : List Int))) = true then (∃ d24, Ex.get_time a_e = some d24 /\ P d24) else (if (decide (a_which ∈ ([5, 8, 14] : List Int))) = true then (∃ d33, Ex.get_seal a_e = some d33 /\ P d33) else (if (decide (a_which ∈ ([7, 10] : List Int))) = true then (∃ d42, Ex.get_name a_e = some d42 /\ P d42) else (if (decide (a_which = 11)) = true then (∃ d47, Ex.get_why a_e = some d47 /\ P d47) else (if (decide (a_which = 12)) = true then (∃ d52, Ex.get_room a_e = some d52 /\ P d52) else (if (decide (a_which = 13)) = true then (∃ d57, Ex.get_holders a_e = some d57 /\ P d57) else (∃ d62, Ex.get_names a_e = some d62 /\ P d62)))))))))
def sp_l_kept_thing (K : Fr) : Sp := λ vs H Q _ => ∃ (Rs : List Res) (a_which : Int) (v_a_e : V) (a_e : Ex) (P : PyData -> Prop), vs = [(V.int a_which), v_a_e] /\ M (xqR K v_a_e (eXv a_e) :: Rs) H /\ p_l_kept_thing a_which a_e P /\ ∀ (r : PyData) (v : V) H', P r -> M (da K v (eA r) :: Rs) H' -> Q v H'
theorem len_l_kept_thing {K : Fr} (vs : List V) (H : Hp) (Q : VK) (E : XK) (h : sp_l_kept_thing K vs H Q E) : vs.length = 2 := by
 obtain ⟨Rs, a_which, v_a_e, a_e, P, rfl, _⟩ := h
 rfl
abbrev t_l_kept_thing_17 (K : Fr) : TS := (tSeq (tIfS (tTest (tOp (uEq K) (tVar 0) (tC (.int 13)))) (tRet (tXgO K "holders" (tVar 1))) tNext)
 (tRet (tXgO K "names" (tVar 1))))
abbrev t_l_kept_thing_15 (K : Fr) : TS := (tSeq (tIfS (tTest (tOp (uEq K) (tVar 0) (tC (.int 12)))) (tRet (tXgO K "room" (tVar 1))) tNext)
 (t_l_kept_thing_17 K))
abbrev t_l_kept_thing_13 (K : Fr) : TS := (tSeq (tIfS (tTest (tOp (uEq K) (tVar 0) (tC (.int 11)))) (tRet (tXgO K "why" (tVar 1))) tNext)
 (t_l_kept_thing_15 K))
abbrev t_l_kept_thing_11 (K : Fr) : TS := (tSeq (tIfS (tTest (tOp (uIn K) (tVar 0) (tTup (tCons (tC (.int 7)) (tCons (tC (.int 10)) tNil))))) (tRet (tXgO K "name" (tVar 1))) tNext)
 (t_l_kept_thing_13 K))
abbrev t_l_kept_thing_9 (K : Fr) : TS := (tSeq (tIfS (tTest (tOp (uIn K) (tVar 0) (tTup (tCons (tC (.int 5)) (tCons (tC (.int 8)) (tCons (tC (.int 14)) tNil)))))) (tRet (tXgO K "seal" (tVar 1))) tNext)
 (t_l_kept_thing_11 K))
abbrev t_l_kept_thing_7 (K : Fr) : TS := (tSeq (tIfS (tTest (tOp (uIn K) (tVar 0) (tTup (tCons (tC (.int 3)) (tCons (tC (.int 9)) tNil))))) (tRet (tXgO K "time" (tVar 1))) tNext)
 (t_l_kept_thing_9 K))
abbrev t_l_kept_thing_5 (K : Fr) : TS := (tSeq (tIfS (tTest (tOp (uEq K) (tVar 0) (tC (.int 2)))) (tRet (tXgO K "most" (tVar 1))) tNext)
 (t_l_kept_thing_7 K))
abbrev t_l_kept_thing_3 (K : Fr) : TS := (tSeq (tIfS (tTest (tOp (uEq K) (tVar 0) (tC (.int 1)))) (tRet (tXgO K "thing" (tVar 1))) tNext)
 (t_l_kept_thing_5 K))
abbrev t_l_kept_thing_1 (K : Fr) : TS := (tSeq (tIfS (tTest (tOp (uIn K) (tVar 0) (tTup (tCons (tC (.int 0)) (tCons (tC (.int 4)) (tCons (tC (.int 6)) tNil)))))) (tRet (tXgO K "at" (tVar 1))) tNext)
 (t_l_kept_thing_3 K))
abbrev t_l_kept_thing (K : Fr) : TS := (t_l_kept_thing_1 K)
theorem pure_l_kept_thing {K : Fr} (T : TxC K) (vs : List V) (H : Hp) (Q : VK) (E : XK) (h : sp_l_kept_thing K vs H Q E) : t_l_kept_thing K { nx := λ _ H' => Q .non H', rt := Q } (L2.start ["_law_which", "_law_e"] vs) H := by
 obtain ⟨Rs, a_which, v_a_e, a_e, P, rfl, S0, hf, hk⟩ := h
 show t_l_kept_thing K _ [some (V.int a_which), some v_a_e] H
 refine g_seq (g_if (g_test (g_op (g_var rfl (g_tup (g_cons (g_c (g_cons (g_c (g_cons (g_c (g_nil (v_tupq S0 (EnF.consA (EnF.all λ _ => .int _) (EnF.consA (EnF.all λ _ => .int _) (EnF.consA (EnF.all λ _ => .int _) EnF.nilA))) (len_ok rfl) λ p1 H3 (S2 : M (da K (V.ref p1) ((eV eI) [0, 4, 6]) :: _ :: Rs) H3) => ?_)))))))))))))
 refine v_inVI (M.gotA S2 0 rfl) (g_bl (v_iff hf (λ _ hf => ?_) (λ _ hf => ?_)))
 ·
  refine g_ret ?_
  obtain ⟨d5, h6, hf⟩ := hf
  refine v_xg_at T h6 S2 1 rfl (λ _ hq => g_var rfl hq) λ u7 (S8 : M (da K u7 (eA d5) :: oo2 Rs) H3) => ?_
  exact hk _ _ _ hf (M.pk S8 3 [0] rfl)
 ·
  refine g_next (g_nx (g_seq (g_if (g_test (g_op (g_var rfl (g_c (v_eqI (g_bl (v_iff hf (λ _ hf => ?_) (λ _ hf => ?_)))))))))))
  ·
   refine g_ret ?_
   obtain ⟨d10, h11, hf⟩ := hf
   refine v_xg_thing T h11 S2 1 rfl (λ _ hq => g_var rfl hq) λ u12 (S13 : M (da K u12 (eA d10) :: oo2 Rs) H3) => ?_
   exact hk _ _ _ hf (M.pk S13 3 [0] rfl)
  ·
   refine g_next (g_nx (g_seq (g_if (g_test (g_op (g_var rfl (g_c (v_eqI (g_bl (v_iff hf (λ _ hf => ?_) (λ _ hf => ?_)))))))))))
   ·
    refine g_ret ?_
    obtain ⟨d15, h16, hf⟩ := hf
    refine v_xg_most T h16 S2 1 rfl (λ _ hq => g_var rfl hq) λ u17 (S18 : M (da K u17 (eA d15) :: oo2 Rs) H3) => ?_
    exact hk _ _ _ hf (M.pk S18 3 [0] rfl)
   ·
    refine g_next (g_nx (g_seq (g_if (g_test (g_op (g_var rfl (g_tup (g_cons (g_c (g_cons (g_c (g_nil (v_tupq S2 (EnF.consA (EnF.all λ _ => .int _) (EnF.consA (EnF.all λ _ => .int _) EnF.nilA)) (len_ok rfl) λ p20 H22 (S21 : M (da K (V.ref p20) ((eV eI) [3, 9]) :: oo2 Rs) H22) => ?_)))))))))))))
    refine v_inVI (M.gotA S21 0 rfl) (g_bl (v_iff hf (λ _ hf => ?_) (λ _ hf => ?_)))
    ·
     refine g_ret ?_
     obtain ⟨d24, h25, hf⟩ := hf
     refine v_xg_time T h25 S21 2 rfl (λ _ hq => g_var rfl hq) λ u26 (S27 : M (da K u26 (eA d24) :: oo3 Rs) H22) => ?_
     exact hk _ _ _ hf (M.pk S27 4 [0] rfl)
    ·
     refine g_next (g_nx (g_seq (g_if (g_test (g_op (g_var rfl (g_tup (g_cons (g_c (g_cons (g_c (g_cons (g_c (g_nil (v_tupq S21 (EnF.consA (EnF.all λ _ => .int _) (EnF.consA (EnF.all λ _ => .int _) (EnF.consA (EnF.all λ _ => .int _) EnF.nilA))) (len_ok rfl) λ p29 H31 (S30 : M (da K (V.ref p29) ((eV eI) [5, 8, 14]) :: oo3 Rs) H31) => ?_)))))))))))))))
     refine v_inVI (M.gotA S30 0 rfl) (g_bl (v_iff hf (λ _ hf => ?_) (λ _ hf => ?_)))
     ·
      refine g_ret ?_
      obtain ⟨d33, h34, hf⟩ := hf
      refine v_xg_seal T h34 S30 3 rfl (λ _ hq => g_var rfl hq) λ u35 (S36 : M (da K u35 (eA d33) :: oo4 Rs) H31) => ?_
      exact hk _ _ _ hf (M.pk S36 5 [0] rfl)
     ·
      refine g_next (g_nx (g_seq (g_if (g_test (g_op (g_var rfl (g_tup (g_cons (g_c (g_cons (g_c (g_nil (v_tupq S30 (EnF.consA (EnF.all λ _ => .int _) (EnF.consA (EnF.all λ _ => .int _) EnF.nilA)) (len_ok rfl) λ p38 H40 (S39 : M (da K (V.ref p38) ((eV eI) [7, 10]) :: oo4 Rs) H40) => ?_)))))))))))))
      refine v_inVI (M.gotA S39 0 rfl) (g_bl (v_iff hf (λ _ hf => ?_) (λ _ hf => ?_)))
      ·
       refine g_ret ?_
       obtain ⟨d42, h43, hf⟩ := hf
       refine v_xg_name T h43 S39 4 rfl (λ _ hq => g_var rfl hq) λ u44 (S45 : M (da K u44 (eA d42) :: oo5 Rs) H40) => ?_
       exact hk _ _ _ hf (M.pk S45 6 [0] rfl)
      ·
       refine g_next (g_nx (g_seq (g_if (g_test (g_op (g_var rfl (g_c (v_eqI (g_bl (v_iff hf (λ _ hf => ?_) (λ _ hf => ?_)))))))))))
       ·
        refine g_ret ?_
        obtain ⟨d47, h48, hf⟩ := hf
        refine v_xg_why T h48 S39 4 rfl (λ _ hq => g_var rfl hq) λ u49 (S50 : M (da K u49 (eA d47) :: oo5 Rs) H40) => ?_
        exact hk _ _ _ hf (M.pk S50 6 [0] rfl)
       ·
        refine g_next (g_nx (g_seq (g_if (g_test (g_op (g_var rfl (g_c (v_eqI (g_bl (v_iff hf (λ _ hf => ?_) (λ _ hf => ?_)))))))))))
        ·
         refine g_ret ?_
         obtain ⟨d52, h53, hf⟩ := hf
         refine v_xg_room T h53 S39 4 rfl (λ _ hq => g_var rfl hq) λ u54 (S55 : M (da K u54 (eA d52) :: oo5 Rs) H40) => ?_
         exact hk _ _ _ hf (M.pk S55 6 [0] rfl)
        ·
         refine g_next (g_nx (g_seq (g_if (g_test (g_op (g_var rfl (g_c (v_eqI (g_bl (v_iff hf (λ _ hf => ?_) (λ _ hf => ?_)))))))))))
         ·
          refine g_ret ?_
          obtain ⟨d57, h58, hf⟩ := hf
          refine v_xg_holders T h58 S39 4 rfl (λ _ hq => g_var rfl hq) λ u59 (S60 : M (da K u59 (eA d57) :: oo5 Rs) H40) => ?_
          exact hk _ _ _ hf (M.pk S60 6 [0] rfl)
         ·
          refine g_next (g_nx (g_ret ?_))
          obtain ⟨d62, h63, hf⟩ := hf
          refine v_xg_names T h63 S39 4 rfl (λ _ hq => g_var rfl hq) λ u64 (S65 : M (da K u64 (eA d62) :: oo5 Rs) H40) => ?_
          exact hk _ _ _ hf (M.pk S65 6 [0] rfl)
def p_l_right (a_which : Int) (a_e : Ex) (a_thing : PyData) (P : Bool -> Prop) : Prop := jn (β := Int) (λ k2 => if (decide (a_which ∈ ([7, 8, 9, 10, 19] : List Int))) = true then (k2 1) else (k2 0)) λ s1 => jn (β := Int) (λ k13 => if (decide (a_which ∈ ([11, 12, 13, 14, 15] : List Int))) = true then (k13 2) else (k13 s1)) λ s12 => ((-(2 ^ 62) : Int) <= 6 /\ 6 < (2 ^ 62 : Int)) /\ (rng 6).length <= 100000 /\ lcD (λ (x29 : Int) (k36 : Option Bool -> Prop) => ((0 : Int) < 3) /\ k36 (some (decide ((x29 % 3) = s12)))) (rng 6) [] λ acc26 => jn (λ k49 => p_l_classes a_e λ x52 => if (!decide (x52 = [a_which])) = true then (k49 true) else (p_l_kinds a_e λ x64 => (EqOk ((eL eB) x64) /\ EqOk ((eL eB) acc26)) /\ k49 (!PyData.eqv ((eL eB) x64) ((eL eB) acc26)))) λ c45 => if c45 = true then (P false) else (jn (λ k76 => if (decide (15 < a_which)) = true then (k76 true) else (p_l_kept_thing a_which a_e λ x79 => ((eA x79) = (eA a_thing) /\ AlkOk (eA x79)) /\ k76 true)) λ c72 => P c72)
def sp_l_right (K : Fr) : Sp := λ vs H Q _ => ∃ (Rs : List Res) (a_which : Int) (v_a_e : V) (a_e : Ex) (v_a_thing : V) (a_thing : PyData) (P : Bool -> Prop), vs = [(V.int a_which), v_a_e, v_a_thing] /\ M (xqR K v_a_e (eXv a_e) :: da K v_a_thing (eA a_thing) :: Rs) H /\ p_l_right a_which a_e a_thing P /\ ∀ (r : Bool) H', P r -> M (Rs) H' -> Q (V.bl r) H'
theorem len_l_right {K : Fr} (vs : List V) (H : Hp) (Q : VK) (E : XK) (h : sp_l_right K vs H Q E) : vs.length = 3 := by
 obtain ⟨Rs, a_which, v_a_e, a_e, v_a_thing, a_thing, P, rfl, _⟩ := h
 rfl
abbrev t_l_right_7 (K : Fr) : TS := (tSeq (tIfS (tOr (tTest (tOp (uNe K) (tCall (sp_l_classes K) [] E0 (tCons (tVar 1) tNil)) (tLst (tCons (tVar 0) tNil)))) (tTest (tOp (uNe K) (tCall (sp_l_kinds K) [] E0 (tCons (tVar 1) tNil)) (tVar 4)))) (tRet (tC (.bl false))) tNext)
 (tRet (tOrV (tOp uGt (tVar 0) (tC (.int 15))) (tCall (sp_l_alike K) [] E0 (tCons (tCall (sp_l_kept_thing K) [] E0 (tCons (tVar 0) (tCons (tVar 1) tNil))) (tCons (tVar 2) tNil))))))
abbrev t_l_right_6 (K : Fr) : TS := (tSeq (tAsg (tLc (iRng1 (tCons (tC (.int 6)) tNil)) (gName 5) tYes (tOp (uEq K) (tOp uMod (tVar 5) (tC (.int 3))) (tVar 3)) [5]) (gName 4))
 (t_l_right_7 K))
abbrev t_l_right_4 (K : Fr) : TS := (tSeq (tIfS (tTest (tOp (uIn K) (tVar 0) (tTup (tCons (tC (.int 11)) (tCons (tC (.int 12)) (tCons (tC (.int 13)) (tCons (tC (.int 14)) (tCons (tC (.int 15)) tNil)))))))) (tAsg (tC (.int 2)) (gName 3)) tNext)
 (t_l_right_6 K))
abbrev t_l_right_2 (K : Fr) : TS := (tSeq (tIfS (tTest (tOp (uIn K) (tVar 0) (tTup (tCons (tC (.int 7)) (tCons (tC (.int 8)) (tCons (tC (.int 9)) (tCons (tC (.int 10)) (tCons (tC (.int 19)) tNil)))))))) (tAsg (tC (.int 1)) (gName 3)) tNext)
 (t_l_right_4 K))
abbrev t_l_right_1 (K : Fr) : TS := (tSeq (tAsg (tC (.int 0)) (gName 3))
 (t_l_right_2 K))
abbrev t_l_right (K : Fr) : TS := (t_l_right_1 K)
theorem pure_l_right {K : Fr} (vs : List V) (H : Hp) (Q : VK) (E : XK) (h : sp_l_right K vs H Q E) : t_l_right K { nx := λ _ H' => Q .non H', rt := Q } (L2.start ["_law_which", "_law_e", "_law_thing", "_law_kind", "_law_due", "_law_k"] vs) H := by
 obtain ⟨Rs, a_which, v_a_e, a_e, v_a_thing, a_thing, P, rfl, S0, hf, hk⟩ := h
 show t_l_right K _ [some (V.int a_which), some v_a_e, some v_a_thing, none, none, none] H
 refine g_seq (g_asg (g_c (g_nx ?_)))
 show (_ : TS) _ [some (V.int a_which), some v_a_e, some v_a_thing, some (V.int 0), none, none] _
 refine jn_cut (β := Int) hf (λ (s1 : Int) σ H' => σ = [some (V.int a_which), some v_a_e, some v_a_thing, some (V.int s1), none, none] /\ M (xqR K v_a_e (eXv a_e) :: da K v_a_thing (eA a_thing) :: Rs) H') (λ kk3 N4 hN5 hf => ?_) ?_
 ·
  refine g_if (g_test (g_op (g_var rfl (g_tup (g_cons (g_c (g_cons (g_c (g_cons (g_c (g_cons (g_c (g_cons (g_c (g_nil (v_tupq S0 (EnF.consA (EnF.all λ _ => .int _) (EnF.consA (EnF.all λ _ => .int _) (EnF.consA (EnF.all λ _ => .int _) (EnF.consA (EnF.all λ _ => .int _) (EnF.consA (EnF.all λ _ => .int _) EnF.nilA))))) (len_ok rfl) λ p6 H8 (S7 : M (da K (V.ref p6) ((eV eI) [7, 8, 9, 10, 19]) :: oo2 Rs) H8) => ?_))))))))))))))))
  refine v_inVI (M.gotA S7 0 rfl) (g_bl (v_iff hf (λ _ hf => ?_) (λ _ hf => ?_)))
  ·
   refine g_asg (g_c ?_)
   exact hN5 _ _ _ hf ⟨rfl, (M.pk S7 3 [1, 2] rfl)⟩
  ·
   refine g_next ?_
   exact hN5 _ _ _ hf ⟨rfl, (M.pk S7 3 [1, 2] rfl)⟩
 rintro s1 _ H11 hf ⟨rfl, S10⟩
 refine jn_cut (β := Int) hf (λ (s12 : Int) σ H' => σ = [some (V.int a_which), some v_a_e, some v_a_thing, some (V.int s12), none, none] /\ M (xqR K v_a_e (eXv a_e) :: da K v_a_thing (eA a_thing) :: Rs) H') (λ kk14 N15 hN16 hf => ?_) ?_
 ·
  refine g_if (g_test (g_op (g_var rfl (g_tup (g_cons (g_c (g_cons (g_c (g_cons (g_c (g_cons (g_c (g_cons (g_c (g_nil (v_tupq S10 (EnF.consA (EnF.all λ _ => .int _) (EnF.consA (EnF.all λ _ => .int _) (EnF.consA (EnF.all λ _ => .int _) (EnF.consA (EnF.all λ _ => .int _) (EnF.consA (EnF.all λ _ => .int _) EnF.nilA))))) (len_ok rfl) λ p17 H19 (S18 : M (da K (V.ref p17) ((eV eI) [11, 12, 13, 14, 15]) :: oo2 Rs) H19) => ?_))))))))))))))))
  refine v_inVI (M.gotA S18 0 rfl) (g_bl (v_iff hf (λ _ hf => ?_) (λ _ hf => ?_)))
  ·
   refine g_asg (g_c ?_)
   exact hN16 _ _ _ hf ⟨rfl, (M.pk S18 3 [1, 2] rfl)⟩
  ·
   refine g_next ?_
   exact hN16 _ _ _ hf ⟨rfl, (M.pk S18 3 [1, 2] rfl)⟩
 rintro s12 _ H22 hf ⟨rfl, S21⟩
 obtain ⟨h25, hf⟩ := hf
 refine g_seq (g_asg (g_lc (g_iRng1 (g_cons (g_c (g_nil (v_itR h25 ?_)))))))
 refine lc_rng (K := K) (e' := eB) hf S21 (λ x29 acc26 E27 H35 kk28 N30 hl31 S34 hf hp32 hn33 => ?_) (λ E27 acc26 H41 hf S40 => ?_)
 ·
  obtain ⟨h37, hf⟩ := hf
  refine g_name (g_wipe rfl (g_yes (v_ifT (g_op (g_op (g_var rfl (g_c (v_mod h37 (g_var rfl (v_eqI (acR_put S34 0 rfl (EnF.all λ _ => .bl _) hl31 λ H39 (S38 : M (acR K E27 (acc26.map eB ++ [eB (decide ((x29 % 3) = s12))]) :: oo2 Rs) H39) => ?_)))))))))))
  exact hp32 _ _ hf (M.pk S38 3 [0, 1, 2] rfl)
 have S43 : M (da K (V.ref E27) ((eL eB) acc26) :: oo2 Rs) H41 := acR_fixL S40
 refine g_nx ?_
 show (_ : TS) _ [some (V.int a_which), some v_a_e, some v_a_thing, some (V.int s12), some (V.ref E27), none] _
 refine g_seq (g_if ?_)
 refine tt_cut hf (λ H => M (da K (V.ref E27) ((eL eB) acc26) :: xqR K v_a_e (eXv a_e) :: da K v_a_thing (eA a_thing) :: Rs) H) (λ kk46 P47 hP48 hf => ?_) ?_
 ·
  refine g_or (g_test (g_op (g_call (g_cons (g_var rfl (g_nil (⟨_, _, _, _, rfl, (M.addX S43 1 rfl), hf, λ x52 u55 H54 hf (S53 : M (da K u55 ((eL eI) x52) :: oo3 Rs) H54) => ?_⟩)))))))
  refine g_lst (g_cons (g_var rfl (g_nil (v_lsto (ds := ([a_which]).map eI) S53 (EnF.consA (EnF.all λ _ => .int _) EnF.nilA) (len_ok rfl) λ p57 H59 (S58 : M (acR K p57 (([a_which]).map eI) :: oo4 Rs) H59) => ?_))))
  have S61 : M (da K (V.ref p57) ((eL eI) ([a_which])) :: oo4 Rs) H59 := acR_fixL S58
  refine v_neLI (M.gotA S61 1 rfl) (M.gotA S61 0 rfl) (g_bl (v_iff hf (λ _ hf => ?_) (λ _ hf => ?_)))
  ·
   exact hP48 _ _ hf (M.pk S61 5 [2, 3, 4] rfl)
  ·
   refine g_test (g_op (g_call (g_cons (g_var rfl (g_nil (⟨_, _, _, _, rfl, (M.addX S61 3 rfl), hf, λ x64 u67 H66 hf (S65 : M (da K u67 ((eL eB) x64) :: oo5 Rs) H66) => ?_⟩))))))
   obtain ⟨h69, hf⟩ := hf
   refine g_var rfl (v_neq (M.gotA S65 0 rfl) (M.gotA S65 3 rfl) h69.1 h69.2 (g_bl ?_))
   exact hP48 _ _ hf (M.pk S65 6 [3, 4, 5] rfl)
 intro c45 H71 hf S70
 refine v_iff hf (λ _ hf => ?_) (λ _ hf => ?_)
 ·
  refine g_ret (g_c ?_)
  exact hk _ _ hf (M.sub (.tl (.tl (.tl (.refl _)))) S70)
 ·
  refine g_next (g_nx (g_ret ?_))
  refine te_cut hf (λ H => M (da K (V.ref E27) ((eL eB) acc26) :: xqR K v_a_e (eXv a_e) :: da K v_a_thing (eA a_thing) :: Rs) H) (λ kk73 P74 hP75 hf => ?_) ?_
  ·
   refine g_orV (g_op (g_var rfl (g_c (v_gt (g_bl (v_iff hf (λ _ hf => ?_) (λ _ hf => ?_)))))))
   ·
    exact hP75 _ _ hf (M.sub (.cons 0 rfl (.cons 0 rfl (.cons 0 rfl (.refl _)))) S70)
   ·
    refine g_call (g_cons (g_call (g_cons (g_var rfl (g_cons (g_var rfl (g_nil (⟨_, _, _, _, _, rfl, (M.addX S70 1 rfl), hf, λ x79 u82 H81 hf (S80 : M (da K u82 (eA x79) :: da K (V.ref E27) ((eL eB) acc26) :: xqR K v_a_e (eXv a_e) :: da K v_a_thing (eA a_thing) :: Rs) H81) => ?_⟩))))))))
    refine g_cons (g_var rfl (g_nil ?_))
    obtain ⟨h84, hf⟩ := hf
    refine ⟨_, _, _, rfl, (Dq.dn (M.gotA S80 0 rfl)), (Dn.by_ h84.1 (Dq.dn (M.gotA S80 3 rfl))), h84.2, ?_⟩
    exact hP75 _ _ hf (M.pk S80 4 [1, 2, 3] rfl)
  intro c72 H86 hf S85
  exact hk _ _ hf (M.sub (.tl (.tl (.tl (.refl _)))) S85)
theorem shn_b {dp sz : Nat} {d : PyData} (ok : dOk d) (h : (d.showable && (decide (d.depth <= dp) && decide (d.shown.length <= sz))) = true) : Shn dp sz d := by
 simp only [Bool.and_eq_true, decide_eq_true_eq] at h
 exact ⟨ok, h.1, h.2.1, h.2.2⟩
def odd1 : List PyData := [eN (), eB true, eB false, eI (-1), eI 0, eI 1, eI 999, eI 1000, eI 1001, eS ("" : Str), eS ("a" : Str), eS ("A" : Str), eS ("a b" : Str), (eV eA) ([] : List PyData), (eL eI) ([] : (List Int)), (eV eI) ([1]), (eL eI) ([0] : List Int), (eL eI) ([1000] : List Int), (eL eI) ([(-1)] : List Int)]
def odd2 : List PyData := [(eL eB) ([true]), (eL eN) ([()]), (eL eS) ([("a" : Str)]), (eL (eL eI)) ([([1] : List Int)]), (eD iS eA) ([] : (List (Str × PyData))), (eD iS (eL eI)) ([(("a" : Str), ([] : (List Int)))] : List (Str × (List Int))), (eD iI (eL eI)) ([(1, ([] : (List Int)))] : List (Int × (List Int))), (eD iS (eL eI)) ([(("a" : Str), ([1] : List Int))] : List (Str × (List Int))), (eP eI eI) (1, 2), eI (1000000 + 1), eI (-1000000000000000000000000000000)]
def odd3 : List PyData := [(eL eI) (repL ([0] : List Int) 16), (eL eI) (repL ([0] : List Int) 17), (eL eI) (repL ([0] : List Int) 48), (eL eI) (repL ([0] : List Int) 49), eI 2, eI 50, eI 51, eI 16, eI 17, eS ("7" : Str), (eL eI) ([1, 2] : List Int)]
theorem oks : ∀ (ds : List PyData), (∀ d ∈ ds, dOk d) -> dOkA ds
 | [], _ => trivial
 | d :: ds, h => ⟨h d List.mem_cons_self, oks ds λ x hx => h x (List.mem_cons_of_mem _ hx)⟩
theorem ok_ints (xs : List Int) : dOk (eL eI xs) := by
 refine (show dOkA (xs.map eI) from oks _ λ d hd => ?_)
 obtain ⟨i, _, rfl⟩ := List.mem_map.mp hd
 exact trivial
theorem odd1_shn : ∀ x ∈ odd1, Shn 2 400 x /\ cpOk 7 x := by
 intro x hx
 simp only [odd1, List.mem_cons, List.not_mem_nil, or_false] at hx
 rcases hx with rfl | rfl | rfl | rfl | rfl | rfl | rfl | rfl | rfl | rfl | rfl | rfl | rfl | rfl | rfl | rfl | rfl | rfl | rfl
 all_goals refine ⟨shn_b (by first | exact trivial | exact ok_ints _ | exact (show SeqAt.shaped _ = true by decide +kernel) | exact ⟨trivial, trivial⟩) (by decide +kernel), ?_⟩
 all_goals first
   | exact trivial
   | (refine ⟨by decide, λ x hx => ?_⟩
      cases hx
      done)
   | (refine ⟨by decide, λ x hx => ?_⟩
      rcases List.mem_singleton.mp hx with rfl
      exact trivial)
theorem odd2_shn : ∀ x ∈ odd2, Shn 2 400 x /\ cpOk 7 x := by
 intro x hx
 simp only [odd2, List.mem_cons, List.not_mem_nil, or_false] at hx
 have one : ∀ d : PyData, cpOk 6 d -> cpOk 7 (.list [d]) := λ d h => ⟨by simp, λ x hx => by rcases List.mem_singleton.mp hx with rfl; exact h⟩
 have dic : ∀ k d : PyData, cpOk 6 d -> cpOk 7 (.dict [(k, d)]) := λ k d h => ⟨by simp, by simp, λ x hx => by rcases List.mem_singleton.mp hx with rfl; exact h⟩
 have l0 : cpOk 6 (.list []) := ⟨by simp, λ x hx => nomatch hx⟩
 have l1 : cpOk 6 (.list [.int 1]) := ⟨by simp, λ x hx => by rcases List.mem_singleton.mp hx with rfl; exact trivial⟩
 rcases hx with rfl | rfl | rfl | rfl | rfl | rfl | rfl | rfl | rfl | rfl | rfl
 · exact ⟨shn_b ⟨trivial, trivial⟩ (by decide +kernel), one _ trivial⟩
 · exact ⟨shn_b ⟨trivial, trivial⟩ (by decide +kernel), one _ trivial⟩
 · exact ⟨shn_b ⟨(show SeqAt.shaped _ = true by decide +kernel), trivial⟩ (by decide +kernel), one _ trivial⟩
 · exact ⟨shn_b ⟨ok_ints _, trivial⟩ (by decide +kernel), one _ l1⟩
 · exact ⟨shn_b ⟨List.nodup_nil, trivial⟩ (by decide +kernel), ⟨by decide, List.nodup_nil, λ x hx => nomatch hx⟩⟩
 · exact ⟨shn_b ⟨List.pairwise_singleton _ _, ok_ints _, trivial⟩ (by decide +kernel), dic _ _ l0⟩
 · exact ⟨shn_b ⟨List.pairwise_singleton _ _, ok_ints _, trivial⟩ (by decide +kernel), dic _ _ l0⟩
 · exact ⟨shn_b ⟨List.pairwise_singleton _ _, ok_ints _, trivial⟩ (by decide +kernel), dic _ _ l1⟩
 · exact ⟨shn_b ⟨trivial, trivial, trivial⟩ (by decide +kernel), ⟨by decide, λ x hx => by rcases List.mem_cons.mp hx with rfl | hx; exact trivial; rcases List.mem_singleton.mp hx with rfl; exact trivial⟩⟩
 · exact ⟨shn_b trivial (by decide +kernel), trivial⟩
 · exact ⟨shn_b trivial (by decide +kernel), trivial⟩
theorem cp_ints {xs : List Int} (h : xs.length <= 1000) : cpOk 7 (eL eI xs) := ⟨by rw [List.length_map]; exact h, λ x hx => by obtain ⟨i, _, rfl⟩ := List.mem_map.mp hx; exact trivial⟩
theorem odd3_shn : ∀ x ∈ odd3, Shn 2 400 x /\ cpOk 7 x := by
 intro x hx
 simp only [odd3, List.mem_cons, List.not_mem_nil, or_false] at hx
 rcases hx with rfl | rfl | rfl | rfl | rfl | rfl | rfl | rfl | rfl | rfl | rfl
 all_goals exact ⟨shn_b (by first | exact trivial | exact ok_ints _ | exact (show SeqAt.shaped _ = true by decide +kernel)) (by decide +kernel), by first | exact trivial | exact cp_ints (by decide +kernel)⟩
def Odd (x : PyData) : Prop := x ∈ odd1 \/ x ∈ odd2 \/ x ∈ odd3
theorem Odd.shn {x : PyData} (h : Odd x) : Shn 2 400 x := by
 rcases h with h | h | h
 · exact (odd1_shn x h).1
 · exact (odd2_shn x h).1
 · exact (odd3_shn x h).1
theorem Odd.cp {x : PyData} (h : Odd x) : cpOk 7 x := by
 rcases h with h | h | h
 · exact (odd1_shn x h).2
 · exact (odd2_shn x h).2
 · exact (odd3_shn x h).2
theorem odd_ok {P : PyData -> Prop} (h : ∀ x, Odd x -> P x) : p_l_odd P := by
 refine ⟨by decide +kernel, by decide +kernel, by decide +kernel, by decide +kernel, by decide +kernel, by decide +kernel, ?_⟩
 refine tk (by decide +kernel) λ v h0 h1 => ?_
 show ∃ x, atI (cat (cat odd1 odd2) odd3) v = some x /\ _
 obtain ⟨x, hx, e⟩ := atI_ex (xs := cat (cat odd1 odd2) odd3) h0 h1
 have hx : x ∈ (odd1 ++ odd2) ++ odd3 := hx
 have ho : Odd x := by
   rcases List.mem_append.mp hx with hx | hx
   · rcases List.mem_append.mp hx with hx | hx
     · exact .inl hx
     · exact .inr (.inl hx)
   · exact .inr (.inr hx)
 exact ⟨x, e, ho.cp, h x ho⟩
theorem jn_ok {β : Type} {f : (β -> Prop) -> Prop} {k : β -> Prop} (G : β -> Prop) (h1 : ∀ kk : β -> Prop, (∀ b, G b -> kk b) -> f kk) (h2 : ∀ b, G b -> k b) : jn f k := h1 k h2
theorem u_bag {K : Fr} {Rs : List Res} {H : Hp} {a : Addr} {ns : List Int} {Q : VK} {E : XK} (S : M Rs H) (h : Ent Rs (λ H => SqL K H a (ns.map V.int))) (hl : ns.length <= 63) (k : ∀ bag H', M (bagR bag :: Rs) H' -> Q (.ref bag) H') :
   sp_l_bag K ([.ref a] ++ []) H Q E := ⟨Rs, a, ns, rfl, S, h, hl, k⟩
def sp_law (K : Fr) : Sp := λ vs H Q _ => ∃ (a : Addr) (ns : List Int), vs = [.ref a] /\ SqL K H a (ns.map V.int) /\ ns.length <= 63 /\ ∀ H', Q (.bl true) H'
theorem len_law {K : Fr} (vs : List V) (H : Hp) (Q : VK) (E : XK) (h : sp_law K vs H Q E) : vs.length = 1 := by
 obtain ⟨x, y, rfl, _⟩ := h
 rfl
theorem law_start (K : Fr) (H : Hp) (a : Addr) (ns : List Int) (hl : ns.length <= 63) (hS : SqL K H a (ns.map V.int)) : sp_law K [.ref a] H (λ v _ => v = .bl true) λ _ _ _ => False := ⟨a, ns, rfl, hS, hl, λ _ => rfl⟩
def p_law (P : Bool -> Prop) : Prop := takeD 20 λ n6 => ((-(2 ^ 62) : Int) <= 20 /\ 20 < (2 ^ 62 : Int)) /\ forD (λ (x13 : Int) (s10 : (List (Int × Ex × PyData))) (k11 : ((List (Int × Ex × PyData))) -> Prop) => p_l_odd λ x20 => p_l_odd λ x25 => takeD 1000000000000000000 λ n37 => takeD 3 λ n45 => ∃ x50, atI ([eA x20, (eL eA) ([eA x25, eS ("a" : Str)] : List PyData), eI n37] : List PyData) n45 = some x50 /\ (CMul 7 x13 \/ CMulW 7 x13) /\ ((0 : Int) < 20) /\ p_l_made ((n6 + (7 * x13)) % 20) x50 λ x59 => (s10).length < 100000 /\ k11 (s10 ++ [(((n6 + (7 * x13)) % 20), x59, x50)])) (rng 20) ([] : (List (Int × Ex × PyData))) λ s10 => ((s10).length + ((s10).reverse).length <= 100000) /\ forD (λ (x95 : (Int × Ex × PyData)) (s92 : Unit) (k93 : (Unit) -> Prop) => p_l_right x95.1 x95.2.1 x95.2.2 λ x113 => if (!x113) = true then (P false) else (k93 ())) (s10 ++ s10.reverse) () λ s92 => P true
def cls20 (x : Ex) : List Bool := cat (cat (cat (cat ([(Ex.isa_Wrong x), (Ex.isa_There x), (Ex.isa_TooMany x), (Ex.isa_NoBase x)]) ([(Ex.isa_NoFit x), (Ex.isa_Unlike x), (Ex.isa_NoLog x), (Ex.isa_NoFile x)])) ([(Ex.isa_NoPiece x), (Ex.isa_NoMoment x), (Ex.isa_NoHolder x), (Ex.isa_Busy x)])) ([(Ex.isa_NoRoom x), (Ex.isa_Held x), (Ex.isa_Broken x), (Ex.isa_Undone x)])) ([(Ex.isa_OtherCut x), (Ex.isa_NoText x), (Ex.isa_NoRow x), (Ex.isa_NoRun x)])
def kin6 (x : Ex) : List Bool := cat ([(Ex.isa_StoreError x), (Ex.isa_Missing x), (Ex.isa_Halted x)]) ([(Ex.isa_ValueError x), (Ex.isa_LookupError x), (Ex.isa_RuntimeError x)])
def kd17 (w : Int) : Int := if (decide (w ∈ ([11, 12, 13, 14, 15] : List Int))) = true then 2 else if (decide (w ∈ ([7, 8, 9, 10, 19] : List Int))) = true then 1 else 0
theorem classes_ok {x : Ex} {w : Int} {P : List Int -> Prop} (e : (rng 20).filterMap (λ k => if atI (cls20 x) k = some true then some k else none) = [w]) (h : P [w]) : p_l_classes x P := by
 refine ⟨len_ok rfl, len_ok rfl, len_ok rfl, len_ok rfl, by decide, by decide, ?_⟩
 refine lcD_fm (λ k => if atI (cls20 x) k = some true then some k else none) (λ k hk kk hkk => ?_) (by rw [List.nil_append, e]; exact h)
 have hr := rng_mem hk
 obtain ⟨b, _, hb⟩ := atI_ex (xs := cls20 x) (i := k) hr.1 (show k < ((20 : Nat) : Int) from hr.2)
 refine ⟨b, hb, ?_⟩
 rw [hb] at hkk
 cases b with
 | true =>
   rw [if_pos rfl] at hkk ⊢
   exact hkk
 | false =>
   rw [if_neg (by simp)] at hkk ⊢
   exact hkk
theorem rng_ix {n x : Int} {i : Nat} (h : (rng n)[i]? = some x) : x = i := by
 unfold rng at h
 rw [List.getElem?_map] at h
 cases e : (List.range n.toNat)[i]? with
 | none => rw [e] at h; cases h
 | some j =>
   rw [e] at h
   have := List.getElem?_eq_some_iff.mp e
   obtain ⟨hl, e2⟩ := this
   rw [List.getElem_range] at e2
   cases h
   rw [e2]
   show (0 : Int) + (j : Int) = j
   omega
theorem eqb_ok (xs : List Bool) : EqOk ((eL eB) xs) := by
 have hc : PyData.canLayAll0 (xs.map eB) = true /\ PyData.depthAll (xs.map eB) = 0 := by
   induction xs with
   | nil => exact ⟨rfl, rfl⟩
   | cons x xs ih =>
     rw [List.map_cons]
     refine ⟨by rw [PyData.canLayAll0, ih.1]; rfl, ?_⟩
     rw [PyData.depthAll, ih.2]
     rfl
 show SeqAt.shaped (.list (xs.map eB)) = true
 unfold SeqAt.shaped
 rw [Bool.and_eq_true]
 refine ⟨by rw [PyData.canLay0]; exact hc.1, decide_eq_true ?_⟩
 simp only [PyData.depth, hc.2]
 decide
theorem right17 {w : Int} {x : Ex} {d : PyData} {P : Bool -> Prop} (e1 : (rng 20).filterMap (λ k => if atI (cls20 x) k = some true then some k else none) = [w]) (e2 : kin6 x = (rng 6).map λ k => decide (k % 3 = kd17 w)) (e3 : 15 < w \/ ∀ Q : PyData -> Prop, Q d -> p_l_kept_thing w x Q) (a : AlkOk d) (h : P true) : p_l_right w x d P := by
 unfold p_l_right
 refine jn_ok (β := Int) (λ s => s = if (decide (w ∈ ([7, 8, 9, 10, 19] : List Int))) = true then 1 else 0) (λ k hk => ?_) λ s hs => ?_
 · split
   · rename_i c
     exact hk _ (by rw [if_pos c])
   · rename_i c
     exact hk _ (by rw [if_neg c])
 subst hs
 refine jn_ok (β := Int) (λ s => s = kd17 w) (λ k hk => ?_) λ s hs => ?_
 · unfold kd17 at hk
   split
   · rename_i c
     exact hk _ (by rw [if_pos c])
   · rename_i c
     exact hk _ (by rw [if_neg c])
 subst hs
 refine ⟨by decide, by decide, lcD_map (λ k => decide (k % 3 = kd17 w)) (λ k _ kk hk => ⟨by decide, hk⟩) ?_⟩
 rw [List.nil_append]
 refine jn_ok (β := Bool) (λ c => c = false) (λ k hk => classes_ok e1 ?_) λ c hc => ?_
 · rw [if_neg (by simp)]
   refine ⟨len_ok rfl, ⟨eqb_ok _, eqb_ok _⟩, hk _ ?_⟩
   have : cat ([(Ex.isa_StoreError x), (Ex.isa_Missing x), (Ex.isa_Halted x)]) ([(Ex.isa_ValueError x), (Ex.isa_LookupError x), (Ex.isa_RuntimeError x)]) = (rng 6).map λ k => decide (k % 3 = kd17 w) := e2
   rw [this, SeqAt.eqv_refl _ (shaped_depth (eqb_ok _)).1]
   rfl
 · subst hc
   rw [if_neg (by decide)]
   refine jn_ok (β := Bool) (λ c => c = true) (λ k hk => ?_) λ c hc => by subst hc; exact h
   rcases e3 with e3 | e3
   · rw [if_pos (decide_eq_true e3)]
     exact hk _ rfl
   · split
     · exact hk _ rfl
     · exact e3 _ ⟨⟨rfl, a⟩, hk _ rfl⟩
def Rf (d : PyData) (w : Int) (x : Ex) : Prop := ∀ P : Bool -> Prop, P true -> p_l_right w x d P
theorem made17 {w : Int} {d : PyData} {P : Ex -> Prop} (hw : 0 <= w /\ w < 20) (a : AlkOk d) (h : ∀ x, Rf d w x -> P x) : p_l_made w d P := by
 have kept : ∀ {w : Int} {x : Ex}, (∀ Q : PyData -> Prop, Q d -> p_l_kept_thing w x Q) -> (rng 20).filterMap (λ k => if atI (cls20 x) k = some true then some k else none) = [w] -> kin6 x = ((rng 6).map λ k => decide (k % 3 = kd17 w)) -> Rf d w x := λ e3 e1 e2 P hP => right17 e1 e2 (.inr e3) a hP
 have late : ∀ {w : Int} {x : Ex}, 15 < w -> (rng 20).filterMap (λ k => if atI (cls20 x) k = some true then some k else none) = [w] -> kin6 x = ((rng 6).map λ k => decide (k % 3 = kd17 w)) -> Rf d w x := λ e3 e1 e2 P hP => right17 e1 e2 (.inl e3) a hP
 have c : w = 0 \/ w = 1 \/ w = 2 \/ w = 3 \/ w = 4 \/ w = 5 \/ w = 6 \/ w = 7 \/ w = 8 \/ w = 9 \/ w = 10 \/ w = 11 \/ w = 12 \/ w = 13 \/ w = 14 \/ w = 15 \/ w = 16 \/ w = 17 \/ w = 18 \/ w = 19 := by omega
 rcases c with rfl | rfl | rfl | rfl | rfl | rfl | rfl | rfl | rfl | rfl | rfl | rfl | rfl | rfl | rfl | rfl | rfl | rfl | rfl | rfl
 all_goals simp [p_l_made, p_l_made_else]
 all_goals refine h _ ?_
 all_goals first
   | exact kept (λ Q hQ => by simp [p_l_kept_thing, Ex.get_at, Ex.get_thing, Ex.get_most, Ex.get_time, Ex.get_seal, Ex.get_name, Ex.get_why, Ex.get_room, Ex.get_holders, Ex.get_names]; exact hQ) (by rfl) (by rfl)
   | exact late (by decide) (by rfl) (by rfl)
theorem law_plain : p_law (λ b => b = true) := by
 unfold p_law
 refine tk (by decide) λ f lf uf => ⟨by decide, ?_⟩
 refine forD_inv (λ i (s : List (Int × Ex × PyData)) => s.length = i /\ ∀ q ∈ s, Rf q.2.2 q.1 q.2.1) (n := 0) ⟨rfl, λ _ z => nomatch z⟩ (λ i x s kk hx hi hk => ?_) λ s hi => ?_
 · obtain ⟨h1, h2⟩ := hi
   rw [Nat.zero_add] at h1 hk
   have hxi := rng_ix hx
   have il : i < 20 := by
     have := (List.getElem?_eq_some_iff.mp hx).1
     rwa [rng_len] at this
   subst hxi
   refine odd_ok λ a ha => odd_ok λ b hb => tk (by decide) λ n ln un => tk (by decide) λ w lw uw => ?_
   obtain ⟨d, hd, e⟩ := atI_ex (xs := ([eA a, (eL eA) ([eA b, eS ("a" : Str)] : List PyData), eI n] : List PyData)) lw uw
   have ak : AlkOk d := by
     simp only [List.mem_cons, List.not_mem_nil, or_false] at hd
     rcases hd with rfl | rfl | rfl
     · exact ha.shn.alk (by decide) (by decide)
     · refine (Shn.listE (dp := 2) (s := 400) (e := eA) (n := 2) (xs := [eA b, eS ("a" : Str)]) (λ x hx => ?_) (Nat.le_refl 2)).alk (by decide) (by decide)
       rcases List.mem_cons.mp hx with rfl | hx
       · exact hb.shn
       · rcases List.mem_singleton.mp hx with rfl
         exact (Shn.wd (s := "a") (by decide +kernel)).up (Nat.zero_le _) (by decide)
     · exact (Shn.int 30 (by decide) (by omega) (by omega)).alk (by decide) (by decide)
   refine ⟨d, e, cmul ⟨by omega, by omega⟩ ⟨by omega, by omega⟩, by decide, made17 ⟨Int.emod_nonneg _ (by decide), Int.emod_lt_of_pos _ (by decide)⟩ ak λ y hy => ⟨by omega, hk _ ⟨by rw [List.length_append, h1]; rfl, λ q hq => ?_⟩⟩⟩
   rcases List.mem_append.mp hq with z | z
   · exact h2 q z
   · rcases List.mem_singleton.mp z with rfl
     exact hy
 · obtain ⟨h1, h2⟩ := hi
   rw [Nat.zero_add, rng_len] at h1
   have h1 : s.length = 20 := h1
   refine ⟨by rw [List.length_reverse]; omega, forD_inv (λ _ _ => True) (n := 0) trivial (λ i q u kk hx _ hk => ?_) λ u _ => rfl⟩
   have hq := List.mem_of_getElem? hx
   have hq : q ∈ s := by
     rcases List.mem_append.mp hq with z | z
     · exact z
     · exact List.mem_reverse.mp z
   refine h2 q hq _ ?_
   rw [if_neg (by decide)]
   exact hk () trivial
abbrev t_law_6 (K : Fr) : TS := (tSeq (tAsg (tOp uMod (tOp (uAdd K) (tVar 3) (tOp uMul (tC (.int 7)) (tVar 4))) (tC (.int 20))) (gName 6))
 (tDrop (tBM K "list" rAppend (tVar 2) (tCons (tTup (tCons (tVar 6) (tCons (tCall (sp_l_made K) [] E0 (tCons (tVar 6) (tCons (tVar 5) tNil))) (tCons (tVar 5) tNil)))) tNil))))
abbrev t_law_5 (K : Fr) : TS := (tSeq (tAsg (tOp (uIx K) (tLst (tCons (tCall (sp_l_odd K) [] E0 (tCons (tVar 1) tNil)) (tCons (tLst (tCons (tCall (sp_l_odd K) [] E0 (tCons (tVar 1) tNil)) (tCons (tC (.str "a")) tNil))) (tCons (tCall (sp_l_take K) [] E0 (tCons (tVar 1) (tCons (tOp uPow (tC (.int 10)) (tC (.int 18))) tNil))) tNil)))) (tCall (sp_l_take K) [] E0 (tCons (tVar 1) (tCons (tC (.int 3)) tNil)))) (gName 5))
 (t_law_6 K))
abbrev t_law_9 (K : Fr) : TS := (tIfS (tNot (tB (tCall (sp_l_right K) [] E0 (tCons (tVar 6) (tCons (tVar 7) (tCons (tVar 5) tNil)))))) (tRet (tC (.bl false))) tNext)
abbrev t_law_8 (K : Fr) : TS := (tSeq (tFor (iList K (tOp (uAdd K) (tVar 2) (tRevL K (tVar 2)))) (gTup K 3 (gCons (gName 6) (gCons (gName 7) (gCons (gName 5) gNil)))) (t_law_9 K))
 (tRet (tC (.bl true))))
abbrev t_law_4 (K : Fr) : TS := (tSeq (tFor (iRng1 (tCons (tC (.int 20)) tNil)) (gName 4) (t_law_5 K))
 (t_law_8 K))
abbrev t_law_3 (K : Fr) : TS := (tSeq (tAsg (tCall (sp_l_take K) [] E0 (tCons (tVar 1) (tCons (tC (.int 20)) tNil))) (gName 3))
 (t_law_4 K))
abbrev t_law_2 (K : Fr) : TS := (tSeq (tAsg (tLst tNil) (gName 2))
 (t_law_3 K))
abbrev t_law_1 (K : Fr) : TS := (tSeq (tAsg (tCall (sp_l_bag K) [] E0 (tCons (tVar 0) tNil)) (gName 1))
 (t_law_2 K))
abbrev t_law (K : Fr) : TS := (t_law_1 K)
theorem pure_law {K : Fr} (vs : List V) (H : Hp) (Q : VK) (E : XK) (h : sp_law K vs H Q E) : t_law K { nx := λ _ H' => Q .non H', rt := Q } (L2.start ["_law_script", "_law_bag_here", "_law_made_here", "_law_first", "_law_k", "_law_thing", "_law_which", "_law_e"] vs) H := by
 obtain ⟨sc, sn, rfl, hS, hl, k⟩ := h
 have hf := law_plain
 show t_law K _ [some (V.ref sc), none, none, none, none, none, none, none] H
 refine g_seq (g_asg (g_call (g_cons (g_var rfl (g_nil (u_bag (M.start hS) (λ H S => S.gotR 0 rfl) hl λ bag H1 S1 => ?_))))))
 generalize [rdL K sc (sn.map V.int)] = Rs at S1
 refine g_nx (g_seq (g_asg (g_lst (g_nil (v_lstP S1 λ p1 H3 (S2 : M (plR (tqP K) p1 ([] : (List (Int × Ex × PyData))) :: _ :: Rs) H3) => ?_)))))
 refine g_nx ?_
 show (_ : TS) _ [some (V.ref sc), some (V.ref bag), some (V.ref p1), none, none, none, none, none] _
 refine g_seq (g_asg (g_call (g_cons (g_var rfl (g_cons (g_c (g_nil ?_)))))))
 obtain ⟨h5, hf⟩ := hf
 refine u_take (S2.at 1 rfl) h5 λ n6 H8 n6l n6u (S7 : M (oo2 Rs) H8) => ?_
 replace hf := hf n6 n6l n6u
 refine g_nx ?_
 show (_ : TS) _ [some (V.ref sc), some (V.ref bag), some (V.ref p1), some (V.int n6), none, none, none, none] _
 obtain ⟨h9, hf⟩ := hf
 refine g_seq (g_for (g_iRng1 (g_cons (g_c (g_nil (v_itR h9 ?_))))))
 refine for_rng (β := (List (Int × Ex × PyData))) hf (λ (s10 : (List (Int × Ex × PyData))) σ H' => ∃ (o15 : Option V) (o16 : Option V) (o17 : Option V), σ = [some (V.ref sc), some (V.ref bag), some (V.ref p1), some (V.int n6), o15, o16, o17, none] /\ M (plR (tqP K) p1 s10 :: bagR bag :: Rs) H') ⟨_, _, _, rfl, (M.pk S7 2 [1, 0] rfl)⟩ ?_ ?_
 ·
  rintro x13 s10 _ H19 kk12 ⟨o15, o16, o17, rfl, S18⟩ hf
  refine g_name (g_seq (g_asg (g_op (g_lst (g_cons (g_call (g_cons (g_var rfl (g_nil (⟨_, _, _, rfl, (M.at S18 1 rfl), hf, λ x20 u23 H22 hf (S21 : M (da K u23 (eA x20) :: oo2 Rs) H22) => ?_⟩))))))))))
  refine g_cons (g_lst (g_cons (g_call (g_cons (g_var rfl (g_nil (⟨_, _, _, rfl, (M.at S21 1 rfl), hf, λ x25 u28 H27 hf (S26 : M (da K u28 (eA x25) :: oo3 Rs) H27) => ?_⟩)))))))
  refine g_cons (g_c (g_nil (v_lsto (ds := ([eA x25, eS ("a" : Str)] : List PyData).map eA) S26 (EnF.consA (EnF.at 0 rfl) (EnF.consA (EnF.all λ _ => .str _) EnF.nilA)) (len_ok rfl) λ p30 H32 (S31 : M (acR K p30 (([eA x25, eS ("a" : Str)] : List PyData).map eA) :: oo4 Rs) H32) => ?_)))
  have S34 : M (da K (V.ref p30) ((eL eA) ([eA x25, eS ("a" : Str)] : List PyData)) :: oo4 Rs) H32 := acR_fixL S31
  refine g_cons (g_call (g_cons (g_var rfl (g_cons (g_op (g_c (g_c (v_powc (n := 1000000000000000000) (by decide) (by decide) (g_nil ?_)))))))))
  obtain ⟨h36, hf⟩ := hf
  refine u_take (S34.at 2 rfl) h36 λ n37 H39 n37l n37u (S38 : M (oo5 Rs) H39) => ?_
  replace hf := hf n37 n37l n37u
  refine g_nil (v_lsto (ds := ([eA x20, (eL eA) ([eA x25, eS ("a" : Str)] : List PyData), eI n37] : List PyData).map eA) S38 (EnF.consA (EnF.at 3 rfl) (EnF.consA (EnF.at 1 rfl) (EnF.consA (EnF.all λ _ => .int _) EnF.nilA))) (len_ok rfl) λ p40 H42 (S41 : M (acR K p40 (([eA x20, (eL eA) ([eA x25, eS ("a" : Str)] : List PyData), eI n37] : List PyData).map eA) :: oo5 Rs) H42) => ?_)
  refine g_call (g_cons (g_var rfl (g_cons (g_c (g_nil ?_)))))
  obtain ⟨h44, hf⟩ := hf
  refine u_take (S41.at 1 rfl) h44 λ n45 H47 n45l n45u (S46 : M (oo6 Rs) H47) => ?_
  replace hf := hf n45 n45l n45u
  have S48 : M (da K (V.ref p40) ((eL eA) ([eA x20, (eL eA) ([eA x25, eS ("a" : Str)] : List PyData), eI n37] : List PyData)) :: oo5 Rs) H47 := acR_fixL (S46.at 1 rfl)
  obtain ⟨x50, h51, hf⟩ := hf
  refine v_ixl S48 0 rfl h51 λ u52 S53 => ?_
  refine g_nx ?_
  show (_ : TS) _ [some (V.ref sc), some (V.ref bag), some (V.ref p1), some (V.int n6), some (V.int x13), some u52, o17, none] _
  have S55 : M (da K u52 (eA x50) :: oo2 Rs) H47 := (M.drp (M.drp (M.drp (M.drp S53 5) 4) 3) 1)
  obtain ⟨h56, hf⟩ := hf
  obtain ⟨h57, hf⟩ := hf
  refine g_seq (g_asg (g_op (g_op (g_var rfl (g_op (g_c (g_var rfl (v_mul h56 (v_add (g_c (v_mod h57 (g_nx ?_))))))))))))
  show (_ : TS) _ [some (V.ref sc), some (V.ref bag), some (V.ref p1), some (V.int n6), some (V.int x13), some u52, some (V.int ((n6 + (7 * x13)) % 20)), none] _
  refine g_drop (g_bm (g_var rfl (M.tyP S55 2 rfl (g_cons (g_tup (g_cons (g_var rfl (g_cons (g_call (g_cons (g_var rfl (g_cons (g_var rfl (g_nil (⟨_, _, _, _, _, rfl, (M.addA S55 (EnF.at 0 rfl)), hf, λ x59 u62 H61 hf (S60 : M (xqR K u62 (eXv x59) :: oo3 Rs) H61) => ?_⟩)))))))))))))))
  refine g_cons (g_var rfl (g_nil ?_))
  refine v_tX (x := (((n6 + (7 * x13)) % 20), x59, x50)) S60 0 rfl (EnF.at 1 rfl) λ u64 H66 (S65 : M (tqR K u64 (eXt (((n6 + (7 * x13)) % 20), x59, x50)) :: oo4 Rs) H66) => ?_
  refine g_nil ?_
  obtain ⟨h68, hf⟩ := hf
  refine v_apX (x := (((n6 + (7 * x13)) % 20), x59, x50)) S65 4 0 rfl rfl h68 λ H70 (S69 : M (plR (tqP K) p1 (s10 ++ [(((n6 + (7 * x13)) % 20), x59, x50)]) :: oo4 Rs) H70) => ?_
  exact ⟨_, hf, _, _, _, rfl, (M.pk S69 5 [0, 4] rfl)⟩
 rintro s10 _ H73 hf ⟨o15, o16, o17, rfl, S72⟩
 refine g_nx ?_
 show (_ : TS) _ [some (V.ref sc), some (V.ref bag), some (V.ref p1), some (V.int n6), o15, o16, o17, none] _
 refine g_seq (g_for (g_iList (g_op (g_var rfl (g_rev (g_var rfl ?_))))))
 refine v_revP S72 0 rfl λ p74 H77 (S76 : M (plR (tqP K) p74 (s10.reverse) :: oo2 Rs) H77) => ?_
 obtain ⟨h79, hf⟩ := hf
 refine v_catP (M.pk S76 3 [0, 1, 2] rfl) h79 λ p75 H81 (S80 : M (plR (tqP K) p75 (s10 ++ s10.reverse) :: oo2 Rs) H81) => ?_
 obtain ⟨vs83, S84⟩ := S80.plO
 have hl87 := S84.pvLen 1 rfl
 refine v_itL (SqL.of (S84.got 0 rfl)) ?_
 refine for_pl (K := K) hl87 hf (δ := Unit) (λ (s92 : Unit) σ H' => ∃ (o96 : Option V) (o97 : Option V) (o98 : Option V), σ = [some (V.ref sc), some (V.ref bag), some (V.ref p1), some (V.int n6), o15, o96, o97, o98] /\ M (pt p75 (.lst vs83) :: pvA (tqP K) vs83 (s10 ++ s10.reverse) :: plR (tqP K) p1 s10 :: bagR bag :: Rs) H') ⟨_, _, _, rfl, (M.sub (.cons 0 rfl (.cons 0 rfl (.cons 0 rfl (.cons 0 rfl (.refl _))))) S84)⟩ (λ _ _ _ h => by obtain ⟨_, _, _, _, S⟩ := h; exact SqL.of (S.got 0 rfl)) ?_ ?_
 ·
  rintro i88 u89 x95 s92 _ H100 kk94 ⟨o96, o97, o98, rfl, S99⟩ hv90 hx91 hf
  have S101 := S99.elP 1 rfl hv90 hx91
  obtain ⟨a106, u103, u104, u105, e_a106, q_a106, S107⟩ := S101.openTX 0 rfl
  subst e_a106
  refine g_gtup q_a106 rfl (g_gcons ?_)
  obtain rfl := (S107.gotA 0 rfl).intV
  refine g_name (g_gcons ?_)
  refine g_name (g_gcons ?_)
  refine g_name (g_gnil (g_if (g_not (g_B (g_call (g_cons (g_var rfl (g_cons (g_var rfl (g_cons (g_var rfl (g_nil (⟨_, _, _, _, _, _, _, rfl, (M.addX (M.addA S107 (EnF.at 2 rfl)) 2 rfl), hf, λ x113 H115 hf (S114 : M (da K (V.int x95.1) (eI x95.1) :: xqR K u104 (eXv x95.2.1) :: da K u105 (eA x95.2.2) :: tqR K (V.ref a106) (eXt x95) :: oo4 Rs) H115) => ?_⟩)))))))))))))
  refine g_bl (v_iff hf (λ _ hf => ?_) (λ _ hf => ?_))
  ·
   refine g_ret (g_c ?_)
   rw [show false = true from hf]
   exact k _
  ·
   refine g_next ?_
   exact ⟨_, hf, _, _, _, rfl, (M.pk S114 8 [4, 5, 6, 7] rfl)⟩
 rintro s92 _ H118 hf ⟨o96, o97, o98, rfl, S117⟩
 refine g_nx ?_
 show (_ : TS) _ [some (V.ref sc), some (V.ref bag), some (V.ref p1), some (V.int n6), o15, o96, o97, o98] _
 refine g_ret (g_c ?_)
 rw [show true = true from hf]
 exact k _
abbrev FunE (K : Fr) (n q : Str) (s : Stmt) (kw : List (Str × V)) (ad : Addr) : Prop := FunD K n q (defArgs s) (defBody s) (defScope s) [] kw ad (fdOf K ad)
structure Txt (K : Fr) (mg : Str -> Option Value) : Prop where
 F_l_bag : FunE K "_law_bag" "_law_bag" s_l_bag [] (He.ga K "_law_bag")
 F_l_take : FunE K "_law_take" "_law_take" s_l_take [] (He.ga K "_law_take")
 F_l_copy : FunE K "_law_copy" "_law_copy" s_l_copy [] (He.ga K "_law_copy")
 F_l_odd : FunE K "_law_odd" "_law_odd" s_l_odd [] (He.ga K "_law_odd")
 F_l_made_else : FunE K "_law_made_else" "_law_made_else" s_l_made_else [] (He.ga K "_law_made_else")
 F_l_made : FunE K "_law_made" "_law_made" s_l_made [] (He.ga K "_law_made")
 F_l_classes : FunE K "_law_classes" "_law_classes" s_l_classes [] (He.ga K "_law_classes")
 F_l_kinds : FunE K "_law_kinds" "_law_kinds" s_l_kinds [] (He.ga K "_law_kinds")
 F_l_alike : FunE K "_law_alike" "_law_alike" s_l_alike [] (He.ga K "_law_alike")
 F_l_kept_thing : FunE K "_law_kept_thing" "_law_kept_thing" s_l_kept_thing [] (He.ga K "_law_kept_thing")
 F_l_right : FunE K "_law_right" "_law_right" s_l_right [] (He.ga K "_law_right")
 F_law : FunE K "law" "law" s_law [] (He.ga K "law")
 F_Wrong___init__ : FunE K "__init__" "Wrong.__init__" s_Wrong___init__ [] (mA K "Wrong" "__init__")
 F_There___init__ : FunE K "__init__" "There.__init__" s_There___init__ [] (mA K "There" "__init__")
 F_TooMany___init__ : FunE K "__init__" "TooMany.__init__" s_TooMany___init__ [] (mA K "TooMany" "__init__")
 F_NoBase___init__ : FunE K "__init__" "NoBase.__init__" s_NoBase___init__ [] (mA K "NoBase" "__init__")
 F_NoFit___init__ : FunE K "__init__" "NoFit.__init__" s_NoFit___init__ [] (mA K "NoFit" "__init__")
 F_Unlike___init__ : FunE K "__init__" "Unlike.__init__" s_Unlike___init__ [] (mA K "Unlike" "__init__")
 F_NoLog___init__ : FunE K "__init__" "NoLog.__init__" s_NoLog___init__ [] (mA K "NoLog" "__init__")
 F_NoFile___init__ : FunE K "__init__" "NoFile.__init__" s_NoFile___init__ [] (mA K "NoFile" "__init__")
 F_NoPiece___init__ : FunE K "__init__" "NoPiece.__init__" s_NoPiece___init__ [] (mA K "NoPiece" "__init__")
 F_NoMoment___init__ : FunE K "__init__" "NoMoment.__init__" s_NoMoment___init__ [] (mA K "NoMoment" "__init__")
 F_NoHolder___init__ : FunE K "__init__" "NoHolder.__init__" s_NoHolder___init__ [] (mA K "NoHolder" "__init__")
 F_Busy___init__ : FunE K "__init__" "Busy.__init__" s_Busy___init__ [] (mA K "Busy" "__init__")
 F_NoRoom___init__ : FunE K "__init__" "NoRoom.__init__" s_NoRoom___init__ [] (mA K "NoRoom" "__init__")
 F_Held___init__ : FunE K "__init__" "Held.__init__" s_Held___init__ [] (mA K "Held" "__init__")
 F_Broken___init__ : FunE K "__init__" "Broken.__init__" s_Broken___init__ [] (mA K "Broken" "__init__")
 F_Undone___init__ : FunE K "__init__" "Undone.__init__" s_Undone___init__ [] (mA K "Undone" "__init__")
 F_OtherCut___init__ : FunE K "__init__" "OtherCut.__init__" s_OtherCut___init__ [] (mA K "OtherCut" "__init__")
 F_NoText___init__ : FunE K "__init__" "NoText.__init__" s_NoText___init__ [] (mA K "NoText" "__init__")
 F_NoRow___init__ : FunE K "__init__" "NoRow.__init__" s_NoRow___init__ [] (mA K "NoRow" "__init__")
 F_NoRun___init__ : FunE K "__init__" "NoRun.__init__" s_NoRun___init__ [] (mA K "NoRun" "__init__")
 g_l_bag : mg "_law_bag" = some (.ref (He.ga K "_law_bag"))
 g_l_take : mg "_law_take" = some (.ref (He.ga K "_law_take"))
 g_l_copy : mg "_law_copy" = some (.ref (He.ga K "_law_copy"))
 g_l_odd : mg "_law_odd" = some (.ref (He.ga K "_law_odd"))
 g_l_made_else : mg "_law_made_else" = some (.ref (He.ga K "_law_made_else"))
 g_l_made : mg "_law_made" = some (.ref (He.ga K "_law_made"))
 g_l_classes : mg "_law_classes" = some (.ref (He.ga K "_law_classes"))
 g_l_kinds : mg "_law_kinds" = some (.ref (He.ga K "_law_kinds"))
 g_l_alike : mg "_law_alike" = some (.ref (He.ga K "_law_alike"))
 g_l_kept_thing : mg "_law_kept_thing" = some (.ref (He.ga K "_law_kept_thing"))
 g_l_right : mg "_law_right" = some (.ref (He.ga K "_law_right"))
 g_law : mg "law" = some (.ref (He.ga K "law"))
 cg_NoHolder : mg "NoHolder" = some (.ref (He.ga K "NoHolder"))
 cg_Busy : mg "Busy" = some (.ref (He.ga K "Busy"))
 cg_NoRoom : mg "NoRoom" = some (.ref (He.ga K "NoRoom"))
 cg_Held : mg "Held" = some (.ref (He.ga K "Held"))
 cg_Broken : mg "Broken" = some (.ref (He.ga K "Broken"))
 cg_Undone : mg "Undone" = some (.ref (He.ga K "Undone"))
 cg_OtherCut : mg "OtherCut" = some (.ref (He.ga K "OtherCut"))
 cg_NoText : mg "NoText" = some (.ref (He.ga K "NoText"))
 cg_NoRow : mg "NoRow" = some (.ref (He.ga K "NoRow"))
 cg_NoRun : mg "NoRun" = some (.ref (He.ga K "NoRun"))
 cg_Wrong : mg "Wrong" = some (.ref (He.ga K "Wrong"))
 cg_There : mg "There" = some (.ref (He.ga K "There"))
 cg_TooMany : mg "TooMany" = some (.ref (He.ga K "TooMany"))
 cg_NoBase : mg "NoBase" = some (.ref (He.ga K "NoBase"))
 cg_NoFit : mg "NoFit" = some (.ref (He.ga K "NoFit"))
 cg_Unlike : mg "Unlike" = some (.ref (He.ga K "Unlike"))
 cg_NoLog : mg "NoLog" = some (.ref (He.ga K "NoLog"))
 cg_NoFile : mg "NoFile" = some (.ref (He.ga K "NoFile"))
 cg_NoPiece : mg "NoPiece" = some (.ref (He.ga K "NoPiece"))
 cg_NoMoment : mg "NoMoment" = some (.ref (He.ga K "NoMoment"))
 cg_StoreError : mg "StoreError" = some (.ref (He.ga K "StoreError"))
 cg_Missing : mg "Missing" = some (.ref (He.ga K "Missing"))
 cg_Halted : mg "Halted" = some (.ref (He.ga K "Halted"))
 xb_Wrong : XcB K (He.ga K "Wrong") "ValueError" "ValueError.__new__" "ValueError.__init__" (tlB "ValueError")
 xf_Wrong : PySem.W.findIn K (.ref (He.ga K "Wrong")) "__init__" = some (some (.ref (mA K "Wrong" "__init__"))) /\ PySem.W.typeIn K (.ref (mA K "Wrong" "__init__")) = some (.type "function")
 xc_Wrong : ExcC K (He.ga K "Wrong")
 xn_Wrong_at : chN K "Wrong" "at" = true
 xi_StoreError : XcI K (He.ga K "StoreError") "ValueError.__init__"
 xb_There : XcB K (He.ga K "There") "ValueError" "ValueError.__new__" "ValueError.__init__" (tlB "ValueError")
 xf_There : PySem.W.findIn K (.ref (He.ga K "There")) "__init__" = some (some (.ref (mA K "There" "__init__"))) /\ PySem.W.typeIn K (.ref (mA K "There" "__init__")) = some (.type "function")
 xc_There : ExcC K (He.ga K "There")
 xn_There_thing : chN K "There" "thing" = true
 xb_TooMany : XcB K (He.ga K "TooMany") "ValueError" "ValueError.__new__" "ValueError.__init__" (tlB "ValueError")
 xf_TooMany : PySem.W.findIn K (.ref (He.ga K "TooMany")) "__init__" = some (some (.ref (mA K "TooMany" "__init__"))) /\ PySem.W.typeIn K (.ref (mA K "TooMany" "__init__")) = some (.type "function")
 xc_TooMany : ExcC K (He.ga K "TooMany")
 xn_TooMany_most : chN K "TooMany" "most" = true
 xb_NoBase : XcB K (He.ga K "NoBase") "ValueError" "ValueError.__new__" "ValueError.__init__" (tlB "ValueError")
 xf_NoBase : PySem.W.findIn K (.ref (He.ga K "NoBase")) "__init__" = some (some (.ref (mA K "NoBase" "__init__"))) /\ PySem.W.typeIn K (.ref (mA K "NoBase" "__init__")) = some (.type "function")
 xc_NoBase : ExcC K (He.ga K "NoBase")
 xn_NoBase_time : chN K "NoBase" "time" = true
 xb_NoFit : XcB K (He.ga K "NoFit") "ValueError" "ValueError.__new__" "ValueError.__init__" (tlB "ValueError")
 xf_NoFit : PySem.W.findIn K (.ref (He.ga K "NoFit")) "__init__" = some (some (.ref (mA K "NoFit" "__init__"))) /\ PySem.W.typeIn K (.ref (mA K "NoFit" "__init__")) = some (.type "function")
 xc_NoFit : ExcC K (He.ga K "NoFit")
 xn_NoFit_at : chN K "NoFit" "at" = true
 xb_Unlike : XcB K (He.ga K "Unlike") "ValueError" "ValueError.__new__" "ValueError.__init__" (tlB "ValueError")
 xf_Unlike : PySem.W.findIn K (.ref (He.ga K "Unlike")) "__init__" = some (some (.ref (mA K "Unlike" "__init__"))) /\ PySem.W.typeIn K (.ref (mA K "Unlike" "__init__")) = some (.type "function")
 xc_Unlike : ExcC K (He.ga K "Unlike")
 xn_Unlike_seal : chN K "Unlike" "seal" = true
 xb_NoLog : XcB K (He.ga K "NoLog") "ValueError" "ValueError.__new__" "ValueError.__init__" (tlB "ValueError")
 xf_NoLog : PySem.W.findIn K (.ref (He.ga K "NoLog")) "__init__" = some (some (.ref (mA K "NoLog" "__init__"))) /\ PySem.W.typeIn K (.ref (mA K "NoLog" "__init__")) = some (.type "function")
 xc_NoLog : ExcC K (He.ga K "NoLog")
 xn_NoLog_at : chN K "NoLog" "at" = true
 xb_NoFile : XcB K (He.ga K "NoFile") "LookupError" "LookupError.__new__" "LookupError.__init__" (tlB "LookupError")
 xf_NoFile : PySem.W.findIn K (.ref (He.ga K "NoFile")) "__init__" = some (some (.ref (mA K "NoFile" "__init__"))) /\ PySem.W.typeIn K (.ref (mA K "NoFile" "__init__")) = some (.type "function")
 xc_NoFile : ExcC K (He.ga K "NoFile")
 xn_NoFile_name : chN K "NoFile" "name" = true
 xi_Missing : XcI K (He.ga K "Missing") "LookupError.__init__"
 xb_NoPiece : XcB K (He.ga K "NoPiece") "LookupError" "LookupError.__new__" "LookupError.__init__" (tlB "LookupError")
 xf_NoPiece : PySem.W.findIn K (.ref (He.ga K "NoPiece")) "__init__" = some (some (.ref (mA K "NoPiece" "__init__"))) /\ PySem.W.typeIn K (.ref (mA K "NoPiece" "__init__")) = some (.type "function")
 xc_NoPiece : ExcC K (He.ga K "NoPiece")
 xn_NoPiece_seal : chN K "NoPiece" "seal" = true
 xb_NoMoment : XcB K (He.ga K "NoMoment") "LookupError" "LookupError.__new__" "LookupError.__init__" (tlB "LookupError")
 xf_NoMoment : PySem.W.findIn K (.ref (He.ga K "NoMoment")) "__init__" = some (some (.ref (mA K "NoMoment" "__init__"))) /\ PySem.W.typeIn K (.ref (mA K "NoMoment" "__init__")) = some (.type "function")
 xc_NoMoment : ExcC K (He.ga K "NoMoment")
 xn_NoMoment_time : chN K "NoMoment" "time" = true
 xb_NoHolder : XcB K (He.ga K "NoHolder") "LookupError" "LookupError.__new__" "LookupError.__init__" (tlB "LookupError")
 xf_NoHolder : PySem.W.findIn K (.ref (He.ga K "NoHolder")) "__init__" = some (some (.ref (mA K "NoHolder" "__init__"))) /\ PySem.W.typeIn K (.ref (mA K "NoHolder" "__init__")) = some (.type "function")
 xc_NoHolder : ExcC K (He.ga K "NoHolder")
 xn_NoHolder_name : chN K "NoHolder" "name" = true
 xb_Busy : XcB K (He.ga K "Busy") "RuntimeError" "RuntimeError.__new__" "RuntimeError.__init__" (tlB "RuntimeError")
 xf_Busy : PySem.W.findIn K (.ref (He.ga K "Busy")) "__init__" = some (some (.ref (mA K "Busy" "__init__"))) /\ PySem.W.typeIn K (.ref (mA K "Busy" "__init__")) = some (.type "function")
 xc_Busy : ExcC K (He.ga K "Busy")
 xn_Busy_why : chN K "Busy" "why" = true
 xi_Halted : XcI K (He.ga K "Halted") "RuntimeError.__init__"
 xb_NoRoom : XcB K (He.ga K "NoRoom") "RuntimeError" "RuntimeError.__new__" "RuntimeError.__init__" (tlB "RuntimeError")
 xf_NoRoom : PySem.W.findIn K (.ref (He.ga K "NoRoom")) "__init__" = some (some (.ref (mA K "NoRoom" "__init__"))) /\ PySem.W.typeIn K (.ref (mA K "NoRoom" "__init__")) = some (.type "function")
 xc_NoRoom : ExcC K (He.ga K "NoRoom")
 xn_NoRoom_room : chN K "NoRoom" "room" = true
 xb_Held : XcB K (He.ga K "Held") "RuntimeError" "RuntimeError.__new__" "RuntimeError.__init__" (tlB "RuntimeError")
 xf_Held : PySem.W.findIn K (.ref (He.ga K "Held")) "__init__" = some (some (.ref (mA K "Held" "__init__"))) /\ PySem.W.typeIn K (.ref (mA K "Held" "__init__")) = some (.type "function")
 xc_Held : ExcC K (He.ga K "Held")
 xn_Held_holders : chN K "Held" "holders" = true
 xb_Broken : XcB K (He.ga K "Broken") "RuntimeError" "RuntimeError.__new__" "RuntimeError.__init__" (tlB "RuntimeError")
 xf_Broken : PySem.W.findIn K (.ref (He.ga K "Broken")) "__init__" = some (some (.ref (mA K "Broken" "__init__"))) /\ PySem.W.typeIn K (.ref (mA K "Broken" "__init__")) = some (.type "function")
 xc_Broken : ExcC K (He.ga K "Broken")
 xn_Broken_seal : chN K "Broken" "seal" = true
 xb_Undone : XcB K (He.ga K "Undone") "RuntimeError" "RuntimeError.__new__" "RuntimeError.__init__" (tlB "RuntimeError")
 xf_Undone : PySem.W.findIn K (.ref (He.ga K "Undone")) "__init__" = some (some (.ref (mA K "Undone" "__init__"))) /\ PySem.W.typeIn K (.ref (mA K "Undone" "__init__")) = some (.type "function")
 xc_Undone : ExcC K (He.ga K "Undone")
 xn_Undone_names : chN K "Undone" "names" = true
 xb_OtherCut : XcB K (He.ga K "OtherCut") "ValueError" "ValueError.__new__" "ValueError.__init__" (tlB "ValueError")
 xf_OtherCut : PySem.W.findIn K (.ref (He.ga K "OtherCut")) "__init__" = some (some (.ref (mA K "OtherCut" "__init__"))) /\ PySem.W.typeIn K (.ref (mA K "OtherCut" "__init__")) = some (.type "function")
 xc_OtherCut : ExcC K (He.ga K "OtherCut")
 xb_NoText : XcB K (He.ga K "NoText") "ValueError" "ValueError.__new__" "ValueError.__init__" (tlB "ValueError")
 xf_NoText : PySem.W.findIn K (.ref (He.ga K "NoText")) "__init__" = some (some (.ref (mA K "NoText" "__init__"))) /\ PySem.W.typeIn K (.ref (mA K "NoText" "__init__")) = some (.type "function")
 xc_NoText : ExcC K (He.ga K "NoText")
 xb_NoRow : XcB K (He.ga K "NoRow") "ValueError" "ValueError.__new__" "ValueError.__init__" (tlB "ValueError")
 xf_NoRow : PySem.W.findIn K (.ref (He.ga K "NoRow")) "__init__" = some (some (.ref (mA K "NoRow" "__init__"))) /\ PySem.W.typeIn K (.ref (mA K "NoRow" "__init__")) = some (.type "function")
 xc_NoRow : ExcC K (He.ga K "NoRow")
 xb_NoRun : XcB K (He.ga K "NoRun") "LookupError" "LookupError.__new__" "LookupError.__init__" (tlB "LookupError")
 xf_NoRun : PySem.W.findIn K (.ref (He.ga K "NoRun")) "__init__" = some (some (.ref (mA K "NoRun" "__init__"))) /\ PySem.W.typeIn K (.ref (mA K "NoRun" "__init__")) = some (.type "function")
 xc_NoRun : ExcC K (He.ga K "NoRun")
 xd_Wrong : ∀ (i : Nat) (p : Str × Bool), ([("Wrong", true), ("There", false), ("TooMany", false), ("NoBase", false), ("NoFit", false), ("Unlike", false), ("NoLog", false), ("NoFile", false), ("NoPiece", false), ("NoMoment", false), ("NoHolder", false), ("Busy", false), ("NoRoom", false), ("Held", false), ("Broken", false), ("Undone", false), ("OtherCut", false), ("NoText", false), ("NoRow", false), ("NoRun", false)] : List (Str × Bool))[i]? = some p -> PySem.W.kitOne K (.ref (He.ga K p.1)) (.ref (He.ga K "Wrong")) = some p.2
 xd_There : ∀ (i : Nat) (p : Str × Bool), ([("Wrong", false), ("There", true), ("TooMany", false), ("NoBase", false), ("NoFit", false), ("Unlike", false), ("NoLog", false), ("NoFile", false), ("NoPiece", false), ("NoMoment", false), ("NoHolder", false), ("Busy", false), ("NoRoom", false), ("Held", false), ("Broken", false), ("Undone", false), ("OtherCut", false), ("NoText", false), ("NoRow", false), ("NoRun", false)] : List (Str × Bool))[i]? = some p -> PySem.W.kitOne K (.ref (He.ga K p.1)) (.ref (He.ga K "There")) = some p.2
 xd_TooMany : ∀ (i : Nat) (p : Str × Bool), ([("Wrong", false), ("There", false), ("TooMany", true), ("NoBase", false), ("NoFit", false), ("Unlike", false), ("NoLog", false), ("NoFile", false), ("NoPiece", false), ("NoMoment", false), ("NoHolder", false), ("Busy", false), ("NoRoom", false), ("Held", false), ("Broken", false), ("Undone", false), ("OtherCut", false), ("NoText", false), ("NoRow", false), ("NoRun", false)] : List (Str × Bool))[i]? = some p -> PySem.W.kitOne K (.ref (He.ga K p.1)) (.ref (He.ga K "TooMany")) = some p.2
 xd_NoBase : ∀ (i : Nat) (p : Str × Bool), ([("Wrong", false), ("There", false), ("TooMany", false), ("NoBase", true), ("NoFit", false), ("Unlike", false), ("NoLog", false), ("NoFile", false), ("NoPiece", false), ("NoMoment", false), ("NoHolder", false), ("Busy", false), ("NoRoom", false), ("Held", false), ("Broken", false), ("Undone", false), ("OtherCut", false), ("NoText", false), ("NoRow", false), ("NoRun", false)] : List (Str × Bool))[i]? = some p -> PySem.W.kitOne K (.ref (He.ga K p.1)) (.ref (He.ga K "NoBase")) = some p.2
 xd_NoFit : ∀ (i : Nat) (p : Str × Bool), ([("Wrong", false), ("There", false), ("TooMany", false), ("NoBase", false), ("NoFit", true), ("Unlike", false), ("NoLog", false), ("NoFile", false), ("NoPiece", false), ("NoMoment", false), ("NoHolder", false), ("Busy", false), ("NoRoom", false), ("Held", false), ("Broken", false), ("Undone", false), ("OtherCut", false), ("NoText", false), ("NoRow", false), ("NoRun", false)] : List (Str × Bool))[i]? = some p -> PySem.W.kitOne K (.ref (He.ga K p.1)) (.ref (He.ga K "NoFit")) = some p.2
 xd_Unlike : ∀ (i : Nat) (p : Str × Bool), ([("Wrong", false), ("There", false), ("TooMany", false), ("NoBase", false), ("NoFit", false), ("Unlike", true), ("NoLog", false), ("NoFile", false), ("NoPiece", false), ("NoMoment", false), ("NoHolder", false), ("Busy", false), ("NoRoom", false), ("Held", false), ("Broken", false), ("Undone", false), ("OtherCut", false), ("NoText", false), ("NoRow", false), ("NoRun", false)] : List (Str × Bool))[i]? = some p -> PySem.W.kitOne K (.ref (He.ga K p.1)) (.ref (He.ga K "Unlike")) = some p.2
 xd_NoLog : ∀ (i : Nat) (p : Str × Bool), ([("Wrong", false), ("There", false), ("TooMany", false), ("NoBase", false), ("NoFit", false), ("Unlike", false), ("NoLog", true), ("NoFile", false), ("NoPiece", false), ("NoMoment", false), ("NoHolder", false), ("Busy", false), ("NoRoom", false), ("Held", false), ("Broken", false), ("Undone", false), ("OtherCut", false), ("NoText", false), ("NoRow", false), ("NoRun", false)] : List (Str × Bool))[i]? = some p -> PySem.W.kitOne K (.ref (He.ga K p.1)) (.ref (He.ga K "NoLog")) = some p.2
 xd_NoFile : ∀ (i : Nat) (p : Str × Bool), ([("Wrong", false), ("There", false), ("TooMany", false), ("NoBase", false), ("NoFit", false), ("Unlike", false), ("NoLog", false), ("NoFile", true), ("NoPiece", false), ("NoMoment", false), ("NoHolder", false), ("Busy", false), ("NoRoom", false), ("Held", false), ("Broken", false), ("Undone", false), ("OtherCut", false), ("NoText", false), ("NoRow", false), ("NoRun", false)] : List (Str × Bool))[i]? = some p -> PySem.W.kitOne K (.ref (He.ga K p.1)) (.ref (He.ga K "NoFile")) = some p.2
 xd_NoPiece : ∀ (i : Nat) (p : Str × Bool), ([("Wrong", false), ("There", false), ("TooMany", false), ("NoBase", false), ("NoFit", false), ("Unlike", false), ("NoLog", false), ("NoFile", false), ("NoPiece", true), ("NoMoment", false), ("NoHolder", false), ("Busy", false), ("NoRoom", false), ("Held", false), ("Broken", false), ("Undone", false), ("OtherCut", false), ("NoText", false), ("NoRow", false), ("NoRun", false)] : List (Str × Bool))[i]? = some p -> PySem.W.kitOne K (.ref (He.ga K p.1)) (.ref (He.ga K "NoPiece")) = some p.2
 xd_NoMoment : ∀ (i : Nat) (p : Str × Bool), ([("Wrong", false), ("There", false), ("TooMany", false), ("NoBase", false), ("NoFit", false), ("Unlike", false), ("NoLog", false), ("NoFile", false), ("NoPiece", false), ("NoMoment", true), ("NoHolder", false), ("Busy", false), ("NoRoom", false), ("Held", false), ("Broken", false), ("Undone", false), ("OtherCut", false), ("NoText", false), ("NoRow", false), ("NoRun", false)] : List (Str × Bool))[i]? = some p -> PySem.W.kitOne K (.ref (He.ga K p.1)) (.ref (He.ga K "NoMoment")) = some p.2
 xd_NoHolder : ∀ (i : Nat) (p : Str × Bool), ([("Wrong", false), ("There", false), ("TooMany", false), ("NoBase", false), ("NoFit", false), ("Unlike", false), ("NoLog", false), ("NoFile", false), ("NoPiece", false), ("NoMoment", false), ("NoHolder", true), ("Busy", false), ("NoRoom", false), ("Held", false), ("Broken", false), ("Undone", false), ("OtherCut", false), ("NoText", false), ("NoRow", false), ("NoRun", false)] : List (Str × Bool))[i]? = some p -> PySem.W.kitOne K (.ref (He.ga K p.1)) (.ref (He.ga K "NoHolder")) = some p.2
 xd_Busy : ∀ (i : Nat) (p : Str × Bool), ([("Wrong", false), ("There", false), ("TooMany", false), ("NoBase", false), ("NoFit", false), ("Unlike", false), ("NoLog", false), ("NoFile", false), ("NoPiece", false), ("NoMoment", false), ("NoHolder", false), ("Busy", true), ("NoRoom", false), ("Held", false), ("Broken", false), ("Undone", false), ("OtherCut", false), ("NoText", false), ("NoRow", false), ("NoRun", false)] : List (Str × Bool))[i]? = some p -> PySem.W.kitOne K (.ref (He.ga K p.1)) (.ref (He.ga K "Busy")) = some p.2
 xd_NoRoom : ∀ (i : Nat) (p : Str × Bool), ([("Wrong", false), ("There", false), ("TooMany", false), ("NoBase", false), ("NoFit", false), ("Unlike", false), ("NoLog", false), ("NoFile", false), ("NoPiece", false), ("NoMoment", false), ("NoHolder", false), ("Busy", false), ("NoRoom", true), ("Held", false), ("Broken", false), ("Undone", false), ("OtherCut", false), ("NoText", false), ("NoRow", false), ("NoRun", false)] : List (Str × Bool))[i]? = some p -> PySem.W.kitOne K (.ref (He.ga K p.1)) (.ref (He.ga K "NoRoom")) = some p.2
 xd_Held : ∀ (i : Nat) (p : Str × Bool), ([("Wrong", false), ("There", false), ("TooMany", false), ("NoBase", false), ("NoFit", false), ("Unlike", false), ("NoLog", false), ("NoFile", false), ("NoPiece", false), ("NoMoment", false), ("NoHolder", false), ("Busy", false), ("NoRoom", false), ("Held", true), ("Broken", false), ("Undone", false), ("OtherCut", false), ("NoText", false), ("NoRow", false), ("NoRun", false)] : List (Str × Bool))[i]? = some p -> PySem.W.kitOne K (.ref (He.ga K p.1)) (.ref (He.ga K "Held")) = some p.2
 xd_Broken : ∀ (i : Nat) (p : Str × Bool), ([("Wrong", false), ("There", false), ("TooMany", false), ("NoBase", false), ("NoFit", false), ("Unlike", false), ("NoLog", false), ("NoFile", false), ("NoPiece", false), ("NoMoment", false), ("NoHolder", false), ("Busy", false), ("NoRoom", false), ("Held", false), ("Broken", true), ("Undone", false), ("OtherCut", false), ("NoText", false), ("NoRow", false), ("NoRun", false)] : List (Str × Bool))[i]? = some p -> PySem.W.kitOne K (.ref (He.ga K p.1)) (.ref (He.ga K "Broken")) = some p.2
 xd_Undone : ∀ (i : Nat) (p : Str × Bool), ([("Wrong", false), ("There", false), ("TooMany", false), ("NoBase", false), ("NoFit", false), ("Unlike", false), ("NoLog", false), ("NoFile", false), ("NoPiece", false), ("NoMoment", false), ("NoHolder", false), ("Busy", false), ("NoRoom", false), ("Held", false), ("Broken", false), ("Undone", true), ("OtherCut", false), ("NoText", false), ("NoRow", false), ("NoRun", false)] : List (Str × Bool))[i]? = some p -> PySem.W.kitOne K (.ref (He.ga K p.1)) (.ref (He.ga K "Undone")) = some p.2
 xd_OtherCut : ∀ (i : Nat) (p : Str × Bool), ([("Wrong", false), ("There", false), ("TooMany", false), ("NoBase", false), ("NoFit", false), ("Unlike", false), ("NoLog", false), ("NoFile", false), ("NoPiece", false), ("NoMoment", false), ("NoHolder", false), ("Busy", false), ("NoRoom", false), ("Held", false), ("Broken", false), ("Undone", false), ("OtherCut", true), ("NoText", false), ("NoRow", false), ("NoRun", false)] : List (Str × Bool))[i]? = some p -> PySem.W.kitOne K (.ref (He.ga K p.1)) (.ref (He.ga K "OtherCut")) = some p.2
 xd_NoText : ∀ (i : Nat) (p : Str × Bool), ([("Wrong", false), ("There", false), ("TooMany", false), ("NoBase", false), ("NoFit", false), ("Unlike", false), ("NoLog", false), ("NoFile", false), ("NoPiece", false), ("NoMoment", false), ("NoHolder", false), ("Busy", false), ("NoRoom", false), ("Held", false), ("Broken", false), ("Undone", false), ("OtherCut", false), ("NoText", true), ("NoRow", false), ("NoRun", false)] : List (Str × Bool))[i]? = some p -> PySem.W.kitOne K (.ref (He.ga K p.1)) (.ref (He.ga K "NoText")) = some p.2
 xd_NoRow : ∀ (i : Nat) (p : Str × Bool), ([("Wrong", false), ("There", false), ("TooMany", false), ("NoBase", false), ("NoFit", false), ("Unlike", false), ("NoLog", false), ("NoFile", false), ("NoPiece", false), ("NoMoment", false), ("NoHolder", false), ("Busy", false), ("NoRoom", false), ("Held", false), ("Broken", false), ("Undone", false), ("OtherCut", false), ("NoText", false), ("NoRow", true), ("NoRun", false)] : List (Str × Bool))[i]? = some p -> PySem.W.kitOne K (.ref (He.ga K p.1)) (.ref (He.ga K "NoRow")) = some p.2
 xd_NoRun : ∀ (i : Nat) (p : Str × Bool), ([("Wrong", false), ("There", false), ("TooMany", false), ("NoBase", false), ("NoFit", false), ("Unlike", false), ("NoLog", false), ("NoFile", false), ("NoPiece", false), ("NoMoment", false), ("NoHolder", false), ("Busy", false), ("NoRoom", false), ("Held", false), ("Broken", false), ("Undone", false), ("OtherCut", false), ("NoText", false), ("NoRow", false), ("NoRun", true)] : List (Str × Bool))[i]? = some p -> PySem.W.kitOne K (.ref (He.ga K p.1)) (.ref (He.ga K "NoRun")) = some p.2
 xd_StoreError : ∀ (i : Nat) (p : Str × Bool), ([("Wrong", true), ("There", true), ("TooMany", true), ("NoBase", true), ("NoFit", true), ("Unlike", true), ("NoLog", true), ("NoFile", false), ("NoPiece", false), ("NoMoment", false), ("NoHolder", false), ("Busy", false), ("NoRoom", false), ("Held", false), ("Broken", false), ("Undone", false), ("OtherCut", true), ("NoText", true), ("NoRow", true), ("NoRun", false)] : List (Str × Bool))[i]? = some p -> PySem.W.kitOne K (.ref (He.ga K p.1)) (.ref (He.ga K "StoreError")) = some p.2
 xd_Missing : ∀ (i : Nat) (p : Str × Bool), ([("Wrong", false), ("There", false), ("TooMany", false), ("NoBase", false), ("NoFit", false), ("Unlike", false), ("NoLog", false), ("NoFile", true), ("NoPiece", true), ("NoMoment", true), ("NoHolder", true), ("Busy", false), ("NoRoom", false), ("Held", false), ("Broken", false), ("Undone", false), ("OtherCut", false), ("NoText", false), ("NoRow", false), ("NoRun", true)] : List (Str × Bool))[i]? = some p -> PySem.W.kitOne K (.ref (He.ga K p.1)) (.ref (He.ga K "Missing")) = some p.2
 xd_Halted : ∀ (i : Nat) (p : Str × Bool), ([("Wrong", false), ("There", false), ("TooMany", false), ("NoBase", false), ("NoFit", false), ("Unlike", false), ("NoLog", false), ("NoFile", false), ("NoPiece", false), ("NoMoment", false), ("NoHolder", false), ("Busy", true), ("NoRoom", true), ("Held", true), ("Broken", true), ("Undone", true), ("OtherCut", false), ("NoText", false), ("NoRow", false), ("NoRun", false)] : List (Str × Bool))[i]? = some p -> PySem.W.kitOne K (.ref (He.ga K p.1)) (.ref (He.ga K "Halted")) = some p.2
 xd_ValueError : ∀ (i : Nat) (p : Str × Bool), ([("Wrong", true), ("There", true), ("TooMany", true), ("NoBase", true), ("NoFit", true), ("Unlike", true), ("NoLog", true), ("NoFile", false), ("NoPiece", false), ("NoMoment", false), ("NoHolder", false), ("Busy", false), ("NoRoom", false), ("Held", false), ("Broken", false), ("Undone", false), ("OtherCut", true), ("NoText", true), ("NoRow", true), ("NoRun", false)] : List (Str × Bool))[i]? = some p -> PySem.W.kitOne K (.ref (He.ga K p.1)) (.type "ValueError") = some p.2
 xd_LookupError : ∀ (i : Nat) (p : Str × Bool), ([("Wrong", false), ("There", false), ("TooMany", false), ("NoBase", false), ("NoFit", false), ("Unlike", false), ("NoLog", false), ("NoFile", true), ("NoPiece", true), ("NoMoment", true), ("NoHolder", true), ("Busy", false), ("NoRoom", false), ("Held", false), ("Broken", false), ("Undone", false), ("OtherCut", false), ("NoText", false), ("NoRow", false), ("NoRun", true)] : List (Str × Bool))[i]? = some p -> PySem.W.kitOne K (.ref (He.ga K p.1)) (.type "LookupError") = some p.2
 xd_RuntimeError : ∀ (i : Nat) (p : Str × Bool), ([("Wrong", false), ("There", false), ("TooMany", false), ("NoBase", false), ("NoFit", false), ("Unlike", false), ("NoLog", false), ("NoFile", false), ("NoPiece", false), ("NoMoment", false), ("NoHolder", false), ("Busy", true), ("NoRoom", true), ("Held", true), ("Broken", true), ("Undone", true), ("OtherCut", false), ("NoText", false), ("NoRow", false), ("NoRun", false)] : List (Str × Bool))[i]? = some p -> PySem.W.kitOne K (.ref (He.ga K p.1)) (.type "RuntimeError") = some p.2
 b_abs : mg "abs" = none
 b_len : mg "len" = none
 b_isinstance : mg "isinstance" = none
 b_list : mg "list" = none
 b_tuple : mg "tuple" = none
 b_dict : mg "dict" = none
 b_range : mg "range" = none
 b_ValueError : mg "ValueError" = none
 b_LookupError : mg "LookupError" = none
 b_RuntimeError : mg "RuntimeError" = none
 b_repr : mg "repr" = none
theorem Txt.c {K : Fr} {mg : Str -> Option Value} (T : Txt K mg) : TxC K := ⟨T.xc_Wrong, T.xn_Wrong_at, T.xc_There, T.xn_There_thing, T.xc_TooMany, T.xn_TooMany_most, T.xc_NoBase, T.xn_NoBase_time, T.xc_NoFit, T.xn_NoFit_at, T.xc_Unlike, T.xn_Unlike_seal, T.xc_NoLog, T.xn_NoLog_at, T.xc_NoFile, T.xn_NoFile_name, T.xc_NoPiece, T.xn_NoPiece_seal, T.xc_NoMoment, T.xn_NoMoment_time, T.xc_NoHolder, T.xn_NoHolder_name, T.xc_Busy, T.xn_Busy_why, T.xc_NoRoom, T.xn_NoRoom_room, T.xc_Held, T.xn_Held_holders, T.xc_Broken, T.xn_Broken_seal, T.xc_Undone, T.xn_Undone_names, T.xc_OtherCut, T.xc_NoText, T.xc_NoRow, T.xc_NoRun, T.xd_Wrong, T.xd_There, T.xd_TooMany, T.xd_NoBase, T.xd_NoFit, T.xd_Unlike, T.xd_NoLog, T.xd_NoFile, T.xd_NoPiece, T.xd_NoMoment, T.xd_NoHolder, T.xd_Busy, T.xd_NoRoom, T.xd_Held, T.xd_Broken, T.xd_Undone, T.xd_OtherCut, T.xd_NoText, T.xd_NoRow, T.xd_NoRun, T.xd_StoreError, T.xd_Missing, T.xd_Halted, T.xd_ValueError, T.xd_LookupError, T.xd_RuntimeError⟩
local macro_rules | `(tactic| walk_at "oz") => `(tactic| first | exact Or.inl rfl | exact Or.inr rfl)
local macro_rules | `(tactic| walk_at "fs") => `(tactic| exact ⟨rfl, rfl, rfl, by decide +kernel, rfl, by decide +kernel, by decide +kernel⟩)
theorem nz {p : Prop} (h : false = true) : p := nomatch h
section
variable {P : Program} {w : World} {K : Fr} {mg : Str -> Option Value} {base : Heap}
theorem sc_Wrong___init__ : FnScope ["self", "at"] ["self", "at"] (defScope s_Wrong___init__) := (by walk_at "fs")
theorem bd_Wrong___init__ (T : Txt K mg) : Binds K (fdOf K (mA K "Wrong" "__init__")) ["self", "at"] [] := T.F_Wrong___init__.bindsN λ _ _ _ _ _ _ us hl => match us, hl with | [_, _], _ => rfl
theorem ok_Wrong___init__ (T : Txt K mg) : FnX false P w K mg base CX0 1 (mA K "Wrong" "__init__") (fdOf K (mA K "Wrong" "__init__")) ["self", "at"] (spX (He.ga K "Wrong") "at") := by
 refine okX T.F_Wrong___init__ sc_Wrong___init__ lenX (λ cdv A outer s H vs Q E hgu0 hr h => ⟨_, PSs.nox ?_, pureX (msg := "not what is wanted here") rfl T.xb_Wrong (chN_ok T.xn_Wrong_at) vs H Q E h⟩)
 exact (pss_cons (ps_expr (pe_xi rfl T.cg_StoreError T.xi_StoreError (pa_cons (pv 0) (pa_cons pe_str pa_nil)))) (pss_one (ps_xs (pv 0) (pv 1))))
theorem sc_There___init__ : FnScope ["self", "thing"] ["self", "thing"] (defScope s_There___init__) := (by walk_at "fs")
theorem bd_There___init__ (T : Txt K mg) : Binds K (fdOf K (mA K "There" "__init__")) ["self", "thing"] [] := T.F_There___init__.bindsN λ _ _ _ _ _ _ us hl => match us, hl with | [_, _], _ => rfl
theorem ok_There___init__ (T : Txt K mg) : FnX false P w K mg base CX0 1 (mA K "There" "__init__") (fdOf K (mA K "There" "__init__")) ["self", "thing"] (spX (He.ga K "There") "thing") := by
 refine okX T.F_There___init__ sc_There___init__ lenX (λ cdv A outer s H vs Q E hgu0 hr h => ⟨_, PSs.nox ?_, pureX (msg := "it is there already") rfl T.xb_There (chN_ok T.xn_There_thing) vs H Q E h⟩)
 exact (pss_cons (ps_expr (pe_xi rfl T.cg_StoreError T.xi_StoreError (pa_cons (pv 0) (pa_cons pe_str pa_nil)))) (pss_one (ps_xs (pv 0) (pv 1))))
theorem sc_TooMany___init__ : FnScope ["self", "most"] ["self", "most"] (defScope s_TooMany___init__) := (by walk_at "fs")
theorem bd_TooMany___init__ (T : Txt K mg) : Binds K (fdOf K (mA K "TooMany" "__init__")) ["self", "most"] [] := T.F_TooMany___init__.bindsN λ _ _ _ _ _ _ us hl => match us, hl with | [_, _], _ => rfl
theorem ok_TooMany___init__ (T : Txt K mg) : FnX false P w K mg base CX0 1 (mA K "TooMany" "__init__") (fdOf K (mA K "TooMany" "__init__")) ["self", "most"] (spX (He.ga K "TooMany") "most") := by
 refine okX T.F_TooMany___init__ sc_TooMany___init__ lenX (λ cdv A outer s H vs Q E hgu0 hr h => ⟨_, PSs.nox ?_, pureX (msg := "too many") rfl T.xb_TooMany (chN_ok T.xn_TooMany_most) vs H Q E h⟩)
 exact (pss_cons (ps_expr (pe_xi rfl T.cg_StoreError T.xi_StoreError (pa_cons (pv 0) (pa_cons pe_str pa_nil)))) (pss_one (ps_xs (pv 0) (pv 1))))
theorem sc_NoBase___init__ : FnScope ["self", "time"] ["self", "time"] (defScope s_NoBase___init__) := (by walk_at "fs")
theorem bd_NoBase___init__ (T : Txt K mg) : Binds K (fdOf K (mA K "NoBase" "__init__")) ["self", "time"] [] := T.F_NoBase___init__.bindsN λ _ _ _ _ _ _ us hl => match us, hl with | [_, _], _ => rfl
theorem ok_NoBase___init__ (T : Txt K mg) : FnX false P w K mg base CX0 1 (mA K "NoBase" "__init__") (fdOf K (mA K "NoBase" "__init__")) ["self", "time"] (spX (He.ga K "NoBase") "time") := by
 refine okX T.F_NoBase___init__ sc_NoBase___init__ lenX (λ cdv A outer s H vs Q E hgu0 hr h => ⟨_, PSs.nox ?_, pureX (msg := "nothing to stand on") rfl T.xb_NoBase (chN_ok T.xn_NoBase_time) vs H Q E h⟩)
 exact (pss_cons (ps_expr (pe_xi rfl T.cg_StoreError T.xi_StoreError (pa_cons (pv 0) (pa_cons pe_str pa_nil)))) (pss_one (ps_xs (pv 0) (pv 1))))
theorem sc_NoFit___init__ : FnScope ["self", "at"] ["self", "at"] (defScope s_NoFit___init__) := (by walk_at "fs")
theorem bd_NoFit___init__ (T : Txt K mg) : Binds K (fdOf K (mA K "NoFit" "__init__")) ["self", "at"] [] := T.F_NoFit___init__.bindsN λ _ _ _ _ _ _ us hl => match us, hl with | [_, _], _ => rfl
theorem ok_NoFit___init__ (T : Txt K mg) : FnX false P w K mg base CX0 1 (mA K "NoFit" "__init__") (fdOf K (mA K "NoFit" "__init__")) ["self", "at"] (spX (He.ga K "NoFit") "at") := by
 refine okX T.F_NoFit___init__ sc_NoFit___init__ lenX (λ cdv A outer s H vs Q E hgu0 hr h => ⟨_, PSs.nox ?_, pureX (msg := "a row does not fit") rfl T.xb_NoFit (chN_ok T.xn_NoFit_at) vs H Q E h⟩)
 exact (pss_cons (ps_expr (pe_xi rfl T.cg_StoreError T.xi_StoreError (pa_cons (pv 0) (pa_cons pe_str pa_nil)))) (pss_one (ps_xs (pv 0) (pv 1))))
theorem sc_Unlike___init__ : FnScope ["self", "seal"] ["self", "seal"] (defScope s_Unlike___init__) := (by walk_at "fs")
theorem bd_Unlike___init__ (T : Txt K mg) : Binds K (fdOf K (mA K "Unlike" "__init__")) ["self", "seal"] [] := T.F_Unlike___init__.bindsN λ _ _ _ _ _ _ us hl => match us, hl with | [_, _], _ => rfl
theorem ok_Unlike___init__ (T : Txt K mg) : FnX false P w K mg base CX0 1 (mA K "Unlike" "__init__") (fdOf K (mA K "Unlike" "__init__")) ["self", "seal"] (spX (He.ga K "Unlike") "seal") := by
 refine okX T.F_Unlike___init__ sc_Unlike___init__ lenX (λ cdv A outer s H vs Q E hgu0 hr h => ⟨_, PSs.nox ?_, pureX (msg := "other signs") rfl T.xb_Unlike (chN_ok T.xn_Unlike_seal) vs H Q E h⟩)
 exact (pss_cons (ps_expr (pe_xi rfl T.cg_StoreError T.xi_StoreError (pa_cons (pv 0) (pa_cons pe_str pa_nil)))) (pss_one (ps_xs (pv 0) (pv 1))))
theorem sc_NoLog___init__ : FnScope ["self", "at"] ["self", "at"] (defScope s_NoLog___init__) := (by walk_at "fs")
theorem bd_NoLog___init__ (T : Txt K mg) : Binds K (fdOf K (mA K "NoLog" "__init__")) ["self", "at"] [] := T.F_NoLog___init__.bindsN λ _ _ _ _ _ _ us hl => match us, hl with | [_, _], _ => rfl
theorem ok_NoLog___init__ (T : Txt K mg) : FnX false P w K mg base CX0 1 (mA K "NoLog" "__init__") (fdOf K (mA K "NoLog" "__init__")) ["self", "at"] (spX (He.ga K "NoLog") "at") := by
 refine okX T.F_NoLog___init__ sc_NoLog___init__ lenX (λ cdv A outer s H vs Q E hgu0 hr h => ⟨_, PSs.nox ?_, pureX (msg := "no such log") rfl T.xb_NoLog (chN_ok T.xn_NoLog_at) vs H Q E h⟩)
 exact (pss_cons (ps_expr (pe_xi rfl T.cg_StoreError T.xi_StoreError (pa_cons (pv 0) (pa_cons pe_str pa_nil)))) (pss_one (ps_xs (pv 0) (pv 1))))
theorem sc_NoFile___init__ : FnScope ["self", "name"] ["self", "name"] (defScope s_NoFile___init__) := (by walk_at "fs")
theorem bd_NoFile___init__ (T : Txt K mg) : Binds K (fdOf K (mA K "NoFile" "__init__")) ["self", "name"] [] := T.F_NoFile___init__.bindsN λ _ _ _ _ _ _ us hl => match us, hl with | [_, _], _ => rfl
theorem ok_NoFile___init__ (T : Txt K mg) : FnX false P w K mg base CX0 1 (mA K "NoFile" "__init__") (fdOf K (mA K "NoFile" "__init__")) ["self", "name"] (spX (He.ga K "NoFile") "name") := by
 refine okX T.F_NoFile___init__ sc_NoFile___init__ lenX (λ cdv A outer s H vs Q E hgu0 hr h => ⟨_, PSs.nox ?_, pureX (msg := "no such file") rfl T.xb_NoFile (chN_ok T.xn_NoFile_name) vs H Q E h⟩)
 exact (pss_cons (ps_expr (pe_xi rfl T.cg_Missing T.xi_Missing (pa_cons (pv 0) (pa_cons pe_str pa_nil)))) (pss_one (ps_xs (pv 0) (pv 1))))
theorem sc_NoPiece___init__ : FnScope ["self", "seal"] ["self", "seal"] (defScope s_NoPiece___init__) := (by walk_at "fs")
theorem bd_NoPiece___init__ (T : Txt K mg) : Binds K (fdOf K (mA K "NoPiece" "__init__")) ["self", "seal"] [] := T.F_NoPiece___init__.bindsN λ _ _ _ _ _ _ us hl => match us, hl with | [_, _], _ => rfl
theorem ok_NoPiece___init__ (T : Txt K mg) : FnX false P w K mg base CX0 1 (mA K "NoPiece" "__init__") (fdOf K (mA K "NoPiece" "__init__")) ["self", "seal"] (spX (He.ga K "NoPiece") "seal") := by
 refine okX T.F_NoPiece___init__ sc_NoPiece___init__ lenX (λ cdv A outer s H vs Q E hgu0 hr h => ⟨_, PSs.nox ?_, pureX (msg := "no such piece") rfl T.xb_NoPiece (chN_ok T.xn_NoPiece_seal) vs H Q E h⟩)
 exact (pss_cons (ps_expr (pe_xi rfl T.cg_Missing T.xi_Missing (pa_cons (pv 0) (pa_cons pe_str pa_nil)))) (pss_one (ps_xs (pv 0) (pv 1))))
theorem sc_NoMoment___init__ : FnScope ["self", "time"] ["self", "time"] (defScope s_NoMoment___init__) := (by walk_at "fs")
theorem bd_NoMoment___init__ (T : Txt K mg) : Binds K (fdOf K (mA K "NoMoment" "__init__")) ["self", "time"] [] := T.F_NoMoment___init__.bindsN λ _ _ _ _ _ _ us hl => match us, hl with | [_, _], _ => rfl
theorem ok_NoMoment___init__ (T : Txt K mg) : FnX false P w K mg base CX0 1 (mA K "NoMoment" "__init__") (fdOf K (mA K "NoMoment" "__init__")) ["self", "time"] (spX (He.ga K "NoMoment") "time") := by
 refine okX T.F_NoMoment___init__ sc_NoMoment___init__ lenX (λ cdv A outer s H vs Q E hgu0 hr h => ⟨_, PSs.nox ?_, pureX (msg := "no such moment") rfl T.xb_NoMoment (chN_ok T.xn_NoMoment_time) vs H Q E h⟩)
 exact (pss_cons (ps_expr (pe_xi rfl T.cg_Missing T.xi_Missing (pa_cons (pv 0) (pa_cons pe_str pa_nil)))) (pss_one (ps_xs (pv 0) (pv 1))))
theorem sc_NoHolder___init__ : FnScope ["self", "name"] ["self", "name"] (defScope s_NoHolder___init__) := (by walk_at "fs")
theorem bd_NoHolder___init__ (T : Txt K mg) : Binds K (fdOf K (mA K "NoHolder" "__init__")) ["self", "name"] [] := T.F_NoHolder___init__.bindsN λ _ _ _ _ _ _ us hl => match us, hl with | [_, _], _ => rfl
theorem ok_NoHolder___init__ (T : Txt K mg) : FnX false P w K mg base CX0 1 (mA K "NoHolder" "__init__") (fdOf K (mA K "NoHolder" "__init__")) ["self", "name"] (spX (He.ga K "NoHolder") "name") := by
 refine okX T.F_NoHolder___init__ sc_NoHolder___init__ lenX (λ cdv A outer s H vs Q E hgu0 hr h => ⟨_, PSs.nox ?_, pureX (msg := "it does not hold it") rfl T.xb_NoHolder (chN_ok T.xn_NoHolder_name) vs H Q E h⟩)
 exact (pss_cons (ps_expr (pe_xi rfl T.cg_Missing T.xi_Missing (pa_cons (pv 0) (pa_cons pe_str pa_nil)))) (pss_one (ps_xs (pv 0) (pv 1))))
theorem sc_Busy___init__ : FnScope ["self", "why"] ["self", "why"] (defScope s_Busy___init__) := (by walk_at "fs")
theorem bd_Busy___init__ (T : Txt K mg) : Binds K (fdOf K (mA K "Busy" "__init__")) ["self", "why"] [] := T.F_Busy___init__.bindsN λ _ _ _ _ _ _ us hl => match us, hl with | [_, _], _ => rfl
theorem ok_Busy___init__ (T : Txt K mg) : FnX false P w K mg base CX0 1 (mA K "Busy" "__init__") (fdOf K (mA K "Busy" "__init__")) ["self", "why"] (spX (He.ga K "Busy") "why") := by
 refine okX T.F_Busy___init__ sc_Busy___init__ lenX (λ cdv A outer s H vs Q E hgu0 hr h => ⟨_, PSs.nox ?_, pureX (msg := "it is busy") rfl T.xb_Busy (chN_ok T.xn_Busy_why) vs H Q E h⟩)
 exact (pss_cons (ps_expr (pe_xi rfl T.cg_Halted T.xi_Halted (pa_cons (pv 0) (pa_cons pe_str pa_nil)))) (pss_one (ps_xs (pv 0) (pv 1))))
theorem sc_NoRoom___init__ : FnScope ["self", "room"] ["self", "room"] (defScope s_NoRoom___init__) := (by walk_at "fs")
theorem bd_NoRoom___init__ (T : Txt K mg) : Binds K (fdOf K (mA K "NoRoom" "__init__")) ["self", "room"] [] := T.F_NoRoom___init__.bindsN λ _ _ _ _ _ _ us hl => match us, hl with | [_, _], _ => rfl
theorem ok_NoRoom___init__ (T : Txt K mg) : FnX false P w K mg base CX0 1 (mA K "NoRoom" "__init__") (fdOf K (mA K "NoRoom" "__init__")) ["self", "room"] (spX (He.ga K "NoRoom") "room") := by
 refine okX T.F_NoRoom___init__ sc_NoRoom___init__ lenX (λ cdv A outer s H vs Q E hgu0 hr h => ⟨_, PSs.nox ?_, pureX (msg := "it is full") rfl T.xb_NoRoom (chN_ok T.xn_NoRoom_room) vs H Q E h⟩)
 exact (pss_cons (ps_expr (pe_xi rfl T.cg_Halted T.xi_Halted (pa_cons (pv 0) (pa_cons pe_str pa_nil)))) (pss_one (ps_xs (pv 0) (pv 1))))
theorem sc_Held___init__ : FnScope ["self", "holders"] ["self", "holders"] (defScope s_Held___init__) := (by walk_at "fs")
theorem bd_Held___init__ (T : Txt K mg) : Binds K (fdOf K (mA K "Held" "__init__")) ["self", "holders"] [] := T.F_Held___init__.bindsN λ _ _ _ _ _ _ us hl => match us, hl with | [_, _], _ => rfl
theorem ok_Held___init__ (T : Txt K mg) : FnX false P w K mg base CX0 1 (mA K "Held" "__init__") (fdOf K (mA K "Held" "__init__")) ["self", "holders"] (spX (He.ga K "Held") "holders") := by
 refine okX T.F_Held___init__ sc_Held___init__ lenX (λ cdv A outer s H vs Q E hgu0 hr h => ⟨_, PSs.nox ?_, pureX (msg := "it is held") rfl T.xb_Held (chN_ok T.xn_Held_holders) vs H Q E h⟩)
 exact (pss_cons (ps_expr (pe_xi rfl T.cg_Halted T.xi_Halted (pa_cons (pv 0) (pa_cons pe_str pa_nil)))) (pss_one (ps_xs (pv 0) (pv 1))))
theorem sc_Broken___init__ : FnScope ["self", "seal"] ["self", "seal"] (defScope s_Broken___init__) := (by walk_at "fs")
theorem bd_Broken___init__ (T : Txt K mg) : Binds K (fdOf K (mA K "Broken" "__init__")) ["self", "seal"] [] := T.F_Broken___init__.bindsN λ _ _ _ _ _ _ us hl => match us, hl with | [_, _], _ => rfl
theorem ok_Broken___init__ (T : Txt K mg) : FnX false P w K mg base CX0 1 (mA K "Broken" "__init__") (fdOf K (mA K "Broken" "__init__")) ["self", "seal"] (spX (He.ga K "Broken") "seal") := by
 refine okX T.F_Broken___init__ sc_Broken___init__ lenX (λ cdv A outer s H vs Q E hgu0 hr h => ⟨_, PSs.nox ?_, pureX (msg := "it is not whole") rfl T.xb_Broken (chN_ok T.xn_Broken_seal) vs H Q E h⟩)
 exact (pss_cons (ps_expr (pe_xi rfl T.cg_Halted T.xi_Halted (pa_cons (pv 0) (pa_cons pe_str pa_nil)))) (pss_one (ps_xs (pv 0) (pv 1))))
theorem sc_Undone___init__ : FnScope ["self", "names"] ["self", "names"] (defScope s_Undone___init__) := (by walk_at "fs")
theorem bd_Undone___init__ (T : Txt K mg) : Binds K (fdOf K (mA K "Undone" "__init__")) ["self", "names"] [] := T.F_Undone___init__.bindsN λ _ _ _ _ _ _ us hl => match us, hl with | [_, _], _ => rfl
theorem ok_Undone___init__ (T : Txt K mg) : FnX false P w K mg base CX0 1 (mA K "Undone" "__init__") (fdOf K (mA K "Undone" "__init__")) ["self", "names"] (spX (He.ga K "Undone") "names") := by
 refine okX T.F_Undone___init__ sc_Undone___init__ lenX (λ cdv A outer s H vs Q E hgu0 hr h => ⟨_, PSs.nox ?_, pureX (msg := "files are left to do") rfl T.xb_Undone (chN_ok T.xn_Undone_names) vs H Q E h⟩)
 exact (pss_cons (ps_expr (pe_xi rfl T.cg_Halted T.xi_Halted (pa_cons (pv 0) (pa_cons pe_str pa_nil)))) (pss_one (ps_xs (pv 0) (pv 1))))
theorem sc_OtherCut___init__ : FnScope ["self"] ["self"] (defScope s_OtherCut___init__) := (by walk_at "fs")
theorem bd_OtherCut___init__ (T : Txt K mg) : Binds K (fdOf K (mA K "OtherCut" "__init__")) ["self"] [] := T.F_OtherCut___init__.bindsN λ _ _ _ _ _ _ us hl => match us, hl with | [_], _ => rfl
theorem ok_OtherCut___init__ (T : Txt K mg) : FnX false P w K mg base CX0 1 (mA K "OtherCut" "__init__") (fdOf K (mA K "OtherCut" "__init__")) ["self"] (spX0 (He.ga K "OtherCut")) := by
 refine okX T.F_OtherCut___init__ sc_OtherCut___init__ lenX0 (λ cdv A outer s H vs Q E hgu0 hr h => ⟨_, PSs.nox ?_, pureX0 (msg := "they cut in other ways") rfl T.xb_OtherCut vs H Q E h⟩)
 exact (pss_one (ps_expr (pe_xi rfl T.cg_StoreError T.xi_StoreError (pa_cons (pv 0) (pa_cons pe_str pa_nil)))))
theorem sc_NoText___init__ : FnScope ["self"] ["self"] (defScope s_NoText___init__) := (by walk_at "fs")
theorem bd_NoText___init__ (T : Txt K mg) : Binds K (fdOf K (mA K "NoText" "__init__")) ["self"] [] := T.F_NoText___init__.bindsN λ _ _ _ _ _ _ us hl => match us, hl with | [_], _ => rfl
theorem ok_NoText___init__ (T : Txt K mg) : FnX false P w K mg base CX0 1 (mA K "NoText" "__init__") (fdOf K (mA K "NoText" "__init__")) ["self"] (spX0 (He.ga K "NoText")) := by
 refine okX T.F_NoText___init__ sc_NoText___init__ lenX0 (λ cdv A outer s H vs Q E hgu0 hr h => ⟨_, PSs.nox ?_, pureX0 (msg := "no such text") rfl T.xb_NoText vs H Q E h⟩)
 exact (pss_one (ps_expr (pe_xi rfl T.cg_StoreError T.xi_StoreError (pa_cons (pv 0) (pa_cons pe_str pa_nil)))))
theorem sc_NoRow___init__ : FnScope ["self"] ["self"] (defScope s_NoRow___init__) := (by walk_at "fs")
theorem bd_NoRow___init__ (T : Txt K mg) : Binds K (fdOf K (mA K "NoRow" "__init__")) ["self"] [] := T.F_NoRow___init__.bindsN λ _ _ _ _ _ _ us hl => match us, hl with | [_], _ => rfl
theorem ok_NoRow___init__ (T : Txt K mg) : FnX false P w K mg base CX0 1 (mA K "NoRow" "__init__") (fdOf K (mA K "NoRow" "__init__")) ["self"] (spX0 (He.ga K "NoRow")) := by
 refine okX T.F_NoRow___init__ sc_NoRow___init__ lenX0 (λ cdv A outer s H vs Q E hgu0 hr h => ⟨_, PSs.nox ?_, pureX0 (msg := "no such row") rfl T.xb_NoRow vs H Q E h⟩)
 exact (pss_one (ps_expr (pe_xi rfl T.cg_StoreError T.xi_StoreError (pa_cons (pv 0) (pa_cons pe_str pa_nil)))))
theorem sc_NoRun___init__ : FnScope ["self"] ["self"] (defScope s_NoRun___init__) := (by walk_at "fs")
theorem bd_NoRun___init__ (T : Txt K mg) : Binds K (fdOf K (mA K "NoRun" "__init__")) ["self"] [] := T.F_NoRun___init__.bindsN λ _ _ _ _ _ _ us hl => match us, hl with | [_], _ => rfl
theorem ok_NoRun___init__ (T : Txt K mg) : FnX false P w K mg base CX0 1 (mA K "NoRun" "__init__") (fdOf K (mA K "NoRun" "__init__")) ["self"] (spX0 (He.ga K "NoRun")) := by
 refine okX T.F_NoRun___init__ sc_NoRun___init__ lenX0 (λ cdv A outer s H vs Q E hgu0 hr h => ⟨_, PSs.nox ?_, pureX0 (msg := "no run is open") rfl T.xb_NoRun vs H Q E h⟩)
 exact (pss_one (ps_expr (pe_xi rfl T.cg_Missing T.xi_Missing (pa_cons (pv 0) (pa_cons pe_str pa_nil)))))
theorem sc_l_bag : FnScope ["_law_script", "_law_cell"] ["_law_script"] (defScope s_l_bag) := (by walk_at "fs")
theorem bd_l_bag (T : Txt K mg) : Binds K (fdOf K (He.ga K "_law_bag")) ["_law_script"] [] := T.F_l_bag.bindsN λ _ _ _ _ _ _ us hl => match us, hl with | [_], _ => rfl
theorem ok_l_bag (T : Txt K mg) (nd : NDX base) : FnX false P w K mg base CX0 1 (He.ga K "_law_bag") (fdOf K (He.ga K "_law_bag")) ["_law_script"] (sp_l_bag K) := by
 refine okX T.F_l_bag sc_l_bag len_l_bag (λ cdv A outer s H vs Q E hgu0 hr h => ⟨t_l_bag K, PSs.nox ?_, pure_l_bag vs H Q E h⟩)
 exact (pss_one (ps_ret (pe_lst (pa_cons pe_int (pa_cons pe_int (pa_cons pe_int (pa_cons (pe_lc (own := [("_law_cell", 1)]) (g := (gName 1)) (tt := tYes) rfl sc_l_bag.nd (pi_list (pe_slice sl_any (pv 0) po_none (po_some pe_int))) (blkOk_by (own := [("_law_cell", 1)]) (N := ["_law_script", "_law_cell"]) (sc := defScope s_l_bag) (by decide +kernel)) (λ _ _ _ _ _ => (pg_name (i := 1) sc_l_bag.nd rfl (by walk_at "oz"))) (λ _ _ _ _ _ => pts_nil) (λ _ _ _ _ _ => (pe_callB cr_abs (by rfl) T.b_abs (by decide +kernel) (pa_cons (pv 1) pa_nil)))) pa_nil)))))))
theorem sc_l_take : FnScope ["_law_bag_here", "_law_many", "_law_first", "_law_second", "_law_cell", "_law_value"] ["_law_bag_here", "_law_many"] (defScope s_l_take) := (by walk_at "fs")
theorem bd_l_take (T : Txt K mg) : Binds K (fdOf K (He.ga K "_law_take")) ["_law_bag_here", "_law_many"] [] := T.F_l_take.bindsN λ _ _ _ _ _ _ us hl => match us, hl with | [_, _], _ => rfl
theorem ok_l_take (T : Txt K mg) (nd : NDX base) : FnX false P w K mg base CX0 1 (He.ga K "_law_take") (fdOf K (He.ga K "_law_take")) ["_law_bag_here", "_law_many"] (sp_l_take K) := by
 refine okX T.F_l_take sc_l_take len_l_take (λ cdv A outer s H vs Q E hgu0 hr h => ⟨t_l_take K, PSs.nox ?_, pure_l_take vs H Q E h⟩)
 exact (pss_cons (ps_if (pt_cmpR (uo_eq hr.units) (pe_ix ix_any (pv 0) pe_int (λ _ _ => rfl)) pe_int (nomark _)) (pss_cons (ps_set (i := 4) sc_l_take.nd rfl (by walk_at "oz") pe_int)
     (pss_cons (ps_if (pt_cmpR uo_lt (pe_ix ix_any (pv 0) pe_int (λ _ _ => rfl)) (pe_callB cr_len (by rfl) T.b_len (by decide +kernel) (pa_cons (pe_ix ix_any (pv 0) pe_int (λ _ _ => rfl)) pa_nil)) (nomark _)) (pss_one (ps_set (i := 4) sc_l_take.nd rfl (by walk_at "oz") (pe_ix ix_any (pe_ix ix_any (pv 0) pe_int (λ _ _ => rfl)) (pe_ix ix_any (pv 0) pe_int (λ _ _ => rfl)) (λ _ _ => rfl)))) pss_nil)
     (pss_cons (ps_augS (pv 0) pe_int (get_any hr.u1) pe_int (ip_of io_add) (set_any hr.u1))
     (pss_cons (ps_if (pt_cmpR uo_ge (pv 4) pe_int (nomark _)) (pss_one (ps_asg (pv 4) (pg_sub (pv 0) pe_int (set_any hr.u1)))) pss_nil)
     (pss_one (ps_asg (pe_op uo_mod (pe_op uo_add (pe_op uo_add (pe_op uo_mul (pe_ix ix_any (pv 0) pe_int (λ _ _ => rfl)) pe_int) (pe_op uo_mod (pv 4) pe_int)) (pe_op uo_mul pe_int (pe_ix ix_any (pv 0) pe_int (λ _ _ => rfl)))) pe_int) (pg_sub (pv 0) pe_int (set_any hr.u1)))))))) pss_nil)
     (pss_cons (ps_if (pt_cmpR uo_gt (pe_ix ix_any (pv 0) pe_int (λ _ _ => rfl)) pe_int (nomark _)) (pss_cons (ps_set (i := 5) sc_l_take.nd rfl (by walk_at "oz") (pe_op uo_mod (pe_ix ix_any (pv 0) pe_int (λ _ _ => rfl)) (pv 1)))
     (pss_cons (ps_asg (pe_op uo_div (pe_ix ix_any (pv 0) pe_int (λ _ _ => rfl)) (pv 1)) (pg_sub (pv 0) pe_int (set_any hr.u1)))
     (pss_one (ps_ret (pv 5))))) pss_nil)
     (pss_cons (ps_set (i := 2) sc_l_take.nd rfl (by walk_at "oz") (pe_op uo_mod (pe_op uo_mul (pe_op uo_add (pe_ix ix_any (pv 0) pe_int (λ _ _ => rfl)) pe_int) pe_int) pe_int))
     (pss_cons (ps_set (i := 3) sc_l_take.nd rfl (by walk_at "oz") (pe_op uo_mod (pe_op uo_mul (pe_op uo_mod (pe_op uo_mul (pv 2) (pv 2)) pe_int) pe_int) pe_int))
     (pss_cons (ps_if (pt_cmpR uo_gt (pv 1) pe_int (nomark _)) (pss_one (ps_ret (pe_op uo_mod (pe_op uo_add (pe_op uo_mul (pv 3) pe_int) (pv 2)) (pv 1)))) pss_nil)
     (pss_one (ps_ret (pe_op uo_mod (pe_op uo_div (pv 3) pe_int) (pv 1)))))))))
theorem sc_l_copy : FnScope ["_law_thing", "_law_one", "_law_name"] ["_law_thing"] (defScope s_l_copy) := (by walk_at "fs")
theorem bd_l_copy (T : Txt K mg) : Binds K (fdOf K (He.ga K "_law_copy")) ["_law_thing"] [] := T.F_l_copy.bindsN λ _ _ _ _ _ _ us hl => match us, hl with | [_], _ => rfl
theorem okn_l_copy (T : Txt K mg) (nd : NDX base) : ∀ n, FnX false P w K mg base CX0 n (He.ga K "_law_copy") (fdOf K (He.ga K "_law_copy")) ["_law_thing"] (spCp K n)
 | 0 => ⟨λ _ _ _ _ h => h.elim, λ _ _ _ _ _ _ _ _ _ _ _ _ _ _ _ _ h => h.elim⟩
 | n + 1 => by
   refine okX T.F_l_copy sc_l_copy (len_cp (n + 1)) (λ cdv A outer s H vs Q E hgu0 hr h => ⟨tCpy K (spCp K n), PSs.nox ?_, pure_cp n vs H Q E _ rfl h⟩)
   exact (pss_cons (ps_if (pt_val (pe_callB cr_isiQ (by rfl) T.b_isinstance (by decide +kernel) (pa_cons (pv 0) (pa_cons (pe_bltn (by rfl) T.b_list (by decide +kernel) rfl) pa_nil)))) (pss_one (ps_ret (pe_lc (own := [("_law_one", 1)]) (g := (gName 1)) (tt := tYes) rfl sc_l_copy.nd (pi_list (pv 0)) (blkOk_by (own := [("_law_one", 1)]) (N := ["_law_thing", "_law_one", "_law_name"]) (sc := defScope s_l_copy) (by decide +kernel)) (λ _ _ _ _ _ => (pg_name (i := 1) sc_l_copy.nd rfl (by walk_at "oz"))) (λ _ _ _ _ _ => pts_nil) (λ _ _ _ _ _ => (pe_callX (okn_l_copy T nd n) nz hr rfl T.g_l_copy T.F_l_copy.kp (bd_l_copy T) .nil pass0 (pa_cons (pv 1) pa_nil)))))) pss_nil) (pss_cons (ps_if (pt_val (pe_callB cr_isiQ (by rfl) T.b_isinstance (by decide +kernel) (pa_cons (pv 0) (pa_cons (pe_bltn (by rfl) T.b_tuple (by decide +kernel) rfl) pa_nil)))) (pss_one (ps_ret (pe_callTy cr_tupL (by rfl) T.b_tuple (by decide +kernel) (pa_cons (pe_lc (own := [("_law_one", 1)]) (g := (gName 1)) (tt := tYes) rfl sc_l_copy.nd (pi_tup (pv 0)) (blkOk_by (own := [("_law_one", 1)]) (N := ["_law_thing", "_law_one", "_law_name"]) (sc := defScope s_l_copy) (by decide +kernel)) (λ _ _ _ _ _ => (pg_name (i := 1) sc_l_copy.nd rfl (by walk_at "oz"))) (λ _ _ _ _ _ => pts_nil) (λ _ _ _ _ _ => (pe_callX (okn_l_copy T nd n) nz hr rfl T.g_l_copy T.F_l_copy.kp (bd_l_copy T) .nil pass0 (pa_cons (pv 1) pa_nil)))) pa_nil)))) pss_nil) (pss_cons (ps_if (pt_val (pe_callB cr_isiQ (by rfl) T.b_isinstance (by decide +kernel) (pa_cons (pv 0) (pa_cons (pe_bltn (by rfl) T.b_dict (by decide +kernel) rfl) pa_nil)))) (pss_one (ps_ret (pe_fz (pe_callTy (cr_dictP rfl) (by rfl) T.b_dict (by decide +kernel) (pa_cons (pe_lk (pe_lc (own := [("_law_name", 2)]) (g := (gName 2)) (tt := tYes) rfl sc_l_copy.nd (pi_keys (pv 0)) (blkOk_by (own := [("_law_name", 2)]) (N := ["_law_thing", "_law_one", "_law_name"]) (sc := defScope s_l_copy) (by decide +kernel)) (λ _ _ _ _ _ => (pg_name (i := 2) sc_l_copy.nd rfl (by walk_at "oz"))) (λ _ _ _ _ _ => pts_nil) (λ _ _ _ _ _ => (pe_tup (pa_cons (pv 2) (pa_cons (pe_callX (okn_l_copy T nd n) nz hr rfl T.g_l_copy T.F_l_copy.kp (bd_l_copy T) .nil pass0 (pa_cons (pe_ix (ix_dk hr.u1) (pv 0) (pv 2) (λ _ _ => rfl)) pa_nil)) pa_nil)))))) pa_nil))))) pss_nil) (pss_one (ps_ret (pv 0))))))
theorem ok_l_copy (T : Txt K mg) (nd : NDX base) : FnX false P w K mg base CX0 8 (He.ga K "_law_copy") (fdOf K (He.ga K "_law_copy")) ["_law_thing"] (sp_l_copy K) := okn_l_copy T nd 8
theorem sc_l_odd : FnScope ["_law_bag_here", "_law_some"] ["_law_bag_here"] (defScope s_l_odd) := (by walk_at "fs")
theorem bd_l_odd (T : Txt K mg) : Binds K (fdOf K (He.ga K "_law_odd")) ["_law_bag_here"] [] := T.F_l_odd.bindsN λ _ _ _ _ _ _ us hl => match us, hl with | [_], _ => rfl
theorem ok_l_odd (T : Txt K mg) (nd : NDX base) : FnX false P w K mg base CX0 9 (He.ga K "_law_odd") (fdOf K (He.ga K "_law_odd")) ["_law_bag_here"] (sp_l_odd K) := by
 refine okX T.F_l_odd sc_l_odd len_l_odd (λ cdv A outer s H vs Q E hgu0 hr h => ⟨t_l_odd K, PSs.nox ?_, pure_l_odd vs H Q E h⟩)
 exact (pss_cons (ps_set (i := 1) sc_l_odd.nd rfl (by walk_at "oz") (pe_lst (pa_cons pe_non (pa_cons pe_bl (pa_cons pe_bl (pa_cons (pe_un un_neg pe_int) (pa_cons pe_int (pa_cons pe_int (pa_cons pe_int (pa_cons pe_int (pa_cons pe_int (pa_cons pe_str (pa_cons pe_str (pa_cons pe_str (pa_cons pe_str (pa_cons (pe_tup pa_nil) (pa_cons (pe_lst pa_nil) (pa_cons (pe_tup (pa_cons pe_int pa_nil)) (pa_cons (pe_lst (pa_cons pe_int pa_nil)) (pa_cons (pe_lst (pa_cons pe_int pa_nil)) (pa_cons (pe_lst (pa_cons (pe_un un_neg pe_int) pa_nil)) pa_nil)))))))))))))))))))))
     (pss_cons (ps_set (i := 1) sc_l_odd.nd rfl (by walk_at "oz") (pe_op uo_add (pv 1) (pe_lst (pa_cons (pe_lst (pa_cons pe_bl pa_nil)) (pa_cons (pe_lst (pa_cons pe_non pa_nil)) (pa_cons (pe_lst (pa_cons pe_str pa_nil)) (pa_cons (pe_lst (pa_cons (pe_lst (pa_cons pe_int pa_nil)) pa_nil)) (pa_cons (pe_fz pe_dnewK) (pa_cons (pe_fz (pe_disp (pps_cons pe_str (pe_lst pa_nil) pps_nil) rfl rfl (List.cons_ne_nil _ _) (Nat.le_of_ble_eq_true rfl))) (pa_cons (pe_fz (pe_disp (pps_cons pe_int (pe_lst pa_nil) pps_nil) rfl rfl (List.cons_ne_nil _ _) (Nat.le_of_ble_eq_true rfl))) (pa_cons (pe_fz (pe_disp (pps_cons pe_str (pe_lst (pa_cons pe_int pa_nil)) pps_nil) rfl rfl (List.cons_ne_nil _ _) (Nat.le_of_ble_eq_true rfl))) (pa_cons (pe_tup (pa_cons pe_int (pa_cons pe_int pa_nil))) (pa_cons (pe_op uo_add (pe_op uo_pow pe_int pe_int) pe_int) (pa_cons (pe_un un_neg (pe_op uo_pow pe_int pe_int)) pa_nil))))))))))))))
     (pss_cons (ps_set (i := 1) sc_l_odd.nd rfl (by walk_at "oz") (pe_op uo_add (pv 1) (pe_lst (pa_cons (pe_op op_rep (pe_lst (pa_cons pe_int pa_nil)) pe_int) (pa_cons (pe_op op_rep (pe_lst (pa_cons pe_int pa_nil)) pe_int) (pa_cons (pe_op op_rep (pe_lst (pa_cons pe_int pa_nil)) pe_int) (pa_cons (pe_op op_rep (pe_lst (pa_cons pe_int pa_nil)) pe_int) (pa_cons pe_int (pa_cons pe_int (pa_cons pe_int (pa_cons pe_int (pa_cons pe_int (pa_cons pe_str (pa_cons (pe_lst (pa_cons pe_int (pa_cons pe_int pa_nil))) pa_nil))))))))))))))
     (pss_one (ps_ret (pe_callX (ok_l_copy T nd) nz hr rfl T.g_l_copy T.F_l_copy.kp (bd_l_copy T) .nil pass0 (pa_cons (pe_ix ix_any (pv 1) (pe_callX (ok_l_take T nd) nz (hr.mono (by decide)) rfl T.g_l_take T.F_l_take.kp (bd_l_take T) .nil pass0 (pa_cons (pv 0) (pa_cons (pe_callB cr_len (by rfl) T.b_len (by decide +kernel) (pa_cons (pv 1) pa_nil)) pa_nil))) (λ _ _ => rfl)) pa_nil)))))))
theorem sc_l_made_else : FnScope ["_law_which", "_law_thing"] ["_law_which", "_law_thing"] (defScope s_l_made_else) := (by walk_at "fs")
theorem bd_l_made_else (T : Txt K mg) : Binds K (fdOf K (He.ga K "_law_made_else")) ["_law_which", "_law_thing"] [] := T.F_l_made_else.bindsN λ _ _ _ _ _ _ us hl => match us, hl with | [_, _], _ => rfl
theorem ok_l_made_else (T : Txt K mg) (nd : NDX base) : FnX false P w K mg base CX0 3 (He.ga K "_law_made_else") (fdOf K (He.ga K "_law_made_else")) ["_law_which", "_law_thing"] (sp_l_made_else K) := by
 refine okX T.F_l_made_else sc_l_made_else len_l_made_else (λ cdv A outer s H vs Q E hgu0 hr h => ⟨t_l_made_else K, PSs.nox ?_, pure_l_made_else T.c vs H Q E h⟩)
 exact (pss_cons (ps_if (pt_cmpR (uo_eq hr.units) (pv 0) pe_int (nomark _)) (pss_one (ps_ret (pe_mkX T.xb_NoHolder T.xf_NoHolder.1 T.xf_NoHolder.2 (ok_NoHolder___init__ T) (hr.mono (by decide)) (bd_NoHolder___init__ T) (λ _ _ _ _ _ _ _ z => z.elim) rfl T.cg_NoHolder (pv 1)))) pss_nil)
     (pss_cons (ps_if (pt_cmpR (uo_eq hr.units) (pv 0) pe_int (nomark _)) (pss_one (ps_ret (pe_mkX T.xb_Busy T.xf_Busy.1 T.xf_Busy.2 (ok_Busy___init__ T) (hr.mono (by decide)) (bd_Busy___init__ T) (λ _ _ _ _ _ _ _ z => z.elim) rfl T.cg_Busy (pv 1)))) pss_nil)
     (pss_cons (ps_if (pt_cmpR (uo_eq hr.units) (pv 0) pe_int (nomark _)) (pss_one (ps_ret (pe_mkX T.xb_NoRoom T.xf_NoRoom.1 T.xf_NoRoom.2 (ok_NoRoom___init__ T) (hr.mono (by decide)) (bd_NoRoom___init__ T) (λ _ _ _ _ _ _ _ z => z.elim) rfl T.cg_NoRoom (pv 1)))) pss_nil)
     (pss_cons (ps_if (pt_cmpR (uo_eq hr.units) (pv 0) pe_int (nomark _)) (pss_one (ps_ret (pe_mkX T.xb_Held T.xf_Held.1 T.xf_Held.2 (ok_Held___init__ T) (hr.mono (by decide)) (bd_Held___init__ T) (λ _ _ _ _ _ _ _ z => z.elim) rfl T.cg_Held (pv 1)))) pss_nil)
     (pss_cons (ps_if (pt_cmpR (uo_eq hr.units) (pv 0) pe_int (nomark _)) (pss_one (ps_ret (pe_mkX T.xb_Broken T.xf_Broken.1 T.xf_Broken.2 (ok_Broken___init__ T) (hr.mono (by decide)) (bd_Broken___init__ T) (λ _ _ _ _ _ _ _ z => z.elim) rfl T.cg_Broken (pv 1)))) pss_nil)
     (pss_cons (ps_if (pt_cmpR (uo_eq hr.units) (pv 0) pe_int (nomark _)) (pss_one (ps_ret (pe_mkX T.xb_Undone T.xf_Undone.1 T.xf_Undone.2 (ok_Undone___init__ T) (hr.mono (by decide)) (bd_Undone___init__ T) (λ _ _ _ _ _ _ _ z => z.elim) rfl T.cg_Undone (pv 1)))) pss_nil)
     (pss_cons (ps_if (pt_cmpR (uo_eq hr.units) (pv 0) pe_int (nomark _)) (pss_one (ps_ret (pe_mkX0 T.xb_OtherCut T.xf_OtherCut.1 T.xf_OtherCut.2 (ok_OtherCut___init__ T) (hr.mono (by decide)) (bd_OtherCut___init__ T) (λ _ _ _ _ _ _ _ z => z.elim) rfl T.cg_OtherCut))) pss_nil)
     (pss_cons (ps_if (pt_cmpR (uo_eq hr.units) (pv 0) pe_int (nomark _)) (pss_one (ps_ret (pe_mkX0 T.xb_NoText T.xf_NoText.1 T.xf_NoText.2 (ok_NoText___init__ T) (hr.mono (by decide)) (bd_NoText___init__ T) (λ _ _ _ _ _ _ _ z => z.elim) rfl T.cg_NoText))) pss_nil)
     (pss_cons (ps_if (pt_cmpR (uo_eq hr.units) (pv 0) pe_int (nomark _)) (pss_one (ps_ret (pe_mkX0 T.xb_NoRow T.xf_NoRow.1 T.xf_NoRow.2 (ok_NoRow___init__ T) (hr.mono (by decide)) (bd_NoRow___init__ T) (λ _ _ _ _ _ _ _ z => z.elim) rfl T.cg_NoRow))) pss_nil)
     (pss_one (ps_ret (pe_mkX0 T.xb_NoRun T.xf_NoRun.1 T.xf_NoRun.2 (ok_NoRun___init__ T) (hr.mono (by decide)) (bd_NoRun___init__ T) (λ _ _ _ _ _ _ _ z => z.elim) rfl T.cg_NoRun))))))))))))
theorem sc_l_made : FnScope ["_law_which", "_law_thing"] ["_law_which", "_law_thing"] (defScope s_l_made) := (by walk_at "fs")
theorem bd_l_made (T : Txt K mg) : Binds K (fdOf K (He.ga K "_law_made")) ["_law_which", "_law_thing"] [] := T.F_l_made.bindsN λ _ _ _ _ _ _ us hl => match us, hl with | [_, _], _ => rfl
theorem ok_l_made (T : Txt K mg) (nd : NDX base) : FnX false P w K mg base CX0 4 (He.ga K "_law_made") (fdOf K (He.ga K "_law_made")) ["_law_which", "_law_thing"] (sp_l_made K) := by
 refine okX T.F_l_made sc_l_made len_l_made (λ cdv A outer s H vs Q E hgu0 hr h => ⟨t_l_made K, PSs.nox ?_, pure_l_made T.c vs H Q E h⟩)
 exact (pss_cons (ps_if (pt_cmpR (uo_eq hr.units) (pv 0) pe_int (nomark _)) (pss_one (ps_ret (pe_mkX T.xb_Wrong T.xf_Wrong.1 T.xf_Wrong.2 (ok_Wrong___init__ T) (hr.mono (by decide)) (bd_Wrong___init__ T) (λ _ _ _ _ _ _ _ z => z.elim) rfl T.cg_Wrong (pv 1)))) pss_nil)
     (pss_cons (ps_if (pt_cmpR (uo_eq hr.units) (pv 0) pe_int (nomark _)) (pss_one (ps_ret (pe_mkX T.xb_There T.xf_There.1 T.xf_There.2 (ok_There___init__ T) (hr.mono (by decide)) (bd_There___init__ T) (λ _ _ _ _ _ _ _ z => z.elim) rfl T.cg_There (pv 1)))) pss_nil)
     (pss_cons (ps_if (pt_cmpR (uo_eq hr.units) (pv 0) pe_int (nomark _)) (pss_one (ps_ret (pe_mkX T.xb_TooMany T.xf_TooMany.1 T.xf_TooMany.2 (ok_TooMany___init__ T) (hr.mono (by decide)) (bd_TooMany___init__ T) (λ _ _ _ _ _ _ _ z => z.elim) rfl T.cg_TooMany (pv 1)))) pss_nil)
     (pss_cons (ps_if (pt_cmpR (uo_eq hr.units) (pv 0) pe_int (nomark _)) (pss_one (ps_ret (pe_mkX T.xb_NoBase T.xf_NoBase.1 T.xf_NoBase.2 (ok_NoBase___init__ T) (hr.mono (by decide)) (bd_NoBase___init__ T) (λ _ _ _ _ _ _ _ z => z.elim) rfl T.cg_NoBase (pv 1)))) pss_nil)
     (pss_cons (ps_if (pt_cmpR (uo_eq hr.units) (pv 0) pe_int (nomark _)) (pss_one (ps_ret (pe_mkX T.xb_NoFit T.xf_NoFit.1 T.xf_NoFit.2 (ok_NoFit___init__ T) (hr.mono (by decide)) (bd_NoFit___init__ T) (λ _ _ _ _ _ _ _ z => z.elim) rfl T.cg_NoFit (pv 1)))) pss_nil)
     (pss_cons (ps_if (pt_cmpR (uo_eq hr.units) (pv 0) pe_int (nomark _)) (pss_one (ps_ret (pe_mkX T.xb_Unlike T.xf_Unlike.1 T.xf_Unlike.2 (ok_Unlike___init__ T) (hr.mono (by decide)) (bd_Unlike___init__ T) (λ _ _ _ _ _ _ _ z => z.elim) rfl T.cg_Unlike (pv 1)))) pss_nil)
     (pss_cons (ps_if (pt_cmpR (uo_eq hr.units) (pv 0) pe_int (nomark _)) (pss_one (ps_ret (pe_mkX T.xb_NoLog T.xf_NoLog.1 T.xf_NoLog.2 (ok_NoLog___init__ T) (hr.mono (by decide)) (bd_NoLog___init__ T) (λ _ _ _ _ _ _ _ z => z.elim) rfl T.cg_NoLog (pv 1)))) pss_nil)
     (pss_cons (ps_if (pt_cmpR (uo_eq hr.units) (pv 0) pe_int (nomark _)) (pss_one (ps_ret (pe_mkX T.xb_NoFile T.xf_NoFile.1 T.xf_NoFile.2 (ok_NoFile___init__ T) (hr.mono (by decide)) (bd_NoFile___init__ T) (λ _ _ _ _ _ _ _ z => z.elim) rfl T.cg_NoFile (pv 1)))) pss_nil)
     (pss_cons (ps_if (pt_cmpR (uo_eq hr.units) (pv 0) pe_int (nomark _)) (pss_one (ps_ret (pe_mkX T.xb_NoPiece T.xf_NoPiece.1 T.xf_NoPiece.2 (ok_NoPiece___init__ T) (hr.mono (by decide)) (bd_NoPiece___init__ T) (λ _ _ _ _ _ _ _ z => z.elim) rfl T.cg_NoPiece (pv 1)))) pss_nil)
     (pss_cons (ps_if (pt_cmpR (uo_eq hr.units) (pv 0) pe_int (nomark _)) (pss_one (ps_ret (pe_mkX T.xb_NoMoment T.xf_NoMoment.1 T.xf_NoMoment.2 (ok_NoMoment___init__ T) (hr.mono (by decide)) (bd_NoMoment___init__ T) (λ _ _ _ _ _ _ _ z => z.elim) rfl T.cg_NoMoment (pv 1)))) pss_nil)
     (pss_one (ps_ret (pe_callX (ok_l_made_else T nd) nz hr rfl T.g_l_made_else T.F_l_made_else.kp (bd_l_made_else T) .nil pass0 (pa_cons (pv 0) (pa_cons (pv 1) pa_nil)))))))))))))))
theorem sc_l_classes : FnScope ["_law_e", "_law_found", "_law_k"] ["_law_e"] (defScope s_l_classes) := (by walk_at "fs")
theorem bd_l_classes (T : Txt K mg) : Binds K (fdOf K (He.ga K "_law_classes")) ["_law_e"] [] := T.F_l_classes.bindsN λ _ _ _ _ _ _ us hl => match us, hl with | [_], _ => rfl
theorem ok_l_classes (T : Txt K mg) (nd : NDX base) : FnX false P w K mg base CX0 1 (He.ga K "_law_classes") (fdOf K (He.ga K "_law_classes")) ["_law_e"] (sp_l_classes K) := by
 refine okX T.F_l_classes sc_l_classes len_l_classes (λ cdv A outer s H vs Q E hgu0 hr h => ⟨t_l_classes K, PSs.nox ?_, pure_l_classes T.c vs H Q E h⟩)
 exact (pss_cons (ps_set (i := 1) sc_l_classes.nd rfl (by walk_at "oz") (pe_lst (pa_cons (pe_callB cr_isO (by rfl) T.b_isinstance (by decide +kernel) (pa_cons (pv 0) (pa_cons (pe_glob rfl T.cg_Wrong rfl) pa_nil))) (pa_cons (pe_callB cr_isO (by rfl) T.b_isinstance (by decide +kernel) (pa_cons (pv 0) (pa_cons (pe_glob rfl T.cg_There rfl) pa_nil))) (pa_cons (pe_callB cr_isO (by rfl) T.b_isinstance (by decide +kernel) (pa_cons (pv 0) (pa_cons (pe_glob rfl T.cg_TooMany rfl) pa_nil))) (pa_cons (pe_callB cr_isO (by rfl) T.b_isinstance (by decide +kernel) (pa_cons (pv 0) (pa_cons (pe_glob rfl T.cg_NoBase rfl) pa_nil))) pa_nil))))))
     (pss_cons (ps_set (i := 1) sc_l_classes.nd rfl (by walk_at "oz") (pe_op uo_add (pv 1) (pe_lst (pa_cons (pe_callB cr_isO (by rfl) T.b_isinstance (by decide +kernel) (pa_cons (pv 0) (pa_cons (pe_glob rfl T.cg_NoFit rfl) pa_nil))) (pa_cons (pe_callB cr_isO (by rfl) T.b_isinstance (by decide +kernel) (pa_cons (pv 0) (pa_cons (pe_glob rfl T.cg_Unlike rfl) pa_nil))) (pa_cons (pe_callB cr_isO (by rfl) T.b_isinstance (by decide +kernel) (pa_cons (pv 0) (pa_cons (pe_glob rfl T.cg_NoLog rfl) pa_nil))) (pa_cons (pe_callB cr_isO (by rfl) T.b_isinstance (by decide +kernel) (pa_cons (pv 0) (pa_cons (pe_glob rfl T.cg_NoFile rfl) pa_nil))) pa_nil)))))))
     (pss_cons (ps_set (i := 1) sc_l_classes.nd rfl (by walk_at "oz") (pe_op uo_add (pv 1) (pe_lst (pa_cons (pe_callB cr_isO (by rfl) T.b_isinstance (by decide +kernel) (pa_cons (pv 0) (pa_cons (pe_glob rfl T.cg_NoPiece rfl) pa_nil))) (pa_cons (pe_callB cr_isO (by rfl) T.b_isinstance (by decide +kernel) (pa_cons (pv 0) (pa_cons (pe_glob rfl T.cg_NoMoment rfl) pa_nil))) (pa_cons (pe_callB cr_isO (by rfl) T.b_isinstance (by decide +kernel) (pa_cons (pv 0) (pa_cons (pe_glob rfl T.cg_NoHolder rfl) pa_nil))) (pa_cons (pe_callB cr_isO (by rfl) T.b_isinstance (by decide +kernel) (pa_cons (pv 0) (pa_cons (pe_glob rfl T.cg_Busy rfl) pa_nil))) pa_nil)))))))
     (pss_cons (ps_set (i := 1) sc_l_classes.nd rfl (by walk_at "oz") (pe_op uo_add (pv 1) (pe_lst (pa_cons (pe_callB cr_isO (by rfl) T.b_isinstance (by decide +kernel) (pa_cons (pv 0) (pa_cons (pe_glob rfl T.cg_NoRoom rfl) pa_nil))) (pa_cons (pe_callB cr_isO (by rfl) T.b_isinstance (by decide +kernel) (pa_cons (pv 0) (pa_cons (pe_glob rfl T.cg_Held rfl) pa_nil))) (pa_cons (pe_callB cr_isO (by rfl) T.b_isinstance (by decide +kernel) (pa_cons (pv 0) (pa_cons (pe_glob rfl T.cg_Broken rfl) pa_nil))) (pa_cons (pe_callB cr_isO (by rfl) T.b_isinstance (by decide +kernel) (pa_cons (pv 0) (pa_cons (pe_glob rfl T.cg_Undone rfl) pa_nil))) pa_nil)))))))
     (pss_cons (ps_set (i := 1) sc_l_classes.nd rfl (by walk_at "oz") (pe_op uo_add (pv 1) (pe_lst (pa_cons (pe_callB cr_isO (by rfl) T.b_isinstance (by decide +kernel) (pa_cons (pv 0) (pa_cons (pe_glob rfl T.cg_OtherCut rfl) pa_nil))) (pa_cons (pe_callB cr_isO (by rfl) T.b_isinstance (by decide +kernel) (pa_cons (pv 0) (pa_cons (pe_glob rfl T.cg_NoText rfl) pa_nil))) (pa_cons (pe_callB cr_isO (by rfl) T.b_isinstance (by decide +kernel) (pa_cons (pv 0) (pa_cons (pe_glob rfl T.cg_NoRow rfl) pa_nil))) (pa_cons (pe_callB cr_isO (by rfl) T.b_isinstance (by decide +kernel) (pa_cons (pv 0) (pa_cons (pe_glob rfl T.cg_NoRun rfl) pa_nil))) pa_nil)))))))
     (pss_one (ps_ret (pe_lc (own := [("_law_k", 2)]) (g := (gName 2)) (tt := (tB (tOp (uIx K) (tVar 1) (tVar 2)))) rfl sc_l_classes.nd (pi_range1 (by rfl) T.b_range (pa_cons pe_int pa_nil)) (blkOk_by (own := [("_law_k", 2)]) (N := ["_law_e", "_law_found", "_law_k"]) (sc := defScope s_l_classes) (by decide +kernel)) (λ _ _ _ _ _ => (pg_name (i := 2) sc_l_classes.nd rfl (by walk_at "oz"))) (λ _ _ _ _ _ => (pts_one (pt_val (pe_ix ix_any (pv 1) (pv 2) (λ _ _ => rfl))))) (λ _ _ _ _ _ => (pv 2))))))))))
theorem sc_l_kinds : FnScope ["_law_e", "_law_under"] ["_law_e"] (defScope s_l_kinds) := (by walk_at "fs")
theorem bd_l_kinds (T : Txt K mg) : Binds K (fdOf K (He.ga K "_law_kinds")) ["_law_e"] [] := T.F_l_kinds.bindsN λ _ _ _ _ _ _ us hl => match us, hl with | [_], _ => rfl
theorem ok_l_kinds (T : Txt K mg) (nd : NDX base) : FnX false P w K mg base CX0 1 (He.ga K "_law_kinds") (fdOf K (He.ga K "_law_kinds")) ["_law_e"] (sp_l_kinds K) := by
 refine okX T.F_l_kinds sc_l_kinds len_l_kinds (λ cdv A outer s H vs Q E hgu0 hr h => ⟨t_l_kinds K, PSs.nox ?_, pure_l_kinds T.c vs H Q E h⟩)
 exact (pss_cons (ps_set (i := 1) sc_l_kinds.nd rfl (by walk_at "oz") (pe_lst (pa_cons (pe_callB cr_isO (by rfl) T.b_isinstance (by decide +kernel) (pa_cons (pv 0) (pa_cons (pe_glob rfl T.cg_StoreError rfl) pa_nil))) (pa_cons (pe_callB cr_isO (by rfl) T.b_isinstance (by decide +kernel) (pa_cons (pv 0) (pa_cons (pe_glob rfl T.cg_Missing rfl) pa_nil))) (pa_cons (pe_callB cr_isO (by rfl) T.b_isinstance (by decide +kernel) (pa_cons (pv 0) (pa_cons (pe_glob rfl T.cg_Halted rfl) pa_nil))) pa_nil)))))
     (pss_one (ps_ret (pe_op uo_add (pv 1) (pe_lst (pa_cons (pe_callB cr_isO (by rfl) T.b_isinstance (by decide +kernel) (pa_cons (pv 0) (pa_cons (pe_bltn (by rfl) T.b_ValueError (by decide +kernel) rfl) pa_nil))) (pa_cons (pe_callB cr_isO (by rfl) T.b_isinstance (by decide +kernel) (pa_cons (pv 0) (pa_cons (pe_bltn (by rfl) T.b_LookupError (by decide +kernel) rfl) pa_nil))) (pa_cons (pe_callB cr_isO (by rfl) T.b_isinstance (by decide +kernel) (pa_cons (pv 0) (pa_cons (pe_bltn (by rfl) T.b_RuntimeError (by decide +kernel) rfl) pa_nil))) pa_nil))))))))
theorem sc_l_alike : FnScope ["_law_found", "_law_due"] ["_law_found", "_law_due"] (defScope s_l_alike) := (by walk_at "fs")
theorem bd_l_alike (T : Txt K mg) : Binds K (fdOf K (He.ga K "_law_alike")) ["_law_found", "_law_due"] [] := T.F_l_alike.bindsN λ _ _ _ _ _ _ us hl => match us, hl with | [_, _], _ => rfl
theorem ok_l_alike (T : Txt K mg) (nd : NDX base) : FnX true P w K mg base CX0 1 (He.ga K "_law_alike") (fdOf K (He.ga K "_law_alike")) ["_law_found", "_law_due"] (sp_l_alike K) := by
 refine okX T.F_l_alike sc_l_alike len_l_alike (λ cdv A outer s H vs Q E hgu0 hr h => ⟨t_l_alike K, PSs.nox ?_, pure_l_alike vs H Q E h⟩)
 have hgu : (A.deeper (envOfC "_law_alike" (defScope s_l_alike) s.heap.objs.size (He.ga K "_law_alike") cdv)).guards = some [] := hgu0 rfl
 exact (pss_one (ps_ret (pe_and (pe_cmpR (uo_eqQ (units128 hr)) (pv 0) (pv 1) (nomark _)) (pe_one (pe_cmpR (uo_eqQ (units128 hr)) (pe_callB (cr_reprQ nd.2 hgu hr.units) (by rfl) T.b_repr (by decide +kernel) (pa_cons (pv 0) pa_nil)) (pe_callB (cr_reprQ nd.2 hgu hr.units) (by rfl) T.b_repr (by decide +kernel) (pa_cons (pv 1) pa_nil)) (nomark _))))))
theorem sc_l_kept_thing : FnScope ["_law_which", "_law_e"] ["_law_which", "_law_e"] (defScope s_l_kept_thing) := (by walk_at "fs")
theorem bd_l_kept_thing (T : Txt K mg) : Binds K (fdOf K (He.ga K "_law_kept_thing")) ["_law_which", "_law_e"] [] := T.F_l_kept_thing.bindsN λ _ _ _ _ _ _ us hl => match us, hl with | [_, _], _ => rfl
theorem ok_l_kept_thing (T : Txt K mg) (nd : NDX base) : FnX false P w K mg base CX0 1 (He.ga K "_law_kept_thing") (fdOf K (He.ga K "_law_kept_thing")) ["_law_which", "_law_e"] (sp_l_kept_thing K) := by
 refine okX T.F_l_kept_thing sc_l_kept_thing len_l_kept_thing (λ cdv A outer s H vs Q E hgu0 hr h => ⟨t_l_kept_thing K, PSs.nox ?_, pure_l_kept_thing T.c vs H Q E h⟩)
 exact (pss_cons (ps_if (pt_cmpR (uo_inU hr.u65) (pv 0) (pe_tup (pa_cons pe_int (pa_cons pe_int (pa_cons pe_int pa_nil)))) (by rfl)) (pss_one (ps_ret (pe_xgO (pv 1)))) pss_nil)
     (pss_cons (ps_if (pt_cmpR (uo_eq hr.units) (pv 0) pe_int (nomark _)) (pss_one (ps_ret (pe_xgO (pv 1)))) pss_nil)
     (pss_cons (ps_if (pt_cmpR (uo_eq hr.units) (pv 0) pe_int (nomark _)) (pss_one (ps_ret (pe_xgO (pv 1)))) pss_nil)
     (pss_cons (ps_if (pt_cmpR (uo_inU hr.u65) (pv 0) (pe_tup (pa_cons pe_int (pa_cons pe_int pa_nil))) (by rfl)) (pss_one (ps_ret (pe_xgO (pv 1)))) pss_nil)
     (pss_cons (ps_if (pt_cmpR (uo_inU hr.u65) (pv 0) (pe_tup (pa_cons pe_int (pa_cons pe_int (pa_cons pe_int pa_nil)))) (by rfl)) (pss_one (ps_ret (pe_xgO (pv 1)))) pss_nil)
     (pss_cons (ps_if (pt_cmpR (uo_inU hr.u65) (pv 0) (pe_tup (pa_cons pe_int (pa_cons pe_int pa_nil))) (by rfl)) (pss_one (ps_ret (pe_xgO (pv 1)))) pss_nil)
     (pss_cons (ps_if (pt_cmpR (uo_eq hr.units) (pv 0) pe_int (nomark _)) (pss_one (ps_ret (pe_xgO (pv 1)))) pss_nil)
     (pss_cons (ps_if (pt_cmpR (uo_eq hr.units) (pv 0) pe_int (nomark _)) (pss_one (ps_ret (pe_xgO (pv 1)))) pss_nil)
     (pss_cons (ps_if (pt_cmpR (uo_eq hr.units) (pv 0) pe_int (nomark _)) (pss_one (ps_ret (pe_xgO (pv 1)))) pss_nil)
     (pss_one (ps_ret (pe_xgO (pv 1)))))))))))))
theorem sc_l_right : FnScope ["_law_which", "_law_e", "_law_thing", "_law_kind", "_law_due", "_law_k"] ["_law_which", "_law_e", "_law_thing"] (defScope s_l_right) := (by walk_at "fs")
theorem bd_l_right (T : Txt K mg) : Binds K (fdOf K (He.ga K "_law_right")) ["_law_which", "_law_e", "_law_thing"] [] := T.F_l_right.bindsN λ _ _ _ _ _ _ us hl => match us, hl with | [_, _, _], _ => rfl
theorem ok_l_right (T : Txt K mg) (nd : NDX base) : FnX true P w K mg base CX0 2 (He.ga K "_law_right") (fdOf K (He.ga K "_law_right")) ["_law_which", "_law_e", "_law_thing"] (sp_l_right K) := by
 refine okX T.F_l_right sc_l_right len_l_right (λ cdv A outer s H vs Q E hgu0 hr h => ⟨t_l_right K, PSs.nox ?_, pure_l_right vs H Q E h⟩)
 have hgu : (A.deeper (envOfC "_law_right" (defScope s_l_right) s.heap.objs.size (He.ga K "_law_right") cdv)).guards = some [] := hgu0 rfl
 exact (pss_cons (ps_set (i := 3) sc_l_right.nd rfl (by walk_at "oz") pe_int)
     (pss_cons (ps_if (pt_cmpR (uo_inU hr.u65) (pv 0) (pe_tup (pa_cons pe_int (pa_cons pe_int (pa_cons pe_int (pa_cons pe_int (pa_cons pe_int pa_nil)))))) (by rfl)) (pss_one (ps_set (i := 3) sc_l_right.nd rfl (by walk_at "oz") pe_int)) pss_nil)
     (pss_cons (ps_if (pt_cmpR (uo_inU hr.u65) (pv 0) (pe_tup (pa_cons pe_int (pa_cons pe_int (pa_cons pe_int (pa_cons pe_int (pa_cons pe_int pa_nil)))))) (by rfl)) (pss_one (ps_set (i := 3) sc_l_right.nd rfl (by walk_at "oz") pe_int)) pss_nil)
     (pss_cons (ps_setLc (i := 4) (own := [("_law_k", 5)]) (g := (gName 5)) (tt := tYes) rfl sc_l_right.nd rfl rfl (sw_true rfl rfl rfl (by decide +kernel)) (pi_range1 (by rfl) T.b_range (pa_cons pe_int pa_nil)) (blkOk_by (own := [("_law_k", 5)]) (N := ["_law_which", "_law_e", "_law_thing", "_law_kind", "_law_due", "_law_k"]) (sc := defScope s_l_right) (by decide +kernel)) (λ _ _ _ _ _ => (pg_name (i := 5) sc_l_right.nd rfl (by walk_at "oz"))) (λ _ _ _ _ _ => pts_nil) (λ _ _ _ _ _ => (pe_cmpR (uo_eq hr.units) (pe_op uo_mod (pv 5) pe_int) (pv 3) (nomark _))))
     (pss_cons (ps_if (PW.pt (pw_or (pt_cmpR (uo_ne hr.units) (pe_callX (ok_l_classes T nd) nz hr rfl T.g_l_classes T.F_l_classes.kp (bd_l_classes T) .nil pass0 (pa_cons (pv 1) pa_nil)) (pe_lst (pa_cons (pv 0) pa_nil)) (nomark _)) (pw_or1 (pt_cmpR (uo_ne hr.units) (pe_callX (ok_l_kinds T nd) nz hr rfl T.g_l_kinds T.F_l_kinds.kp (bd_l_kinds T) .nil pass0 (pa_cons (pv 1) pa_nil)) (pv 4) (nomark _))))) (pss_one (ps_ret pe_bl)) pss_nil)
     (pss_one (ps_ret (pe_or (pe_cmpR uo_gt (pv 0) pe_int (nomark _)) (pe_one (pe_callX (ok_l_alike T nd) (λ _ => hgu) hr rfl T.g_l_alike T.F_l_alike.kp (bd_l_alike T) .nil pass0 (pa_cons (pe_callX (ok_l_kept_thing T nd) nz hr rfl T.g_l_kept_thing T.F_l_kept_thing.kp (bd_l_kept_thing T) .nil pass0 (pa_cons (pv 0) (pa_cons (pv 1) pa_nil))) (pa_cons (pv 2) pa_nil))))))))))))
theorem sc_law : FnScope ["_law_script", "_law_bag_here", "_law_made_here", "_law_first", "_law_k", "_law_thing", "_law_which", "_law_e"] ["_law_script"] (defScope s_law) := (by walk_at "fs")
theorem ok_law (T : Txt K mg) (nd : NDX base) : FnX true P w K mg base CX0 10 (He.ga K "law") (fdOf K (He.ga K "law")) ["_law_script"] (sp_law K) := by
 refine okX T.F_law sc_law len_law (λ cdv A outer s H vs Q E hgu0 hr h => ⟨t_law K, PSs.nox ?_, pure_law vs H Q E h⟩)
 have hgu : (A.deeper (envOfC "law" (defScope s_law) s.heap.objs.size (He.ga K "law") cdv)).guards = some [] := hgu0 rfl
 exact (pss_cons (ps_set (i := 1) sc_law.nd rfl (by walk_at "oz") (pe_callX (ok_l_bag T nd) nz (hr.mono (by decide)) rfl T.g_l_bag T.F_l_bag.kp (bd_l_bag T) .nil pass0 (pa_cons (pv 0) pa_nil)))
     (pss_cons (ps_set (i := 2) sc_law.nd rfl (by walk_at "oz") (pe_lst pa_nil))
     (pss_cons (ps_set (i := 3) sc_law.nd rfl (by walk_at "oz") (pe_callX (ok_l_take T nd) nz (hr.mono (by decide)) rfl T.g_l_take T.F_l_take.kp (bd_l_take T) .nil pass0 (pa_cons (pv 1) (pa_cons pe_int pa_nil))))
     (pss_cons (ps_for PassesOwn.never rfl (pi_range1 (by rfl) T.b_range (pa_cons pe_int pa_nil)) (pg_name (i := 4) sc_law.nd rfl (by walk_at "oz")) (pss_cons (ps_set (i := 5) sc_law.nd rfl (by walk_at "oz") (pe_ix ix_any (pe_lst (pa_cons (pe_callX (ok_l_odd T nd) nz hr rfl T.g_l_odd T.F_l_odd.kp (bd_l_odd T) .nil pass0 (pa_cons (pv 1) pa_nil)) (pa_cons (pe_lst (pa_cons (pe_callX (ok_l_odd T nd) nz hr rfl T.g_l_odd T.F_l_odd.kp (bd_l_odd T) .nil pass0 (pa_cons (pv 1) pa_nil)) (pa_cons pe_str pa_nil))) (pa_cons (pe_callX (ok_l_take T nd) nz (hr.mono (by decide)) rfl T.g_l_take T.F_l_take.kp (bd_l_take T) .nil pass0 (pa_cons (pv 1) (pa_cons (pe_op uo_pow pe_int pe_int) pa_nil))) pa_nil)))) (pe_callX (ok_l_take T nd) nz (hr.mono (by decide)) rfl T.g_l_take T.F_l_take.kp (bd_l_take T) .nil pass0 (pa_cons (pv 1) (pa_cons pe_int pa_nil))) (λ _ _ => rfl)))
     (pss_cons (ps_set (i := 6) sc_law.nd rfl (by walk_at "oz") (pe_op uo_mod (pe_op uo_add (pv 3) (pe_op uo_mul pe_int (pv 4))) pe_int))
     (pss_one (ps_expr (pe_bm PySem.F.plainAttrs_list PySem.F.slot_list_append PySem.F.type_list_append mt_append (pv 2) (pa_cons (pe_tup (pa_cons (pv 6) (pa_cons (pe_callX (ok_l_made T nd) nz (hr.mono (by decide)) rfl T.g_l_made T.F_l_made.kp (bd_l_made T) .nil pass0 (pa_cons (pv 6) (pa_cons (pv 5) pa_nil))) (pa_cons (pv 5) pa_nil)))) pa_nil)))))))
     (pss_cons (ps_for PassesOwn.never rfl (pi_list (pe_op uo_add (pv 2) (pe_revL (pv 2)))) (pg_tup rfl (pgs_cons (pg_name (i := 6) sc_law.nd rfl (by walk_at "oz")) (pgs_cons (pg_name (i := 7) sc_law.nd rfl (by walk_at "oz")) (pgs_cons (pg_name (i := 5) sc_law.nd rfl (by walk_at "oz")) pgs_nil)))) (pss_one (ps_if (pt_not (pt_val (pe_callX (ok_l_right T nd) (λ _ => hgu) (hr.mono (by decide)) rfl T.g_l_right T.F_l_right.kp (bd_l_right T) .nil pass0 (pa_cons (pv 6) (pa_cons (pv 7) (pa_cons (pv 5) pa_nil)))))) (pss_one (ps_ret pe_bl)) pss_nil)))
     (pss_one (ps_ret pe_bl)))))))
end
theorem txt {K : Fr} {h : Heap} {mg : Str -> Option Value} (X : K.In h) (G : h.Ns mainGlobals mg) (c : SaysF fa fn K) : Txt K mg where
 F_l_bag := fd_of (c.def_ 0 (d := d_l_bag) rfl)
 F_l_take := fd_of (c.def_ 1 (d := d_l_take) rfl)
 F_l_copy := fd_of (c.def_ 2 (d := d_l_copy) rfl)
 F_l_odd := fd_of (c.def_ 3 (d := d_l_odd) rfl)
 F_l_made_else := fd_of (c.def_ 4 (d := d_l_made_else) rfl)
 F_l_made := fd_of (c.def_ 5 (d := d_l_made) rfl)
 F_l_classes := fd_of (c.def_ 6 (d := d_l_classes) rfl)
 F_l_kinds := fd_of (c.def_ 7 (d := d_l_kinds) rfl)
 F_l_alike := fd_of (c.def_ 8 (d := d_l_alike) rfl)
 F_l_kept_thing := fd_of (c.def_ 9 (d := d_l_kept_thing) rfl)
 F_l_right := fd_of (c.def_ 10 (d := d_l_right) rfl)
 F_law := fd_of (c.def_ 11 (d := d_law) rfl)
 F_Wrong___init__ := fd_of (c.def_ 12 (d := d_Wrong___init__) rfl)
 F_There___init__ := fd_of (c.def_ 13 (d := d_There___init__) rfl)
 F_TooMany___init__ := fd_of (c.def_ 14 (d := d_TooMany___init__) rfl)
 F_NoBase___init__ := fd_of (c.def_ 15 (d := d_NoBase___init__) rfl)
 F_NoFit___init__ := fd_of (c.def_ 16 (d := d_NoFit___init__) rfl)
 F_Unlike___init__ := fd_of (c.def_ 17 (d := d_Unlike___init__) rfl)
 F_NoLog___init__ := fd_of (c.def_ 18 (d := d_NoLog___init__) rfl)
 F_NoFile___init__ := fd_of (c.def_ 19 (d := d_NoFile___init__) rfl)
 F_NoPiece___init__ := fd_of (c.def_ 20 (d := d_NoPiece___init__) rfl)
 F_NoMoment___init__ := fd_of (c.def_ 21 (d := d_NoMoment___init__) rfl)
 F_NoHolder___init__ := fd_of (c.def_ 22 (d := d_NoHolder___init__) rfl)
 F_Busy___init__ := fd_of (c.def_ 23 (d := d_Busy___init__) rfl)
 F_NoRoom___init__ := fd_of (c.def_ 24 (d := d_NoRoom___init__) rfl)
 F_Held___init__ := fd_of (c.def_ 25 (d := d_Held___init__) rfl)
 F_Broken___init__ := fd_of (c.def_ 26 (d := d_Broken___init__) rfl)
 F_Undone___init__ := fd_of (c.def_ 27 (d := d_Undone___init__) rfl)
 F_OtherCut___init__ := fd_of (c.def_ 28 (d := d_OtherCut___init__) rfl)
 F_NoText___init__ := fd_of (c.def_ 29 (d := d_NoText___init__) rfl)
 F_NoRow___init__ := fd_of (c.def_ 30 (d := d_NoRow___init__) rfl)
 F_NoRun___init__ := fd_of (c.def_ 31 (d := d_NoRun___init__) rfl)
 g_l_bag := He.glo_ok X G (c.fact 0 (f := (λ K => (He.Fa.glo "_law_bag").ok K)) rfl)
 g_l_take := He.glo_ok X G (c.fact 1 (f := (λ K => (He.Fa.glo "_law_take").ok K)) rfl)
 g_l_copy := He.glo_ok X G (c.fact 2 (f := (λ K => (He.Fa.glo "_law_copy").ok K)) rfl)
 g_l_odd := He.glo_ok X G (c.fact 3 (f := (λ K => (He.Fa.glo "_law_odd").ok K)) rfl)
 g_l_made_else := He.glo_ok X G (c.fact 4 (f := (λ K => (He.Fa.glo "_law_made_else").ok K)) rfl)
 g_l_made := He.glo_ok X G (c.fact 5 (f := (λ K => (He.Fa.glo "_law_made").ok K)) rfl)
 g_l_classes := He.glo_ok X G (c.fact 6 (f := (λ K => (He.Fa.glo "_law_classes").ok K)) rfl)
 g_l_kinds := He.glo_ok X G (c.fact 7 (f := (λ K => (He.Fa.glo "_law_kinds").ok K)) rfl)
 g_l_alike := He.glo_ok X G (c.fact 8 (f := (λ K => (He.Fa.glo "_law_alike").ok K)) rfl)
 g_l_kept_thing := He.glo_ok X G (c.fact 9 (f := (λ K => (He.Fa.glo "_law_kept_thing").ok K)) rfl)
 g_l_right := He.glo_ok X G (c.fact 10 (f := (λ K => (He.Fa.glo "_law_right").ok K)) rfl)
 g_law := He.glo_ok X G (c.fact 11 (f := (λ K => (He.Fa.glo "law").ok K)) rfl)
 cg_NoHolder := He.glo_ok X G (c.fact 12 (f := (λ K => (He.Fa.glo "NoHolder").ok K)) rfl)
 cg_Busy := He.glo_ok X G (c.fact 13 (f := (λ K => (He.Fa.glo "Busy").ok K)) rfl)
 cg_NoRoom := He.glo_ok X G (c.fact 14 (f := (λ K => (He.Fa.glo "NoRoom").ok K)) rfl)
 cg_Held := He.glo_ok X G (c.fact 15 (f := (λ K => (He.Fa.glo "Held").ok K)) rfl)
 cg_Broken := He.glo_ok X G (c.fact 16 (f := (λ K => (He.Fa.glo "Broken").ok K)) rfl)
 cg_Undone := He.glo_ok X G (c.fact 17 (f := (λ K => (He.Fa.glo "Undone").ok K)) rfl)
 cg_OtherCut := He.glo_ok X G (c.fact 18 (f := (λ K => (He.Fa.glo "OtherCut").ok K)) rfl)
 cg_NoText := He.glo_ok X G (c.fact 19 (f := (λ K => (He.Fa.glo "NoText").ok K)) rfl)
 cg_NoRow := He.glo_ok X G (c.fact 20 (f := (λ K => (He.Fa.glo "NoRow").ok K)) rfl)
 cg_NoRun := He.glo_ok X G (c.fact 21 (f := (λ K => (He.Fa.glo "NoRun").ok K)) rfl)
 cg_Wrong := He.glo_ok X G (c.fact 22 (f := (λ K => (He.Fa.glo "Wrong").ok K)) rfl)
 cg_There := He.glo_ok X G (c.fact 23 (f := (λ K => (He.Fa.glo "There").ok K)) rfl)
 cg_TooMany := He.glo_ok X G (c.fact 24 (f := (λ K => (He.Fa.glo "TooMany").ok K)) rfl)
 cg_NoBase := He.glo_ok X G (c.fact 25 (f := (λ K => (He.Fa.glo "NoBase").ok K)) rfl)
 cg_NoFit := He.glo_ok X G (c.fact 26 (f := (λ K => (He.Fa.glo "NoFit").ok K)) rfl)
 cg_Unlike := He.glo_ok X G (c.fact 27 (f := (λ K => (He.Fa.glo "Unlike").ok K)) rfl)
 cg_NoLog := He.glo_ok X G (c.fact 28 (f := (λ K => (He.Fa.glo "NoLog").ok K)) rfl)
 cg_NoFile := He.glo_ok X G (c.fact 29 (f := (λ K => (He.Fa.glo "NoFile").ok K)) rfl)
 cg_NoPiece := He.glo_ok X G (c.fact 30 (f := (λ K => (He.Fa.glo "NoPiece").ok K)) rfl)
 cg_NoMoment := He.glo_ok X G (c.fact 31 (f := (λ K => (He.Fa.glo "NoMoment").ok K)) rfl)
 cg_StoreError := He.glo_ok X G (c.fact 32 (f := (λ K => (He.Fa.glo "StoreError").ok K)) rfl)
 cg_Missing := He.glo_ok X G (c.fact 33 (f := (λ K => (He.Fa.glo "Missing").ok K)) rfl)
 cg_Halted := He.glo_ok X G (c.fact 34 (f := (λ K => (He.Fa.glo "Halted").ok K)) rfl)
 xb_Wrong := chB_VE (c.fact 35 (f := (λ K => chB K "Wrong" (tlB "ValueError") "ValueError.__new__")) rfl)
 xf_Wrong := chF_ok (c.fact 36 (f := (λ K => chF K "Wrong")) rfl)
 xc_Wrong := chC_ok (c.fact 37 (f := (λ K => chC K "Wrong")) rfl)
 xn_Wrong_at := id (c.fact 38 (f := (λ K => chN K "Wrong" "at")) rfl)
 xi_StoreError := chI_ok (c.fact 39 (f := (λ K => chI K "StoreError" "ValueError.__init__")) rfl)
 xb_There := chB_VE (c.fact 40 (f := (λ K => chB K "There" (tlB "ValueError") "ValueError.__new__")) rfl)
 xf_There := chF_ok (c.fact 41 (f := (λ K => chF K "There")) rfl)
 xc_There := chC_ok (c.fact 42 (f := (λ K => chC K "There")) rfl)
 xn_There_thing := id (c.fact 43 (f := (λ K => chN K "There" "thing")) rfl)
 xb_TooMany := chB_VE (c.fact 44 (f := (λ K => chB K "TooMany" (tlB "ValueError") "ValueError.__new__")) rfl)
 xf_TooMany := chF_ok (c.fact 45 (f := (λ K => chF K "TooMany")) rfl)
 xc_TooMany := chC_ok (c.fact 46 (f := (λ K => chC K "TooMany")) rfl)
 xn_TooMany_most := id (c.fact 47 (f := (λ K => chN K "TooMany" "most")) rfl)
 xb_NoBase := chB_VE (c.fact 48 (f := (λ K => chB K "NoBase" (tlB "ValueError") "ValueError.__new__")) rfl)
 xf_NoBase := chF_ok (c.fact 49 (f := (λ K => chF K "NoBase")) rfl)
 xc_NoBase := chC_ok (c.fact 50 (f := (λ K => chC K "NoBase")) rfl)
 xn_NoBase_time := id (c.fact 51 (f := (λ K => chN K "NoBase" "time")) rfl)
 xb_NoFit := chB_VE (c.fact 52 (f := (λ K => chB K "NoFit" (tlB "ValueError") "ValueError.__new__")) rfl)
 xf_NoFit := chF_ok (c.fact 53 (f := (λ K => chF K "NoFit")) rfl)
 xc_NoFit := chC_ok (c.fact 54 (f := (λ K => chC K "NoFit")) rfl)
 xn_NoFit_at := id (c.fact 55 (f := (λ K => chN K "NoFit" "at")) rfl)
 xb_Unlike := chB_VE (c.fact 56 (f := (λ K => chB K "Unlike" (tlB "ValueError") "ValueError.__new__")) rfl)
 xf_Unlike := chF_ok (c.fact 57 (f := (λ K => chF K "Unlike")) rfl)
 xc_Unlike := chC_ok (c.fact 58 (f := (λ K => chC K "Unlike")) rfl)
 xn_Unlike_seal := id (c.fact 59 (f := (λ K => chN K "Unlike" "seal")) rfl)
 xb_NoLog := chB_VE (c.fact 60 (f := (λ K => chB K "NoLog" (tlB "ValueError") "ValueError.__new__")) rfl)
 xf_NoLog := chF_ok (c.fact 61 (f := (λ K => chF K "NoLog")) rfl)
 xc_NoLog := chC_ok (c.fact 62 (f := (λ K => chC K "NoLog")) rfl)
 xn_NoLog_at := id (c.fact 63 (f := (λ K => chN K "NoLog" "at")) rfl)
 xb_NoFile := chB_LE (c.fact 64 (f := (λ K => chB K "NoFile" (tlB "LookupError") "LookupError.__new__")) rfl)
 xf_NoFile := chF_ok (c.fact 65 (f := (λ K => chF K "NoFile")) rfl)
 xc_NoFile := chC_ok (c.fact 66 (f := (λ K => chC K "NoFile")) rfl)
 xn_NoFile_name := id (c.fact 67 (f := (λ K => chN K "NoFile" "name")) rfl)
 xi_Missing := chI_ok (c.fact 68 (f := (λ K => chI K "Missing" "LookupError.__init__")) rfl)
 xb_NoPiece := chB_LE (c.fact 69 (f := (λ K => chB K "NoPiece" (tlB "LookupError") "LookupError.__new__")) rfl)
 xf_NoPiece := chF_ok (c.fact 70 (f := (λ K => chF K "NoPiece")) rfl)
 xc_NoPiece := chC_ok (c.fact 71 (f := (λ K => chC K "NoPiece")) rfl)
 xn_NoPiece_seal := id (c.fact 72 (f := (λ K => chN K "NoPiece" "seal")) rfl)
 xb_NoMoment := chB_LE (c.fact 73 (f := (λ K => chB K "NoMoment" (tlB "LookupError") "LookupError.__new__")) rfl)
 xf_NoMoment := chF_ok (c.fact 74 (f := (λ K => chF K "NoMoment")) rfl)
 xc_NoMoment := chC_ok (c.fact 75 (f := (λ K => chC K "NoMoment")) rfl)
 xn_NoMoment_time := id (c.fact 76 (f := (λ K => chN K "NoMoment" "time")) rfl)
 xb_NoHolder := chB_LE (c.fact 77 (f := (λ K => chB K "NoHolder" (tlB "LookupError") "LookupError.__new__")) rfl)
 xf_NoHolder := chF_ok (c.fact 78 (f := (λ K => chF K "NoHolder")) rfl)
 xc_NoHolder := chC_ok (c.fact 79 (f := (λ K => chC K "NoHolder")) rfl)
 xn_NoHolder_name := id (c.fact 80 (f := (λ K => chN K "NoHolder" "name")) rfl)
 xb_Busy := chB_RE (c.fact 81 (f := (λ K => chB K "Busy" (tlB "RuntimeError") "RuntimeError.__new__")) rfl)
 xf_Busy := chF_ok (c.fact 82 (f := (λ K => chF K "Busy")) rfl)
 xc_Busy := chC_ok (c.fact 83 (f := (λ K => chC K "Busy")) rfl)
 xn_Busy_why := id (c.fact 84 (f := (λ K => chN K "Busy" "why")) rfl)
 xi_Halted := chI_ok (c.fact 85 (f := (λ K => chI K "Halted" "RuntimeError.__init__")) rfl)
 xb_NoRoom := chB_RE (c.fact 86 (f := (λ K => chB K "NoRoom" (tlB "RuntimeError") "RuntimeError.__new__")) rfl)
 xf_NoRoom := chF_ok (c.fact 87 (f := (λ K => chF K "NoRoom")) rfl)
 xc_NoRoom := chC_ok (c.fact 88 (f := (λ K => chC K "NoRoom")) rfl)
 xn_NoRoom_room := id (c.fact 89 (f := (λ K => chN K "NoRoom" "room")) rfl)
 xb_Held := chB_RE (c.fact 90 (f := (λ K => chB K "Held" (tlB "RuntimeError") "RuntimeError.__new__")) rfl)
 xf_Held := chF_ok (c.fact 91 (f := (λ K => chF K "Held")) rfl)
 xc_Held := chC_ok (c.fact 92 (f := (λ K => chC K "Held")) rfl)
 xn_Held_holders := id (c.fact 93 (f := (λ K => chN K "Held" "holders")) rfl)
 xb_Broken := chB_RE (c.fact 94 (f := (λ K => chB K "Broken" (tlB "RuntimeError") "RuntimeError.__new__")) rfl)
 xf_Broken := chF_ok (c.fact 95 (f := (λ K => chF K "Broken")) rfl)
 xc_Broken := chC_ok (c.fact 96 (f := (λ K => chC K "Broken")) rfl)
 xn_Broken_seal := id (c.fact 97 (f := (λ K => chN K "Broken" "seal")) rfl)
 xb_Undone := chB_RE (c.fact 98 (f := (λ K => chB K "Undone" (tlB "RuntimeError") "RuntimeError.__new__")) rfl)
 xf_Undone := chF_ok (c.fact 99 (f := (λ K => chF K "Undone")) rfl)
 xc_Undone := chC_ok (c.fact 100 (f := (λ K => chC K "Undone")) rfl)
 xn_Undone_names := id (c.fact 101 (f := (λ K => chN K "Undone" "names")) rfl)
 xb_OtherCut := chB_VE (c.fact 102 (f := (λ K => chB K "OtherCut" (tlB "ValueError") "ValueError.__new__")) rfl)
 xf_OtherCut := chF_ok (c.fact 103 (f := (λ K => chF K "OtherCut")) rfl)
 xc_OtherCut := chC_ok (c.fact 104 (f := (λ K => chC K "OtherCut")) rfl)
 xb_NoText := chB_VE (c.fact 105 (f := (λ K => chB K "NoText" (tlB "ValueError") "ValueError.__new__")) rfl)
 xf_NoText := chF_ok (c.fact 106 (f := (λ K => chF K "NoText")) rfl)
 xc_NoText := chC_ok (c.fact 107 (f := (λ K => chC K "NoText")) rfl)
 xb_NoRow := chB_VE (c.fact 108 (f := (λ K => chB K "NoRow" (tlB "ValueError") "ValueError.__new__")) rfl)
 xf_NoRow := chF_ok (c.fact 109 (f := (λ K => chF K "NoRow")) rfl)
 xc_NoRow := chC_ok (c.fact 110 (f := (λ K => chC K "NoRow")) rfl)
 xb_NoRun := chB_LE (c.fact 111 (f := (λ K => chB K "NoRun" (tlB "LookupError") "LookupError.__new__")) rfl)
 xf_NoRun := chF_ok (c.fact 112 (f := (λ K => chF K "NoRun")) rfl)
 xc_NoRun := chC_ok (c.fact 113 (f := (λ K => chC K "NoRun")) rfl)
 xd_Wrong := chDK_ok (c.fact 114 (f := (λ K => chDK K "Wrong" [("Wrong", true), ("There", false), ("TooMany", false), ("NoBase", false), ("NoFit", false), ("Unlike", false), ("NoLog", false), ("NoFile", false), ("NoPiece", false), ("NoMoment", false), ("NoHolder", false), ("Busy", false), ("NoRoom", false), ("Held", false), ("Broken", false), ("Undone", false), ("OtherCut", false), ("NoText", false), ("NoRow", false), ("NoRun", false)])) rfl)
 xd_There := chDK_ok (c.fact 115 (f := (λ K => chDK K "There" [("Wrong", false), ("There", true), ("TooMany", false), ("NoBase", false), ("NoFit", false), ("Unlike", false), ("NoLog", false), ("NoFile", false), ("NoPiece", false), ("NoMoment", false), ("NoHolder", false), ("Busy", false), ("NoRoom", false), ("Held", false), ("Broken", false), ("Undone", false), ("OtherCut", false), ("NoText", false), ("NoRow", false), ("NoRun", false)])) rfl)
 xd_TooMany := chDK_ok (c.fact 116 (f := (λ K => chDK K "TooMany" [("Wrong", false), ("There", false), ("TooMany", true), ("NoBase", false), ("NoFit", false), ("Unlike", false), ("NoLog", false), ("NoFile", false), ("NoPiece", false), ("NoMoment", false), ("NoHolder", false), ("Busy", false), ("NoRoom", false), ("Held", false), ("Broken", false), ("Undone", false), ("OtherCut", false), ("NoText", false), ("NoRow", false), ("NoRun", false)])) rfl)
 xd_NoBase := chDK_ok (c.fact 117 (f := (λ K => chDK K "NoBase" [("Wrong", false), ("There", false), ("TooMany", false), ("NoBase", true), ("NoFit", false), ("Unlike", false), ("NoLog", false), ("NoFile", false), ("NoPiece", false), ("NoMoment", false), ("NoHolder", false), ("Busy", false), ("NoRoom", false), ("Held", false), ("Broken", false), ("Undone", false), ("OtherCut", false), ("NoText", false), ("NoRow", false), ("NoRun", false)])) rfl)
 xd_NoFit := chDK_ok (c.fact 118 (f := (λ K => chDK K "NoFit" [("Wrong", false), ("There", false), ("TooMany", false), ("NoBase", false), ("NoFit", true), ("Unlike", false), ("NoLog", false), ("NoFile", false), ("NoPiece", false), ("NoMoment", false), ("NoHolder", false), ("Busy", false), ("NoRoom", false), ("Held", false), ("Broken", false), ("Undone", false), ("OtherCut", false), ("NoText", false), ("NoRow", false), ("NoRun", false)])) rfl)
 xd_Unlike := chDK_ok (c.fact 119 (f := (λ K => chDK K "Unlike" [("Wrong", false), ("There", false), ("TooMany", false), ("NoBase", false), ("NoFit", false), ("Unlike", true), ("NoLog", false), ("NoFile", false), ("NoPiece", false), ("NoMoment", false), ("NoHolder", false), ("Busy", false), ("NoRoom", false), ("Held", false), ("Broken", false), ("Undone", false), ("OtherCut", false), ("NoText", false), ("NoRow", false), ("NoRun", false)])) rfl)
 xd_NoLog := chDK_ok (c.fact 120 (f := (λ K => chDK K "NoLog" [("Wrong", false), ("There", false), ("TooMany", false), ("NoBase", false), ("NoFit", false), ("Unlike", false), ("NoLog", true), ("NoFile", false), ("NoPiece", false), ("NoMoment", false), ("NoHolder", false), ("Busy", false), ("NoRoom", false), ("Held", false), ("Broken", false), ("Undone", false), ("OtherCut", false), ("NoText", false), ("NoRow", false), ("NoRun", false)])) rfl)
 xd_NoFile := chDK_ok (c.fact 121 (f := (λ K => chDK K "NoFile" [("Wrong", false), ("There", false), ("TooMany", false), ("NoBase", false), ("NoFit", false), ("Unlike", false), ("NoLog", false), ("NoFile", true), ("NoPiece", false), ("NoMoment", false), ("NoHolder", false), ("Busy", false), ("NoRoom", false), ("Held", false), ("Broken", false), ("Undone", false), ("OtherCut", false), ("NoText", false), ("NoRow", false), ("NoRun", false)])) rfl)
 xd_NoPiece := chDK_ok (c.fact 122 (f := (λ K => chDK K "NoPiece" [("Wrong", false), ("There", false), ("TooMany", false), ("NoBase", false), ("NoFit", false), ("Unlike", false), ("NoLog", false), ("NoFile", false), ("NoPiece", true), ("NoMoment", false), ("NoHolder", false), ("Busy", false), ("NoRoom", false), ("Held", false), ("Broken", false), ("Undone", false), ("OtherCut", false), ("NoText", false), ("NoRow", false), ("NoRun", false)])) rfl)
 xd_NoMoment := chDK_ok (c.fact 123 (f := (λ K => chDK K "NoMoment" [("Wrong", false), ("There", false), ("TooMany", false), ("NoBase", false), ("NoFit", false), ("Unlike", false), ("NoLog", false), ("NoFile", false), ("NoPiece", false), ("NoMoment", true), ("NoHolder", false), ("Busy", false), ("NoRoom", false), ("Held", false), ("Broken", false), ("Undone", false), ("OtherCut", false), ("NoText", false), ("NoRow", false), ("NoRun", false)])) rfl)
 xd_NoHolder := chDK_ok (c.fact 124 (f := (λ K => chDK K "NoHolder" [("Wrong", false), ("There", false), ("TooMany", false), ("NoBase", false), ("NoFit", false), ("Unlike", false), ("NoLog", false), ("NoFile", false), ("NoPiece", false), ("NoMoment", false), ("NoHolder", true), ("Busy", false), ("NoRoom", false), ("Held", false), ("Broken", false), ("Undone", false), ("OtherCut", false), ("NoText", false), ("NoRow", false), ("NoRun", false)])) rfl)
 xd_Busy := chDK_ok (c.fact 125 (f := (λ K => chDK K "Busy" [("Wrong", false), ("There", false), ("TooMany", false), ("NoBase", false), ("NoFit", false), ("Unlike", false), ("NoLog", false), ("NoFile", false), ("NoPiece", false), ("NoMoment", false), ("NoHolder", false), ("Busy", true), ("NoRoom", false), ("Held", false), ("Broken", false), ("Undone", false), ("OtherCut", false), ("NoText", false), ("NoRow", false), ("NoRun", false)])) rfl)
 xd_NoRoom := chDK_ok (c.fact 126 (f := (λ K => chDK K "NoRoom" [("Wrong", false), ("There", false), ("TooMany", false), ("NoBase", false), ("NoFit", false), ("Unlike", false), ("NoLog", false), ("NoFile", false), ("NoPiece", false), ("NoMoment", false), ("NoHolder", false), ("Busy", false), ("NoRoom", true), ("Held", false), ("Broken", false), ("Undone", false), ("OtherCut", false), ("NoText", false), ("NoRow", false), ("NoRun", false)])) rfl)
 xd_Held := chDK_ok (c.fact 127 (f := (λ K => chDK K "Held" [("Wrong", false), ("There", false), ("TooMany", false), ("NoBase", false), ("NoFit", false), ("Unlike", false), ("NoLog", false), ("NoFile", false), ("NoPiece", false), ("NoMoment", false), ("NoHolder", false), ("Busy", false), ("NoRoom", false), ("Held", true), ("Broken", false), ("Undone", false), ("OtherCut", false), ("NoText", false), ("NoRow", false), ("NoRun", false)])) rfl)
 xd_Broken := chDK_ok (c.fact 128 (f := (λ K => chDK K "Broken" [("Wrong", false), ("There", false), ("TooMany", false), ("NoBase", false), ("NoFit", false), ("Unlike", false), ("NoLog", false), ("NoFile", false), ("NoPiece", false), ("NoMoment", false), ("NoHolder", false), ("Busy", false), ("NoRoom", false), ("Held", false), ("Broken", true), ("Undone", false), ("OtherCut", false), ("NoText", false), ("NoRow", false), ("NoRun", false)])) rfl)
 xd_Undone := chDK_ok (c.fact 129 (f := (λ K => chDK K "Undone" [("Wrong", false), ("There", false), ("TooMany", false), ("NoBase", false), ("NoFit", false), ("Unlike", false), ("NoLog", false), ("NoFile", false), ("NoPiece", false), ("NoMoment", false), ("NoHolder", false), ("Busy", false), ("NoRoom", false), ("Held", false), ("Broken", false), ("Undone", true), ("OtherCut", false), ("NoText", false), ("NoRow", false), ("NoRun", false)])) rfl)
 xd_OtherCut := chDK_ok (c.fact 130 (f := (λ K => chDK K "OtherCut" [("Wrong", false), ("There", false), ("TooMany", false), ("NoBase", false), ("NoFit", false), ("Unlike", false), ("NoLog", false), ("NoFile", false), ("NoPiece", false), ("NoMoment", false), ("NoHolder", false), ("Busy", false), ("NoRoom", false), ("Held", false), ("Broken", false), ("Undone", false), ("OtherCut", true), ("NoText", false), ("NoRow", false), ("NoRun", false)])) rfl)
 xd_NoText := chDK_ok (c.fact 131 (f := (λ K => chDK K "NoText" [("Wrong", false), ("There", false), ("TooMany", false), ("NoBase", false), ("NoFit", false), ("Unlike", false), ("NoLog", false), ("NoFile", false), ("NoPiece", false), ("NoMoment", false), ("NoHolder", false), ("Busy", false), ("NoRoom", false), ("Held", false), ("Broken", false), ("Undone", false), ("OtherCut", false), ("NoText", true), ("NoRow", false), ("NoRun", false)])) rfl)
 xd_NoRow := chDK_ok (c.fact 132 (f := (λ K => chDK K "NoRow" [("Wrong", false), ("There", false), ("TooMany", false), ("NoBase", false), ("NoFit", false), ("Unlike", false), ("NoLog", false), ("NoFile", false), ("NoPiece", false), ("NoMoment", false), ("NoHolder", false), ("Busy", false), ("NoRoom", false), ("Held", false), ("Broken", false), ("Undone", false), ("OtherCut", false), ("NoText", false), ("NoRow", true), ("NoRun", false)])) rfl)
 xd_NoRun := chDK_ok (c.fact 133 (f := (λ K => chDK K "NoRun" [("Wrong", false), ("There", false), ("TooMany", false), ("NoBase", false), ("NoFit", false), ("Unlike", false), ("NoLog", false), ("NoFile", false), ("NoPiece", false), ("NoMoment", false), ("NoHolder", false), ("Busy", false), ("NoRoom", false), ("Held", false), ("Broken", false), ("Undone", false), ("OtherCut", false), ("NoText", false), ("NoRow", false), ("NoRun", true)])) rfl)
 xd_StoreError := chDK_ok (c.fact 134 (f := (λ K => chDK K "StoreError" [("Wrong", true), ("There", true), ("TooMany", true), ("NoBase", true), ("NoFit", true), ("Unlike", true), ("NoLog", true), ("NoFile", false), ("NoPiece", false), ("NoMoment", false), ("NoHolder", false), ("Busy", false), ("NoRoom", false), ("Held", false), ("Broken", false), ("Undone", false), ("OtherCut", true), ("NoText", true), ("NoRow", true), ("NoRun", false)])) rfl)
 xd_Missing := chDK_ok (c.fact 135 (f := (λ K => chDK K "Missing" [("Wrong", false), ("There", false), ("TooMany", false), ("NoBase", false), ("NoFit", false), ("Unlike", false), ("NoLog", false), ("NoFile", true), ("NoPiece", true), ("NoMoment", true), ("NoHolder", true), ("Busy", false), ("NoRoom", false), ("Held", false), ("Broken", false), ("Undone", false), ("OtherCut", false), ("NoText", false), ("NoRow", false), ("NoRun", true)])) rfl)
 xd_Halted := chDK_ok (c.fact 136 (f := (λ K => chDK K "Halted" [("Wrong", false), ("There", false), ("TooMany", false), ("NoBase", false), ("NoFit", false), ("Unlike", false), ("NoLog", false), ("NoFile", false), ("NoPiece", false), ("NoMoment", false), ("NoHolder", false), ("Busy", true), ("NoRoom", true), ("Held", true), ("Broken", true), ("Undone", true), ("OtherCut", false), ("NoText", false), ("NoRow", false), ("NoRun", false)])) rfl)
 xd_ValueError := chDT_ok (c.fact 137 (f := (λ K => chDT K "ValueError" [("Wrong", true), ("There", true), ("TooMany", true), ("NoBase", true), ("NoFit", true), ("Unlike", true), ("NoLog", true), ("NoFile", false), ("NoPiece", false), ("NoMoment", false), ("NoHolder", false), ("Busy", false), ("NoRoom", false), ("Held", false), ("Broken", false), ("Undone", false), ("OtherCut", true), ("NoText", true), ("NoRow", true), ("NoRun", false)])) rfl)
 xd_LookupError := chDT_ok (c.fact 138 (f := (λ K => chDT K "LookupError" [("Wrong", false), ("There", false), ("TooMany", false), ("NoBase", false), ("NoFit", false), ("Unlike", false), ("NoLog", false), ("NoFile", true), ("NoPiece", true), ("NoMoment", true), ("NoHolder", true), ("Busy", false), ("NoRoom", false), ("Held", false), ("Broken", false), ("Undone", false), ("OtherCut", false), ("NoText", false), ("NoRow", false), ("NoRun", true)])) rfl)
 xd_RuntimeError := chDT_ok (c.fact 139 (f := (λ K => chDT K "RuntimeError" [("Wrong", false), ("There", false), ("TooMany", false), ("NoBase", false), ("NoFit", false), ("Unlike", false), ("NoLog", false), ("NoFile", false), ("NoPiece", false), ("NoMoment", false), ("NoHolder", false), ("Busy", true), ("NoRoom", true), ("Held", true), ("Broken", true), ("Undone", true), ("OtherCut", false), ("NoText", false), ("NoRow", false), ("NoRun", false)])) rfl)
 b_abs := He.free_ok X G (c.fact 140 (f := (λ K => (He.Fa.free "abs").ok K)) rfl)
 b_len := He.free_ok X G (c.fact 141 (f := (λ K => (He.Fa.free "len").ok K)) rfl)
 b_isinstance := He.free_ok X G (c.fact 142 (f := (λ K => (He.Fa.free "isinstance").ok K)) rfl)
 b_list := He.free_ok X G (c.fact 143 (f := (λ K => (He.Fa.free "list").ok K)) rfl)
 b_tuple := He.free_ok X G (c.fact 144 (f := (λ K => (He.Fa.free "tuple").ok K)) rfl)
 b_dict := He.free_ok X G (c.fact 145 (f := (λ K => (He.Fa.free "dict").ok K)) rfl)
 b_range := He.free_ok X G (c.fact 146 (f := (λ K => (He.Fa.free "range").ok K)) rfl)
 b_ValueError := He.free_ok X G (c.fact 147 (f := (λ K => (He.Fa.free "ValueError").ok K)) rfl)
 b_LookupError := He.free_ok X G (c.fact 148 (f := (λ K => (He.Fa.free "LookupError").ok K)) rfl)
 b_RuntimeError := He.free_ok X G (c.fact 149 (f := (λ K => (He.Fa.free "RuntimeError").ok K)) rfl)
 b_repr := He.free_ok X G (c.fact 150 (f := (λ K => (He.Fa.free "repr").ok K)) rfl)
end RC
open PySem PySem.W PySem.Calls PyProof.Rows
set_option maxRecDepth 100000 in
set_option maxHeartbeats 0 in
theorem PySem.Challenge.cw_restorechain_k17_refusals_apart_holds : PySem.Challenge.rw_restorechain_k17_refusals_apart.Holds := by
  w_on; o_law
  refine HandSHeadRun.head_any (r := OpenLaw.row PySem.Challenge.rw_restorechain_k17_refusals_apart) (q := view (OpenLaw.row PySem.Challenge.rw_restorechain_k17_refusals_apart).prog [36]) (H := RC.hk) (ob := RC.ob) (M := 20000) (loose := RC.names)
    (d := HandSHeadRun.topDef (OpenLaw.row PySem.Challenge.rw_restorechain_k17_refusals_apart).prog 36) (kwd := []) RC.ob_eq (by kernel_rfl) (fun s => by kernel_rfl) RC.run
    (by kernel_rfl) (by kernel_rfl) (by kernel_rfl) (by rfl) (by first | assumption | decide +kernel) (by decide +kernel) ⟨rfl, rfl, rfl, rfl, rfl, by decide +kernel⟩ ?hw ?hc
  case hw => w_witness2
  case hc =>
    refine RC.walk_S (hi := by kernel_rfl) (l := PySem.Challenge.rw_restorechain_k17_refusals_apart) (n := 63) (k := 10) (x := "_law_script") (CX := fun _ => L2.CX0) rfl (by decide) (by kernel_rfl) ⟨rfl, by decide, by decide⟩ ?F (fun _ _ _ _ _ z => z)
    intro w mg fa h Y G hmg0
    obtain ⟨K, KX, c⟩ := Y
    have hmg : mg ("law" : PySem.Str) = some (.ref fa) := by
      have e : (HandSHeadRun.topDef (OpenLaw.row PySem.Challenge.rw_restorechain_k17_refusals_apart).prog 36).name = ("law" : PySem.Str) := by kernel_rfl
      rw [← e]
      exact hmg0
    have T := RC.txt KX G c
    have e := hmg.symm.trans T.g_law
    cases e
    exact ⟨K, _, RC.sp_law K, KX, fun s v => L2.FunD.bindsA (ps := ["_law_script"]) T.F_law (fun _ _ _ _ _ _ us hl => match us, hl with | [_], _ => rfl) s [v] rfl,
      RC.law_start K, fun base _ _ nd => RC.ok_law T nd⟩
