import PyProof.Rows.All
import Wide.All
import OpenK.AllK
import Wide.FinOn
import KE.KStateDown
import HandS.ForMost
import HandS.More
import HandS.Walk
import HandS.Wide
import HandS.IsInst
import HandS.RaiseMore
import HandS.Style
import HandS.Deep
import HandS.MakeKwOnly
import HandS.WordsExc
import HandS.Defaults
import HandS.Head0
import HandS.Head1
import HandS.Head2
import HandS.HeadEnd
import HandS.HeadHook1
import HandS.HeadHook2
import HandS.Codes
import HandS.WideMore
import KE.KIntText
import HandS.ExcInit
import HandS.ExcField
import HandS.ExcIs
import HandS.ExcOwn
import HandS.TryMany
import HandS.HotCalls
import HandS.Flow
import KE.KTryMore
import KE.KExcInit
import KE.KExcIs
import PyProof.Conv_int_bool
import HandS.DictComp
import HandS.DeepEq
import HandS.TupAny
import HandS.Conv
import HandS.TupSets
import PyProof.SeqIndex
import PyProof.Rows.SortShellAny
import HandS.DictTup
import HandS.SortOrd
import KE.KSortTupAny
import HandS.NoneIn
import PyProof.FString5
import HandS.DictEq
import PyProof.CollectIter
import PyProof.WalksMore
import HandS.Finally
import PyProof.SliceMore
import HandS.Zip
import HandS.SetBool
import HandS.Comp
import KE.KDictList
import PyProof.SetRoads
import PyProof.EqAt
import PyProof.EqKinds
import KE.KDictPairs
import HandS.FStr
import KE.KTab
import KE.KTabLook
import HandS.IntHex
import KE.GoesEnum
import PySem.Challenge.RW_restorechain_k34_equal_len_copied
set_option Elab.async false
set_option linter.all false
set_option maxRecDepth 100000
set_option maxHeartbeats 0
namespace RC
abbrev Fr := PySem.W.Frag
end RC
namespace RC
open PySem PySem.Spec PyProof.Rows L2
abbrev Cell := Addr × HO
def Ext (F F' : Hp) : Prop := ∀ a o, F a = some o -> F' a = some o
theorem Ext.refl (F : Hp) : Ext F F := λ _ _ h => h
theorem Ext.trans {F G H : Hp} (a : Ext F G) (b : Ext G H) : Ext F H := λ x o h => b x o (a x o h)
theorem Ext.new {H : Hp} {p : Addr} {o : HO} (h : H p = none) : Ext H (upd H p o) := λ a u e => by
 rw [upd_ne (ne_of_none e h)]
 exact e
theorem Ext.rd {H H' : Hp} {a : Addr} {u : HO} (e : Ext H H') (h : Rd H a u) : Rd H' a u := by
 rcases h with h | ⟨o, h⟩
 · exact Or.inl (e a _ h)
 · exact Or.inr ⟨o, e a _ h⟩
theorem Ext.sqL {K : Fr} {H H' : Hp} {a : Addr} {xs : List V} (e : Ext H H') (h : SqL K H a xs) : SqL K H' a xs := by
 rcases h with h | h
 · exact Or.inl (e.rd h)
 · exact Or.inr h
theorem Ext.sqT {K : Fr} {H H' : Hp} {a : Addr} {xs : List V} (e : Ext H H') (h : SqT K H a xs) : SqT K H' a xs := by
 rcases h with h | h
 · exact Or.inl (e.rd h)
 · exact Or.inr h
mutual
theorem Dp_ext {K : Fr} {H H' : Hp} (e : Ext H H') : ∀ {v : V} {d : PyData}, Dp K H v d -> Dp K H' v d
 | _, _, .non => .non
 | _, _, .bl b => .bl b
 | _, _, .int i => .int i
 | _, _, .str x => .str x
 | _, _, .lst h ds => .lst (e.sqL h) (DpAll_ext e ds)
 | _, _, .tup h ds => .tup (e.sqT h) (DpAll_ext e ds)
theorem DpAll_ext {K : Fr} {H H' : Hp} (e : Ext H H') : ∀ {vs : List V} {ds : List PyData}, DpAll K H vs ds -> DpAll K H' vs ds
 | _, _, .nil => .nil
 | _, _, .cons h r => .cons (Dp_ext e h) (DpAll_ext e r)
end
structure Res where
 on : Hp -> List Cell -> Prop
 mono : ∀ F F' l, Ext F F' -> on F l -> on F' l
def pt (p : Addr) (o : HO) : Res := ⟨λ _ l => l = [(p, o)], λ _ _ _ _ h => h⟩
def fz (p : Addr) (o : HO) : Res := ⟨λ F l => l = [] /\ F p = some o, λ _ _ _ e h => ⟨h.1, e _ _ h.2⟩⟩
def dt (K : Fr) (v : V) (d : PyData) : Res := ⟨λ F l => l = [] /\ Dp K F v d, λ _ _ _ e h => ⟨h.1, Dp_ext e h.2⟩⟩
def sp2 (R S : Res) : Res := ⟨λ F l => ∃ l1 l2, l = l1 ++ l2 /\ R.on F l1 /\ S.on F l2, λ _ _ _ e ⟨l1, l2, h, a, b⟩ => ⟨l1, l2, h, R.mono _ _ _ e a, S.mono _ _ _ e b⟩⟩
def exi {α : Type} (R : α -> Res) : Res := ⟨λ F l => ∃ x, (R x).on F l, λ _ _ _ e ⟨x, h⟩ => ⟨x, (R x).mono _ _ _ e h⟩⟩
def prp (φ : Prop) (R : Res) : Res := ⟨λ F l => φ /\ R.on F l, λ _ _ _ e h => ⟨h.1, R.mono _ _ _ e h.2⟩⟩
def Sat (F : Hp) : List Res -> List Cell -> Prop
 | [], l => l = []
 | R :: Rs, l => ∃ l1 l2, l = l1 ++ l2 /\ R.on F l1 /\ Sat F Rs l2
theorem Sat.mono {F F' : Hp} (e : Ext F F') : ∀ {Rs : List Res} {l : List Cell}, Sat F Rs l -> Sat F' Rs l
 | [], _, h => h
 | R :: _, _, ⟨l1, l2, h, a, b⟩ => ⟨l1, l2, h, R.mono _ _ _ e a, Sat.mono e b⟩
theorem Sat.perm {F : Hp} {Rs Rs' : List Res} (p : Rs.Perm Rs') : ∀ {l : List Cell}, Sat F Rs l -> ∃ l', l.Perm l' /\ Sat F Rs' l' := by
 induction p with
 | nil => exact λ h => ⟨_, .refl _, h⟩
 | cons R _ ih =>
   rintro l ⟨l1, l2, rfl, a, b⟩
   obtain ⟨l3, q, c⟩ := ih b
   exact ⟨l1 ++ l3, .append_left _ q, l1, l3, rfl, a, c⟩
 | swap R S Rs =>
   rintro l ⟨l1, l2, rfl, a, l3, l4, rfl, b, c⟩
   refine ⟨l3 ++ (l1 ++ l4), ?_, l3, l1 ++ l4, rfl, b, l1, l4, rfl, a, c⟩
   rw [<- List.append_assoc, <- List.append_assoc]
   exact List.Perm.append_right _ List.perm_append_comm
 | trans _ _ ih1 ih2 =>
   intro l h
   obtain ⟨l1, p1, h1⟩ := ih1 h
   obtain ⟨l2, p2, h2⟩ := ih2 h1
   exact ⟨l2, p1.trans p2, h2⟩
structure MemC (F : Hp) (L : List Cell) (H : Hp) : Prop where
 ex : Ext F H
 own : ∀ c ∈ L, H c.1 = some c.2 /\ F c.1 = none
 nd : (L.map (·.1)).Nodup
theorem MemC.perm {F : Hp} {L L' : List Cell} {H : Hp} (h : MemC F L H) (p : L.Perm L') : MemC F L' H :=
 ⟨h.ex, λ c hc => h.own c (p.mem_iff.mpr hc), (p.map _).nodup_iff.mp h.nd⟩
def M (Rs : List Res) (H : Hp) : Prop := ∃ F L, Sat F Rs L /\ MemC F L H
section
variable {Rs Rs' : List Res} {R S : Res} {H : Hp} {p : Addr} {o o' : HO}
theorem M.perm (h : M Rs H) (q : Rs.Perm Rs') : M Rs' H := by
 obtain ⟨F, L, a, b⟩ := h
 obtain ⟨L', q', a'⟩ := a.perm q
 exact ⟨F, L', a', b.perm q'⟩
theorem M.nil : M [] H := ⟨λ _ => none, [], rfl, ⟨(λ _ _ h => nomatch h), (λ _ h => nomatch h), List.nodup_nil⟩⟩
theorem M.tl (h : M (R :: Rs) H) : M Rs H := by
 obtain ⟨F, L, ⟨l1, l2, rfl, a, b⟩, m⟩ := h
 refine ⟨F, l2, b, m.ex, λ c hc => m.own c (List.mem_append_right _ hc), ?_⟩
 have := m.nd
 rw [List.map_append] at this
 exact (List.nodup_append.mp this).2.1
theorem perm_at : ∀ {Rs : List Res} (i : Nat) {R : Res}, Rs[i]? = some R -> Rs.Perm (R :: Rs.eraseIdx i)
 | [], i, R, h => by simp at h
 | S :: Rs, 0, R, h => by
   have e : S = R := Option.some.inj h
   subst e
   exact .refl _
 | S :: Rs, i + 1, R, h => by
   have ih := perm_at (Rs := Rs) i (R := R) (by simpa using h)
   exact (List.Perm.cons S ih).trans (List.Perm.swap R S _)
theorem M.at (h : M Rs H) (i : Nat) (e : Rs[i]? = some R) : M (R :: Rs.eraseIdx i) H := h.perm (perm_at i e)
theorem M.hd (h : M (pt p o :: Rs) H) : H p = some o := by
 obtain ⟨F, L, ⟨l1, l2, rfl, rfl, b⟩, m⟩ := h
 exact (m.own (p, o) (by simp)).1
theorem M.hdF (h : M (fz p o :: Rs) H) : H p = some o := by
 obtain ⟨F, L, ⟨l1, l2, rfl, ⟨_, e⟩, b⟩, m⟩ := h
 exact m.ex _ _ e
theorem M.got (h : M Rs H) (i : Nat) (e : Rs[i]? = some (pt p o)) : H p = some o := (h.at i e).hd
theorem M.gotF (h : M Rs H) (i : Nat) (e : Rs[i]? = some (fz p o)) : H p = some o := (h.at i e).hdF
theorem M.new (h : M Rs H) (hp : H p = none) : M (pt p o :: Rs) (upd H p o) := by
 obtain ⟨F, L, a, m⟩ := h
 have fp : F p = none := by
   cases q : F p with
   | none => rfl
   | some u => rw [m.ex _ _ q] at hp; cases hp
 refine ⟨F, (p, o) :: L, ⟨[(p, o)], L, rfl, rfl, a⟩, ⟨m.ex.trans (Ext.new hp), λ c hc => ?_, ?_⟩⟩
 · rcases List.mem_cons.mp hc with rfl | hc
   · exact ⟨upd_same, fp⟩
   · have q := m.own c hc
     refine ⟨?_, q.2⟩
     rw [upd_ne (ne_of_none q.1 hp)]
     exact q.1
 · rw [List.map_cons, List.nodup_cons]
   refine ⟨λ hm => ?_, m.nd⟩
   obtain ⟨c, hc, e⟩ := List.mem_map.mp hm
   have q := (m.own c hc).1
   rw [e, hp] at q
   cases q
theorem M.put (h : M (pt p o :: Rs) H) : M (pt p o' :: Rs) (upd H p o') := by
 obtain ⟨F, L, ⟨l1, l2, rfl, rfl, b⟩, m⟩ := h
 have fp : F p = none := (m.own (p, o) (by simp)).2
 have nd := m.nd
 rw [List.map_append] at nd
 have nd2 : ((p :: l2.map (·.1)) : List Addr).Nodup := nd
 have np := (List.nodup_cons.mp nd2).1
 refine ⟨F, (p, o') :: l2, ⟨[(p, o')], l2, rfl, rfl, b⟩, ⟨λ a u e => ?_, λ c hc => ?_, nd2⟩⟩
 · have : a ≠ p := λ z => by rw [z, fp] at e; cases e
   rw [upd_ne this]
   exact m.ex _ _ e
 · rcases List.mem_cons.mp hc with rfl | hc
   · exact ⟨upd_same, fp⟩
   · have q := m.own c (List.mem_append_right _ hc)
     refine ⟨?_, q.2⟩
     have : c.1 ≠ p := λ z => np (List.mem_map.mpr ⟨c, hc, z⟩)
     rw [upd_ne this]
     exact q.1
theorem M.fix (h : M (pt p o :: Rs) H) : M (fz p o :: Rs) H := by
 obtain ⟨F, L, ⟨l1, l2, rfl, rfl, b⟩, m⟩ := h
 have hp := m.own (p, o) (by simp)
 have nd := m.nd
 rw [List.map_append] at nd
 have nd2 : ((p :: l2.map (·.1)) : List Addr).Nodup := nd
 have np := (List.nodup_cons.mp nd2).1
 have ex : Ext F (upd F p o) := Ext.new hp.2
 refine ⟨upd F p o, l2, ⟨[], l2, rfl, ⟨rfl, upd_same⟩, b.mono ex⟩, ⟨λ a u e => ?_, λ c hc => ?_, (List.nodup_cons.mp nd2).2⟩⟩
 · by_cases z : a = p
   · subst z
     rw [upd_same] at e
     cases e
     exact hp.1
   · rw [upd_ne z] at e
     exact m.ex _ _ e
 · have q := m.own c (List.mem_append_right _ hc)
   refine ⟨q.1, ?_⟩
   have : c.1 ≠ p := λ z => np (List.mem_map.mpr ⟨c, hc, z⟩)
   rw [upd_ne this]
   exact q.2
theorem M.sp (h : M (sp2 R S :: Rs) H) : M (R :: S :: Rs) H := by
 obtain ⟨F, L, ⟨l1, l2, rfl, ⟨l3, l4, rfl, a, b⟩, c⟩, m⟩ := h
 exact ⟨F, _, ⟨l3, l4 ++ l2, by rw [List.append_assoc], a, l4, l2, rfl, b, c⟩, m⟩
theorem M.sp' (h : M (R :: S :: Rs) H) : M (sp2 R S :: Rs) H := by
 obtain ⟨F, L, ⟨l1, l2, rfl, a, l3, l4, rfl, b, c⟩, m⟩ := h
 exact ⟨F, _, ⟨l1 ++ l3, l4, by rw [List.append_assoc], ⟨l1, l3, rfl, a, b⟩, c⟩, m⟩
theorem M.ex {α : Type} {T : α -> Res} (h : M (exi T :: Rs) H) : ∃ x, M (T x :: Rs) H := by
 obtain ⟨F, L, ⟨l1, l2, rfl, ⟨x, a⟩, c⟩, m⟩ := h
 exact ⟨x, F, _, ⟨l1, l2, rfl, a, c⟩, m⟩
theorem M.ex' {α : Type} {T : α -> Res} (x : α) (h : M (T x :: Rs) H) : M (exi T :: Rs) H := by
 obtain ⟨F, L, ⟨l1, l2, rfl, a, c⟩, m⟩ := h
 exact ⟨F, _, ⟨l1, l2, rfl, ⟨x, a⟩, c⟩, m⟩
theorem M.pr {φ : Prop} (h : M (prp φ R :: Rs) H) : φ /\ M (R :: Rs) H := by
 obtain ⟨F, L, ⟨l1, l2, rfl, ⟨x, a⟩, c⟩, m⟩ := h
 exact ⟨x, F, _, ⟨l1, l2, rfl, a, c⟩, m⟩
theorem M.pr' {φ : Prop} (x : φ) (h : M (R :: Rs) H) : M (prp φ R :: Rs) H := by
 obtain ⟨F, L, ⟨l1, l2, rfl, a, c⟩, m⟩ := h
 exact ⟨F, _, ⟨l1, l2, rfl, ⟨x, a⟩, c⟩, m⟩
theorem perm_set : ∀ {Rs : List Res} (i : Nat) {R S : Res}, Rs[i]? = some R -> (S :: Rs.eraseIdx i).Perm (Rs.set i S)
 | [], i, R, S, h => by simp at h
 | T :: Rs, 0, R, S, h => .refl _
 | T :: Rs, i + 1, R, S, h => by
   have ih := perm_set (Rs := Rs) i (R := R) (S := S) (by simpa using h)
   exact (List.Perm.swap T S _).trans (List.Perm.cons T ih)
theorem M.putAt (h : M Rs H) (i : Nat) (e : Rs[i]? = some (pt p o)) : M (Rs.set i (pt p o')) (upd H p o') := ((h.at i e).put (o' := o')).perm (perm_set i e)
end
end RC

namespace RC
open PySem PySem.Spec PyProof.Rows L2
structure FnX (g : Bool) (P : Program) (w : World) (K : Fr) (mg : Str -> Option Value) (base : Heap) (CX : CXT) (k : Nat) (f : Addr) (fd : FuncData) (ps : List Str) (sp : Sp) : Prop where
 lenG : ∀ vs H Q E, sp vs H Q E -> vs.length = ps.length
 runG : ∀ (B : Around) (out : List Env) (t : Shared) (H : Hp) (args : Args) (bs : List (Str × Value)) (us : List Value) (vs : List V) (Q : VK) (E : XK), (g = true -> B.guards = some []) -> Room k B -> Env0 P w K mg base B out t H ->
   BindsTo t fd args bs -> bs.Perm (ps.zip us) -> Vals vs us -> sp vs H Q E -> codeAny (model P w) B (.call (.ref f) args) (CR CX out P w H t Q E) t
theorem zip_names {α β : Type} : ∀ (as : List α) (bs : List β), (as.zip bs).map (·.1) = as.take bs.length
 | [], _ => by simp
 | _ :: _, [] => rfl
 | a :: as, b :: bs => by
   show a :: (as.zip bs).map (·.1) = a :: as.take bs.length
   rw [zip_names as bs]
theorem bindL_perm {kd : Str -> Option NameKind} {l l' : List (Str × Value)} (p : l.Perm l') : (l.map (·.1)).Nodup -> ∀ m, bindL kd l m = bindL kd l' m := by
 induction p with
 | nil => exact λ _ _ => rfl
 | cons x _ ih =>
   intro nd m
   obtain ⟨n, v⟩ := x
   have nd2 := (List.nodup_cons.mp nd).2
   unfold bindL
   split <;> exact ih nd2 _
 | swap x y l =>
   intro nd m
   obtain ⟨n, v⟩ := x
   obtain ⟨n', v'⟩ := y
   have ne : n' ≠ n := λ e => (List.nodup_cons.mp nd).1 (by rw [e]; exact List.mem_cons_self)
   show bindL kd ((n', v') :: (n, v) :: l) m = bindL kd ((n, v) :: (n', v') :: l) m
   unfold bindL
   unfold bindL
   by_cases h1 : kd n' = some .local <;> by_cases h2 : kd n = some .local <;> simp only [h1, h2, if_true, if_false]
   all_goals try rfl
   congr 1
   funext z
   by_cases e1 : z = n
   · subst e1
     simp [Ne.symm ne]
   · simp [e1]
 | trans p q ih1 ih2 =>
   intro nd m
   rw [ih1 nd m, ih2 ((p.map _).nodup_iff.mp nd) m]
theorem bindC_perm {kd : Str -> Option NameKind} {l l' : List (Str × Value)} (p : l.Perm l') : (l.map (·.1)).Nodup -> ∀ m, bindC kd l m = bindC kd l' m := by
 induction p with
 | nil => exact λ _ _ => rfl
 | cons x _ ih =>
   intro nd m
   obtain ⟨n, v⟩ := x
   have nd2 := (List.nodup_cons.mp nd).2
   unfold bindC
   split <;> exact ih nd2 _
 | swap x y l =>
   intro nd m
   obtain ⟨n, v⟩ := x
   obtain ⟨n', v'⟩ := y
   have ne : n' ≠ n := λ e => (List.nodup_cons.mp nd).1 (by rw [e]; exact List.mem_cons_self)
   show bindC kd ((n', v') :: (n, v) :: l) m = bindC kd ((n, v) :: (n', v') :: l) m
   unfold bindC
   unfold bindC
   by_cases h1 : kd n' = some .local <;> by_cases h2 : kd n = some .local <;> simp only [h1, h2, if_true, if_false]
   all_goals try rfl
   congr 1
   funext z
   by_cases e1 : z = n
   · subst e1
     simp [Ne.symm ne]
   · simp [e1]
 | trans p q ih1 ih2 =>
   intro nd m
   rw [ih1 nd m, ih2 ((p.map _).nodup_iff.mp nd) m]
section
variable {g : Bool} {P : Program} {w : World} {K : Fr} {mg : Str -> Option Value} {base : Heap} {CX : CXT} {k : Nat} {f : Addr} {fd : FuncData} {ps : List Str} {sp : Sp}
theorem FnX.ok (F : FnX false P w K mg base CX k f fd ps sp) : FnOk P w K mg base CX k f fd ps sp :=
 ⟨F.lenG, λ B out t H args us vs Q E hr e b r h => F.runG B out t H args _ us vs Q E (λ z => nomatch z) hr e b (.refl _) r h⟩
theorem FnX.up {g' : Bool} (F : FnX g P w K mg base CX k f fd ps sp) (h : g = true -> g' = true) : FnX g' P w K mg base CX k f fd ps sp :=
 ⟨F.lenG, λ B out t H args bs us vs Q E gu hr e b p r hs => F.runG B out t H args bs us vs Q E (λ z => gu (h z)) hr e b p r hs⟩
theorem FnX.mono {j : Nat} (F : FnX g P w K mg base CX j f fd ps sp) (h : j <= k) : FnX g P w K mg base CX k f fd ps sp :=
 ⟨F.lenG, λ B out t H args bs us vs Q E gu hr e b p r hs => F.runG B out t H args bs us vs Q E gu (hr.mono h) e b p r hs⟩
theorem okX {x qual : Str} {params : Arguments} {body : List Stmt} {scope : Scope} {dvs : List V} {kws : List (Str × V)} {N : List Str} (D : FunD K x qual params body scope dvs kws f fd) (S : FnScope N ps scope)
   (hlen : ∀ vs H Q E, sp vs H Q E -> vs.length = ps.length)
   (hbody : ∀ (cdv : Value) (B : Around) (out : List Env) (t : Shared) (H : Hp) (vs : List V) (Q : VK) (E : XK), (g = true -> B.guards = some []) -> Room k (B.deeper (envOfC qual scope t.heap.objs.size f cdv)) -> sp vs H Q E ->
     ∃ tr, PSs (cxOf CX P w K mg base N qual scope f cdv B out t H E) body tr /\ tr { nx := λ _ H' => Q .non H', rt := Q } (start N vs) H) :
   FnX g P w K mg base CX (k + 1) f fd ps sp := by
 obtain ⟨⟨oc, od, dV, kV, doc, pm, an, cdv, ct, osl, rfl, lk, hcd, _, _⟩, _⟩ := D
 constructor
 · exact hlen
 intro B out t H args bs us vs Q E hg hr env hb hperm rel hsp
 have hin : K.In t.heap := env.mod.kin.keeps λ b o q => (env.bs b o q).1
 have hno : t.heap.NoLimit := env.mod.nolimit.keeps λ b o q => (env.bs b o q).1
 have hll := hlen _ _ _ _ hsp
 have nd : (bs.map (·.1)).Nodup := by
   refine (hperm.map _).nodup_iff.mpr ?_
   rw [zip_names, List.take_of_length_le (by rw [<- rel.length, hll]; exact Nat.le_refl _), <- S.pre]
   exact S.nd.sublist (List.take_sublist _ _)
 have hk : ∀ y ∈ bs, scope.names.lookup y.1 = some .local \/
     (scope.names.lookup y.1 = some .cell /\ ((cellsFrom (t.heap.objs.size + 1) scope.names []).lookup y.1).isSome = true) := by
   rintro ⟨n, v⟩ hy
   cases S.par n (List.of_mem_zip (hperm.mem_iff.mp hy)).1 with
   | inl q => exact .inl q
   | inr q => exact .inr ⟨q, PySem.W.cellsFrom_some _ _ _ (.inl q)⟩
 refine codeAny_call_function hr.depth (hin _ _ lk) rfl S.co S.gen rfl
   (PySem.W.codeRec_of hin hcd) (hb _ _ _ _ ?_)
 refine wpAny_newFunctionEnv_cells S.kind hk λ ev hev t1 ic => ?_
 subst hev
 rw [bindL_perm hperm nd, bindC_perm hperm nd] at ic
 refine ⟨hno.keeps ic.toInCall.keep, codeAny_func ?_⟩
 obtain ⟨tr, htr, hq⟩ := hbody cdv B out t H vs Q E hg (hr.deeper _) hsp
 have J : Inv (cxOf CX P w K mg base N qual scope f cdv B out t H E) [] (start N vs) H t1 :=
   inv_start S hr.hd env hll rel ic
 refine wpAny_mono (htr.run [] t1 (start N vs) H _ J hq) (λ fl t2 z => ?_) λ _ _ z => z
 cases fl with
 | next =>
   obtain ⟨s2, H2, J2, q2⟩ := z
   exact ⟨V.non, H2, J2.os, J2.bare, J2.base, J2.hok, rfl, q2⟩
 | ret u =>
   obtain ⟨v2, s2, H2, J2, r2, q2⟩ := z
   exact ⟨v2, H2, J2.os, J2.bare, J2.base, J2.hok, r2, q2⟩
 | brk =>
   obtain ⟨_, _, _, q2⟩ := z
   cases q2
 | cont =>
   obtain ⟨_, _, _, q2⟩ := z
   cases q2
end
section
variable {X : Cx} {g : Bool} {CX : CXT} {k n : Nat} {f : Addr} {fd : FuncData} {ps ps' ks : List Str} {sp : Sp} {ds : List Value} {dvs : List V} {E : XK}
theorem runX_fn {pins : List (Addr × Obj)} {σ : L2.St} {H : Hp} {s : Shared} {Q : VK} {us : List Value} {vs : List V} (F : FnX g X.prog X.w X.K X.mg X.base CX k f fd ps sp) (hg : g = true -> X.A.guards = some []) (hr : Room k X.A)
   (hb : Binds X.K fd ps ds) (hd : Vals dvs ds) (hx : Passes CX X E) (I : Inv X pins σ H s) (r : Vals vs us) (h : sp (vs ++ dvs) H Q E) :
   wpAny (model X.prog X.w) X.A (call (.ref f) us) (EP X pins σ Q) X.xe s := by
 have rr : Vals (vs ++ dvs) (us ++ ds) := r.append hd
 have ll : (us ++ ds).length = ps.length := rr.length.symm.trans (F.lenG _ _ _ _ h)
 have go := F.runG X.A X.stack s H ⟨us, []⟩ _ (us ++ ds) (vs ++ dvs) Q E hg hr I.env0 (hb s us I.kIn ll) (.refl _) rr h
 refine wpAny_call (codeAny_mono go λ res s' hq => ?_)
 match res, hq with
 | .error e, hq => exact hx pins σ H s e s' I hq
 | .ok (.ret u), hq => exact I.after hq
 | .ok .next, hq => cases hq
 | .ok .brk, hq => cases hq
 | .ok .cont, hq => cases hq
theorem pe_callX {x : Str} {e : Expr} {es : List Expr} {t : TA} {p pos : Pos} (F : FnX g X.prog X.w X.K X.mg X.base CX k f fd ps sp) (hgu : g = true -> X.A.guards = some []) (hr : Room k X.A) (hg : Gl X x) (hm : X.mg x = some (.ref f))
   (hk : PySem.W.keepIn X.K (.ref f) = true) (hb : Binds X.K fd ps ds) (hd : Vals dvs ds) (hx : Passes CX X E)
   (ha : PA X (e :: es) t) (hdb : (x == ("__debug__" : Str)) = false := by decide) (he : starEach (e :: es) X.env = (false, eval e X.env) :: starEach es X.env := by rfl)
   (hpl : (backTo pos (starEach es X.env)).any (·.1) = false := by rfl) : PE X (.Call (.Name x p) (e :: es) [] pos) (tCall sp dvs E t) := by
 constructor
 intro pins s σ H Q I h
 refine wpAny_Call_Name_kw (ld_glob I hg hm ?_ hdb)
 have body := thn (ha.run pos pins s σ H _ I h) (Q' := λ us s1 => X.K.In s1.heap /\ wpAny (model X.prog X.w) X.A (call (.ref f) us) (EP X pins σ Q) X.xe s1)
   λ us s1 ⟨vs, H1, I1, r1, q1⟩ => ⟨I1.kIn, runX_fn F hgu hr hb hd hx I1 r1 q1⟩
 exact PySem.W.callWith_K (h₀ := X.base) I.ok.mod.kin hk body he hpl
end
theorem law_callN {ND : Heap -> Prop} {P : Program} {w : World} {K : Fr} {mg mb : Str -> Option Value} {CX : CXT} {k : Nat} {fa a : Addr} {fd : FuncData} {x : Str} {sp : Sp} {s1 : Shared} {vs : List Value} {ns : List Int}
   (KX : K.In s1.heap) (hns : s1.heap.Ns mainGlobals mg) (hb : s1.heap.Ns builtinsNs mb) (hbb : ∀ x : Str, x ≠ "__name__" -> mb x = bootBuiltins x) (hlim : s1.heap.NoLimit) (hdig : ∀ h' : Heap, (∀ b o es ep, s1.heap.get? b = some o -> o.data = .dict es ep -> h'.get? b = some o) -> ND h') (hg : s1.gens = #[])
   (ha : s1.heap.get? a = some { cls := .type "list", data := .seq vs.toArray }) (hi : IntsAre vs ns) (hl : ns.length <= sizeLine) (hr : Room k callerA)
   (F : ∀ base : Heap, K.In base -> base.Ns mainGlobals mg -> ND base -> FnX true P w K mg base CX k fa fd [x] sp)
   (hbind : ∀ (s : Shared) (u : Value), BindsTo s fd ⟨[u], []⟩ [(x, u)])
   (hsp : ∀ H : Hp, SqL K H a (ns.map V.int) -> sp [.ref a] H (λ v _ => v = .bl true) λ _ _ _ => False)
   (hCX : ∀ H e s', CX [] H s1 (λ _ _ _ => False) e s' -> False) :
   codeAny (model P w) callerA (.call (.ref fa) ⟨[.ref a], []⟩) (λ r s' => r = .ok (.ret (.bool true)) /\ OldK s1.heap s'.heap /\ s'.os = s1.os /\ AllBare s'.gens) s1 := by
 have rv := vals_ints hi
 -- the abstract heap: the script alone, locked, unless it is one of the module's own objects
 obtain ⟨H, hS, hok, hA, hK, hO⟩ : ∃ H : Hp, SqL K H a (ns.map V.int) /\ HOk P w H s1.heap /\ (∀ b, H b ≠ none -> b = a) /\ (H a ≠ none -> K.lookup a = none) /\
     ∀ b u, H b = some u -> ∃ o v, u = .frz o v := by
   cases hk : K.lookup a with
   | some o =>
     have e := KX a o hk
     rw [ha] at e
     cases e
     refine ⟨λ _ => none, .inr ⟨_, vs.toArray, _, hk, rfl, rfl, rfl, ?_, by simpa using rv⟩, ?_, ?_, ?_, ?_⟩
     · rw [List.size_toArray, hi.length]
       exact hl
     · intro b u z
       cases (show (none : Option HO) = some u from z)
     · intro b z
       exact absurd rfl z
     · intro z
       exact absurd rfl z
     · intro b u z
       cases (show (none : Option HO) = some u from z)
   | none =>
     have at1 : upd (λ _ => none) a (.frz { cls := .type "list", data := .seq vs.toArray } (.lst (ns.map V.int))) a = some (HO.frz { cls := .type "list", data := .seq vs.toArray } (.lst (ns.map V.int))) := upd_same
     have at2 : ∀ b u, upd (λ _ => none) a (.frz { cls := .type "list", data := .seq vs.toArray } (.lst (ns.map V.int))) b = some u -> b = a /\ u = HO.frz { cls := .type "list", data := .seq vs.toArray } (.lst (ns.map V.int)) := by
       intro b u z
       by_cases q : b = a
       · subst q
         rw [upd_same] at z
         exact ⟨rfl, (Option.some.inj z).symm⟩
       · rw [upd_ne q] at z
         cases z
     refine ⟨_, .inl (.inr ⟨_, at1⟩), ?_, ?_, λ _ => rfl, ?_⟩
     · intro b u z
       obtain ⟨rfl, rfl⟩ := at2 b u z
       refine ⟨ha, ?_, vs, _, rv, ha⟩
       rw [List.length_map]
       exact hl
     · intro b z
       cases q : upd (λ _ => none) a (.frz { cls := .type "list", data := .seq vs.toArray } (.lst (ns.map V.int))) b with
       | none => exact absurd q z
       | some u => exact (at2 b u q).1
     · intro b u z
       exact ⟨_, _, (at2 b u z).2⟩
 have off : ∀ {b : Addr} {o : Obj} {es : Array DictEntry} {ep : Nat}, s1.heap.get? b = some o -> o.data = .dict es ep -> H b = none := by
   intro b o es ep e d
   cases q : H b with
   | none => rfl
   | some u =>
     have z : b = a := hA b (by rw [q]; simp)
     subst z
     rw [ha] at e
     cases e
     cases (show Data.seq vs.toArray _ = Data.dict es ep from d)
 have nsH : ∀ {b : Addr} {m : Str -> Option Value}, s1.heap.Ns b m -> (hidT s1.heap H).Ns b m := by
   rintro b m ⟨o, es, ep, e, d, r⟩
   exact ⟨o, es, ep, hidT_get e (off e d), d, r⟩
 have hKb : K.In (hidT s1.heap H) := by
   intro b o e
   refine hidT_get (KX b o e) ?_
   cases q : H b with
   | none => rfl
   | some u =>
     have z : b = a := hA b (by rw [q]; simp)
     subst z
     rw [hK (by rw [q]; simp)] at e
     cases e
 have hM : Mod K mg (hidT s1.heap H) := by
   obtain ⟨mc, h1, h2⟩ := hlim
   exact ⟨hKb, nsH hns, ⟨mb, nsH hb, hbb⟩, ⟨mc, nsH h1, h2⟩⟩
 have e0 : Env0 P w K mg (hidT s1.heap H) callerA [] s1 H := by
   refine ⟨rfl, hM, λ b o e => of_hidT e, Nat.le_of_eq (hidT_size _ _), trivial, λ b hb => ?_, hok, .of_eq hg⟩
   cases (show b ∈ ([] : List Addr) from hb)
 have go := (F _ hKb (nsH hns) (hdig _ λ b o es ep e d => hidT_get e (off e d))).runG callerA [] s1 H ⟨[.ref a], []⟩ _ [.ref a] [.ref a] _ _ (λ _ => rfl) hr e0 (hbind s1 (.ref a)) (.refl _) (.cons rfl .nil) (hsp H hS)
 refine codeAny_mono go λ res s' h => ?_
 match res, h with
 | .error e, h => exact (hCX H e s' h).elim
 | .ok .next, h => cases h
 | .ok .brk, h => cases h
 | .ok .cont, h => cases h
 | .ok (.ret u), h =>
   obtain ⟨v, H', os, bare, un, hok', r', q⟩ := h
   cases (show v = .bl true from q)
   cases (show u = Value.bool true from r')
   refine ⟨rfl, OldK.of_keep λ b o e => ?_, os, bare⟩
   cases q : H b with
   | none =>
     refine un.keep b o e q (λ z => ?_) (by simp)
     cases (show b ∈ ([] : List Addr) from z)
   | some u =>
     obtain ⟨ob, v2, rfl⟩ := hO b u q
     have z2 := un.frzs b ob _ q
     obtain ⟨e1, _⟩ := hok b _ q
     obtain ⟨e2, _⟩ := hok' b _ z2
     rw [e] at e1
     cases e1
     exact e2
theorem nd_keep {h h' : Heap} (x : h.NoDigits) (k : ∀ b o es ep, h.get? b = some o -> o.data = .dict es ep -> h'.get? b = some o) : h'.NoDigits := by
 obtain ⟨mc, ⟨o, es, ep, e, d, r⟩, q⟩ := x
 exact ⟨mc, ⟨o, es, ep, k _ _ _ _ e d, d, r⟩, q⟩
end RC

namespace RC
open PySem PySem.Spec PySem.Calls PySem.NumText PyProof.Rows L2
structure HidL (p : Prop) : Prop where
 out : p
def rRepS : R2 := λ x y H Q => ∃ (c : Nat) (n : Int), x = .str (SX.S [c]) /\ y = .int n /\ 1 <= n /\ n <= 100000 /\ Q (.str (SX.S (List.replicate n.toNat c))) H
theorem rep_one (c : Nat) : ∀ (k : Nat) (acc : Array Nat), (List.replicate k #[c]).foldl (· ++ ·) acc = acc ++ (List.replicate k c).toArray
 | 0, acc => by simp
 | k + 1, acc => by
   rw [List.replicate_succ, List.foldl_cons, rep_one c k, List.replicate_succ]
   refine Array.toList_inj.mp ?_
   simp only [Array.toList_append, List.toList_toArray, List.append_assoc]
   rfl
theorem op_repS {X : Cx} : OpR X (binaryOp .Mult) rRepS := by
 intro pins s σ H x y v u Q I rx ry h
 obtain ⟨c, n, rfl, rfl, h1, h2, q⟩ := h
 obtain ⟨t, rfl⟩ := rx
 obtain ⟨t2, rfl⟩ := ry
 have hl : (SX.S [c]).length = 1 := SX.S_len [c]
 refine PySem.P.mul_str (by rw [decide_eq_false (by omega), decide_eq_false (by omega)]; rfl) (λ _ _ => ?_) (λ _ _ => ?_) ?_
 · rw [hl]
   have : (1 : Int) <= (2 ^ 63 - 1) / n := (Int.le_ediv_iff_mul_le (by omega)).mpr (by omega)
   omega
 · rw [hl]
   unfold Builtin.Str.tooLong
   rw [decide_eq_false]
   have := sizeLine_eq
   omega
 · rw [if_neg (by omega)]
   by_cases e : n = 1
   · subst e
     rw [if_pos (by rfl)]
     exact ⟨.str _, H, I, ⟨_, rfl⟩, q⟩
   · rw [if_neg (by rw [hl]; simp [e])]
     have e2 : (⟨(List.replicate n.toNat (SX.S [c]).cps).foldl (· ++ ·) #[]⟩ : Str) = SX.S (List.replicate n.toNat c) := by
       show (⟨(List.replicate n.toNat #[c]).foldl (· ++ ·) #[]⟩ : Str) = _
       rw [rep_one]
       simp
     rw [e2]
     refine ⟨?_, ⟨.str _, H, I.tok _, ⟨_, rfl⟩, q⟩⟩
     rw [SX.S_len, List.length_replicate]
     have := sizeLine_eq
     omega
end RC

namespace RC
open PySem PySem.Spec PyProof.Rows L2
section
variable {X : Cx}
def rCatS (K : Fr) : R2 := λ x y H Q => ∃ l b xs zs, x = .ref l /\ y = .ref b /\ SqL K H l xs /\ SqL K H b zs /\ xs.length + zs.length <= sizeLine /\ ∀ p, H p = none -> Q (.ref p) (upd H p (.lst (xs ++ zs)))
theorem op_catS : OpR X (binaryOp .Add) (rCatS X.K) := by
 intro pins s σ H x y v u Q I rx ry h
 obtain ⟨l, b, xs, zs, rfl, rfl, hH, hB, hz, q⟩ := h
 cases rx
 cases ry
 obtain ⟨its, r, ⟨⟨cls, dd, data, sl⟩, n, ho, hc, _, hd⟩, _⟩ := I.list hH
 obtain ⟨its2, r2, ⟨⟨cls2, dd2, data2, sl2⟩, n2, ho2, hc2, _, hd2⟩, _⟩ := I.list hB
 simp only at hc hd hc2 hd2
 subst hc hd hc2 hd2
 have ea : its.toArray ++ its2.toArray = (its ++ its2).toArray := by simp
 have l1 := r.length
 have l2 := r2.length
 refine concat_meets ⟨_, ho, rfl⟩ ⟨_, ho2, rfl⟩ noFill_list_add seq_list_add PySem.F.slot_list_add PySem.F.entry_list_add (PySem.F.args_list_add_2 _ _) (list_addW l b its.toArray its2.toArray n n2 dd dd2 sl sl2 (by rw [List.size_toArray, List.size_toArray]; omega)) ⟨ho, ho2, ?_⟩
 rw [ea]
 exact ⟨.ref _, _, I.lnew (t' := s.toks) (r.append r2) (by rw [List.length_append]; omega), rfl, q _ I.fresh⟩
def uAdd (K : Fr) : R2 := λ x y H Q => rI0 (λ i j => .int (i + j)) x y H Q \/ (∃ i j, x = .str i /\ y = .str j /\ i.length + j.length <= sizeLine /\ Q (.str (i ++ j)) H) \/ rCatS K x y H Q \/ rCatT K x y H Q
theorem uo_add : OpR X (binaryOp .Add) (uAdd X.K) := op_add.or (op_add_str.or (op_catS.or op_catT))
def uSub : R2 := rI0 λ i j => .int (i - j)
def uMul : R2 := λ x y H Q => rI CMul (λ i j => .int (i * j)) x y H Q \/ rI CMulW (λ i j => .int (i * j)) x y H Q \/ rRep x y H Q \/ rRepS x y H Q
theorem uo_mul : OpR X (binaryOp .Mult) uMul := op_mul.or (op_mulW.or (op_rep.or op_repS))
def uMod : R2 := rI (λ _ j => 0 < j) λ i j => .int (i % j)
theorem uo_mod : OpR X (binaryOp .Mod) uMod := op_mod
def uDiv : R2 := rI CDivW λ i j => .int (i / j)
theorem uo_div : OpR X (binaryOp .FloorDiv) uDiv := op_fdivW
def uPow : R2 := rI CPow λ i j => .int (i ^ j.toNat)
def iAdd : R2 := λ x y H Q => rI0 (λ i j => .int (i + j)) x y H Q \/ rExt2 x y H Q
theorem io_add : OpR X (inplaceOp .Add) iAdd := iop_add.or iop_ext
def iSub : R2 := rI0 λ i j => .int (i - j)
def iMul : R2 := rI CMul λ i j => .int (i * j)
def iDiv : R2 := rI CDiv λ i j => .int (i / j)
def uEq (K : Fr) : R2 := λ x y H Q => rEq x y H Q \/ rEqD K x y H Q
theorem uo_eq (hu : X.A.units + 64 < cLine) : OpR X (compareOp .Eq) (uEq X.K) := op_eq.or (op_eqD hu)
def uNe (K : Fr) : R2 := λ x y H Q => rNe x y H Q \/ rNeD K x y H Q
theorem uo_ne (hu : X.A.units + 64 < cLine) : OpR X (compareOp .NotEq) (uNe X.K) := op_ne.or (op_neD hu)
def uLt : R2 := rI0 λ i j => .bl (decide (i < j))
def uLe : R2 := rI0 λ i j => .bl (decide (i <= j))
def uGt : R2 := rI0 λ i j => .bl (decide (j < i))
def uGe : R2 := rI0 λ i j => .bl (decide (j <= i))
theorem uo_lt : OpR X (compareOp .Lt) uLt := op_lt
theorem uo_le : OpR X (compareOp .LtE) uLe := op_le
theorem uo_gt : OpR X (compareOp .Gt) uGt := op_gt
theorem uo_ge : OpR X (compareOp .GtE) uGe := op_ge
def gIx (K : Fr) : V -> V -> Hp -> VK -> Prop := λ o i H Q => (∃ (p : Addr) (xs : List V) (n : Int) (v : V), o = .ref p /\ i = .int n /\ SqL K H p xs /\ 0 <= n /\ xs[n.toNat]? = some v /\ Q v H) \/ ∃ p v, o = .ref p /\ DGet H p i (some v) /\ Q v H
theorem get_any (hu : X.A.units + 1 < cLine) : PGet X (gIx X.K) := by
 intro pins s σ H o i ov iv Q I r1 r2 h
 rcases h with ⟨p, xs, n, v, rfl, rfl, hs, h0, hx, q⟩ | ⟨p, v, rfl, hd, q⟩
 · cases (show ov = Value.ref p from r1)
   obtain ⟨tk, rfl⟩ := r2
   obtain ⟨its, rv, pl, hz⟩ := I.list hs
   obtain ⟨u, hu, ru⟩ := rv.get hx
   have hlt : n.toNat < xs.length := (List.getElem?_eq_some_iff.mp hx).1
   have hle : n < 2 ^ 63 := by
     have := line63
     omega
   exact wpAny_getItem_list pl.isList h0 hle (by simpa using hu) ⟨v, H, I, ru, q⟩
 · cases (show ov = Value.ref p from r1)
   exact d_getItem hu I hd r2 λ w' s' I' rw' => ⟨v, H, I', rw', q⟩
def uSet : V -> V -> V -> Hp -> (Hp -> Prop) -> Prop := λ o i v H Q => rSetL o i v H Q \/ ∃ p H', o = .ref p /\ DPut H p i v H' /\ Q H'
theorem set_any (hu : X.A.units + 1 < cLine) : PSet X uSet := by
 intro pins s σ H o i v ov iv u Q I r1 r2 r3 h
 rcases h with h | ⟨p, H', rfl, hd, q⟩
 · exact set_list pins s σ H o i v ov iv u Q I r1 r2 r3 h
 · cases (show ov = Value.ref p from r1)
   exact d_setItem hu I hd r2 r3 λ s' I' => ⟨H', I', q⟩
theorem ip_of {op : Operator} {r : R2} (h : OpR X (inplaceOp op) r) : PIp X op r := λ pins s σ H x y v u Q I a b q => h pins s σ H x y v u Q I a b q
def uLen (K : Fr) : List V -> Hp -> VK -> Prop := λ xs H Q => (∃ x n, xs = [x] /\ LenV K x H n /\ Q (.int n) H) \/ ∃ d kvs, xs = [.ref d] /\ Rd H d (.dK kvs) /\ Q (.int (kvs.length : Nat)) H
theorem call_lenRd : CallR X (.builtin "len") (λ xs H Q => ∃ a kvs, xs = [V.ref a] /\ Rd H a (.dK kvs) /\ Q (.int (kvs.length : Nat)) H) := by
 intro pins s σ H xs us Q I r h
 obtain ⟨a, kvs, rfl, ha, q⟩ := h
 obtain ⟨u, rfl, ru⟩ := vals1 r
 cases ru
 exact d_len I ha λ t s' I' => ⟨.int kvs.length, H, I', ⟨t, rfl⟩, q⟩
theorem cr_len : CallR X (.builtin "len") (uLen X.K) := call_len.or call_lenRd
theorem pe_globI {x : Str} {i : Int} {pos : Pos} (hg : Gl X x) (hm : ∃ t, X.mg x = some (.int i t)) (hd : (x == ("__debug__" : Str)) = false := by decide) : PE X (.Name x pos) (tC (.int i)) := by
 obtain ⟨t, hm⟩ := hm
 exact pe_glob hg hm ⟨t, rfl⟩ hd
theorem pe_globS {x z : Str} {pos : Pos} (hg : Gl X x) (hm : ∃ t, X.mg x = some (.str z t)) (hd : (x == ("__debug__" : Str)) = false := by decide) : PE X (.Name x pos) (tC (.str z)) := by
 obtain ⟨t, hm⟩ := hm
 exact pe_glob hg hm ⟨t, rfl⟩ hd
def uIx (K : Fr) : R2 := rIx K
theorem ix_any : IxR X (uIx X.K) := ix_seq
def uSl (K : Fr) : V -> Option Int -> Option Int -> Hp -> VK -> Prop := λ x lo hi H Q => rSlL K x lo hi H Q \/ rSlT K x lo hi H Q
theorem sl_any : SlR X (uSl X.K) := sl_list.or sl_tup
end
section
variable {K : Fr} {σ : L2.St} {H : Hp} {Q : VK} {D : Ends} {t u : TS} {te ta tb tc : TE} {tt : TT} {Rs : List Res} {E : XK}
theorem g_seq (k : t { D with nx := u D } σ H) : tSeq t u D σ H := k
theorem g_next (k : D.nx σ H) : tNext D σ H := k
theorem g_asg {i : Nat} (k : te σ H λ x H1 => D.nx (σ.set i (some x)) H1) : tAsg te (gName i) D σ H := k
theorem g_asgX {g : TG} (k : te σ H λ x H1 => g x σ H1 D.nx) : tAsg te g D σ H := k
theorem g_drop (k : te σ H λ _ H1 => D.nx σ H1) : tDrop te D σ H := k
theorem g_ret (k : te σ H D.rt) : tRet te D σ H := k
theorem g_retN (k : D.rt .non H) : tRetN D σ H := k
theorem g_if (k : tt σ H λ b H1 => if b = true then t D σ H1 else u D σ H1) : tIfS tt t u D σ H := k
theorem g_nx {f r b c} (k : f σ H) : (Ends.mk f r b c).nx σ H := k
theorem g_rt {f b c} {r : VK} {v : V} (k : r v H) : (Ends.mk f r b c).rt v H := k
theorem g_bk {f b c} {r : VK} (k : b σ H) : (Ends.mk f r b c).bk σ H := k
theorem g_ct {f b c} {r : VK} (k : c σ H) : (Ends.mk f r b c).ct σ H := k
theorem g_var {i : Nat} {v : V} (h : σ[i]? = some (some v)) (k : Q v H) : tVar i σ H Q := ⟨v, h, k⟩
theorem g_c {v : V} (k : Q v H) : tC v σ H Q := k
theorem g_op {r : R2} (k : ta σ H λ x H1 => tb σ H1 λ y H2 => r x y H2 Q) : tOp r ta tb σ H Q := k
theorem g_un {r : V -> Hp -> VK -> Prop} (k : ta σ H λ x H1 => r x H1 Q) : tUn r ta σ H Q := k
theorem g_nil {Q : List V -> Hp -> Prop} (k : Q [] H) : tNil σ H Q := k
theorem g_cons {tr : TA} {Q : List V -> Hp -> Prop} (k : ta σ H λ x H1 => tr σ H1 λ xs H2 => Q (x :: xs) H2) : tCons ta tr σ H Q := k
theorem g_cb {r : List V -> Hp -> VK -> Prop} {t : TA} (k : t σ H λ vs H1 => r vs H1 Q) : tCB r t σ H Q := k
theorem g_call {sp : Sp} {dvs : List V} {t : TA} (k : t σ H λ vs H1 => sp (vs ++ dvs) H1 Q E) : tCall sp dvs E t σ H Q := k
def LstK (Q : VK) : List V -> Hp -> Prop := λ xs H1 => xs.length <= sizeLine /\ ∀ p, H1 p = none -> Q (.ref p) (upd H1 p (.lst xs))
def TupK (Q : VK) : List V -> Hp -> Prop := λ xs H1 => xs.length <= sizeLine /\ ∀ p, H1 p = none -> Q (.ref p) (upd H1 p (.tup xs))
theorem g_lst {t : TA} (k : t σ H (LstK Q)) : tLst t σ H Q := k
theorem g_tup {t : TA} (k : t σ H (TupK Q)) : tTup t σ H Q := k
theorem v_lst {xs : List V} (S : M Rs H) (hn : xs.length <= 100000) (k : ∀ p H', M (pt p (.lst xs) :: Rs) H' -> Q (.ref p) H') : LstK Q xs H :=
 ⟨Nat.le_trans hn (by decide), λ p hp => k p _ (S.new hp)⟩
theorem v_tup {xs : List V} (S : M Rs H) (hn : xs.length <= 100000) (k : ∀ p H', M (pt p (.tup xs) :: Rs) H' -> Q (.ref p) H') : TupK Q xs H :=
 ⟨Nat.le_trans hn (by decide), λ p hp => k p _ (S.new hp)⟩
theorem g_test {Q : Bool -> Hp -> Prop} (k : te σ H λ x H' => ∃ b, x = .bl b /\ Q b H') : tTest te σ H Q := k
theorem g_B {Q : Bool -> Hp -> Prop} (k : te σ H λ x H' => ∃ b, x = .bl b /\ Q b H') : tB te σ H Q := k
theorem g_bl {b : Bool} {Q : Bool -> Prop} (k : Q b) : ∃ c, V.bl b = .bl c /\ Q c := ⟨b, rfl, k⟩
theorem g_and {s : TT} {Q : Bool -> Hp -> Prop} (k : tt σ H λ c H1 => if c = true then s σ H1 Q else Q false H1) : tAnd tt s σ H Q := k
theorem g_or {s : TT} {Q : Bool -> Hp -> Prop} (k : tt σ H λ c H1 => if c = true then Q true H1 else s σ H1 Q) : tOr tt s σ H Q := k
theorem g_not {Q : Bool -> Hp -> Prop} (k : tt σ H λ c H1 => Q (!c) H1) : tNot tt σ H Q := k
theorem g_andV (k : ta σ H λ x H1 => ∃ c, x = .bl c /\ if c = true then tb σ H1 Q else Q (.bl false) H1) : tAndV ta tb σ H Q := k
theorem g_orV (k : ta σ H λ x H1 => ∃ c, x = .bl c /\ if c = true then Q (.bl true) H1 else tb σ H1 Q) : tOrV ta tb σ H Q := k
theorem g_notV (k : ta σ H λ x H1 => ∃ c, x = .bl c /\ Q (.bl (!c)) H1) : tNotV ta σ H Q := k
theorem g_ifE (k : tt σ H λ c H1 => if c = true then ta σ H1 Q else tb σ H1 Q) : tIf tt ta tb σ H Q := k
theorem g_chain {r r' : R2} (k : ta σ H λ x H1 => tb σ H1 λ y H2 => r x y H2 λ z H3 => ∃ k, z = .bl k /\ (if k = true then tc σ H3 λ w' H4 => r' y w' H4 Q else Q (.bl false) H3)) : tChain r r' ta tb tc σ H Q := k
theorem g_aug {i : Nat} {ti : TIp} {v : V} (h : σ[i]? = some (some v)) (k : te σ H λ y H1 => ti v y H1 λ z H2 => D.nx (σ.set i (some z)) H2) : tAug i te ti D σ H := ⟨v, h, k⟩
theorem g_augS {tget : V -> V -> Hp -> VK -> Prop} {tip : TIp} {tset : TSet} (k : ta σ H λ o H1 => tb σ H1 λ i H2 => tget o i H2 λ x H3 => te σ H3 λ y H4 => tip x y H4 λ z H5 => tset o i z H5 λ H6 => D.nx σ H6) :
   tAugS ta tb te tget tip tset D σ H := k
theorem g_sub {t3 : TSet} {v : V} {Q : L2.St -> Hp -> Prop} (k : ta σ H λ o H1 => tb σ H1 λ i H2 => t3 o i v H2 λ H3 => Q σ H3) : gSub ta tb t3 v σ H Q := k
theorem g_sl {r : V -> Option Int -> Option Int -> Hp -> VK -> Prop} {tl th : TO} (k : te σ H λ x H1 => tl σ H1 λ l H2 => th σ H2 λ u H3 => r x l u H3 Q) : tSl r te tl th σ H Q := k
theorem g_noPart {Q : Option Int -> Hp -> Prop} (k : Q none H) : tNoPart σ H Q := k
theorem g_part {Q : Option Int -> Hp -> Prop} (k : te σ H λ x H1 => ∃ i, x = .int i /\ Q (some i) H1) : tPart te σ H Q := k
theorem g_int {i : Int} {Q : Int -> Prop} (k : Q i) : ∃ j, V.int i = .int j /\ Q j := ⟨i, rfl, k⟩
theorem v_add {i j : Int} (k : Q (.int (i + j)) H) : uAdd K (.int i) (.int j) H Q := .inl ⟨i, j, rfl, rfl, k⟩
theorem v_sub {i j : Int} (k : Q (.int (i - j)) H) : uSub (.int i) (.int j) H Q := ⟨i, j, rfl, rfl, k⟩
theorem v_mul {i j : Int} (h : CMul i j \/ CMulW i j) (k : Q (.int (i * j)) H) : uMul (.int i) (.int j) H Q := h.elim (λ h => .inl ⟨i, j, rfl, rfl, h, k⟩) λ h => .inr (.inl ⟨i, j, rfl, rfl, h, k⟩)
theorem v_mod {i j : Int} (h : 0 < j) (k : Q (.int (i % j)) H) : uMod (.int i) (.int j) H Q := ⟨i, j, rfl, rfl, h, k⟩
theorem div_ok {i j : Int} (h : 0 < j /\ j < 2 ^ 64) : CDivW i j := wide_div (b := 64) h.1 (by omega) (by decide) (by decide)
theorem v_div {i j : Int} (h : 0 < j /\ j < 2 ^ 64) (k : Q (.int (i / j)) H) : uDiv (.int i) (.int j) H Q := ⟨i, j, rfl, rfl, div_ok h, k⟩
theorem v_iadd {i j : Int} (k : Q (.int (i + j)) H) : iAdd (.int i) (.int j) H Q := .inl ⟨i, j, rfl, rfl, k⟩
theorem v_isub {i j : Int} (k : Q (.int (i - j)) H) : iSub (.int i) (.int j) H Q := ⟨i, j, rfl, rfl, k⟩
theorem v_imul {i j : Int} (h : CMul i j) (k : Q (.int (i * j)) H) : iMul (.int i) (.int j) H Q := ⟨i, j, rfl, rfl, h, k⟩
theorem v_idiv {i j : Int} (h : CDiv i j) (k : Q (.int (i / j)) H) : iDiv (.int i) (.int j) H Q := ⟨i, j, rfl, rfl, h, k⟩
theorem v_lt {i j : Int} (k : Q (.bl (decide (i < j))) H) : uLt (.int i) (.int j) H Q := ⟨i, j, rfl, rfl, k⟩
theorem v_le {i j : Int} (k : Q (.bl (decide (i <= j))) H) : uLe (.int i) (.int j) H Q := ⟨i, j, rfl, rfl, k⟩
theorem v_gt {i j : Int} (k : Q (.bl (decide (j < i))) H) : uGt (.int i) (.int j) H Q := ⟨i, j, rfl, rfl, k⟩
theorem v_ge {i j : Int} (k : Q (.bl (decide (j <= i))) H) : uGe (.int i) (.int j) H Q := ⟨i, j, rfl, rfl, k⟩
theorem v_eqI {i j : Int} (k : Q (.bl (decide (i = j))) H) : uEq K (.int i) (.int j) H Q := .inl ⟨rfl, by
 have e : decide (V.int i = V.int j) = decide (i = j) := decide_eq_decide.mpr ⟨λ h => V.int.inj h, λ h => by rw [h]⟩
 rw [e]
 exact k⟩
theorem v_neI {i j : Int} (k : Q (.bl (!decide (i = j))) H) : uNe K (.int i) (.int j) H Q := .inl ⟨rfl, by
 have e : decide (V.int i = V.int j) = decide (i = j) := decide_eq_decide.mpr ⟨λ h => V.int.inj h, λ h => by rw [h]⟩
 rw [e]
 exact k⟩
theorem v_eqS {i j : Str} (k : Q (.bl (decide (i = j))) H) : uEq K (.str i) (.str j) H Q := .inl ⟨rfl, by
 have e : decide (V.str i = V.str j) = decide (i = j) := decide_eq_decide.mpr ⟨λ h => V.str.inj h, λ h => by rw [h]⟩
 rw [e]
 exact k⟩
theorem v_eqB {i j : Bool} (k : Q (.bl (decide (i = j))) H) : uEq K (.bl i) (.bl j) H Q := .inl ⟨rfl, by
 have e : decide (V.bl i = V.bl j) = decide (i = j) := decide_eq_decide.mpr ⟨λ h => V.bl.inj h, λ h => by rw [h]⟩
 rw [e]
 exact k⟩
theorem v_neB {i j : Bool} (k : Q (.bl (!decide (i = j))) H) : uNe K (.bl i) (.bl j) H Q := .inl ⟨rfl, by
 have e : decide (V.bl i = V.bl j) = decide (i = j) := decide_eq_decide.mpr ⟨λ h => V.bl.inj h, λ h => by rw [h]⟩
 rw [e]
 exact k⟩
theorem v_neD {x y : V} {d e : PyData} (h1 : Dp K H x d) (h2 : Dp K H y e) (s1 : SeqAt.shaped d = true) (s2 : SeqAt.shaped e = true) (k : Q (.bl (!PyData.eqv d e)) H) : uNe K x y H Q := .inr ⟨d, e, h1, h2, s1, s2, k⟩
theorem v_ixL {p : Addr} {xs : List V} {i : Int} {v : V} (h : SqL K H p xs) (ha : atI xs i = some v) (k : Q v H) : uIx K (.ref p) (.int i) H Q := .inl ⟨p, xs, i, v, rfl, rfl, h, ha, k⟩
theorem v_ixT {p : Addr} {xs : List V} {i : Int} {v : V} (h : SqT K H p xs) (ha : atI xs i = some v) (k : Q v H) : uIx K (.ref p) (.int i) H Q := .inr (.inl ⟨p, xs, i, v, rfl, rfl, h, ha, k⟩)
theorem v_get {p : Addr} {xs : List V} {n : Int} {v : V} (h : SqL K H p xs) (h0 : 0 <= n) (ha : xs[n.toNat]? = some v) (k : Q v H) : gIx K (.ref p) (.int n) H Q := .inl ⟨p, xs, n, v, rfl, rfl, h, h0, ha, k⟩
theorem ixN_int {n : Nat} {i : Int} (h0 : 0 <= i) (h1 : i < n) : ixN n i = some i.toNat := by
 unfold ixN
 rw [if_pos h0, if_pos h1]
theorem atI_int {α : Type} {xs : List α} {i : Int} {v : α} (h0 : 0 <= i) (h : xs[i.toNat]? = some v) : atI xs i = some v := by
 have hl := (List.getElem?_eq_some_iff.mp h).1
 unfold atI
 rw [ixN_int h0 (by omega)]
 exact h
theorem atI_ints {ns : List Int} {i : Int} (h0 : 0 <= i) (h1 : i < ns.length) : atI (ns.map V.int) i = some (.int (ns.getD i.toNat 0)) := by
 refine atI_int h0 ?_
 have hl : i.toNat < ns.length := by omega
 rw [List.getElem?_map, List.getElem?_eq_getElem hl, List.getD_eq_getElem?_getD, List.getElem?_eq_getElem hl]
 rfl
theorem v_set {p : Addr} {xs : List V} {n : Int} {j : Nat} {v : V} {Q : Hp -> Prop} (S : M Rs H) (i : Nat) (e : Rs[i]? = some (pt p (.lst xs))) (hj : ixN xs.length n = some j) (k : ∀ H', M (Rs.set i (pt p (.lst (xs.set j v)))) H' -> Q H') :
   uSet (.ref p) (.int n) v H Q := .inl ⟨p, xs, n, j, rfl, rfl, S.got i e, hj, k _ (S.putAt i e)⟩
theorem v_catS {a b : Addr} {xs ys : List V} (S : M Rs H) (h1 : SqL K H a xs) (h2 : SqL K H b ys) (hz : xs.length + ys.length <= 100000) (k : ∀ p H', M (pt p (.lst (xs ++ ys)) :: Rs) H' -> Q (.ref p) H') : uAdd K (.ref a) (.ref b) H Q :=
 .inr (.inr (.inl ⟨a, b, xs, ys, rfl, rfl, h1, h2, Nat.le_trans hz (by decide), λ p hp => k p _ (S.new hp)⟩))
theorem v_slL {a : Addr} {xs : List V} {lo hi : Option Int} (S : M Rs H) (h : SqL K H a xs) (k : ∀ p H', M (pt p (.lst (cutV xs lo hi)) :: Rs) H' -> Q (.ref p) H') : uSl K (.ref a) lo hi H Q :=
 .inl ⟨a, xs, rfl, h, λ p hp => k p _ (S.new hp)⟩
def RevK (K : Fr) (Q : VK) : VK := λ x H1 => ∃ a xs, x = .ref a /\ SqL K H1 a xs /\ ∀ p, H1 p = none -> Q (.ref p) (upd H1 p (.lst xs.reverse))
theorem g_rev (k : te σ H (RevK K Q)) : tRevL K te σ H Q := k
theorem v_rev {a : Addr} {xs : List V} (S : M Rs H) (h : SqL K H a xs) (k : ∀ p H', M (pt p (.lst xs.reverse) :: Rs) H' -> Q (.ref p) H') : RevK K Q (.ref a) H :=
 ⟨a, xs, rfl, h, λ p hp => k p _ (S.new hp)⟩
theorem v_lenL {a : Addr} {xs : List V} (h : SqL K H a xs) (k : Q (.int (xs.length : Nat)) H) : uLen K [.ref a] H Q := .inl ⟨_, _, rfl, .inl ⟨xs, h, rfl⟩, k⟩
theorem g_bm {T : String} {r : V -> List V -> Hp -> VK -> Prop} {t : TA} (k : te σ H λ x H1 => tyV K T x H1 /\ t σ H1 λ xs H2 => r x xs H2 Q) : tBM K T r te t σ H Q := k
theorem g_bm0 {T : String} {r : V -> List V -> Hp -> VK -> Prop} (k : te σ H λ x H1 => tyV K T x H1 /\ r x [] H1 Q) : tBM0 K T r te σ H Q := k
theorem v_tyL {a : Addr} {xs : List V} {φ : Prop} (h : SqL K H a xs) (k : φ) : tyV K "list" (.ref a) H /\ φ := ⟨.inl ⟨rfl, xs, h⟩, k⟩
theorem v_app {p : Addr} {xs : List V} {v : V} (S : M Rs H) (i : Nat) (e : Rs[i]? = some (pt p (.lst xs))) (hz : xs.length < 100000) (k : ∀ H', M (Rs.set i (pt p (.lst (xs ++ [v])))) H' -> Q .non H') : rAppend (.ref p) [v] H Q :=
 ⟨p, xs, v, rfl, rfl, S.got i e, Nat.lt_of_lt_of_le hz (by decide), k _ (S.putAt i e)⟩
theorem v_ifD {c : Prop} [Decidable c] {A B : Prop} (h1 : c -> A) (h2 : ¬ c -> B) : if decide c = true then A else B := by
 by_cases h : c
 · rw [decide_eq_true h]
   exact h1 h
 · rw [decide_eq_false h]
   exact h2 h
theorem v_ifT {A B : Prop} (k : A) : if true = true then A else B := k
theorem v_ifF {A B : Prop} (k : B) : if false = true then A else B := k
end
end RC
namespace RC
open PySem PySem.Spec PyProof.Rows L2
def fdOf (K : Fr) (f : Addr) : FuncData := match K.lookup f with
 | some ⟨_, _, .func fd, _⟩ => fd
 | _ => PySem.W.fnOf "" "" ⟨[], [], none, [], [], none, []⟩ [] ⟨.function, [], false, false, []⟩ .none .none .none .none none .none .none
theorem fd_of {K : Fr} {x q : Str} {ar : Arguments} {bd : List Stmt} {sc : Scope} {dvs : List V} {kws : List (Str × V)} {f : Addr} (h : ∃ fd, FunD K x q ar bd sc dvs kws f fd) : FunD K x q ar bd sc dvs kws f (fdOf K f) := by
 obtain ⟨fd, F⟩ := h
 have e : fdOf K f = fd := by
   obtain ⟨⟨oc, od, dV, kV, doc, pm, an, cdv, ct, osl, rfl, lk, _, _, _⟩, _⟩ := F
   unfold fdOf
   rw [lk]
 rw [e]
 exact F
def rdL (K : Fr) (a : Addr) (xs : List V) : Res := ⟨λ F l => l = [] /\ SqL K F a xs, λ _ _ _ e h => ⟨h.1, e.sqL h.2⟩⟩
theorem M.start {K : Fr} {H : Hp} {a : Addr} {xs : List V} (h : SqL K H a xs) : M [rdL K a xs] H :=
 ⟨H, [], ⟨[], [], rfl, ⟨rfl, h⟩, rfl⟩, ⟨Ext.refl H, (λ _ h => nomatch h), List.nodup_nil⟩⟩
theorem M.gotR {K : Fr} {Rs : List Res} {H : Hp} {a : Addr} {xs : List V} (h : M Rs H) (i : Nat) (e : Rs[i]? = some (rdL K a xs)) : SqL K H a xs := by
 obtain ⟨F, L, ⟨l1, l2, rfl, ⟨_, q⟩, b⟩, m⟩ := h.at i e
 exact m.ex.sqL q
def Ent (Rs : List Res) (φ : Hp -> Prop) : Prop := ∀ H, M Rs H -> φ H
def rAbs : List V -> Hp -> VK -> Prop := λ xs H Q => ∃ i, xs = [.int i] /\ Q (.int (if i < 0 then -i else i)) H
theorem cr_abs {X : Cx} : CallR X (.builtin "abs") rAbs := call_abs
def rListOf (K : Fr) : List V -> Hp -> VK -> Prop := λ xs H Q => ∃ p ys, xs = [.ref p] /\ (SqL K H p ys \/ SqT K H p ys) /\ ∀ l, H l = none -> Q (.ref l) (upd H l (.lst ys))
theorem cr_list {X : Cx} : CallR X (.type "list") (rListOf X.K) := call_list_of
theorem v_abs {i : Int} {H : Hp} {Q : VK} (k : Q (.int (if i < 0 then -i else i)) H) : rAbs [.int i] H Q := ⟨i, rfl, k⟩
theorem v_list {K : Fr} {Rs : List Res} {H : Hp} {Q : VK} {a : Addr} {xs : List V} (S : M Rs H) (h : SqL K H a xs \/ SqT K H a xs) (k : ∀ p H', M (pt p (.lst xs) :: Rs) H' -> Q (.ref p) H') : rListOf K [.ref a] H Q :=
 ⟨a, xs, rfl, h, λ p hp => k p _ (S.new hp)⟩
def rIsN : R2 := λ x y H Q => y = .non /\ Q (.bl (decide (x = .non))) H
def rNotN : R2 := λ x y H Q => y = .non /\ Q (.bl (!decide (x = .non))) H
end RC
namespace RC
open PySem PySem.Spec PyProof.Rows L2
def ForW (J : It) (g : TG) (tb : TS) (D : Ends) (σ : L2.St) (H1 : Hp) : Prop := ∃ W : Nat -> Nat -> L2.St -> Hp -> Prop, (∃ m, W 0 m σ H1) /\ ∀ i m σ H, W i m σ H ->
 (J.stop i H /\ D.nx σ H) \/ (J.go i H /\ ∃ N : L2.St -> Hp -> Prop, (∀ σ' H', N σ' H' -> ∃ m', m' < m /\ W (i + 1) m' σ' H') /\ ∀ x H', J.yld i H x H' -> g x σ H' λ σ2 H2 => tb { D with nx := N, ct := N, bk := D.nx } σ2 H2)
def LcW (J : It) (g : TG) (tt : TT) (te : TE) (vs : List Nat) (σ : L2.St) (Q : VK) (H1 : Hp) : Prop := ∀ D, H1 D = none -> ∃ W : Nat -> Nat -> Hp -> Prop, (∃ m, W 0 m (upd H1 D (.lst []))) /\ ∀ i m H, W i m H ->
 (J.stop i H /\ Q (.ref D) H) \/ (J.go i H /\ ∃ Nx : Hp -> Prop, (∀ H', Nx H' -> ∃ m', m' < m /\ W (i + 1) m' H') /\ ∀ x H', J.yld i H x H' -> g x (wipe σ vs) H' λ σ2 H2 => wipe σ2 vs = wipe σ vs /\ tt σ2 H2 λ b H3 =>
   if b = true then te σ2 H3 λ y H4 => ∃ acc, H4 D = some (.lst acc) /\ acc.length < sizeLine /\ Nx (upd H4 D (.lst (acc ++ [y]))) else Nx H3)
section
variable {K : Fr} {σ : L2.St} {H : Hp} {Q : VK} {D : Ends} {tb : TS} {te tl : TE} {ta : TA} {tt : TT} {g : TG} {vs : List Nat} {wi : TI} {J : It} {R : It -> Hp -> Prop} {a : Addr} {xs : List V} {Rs : List Res}
theorem g_for (k : wi σ H λ J H1 => ForW J g tb D σ H1) : tFor wi g tb D σ H := k
theorem g_lc (k : wi σ H λ J H1 => LcW J g tt te vs σ Q H1) : tLc wi g tt te vs σ H Q := k
def ItL (K : Fr) (R : It -> Hp -> Prop) : VK := λ x H1 => ∃ a, x = .ref a /\ (∃ xs, SqL K H1 a xs) /\ R (Itl K a) H1
def ItR (R : It -> Hp -> Prop) : List V -> Hp -> Prop := λ vs H1 => ∃ j : Int, vs = [.int j] /\ -(2 ^ 62) <= j /\ j < 2 ^ 62 /\ R (Itr 0 j.toNat) H1
def ItV (K : Fr) (R : It -> Hp -> Prop) : List V -> Hp -> Prop := λ vs H1 => ∃ (a : Addr) (xs : List V), vs = [.ref a] /\ SqL K H1 a xs /\ R (Itv K a xs.length) H1
theorem g_iList (k : tl σ H (ItL K R)) : iList K tl σ H R := k
theorem v_itL (h : SqL K H a xs) (k : R (Itl K a) H) : ItL K R (.ref a) H := ⟨a, rfl, ⟨xs, h⟩, k⟩
theorem g_iRng1 (k : ta σ H (ItR R)) : iRng1 ta σ H R := k
theorem v_itR {j : Int} (h : -(2 ^ 62) <= j /\ j < 2 ^ 62) (k : R (Itr 0 j.toNat) H) : ItR R [V.int j] H := ⟨j, rfl, h.1, h.2, k⟩
theorem g_iRev (k : ta σ H (ItV K R)) : iRev K ta σ H R := k
theorem for_W {n : Nat} {G : Hp -> Prop} {Y : Nat -> Hp -> V -> Hp -> Prop} (w : Walk J n G Y) (Pv : Nat -> L2.St -> Hp -> Prop) (h0 : Pv 0 σ H) (hG : ∀ i σ H, i <= n -> Pv i σ H -> G H)
   (hs : ∀ i x σ H H', i < n -> Pv i σ H -> Y i H x H' -> g x σ H' λ σ2 H2 => tb { D with nx := Pv (i + 1), ct := Pv (i + 1), bk := D.nx } σ2 H2) (hd : ∀ σ H, Pv n σ H -> D.nx σ H) : ForW J g tb D σ H := for_it w Pv h0 hG hs hd
def PvM (P : Nat -> List V -> Prop) (E : Addr) (Rs : List Res) (i : Nat) (H : Hp) : Prop := ∃ acc, P i acc /\ M (pt E (.lst acc) :: Rs) H
def LcK (N : Hp -> Prop) (E : Addr) : VK := λ y H4 => ∃ acc, H4 E = some (.lst acc) /\ acc.length < sizeLine /\ N (upd H4 E (.lst (acc ++ [y])))
theorem lc_W {n : Nat} {G : Hp -> Prop} {Y : Nat -> Hp -> V -> Hp -> Prop} (w : Walk J n G Y) (S : M Rs H) (P : Nat -> List V -> Prop) (h0 : P 0 []) (hG : ∀ H, M Rs H -> G H)
   (hs : ∀ i x acc E H H', i < n -> P i acc -> M (pt E (.lst acc) :: Rs) H -> Y i H x H' -> g x (wipe σ vs) H' λ σ2 H2 => wipe σ2 vs = wipe σ vs /\ tt σ2 H2 λ b H3 => if b = true then te σ2 H3 (LcK (PvM P E Rs (i + 1)) E) else PvM P E Rs (i + 1) H3)
   (hd : ∀ E acc H, P n acc -> M (pt E (.lst acc) :: Rs) H -> Q (.ref E) H) : LcW J g tt te vs σ Q H := by
 intro E hE
 refine lc_it w (PvM P E Rs) ⟨[], h0, S.new hE⟩ (λ i H _ ⟨acc, _, S⟩ => hG H S.tl) (λ i x H H' hi ⟨acc, hp, S⟩ y => hs i x acc E H H' hi hp S y) λ H ⟨acc, hp, S⟩ => hd E acc H hp S
theorem lc_next {N : Hp -> Prop} {E : Addr} {y : V} {acc : List V} (S : M Rs H) (i : Nat) (e : Rs[i]? = some (pt E (.lst acc))) (hz : acc.length < 100000) (k : ∀ H', M (Rs.set i (pt E (.lst (acc ++ [y])))) H' -> N H') : LcK N E y H :=
 ⟨acc, S.got i e, Nat.lt_of_lt_of_le hz (by decide), k _ (S.putAt i e)⟩
theorem g_yes {Q : Bool -> Hp -> Prop} (k : Q true H) : tYes σ H Q := k
theorem g_name {i : Nat} {v : V} {Q : L2.St -> Hp -> Prop} (k : Q (σ.set i (some v)) H) : gName i v σ H Q := k
end
theorem ints_get {ns : List Int} {i : Nat} {x : V} (h : (ns.map V.int)[i]? = some x) : ∃ n, ns[i]? = some n /\ x = .int n := by
 rw [List.getElem?_map] at h
 cases e : ns[i]? with
 | none =>
   rw [e] at h
   cases h
 | some n =>
   rw [e] at h
   exact ⟨n, rfl, (Option.some.inj h).symm⟩
end RC
namespace RC
open PySem PySem.Spec PyProof.Rows L2
theorem cut_to (xs : List V) (k : Nat) : cutV xs none (some (k : Int)) = xs.take k := by
 unfold cutV
 rw [HT.sIx_none, HT.sIx_nat, List.drop_zero, Nat.sub_zero]
 rcases Nat.le_total k xs.length with h | h
 · rw [Nat.min_eq_left h]
 · rw [Nat.min_eq_right h, List.take_of_length_le (Nat.le_refl _), List.take_of_length_le h]
theorem g_wipe {a b : L2.St} {φ : Prop} (h : a = b) (k : φ) : a = b /\ φ := ⟨h, k⟩
end RC
namespace RC
open PySem PySem.Spec PyProof.Rows L2
def AllI (P : Int -> Prop) : List V -> Prop
 | [] => True
 | .int n :: r => P n /\ AllI P r
 | _ => False
theorem AllI.get {P : Int -> Prop} : ∀ {xs : List V}, AllI P xs -> ∀ {j : Nat}, j < xs.length -> ∃ n, P n /\ xs[j]? = some (.int n)
 | [], _, j, h => absurd h (Nat.not_lt_zero _)
 | .int n :: r, h, 0, _ => ⟨n, h.1, rfl⟩
 | .int n :: r, h, j + 1, hj => by
   obtain ⟨m, a, b⟩ := AllI.get h.2 (Nat.lt_of_succ_lt_succ hj)
   exact ⟨m, a, by simpa using b⟩
 | .non :: _, h, _, _ => h.elim
 | .bl _ :: _, h, _, _ => h.elim
 | .str _ :: _, h, _, _ => h.elim
 | .byt _ :: _, h, _, _ => h.elim
 | .flt _ :: _, h, _, _ => h.elim
 | .ref _ :: _, h, _, _ => h.elim
 | .ty _ :: _, h, _, _ => h.elim
end RC
namespace RC
theorem v_ifNT {A B : Prop} (k : B) : if (!true) = true then A else B := k
theorem v_ifNF {A B : Prop} (k : A) : if (!false) = true then A else B := k
end RC
namespace RC
open PySem PySem.Spec PyProof.Rows L2
def Sub (Rs' Rs : List Res) : Prop := ∀ F L, Sat F Rs L -> ∃ L1 L2, L.Perm (L1 ++ L2) /\ Sat F Rs' L1
theorem Sub.refl (Rs : List Res) : Sub Rs Rs := λ _ L h => ⟨L, [], by rw [List.append_nil], h⟩
theorem Sub.nil (Rs : List Res) : Sub [] Rs := λ _ L _ => ⟨[], L, .refl _, rfl⟩
theorem Sub.cons {Rs Rs' : List Res} {R : Res} (i : Nat) (e : Rs[i]? = some R) (h : Sub Rs' (Rs.eraseIdx i)) : Sub (R :: Rs') Rs := by
 intro F L s
 obtain ⟨L0, p0, l1, l2, rfl, a, b⟩ := s.perm (perm_at i e)
 obtain ⟨L1, L2, p1, c⟩ := h F l2 b
 refine ⟨l1 ++ L1, L2, p0.trans ?_, l1, L1, rfl, a, c⟩
 rw [List.append_assoc]
 exact p1.append_left l1
theorem Sub.tl {Rs Rs' : List Res} {R : Res} (h : Sub Rs' Rs) : Sub Rs' (R :: Rs) := by
 rintro F L ⟨l1, l2, rfl, a, b⟩
 obtain ⟨L1, L2, p1, c⟩ := h F l2 b
 refine ⟨L1, l1 ++ L2, (p1.append_left l1).trans ?_, c⟩
 rw [<- List.append_assoc, <- List.append_assoc]
 exact List.Perm.append_right _ List.perm_append_comm
theorem M.sub {Rs Rs' : List Res} {H : Hp} (q : Sub Rs' Rs) (h : M Rs H) : M Rs' H := by
 obtain ⟨F, L, a, m⟩ := h
 obtain ⟨L1, L2, p, b⟩ := q F L a
 have m2 := m.perm p
 refine ⟨F, L1, b, m2.ex, λ c hc => m2.own c (List.mem_append_left _ hc), ?_⟩
 have nd := m2.nd
 rw [List.map_append] at nd
 exact (List.nodup_append.mp nd).1
end RC
namespace RC
open PySem PySem.Spec PyProof.Rows L2
section
variable {X : Cx}
def rDIn : R2 := λ x y H Q => ∃ a o, y = .ref a /\ DGet H a x o /\ Q (.bl o.isSome) H
def rDNotIn : R2 := λ x y H Q => ∃ a o, y = .ref a /\ DGet H a x o /\ Q (.bl (!o.isSome)) H
theorem op_din (hu : X.A.units + 1 < cLine) : OpR X (compareOp .In) rDIn := by
 intro pins s σ H x y v u Q I rx ry h
 obtain ⟨a, o, rfl, g, q⟩ := h
 cases (show u = Value.ref a from ry)
 exact d_in hu I g rx λ s' I' => ⟨.bl o.isSome, H, I', rfl, q⟩
theorem op_dnotin (hu : X.A.units + 1 < cLine) : OpR X (compareOp .NotIn) rDNotIn := by
 intro pins s σ H x y v u Q I rx ry h
 obtain ⟨a, o, rfl, g, q⟩ := h
 cases (show u = Value.ref a from ry)
 exact d_notIn hu I g rx λ s' I' => ⟨.bl (!o.isSome), H, I', rfl, q⟩
def rInS : R2 := λ x y H Q => ∃ i j, x = .str i /\ y = .str j /\ Q (.bl (!(Builtin.Str.occurrences j i 0 j.length 1).isEmpty)) H
def rNotInS : R2 := λ x y H Q => ∃ i j, x = .str i /\ y = .str j /\ Q (.bl (!(!(Builtin.Str.occurrences j i 0 j.length 1).isEmpty))) H
def uIn (K : Fr) : R2 := λ x y H Q => rIn K false x y H Q \/ rInD K x y H Q \/ rDIn x y H Q \/ rInS x y H Q
def uNotIn (K : Fr) : R2 := λ x y H Q => rIn K true x y H Q \/ rNotInD K x y H Q \/ rDNotIn x y H Q \/ rNotInS x y H Q
theorem op_isN' : OpR X (compareOp .Is) rIsN := op_isN
theorem op_notN' : OpR X (compareOp .IsNot) rNotN := op_notN
end
section
variable {K : Fr} {σ : L2.St} {H : Hp} {Q : VK} {D : Ends} {Rs : List Res} {E : XK}
theorem v_neg {i : Int} (k : Q (.int (-i)) H) : rU (λ i => .int (-i)) (.int i) H Q := ⟨i, rfl, k⟩
theorem v_isN {x : V} (k : Q (.bl (decide (x = .non))) H) : rIsN x .non H Q := ⟨rfl, k⟩
theorem v_notN {x : V} (k : Q (.bl (!decide (x = .non))) H) : rNotN x .non H Q := ⟨rfl, k⟩
theorem g_par {i j : Nat} {ta : TA} (k : ta σ H λ vs H1 => ∃ v w, vs = [v, w] /\ D.nx ((σ.set i (some v)).set j (some w)) H1) : tPar i j ta D σ H := k
theorem v_two {x y : V} {P : V -> V -> Prop} (k : P x y) : ∃ v w, [x, y] = [v, w] /\ P v w := ⟨x, y, rfl, k⟩
theorem g_callN {n m : Nat} {sp : Sp} {gV : List V -> List V -> List V} {t tk : TA} (k : t σ H λ vs H1 => tk σ H1 λ zs H2 => vs.length = n /\ zs.length = m /\ sp (gV vs zs) H2 Q E) : tCallN n m sp gV E t tk σ H Q := k
theorem v_lens {a b : List V} {n m : Nat} {P : Prop} (h1 : a.length = n) (h2 : b.length = m) (k : P) : a.length = n /\ b.length = m /\ P := ⟨h1, h2, k⟩
theorem g_gtup {n : Nat} {t : TGs} {a : Addr} {xs : List V} {Q : L2.St -> Hp -> Prop} (h : SqT K H a xs) (hn : xs.length = n) (k : t xs σ H Q) : gTup K n t (.ref a) σ H Q := ⟨a, xs, rfl, h, hn, k⟩
theorem g_gnil {Q : L2.St -> Hp -> Prop} (k : Q σ H) : gNil [] σ H Q := ⟨rfl, k⟩
theorem g_gcons {t : TG} {u : TGs} {v : V} {r : List V} {Q : L2.St -> Hp -> Prop} (k : t v σ H λ σ' H' => u r σ' H' Q) : gCons t u (v :: r) σ H Q := ⟨v, r, rfl, k⟩
end
end RC
namespace RC
open PySem PySem.Spec PyProof.Rows L2
theorem lc_X {H : Hp} {σ : L2.St} {Q : VK} {te : TE} {tt : TT} {g : TG} {vs : List Nat} {J : It} {n : Nat} {G : Hp -> Prop} {Y : Nat -> Hp -> V -> Hp -> Prop} (w : Walk J n G Y) (Pv : Addr -> Nat -> Hp -> Prop) (h0 : ∀ E, H E = none -> Pv E 0 (upd H E (.lst [])))
   (hG : ∀ E i H, i <= n -> Pv E i H -> G H)
   (hs : ∀ E i x H H', i < n -> Pv E i H -> Y i H x H' -> g x (wipe σ vs) H' λ σ2 H2 => wipe σ2 vs = wipe σ vs /\ tt σ2 H2 λ b H3 => if b = true then te σ2 H3 (LcK (Pv E (i + 1)) E) else Pv E (i + 1) H3)
   (hd : ∀ E H, Pv E n H -> Q (.ref E) H) : LcW J g tt te vs σ Q H := by
 intro E hE
 exact lc_it w (Pv E) (h0 E hE) (hG E) (hs E) (hd E)
end RC
namespace RC
open PySem PySem.Spec PyProof.Rows L2
section
variable {K : Fr} {σ : L2.St} {H : Hp} {Q : VK} {D : Ends} {Rs : List Res}
theorem v_pow {i j : Int} (h : 0 <= j /\ j <= 1000000 /\ i.natAbs < 2 ^ 64) (k : Q (.int (i ^ j.toNat)) H) : uPow (.int i) (.int j) H Q := ⟨i, j, rfl, rfl, h, k⟩
def WhW (c : TT) (tb : TS) (D : Ends) (σ : L2.St) (H : Hp) : Prop := ∃ W : Nat -> L2.St -> Hp -> Prop, (∃ m, W m σ H) /\ ∀ m σ H, W m σ H ->
 c σ H λ b H1 => if b = true then ∃ N : L2.St -> Hp -> Prop, (∀ σ' H', N σ' H' -> ∃ m', m' < m /\ W m' σ' H') /\ tb { D with nx := N, ct := N, bk := D.nx } σ H1 else D.nx σ H1
theorem g_while {c : TT} {tb : TS} (k : WhW c tb D σ H) : tWhile c tb D σ H := k
end
end RC

namespace RC
open PySem PySem.Spec PyProof.Rows L2
theorem pas0 {X : Cx} {σ : L2.St} {E : XK} : PassesAt CX0 X σ E := λ _ _ _ _ _ _ z => z.elim
section
variable {X : Cx} {g : Bool} {CX : CXT} {k n : Nat} {f C : Addr} {fd : FuncData} {ps ps' ks : List Str} {sp : Sp} {ds : List Value} {dvs : List V} {W : WX} {x m : Str} {p pos apos : Pos} {e o : Expr} {es : List Expr} {ta : TE} {t : TA}
theorem ended {pins : List (Addr × Obj)} {σ : L2.St} {H : Hp} {s : Shared} {Q : VK} {E : XK} {c : Code} (I : Inv X pins σ H s) (hx : PassesAt CX X σ E) (h : codeAny (model X.prog X.w) X.A c (CR CX X.stack X.prog X.w H s Q E) s) :
   codeAny (model X.prog X.w) X.A c (λ r s' => match r with | .ok (.ret u) => EP X pins σ Q u s' | .ok _ => False | .error u => X.xe u s') s := by
 refine codeAny_mono h λ res s' hq => ?_
 match res, hq with
 | .error u, hq => exact hx pins H s u s' I hq
 | .ok (.ret u), hq => exact I.after hq
 | .ok .next, hq => cases hq
 | .ok .brk, hq => cases hq
 | .ok .cont, hq => cases hq
theorem runW {pins : List (Addr × Obj)} {σ : L2.St} {H : Hp} {s : Shared} {Q : VK} {E : XK} {us : List Value} {vs : List V} (F : FnX g X.prog X.w X.K X.mg X.base CX k f fd ps sp) (hg : g = true -> X.A.guards = some []) (hr : Room k X.A)
   (hb : Binds X.K fd ps ds) (hd : Vals dvs ds) (hx : PassesAt CX X σ E) (I : Inv X pins σ H s) (r : Vals vs us) (h : sp (vs ++ dvs) H Q E) :
   wpAny (model X.prog X.w) X.A (call (.ref f) us) (EP X pins σ Q) X.xe s := by
 have rr : Vals (vs ++ dvs) (us ++ ds) := r.append hd
 have ll : (us ++ ds).length = ps.length := rr.length.symm.trans (F.lenG _ _ _ _ h)
 have go := ended I hx (F.runG X.A X.stack s H ⟨us, []⟩ _ (us ++ ds) (vs ++ dvs) Q E hg hr I.env0 (hb s us I.kIn ll) (.refl _) rr h)
 refine wpAny_call (codeAny_mono go λ res s' hq => ?_)
 match res, hq with
 | .error _, hq => exact hq
 | .ok (.ret _), hq => exact hq
def tCallW (W : WX) (sp : Sp) (dvs : List V) (t : TA) : TE := λ σ H Q => t σ H λ vs H1 => sp (vs ++ dvs) H1 Q (WE W σ)
theorem pe_callW (F : FnX g X.prog X.w X.K X.mg X.base CX k f fd ps sp) (hgu : g = true -> X.A.guards = some []) (hr : Room k X.A) (hg : Gl X x) (hm : X.mg x = some (.ref f))
   (hk : PySem.W.keepIn X.K (.ref f) = true) (hb : Binds X.K fd ps ds) (hd : Vals dvs ds) (hx : ∀ σ, PassesAt CX X σ (WE W σ))
   (ha : PA X (e :: es) t) (hdb : (x == ("__debug__" : Str)) = false := by decide) (he : starEach (e :: es) X.env = (false, eval e X.env) :: starEach es X.env := by rfl)
   (hpl : (backTo pos (starEach es X.env)).any (·.1) = false := by rfl) : PE X (.Call (.Name x p) (e :: es) [] pos) (tCallW W sp dvs t) := by
 constructor
 intro pins s σ H Q I h
 refine wpAny_Call_Name_kw (ld_glob I hg hm ?_ hdb)
 have body := thn (ha.run pos pins s σ H _ I h) (Q' := λ us s1 => X.K.In s1.heap /\ wpAny (model X.prog X.w) X.A (call (.ref f) us) (EP X pins σ Q) X.xe s1)
   λ us s1 ⟨vs, H1, I1, r1, q1⟩ => ⟨I1.kIn, runW F hgu hr hb hd (hx σ) I1 r1 q1⟩
 exact PySem.W.callWith_K (h₀ := X.base) I.ok.mod.kin hk body he hpl
def tMethW (W : WX) (C : Addr) (m : Str) (sp : Sp) (dvs : List V) (ta : TE) (t : TA) : TE := λ σ H Q => ta σ H λ x H1 => ∃ a dx fs, x = .ref a /\ H1 a = some (.ins C dx fs) /\ fs.lookup m = none /\ t σ H1 λ vs H2 => sp (x :: (vs ++ dvs)) H2 Q (WE W σ)
theorem pe_methW {pl : Sem Bool} (he : PE X o ta) (c : Cls X.K C) (hm : Meth X.K C m f) (F : FnX g X.prog X.w X.K X.mg X.base CX k f fd ps sp) (hgu : g = true -> X.A.guards = some []) (hr : Room k X.A) (hb : Binds X.K fd ps ds) (hd : Vals dvs ds)
   (hx : ∀ σ, PassesAt CX X σ (WE W σ)) (ha : PA X (e :: es) t) (hst : starEach (e :: es) X.env = (false, eval e X.env) :: starEach es X.env := by rfl) (hpl : (backTo pos (starEach es X.env)).any (·.1) = false := by rfl)
   (ht : eval (.Call (.Attribute o m apos) (e :: es) [] pos) X.env = (do
     let ov <- eval o X.env
     standAt apos.atName
     let (f, first) <- holding [ov] (getMethod ov m pl)
     callWith pos f first (backTo pos (starEach (e :: es) X.env)) (backToKw pos (keywordEach [] X.env))) := by rfl) : PE X (.Call (.Attribute o m apos) (e :: es) [] pos) (tMethW W C m sp dvs ta t) := by
 constructor
 intro pins s σ H Q I h
 refine PySem.W.methodCall_KW (pl := pl) (thn (he.run pins s σ H _ I h) ?_) ht
 rintro u s1 ⟨x, H1, I1, rx, a, dx, fs, rfl, ea, hl, q⟩
 cases (show u = Value.ref a from rx)
 refine getmeth_ok I1 ea c hm hl ?_
 refine PySem.W.callWith_K (first := [.ref a]) (h₀ := X.base) I.ok.mod.kin hm.kp (thn (ha.run pos pins s1 σ H1 _ I1 q) ?_) hst hpl
 rintro us s2 ⟨vs, H2, I2, r, q2⟩
 exact ⟨I2.kIn, runW (us := .ref a :: us) (vs := .ref a :: vs) F hgu hr hb hd (hx σ) I2 (.cons rfl r) q2⟩
theorem pe_methW0 {pl : Sem Bool} (he : PE X o ta) (c : Cls X.K C) (hm : Meth X.K C m f) (F : FnX g X.prog X.w X.K X.mg X.base CX k f fd ps sp) (hgu : g = true -> X.A.guards = some []) (hr : Room k X.A) (hb : Binds X.K fd ps ds) (hd : Vals dvs ds)
   (hx : ∀ σ, PassesAt CX X σ (WE W σ))
   (ht : eval (.Call (.Attribute o m apos) [] [] pos) X.env = (do
     let ov <- eval o X.env
     standAt apos.atName
     let (f, first) <- holding [ov] (getMethod ov m pl)
     callWith pos f first (backTo pos (starEach [] X.env)) (backToKw pos (keywordEach [] X.env))) := by rfl) : PE X (.Call (.Attribute o m apos) [] [] pos) (tMethW W C m sp dvs ta tNil) := by
 constructor
 intro pins s σ H Q I h
 refine PySem.W.methodCall_KW (pl := pl) (thn (he.run pins s σ H _ I h) ?_) ht
 rintro u s1 ⟨x, H1, I1, rx, a, dx, fs, rfl, ea, hl, q⟩
 cases (show u = Value.ref a from rx)
 exact getmeth_ok I1 ea c hm hl (PySem.W.callWith_K0 (first := [.ref a]) I1.kIn hm.kp (runW (us := [.ref a]) (vs := [.ref a]) F hgu hr hb hd (hx σ) I1 (.cons rfl .nil) q))
def tMakeW (W : WX) (C : Addr) (sp : Sp) (dvs : List V) (t : TA) : TE := λ σ H Q => t σ H λ vs H1 => ∀ x dx, H1 x = none -> H1 dx = none -> dx ≠ x ->
 sp (.ref x :: (vs ++ dvs)) (upd (upd H1 dx (.own x)) x (.ins C dx [])) (λ v H2 => v = .non /\ Q (.ref x) H2) (WE W σ)
theorem runMk {pins : List (Addr × Obj)} {σ : L2.St} {H : Hp} {s : Shared} {Q : VK} {E : XK} {us : List Value} {vs : List V} (M : Mk X.K C f) (F : FnX g X.prog X.w X.K X.mg X.base CX k f fd ps sp) (hgu : g = true -> ((X.A.under (.builtin "type.__call__" ⟨.ref C :: us, []⟩)).guards = some []))
   (hr : Room (k + 1) X.A) (hb : Binds X.K fd ps ds) (hd : Vals dvs ds) (hx : PassesAt CX X σ E) (I : Inv X pins σ H s) (r : Vals vs us)
   (h : ∀ x dx, H x = none -> H dx = none -> dx ≠ x -> sp (.ref x :: (vs ++ dvs)) (upd (upd H dx (.own x)) x (.ins C dx [])) (λ v H2 => v = .non /\ Q (.ref x) H2) E) :
   wpAny (model X.prog X.w) X.A (call (.ref C) us) (EP X pins σ Q) X.xe s := by
 have hq := h (s.heap.objs.size + 1) s.heap.objs.size (I.hok.fresh (Nat.le_succ _)) (I.hok.fresh (Nat.le_refl _)) (Nat.ne_of_lt (Nat.lt_succ_self _))
 have I2 := Inv.made (C := C) I
 have r2 : Vals (V.ref (s.heap.objs.size + 1) :: (vs ++ dvs)) (Value.ref (s.heap.objs.size + 1) :: (us ++ ds)) := .cons rfl (r.append hd)
 have hl : (Value.ref (s.heap.objs.size + 1) :: us ++ ds).length = ps.length := r2.length.symm.trans (F.lenG _ _ _ _ hq)
 have go := F.runG (X.A.under (.builtin "type.__call__" ⟨.ref C :: us, []⟩)) X.stack _ _ ⟨Value.ref (s.heap.objs.size + 1) :: us, []⟩ _ (Value.ref (s.heap.objs.size + 1) :: (us ++ ds)) _ _ E hgu (hr.make C us []) (I2.env0.make C us [])
   (hb _ (Value.ref (s.heap.objs.size + 1) :: us) I2.kIn hl) (.refl _) r2 hq
 refine wpAny_call (make_map (f := f) I.kIn M.makes M.init (beq_iff_eq.mp M.fn) (codeAny_mono go λ res s' hq' => ?_))
 match res, hq' with
 | .error u, hq' => exact hx pins _ _ u s' I2 hq'
 | .ok (.ret u), hq' =>
   obtain ⟨v, H', I3, rv, ev, q3⟩ := I2.after hq'
   subst ev
   exact ⟨rv, ⟨V.ref (s.heap.objs.size + 1), H', I3, rfl, q3⟩⟩
 | .ok .next, hq' => cases hq'
 | .ok .brk, hq' => cases hq'
 | .ok .cont, hq' => cases hq'
theorem pe_makeW0 (M : Mk X.K C f) (F : FnX false X.prog X.w X.K X.mg X.base CX k f fd ps sp) (hr : Room (k + 1) X.A) (hg : Gl X x) (hm : X.mg x = some (.ref C)) (hb : Binds X.K fd ps ds) (hd : Vals dvs ds) (hx : ∀ σ, PassesAt CX X σ (WE W σ))
   (hdb : (x == ("__debug__" : Str)) = false := by decide) : PE X (.Call (.Name x p) [] [] pos) (tMakeW W C sp dvs tNil) := by
 constructor
 intro pins s σ H Q I h
 refine wpAny_Call_Name_kw (ld_glob I hg hm ?_ hdb)
 exact PySem.W.callWith_K0 I.kIn M.kp (runMk (us := []) M F (λ z => nomatch z) hr hb hd (hx σ) I .nil h)
end
end RC

namespace RC
open PySem PySem.Spec PyProof.Rows L2
structure XcB (K : Fr) (C : Addr) (B newId initId : String) (bmB : List Value) : Prop where
 fb : ExcBaseFacts B newId initId bmB
 sf : StoreFacts B bmB "object.__setattr__" "object"
 ini : PySem.W.excInitIn K C bmB newId = true
 ovr : PySem.W.excOver K C bmB = true
 hd : PySem.W.hasDictIn K C = true
 sa : PySem.W.findIn K (.ref C) "__setattr__" = some (some (.builtin "object.__setattr__"))
 exC : PySem.W.subIn K (.ref C) (.type "BaseException") = some true
 tyC : PySem.W.typeIn K (.ref C) = some (.type "type")
 kC : PySem.W.keepIn K (.ref C) = true
theorem upd_self {H : Hp} {a : Addr} {o : HO} (e : H a = some o) : upd H a o = H := by
 funext b
 by_cases hb : b = a
 · rw [hb, upd_same, e]
 · rw [upd_ne hb]
section
variable {X : Cx} {pins : List (Addr × Obj)} {σ : L2.St} {H : Hp} {s : Shared} {a C : Addr} {f : Str} {y : V} {u : Value} {A : Around} {E : Value -> Shared -> Prop} {B newId initId : String} {bmB : List Value}
theorem x_set {Q : Unit -> Shared -> Prop} (T : XcB X.K C B newId initId bmB) (I : Inv X pins σ H s) (e : H a = some (exo a C none)) (hno : PySem.W.findIn X.K (.ref C) f = some none) (ry : RelV y u)
   (h : ∀ dx s', H dx = none -> dx ≠ a -> Inv X pins σ (upd (upd H dx (exd dx [(f, y)])) a (exo a C (some dx))) s' -> Q () s') : wpAny (model X.prog X.w) A (setAttr (.ref a) f u) Q E s := by
 obtain ⟨t1, ho⟩ := exo_at I.hok e
 obtain ⟨hp, g, d, t, os⟩ := s
 have ho2 : hp.get? a = some (PySem.W.excObj C t1 none .none) := ho
 obtain ⟨cd, hc, hcd⟩ := PySem.W.any_some T.hd
 refine PySem.W.set_plain I.kIn (ox := PySem.W.excObj C t1 none .none) (od := none) ⟨ho2, rfl, rfl, trivial⟩ T.sa ?_
 refine PySem.W.osa_openX (od := none) T.sf I.kIn ⟨ho2, rfl, rfl, trivial⟩ T.ovr (NoAttr.taker hno) λ b => ?_
 refine wpAny_bind (wpAny_pure (wpAny_bind (PySem.W.instanceDict_exc ho2 (PySem.W.looks_clsIn I.kIn hc) hcd ?_)))
 have hxs : a ≠ hp.objs.size := Nat.ne_of_lt (Heap.lt_size ho)
 refine HandSPX.store_in_new ?_ ?_
 · exact ⟨_, #[], _, (Heap.get?_update_ne _ _ _ _ hxs.symm).trans (Heap.get?_push_at rfl rfl), rfl, λ e he => absurd he (by simp), λ _ => rfl⟩
 intro h' tk' hn hs
 have hx1 : (hp.push (PySem.W.dictOf [] 0)).get? a = some (PySem.W.excObj C t1 none .none) := Heap.get?_push_of_some _ ho2
 have kp : ∀ b o, b ≠ a -> hp.get? b = some o -> h'.get? b = some o := λ b o hb q =>
   (hs.2 b (Nat.ne_of_lt (Heap.lt_size q))).trans ((Heap.get?_update_ne _ _ _ _ hb).trans (Heap.get?_push_of_some _ q))
 have hx : h'.get? a = some ({ cls := .ref C, dict := some hp.objs.size, data := .fields #[.ref t1, .none, .none, .none, .bool false, .none] } : Obj) := (hs.2 a hxs).trans (Heap.get?_update_self _ hx1 rfl)
 have hnd : H hp.objs.size = none := I.hok.fresh (Nat.le_refl _)
 have nd : ∀ {b : Addr} {o : Obj}, hp.get? b = some o -> b ≠ hp.objs.size := λ q => Nat.ne_of_lt (Heap.lt_size q)
 have na : ∀ {b : Addr}, H b = none -> b ≠ a := λ n z => by
   rw [z, e] at n
   cases n
 have un : Un X.fs [] H (upd (upd H hp.objs.size (exd hp.objs.size [(f, y)])) a (exo a C (some hp.objs.size))) hp h' := by
   constructor
   · exact λ b o q n _ _ => kp b o (na n) q
   · exact λ b o q n _ _ => ⟨o.slots, kp b o (na n) q⟩
   · intro b o q n _
     rw [upd_ne (na n), upd_ne (nd q)]
     exact n
   · intro b o q _
     by_cases hb : b = a
     · subst hb
       exact ⟨_, hx⟩
     · exact ⟨o, kp b o hb q⟩
   · intro b xs q
     rw [upd_ne (at_ne e q exo_tup), upd_ne (ne_of_none q hnd)]
     exact q
   · intro b o v q
     rw [upd_ne (at_ne e q exo_frz), upd_ne (ne_of_none q hnd)]
     exact q
   · intro b ps q
     refine ⟨#[], ?_⟩
     rw [upd_ne (at_ne e q exo_tbl), upd_ne (ne_of_none q hnd), q]
     simp
 refine h hp.objs.size _ hnd hxs.symm (I.un (t' := tk') un λ b o q => ?_)
 by_cases hb : b = a
 · subst hb
   rw [upd_same] at q
   cases q
   exact exo_ok hx
 rw [upd_ne hb] at q
 by_cases hd : b = hp.objs.size
 · subst hd
   rw [upd_same] at q
   cases q
   exact exd_ok hn (relO_put (fs := []) ry λ g => True.intro)
 rw [upd_ne hd] at q
 refine (I.hok b o q).stay (λ c v hc z => kp c v ?_ z) (λ c hc => ?_) (λ c xs hc => ?_)
 · rcases hc with hc | hc
   · subst hc
     exact hb
   · exact at_ne e hc exo_own
 · rw [upd_ne (at_ne e hc exo_own), upd_ne (ne_of_none hc hnd)]
   exact hc
 · rw [upd_ne (at_ne e hc exo_tup), upd_ne (ne_of_none hc hnd)]
   exact hc
theorem x_init {us : List Value} {Q : Value -> Shared -> Prop} (T : XcB X.K C B newId initId bmB) (I : Inv X pins σ H s) (e : H a = some (exo a C none)) (hl : us.length <= sizeLine) (h : ∀ s', Inv X pins σ H s' -> Q .none s') :
   wpAny (model X.prog X.w) A (call (.builtin initId) (.ref a :: us)) Q E s := by
 obtain ⟨nm, N, qn, bs, bm, hdct, sn, sub, ab, col, dd, k0, k1, k2, k3, k5, hC, hT⟩ := PySem.W.excInit_of I.kIn T.ini
 obtain ⟨t1, ho⟩ := exo_at I.hok e
 obtain ⟨hp, g, d, t, os⟩ := s
 refine wpAny_call (HandSPX.init_base T.fb hT hC ho hl λ h' t2 k hx => ?_)
 have J := I.write (t' := t) (x := a) (e := a) (o := exo a C none) (by rw [e]; exact True.intro) (.inl rfl) k ⟨_, hx⟩ (exo_ok hx)
 rw [upd_self e] at J
 exact h _ J
end
structure XcI (K : Fr) (D : Addr) (initId : String) : Prop where
 ga : PySem.W.specialIn K (.ref D) "__getattribute__" = some (some (.builtin "type.__getattribute__"))
 ty : PySem.W.typeIn K (.ref D) = some (.type "type")
 rd : PySem.W.readsIn K D (.type "type") = true
 fi : PySem.W.findCls K (.ref D) (.type "type") "__init__" = some (.val (.builtin initId))
def tXi (K : Fr) (initId : String) (ta : TA) : TE := λ σ H Q => ta σ H λ vs H1 => ∃ (a C : Addr) (ws : List V) (B newId : String) (bmB : List Value), vs = .ref a :: ws /\ ws.length <= 1000 /\ XcB K C B newId initId bmB /\ H1 a = some (exo a C none) /\ Q .non H1
def tXs (K : Fr) (f : Str) (to te : TE) : TS := λ D σ H => te σ H λ y H1 => to σ H1 λ x H2 => ∃ (a C : Addr) (B newId initId : String) (bmB : List Value), x = .ref a /\ XcB K C B newId initId bmB /\ PySem.W.findIn K (.ref C) f = some none /\
 H2 a = some (exo a C none) /\ ∀ dx, H2 dx = none -> dx ≠ a -> D.nx σ (upd (upd H2 dx (exd dx [(f, y)])) a (exo a C (some dx)))
def tXm (C : Addr) (sp : Sp) (ta : TA) : L2.St -> Hp -> XK -> Prop := λ σ H Q => ta σ H λ vs H1 => vs.length <= 1000 /\ ∀ a, H1 a = none -> sp (.ref a :: vs) (upd H1 a (exo a C none))
 (λ v H2 => v = .non /\ ∃ (d : Addr) (fs : List (Str × V)), H2 a = some (exo a C (some d)) /\ H2 d = some (exd d fs) /\ H1 d = none /\ Q (.ref C) (some d) (upd (del H2 a) d (.xd fs))) (λ _ _ _ => False)
section
variable {X : Cx} {o e : Expr} {es : List Expr} {to te : TE} {ta : TA} {f P : Str} {p p' p1 p2 pos : Pos} {C D : Addr} {initId : String}
theorem pe_xi {pl : Sem Bool} (hg : Gl X P) (hm : X.mg P = some (.ref D)) (T : XcI X.K D initId) (ha : PA X (e :: es) ta)
   (hc : eval (.Call (.Attribute (.Name P p1) "__init__" p2) (e :: es) [] pos) X.env = (do
     let ov <- eval (.Name P p1) X.env
     standAt p2.atName
     let (f, first) <- holding [ov] (getMethod ov "__init__" pl)
     callWith pos f first (backTo pos (starEach (e :: es) X.env)) (backToKw pos (keywordEach [] X.env))) := by rfl)
   (hh : PySem.W.handedIn (.builtin initId) = true := by decide +kernel) (hdb : (P == ("__debug__" : Str)) = false := by decide)
   (he : starEach (e :: es) X.env = (false, eval e X.env) :: starEach es X.env := by rfl) (hpl : (backTo pos (starEach es X.env)).any (·.1) = false := by rfl) :
   PE X (.Call (.Attribute (.Name P p1) "__init__" p2) (e :: es) [] pos) (tXi X.K initId ta) := by
 constructor
 intro pins s σ H Q I h
 refine PySem.W.methodCall_KW (ld_glob I hg hm ?_ hdb) hc
 obtain ⟨m, fr⟩ := I.fr
 refine PySem.W.method_of_cls fr I.ok.mod.kin T.ga (PySem.W.cls_val fr I.ok.mod.kin T.ty T.rd T.fi hh ?_)
 show wpAny _ _ (callWith pos (Value.builtin initId) [] (backTo pos (starEach (e :: es) X.env)) []) _ _ _
 refine PyProof.Rows.callWith_method1 (thn (ha.run pos pins _ σ H _ (I.tok _) h) ?_) he hpl
 rintro us s1 ⟨vs, H1, I1, r1, a, C, ws, B, newId, bmB, rfl, hl, T, ea, q⟩
 cases r1 with
 | @cons _ u0 _ ur ra rw' =>
   cases (show u0 = Value.ref a from ra)
   have hlen : ur.length <= sizeLine := by
     rw [<- Paired.length rw', sizeLine_eq]
     omega
   exact x_init T I1 ea hlen λ s' J => ⟨.non, H1, J, rfl, q⟩
theorem ps_xs (ho : PE X o to) (he : PE X e te) (hs : swapsWith e (some (.Attribute o f p')) pos.line X.env = pure false := by rfl) : PS X (.Assign [.Attribute o f p'] e pos) (tXs X.K f to te) := by
 constructor
 intro pins s σ H D I h
 refine plainObj_wpAny_Assign_Attribute (thn (he.run pins s σ H _ I h) ?_) hs
 rintro v s1 ⟨y, H1, I1, r1, q1⟩
 refine thn (ho.run pins s1 σ H1 _ I1 q1) ?_
 rintro u s2 ⟨x, H2, I2, r2, a, C, B, newId, initId, bmB, rfl, T, hno, ea, q⟩
 cases (show u = Value.ref a from r2)
 exact x_set T I2 ea hno r1 λ dx s' n ne J => ⟨σ, _, J, q dx n ne⟩
theorem pmk_x {CX : CXT} {x : Str} {C fI : Addr} {k : Nat} {fd : FuncData} {ps : List Str} {sp : Sp} {B newId : String} {bmB : List Value} (T : XcB X.K C B newId initId bmB) (iC : PySem.W.findIn X.K (.ref C) "__init__" = some (some (.ref fI))) (tI : PySem.W.typeIn X.K (.ref fI) = some (.type "function"))
   (F : FnX false X.prog X.w X.K X.mg X.base CX k fI fd ps sp) (hr : Room (k + 1) X.A) (hb : Binds X.K fd ps []) (hx : Passes CX X (λ _ _ _ => False)) (hg : Gl X x) (hm : X.mg x = some (.ref C)) (ha : PA X (e :: es) ta)
   (hdb : (x == ("__debug__" : Str)) = false := by decide) (he : starEach (e :: es) X.env = (false, eval e X.env) :: starEach es X.env := by rfl) (hpl : (backTo pos (starEach es X.env)).any (·.1) = false := by rfl) :
   PMk X (.Call (.Name x p) (e :: es) [] pos) (tXm C sp ta) := by
 intro pins s σ H Q I h
 refine wpAny_Call_Name_kw (ld_glob I hg hm ?_ hdb)
 refine PySem.W.callWith_K (h₀ := X.base) I.ok.mod.kin T.kC (thn (ha.run pos pins s σ H _ I h) ?_) he hpl
 rintro us s1 ⟨vs, H1, I1, r1, hz, q1⟩
 refine ⟨I1.kIn, ?_⟩
 show wpAny _ _ (call (.ref C) us) _ _ _
 obtain ⟨nm, N, qn, bs, bm, hdct, sn, sub, ab, col, dd, k0, k1, k2, k3, k5, hC, hT⟩ := PySem.W.excInit_of I1.kIn T.ini
 obtain ⟨hp, g, dr, tk, os⟩ := s1
 have hsz : hp.objs.size <= hp.objs.size + 1 := Nat.le_succ _
 have hq := q1 (hp.objs.size + 1) (I1.hok.fresh hsz)
 have kk : ∀ b o, hp.get? b = some o -> ((hp.push (PySem.W.kdv_tup us)).push (HandSPX.excO C hp.objs.size)).get? b = some o := λ b o z => Heap.get?_push_of_some _ (Heap.get?_push_of_some _ z)
 have hget : ((hp.push (PySem.W.kdv_tup us)).push (HandSPX.excO C hp.objs.size)).get? (hp.objs.size + 1) = some (HandSPX.excO C hp.objs.size) := by heap_get
 have I2 := I1.laid (t' := tk) (a := hp.objs.size + 1) (o := exo (hp.objs.size + 1) C none) (h' := (hp.push (PySem.W.kdv_tup us)).push (HandSPX.excO C hp.objs.size)) kk hsz (exo_ok hget)
 have r2 : Vals (V.ref (hp.objs.size + 1) :: vs) (Value.ref (hp.objs.size + 1) :: us) := .cons rfl r1
 have hl : (Value.ref (hp.objs.size + 1) :: us ++ []).length = ps.length := by
   rw [List.append_nil]
   exact r2.length.symm.trans (F.lenG _ _ _ _ hq)
 have hus : us.length <= sizeLine := by
   rw [<- Paired.length r1, sizeLine_eq]
   omega
 have hb2 := hb ⟨(hp.push (PySem.W.kdv_tup us)).push (HandSPX.excO C hp.objs.size), g, dr, tk, os⟩ (Value.ref (hp.objs.size + 1) :: us) I2.kIn hl
 rw [List.append_nil] at hb2
 have go := F.runG (X.A.under (.builtin "type.__call__" ⟨.ref C :: us, []⟩)) X.stack _ _ ⟨Value.ref (hp.objs.size + 1) :: us, []⟩ _ (Value.ref (hp.objs.size + 1) :: us) _ _ (λ _ _ _ => False) (λ z => nomatch z) (hr.make C us []) (I2.env0.make C us []) hb2 (.refl _) r2 hq
 refine wpAny_call (HandSPX.call_own T.fb hT hC (PySem.W.looks_findIn I1.kIn iC) (λ self => PySem.W.bind_fn I1.kIn self tI) hus (codeAny_mono go λ r s' hq' => ?_))
 match r, hq' with
 | .error er, hq' => exact hx pins σ _ _ er s' I2 hq'
 | .ok (.ret u), hq' =>
   obtain ⟨v, H2, os2, bare2, un2, hok2, rv, rfl, d, fs, ea, ed, hd1, q2⟩ := hq'
   obtain ⟨h2, g2, d2, t2, os'⟩ := s'
   exact ⟨rv, mk_end (raises_own T.exC T.tyC) I1 hsz kk un2 hok2 os2 bare2 ea ed hd1 q2⟩
 | .ok .next, hq' => cases hq'
 | .ok .brk, hq' => cases hq'
 | .ok .cont, hq' => cases hq'
end
end RC

namespace RC
open PySem PySem.Spec PyProof.Rows L2
def spX (C : Addr) (f : Str) : Sp := λ vs H Q _ => ∃ (a : Addr) (v : V), vs = [.ref a, v] /\ H a = some (exo a C none) /\ ∀ dx, H dx = none -> dx ≠ a -> Q .non (upd (upd H dx (exd dx [(f, v)])) a (exo a C (some dx)))
theorem lenX {C : Addr} {f : Str} (vs : List V) (H : Hp) (Q : VK) (E : XK) (h : spX C f vs H Q E) : vs.length = 2 := by
 obtain ⟨a, v, rfl, _⟩ := h
 rfl
def tXz (C : Addr) (f : Str) (te : TE) : L2.St -> Hp -> XK -> Prop := λ σ H Q => te σ H λ v H1 => ∀ d, H1 d = none -> Q (.ref C) (some d) (upd H1 d (.xd [(f, v)]))
theorem PE.wk {X : Cx} {e : Expr} {te : TE} (h : PE X e te) : PE X e (λ σ H Q => ∃ R : VK, te σ H R /\ ∀ v H1, R v H1 -> Q v H1) :=
 ⟨λ pins s σ H _ I ⟨R, h1, h2⟩ => thn (h.run pins s σ H R I h1) λ _ _ ⟨v, H1, I1, r, q⟩ => ⟨v, H1, I1, r, h2 v H1 q⟩⟩
theorem pmk_xz {X : Cx} {CX : CXT} {x f : Str} {C fI : Addr} {k : Nat} {fd : FuncData} {ps : List Str} {B newId initId : String} {bmB : List Value} {e : Expr} {te : TE} {p pos : Pos} (T : XcB X.K C B newId initId bmB) (iC : PySem.W.findIn X.K (.ref C) "__init__" = some (some (.ref fI)))
   (tI : PySem.W.typeIn X.K (.ref fI) = some (.type "function")) (F : FnX false X.prog X.w X.K X.mg X.base CX k fI fd ps (spX C f)) (hr : Room (k + 1) X.A) (hb : Binds X.K fd ps []) (hx : Passes CX X (λ _ _ _ => False)) (hg : Gl X x) (hm : X.mg x = some (.ref C)) (ha : PE X e te)
   (hdb : (x == ("__debug__" : Str)) = false := by decide) (he : starEach [e] X.env = (false, eval e X.env) :: starEach [] X.env := by rfl) :
   PMk X (.Call (.Name x p) [e] [] pos) (tXz C f te) := by
 have key : ∀ (Q : XK) (v : V) (H1 : Hp), (∀ d, H1 d = none -> Q (.ref C) (some d) (upd H1 d (.xd [(f, v)]))) -> [v].length <= 1000 /\ ∀ a, H1 a = none -> spX C f (.ref a :: [v]) (upd H1 a (exo a C none))
     (λ v H2 => v = .non /\ ∃ (d : Addr) (fs : List (Str × V)), H2 a = some (exo a C (some d)) /\ H2 d = some (exd d fs) /\ H1 d = none /\ Q (.ref C) (some d) (upd (del H2 a) d (.xd fs))) (λ _ _ _ => False) := by
   intro Q v H1 q
   refine ⟨by simp, λ a na => ⟨a, v, rfl, upd_same, λ dx hdx hne => ⟨rfl, dx, [(f, v)], upd_same, ?_, ?_, ?_⟩⟩⟩
   · rw [upd_ne hne, upd_same]
   · rw [upd_ne hne] at hdx
     exact hdx
   · have e1 : upd (del (upd (upd (upd H1 a (exo a C none)) dx (exd dx [(f, v)])) a (exo a C (some dx))) a) dx (.xd [(f, v)]) = upd H1 dx (.xd [(f, v)]) := by
       funext b
       by_cases hb : b = dx
       · subst hb
         rw [upd_same, upd_same]
       · rw [upd_ne hb, upd_ne hb]
         by_cases hba : b = a
         · subst hba
           rw [del_same, na]
         · rw [del_ne hba, upd_ne hba, upd_ne hb, upd_ne hba]
     rw [e1]
     rw [upd_ne hne] at hdx
     exact q dx hdx
 intro pins s σ H Q I h
 have hp := pa_cons (PE.wk ha) (pa_nil (X := X)) he
 exact pmk_x (p := p) (pos := pos) T iC tI F hr hb hx hg hm hp hdb he rfl pins s σ H Q I ⟨_, h, λ v H1 q => key Q v H1 q⟩
def tRz (W : WX) (C : Addr) (f : Str) (te : TE) : TS := λ _ σ H => te σ H λ v H1 => ∀ d, H1 d = none -> W (.ref C) (some d) σ (upd H1 d (.xd [(f, v)]))
theorem ps_rz {X : Cx} {W : WX} {CX : CXT} {x f : Str} {C fI : Addr} {k : Nat} {fd : FuncData} {ps : List Str} {B newId initId : String} {bmB : List Value} {e : Expr} {te : TE} {p pos pos' : Pos} (hc : X.calm = true) (tk : Takes X W) (T : XcB X.K C B newId initId bmB)
   (iC : PySem.W.findIn X.K (.ref C) "__init__" = some (some (.ref fI))) (tI : PySem.W.typeIn X.K (.ref fI) = some (.type "function")) (F : FnX false X.prog X.w X.K X.mg X.base CX k fI fd ps (spX C f)) (hr : Room (k + 1) X.A) (hb : Binds X.K fd ps []) (hx : Passes CX X (λ _ _ _ => False))
   (hg : Gl X x) (hm : X.mg x = some (.ref C)) (ha : PE X e te) (hdb : (x == ("__debug__" : Str)) = false := by decide) (he : starEach [e] X.env = (false, eval e X.env) :: starEach [] X.env := by rfl) :
   PS X (.Raise (some (.Call (.Name x p) [e] [] pos)) none pos') (tRz W C f te) := ps_raise hc tk (pmk_xz T iC tI F hr hb hx hg hm ha hdb he)
theorem pureX {K : Fr} {C : Addr} {f msg : Str} {B newId initId : String} {bmB : List Value} {N : List Str} (hN : start N [] = [none, none]) (T : XcB K C B newId initId bmB) (hno : PySem.W.findIn K (.ref C) f = some none) (vs : List V) (H : Hp) (Q : VK) (E : XK) (h : spX C f vs H Q E) :
   tSeq (tDrop (tXi K initId (tCons (tVar 0) (tCons (tC (.str msg)) tNil)))) (tXs K f (tVar 0) (tVar 1)) { nx := λ _ H' => Q .non H', rt := Q } (start N vs) H := by
 obtain ⟨a, v, rfl, ha, q⟩ := h
 have e : start N [V.ref a, v] = [some (V.ref a), some v] := by
   have l : N.length = 2 := by
     have := congrArg List.length hN
     simpa [L2.start] using this
   simp [L2.start, l]
 rw [e]
 exact ⟨_, rfl, a, C, [.str msg], B, newId, bmB, rfl, by simp, T, ha, v, rfl, _, rfl, a, C, B, newId, initId, bmB, rfl, T, hno, ha, q⟩

def TestOk (X : Cx) (t : Expr) (cs : List Value) : Prop := ∀ (a : Addr) (oe : Obj) (pn pins : List (Addr × Obj)) (σ : L2.St) (H : Hp) (s : Shared) (cls : Value) (b : Bool) (Q : Bool -> Shared -> Prop) (E : Value -> Shared -> Prop),
 Inv (X.suite a ((a, oe) :: pn)) pins σ H s -> PySem.W.Looks (model X.prog X.w) s.heap (typeOf (.ref a)) cls -> PySem.W.exmAny X.K cls cs = some b ->
   (∀ h', (∀ q o, s.heap.get? q = some o -> h'.get? q = some o) -> Q b { s with heap := h' }) ->
     wpAny (model X.prog X.w) (X.A.mark (some (.ref a))) (eval t X.env) (λ c s1 => wpAny (model X.prog X.w) (X.A.mark (some (.ref a))) (excMatches (.ref a) c) Q E s1) E s
section
variable {X : Cx} {x1 x2 x3 : Str} {c1 c2 c3 : Value} {p1 p2 p3 tp : Pos} {kk : Nat}
theorem nameAt {a : Addr} {oe : Obj} {pn pins : List (Addr × Obj)} {σ : L2.St} {H : Hp} {s : Shared} {Q : Value -> Shared -> Prop} {E : Value -> Shared -> Prop} (hc : Names X x1 c1) (I : Inv (X.suite a ((a, oe) :: pn)) pins σ H s) (q : Q c1 s) :
   wpAny (model X.prog X.w) (X.A.mark (some (.ref a))) (eval (.Name x1 p1) X.env) Q E s := by
 obtain ⟨hg, hdbg, hm | ⟨hm, hv, hnn⟩⟩ := hc
 · exact ld_glob (X := X.suite a ((a, oe) :: pn)) I hg hm q hdbg
 · exact ld_blt (X := X.suite a ((a, oe) :: pn)) I hg hm hv q hnn hdbg
theorem test2 (h1 : Names X x1 c1) (h2 : Names X x2 c2) : TestOk X (.Tuple [.Name x1 p1, .Name x2 p2] kk tp) [c1, c2] := by
 intro a oe pn pins σ H s cls b Q E I LT he q
 refine wpAny_Tuple (wpAny_items_cons (nameAt h1 I ?_))
 refine wpAny_items_cons (nameAt h2 I (wpAny_items_nil ⟨by size_fits, ?_⟩))
 have kp : ∀ q o, s.heap.get? q = some o -> (s.heap.push { cls := .type "tuple", data := .seq [c1, c2].toArray }).get? q = some o := λ _ _ z => Heap.get?_push_of_some _ z
 exact (PySem.W.exm_tup2 (I.kIn.keeps kp) (LT.keeps kp) (Heap.get?_push_size s.heap rfl) he).here (q _ kp)
end
structure Hd where
 cs : List Value
 sl : Option Nat
 ts : Addr -> Value -> Option Addr -> TS
def Hd.put (σ : L2.St) (a : Addr) : Option Nat -> L2.St
 | none => σ
 | some i => σ.set i (some (.ref a))
def Hd.ends (D : Ends) : Option Nat -> Ends
 | none => D
 | some i => { nx := λ σ' H' => D.nx (σ'.set i none) H', rt := D.rt, bk := λ σ' H' => D.bk (σ'.set i none) H', ct := λ σ' H' => D.ct (σ'.set i none) H' }
def wTry (K : Fr) (W : WX) (D : Ends) : List Hd -> WX
 | [] => W
 | h :: r => λ cls d σ H => ∃ b, PySem.W.exmAny K cls h.cs = some b /\ (b = true -> ∀ a, H a = none -> h.ts a cls d (Hd.ends D h.sl) (Hd.put σ a h.sl) H) /\ (b = false -> wTry K W D r cls d σ H)
inductive HdOk (X : Cx) : List ExceptHandler -> List Hd -> Prop
 | nil : HdOk X [] []
 | plain {t : Expr} {cs : List Value} {ts : Addr -> Value -> Option Addr -> TS} {b₀ : Stmt} {suite : List Stmt} {pos : Pos} {hds : List ExceptHandler} {l : List Hd} (ht : TestOk X t cs)
     (hsu : ∀ (a : Addr) (oe : Obj) (cls : Value) (d : Option Addr) (pn : List (Addr × Obj)), Zc cls d oe -> (∃ vs, oe.data = .fields vs) -> PSs (X.suite a ((a, oe) :: pn)) (b₀ :: suite) (ts a cls d)) (r : HdOk X hds l) :
     HdOk X (.ExceptHandler (some t) none (b₀ :: suite) pos :: hds) (⟨cs, none, ts⟩ :: l)
 | named {t : Expr} {cs : List Value} {n : Str} {i : Nat} {ts : Addr -> Value -> Option Addr -> TS} {b₀ : Stmt} {suite : List Stmt} {pos : Pos} {hds : List ExceptHandler} {l : List Hd} (ht : TestOk X t cs) (hi : X.N[i]? = some n) (hln : X.env.kindOf n = some .local)
     (hsu : ∀ (a : Addr) (oe : Obj) (cls : Value) (d : Option Addr) (pn : List (Addr × Obj)), Zc cls d oe -> (∃ vs, oe.data = .fields vs) -> PSs (X.suite a ((a, oe) :: pn)) (b₀ :: suite) (ts a cls d)) (r : HdOk X hds l) :
     HdOk X (.ExceptHandler (some t) (some n) (b₀ :: suite) pos :: hds) (⟨cs, some i, ts⟩ :: l)
theorem flying_kept {B : Heap} {l : List Env} {a : Addr} {Z : Obj -> Prop} {h h' : Heap} (fl : HandSPX.FlyingZ B l a Z h) (k : ∀ b o, h.get? b = some o -> h'.get? b = some o) : HandSPX.FlyingZ B l a Z h' := by
 obtain ⟨f1, f2, f3, oe, vs, T, oT, ts, he, hz, hd, h1, hn, hne, hT, hdT, h3⟩ := fl
 exact ⟨λ b o q => k b o (f1 b o q), f2, f3.of_keeps λ b o q _ => ⟨o, k b o q, rfl⟩, oe, vs, T, oT, ts, k _ _ he, hz, hd, h1, hn, hne, k _ _ hT, hdT, h3⟩
section
variable {X : Cx} {body : List Stmt} {h₀ : ExceptHandler} {hds : List ExceptHandler} {l : List Hd} {pos : Pos} {tb : WX -> TS} {W : WX}
theorem ps_tryG (hs : X.stack = X.env :: X.outer) (hf : X.env.frame = some X.env.locals) (hN : X.N.Nodup) (tk : Takes X W)
   (hb : ∀ (W' : WX) (pn : List (Addr × Obj)) (xe : Value -> Shared -> Prop), Takes (X.tr pn xe) W' -> PassesOwn (model X.prog X.w) X.A X.env xe -> PSs (X.tr pn xe) body (tb W'))
   (hh : HdOk X (h₀ :: hds) l) : PS X (.Try body (h₀ :: hds) [] [] pos) (λ D σ H => tb (wTry X.K W D l) D σ H) := by
 constructor
 intro pins s σ H D I h
 have ok := I.ok
 have hfr : X.A.frames = some (X.env :: X.outer) := ok.frames.trans (by rw [hs])
 refine wpAny_Try_except ?_
 let xe : Value -> Shared -> Prop := λ e s₁ => wpAny (model X.prog X.w) X.A (noteFrame e X.env) (λ _ s₂ => wpAny (model X.prog X.w) X.A (setFlight e none)
   (λ _ s₃ => wpAny (model X.prog X.w) X.A (handleBy e X.env (h₀ :: hds)) (SP X pins D) X.xe s₃) X.xe s₂) X.xe s₁
 have tkb : Takes (X.tr (X.pn ++ pins) xe) (wTry X.K W D l) := by
   rintro u s' ⟨a, B, sI, pins', σ', H', cls, d, rfl, J', nb, up, sky, na, os, ag, w⟩
   have J : Inv X pins σ' H' sI := J'.ofTry ok
   have sky' : Sky B (X.env :: X.outer) a (Zc cls d) X.env.locals s'.heap := hs ▸ sky
   show wpAny (model X.prog X.w) X.A (noteFrame (.ref a) X.env) _ _ _
   refine Sky.land Zc.steady hfr hf sky' λ h3 fl3 up3 => ?_
   have main : ∀ {hds' : List ExceptHandler} {l' : List Hd}, HdOk X hds' l' -> wTry X.K W D l' cls d σ' H' -> ∀ h3, HandSPX.FlyingZ B (X.env :: X.outer) a (Zc cls d) h3 -> sI.heap.UpToSlots h3 ->
       wpAny (model X.prog X.w) X.A (handleBy (.ref a) X.env hds') (SP X pins D) X.xe { s' with heap := h3 } := by
     intro hds' l' hk
     have place : ∀ {h3 : Heap}, HandSPX.FlyingZ B (X.env :: X.outer) a (Zc cls d) h3 -> sI.heap.UpToSlots h3 ->
         ∃ oe, Zc cls d oe /\ (∃ vs, oe.data = .fields vs) /\ Inv (X.suite a ((a, oe) :: (X.pn ++ pins))) [] σ' H' { s' with heap := h3 } /\ PySem.W.Looks (model X.prog X.w) h3 (typeOf (.ref a)) cls := by
       intro h3 fl up
       have J3 : Inv X pins σ' H' { s' with heap := h3 } := J.landed nb fl.1 up os ag
       obtain ⟨oe, vs, he, hz, hd⟩ := fl.there
       have nfr : a ∉ frs (X.env :: X.outer) := λ hm => by
         obtain ⟨_, o', e', hnf⟩ := fl.2.2.1.mem hm
         rw [he] at e'
         cases e'
         exact hnf _ hd
       have nL : a ≠ X.env.locals := λ z => nfr (List.mem_filterMap.mpr ⟨X.env, List.mem_cons_self, by rw [hf, z]⟩)
       have nF : a ∉ X.fs := λ hm => by
         obtain ⟨e, he, q⟩ := List.mem_filterMap.mp hm
         exact nfr (List.mem_filterMap.mpr ⟨e, List.mem_cons_of_mem _ he, q⟩)
       exact ⟨oe, hz, ⟨vs, hd⟩, J3.suite he hd na nL nF, λ A Q E s k q => wpAny_typeOf_ref (k _ _ he) (by rw [hz.1]; exact q)⟩
     induction hk with
     | nil =>
       intro w h3 fl3 up3
       refine wpAny_handleBy_nil ?_
       obtain ⟨k1, k2, k3, oe, vs, T, oT, ts', he, hz, hd, h1, hr⟩ := id fl3
       unfold PySem.passOn
       refine wpAny_bind (wpAny_field he hd h1 ?_)
       rw [if_neg (show ¬ ((Value.ref T == Value.none) = true) from by simp)]
       have fin : wpAny (model X.prog X.w) X.A (setFlight (.ref a) X.env.frame) (λ _ s4 => wpAny (model X.prog X.w) X.A (throw (.ref a) : Sem Flow) (SP X pins D) X.xe s4) X.xe { s' with heap := h3 } := by
         rw [hf]
         refine HandSPX.setFlight_upZ fl3 λ h4 hh4 up4 => wpAny_throw (tk _ _ ⟨a, B, sI, pins, σ', H', cls, d, rfl, J, nb, up3.trans up4, .inr (.inr ?_), na, os, ag, w⟩)
         rw [hs]
         exact hh4
       first
         | exact wpAny_bind (wpAny_pure (wpAny_bind fin))
         | exact wpAny_bind fin
     | @plain t cs ts b₀ suite pos hds2 l2 ht hsu r ih =>
       rintro ⟨b, hb1, hyes, hno⟩ h3 fl3 up3
       obtain ⟨oe3, _, _, S3, LT⟩ := place fl3 up3
       refine wpAny_handleBy_cons (codeAny_handlers_test (ht a oe3 _ [] σ' H' _ cls b _ _ S3 LT hb1 λ h4 k4 => ?_)) (by intro q; cases q)
       have fl4 := flying_kept fl3 k4
       have up4 := up3.trans (Heap.UpToSlots.of_keeps k4)
       cases b with
       | true =>
         refine codeAny_handlers_suite ?_
         refine HandSPX.lands_againZ fl4 λ h5 fl5 up5 => ?_
         obtain ⟨oe5, hz5, hd5, S5, _⟩ := place fl5 (up4.trans up5)
         refine wpAny_mono ((hsu a oe5 cls d (X.pn ++ pins) hz5 hd5).run [] _ _ H' _ S5 (hyes rfl a na)) (λ f s6 hsp => ?_) (λ _ _ z => False.elim z)
         match f, hsp with
         | .next, ⟨σ6, H6, S6, q6⟩ => exact ⟨_, _, S6.unsuite ok, q6⟩
         | .brk, ⟨σ6, H6, S6, q6⟩ => exact ⟨_, _, S6.unsuite ok, q6⟩
         | .cont, ⟨σ6, H6, S6, q6⟩ => exact ⟨_, _, S6.unsuite ok, q6⟩
         | .ret u, ⟨v6, σ6, H6, S6, r6, q6⟩ => exact ⟨_, _, _, S6.unsuite ok, r6, q6⟩
       | false => exact ih (hno rfl) h4 fl4 up4
     | @named t cs n i ts b₀ suite pos hds2 l2 ht hi hln hsu r ih =>
       rintro ⟨b, hb1, hyes, hno⟩ h3 fl3 up3
       obtain ⟨oe3, _, _, S3, LT⟩ := place fl3 up3
       refine wpAny_handleBy_cons (codeAny_handlers_test (ht a oe3 _ [] σ' H' _ cls b _ _ S3 LT hb1 λ h4 k4 => ?_)) (by intro q; cases q)
       have fl4 := flying_kept fl3 k4
       have up4 := up3.trans (Heap.UpToSlots.of_keeps k4)
       cases b with
       | true =>
         refine codeAny_handlers_suite_as ?_
         refine HandSPX.lands_againZ fl4 λ h5 fl5 up5 => ?_
         obtain ⟨oe5, hz5, hd5, S5, _⟩ := place fl5 (up4.trans up5)
         refine store_ok (X := X.suite a ((a, oe5) :: (X.pn ++ pins))) (v := .ref a) S5 hN hi (.inl hln) rfl (λ s7 S7 => ?_) (.inr hln)
         refine wpAny_mono ((hsu a oe5 cls d (X.pn ++ pins) hz5 hd5).run [] s7 _ H' _ S7 (hyes rfl a na)) (λ f s6 hsp => ?_) (λ _ _ z => False.elim z)
         have end_ : ∀ {σ6 : L2.St} {H6 : Hp} {Q : Shared -> Prop}, Inv (X.suite a ((a, oe5) :: (X.pn ++ pins))) [] σ6 H6 s6 -> (∀ s7, Inv X pins (σ6.set i none) H6 s7 -> Q s7) ->
             wpAny (model X.prog X.w) X.A (do bindName X.env n .none; unbindBehindTheSuite X.env n pos) (λ _ s7 => Q s7) X.xe s6 := λ S6 hq => gone_ok (S6.unsuite ok) hN hi hln hq
         match f, hsp with
         | .next, ⟨σ6, H6, S6, q6⟩ => exact end_ S6 λ s7 J7 => ⟨_, _, J7, q6⟩
         | .brk, ⟨σ6, H6, S6, q6⟩ => exact end_ S6 λ s7 J7 => ⟨_, _, J7, q6⟩
         | .cont, ⟨σ6, H6, S6, q6⟩ => exact end_ S6 λ s7 J7 => ⟨_, _, J7, q6⟩
         | .ret u, ⟨v6, σ6, H6, S6, r6, q6⟩ => exact end_ S6 λ s7 J7 => ⟨_, _, _, J7, r6, q6⟩
       | false => exact ih (hno rfl) h4 fl4 up4
   exact main hh w h3 fl3 (up.trans up3)
 refine wpAny_mono ((hb (wTry X.K W D l) (X.pn ++ pins) xe tkb PassesOwn.looking).run [] s σ H D (I.toTry _) h) (λ f s1 hsp => ?_) (λ e s1 he => he)
 match f, hsp with
 | .next, ⟨σ', H', J', q⟩ => exact wpAny_execs_nil ⟨σ', H', J'.ofTry ok, q⟩
 | .brk, ⟨σ', H', J', q⟩ => exact ⟨σ', H', J'.ofTry ok, q⟩
 | .cont, ⟨σ', H', J', q⟩ => exact ⟨σ', H', J'.ofTry ok, q⟩
 | .ret u, ⟨v, σ', H', J', r, q⟩ => exact ⟨v, σ', H', J'.ofTry ok, r, q⟩
end
end RC

namespace RC
open PySem PySem.Spec PyProof.Rows L2
def KnX (K : Fr) (cls : Value) (d : Option Addr) (H : Hp) : Prop := ∃ D, cls = .ref D /\ ExcC K D /\ (d = none \/ ∃ dd fs, d = some dd /\ H dd = some (.xd fs))
def rIsX (K : Fr) (a : Addr) (cls : Value) (d : Option Addr) : List V -> Hp -> VK -> Prop := λ xs H Q => ∃ (c : V) (cv : Value) (b : Bool), xs = [.ref a, c] /\ KnX K cls d H /\ ClsV c cv /\ PySem.W.kitOne K cls cv = some b /\ Q (.bl b) H
def rIsXT (K : Fr) (a : Addr) (cls : Value) (d : Option Addr) : List V -> Hp -> VK -> Prop := λ xs H Q => ∃ (tp : Addr) (cs : List V) (us : List Value) (b : Bool), xs = [.ref a, .ref tp] /\ KnX K cls d H /\ H tp = some (.tup cs) /\ Paired ClsV cs us /\ PySem.W.kitAny K cls us = some b /\ Q (.bl b) H
def uIsX (K : Fr) (a : Addr) (cls : Value) (d : Option Addr) : List V -> Hp -> VK -> Prop := λ xs H Q => rIsX K a cls d xs H Q \/ rIsXT K a cls d xs H Q
def tXg (K : Fr) (a : Addr) (cls : Value) (d : Option Addr) (n : Str) (te : TE) : TE := λ σ H Q => te σ H λ x H1 => x = .ref a /\ ∃ D dd fs v, cls = .ref D /\ ExcC K D /\ PySem.W.findIn K (.ref D) n = some none /\ d = some dd /\ H1 dd = some (.xd fs) /\ fs.lookup n = some v /\ Q v H1
section
variable {X : Cx} {a D : Addr} {oe : Obj} {cls : Value} {d : Option Addr}
theorem inst_at {pins : List (Addr × Obj)} {σ : L2.St} {H : Hp} {s : Shared} (hp : (a, oe) ∈ X.pn) (hz : Zc (.ref D) d oe) (hf : ∃ vs, oe.data = .fields vs) (I : Inv X pins σ H s) (hd : d = none \/ ∃ dd fs, d = some dd /\ H dd = some (.xd fs)) :
   ∃ od, PySem.W.InstAt s.heap a oe D od := by
 obtain ⟨ha, _⟩ := I.pin (a, oe) (List.mem_append_left _ hp)
 obtain ⟨vs, hv⟩ := hf
 have nc : PySem.W.notCls oe = true := by
   unfold PySem.W.notCls
   rw [hv] <;> rfl
 rcases hd with rfl | ⟨dd, fs, rfl, e⟩
 · exact ⟨none, ha, hz.1, nc, by rw [hz.2]; trivial⟩
 · obtain ⟨mA, ⟨o, es, ep, e1, e2⟩, hr⟩ := (show ObjOk X.prog X.w H s.heap dd (.xd fs) from I.hok dd _ e)
   exact ⟨some o, ha, hz.1, nc, by rw [hz.2]; exact e1⟩
theorem kit_exc {K : Fr} {od : Option Obj} (C : ExcC K D) : PySem.W.KitX K (.ref a) (.ref D) (λ h => PySem.W.InstAt h a oe D od) :=
 PySem.W.kitx_exc (by obtain ⟨cd, hc, _⟩ := PySem.W.any_some C.hd; rw [hc]; rfl) C.hg C.hk C.hs C.ha C.hn C.ht C.hm
theorem cr_isX (hp : (a, oe) ∈ X.pn) (hz : Zc cls d oe) (hf : ∃ vs, oe.data = .fields vs) : CallR X (.builtin "isinstance") (uIsX X.K a cls d) := by
 intro pins s σ H xs us Q I r h
 rcases h with ⟨c, cv, b, rfl, ⟨D, rfl, C, hd⟩, k, e, q⟩ | ⟨tp, cs, ws, b, rfl, ⟨D, rfl, C, hd⟩, hT, k, e, q⟩
 · obtain ⟨u1, u2, rfl, r1, r2⟩ := vals2 r
   cases (show u1 = Value.ref a from r1)
   cases k.eq r2
   obtain ⟨od, J⟩ := inst_at hp hz hf I hd
   exact PySem.W.kia_one (kit_exc C) I.kIn J e (λ z => nomatch z) λ tk => ⟨.bl b, H, I.tok tk, rfl, q⟩
 · obtain ⟨u1, u2, rfl, r1, r2⟩ := vals2 r
   cases (show u1 = Value.ref a from r1)
   cases (show u2 = Value.ref tp from r2)
   obtain ⟨od, J⟩ := inst_at hp hz hf I hd
   obtain ⟨_, its, rv, o, h1, h2, n, h3⟩ := (show ObjOk X.prog X.w H s.heap tp (.tup cs) from I.hok tp _ hT)
   cases ClsV.all k rv
   obtain ⟨oc, od2, dt, sl⟩ := o
   simp only at h2 h3
   subst h2 h3
   exact PySem.W.kia_tup (kit_exc C) I.kIn J h1 e (λ z => nomatch z) λ tk => ⟨.bl b, H, I.tok tk, rfl, q⟩
theorem pe_xg {e : Expr} {te : TE} {pos : Pos} {n : Str} (hp : (a, oe) ∈ X.pn) (hz : Zc cls d oe) (hf : ∃ vs, oe.data = .fields vs) (he : PE X e te) (hb : attributeBase e n X.env (eval e X.env) = eval e X.env := by rfl) :
   PE X (.Attribute e n pos) (tXg X.K a cls d n te) := by
 constructor
 intro pins s σ H Q I h
 refine attr_of hb (thn (he.run pins s σ H _ I h) ?_)
 rintro u s1 ⟨x, H1, I1, rx, rfl, D, dd, fs, v, rfl, C, hno, rfl, ea, l, q⟩
 cases (show u = Value.ref a from rx)
 obtain ⟨ha, _⟩ := I1.pin (a, oe) (List.mem_append_left _ hp)
 obtain ⟨vs, hv⟩ := hf
 obtain ⟨mA, hns, hr⟩ := (show ObjOk X.prog X.w H1 s1.heap dd (.xd fs) from I1.hok dd _ ea)
 obtain ⟨od, ho, hl⟩ := lookIn_ns hns
 obtain ⟨u, hu, ru⟩ := RelO.some_of (v := v) (o := mA n) (by rw [<- l]; exact hr n)
 have nc : PySem.W.notCls oe = true := by
   unfold PySem.W.notCls
   rw [hv] <;> rfl
 have J : PySem.W.InstAt s1.heap a oe D (some od) := ⟨ha, hz.1, nc, by rw [hz.2]; exact ho⟩
 exact HandSPX.exc_get I1.kIn J C.hg C.hk C.hs (PySem.W.findObj_own C.hd hno rfl (by rw [hl, hu])) (handed_of ru) ⟨v, H1, I1.tok _, ru, q⟩
end
structure FnE (P : Program) (w : World) (K : Fr) (mg : Str -> Option Value) (base : Heap) (k : Nat) (f : Addr) (fd : FuncData) (x : Str) (sp : Addr -> Value -> Option Addr -> Hp -> VK -> Prop) : Prop where
 run : ∀ (A : Around) (outer : List Env) (s : Shared) (H : Hp) (args : Args) (Q : VK) (a : Addr) (oe : Obj) (cls : Value) (d : Option Addr), L2H.RoomH k A -> Zc cls d oe -> (∃ vs, oe.data = .fields vs) -> L2H.PinOk outer H s (a, oe) -> Env0 P w K mg base A outer s H ->
   BindsTo s fd args [(x, .ref a)] -> sp a cls d H Q -> codeAny (model P w) A (.call (.ref f) args) (CR CX0 outer P w H s Q E0) s
theorem okE {P : Program} {w : World} {K : Fr} {mg : Str -> Option Value} {base : Heap} {k : Nat} {f : Addr} {fd : FuncData} {x xq qual : Str} {params : Arguments} {body : List Stmt} {scope : Scope} {dvs : List V} {kws : List (Str × V)} {N : List Str}
   {sp : Addr -> Value -> Option Addr -> Hp -> VK -> Prop} (D : FunD K xq qual params body scope dvs kws f fd) (S : FnScope N [x] scope)
   (hbody : ∀ (cdv : Value) (B : Around) (out : List Env) (t : Shared) (H : Hp) (Q : VK) (a : Addr) (oe : Obj) (cls : Value) (d : Option Addr), L2H.RoomH k (B.deeper (envOfC qual scope t.heap.objs.size f cdv)) -> Zc cls d oe -> (∃ vs, oe.data = .fields vs) -> sp a cls d H Q ->
     ∃ tr, PSs (L2H.cxH CX0 P w K mg base N qual scope f cdv B out t H E0 (a, oe)) body tr /\ tr { nx := λ _ H' => Q .non H', rt := Q } (L2.start N [.ref a]) H) :
   FnE P w K mg base (k + 1) f fd x sp := by
 obtain ⟨⟨oc, od, dV, kV, doc, pm, an, cdv, ct, osl, rfl, lk, hcd, _, _⟩, _⟩ := D
 constructor
 intro A outer s H args Q a oe cls d hr hz hf hpin env hb hsp
 have hin : K.In s.heap := env.mod.kin.keeps λ b o q => (env.bs b o q).1
 have hno : s.heap.NoLimit := env.mod.nolimit.keeps λ b o q => (env.bs b o q).1
 have hk : ∀ y ∈ [x].zip [Value.ref a], scope.names.lookup y.1 = some .local \/ (scope.names.lookup y.1 = some .cell /\ ((cellsFrom (s.heap.objs.size + 1) scope.names []).lookup y.1).isSome = true) := by
   rintro ⟨n, v⟩ hy
   cases S.par n (List.of_mem_zip hy).1 with
   | inl q => exact .inl q
   | inr q => exact .inr ⟨q, PySem.W.cellsFrom_some _ _ _ (.inl q)⟩
 refine codeAny_call_function hr.depth (hin _ _ lk) rfl S.co S.gen rfl (PySem.W.codeRec_of hin hcd) (hb _ _ _ _ ?_)
 refine wpAny_newFunctionEnv_cells S.kind hk λ ev hev t1 ic => ?_
 subst hev
 refine ⟨hno.keeps ic.toInCall.keep, codeAny_func ?_⟩
 obtain ⟨tr, htr, hq⟩ := hbody cdv A outer s H Q a oe cls d (hr.deeper _) hz hf hsp
 have J : Inv (L2H.cxH CX0 P w K mg base N qual scope f cdv A outer s H E0 (a, oe)) [] (L2.start N [.ref a]) H t1 := L2H.inv_startH (us := [.ref a]) S hpin env rfl (.cons rfl .nil) ic
 refine wpAny_mono (htr.run [] t1 _ H _ J hq) (λ fl t2 z => ?_) λ _ _ z => z
 match fl, z with
 | .next, ⟨s2, H2, J2, q2⟩ => exact ⟨V.non, H2, J2.os, J2.bare, J2.base, J2.hok, rfl, q2⟩
 | .ret u, ⟨v2, s2, H2, J2, r2, q2⟩ => exact ⟨v2, H2, J2.os, J2.bare, J2.base, J2.hok, r2, q2⟩
 | .brk, ⟨_, _, _, q2⟩ => cases q2
 | .cont, ⟨_, _, _, q2⟩ => cases q2
def tCallE (a : Addr) (cls : Value) (d : Option Addr) (sp : Addr -> Value -> Option Addr -> Hp -> VK -> Prop) (te : TE) : TE := λ σ H Q => te σ H λ x H1 => x = .ref a /\ sp a cls d H1 Q
theorem pe_callE {X : Cx} {a f : Addr} {oe : Obj} {cls : Value} {d : Option Addr} {k : Nat} {fd : FuncData} {x px : Str} {sp : Addr -> Value -> Option Addr -> Hp -> VK -> Prop} {e : Expr} {te : TE} {p pos : Pos} (F : FnE X.prog X.w X.K X.mg X.base k f fd px sp) (hp : (a, oe) ∈ X.pn) (hz : Zc cls d oe)
   (hf : ∃ vs, oe.data = .fields vs) (hr : L2H.RoomH k X.A) (hg : Gl X x) (hm : X.mg x = some (.ref f)) (hk : PySem.W.keepIn X.K (.ref f) = true) (hb : Binds X.K fd [px] []) (ha : PE X e te)
   (hdb : (x == ("__debug__" : Str)) = false := by decide) (he : starEach [e] X.env = (false, eval e X.env) :: starEach [] X.env := by rfl) : PE X (.Call (.Name x p) [e] [] pos) (tCallE a cls d sp te) := by
 constructor
 intro pins s σ H Q I h
 refine wpAny_Call_Name_kw (ld_glob I hg hm ?_ hdb)
 have pa := pa_cons (PE.wk ha) (pa_nil (X := X)) he
 have body := thn (pa.run pos pins s σ H (λ vs H1 => vs = [.ref a] /\ sp a cls d H1 Q) I ⟨_, h, λ v H1 z => ⟨by rw [z.1], z.2⟩⟩) (Q' := λ us s1 => X.K.In s1.heap /\ wpAny (model X.prog X.w) X.A (call (.ref f) us) (EP X pins σ Q) X.xe s1) ?_
 · exact PySem.W.callWith_K (h₀ := X.base) I.ok.mod.kin hk body he rfl
 rintro us s1 ⟨vs, H1, I1, r1, rfl, q1⟩
 refine ⟨I1.kIn, ?_⟩
 obtain ⟨u, rfl, ru⟩ := vals1 r1
 cases (show u = Value.ref a from ru)
 have P1 := I1.pin (a, oe) (List.mem_append_left _ hp)
 have hpin : L2H.PinOk X.stack H1 s1 (a, oe) := ⟨P1.1, P1.2.1, λ hm => (List.mem_cons.mp (I1.stkSub a hm)).elim P1.2.2.1 P1.2.2.2.1, P1.2.2.2.2⟩
 have bb := hb s1 [.ref a] I1.kIn rfl
 have go := F.run X.A X.stack s1 H1 ⟨[.ref a], []⟩ Q a oe cls d hr hz hf hpin I1.env0 bb q1
 refine wpAny_call (codeAny_mono go λ r s' hq => ?_)
 match r, hq with
 | .error _, hq => exact hq.elim
 | .ok (.ret u), hq => exact I1.after hq
 | .ok .next, hq => cases hq
 | .ok .brk, hq => cases hq
 | .ok .cont, hq => cases hq
def obsF (fa : List (Fr -> Bool)) (fn : List He.DefD) (K : Fr) : He.AlD := ((fa.all λ f => f K) && fn.all λ d => d.ok K, fn.map λ d => He.fnW K d.at_)
def SaysF (fa : List (Fr -> Bool)) (fn : List He.DefD) (K : Fr) : Prop := obsF fa fn K = He.valD fn
section
variable {fa : List (Fr -> Bool)} {fn : List He.DefD} {K : Fr}
theorem SaysF.fact (c : SaysF fa fn K) (i : Nat) {f : Fr -> Bool} (h : fa[i]? = some f := by rfl) : f K = true := by
 have c1 : ((fa.all λ f => f K) && fn.all λ d => d.ok K) = true := congrArg (λ z : He.AlD => z.1) c
 exact List.all_eq_true.mp (Bool.and_eq_true_iff.mp c1).1 f (List.mem_of_getElem? h)
theorem SaysF.def_ (c : SaysF fa fn K) (i : Nat) {d : He.DefD} (h : fn[i]? = some d := by rfl) : ∃ fd, FunD K d.name d.qual d.params d.body d.scope (d.dvs K) (d.kws K) (He.fAd K d.at_) fd := by
 have c1 : ((fa.all λ f => f K) && fn.all λ d => d.ok K) = true := congrArg (λ z : He.AlD => z.1) c
 have e : fn.map (λ d => He.fnW K d.at_) = fn.map He.DefD.val := congrArg (λ z : He.AlD => z.2) c
 have e2 : (fn.map λ d => He.fnW K d.at_)[i]? = (fn.map He.DefD.val)[i]? := by rw [e]
 rw [List.getElem?_map, List.getElem?_map, h] at e2
 exact He.DefD.funD (Option.some.inj e2) (List.all_eq_true.mp (Bool.and_eq_true_iff.mp c1).2 d (List.mem_of_getElem? h))
end
end RC

theorem L2H.RoomH.units {k : Nat} {A : PySem.Around} (r : L2H.RoomH k A) : A.units + 64 < PySem.cLine := by
 have := r.un
 omega
theorem L2H.RoomH.u65 {k : Nat} {A : PySem.Around} (r : L2H.RoomH k A) : A.units + 65 < PySem.cLine := by
 have := r.un
 omega
theorem L2H.RoomH.u1 {k : Nat} {A : PySem.Around} (r : L2H.RoomH k A) : A.units + 1 < PySem.cLine := by
 have := r.un
 omega
theorem L2.Room.u65 {k : Nat} {A : PySem.Around} (r : L2.Room k A) : A.units + 65 < PySem.cLine := by
 have := r.un
 omega
theorem L2.Room.u1 {k : Nat} {A : PySem.Around} (r : L2.Room k A) : A.units + 1 < PySem.cLine := by
 have := r.un
 omega
namespace RC
open PySem PySem.Spec PyProof.Rows L2
def W0 : WX := λ _ _ _ _ => False
abbrev WT (E : XK) : WX := λ cls d _ H => E cls d H
theorem tk0 {X : Cx} : Takes X W0 := takes_none5
theorem okW {g : Bool} {P : Program} {w : World} {K : Fr} {mg : Str -> Option Value} {base : Heap} {k : Nat} {f : Addr} {fd : FuncData} {ps : List Str} {sp : Sp} {x qual : Str} {params : Arguments} {body : List Stmt} {scope : Scope} {dvs : List V} {kws : List (Str × V)} {N : List Str}
   (D : FunD K x qual params body scope dvs kws f fd) (S : FnScope N ps scope) (hlen : ∀ vs H Q E, sp vs H Q E -> vs.length = ps.length)
   (hbody : ∀ (cdv : Value) (B : Around) (out : List Env) (t : Shared) (H : Hp) (vs : List V) (Q : VK) (E : XK), (g = true -> B.guards = some []) -> Room k (B.deeper (envOfC qual scope t.heap.objs.size f cdv)) -> sp vs H Q E ->
     Takes (cxOf (L2.CX P w) P w K mg base N qual scope f cdv B out t H E) (WT E) -> PassesOwn (model P w) (cxOf (L2.CX P w) P w K mg base N qual scope f cdv B out t H E).A (cxOf (L2.CX P w) P w K mg base N qual scope f cdv B out t H E).env (cxOf (L2.CX P w) P w K mg base N qual scope f cdv B out t H E).xe ->
     ∃ tr, PSs (cxOf (L2.CX P w) P w K mg base N qual scope f cdv B out t H E) body tr /\ tr { nx := λ _ H' => Q .non H', rt := Q } (L2.start N vs) H) :
   FnX g P w K mg base (L2.CX P w) (k + 1) f fd ps sp :=
 okX D S hlen λ cdv B out t H vs Q E hg hr hs => hbody cdv B out t H vs Q E hg hr hs (takes_of rfl rfl rfl rfl) (passes_of rfl)
section
variable {X : Cx}
theorem uo_inU (hu : X.A.units + 65 < cLine) : OpR X (compareOp .In) (uIn X.K) := op_in_seq.or ((op_inD hu).or ((op_din (by omega)).or op_in_str))
theorem uo_notinU (hu : X.A.units + 65 < cLine) : OpR X (compareOp .NotIn) (uNotIn X.K) := op_notIn_seq.or ((op_notInD hu).or ((op_dnotin (by omega)).or op_notin_str))
def rIxK : R2 := λ x y H Q => ∃ a v, x = .ref a /\ DGet H a y (some v) /\ Q v H
theorem ix_dk (hu : X.A.units + 1 < cLine) : IxR X rIxK := by
 intro value slice pins s σ H x y v u Q I rx ry h hs
 obtain ⟨a, r, rfl, hd, q⟩ := h
 cases (show v = Value.ref a from rx)
 exact tail_any (dict_typeIs I hd) PySem.F.slot_dict_getitem.lookup (d_getItem hu I hd ry λ w' s3 I3 rw' => ⟨r, H, I3, rw', q⟩) hs
def rLenI (C : Addr) (sp : Sp) : List V -> Hp -> VK -> Prop := λ xs H Q => ∃ a dx fs, xs = [.ref a] /\ H a = some (.ins C dx fs) /\ sp [.ref a] H (λ v H' => ∃ n : Int, v = .int n /\ 0 <= n /\ n < 2 ^ 63 /\ Q (.int n) H') E0
theorem cr_lenI {C f : Addr} {k : Nat} {fd : FuncData} {ps : List Str} {sp : Sp} (hm : Meth X.K C "__len__" f) (F : FnX false X.prog X.w X.K X.mg X.base CX0 k f fd ps sp) (hr : Room (k + 1) X.A) (hb : Binds X.K fd ps []) : CallR X (.builtin "len") (rLenI C sp) := by
 intro pins s σ H xs us Q I r h
 obtain ⟨a, dx, fs, rfl, ea, q⟩ := h
 obtain ⟨u, rfl, ru⟩ := vals1 r
 cases (show u = Value.ref a from ru)
 obtain ⟨m, fr⟩ := I.fr
 obtain ⟨mA, O, _⟩ := ins_get I.hok ea
 obtain ⟨od, J, _⟩ := O.look
 refine PySem.W.len_K fr I.ok.mod.kin J hm.at_ hm.fn ?_
 have ll : ([Value.ref a] ++ []).length = ps.length := (F.lenG _ _ _ _ q).symm ▸ rfl
 have bb := hb s [.ref a] I.kIn ll
 have go := F.runG X.A.in1 X.stack s H ⟨[.ref a], []⟩ _ [.ref a] [.ref a] _ _ (λ z => nomatch z) hr.in1 I.env0.in1 bb (.refl _) (.cons rfl .nil) q
 refine wpAny_call (codeAny_mono go λ res s' hq => ?_)
 match res, hq with
 | .error _, hq => exact hq.elim
 | .ok (.ret u), hq =>
   obtain ⟨v, H', I', rv, n, rfl, h0, h1, q'⟩ := I.after hq
   obtain ⟨t, rfl⟩ := rv
   exact ⟨⟨h0, h1⟩, ⟨.int n, H', I'.tok _, ⟨_, rfl⟩, q'⟩⟩
 | .ok .next, hq => cases hq
 | .ok .brk, hq => cases hq
 | .ok .cont, hq => cases hq
end
def clsB : Stmt -> List Stmt
 | .ClassDef _ _ _ body _ _ _ _ _ _ _ => body
 | _ => []
abbrev mA (K : Fr) (c m : Str) : Addr := He.ma K (He.ga K c) m
def chB (K : Fr) (x : Str) (bmB : List Value) (newId : String) : Bool := PySem.W.excInitIn K (He.ga K x) bmB newId && (PySem.W.excOver K (He.ga K x) bmB && (PySem.W.hasDictIn K (He.ga K x) && (He.eqO (PySem.W.findIn K (.ref (He.ga K x)) "__setattr__") (some (some (.builtin "object.__setattr__"))) &&
 (decide (PySem.W.subIn K (.ref (He.ga K x)) (.type "BaseException") = some true) && (decide (PySem.W.typeIn K (.ref (He.ga K x)) = some (.type "type")) && PySem.W.keepIn K (.ref (He.ga K x)))))))
theorem chB_ok {K : Fr} {x : Str} {B newId initId : String} {bmB : List Value} (fb : ExcBaseFacts B newId initId bmB) (sf : StoreFacts B bmB "object.__setattr__" "object") (h : chB K x bmB newId = true) : XcB K (He.ga K x) B newId initId bmB := by
 obtain ⟨h1, h⟩ := He.ba h
 obtain ⟨h2, h⟩ := He.ba h
 obtain ⟨h3, h⟩ := He.ba h
 obtain ⟨h4, h⟩ := He.ba h
 obtain ⟨h5, h⟩ := He.ba h
 obtain ⟨h6, h7⟩ := He.ba h
 exact ⟨fb, sf, h1, h2, h3, He.eqO_ok h4, of_decide_eq_true h5, of_decide_eq_true h6, h7⟩
abbrev tlB (B : String) : List Value := [.type B, .type "Exception", .type "BaseException", .type "object"]
theorem chB_VE {K : Fr} {x : Str} (h : chB K x (tlB "ValueError") "ValueError.__new__" = true) : XcB K (He.ga K x) "ValueError" "ValueError.__new__" "ValueError.__init__" (tlB "ValueError") := chB_ok PySem.F.excBase_ValueError PySem.F.store_ValueError h
theorem chB_LE {K : Fr} {x : Str} (h : chB K x (tlB "LookupError") "LookupError.__new__" = true) : XcB K (He.ga K x) "LookupError" "LookupError.__new__" "LookupError.__init__" (tlB "LookupError") := chB_ok PySem.F.excBase_LookupError PySem.F.store_LookupError h
def chI (K : Fr) (x : Str) (initId : String) : Bool := He.eqO (PySem.W.specialIn K (.ref (He.ga K x)) "__getattribute__") (some (some (.builtin "type.__getattribute__"))) && (decide (PySem.W.typeIn K (.ref (He.ga K x)) = some (.type "type")) && (PySem.W.readsIn K (He.ga K x) (.type "type") &&
 (match PySem.W.findCls K (.ref (He.ga K x)) (.type "type") "__init__" with
   | some (.val (.builtin n)) => decide (n = initId)
   | _ => false)))
theorem chI_ok {K : Fr} {x : Str} {initId : String} (h : chI K x initId = true) : XcI K (He.ga K x) initId := by
 obtain ⟨h1, h⟩ := He.ba h
 obtain ⟨h2, h⟩ := He.ba h
 obtain ⟨h3, h4⟩ := He.ba h
 refine ⟨He.eqO_ok h1, of_decide_eq_true h2, h3, ?_⟩
 split at h4
 · rename_i n e
   rw [e, of_decide_eq_true h4]
 · cases h4
def chC (K : Fr) (x : Str) : Bool := He.eqO (PySem.W.findIn K (.ref (He.ga K x)) "__getattribute__") (some (some (.builtin "BaseException.__getattribute__"))) && (He.eqO (PySem.W.findIn K (.ref (He.ga K x)) "__getattr__") (some none) &&
 (decide (PySem.W.subIn K (.ref (He.ga K x)) (.type "BaseException") = some true) && (PySem.W.hasDictIn K (He.ga K x) && (He.eqO (PySem.W.findIn K (.ref (He.ga K x)) "__class__") (some (some (.builtin "object.__class__"))) &&
 (He.eqO (PySem.W.specialIn K (.builtin "object.__class__") "__get__") (some (some (.builtin "getset_descriptor.__get__"))) && (decide (PySem.W.takesIn K (.builtin "object.__class__") = some true) && decide (PySem.W.mroIn K (He.ga K x) (.type "object") = some true)))))))
theorem chC_ok {K : Fr} {x : Str} (h : chC K x = true) : ExcC K (He.ga K x) := by
 obtain ⟨h1, h⟩ := He.ba h
 obtain ⟨h2, h⟩ := He.ba h
 obtain ⟨h3, h⟩ := He.ba h
 obtain ⟨h4, h⟩ := He.ba h
 obtain ⟨h5, h⟩ := He.ba h
 obtain ⟨h6, h⟩ := He.ba h
 obtain ⟨h7, h8⟩ := He.ba h
 exact ⟨He.eqO_ok h1, He.eqO_ok h2, of_decide_eq_true h3, h4, He.eqO_ok h5, He.eqO_ok h6, of_decide_eq_true h7, of_decide_eq_true h8⟩
def chN (K : Fr) (x f : Str) : Bool := He.eqO (PySem.W.findIn K (.ref (He.ga K x)) f) (some none)
theorem chN_ok {K : Fr} {x f : Str} (h : chN K x f = true) : PySem.W.findIn K (.ref (He.ga K x)) f = some none := He.eqO_ok h
def chF (K : Fr) (x : Str) : Bool := He.eqO (PySem.W.findIn K (.ref (He.ga K x)) "__init__") (some (some (.ref (mA K x "__init__")))) && decide (PySem.W.typeIn K (.ref (mA K x "__init__")) = some (.type "function"))
theorem chF_ok {K : Fr} {x : Str} (h : chF K x = true) : PySem.W.findIn K (.ref (He.ga K x)) "__init__" = some (some (.ref (mA K x "__init__"))) /\ PySem.W.typeIn K (.ref (mA K x "__init__")) = some (.type "function") := ⟨He.eqO_ok (He.ba h).1, of_decide_eq_true (He.ba h).2⟩
def chM (K : Fr) (x y : Str) (b : Bool) : Bool := decide (PySem.W.exmOne K (.ref (He.ga K x)) (.ref (He.ga K y)) = some b)
theorem chM_ok {K : Fr} {x y : Str} {b : Bool} (h : chM K x y b = true) : PySem.W.exmOne K (.ref (He.ga K x)) (.ref (He.ga K y)) = some b := of_decide_eq_true h
def chK (K : Fr) (x y : Str) (b : Bool) : Bool := decide (PySem.W.kitOne K (.ref (He.ga K x)) (.ref (He.ga K y)) = some b)
theorem chK_ok {K : Fr} {x y : Str} {b : Bool} (h : chK K x y b = true) : PySem.W.kitOne K (.ref (He.ga K x)) (.ref (He.ga K y)) = some b := of_decide_eq_true h
theorem exm_cons {K : Fr} {cls c : Value} {cs : List Value} {b d : Bool} (h : PySem.W.exmOne K cls c = some b) (h2 : PySem.W.exmAny K cls cs = some d) : PySem.W.exmAny K cls (c :: cs) = some (b || d) := by
 unfold PySem.W.exmAny
 rw [h, h2]
theorem pasF {X : Cx} {σ : L2.St} : PassesAt (L2.CX X.prog X.w) X σ (WE W0 σ) := λ _ _ _ _ _ _ ⟨_, _, _, _, _, _, _, _, _, _, _, _, z⟩ => z.elim
def tTry (K : Fr) (W : WX) (tb : WX -> TS) (l : List Hd) : TS := λ D σ H => tb (wTry K W D l) D σ H
theorem ps_tryT {X : Cx} {body : List Stmt} {h₀ : ExceptHandler} {hds : List ExceptHandler} {l : List Hd} {pos : Pos} {tb : WX -> TS} {W : WX} (hs : X.stack = X.env :: X.outer) (hf : X.env.frame = some X.env.locals) (hN : X.N.Nodup) (tk : Takes X W)
   (hb : ∀ (W' : WX) (pn : List (Addr × Obj)) (xe : Value -> Shared -> Prop), Takes (X.tr pn xe) W' -> PassesOwn (model X.prog X.w) X.A X.env xe -> PSs (X.tr pn xe) body (tb W'))
   (hh : HdOk X (h₀ :: hds) l) : PS X (.Try body (h₀ :: hds) [] [] pos) (tTry X.K W tb l) := ps_tryG hs hf hN tk hb hh
theorem roomMark {k : Nat} {A : Around} {h : Option Value} (r : Room k A) : L2H.RoomH k (A.mark h) := ⟨r.dp, r.un⟩
end RC

namespace RC
open PySem PySem.Spec PyProof.Rows L2
def seenB (m a : Nat) : Bool := Nat.beq (Nat.land (Nat.shiftRight m a) 1) 1
def addNew {β : Type} : List Addr -> Nat -> List Addr -> (Nat -> List Addr -> β) -> β
 | [], m, acc, k => k m acc
 | a :: as, m, acc, k => match seenB m a with
   | true => addNew as m acc k
   | false => HandSHeadRun.frNat (Nat.lor m (Nat.shiftLeft 1 a)) λ m => addNew as m (a :: acc) k
def growB {β : Type} (g : Addr -> Option Obj) : List Addr -> Nat -> List Addr -> (Nat -> List Addr -> β) -> β
 | [], m, acc, k => k m acc
 | a :: as, m, acc, k => match g a with
   | some o => addNew (He.refsD o) m acc λ m acc => growB g as m acc k
   | none => growB g as m acc k
def levB (g : Addr -> Option Obj) : Nat -> List Addr -> Nat -> List Addr -> List Addr
 | 0, fr, _, all => all ++ fr
 | n + 1, fr, m, all => growB g fr m [] λ m f2 => levB g n f2 m (all ++ fr)
def startsB (g : Addr -> Option Obj) (n : Nat) : List Addr := levB g n [mainGlobals, cStatics] 0 []
def obsB (n : Nat) (fa : List (Fr -> Bool)) (fn : List He.DefD) (g : Addr -> Option Obj) : He.AlD := obsF fa fn (He.frG g (startsB g n))
def hookB (n : Nat) (fa : List (Fr -> Bool)) (fn : List He.DefD) : PySem.W.Hook where
 α := He.AlD
 obs := λ s => obsB n fa fn s.heap.get?
 val := λ _ => He.valD fn
 says := λ _ h => ∃ K : Fr, K.In h /\ SaysF fa fn K
 of := λ _ _ e => ⟨_, He.frG_in, e⟩
 keeps := λ _ _ _ ⟨K, hK, c⟩ k => ⟨K, PySem.W.Frag.In.keeps hK k, c⟩
theorem obsB_eq {n : Nat} {fa : List (Fr -> Bool)} {fn : List He.DefD} {g : Addr -> Option Obj} {s : Shared} (h : ∀ a, g a = s.heap.get? a) : obsB n fa fn g = (hookB n fa fn).obs s := by
 have e : g = s.heap.get? := funext h
 rw [e] <;> rfl
theorem mp3 {α β γ δ : Type} {x : Option α} {f : α -> β} {g : α -> γ} {h : α -> δ} {a : β} {b : γ} {c : δ} (h1 : x.map (λ s => (f s, g s)) = some (a, b)) (h2 : x.map h = some c) : x.map (λ s => (f s, g s, h s)) = some (a, b, c) := by
 cases x with
 | none => cases h1
 | some s =>
   cases h1
   cases h2
   rfl
section
open PySem.W PySem.Calls HandSHeadRun
theorem runEq {r : OpenRow} {q : Program} {H : Hook} {ob : SharedT -> H.α} {M : Nat} {loose : List PySem.Str} {w : World}
   (h1 : ∀ os, (endF (stepQ (denQ tabQ) r.prog w) M r.prog w os).map (λ s => (looksF r.prog (boot_heap w.params) s.abs, seenQ q loose (importedModules r.prog.main.body) (λ s => xlAt q [] s && recOk r.toRowW.records s) s.abs)) = some (true, openGood q loose))
   (h3 : ∀ os, (endF (stepQ (denQ tabQ) r.prog w) M r.prog w os).map (λ s => ob s) = some (H.val w)) : RunEq r q H ob M loose w := λ os => mp3 (h1 os) (h3 os)
end
end RC


namespace RC
open PySem PySem.Spec PyProof.Rows L2
def chY (K : Fr) (x : Str) : Bool := (He.eqO (PySem.W.findIn K (.ref (He.ga K x)) "__class__") (some (some (.builtin "object.__class__"))) && He.eqO (PySem.W.specialIn K (.builtin "object.__class__") "__get__") (some (some (.builtin "getset_descriptor.__get__")))) &&
 (decide (PySem.W.takesIn K (.builtin "object.__class__") = some true) && decide (PySem.W.mroIn K (He.ga K x) (.type "object") = some true))
def chDN (K : Fr) (x : Str) : Bool := (["NoneType", "bool", "int", "str", "list", "tuple", "dict"] : List String).all λ t => decide (PySem.W.kitOne K (.type t) (.ref (He.ga K x)) = some false)
def chMo (K : Fr) (x : Str) : Bool := decide (PySem.W.mroIn K (He.ga K x) (.type "object") = some true)
def chNe (K : Fr) (x : Str) : Bool := (match PySem.W.findIn K (.ref (He.ga K x)) "__ne__" with | some (some (.builtin n)) => decide (n = "object.__ne__") | _ => false)
open PyProof.Rows.KTD (tabLook)
end RC
namespace RC
open PySem PySem.Spec PyProof.Rows L2
def top (i : Nat) : Stmt := PySem.Challenge.pw_restorechain_k34_equal_len_copied.main.body.getD i (.Pass ⟨0, 0, 0, 0⟩)
def meth (i j : Nat) : Stmt := (clsB (top i)).getD j (.Pass ⟨0, 0, 0, 0⟩)
abbrev s_l_bag : Stmt := top 23
abbrev s_l_take : Stmt := top 24
abbrev s_l_names : Stmt := top 27
abbrev s_House___init__ : Stmt := meth 21 0
abbrev s_l_due : Stmt := top 30
abbrev s_l_do : Stmt := top 31
abbrev s_l_alike : Stmt := top 25
abbrev s_wanted : Stmt := top 19
abbrev s_is_name : Stmt := top 16
abbrev s_is_whole : Stmt := top 12
abbrev s_is_sign : Stmt := top 13
abbrev s_are_signs : Stmt := top 14
abbrev s_is_content : Stmt := top 15
abbrev s_House_write : Stmt := meth 21 4
abbrev s_House_need_file : Stmt := meth 21 3
abbrev s_House_drop : Stmt := meth 21 5
abbrev s_House_move : Stmt := meth 21 6
abbrev s_are_contents : Stmt := top 20
abbrev s_House_become : Stmt := meth 21 7
abbrev s_House_content : Stmt := meth 21 9
abbrev s_l_call : Stmt := top 32
abbrev s_l_refused : Stmt := top 29
abbrev s_l_said : Stmt := top 33
abbrev s_l_step : Stmt := top 36
abbrev s_l_any : Stmt := top 26
abbrev s_l_content : Stmt := top 28
abbrev s_l_deed : Stmt := top 34
abbrev s_House_contents : Stmt := meth 21 10
abbrev s_House_copied : Stmt := meth 21 11
abbrev s_House___eq__ : Stmt := meth 21 1
abbrev s_l_equal : Stmt := top 38
abbrev s_House_names_of : Stmt := meth 21 8
abbrev s_House___len__ : Stmt := meth 21 2
abbrev s_l_same : Stmt := top 35
abbrev s_l_spoil_one : Stmt := top 37
abbrev s_law : Stmt := top 39
abbrev s_Wrong___init__ : Stmt := meth 3 0
abbrev s_TooMany___init__ : Stmt := meth 5 0
abbrev s_NoFile___init__ : Stmt := meth 6 0
abbrev s_There___init__ : Stmt := meth 4 0
def d_l_bag : He.DefD := ⟨("_law_bag", none), "_law_bag", "_law_bag", defArgs s_l_bag, defBody s_l_bag, defScope s_l_bag, [], []⟩
def d_l_take : He.DefD := ⟨("_law_take", none), "_law_take", "_law_take", defArgs s_l_take, defBody s_l_take, defScope s_l_take, [], []⟩
def d_l_names : He.DefD := ⟨("_law_names", none), "_law_names", "_law_names", defArgs s_l_names, defBody s_l_names, defScope s_l_names, [], []⟩
def d_House___init__ : He.DefD := ⟨("House", some "__init__"), "__init__", "House.__init__", defArgs s_House___init__, defBody s_House___init__, defScope s_House___init__, [], []⟩
def d_l_due : He.DefD := ⟨("_law_due", none), "_law_due", "_law_due", defArgs s_l_due, defBody s_l_due, defScope s_l_due, [], []⟩
def d_l_do : He.DefD := ⟨("_law_do", none), "_law_do", "_law_do", defArgs s_l_do, defBody s_l_do, defScope s_l_do, [], []⟩
def d_l_alike : He.DefD := ⟨("_law_alike", none), "_law_alike", "_law_alike", defArgs s_l_alike, defBody s_l_alike, defScope s_l_alike, [], []⟩
def d_wanted : He.DefD := ⟨("wanted", none), "wanted", "wanted", defArgs s_wanted, defBody s_wanted, defScope s_wanted, [], []⟩
def d_is_name : He.DefD := ⟨("is_name", none), "is_name", "is_name", defArgs s_is_name, defBody s_is_name, defScope s_is_name, [], []⟩
def d_is_whole : He.DefD := ⟨("is_whole", none), "is_whole", "is_whole", defArgs s_is_whole, defBody s_is_whole, defScope s_is_whole, [], []⟩
def d_is_sign : He.DefD := ⟨("is_sign", none), "is_sign", "is_sign", defArgs s_is_sign, defBody s_is_sign, defScope s_is_sign, [], []⟩
def d_are_signs : He.DefD := ⟨("are_signs", none), "are_signs", "are_signs", defArgs s_are_signs, defBody s_are_signs, defScope s_are_signs, [], []⟩
def d_is_content : He.DefD := ⟨("is_content", none), "is_content", "is_content", defArgs s_is_content, defBody s_is_content, defScope s_is_content, [], []⟩
def d_House_write : He.DefD := ⟨("House", some "write"), "write", "House.write", defArgs s_House_write, defBody s_House_write, defScope s_House_write, [], []⟩
def d_House_need_file : He.DefD := ⟨("House", some "need_file"), "need_file", "House.need_file", defArgs s_House_need_file, defBody s_House_need_file, defScope s_House_need_file, [], []⟩
def d_House_drop : He.DefD := ⟨("House", some "drop"), "drop", "House.drop", defArgs s_House_drop, defBody s_House_drop, defScope s_House_drop, [], []⟩
def d_House_move : He.DefD := ⟨("House", some "move"), "move", "House.move", defArgs s_House_move, defBody s_House_move, defScope s_House_move, [], []⟩
def d_are_contents : He.DefD := ⟨("are_contents", none), "are_contents", "are_contents", defArgs s_are_contents, defBody s_are_contents, defScope s_are_contents, [], []⟩
def d_House_become : He.DefD := ⟨("House", some "become"), "become", "House.become", defArgs s_House_become, defBody s_House_become, defScope s_House_become, [], []⟩
def d_House_content : He.DefD := ⟨("House", some "content"), "content", "House.content", defArgs s_House_content, defBody s_House_content, defScope s_House_content, [], []⟩
def d_l_call : He.DefD := ⟨("_law_call", none), "_law_call", "_law_call", defArgs s_l_call, defBody s_l_call, defScope s_l_call, [], []⟩
def d_l_refused : He.DefD := ⟨("_law_refused", none), "_law_refused", "_law_refused", defArgs s_l_refused, defBody s_l_refused, defScope s_l_refused, [], []⟩
def d_l_said : He.DefD := ⟨("_law_said", none), "_law_said", "_law_said", defArgs s_l_said, defBody s_l_said, defScope s_l_said, [], []⟩
def d_l_step : He.DefD := ⟨("_law_step", none), "_law_step", "_law_step", defArgs s_l_step, defBody s_l_step, defScope s_l_step, [], []⟩
def d_l_any : He.DefD := ⟨("_law_any", none), "_law_any", "_law_any", defArgs s_l_any, defBody s_l_any, defScope s_l_any, [], []⟩
def d_l_content : He.DefD := ⟨("_law_content", none), "_law_content", "_law_content", defArgs s_l_content, defBody s_l_content, defScope s_l_content, [], []⟩
def d_l_deed : He.DefD := ⟨("_law_deed", none), "_law_deed", "_law_deed", defArgs s_l_deed, defBody s_l_deed, defScope s_l_deed, [], []⟩
def d_House_contents : He.DefD := ⟨("House", some "contents"), "contents", "House.contents", defArgs s_House_contents, defBody s_House_contents, defScope s_House_contents, [], []⟩
def d_House_copied : He.DefD := ⟨("House", some "copied"), "copied", "House.copied", defArgs s_House_copied, defBody s_House_copied, defScope s_House_copied, [], []⟩
def d_House___eq__ : He.DefD := ⟨("House", some "__eq__"), "__eq__", "House.__eq__", defArgs s_House___eq__, defBody s_House___eq__, defScope s_House___eq__, [], []⟩
def d_l_equal : He.DefD := ⟨("_law_equal", none), "_law_equal", "_law_equal", defArgs s_l_equal, defBody s_l_equal, defScope s_l_equal, [], []⟩
def d_House_names_of : He.DefD := ⟨("House", some "names_of"), "names_of", "House.names_of", defArgs s_House_names_of, defBody s_House_names_of, defScope s_House_names_of, [], []⟩
def d_House___len__ : He.DefD := ⟨("House", some "__len__"), "__len__", "House.__len__", defArgs s_House___len__, defBody s_House___len__, defScope s_House___len__, [], []⟩
def d_l_same : He.DefD := ⟨("_law_same", none), "_law_same", "_law_same", defArgs s_l_same, defBody s_l_same, defScope s_l_same, [], []⟩
def d_l_spoil_one : He.DefD := ⟨("_law_spoil_one", none), "_law_spoil_one", "_law_spoil_one", defArgs s_l_spoil_one, defBody s_l_spoil_one, defScope s_l_spoil_one, [], []⟩
def d_law : He.DefD := ⟨("law", none), "law", "law", defArgs s_law, defBody s_law, defScope s_law, [], []⟩
def d_Wrong___init__ : He.DefD := ⟨("Wrong", some "__init__"), "__init__", "Wrong.__init__", defArgs s_Wrong___init__, defBody s_Wrong___init__, defScope s_Wrong___init__, [], []⟩
def d_TooMany___init__ : He.DefD := ⟨("TooMany", some "__init__"), "__init__", "TooMany.__init__", defArgs s_TooMany___init__, defBody s_TooMany___init__, defScope s_TooMany___init__, [], []⟩
def d_NoFile___init__ : He.DefD := ⟨("NoFile", some "__init__"), "__init__", "NoFile.__init__", defArgs s_NoFile___init__, defBody s_NoFile___init__, defScope s_NoFile___init__, [], []⟩
def d_There___init__ : He.DefD := ⟨("There", some "__init__"), "__init__", "There.__init__", defArgs s_There___init__, defBody s_There___init__, defScope s_There___init__, [], []⟩
def fn0 : List He.DefD := ([d_l_bag, d_l_take, d_l_names, d_House___init__, d_l_due, d_l_do, d_l_alike, d_wanted, d_is_name, d_is_whole, d_is_sign, d_are_signs, d_is_content, d_House_write, d_House_need_file, d_House_drop, d_House_move, d_are_contents, d_House_become, d_House_content, d_l_call, d_l_refused, d_l_said, d_l_step, d_l_any, d_l_content, d_l_deed, d_House_contents, d_House_copied, d_House___eq__] : List He.DefD) ++ ([d_l_equal, d_House_names_of, d_House___len__, d_l_same, d_l_spoil_one, d_law, d_Wrong___init__, d_TooMany___init__, d_NoFile___init__, d_There___init__] : List He.DefD)
def fa0 : List (Fr -> Bool) := ([(λ K => (He.Fa.str "LETTERS" "abcdefghijklmnopqrstuvwxyz").ok K), (λ K => (He.Fa.int "LONGEST" 8).ok K), (λ K => (He.Fa.int "MOST_SIGN" 999).ok K), (λ K => (He.Fa.int "MOST_CONTENT" 48).ok K), (λ K => (He.Fa.int "MOST_KEPT" 8).ok K), (λ K => (He.Fa.glo "_law_bag").ok K), (λ K => (He.Fa.glo "_law_take").ok K), (λ K => (He.Fa.glo "_law_names").ok K), (λ K => (He.Fa.glo "_law_due").ok K), (λ K => (He.Fa.glo "_law_do").ok K), (λ K => (He.Fa.glo "_law_alike").ok K), (λ K => (He.Fa.glo "wanted").ok K), (λ K => (He.Fa.glo "is_name").ok K), (λ K => (He.Fa.glo "is_whole").ok K), (λ K => (He.Fa.glo "is_sign").ok K), (λ K => (He.Fa.glo "are_signs").ok K), (λ K => (He.Fa.glo "is_content").ok K), (λ K => (He.Fa.glo "are_contents").ok K), (λ K => (He.Fa.glo "_law_call").ok K), (λ K => (He.Fa.glo "_law_refused").ok K), (λ K => (He.Fa.glo "_law_said").ok K), (λ K => (He.Fa.glo "_law_step").ok K), (λ K => (He.Fa.glo "_law_any").ok K), (λ K => (He.Fa.glo "_law_content").ok K), (λ K => (He.Fa.glo "_law_deed").ok K), (λ K => (He.Fa.glo "_law_equal").ok K), (λ K => (He.Fa.glo "_law_same").ok K), (λ K => (He.Fa.glo "_law_spoil_one").ok K), (λ K => (He.Fa.glo "law").ok K), (λ K => (He.Fa.glo "Wrong").ok K)] : List (Fr -> Bool)) ++ ([(λ K => (He.Fa.glo "TooMany").ok K), (λ K => (He.Fa.glo "NoFile").ok K), (λ K => (He.Fa.glo "There").ok K), (λ K => (He.Fa.glo "StoreError").ok K), (λ K => (He.Fa.glo "Missing").ok K), (λ K => (He.Fa.glo "House").ok K), (λ K => (He.Fa.cls "House").ok K), (λ K => (He.Fa.mkr "House").ok K), (λ K => (He.Fa.noat "House" "signs_by").ok K), (λ K => (He.Fa.meth "House" "write").ok K), (λ K => (He.Fa.meth "House" "need_file").ok K), (λ K => (He.Fa.meth "House" "drop").ok K), (λ K => (He.Fa.meth "House" "move").ok K), (λ K => (He.Fa.meth "House" "become").ok K), (λ K => (He.Fa.meth "House" "content").ok K), (λ K => (He.Fa.meth "House" "contents").ok K), (λ K => (He.Fa.meth "House" "copied").ok K), (λ K => (He.Fa.meth "House" "__eq__").ok K), (λ K => (He.Fa.meth "House" "names_of").ok K), (λ K => (He.Fa.meth "House" "__len__").ok K), (λ K => chB K "Wrong" (tlB "ValueError") "ValueError.__new__"), (λ K => chF K "Wrong"), (λ K => chC K "Wrong"), (λ K => chN K "Wrong" "at"), (λ K => chI K "StoreError" "ValueError.__init__"), (λ K => chM K "Wrong" "StoreError" true), (λ K => chM K "Wrong" "Missing" false), (λ K => chK K "Wrong" "NoFile" false), (λ K => chK K "Wrong" "There" false), (λ K => chK K "Wrong" "TooMany" false)] : List (Fr -> Bool)) ++ ([(λ K => chB K "TooMany" (tlB "ValueError") "ValueError.__new__"), (λ K => chF K "TooMany"), (λ K => chC K "TooMany"), (λ K => chN K "TooMany" "most"), (λ K => chM K "TooMany" "StoreError" true), (λ K => chM K "TooMany" "Missing" false), (λ K => chK K "TooMany" "NoFile" false), (λ K => chK K "TooMany" "There" false), (λ K => chK K "TooMany" "TooMany" true), (λ K => chB K "NoFile" (tlB "LookupError") "LookupError.__new__"), (λ K => chF K "NoFile"), (λ K => chC K "NoFile"), (λ K => chN K "NoFile" "name"), (λ K => chI K "Missing" "LookupError.__init__"), (λ K => chM K "NoFile" "StoreError" false), (λ K => chM K "NoFile" "Missing" true), (λ K => chK K "NoFile" "NoFile" true), (λ K => chK K "NoFile" "There" false), (λ K => chK K "NoFile" "TooMany" false), (λ K => chB K "There" (tlB "ValueError") "ValueError.__new__"), (λ K => chF K "There"), (λ K => chC K "There"), (λ K => chN K "There" "thing"), (λ K => chM K "There" "StoreError" true), (λ K => chM K "There" "Missing" false), (λ K => chK K "There" "NoFile" false), (λ K => chK K "There" "There" true), (λ K => chK K "There" "TooMany" false), (λ K => chY K "House"), (λ K => chK K "House" "House" true)] : List (Fr -> Bool)) ++ ([(λ K => chDN K "House"), (λ K => chMo K "House"), (λ K => chNe K "House"), (λ K => (He.Fa.free "abs").ok K), (λ K => (He.Fa.free "len").ok K), (λ K => (He.Fa.free "range").ok K), (λ K => (He.Fa.free "list").ok K), (λ K => (He.Fa.free "dict").ok K), (λ K => (He.Fa.free "repr").ok K), (λ K => (He.Fa.free "isinstance").ok K), (λ K => (He.Fa.free "str").ok K), (λ K => (He.Fa.free "int").ok K), (λ K => (He.Fa.free "bool").ok K), (λ K => (He.Fa.free "all").ok K), (λ K => (He.Fa.free "sorted").ok K), (λ K => (He.Fa.free "max").ok K)] : List (Fr -> Bool))
def fn : List He.DefD := fn0
def fa : List (Fr -> Bool) := fa0
def names : List Str := (["StoreError", "Missing", "Wrong", "There", "TooMany", "NoFile", "MOST_SIGN", "MOST_CONTENT", "LONGEST", "LETTERS", "is_whole", "is_sign", "are_signs", "is_content", "is_name", "MOST_KEPT", "wanted", "are_contents", "House", "_law_bag", "_law_take", "_law_alike", "_law_any", "_law_names", "_law_content", "_law_refused", "_law_due", "_law_do", "_law_call", "_law_said"] : List Str) ++ (["_law_deed", "_law_same", "_law_step", "_law_spoil_one", "_law_equal"] : List Str)
abbrev R : PySem.W.OpenRow := PySem.W.OpenLaw.row PySem.Challenge.rw_restorechain_k34_equal_len_copied
abbrev hk : PySem.W.Hook := hookB 5 fa fn
def ob (s : PySem.W.SharedT) : He.AlD := obsB 5 fa fn (HandSHeadRun.getT s)
theorem ob_eq (s : PySem.W.SharedT) : ob s = hk.obs s.abs := obsB_eq (HandSHeadRun.getT_eq s)
section
open PySem.W PySem.Calls HandSHeadRun
theorem runL (w : World) (os : OsState) : (endF (stepQ (denQ tabQ) R.prog w) 4000 R.prog w os).map (λ s => (looksF R.prog (boot_heap w.params) s.abs, seenQ (view R.prog [39]) names (importedModules R.prog.main.body) (λ s => xlAt (view R.prog [39]) [] s && recOk R.toRowW.records s) s.abs)) = some (true, openGood (view R.prog [39]) names) := by kernel_rfl
theorem runO0 (w : World) (os : OsState) : (endF (stepQ (denQ tabQ) R.prog w) 4000 R.prog w os).map (λ s => obsB 5 fa0 fn0 (getT s)) = some (He.valD fn0) := by kernel_rfl
theorem runO (w : World) (os : OsState) : (endF (stepQ (denQ tabQ) R.prog w) 4000 R.prog w os).map (λ s => ob s) = some (hk.val w) := runO0 w os
theorem run (w : World) : RunEq R (view R.prog [39]) hk ob 4000 names w := runEq (runL w) (runO w)
end
end RC
namespace RC
open PySem PySem.Spec PyProof.Rows L2
section
variable {K : Fr} {σ : L2.St} {H : Hp} {Q : VK} {D : Ends} {Rs : List Res} {E : XK} {W : WX} {sp : Sp} {dvs : List V} {t : TA} {ta te tb tc : TE} {C a : Addr} {m f : Str} {v : V}
theorem g_callW (k : t σ H λ vs H1 => sp (vs ++ dvs) H1 Q (WE W σ)) : tCallW W sp dvs t σ H Q := k
def MethK (W : WX) (C : Addr) (m : Str) (sp : Sp) (dvs : List V) (t : TA) (σ : L2.St) (Q : VK) : VK := λ x H1 => ∃ a dx fs, x = .ref a /\ H1 a = some (.ins C dx fs) /\ fs.lookup m = none /\ t σ H1 λ vs H2 => sp (x :: (vs ++ dvs)) H2 Q (WE W σ)
theorem g_meth (k : ta σ H (MethK W C m sp dvs t σ Q)) : tMethW W C m sp dvs ta t σ H Q := k
theorem v_meth {dx : Addr} {fs : List (Str × V)} (h : H a = some (.ins C dx fs)) (l : fs.lookup m = none) (k : t σ H λ vs H2 => sp (.ref a :: (vs ++ dvs)) H2 Q (WE W σ)) : MethK W C m sp dvs t σ Q (.ref a) H := ⟨a, dx, fs, rfl, h, l, k⟩
def MakeK (W : WX) (C : Addr) (sp : Sp) (dvs : List V) (σ : L2.St) (Q : VK) : List V -> Hp -> Prop := λ vs H1 => ∀ x dx, H1 x = none -> H1 dx = none -> dx ≠ x -> sp (.ref x :: (vs ++ dvs)) (upd (upd H1 dx (.own x)) x (.ins C dx [])) (λ v H2 => v = .non /\ Q (.ref x) H2) (WE W σ)
theorem g_make (k : t σ H (MakeK W C sp dvs σ Q)) : tMakeW W C sp dvs t σ H Q := k
theorem v_make {vs : List V} (S : M Rs H) (k : ∀ x dx H', M (pt x (.ins C dx []) :: pt dx (.own x) :: Rs) H' -> sp (.ref x :: (vs ++ dvs)) H' (λ v H2 => v = .non /\ Q (.ref x) H2) (WE W σ)) : MakeK W C sp dvs σ Q vs H := by
 intro x dx hx hdx hne
 exact k x dx _ ((S.new hdx).new (by rw [upd_ne (λ z => hne z.symm)]; exact hx))
def FldK (K : Fr) (f : Str) (Q : VK) : VK := λ x H1 => ∃ a C dx fs v, x = .ref a /\ H1 a = some (.ins C dx fs) /\ Cls K C /\ NoAttr K C f /\ fs.lookup f = some v /\ Q v H1
theorem g_fld (k : ta σ H (FldK K f Q)) : tFld K ta f σ H Q := k
theorem v_fld {dx : Addr} {fs : List (Str × V)} (h : H a = some (.ins C dx fs)) (c : Cls K C) (n : NoAttr K C f) (l : fs.lookup f = some v) (k : Q v H) : FldK K f Q (.ref a) H := ⟨a, C, dx, fs, v, rfl, h, c, n, l, k⟩
def SFldK (K : Fr) (f : Str) (y : V) (σ : L2.St) (D : Ends) : VK := λ x H2 => ∃ a C dx fs, x = .ref a /\ H2 a = some (.ins C dx fs) /\ Cls K C /\ NoAttr K C f /\ fs.length < 1000 /\ D.nx σ (upd H2 a (.ins C dx (putF f y fs)))
theorem g_sfld (k : te σ H λ y H1 => ta σ H1 (SFldK K f y σ D)) : sFld K ta te f D σ H := k
theorem v_sfld {dx : Addr} {fs : List (Str × V)} {y : V} (S : M Rs H) (i : Nat) (e : Rs[i]? = some (pt a (.ins C dx fs))) (c : Cls K C) (n : NoAttr K C f) (l : fs.length < 1000) (k : ∀ H', M (Rs.set i (pt a (.ins C dx (putF f y fs)))) H' -> D.nx σ H') : SFldK K f y σ D (.ref a) H :=
 ⟨a, C, dx, fs, rfl, S.got i e, c, n, l, k _ (S.putAt i e)⟩
def RzK (W : WX) (C : Addr) (f : Str) (σ : L2.St) : VK := λ v H1 => ∀ d, H1 d = none -> W (.ref C) (some d) σ (upd H1 d (.xd [(f, v)]))
theorem g_rz (k : te σ H (RzK W C f σ)) : tRz W C f te D σ H := k
theorem v_rz (S : M Rs H) (k : ∀ d H', M (pt d (.xd [(f, v)]) :: Rs) H' -> W (.ref C) (some d) σ H') : RzK W C f σ v H := λ d hd => k d _ (S.new hd)
theorem v_dnew (S : M Rs H) (k : ∀ d H', M (pt d (.dK []) :: Rs) H' -> Q (.ref d) H') : tDNewK σ H Q := λ d hd => k d _ (S.new hd)
def Pop1K (ty : TE) (σ : L2.St) (Q : VK) : VK := λ x H1 => ∃ a, x = .ref a /\ IsD H1 a /\ ty σ H1 λ y H2 => ∃ kvs k v, H2 a = some (.dK kvs) /\ y = kV k /\ valV kvs k = some v /\ Q v (upd H2 a (.dK (dropK kvs k)))
theorem g_dpop (k : ta σ H (Pop1K tb σ Q)) : tDPop1 ta tb σ H Q := k
def PopV (a : Addr) (Q : VK) : VK := λ y H2 => ∃ kvs k v, H2 a = some (.dK kvs) /\ y = kV k /\ valV kvs k = some v /\ Q v (upd H2 a (.dK (dropK kvs k)))
theorem v_dpop {kvs : List (Key × V)} (h : H a = some (.dK kvs)) (k : tb σ H (PopV a Q)) : Pop1K tb σ Q (.ref a) H := ⟨a, rfl, .inl ⟨kvs, .inl h⟩, k⟩
theorem v_putS {kvs : List (Key × V)} {n : Str} {Q : Hp -> Prop} (S : M Rs H) (i : Nat) (e : Rs[i]? = some (pt a (.dK kvs))) (hz : kvs.length < 100000) (k : ∀ H', M (Rs.set i (pt a (.dK (putK kvs (Sum.inr n) v)))) H' -> Q H') : uSet (.ref a) (.str n) v H Q :=
 .inr ⟨a, _, rfl, DPut.k (k := Sum.inr n) (S.got i e) (Nat.lt_of_lt_of_le hz (by decide)), k _ (S.putAt i e)⟩
theorem v_lenD {kvs : List (Key × V)} (h : H a = some (.dK kvs)) (k : Q (.int (kvs.length : Nat)) H) : uLen K [.ref a] H Q := .inr ⟨a, kvs, rfl, .inl h, k⟩
theorem v_isi {x : V} {ty : Value} {c : String} {b : Bool} (h : TyX K H x ty) (e : PySem.W.kitOne K ty (.type c) = some b) (k : Q (.bl b) H) : rIsi K [x, .ty c] H Q := ⟨x, .ty c, ty, _, b, rfl, .ty c, h, e, k⟩
theorem g_callE {cls : Value} {d : Option Addr} {sp : Addr -> Value -> Option Addr -> Hp -> VK -> Prop} (k : te σ H λ x H1 => x = .ref a /\ sp a cls d H1 Q) : tCallE a cls d sp te σ H Q := k
theorem g_xg {cls : Value} {d : Option Addr} {n : Str} (k : te σ H λ x H1 => x = .ref a /\ ∃ D dd fs v, cls = .ref D /\ ExcC K D /\ PySem.W.findIn K (.ref D) n = some none /\ d = some dd /\ H1 dd = some (.xd fs) /\ fs.lookup n = some v /\ Q v H1) : tXg K a cls d n te σ H Q := k
theorem v_xg {D dd : Addr} {fs : List (Str × V)} {n : Str} (c : ExcC K D) (hn : PySem.W.findIn K (.ref D) n = some none) (h : H dd = some (.xd fs)) (l : fs.lookup n = some v) (k : Q v H) :
   V.ref a = .ref a /\ ∃ D' dd' fs' v', Value.ref D = .ref D' /\ ExcC K D' /\ PySem.W.findIn K (.ref D') n = some none /\ some dd = some dd' /\ H dd' = some (.xd fs') /\ fs'.lookup n = some v' /\ Q v' H := ⟨rfl, D, dd, fs, v, rfl, c, hn, rfl, h, l, k⟩
theorem v_isX {D dd B : Addr} {fs : List (Str × V)} {b : Bool} (c : ExcC K D) (h : H dd = some (.xd fs)) (e : PySem.W.kitOne K (.ref D) (.ref B) = some b) (k : Q (.bl b) H) : uIsX K a (.ref D) (some dd) [.ref a, .ref B] H Q :=
 .inl ⟨.ref B, .ref B, b, rfl, ⟨D, rfl, c, .inr ⟨dd, fs, rfl, h⟩⟩, .own B, e, k⟩
theorem g_try {tb : WX -> TS} {l : List Hd} (k : tb (wTry K W D l) D σ H) : tTry K W tb l D σ H := k
end
theorem Ent.tl {Rs : List Res} {R : Res} {φ : Hp -> Prop} (h : Ent Rs φ) : Ent (R :: Rs) φ := λ H S => h H S.tl
end RC

namespace RC
open PySem PySem.Spec PyProof.Rows L2
def rIntB : List V -> Hp -> VK -> Prop := λ xs H Q => ∃ b : Bool, xs = [.bl b] /\ Q (.int (if b then 1 else 0)) H
theorem cr_intB {X : Cx} : CallR X (.type "int") rIntB := by
 intro pins s σ H xs us Q I rs h
 obtain ⟨b, rfl, h⟩ := h
 cases rs with
 | cons r1 rs =>
   cases rs
   cases r1
   exact call_int_1 (meets_int_new_bool b) (show (Made.int _).post _ s from ⟨rfl, ⟨.int _, H, I.tok _, ⟨_, rfl⟩, h⟩⟩)
theorem v_intB {b : Bool} {H : Hp} {Q : VK} (k : Q (.int (if b then 1 else 0)) H) : rIntB [.bl b] H Q := ⟨b, rfl, k⟩
end RC

namespace RC
open PySem PySem.Spec PyProof.Rows L2
def kD : Key -> PyData
 | .inl i => .int i
 | .inr x => .str x
mutual
inductive Dq (K : Fr) (H : Hp) : V -> PyData -> Prop
 | non : Dq K H .non .none
 | bl (b : Bool) : Dq K H (.bl b) (.bool b)
 | int (i : Int) : Dq K H (.int i) (.int i)
 | str (x : Str) : Dq K H (.str x) (.str x)
 | lst {a : Addr} {vs : List V} {ds : List PyData} (h : SqL K H a vs) (q : DqAll K H vs ds) : Dq K H (.ref a) (.list ds)
 | tup {a : Addr} {vs : List V} {ds : List PyData} (h : SqT K H a vs) (q : DqAll K H vs ds) : Dq K H (.ref a) (.tuple ds)
 | dct {a : Addr} {od : Obj} {kvs : List (Key × V)} {ds : List (PyData × PyData)} (h : H a = some (.frz od (.dK kvs))) (q : DqKv K H kvs ds) : Dq K H (.ref a) (.dict ds)
inductive DqAll (K : Fr) (H : Hp) : List V -> List PyData -> Prop
 | nil : DqAll K H [] []
 | cons {v : V} {vs : List V} {d : PyData} {ds : List PyData} (h : Dq K H v d) (r : DqAll K H vs ds) : DqAll K H (v :: vs) (d :: ds)
inductive DqKv (K : Fr) (H : Hp) : List (Key × V) -> List (PyData × PyData) -> Prop
 | nil : DqKv K H [] []
 | cons {k : Key} {v : V} {vs : List (Key × V)} {d : PyData} {ds : List (PyData × PyData)} (h : Dq K H v d) (r : DqKv K H vs ds) : DqKv K H ((k, v) :: vs) ((kD k, d) :: ds)
end
mutual
theorem Dq_ext {K : Fr} {H H' : Hp} (e : Ext H H') : ∀ {v : V} {d : PyData}, Dq K H v d -> Dq K H' v d
 | _, _, .non => .non
 | _, _, .bl b => .bl b
 | _, _, .int i => .int i
 | _, _, .str x => .str x
 | _, _, .lst h q => .lst (e.sqL h) (DqAll_ext e q)
 | _, _, .tup h q => .tup (e.sqT h) (DqAll_ext e q)
 | _, _, .dct h q => .dct (e _ _ h) (DqKv_ext e q)
theorem DqAll_ext {K : Fr} {H H' : Hp} (e : Ext H H') : ∀ {vs : List V} {ds : List PyData}, DqAll K H vs ds -> DqAll K H' vs ds
 | _, _, .nil => .nil
 | _, _, .cons h r => .cons (Dq_ext e h) (DqAll_ext e r)
theorem DqKv_ext {K : Fr} {H H' : Hp} (e : Ext H H') : ∀ {vs : List (Key × V)} {ds : List (PyData × PyData)}, DqKv K H vs ds -> DqKv K H' vs ds
 | _, _, .nil => .nil
 | _, _, .cons h r => .cons (Dq_ext e h) (DqKv_ext e r)
end
mutual
theorem Dq.dp {K : Fr} {H : Hp} : ∀ {v : V} {d : PyData}, Dq K H v d -> d.hasDict = false -> Dp K H v d
 | _, _, .non, _ => .non
 | _, _, .bl b, _ => .bl b
 | _, _, .int i, _ => .int i
 | _, _, .str x, _ => .str x
 | _, _, .lst h q, n => .lst h (DqAll.dp q (by simpa only [PyData.hasDict] using n))
 | _, _, .tup h q, n => .tup h (DqAll.dp q (by simpa only [PyData.hasDict] using n))
 | _, _, .dct h q, n => by simp [PyData.hasDict] at n
theorem DqAll.dp {K : Fr} {H : Hp} : ∀ {vs : List V} {ds : List PyData}, DqAll K H vs ds -> PyData.hasDictAll ds = false -> DpAll K H vs ds
 | _, _, .nil, _ => .nil
 | _, _, .cons h r, n => by
   simp only [PyData.hasDictAll, Bool.or_eq_false_iff] at n
   exact .cons (Dq.dp h n.1) (DqAll.dp r n.2)
end
mutual
theorem Dp.dq {K : Fr} {H : Hp} : ∀ {v : V} {d : PyData}, Dp K H v d -> Dq K H v d
 | _, _, .non => .non
 | _, _, .bl b => .bl b
 | _, _, .int i => .int i
 | _, _, .str x => .str x
 | _, _, .lst h q => .lst h (DpAll.dq q)
 | _, _, .tup h q => .tup h (DpAll.dq q)
theorem DpAll.dq {K : Fr} {H : Hp} : ∀ {vs : List V} {ds : List PyData}, DpAll K H vs ds -> DqAll K H vs ds
 | _, _, .nil => .nil
 | _, _, .cons h r => .cons (Dp.dq h) (DpAll.dq r)
end
mutual
inductive Dn (K : Fr) (H : Hp) : V -> PyData -> Prop
 | non : Dn K H .non .none
 | bl (b : Bool) : Dn K H (.bl b) (.bool b)
 | int (i : Int) : Dn K H (.int i) (.int i)
 | str (x : Str) : Dn K H (.str x) (.str x)
 | lst {a : Addr} {vs : List V} {ds : List PyData} (h : SqL K H a vs) (q : DnAll K H vs ds) : Dn K H (.ref a) (.list ds)
 | tup {a : Addr} {vs : List V} {ds : List PyData} (h : SqT K H a vs) (q : DnAll K H vs ds) : Dn K H (.ref a) (.tuple ds)
 | dct {a : Addr} {kvs : List (Key × V)} {ds : List (PyData × PyData)} (h : Rd H a (.dK kvs)) (q : DnKv K H kvs ds) : Dn K H (.ref a) (.dict ds)
inductive DnAll (K : Fr) (H : Hp) : List V -> List PyData -> Prop
 | nil : DnAll K H [] []
 | cons {v : V} {vs : List V} {d : PyData} {ds : List PyData} (h : Dn K H v d) (r : DnAll K H vs ds) : DnAll K H (v :: vs) (d :: ds)
inductive DnKv (K : Fr) (H : Hp) : List (Key × V) -> List (PyData × PyData) -> Prop
 | nil : DnKv K H [] []
 | cons {k : Key} {v : V} {vs : List (Key × V)} {d : PyData} {ds : List (PyData × PyData)} (h : Dn K H v d) (r : DnKv K H vs ds) : DnKv K H ((k, v) :: vs) ((kD k, d) :: ds)
end
mutual
theorem Dq.dn {K : Fr} {H : Hp} : ∀ {v : V} {d : PyData}, Dq K H v d -> Dn K H v d
 | _, _, .non => .non
 | _, _, .bl b => .bl b
 | _, _, .int i => .int i
 | _, _, .str x => .str x
 | _, _, .lst h q => .lst h (DqAll.dn q)
 | _, _, .tup h q => .tup h (DqAll.dn q)
 | _, _, .dct h q => .dct (.inr ⟨_, h⟩) (DqKv.dn q)
theorem DqAll.dn {K : Fr} {H : Hp} : ∀ {vs : List V} {ds : List PyData}, DqAll K H vs ds -> DnAll K H vs ds
 | _, _, .nil => .nil
 | _, _, .cons h r => .cons (Dq.dn h) (DqAll.dn r)
theorem DqKv.dn {K : Fr} {H : Hp} : ∀ {vs : List (Key × V)} {ds : List (PyData × PyData)}, DqKv K H vs ds -> DnKv K H vs ds
 | _, _, .nil => .nil
 | _, _, .cons h r => .cons (Dq.dn h) (DqKv.dn r)
end
mutual
theorem Dn.dp {K : Fr} {H : Hp} : ∀ {v : V} {d : PyData}, Dn K H v d -> d.hasDict = false -> Dp K H v d
 | _, _, .non, _ => .non
 | _, _, .bl b, _ => .bl b
 | _, _, .int i, _ => .int i
 | _, _, .str x, _ => .str x
 | _, _, .lst h q, n => .lst h (DnAll.dp q (by simpa only [PyData.hasDict] using n))
 | _, _, .tup h q, n => .tup h (DnAll.dp q (by simpa only [PyData.hasDict] using n))
 | _, _, .dct h q, n => by simp [PyData.hasDict] at n
theorem DnAll.dp {K : Fr} {H : Hp} : ∀ {vs : List V} {ds : List PyData}, DnAll K H vs ds -> PyData.hasDictAll ds = false -> DpAll K H vs ds
 | _, _, .nil, _ => .nil
 | _, _, .cons h r, n => by
   simp only [PyData.hasDictAll, Bool.or_eq_false_iff] at n
   exact .cons (Dn.dp h n.1) (DnAll.dp r n.2)
end
abbrev eI : Int -> PyData := PyData.int
abbrev eB : Bool -> PyData := PyData.bool
abbrev eS : Str -> PyData := PyData.str
abbrev eN : Unit -> PyData := λ _ => PyData.none
abbrev eA : PyData -> PyData := id
def eL {α : Type} (e : α -> PyData) (xs : List α) : PyData := .list (xs.map e)
def eV {α : Type} (e : α -> PyData) (xs : List α) : PyData := .tuple (xs.map e)
def eP {α β : Type} (e : α -> PyData) (f : β -> PyData) (x : α × β) : PyData := .tuple [e x.1, f x.2]
def eT3 {α β γ : Type} (e : α -> PyData) (f : β -> PyData) (g : γ -> PyData) (x : α × β × γ) : PyData := .tuple [e x.1, f x.2.1, g x.2.2]
abbrev iS : Str -> Key := Sum.inr
def eD {κ α : Type} (ik : κ -> Key) (e : α -> PyData) (m : List (κ × α)) : PyData := .dict (m.map λ p => (kD (ik p.1), e p.2))
def da (K : Fr) (v : V) (d : PyData) : Res := ⟨λ F l => l = [] /\ Dq K F v d, λ _ _ _ e h => ⟨h.1, Dq_ext e h.2⟩⟩
def daA (K : Fr) (vs : List V) (ds : List PyData) : Res := ⟨λ F l => l = [] /\ DqAll K F vs ds, λ _ _ _ e h => ⟨h.1, DqAll_ext e h.2⟩⟩
def EnF (Rs : List Res) (φ : Hp -> Prop) : Prop := ∀ F L, Sat F Rs L -> φ F
theorem Sat.get {F : Hp} : ∀ {Rs : List Res} {L : List Cell} (i : Nat) {R : Res}, Sat F Rs L -> Rs[i]? = some R -> ∃ l, R.on F l
 | [], L, i, R, _, e => by simp at e
 | S :: Rs, L, 0, R, ⟨l1, l2, _, a, _⟩, e => by
   have e : S = R := Option.some.inj e
   subst e
   exact ⟨l1, a⟩
 | S :: Rs, L, i + 1, R, ⟨l1, l2, _, _, b⟩, e => Sat.get i b (by simpa using e)
section
variable {K : Fr} {Rs R0 : List Res} {H : Hp} {v : V} {d : PyData} {vs : List V} {ds : List PyData} {φ ψ : Hp -> Prop}
theorem M.gotA (S : M Rs H) (i : Nat) (e : Rs[i]? = some (da K v d)) : Dq K H v d := by
 obtain ⟨F, L, s, m⟩ := S
 obtain ⟨l, h⟩ := s.get i e
 exact Dq_ext m.ex h.2
theorem EnF.at (i : Nat) (e : Rs[i]? = some (da K v d)) : EnF Rs (λ F => Dq K F v d) := λ F L s => by
 obtain ⟨l, h⟩ := s.get i e
 exact h.2
theorem EnF.all (h : ∀ F, φ F) : EnF Rs φ := λ F _ _ => h F
theorem EnF.tl {R : Res} (h : EnF Rs φ) : EnF (R :: Rs) φ := λ F L ⟨_, l2, _, _, b⟩ => h F l2 b
theorem EnF.nilA : EnF Rs (λ F => DqAll K F [] []) := λ _ _ _ => .nil
theorem EnF.consA (h : EnF Rs (λ F => Dq K F v d)) (r : EnF Rs (λ F => DqAll K F vs ds)) : EnF Rs (λ F => DqAll K F (v :: vs) (d :: ds)) := λ F L s => .cons (h F L s) (r F L s)
theorem M.of (S : M Rs H) (h : EnF Rs φ) (mono : ∀ F, Ext F H -> φ F -> ψ H) : ψ H := by
 obtain ⟨F, L, s, m⟩ := S
 exact mono F m.ex (h F L s)
theorem M.dq (S : M Rs H) (h : EnF Rs (λ F => Dq K F v d)) : Dq K H v d := by
 obtain ⟨F, L, s, m⟩ := S
 exact Dq_ext m.ex (h F L s)
theorem M.addA (S : M Rs H) (h : EnF Rs (λ F => Dq K F v d)) : M (da K v d :: Rs) H := by
 obtain ⟨F, L, s, m⟩ := S
 exact ⟨F, L, ⟨[], L, rfl, ⟨rfl, h F L s⟩, s⟩, m⟩
end
end RC

namespace RC
open PySem PySem.Spec PyProof.Rows L2
def forD {α β : Type} (f : α -> β -> (β -> Prop) -> Prop) : List α -> β -> (β -> Prop) -> Prop
 | [], s, k => k s
 | x :: xs, s, k => f x s λ s' => forD f xs s' k
def lcD {α β : Type} (f : α -> (Option β -> Prop) -> Prop) : List α -> List β -> (List β -> Prop) -> Prop
 | [], acc, k => k acc
 | x :: xs, acc, k => f x λ y => lcD f xs (acc ++ y.toList) k
def jn {β : Type} (m : (β -> Prop) -> Prop) (k : β -> Prop) : Prop := m k
abbrev sno {α : Type} (xs : List α) (x : α) : List α := xs ++ [x]
abbrev cat {α : Type} (xs ys : List α) : List α := xs ++ ys
def takeD (n : Int) (k : Int -> Prop) : Prop := (0 < n /\ n < 2 ^ 62) /\ ∀ v, 0 <= v -> v < n -> k v
def rng (n : Int) : List Int := (List.range n.toNat).map λ i => (0 : Int) + (i : Nat)
def cutL {α : Type} (xs : List α) (lo hi : Option Int) : List α := (xs.drop (HT.sIx xs.length 0 lo)).take (HT.sIx xs.length xs.length hi - HT.sIx xs.length 0 lo)
section
variable {K : Fr} {σ : L2.St} {H : Hp} {Q : VK} {D : Ends} {Rs : List Res} {E : XK} {t u : TS} {α β : Type}
theorem v_iff {b : Bool} {A B X Y : Prop} (hf : if b = true then X else Y) (h1 : b = true -> X -> A) (h2 : b = false -> Y -> B) : if b = true then A else B := by
 cases b with
 | true => exact h1 rfl (by simpa using hf)
 | false => exact h2 rfl (by simpa using hf)
theorem jn_cut {m : (β -> Prop) -> Prop} {KK : β -> Prop} (hf : jn m KK) (Inv : β -> L2.St -> Hp -> Prop)
   (h1 : ∀ (kk : β -> Prop) (N : L2.St -> Hp -> Prop), (∀ s σ H, kk s -> Inv s σ H -> N σ H) -> m kk -> t ⟨N, D.rt, D.bk, D.ct⟩ σ H)
   (h2 : ∀ s σ H, KK s -> Inv s σ H -> u D σ H) : tSeq t u D σ H := h1 KK (u D) h2 hf
theorem M.openQ {v : V} {ds : List PyData} (S : M (da K v (.list ds) :: Rs) H) : ∃ a vs, v = .ref a /\ M (rdL K a vs :: daA K vs ds :: Rs) H := by
 obtain ⟨F, L, ⟨l1, l2, rfl, ⟨rfl, e⟩, b⟩, m⟩ := S
 cases e with
 | lst h1 h2 => exact ⟨_, _, rfl, F, l2, ⟨[], l2, rfl, ⟨rfl, h1⟩, [], l2, rfl, ⟨rfl, h2⟩, b⟩, m⟩
theorem DqAll.len : ∀ {vs : List V} {ds : List PyData}, DqAll K H vs ds -> vs.length = ds.length
 | _, _, .nil => rfl
 | _, _, .cons _ r => by rw [List.length_cons, List.length_cons, DqAll.len r]
theorem DqAll.at : ∀ {vs : List V} {ds : List PyData}, DqAll K H vs ds -> ∀ {i : Nat} {v : V} {d : PyData}, vs[i]? = some v -> ds[i]? = some d -> Dq K H v d
 | _, _, .nil, i, v, d, h, _ => by simp at h
 | _, _, .cons a r, 0, v, d, h, g => by
   cases (Option.some.inj (show some _ = some v from h))
   cases (Option.some.inj (show some _ = some d from g))
   exact a
 | _, _, .cons a r, i + 1, v, d, h, g => DqAll.at r (by simpa using h) (by simpa using g)
theorem M.gotAA {vs : List V} {ds : List PyData} (S : M Rs H) (i : Nat) (e : Rs[i]? = some (daA K vs ds)) : DqAll K H vs ds := by
 obtain ⟨F, L, s, m⟩ := S
 obtain ⟨l, h⟩ := s.get i e
 exact DqAll_ext m.ex h.2
theorem M.elA {e : α -> PyData} {vs : List V} {xs : List α} {i : Nat} {v : V} {x : α} (S : M Rs H) (j : Nat) (hj : Rs[j]? = some (daA K vs (xs.map e))) (hv : vs[i]? = some v) (hx : xs[i]? = some x) : M (da K v (e x) :: Rs) H :=
 S.addA λ F L s => by
   obtain ⟨l, h⟩ := s.get j hj
   exact h.2.at hv (by rw [List.getElem?_map, hx]; rfl)
theorem for_lst {F : α -> β -> (β -> Prop) -> Prop} {e : α -> PyData} {xs : List α} {vs : List V} {s0 : β} {KK : β -> Prop} {a : Addr} {g : TG} {tb : TS} (hf : forD F xs s0 KK) (Inv : β -> L2.St -> Hp -> Prop) (h0 : Inv s0 σ H)
   (hrd : ∀ s σ H, Inv s σ H -> SqL K H a vs /\ DqAll K H vs (xs.map e))
   (hs : ∀ (i : Nat) v x s σ H (kk : β -> Prop), Inv s σ H -> vs[i]? = some v -> xs[i]? = some x -> F x s kk -> g v σ H λ σ2 H2 => tb ⟨λ σ H => ∃ s', kk s' /\ Inv s' σ H, D.rt, D.nx, λ σ H => ∃ s', kk s' /\ Inv s' σ H⟩ σ2 H2)
   (hd : ∀ s σ H, KK s -> Inv s σ H -> D.nx σ H) : ForW (Itl K a) g tb D σ H := by
 have hl : vs.length = xs.length := by
   have := (hrd s0 σ H h0).2.len
   rwa [List.length_map] at this
 refine for_W walk_list (λ i σ H => ∃ s, forD F (xs.drop i) s KK /\ Inv s σ H) ⟨s0, by simpa using hf, h0⟩ (λ i σ H _ ⟨s, _, h⟩ => (hrd s σ H h).1) ?_ ?_
 · rintro i v σ H H' hi ⟨s, hf, h⟩ ⟨rfl, hv⟩
   have hi2 : i < xs.length := by omega
   rw [List.drop_eq_getElem_cons hi2] at hf
   exact hs i v _ s σ H' _ h hv (List.getElem?_eq_getElem hi2) hf
 · rintro σ H ⟨s, hf, h⟩
   rw [hl, List.drop_length] at hf
   exact hd s σ H hf h
theorem rng_len (n : Int) : (rng n).length = n.toNat := by simp [rng]
theorem rng_get {n : Int} {i : Nat} (h : i < n.toNat) : (rng n)[i]? = some ((0 : Int) + (i : Nat)) := by
 unfold rng
 rw [List.getElem?_map, List.getElem?_range h]
 rfl
theorem for_rng {F : Int -> β -> (β -> Prop) -> Prop} {n : Int} {s0 : β} {KK : β -> Prop} {g : TG} {tb : TS} (hf : forD F (rng n) s0 KK) (Inv : β -> L2.St -> Hp -> Prop) (h0 : Inv s0 σ H)
   (hs : ∀ x s σ H (kk : β -> Prop), Inv s σ H -> F x s kk -> g (.int x) σ H λ σ2 H2 => tb ⟨λ σ H => ∃ s', kk s' /\ Inv s' σ H, D.rt, D.nx, λ σ H => ∃ s', kk s' /\ Inv s' σ H⟩ σ2 H2)
   (hd : ∀ s σ H, KK s -> Inv s σ H -> D.nx σ H) : ForW (Itr 0 n.toNat) g tb D σ H := by
 refine for_W walk_range (λ i σ H => ∃ s, forD F ((rng n).drop i) s KK /\ Inv s σ H) ⟨s0, by simpa using hf, h0⟩ (λ _ _ _ _ _ => trivial) ?_ ?_
 · rintro i v σ H H' hi ⟨s, hf, h⟩ ⟨rfl, rfl⟩
   have hi2 : i < (rng n).length := by rw [rng_len]; exact hi
   rw [List.drop_eq_getElem_cons hi2] at hf
   have e : (rng n)[i] = (0 : Int) + (i : Nat) := Option.some.inj ((List.getElem?_eq_getElem hi2).symm.trans (rng_get hi))
   rw [e] at hf
   exact hs _ s σ H' _ h hf
 · rintro σ H ⟨s, hf, h⟩
   rw [<- rng_len, List.drop_length] at hf
   exact hd s σ H hf h
def acR (K : Fr) (E : Addr) (ds : List PyData) : Res := exi λ vs => sp2 (pt E (.lst vs)) (daA K vs ds)
theorem acR_nil {E : Addr} (S : M (pt E (.lst []) :: Rs) H) : M (acR K E [] :: Rs) H := by
 obtain ⟨F, L, ⟨l1, l2, rfl, a, b⟩, m⟩ := S
 exact ⟨F, _, ⟨l1, l2, rfl, ⟨[], l1, [], by simp, a, rfl, .nil⟩, b⟩, m⟩
theorem acR_fix {E : Addr} {ds : List PyData} (S : M (acR K E ds :: Rs) H) : M (da K (.ref E) (.list ds) :: Rs) H := by
 obtain ⟨vs, S⟩ := S.ex
 obtain ⟨F, L, ⟨l1, l2, rfl, ⟨rfl, fp⟩, l3, l4, rfl, ⟨rfl, q⟩, b⟩, m⟩ := S.sp.fix
 exact ⟨F, l4, ⟨[], l4, rfl, ⟨rfl, .lst (.inl (.inl fp)) q⟩, b⟩, m⟩
theorem DqAll.snoc {v : V} {d : PyData} (h : Dq K H v d) : ∀ {vs : List V} {ds : List PyData}, DqAll K H vs ds -> DqAll K H (vs ++ [v]) (ds ++ [d])
 | _, _, .nil => .cons h .nil
 | _, _, .cons a r => .cons a (DqAll.snoc h r)
theorem acR_put {N : Hp -> Prop} {E : Addr} {ds : List PyData} {y : V} {d : PyData} (S : M Rs H) (j : Nat) (hj : Rs[j]? = some (acR K E ds)) (h : EnF Rs (λ F => Dq K F y d)) (hz : ds.length < 100000) (k : ∀ H', M (acR K E (ds ++ [d]) :: Rs.eraseIdx j) H' -> N H') : LcK N E y H := by
 have S0 : M (da K y d :: Rs) H := S.addA h
 have S1 : M (acR K E ds :: da K y d :: Rs.eraseIdx j) H := (S0.at (j + 1) (by simpa using hj))
 obtain ⟨vs, S2⟩ := S1.ex
 have S3 := S2.sp
 have hl : vs.length = ds.length := (S3.gotAA 1 rfl).len
 refine ⟨vs, S3.got 0 rfl, Nat.lt_of_lt_of_le (by rw [hl]; exact hz) (by decide), k _ ?_⟩
 have S4 := S3.putAt (o' := .lst (vs ++ [y])) 0 rfl
 obtain ⟨F, L, ⟨l1, l2, rfl, a, l3, l4, rfl, ⟨rfl, q⟩, l5, l6, rfl, ⟨rfl, q2⟩, b⟩, m⟩ := S4
 exact ⟨F, _, ⟨l1, l6, by simp, ⟨vs ++ [y], l1, [], by simp, a, rfl, DqAll.snoc q2 q⟩, b⟩, m⟩
theorem lc_lst {te : TE} {tt : TT} {g : TG} {ws : List Nat} {F : α -> (Option β -> Prop) -> Prop} {e : α -> PyData} {e' : β -> PyData} {xs : List α} {vs : List V} {KK : List β -> Prop} {a : Addr} (hf : xs.length <= 100000 /\ lcD F xs [] KK) (S : M Rs H)
   (hrd : ∀ H, M Rs H -> SqL K H a vs /\ DqAll K H vs (xs.map e))
   (hs : ∀ (i : Nat) v x (acc : List β) E H (kk : Option β -> Prop) (N : Hp -> Prop), (acc.map e').length < 100000 -> M (acR K E (acc.map e') :: Rs) H -> vs[i]? = some v -> xs[i]? = some x -> F x kk ->
     (∀ y H, kk (some y) -> M (acR K E (acc.map e' ++ [e' y]) :: Rs) H -> N H) -> (∀ H, kk none -> M (acR K E (acc.map e') :: Rs) H -> N H) -> g v (wipe σ ws) H λ σ2 H2 => wipe σ2 ws = wipe σ ws /\ tt σ2 H2 λ b H3 =>
     if b = true then te σ2 H3 (LcK N E) else N H3)
   (hd : ∀ E (acc : List β) H, KK acc -> M (acR K E (acc.map e') :: Rs) H -> Q (.ref E) H) : LcW (Itl K a) g tt te ws σ Q H := by
 obtain ⟨hz, hf⟩ := hf
 have hl : vs.length = xs.length := by
   have := (hrd H S).2.len
   rwa [List.length_map] at this
 refine lc_X walk_list (λ E i H => ∃ acc, lcD F (xs.drop i) acc KK /\ acc.length <= i /\ M (acR K E (acc.map e') :: Rs) H) (λ E hE => ⟨[], by simpa using hf, Nat.le_refl _, acR_nil (S.new hE)⟩) (λ E i H _ ⟨acc, _, _, S⟩ => (hrd H S.tl).1) ?_ ?_
 · rintro E i v H H' hi ⟨acc, hf, ha, S⟩ ⟨rfl, hv⟩
   have hi2 : i < xs.length := by omega
   rw [List.drop_eq_getElem_cons hi2] at hf
   refine hs i v _ acc E H' _ _ (by rw [List.length_map]; omega) S hv (List.getElem?_eq_getElem hi2) hf (λ y H hk S => ⟨acc ++ [y], hk, by rw [List.length_append]; simpa using ha, by rw [List.map_append]; exact S⟩) (λ H hk S => ⟨acc, ?_, by omega, S⟩)
   simpa using hk
 · rintro E H ⟨acc, hf, ha, S⟩
   rw [hl, List.drop_length] at hf
   exact hd E acc H hf S
theorem lc_rng {te : TE} {tt : TT} {g : TG} {ws : List Nat} {F : Int -> (Option β -> Prop) -> Prop} {e' : β -> PyData} {n : Int} {KK : List β -> Prop} (hf : (rng n).length <= 100000 /\ lcD F (rng n) [] KK) (S : M Rs H)
   (hs : ∀ x (acc : List β) E H (kk : Option β -> Prop) (N : Hp -> Prop), (acc.map e').length < 100000 -> M (acR K E (acc.map e') :: Rs) H -> F x kk ->
     (∀ y H, kk (some y) -> M (acR K E (acc.map e' ++ [e' y]) :: Rs) H -> N H) -> (∀ H, kk none -> M (acR K E (acc.map e') :: Rs) H -> N H) -> g (.int x) (wipe σ ws) H λ σ2 H2 => wipe σ2 ws = wipe σ ws /\ tt σ2 H2 λ b H3 =>
     if b = true then te σ2 H3 (LcK N E) else N H3)
   (hd : ∀ E (acc : List β) H, KK acc -> M (acR K E (acc.map e') :: Rs) H -> Q (.ref E) H) : LcW (Itr 0 n.toNat) g tt te ws σ Q H := by
 obtain ⟨hz, hf⟩ := hf
 rw [rng_len] at hz
 refine lc_X walk_range (λ E i H => ∃ acc, lcD F ((rng n).drop i) acc KK /\ acc.length <= i /\ M (acR K E (acc.map e') :: Rs) H) (λ E hE => ⟨[], by simpa using hf, Nat.le_refl _, acR_nil (S.new hE)⟩) (λ E i H _ _ => trivial) ?_ ?_
 · rintro E i v H H' hi ⟨acc, hf, ha, S⟩ ⟨rfl, rfl⟩
   have hi2 : i < (rng n).length := by rw [rng_len]; exact hi
   rw [List.drop_eq_getElem_cons hi2] at hf
   have e : (rng n)[i] = (0 : Int) + (i : Nat) := Option.some.inj ((List.getElem?_eq_getElem hi2).symm.trans (rng_get hi))
   rw [e] at hf
   refine hs _ acc E H' _ _ (by rw [List.length_map]; omega) S hf (λ y H hk S => ⟨acc ++ [y], hk, by rw [List.length_append]; simpa using ha, by rw [List.map_append]; exact S⟩) (λ H hk S => ⟨acc, ?_, by omega, S⟩)
   simpa using hk
 · rintro E H ⟨acc, hf, ha, S⟩
   rw [<- rng_len, List.drop_length] at hf
   exact hd E acc H hf S
theorem M.fixG {p : Addr} {o : HO} {R : Res} {φ : Hp -> Prop} (S : M (pt p o :: Rs) H) (h : EnF Rs φ) (k : ∀ F, φ F -> F p = some o -> R.on F []) : M (R :: Rs) H := by
 obtain ⟨F, L, ⟨l1, l2, rfl, ⟨rfl, fp⟩, s⟩, m⟩ := S.fix
 exact ⟨F, l2, ⟨[], l2, rfl, k F (h F l2 s) fp, s⟩, m⟩
theorem M.own {p : Addr} {vs : List V} {ds : List PyData} (S : M (pt p (.lst vs) :: Rs) H) (h : EnF Rs (λ F => DqAll K F vs ds)) : M (acR K p ds :: Rs) H := by
 obtain ⟨F, L, ⟨l1, l2, rfl, a, b⟩, m⟩ := S
 exact ⟨F, _, ⟨l1, l2, rfl, ⟨vs, l1, [], by simp, a, rfl, h F l2 b⟩, b⟩, m⟩
theorem v_lsto {vs : List V} {ds : List PyData} (S : M Rs H) (h : EnF Rs (λ F => DqAll K F vs ds)) (hn : vs.length <= 100000) (k : ∀ p H', M (acR K p ds :: Rs) H' -> Q (.ref p) H') : LstK Q vs H :=
 v_lst S hn λ p H' S' => k p H' (S'.own h)
theorem v_tupq {vs : List V} {ds : List PyData} (S : M Rs H) (h : EnF Rs (λ F => DqAll K F vs ds)) (hn : vs.length <= 100000) (k : ∀ p H', M (da K (.ref p) (.tuple ds) :: Rs) H' -> Q (.ref p) H') : TupK Q vs H :=
 v_tup S hn λ p H' S' => k p H' (S'.fixG h λ F q fp => ⟨rfl, .tup (.inl (.inl fp)) q⟩)
theorem atI_get {γ : Type} {xs : List γ} {i : Int} {x : γ} (h : atI xs i = some x) : ∃ j, ixN xs.length i = some j /\ xs[j]? = some x := by
 unfold atI at h
 cases e : ixN xs.length i with
 | none => rw [e] at h; cases h
 | some j => rw [e] at h; exact ⟨j, rfl, h⟩
theorem atI_of {γ : Type} {xs : List γ} {i : Int} {x : γ} {j : Nat} (h1 : ixN xs.length i = some j) (h2 : xs[j]? = some x) : atI xs i = some x := by
 unfold atI
 rw [h1]
 exact h2
theorem DqAll.get {vs : List V} {ds : List PyData} {j : Nat} {d : PyData} (q : DqAll K H vs ds) (h : ds[j]? = some d) : ∃ v, vs[j]? = some v /\ Dq K H v d := by
 have hj : j < vs.length := by rw [q.len]; exact (List.getElem?_eq_some_iff.mp h).1
 exact ⟨_, List.getElem?_eq_getElem hj, q.at (List.getElem?_eq_getElem hj) h⟩
theorem v_ixq {v : V} {ds : List PyData} {i : Int} {d : PyData} (S : M Rs H) (hj : EnF Rs (λ F => Dq K F v (.list ds)) \/ EnF Rs (λ F => Dq K F v (.tuple ds))) (hx : atI ds i = some d) (k : ∀ u, M (da K u d :: Rs) H -> Q u H) : uIx K v (.int i) H Q := by
 obtain ⟨j, h1, h2⟩ := atI_get hx
 obtain ⟨F, L, s, m⟩ := S
 rcases hj with hj | hj
 · cases hj F L s with
   | lst a q =>
     obtain ⟨u, h3, h4⟩ := q.get h2
     exact v_ixL (m.ex.sqL a) (atI_of (by rw [q.len]; exact h1) h3) (k u ⟨F, L, ⟨[], L, rfl, ⟨rfl, h4⟩, s⟩, m⟩)
 · cases hj F L s with
   | tup a q =>
     obtain ⟨u, h3, h4⟩ := q.get h2
     exact v_ixT (m.ex.sqT a) (atI_of (by rw [q.len]; exact h1) h3) (k u ⟨F, L, ⟨[], L, rfl, ⟨rfl, h4⟩, s⟩, m⟩)
theorem atI_map {γ δ : Type} {f : γ -> δ} {xs : List γ} {i : Int} {x : γ} (h : atI xs i = some x) : atI (xs.map f) i = some (f x) := by
 obtain ⟨j, h1, h2⟩ := atI_get h
 exact atI_of (by rw [List.length_map]; exact h1) (by rw [List.getElem?_map, h2]; rfl)
theorem v_ixv {e : α -> PyData} {v : V} {xs : List α} {i : Int} {x : α} (S : M Rs H) (j : Nat) (hj : Rs[j]? = some (da K v (eV e xs))) (hx : atI xs i = some x) (k : ∀ u, M (da K u (e x) :: Rs) H -> Q u H) : uIx K v (.int i) H Q :=
 v_ixq S (.inr (EnF.at j hj)) (atI_map hx) k
theorem Dq.intV {v : V} {i : Int} (h : Dq K H v (.int i)) : v = .int i := by cases h; rfl
theorem Dq.strV {v : V} {i : Str} (h : Dq K H v (.str i)) : v = .str i := by cases h; rfl
theorem Dq.blV {v : V} {i : Bool} (h : Dq K H v (.bool i)) : v = .bl i := by cases h; rfl
theorem DqAll.takeA : ∀ {vs : List V} {ds : List PyData}, DqAll K H vs ds -> ∀ n, DqAll K H (vs.take n) (ds.take n)
 | _, _, .nil, n => by
   rw [List.take_nil, List.take_nil]
   exact .nil
 | _, _, .cons a r, 0 => .nil
 | _, _, .cons a r, n + 1 => .cons a (DqAll.takeA r n)
theorem DqAll.dropA : ∀ {vs : List V} {ds : List PyData}, DqAll K H vs ds -> ∀ n, DqAll K H (vs.drop n) (ds.drop n)
 | _, _, .nil, n => by
   rw [List.drop_nil, List.drop_nil]
   exact .nil
 | _, _, .cons a r, 0 => .cons a r
 | _, _, .cons a r, n + 1 => DqAll.dropA r n
theorem DqAll.app : ∀ {vs ws : List V} {ds es : List PyData}, DqAll K H vs ds -> DqAll K H ws es -> DqAll K H (vs ++ ws) (ds ++ es)
 | _, _, _, _, .nil, h => h
 | _, _, _, _, .cons a r, h => .cons a (DqAll.app r h)
theorem DqAll.cut {vs : List V} {ds : List PyData} (q : DqAll K H vs ds) (lo hi : Option Int) : DqAll K H (cutV vs lo hi) (cutL ds lo hi) := by
 unfold cutV cutL
 rw [q.len]
 exact (q.dropA _).takeA _
theorem cutL_map {γ δ : Type} (f : γ -> δ) (xs : List γ) (lo hi : Option Int) : cutL (xs.map f) lo hi = (cutL xs lo hi).map f := by
 unfold cutL
 rw [List.length_map, List.map_take, List.map_drop]
theorem len_ok {n : Nat} (h : Nat.ble n 100000 = true) : n <= 100000 := Nat.le_of_ble_eq_true h
theorem acR_fixL {e : α -> PyData} {E : Addr} {xs : List α} (S : M (acR K E (xs.map e) :: Rs) H) : M (da K (.ref E) (eL e xs) :: Rs) H := acR_fix S
theorem M.tyO {p : Addr} {ds : List PyData} {φ : Prop} (S : M Rs H) (j : Nat) (hj : Rs[j]? = some (acR K p ds)) (k : φ) : tyV K "list" (.ref p) H /\ φ := by
 obtain ⟨vs, S1⟩ := (S.at j hj).ex
 exact v_tyL (SqL.of (S1.sp.got 0 rfl)) k
theorem v_apo {p : Addr} {ds : List PyData} {y : V} {d : PyData} (S : M Rs H) (j : Nat) (hj : Rs[j]? = some (acR K p ds)) (h : EnF Rs (λ F => Dq K F y d)) (hz : ds.length < 100000) (k : ∀ H', M (acR K p (ds ++ [d]) :: Rs.eraseIdx j) H' -> Q .non H') : rAppend (.ref p) [y] H Q := by
 have S0 : M (da K y d :: Rs) H := S.addA h
 have S1 : M (acR K p ds :: da K y d :: Rs.eraseIdx j) H := (S0.at (j + 1) (by simpa using hj))
 obtain ⟨vs, S2⟩ := S1.ex
 have S3 := S2.sp
 have hl : vs.length = ds.length := (S3.gotAA 1 rfl).len
 refine v_app S3 0 rfl (by rw [hl]; exact hz) λ H' S4 => k H' ?_
 obtain ⟨F, L, ⟨l1, l2, rfl, a, l3, l4, rfl, ⟨rfl, q⟩, l5, l6, rfl, ⟨rfl, q2⟩, b⟩, m⟩ := S4
 exact ⟨F, _, ⟨l1, l6, by simp, ⟨vs ++ [y], l1, [], by simp, a, rfl, DqAll.snoc q2 q⟩, b⟩, m⟩
theorem v_apl {e : α -> PyData} {p : Addr} {xs : List α} {y : V} {x : α} (S : M Rs H) (j : Nat) (hj : Rs[j]? = some (acR K p (xs.map e))) (h : EnF Rs (λ F => Dq K F y (e x))) (hz : xs.length < 100000) (k : ∀ H', M (acR K p ((xs ++ [x]).map e) :: Rs.eraseIdx j) H' -> Q .non H') : rAppend (.ref p) [y] H Q :=
 v_apo S j hj h (by rw [List.length_map]; exact hz) λ H' S' => k H' (by rw [List.map_append]; exact S')
end
end RC

namespace RC
open PySem PySem.Spec PyProof.Rows L2
section
variable {κ α : Type} [DecidableEq κ]
def lk (m : List (κ × α)) (k : κ) : Option α := (m.find? λ p => decide (p.1 = k)).map (·.2)
def pk (m : List (κ × α)) (k : κ) (x : α) : List (κ × α) := if (m.any λ p => decide (p.1 = k)) = true then m.map (λ p => if p.1 = k then (p.1, x) else p) else m ++ [(k, x)]
def dk (m : List (κ × α)) (k : κ) : List (κ × α) := m.filter λ p => decide (p.1 ≠ k)
def ks (m : List (κ × α)) : List κ := m.map (·.1)
theorem lk_cons (p : κ × α) (m : List (κ × α)) (k : κ) : lk (p :: m) k = if p.1 = k then some p.2 else lk m k := by
 unfold lk
 rw [List.find?_cons]
 by_cases h : p.1 = k
 · simp [h]
 · simp [h]
theorem any_lk (m : List (κ × α)) (k : κ) : (m.any λ p => decide (p.1 = k)) = (lk m k).isSome := by
 induction m with
 | nil => rfl
 | cons p m ih =>
   rw [List.any_cons, ih, lk_cons]
   by_cases h : p.1 = k
   · simp [h]
   · simp [h]
end
inductive TKv {κ α : Type} (K : Fr) (H : Hp) (ik : κ -> Key) (e : α -> PyData) : List (Key × V) -> List (κ × α) -> Prop
 | nil : TKv K H ik e [] []
 | cons {k : κ} {v : V} {x : α} {r : List (Key × V)} {m : List (κ × α)} (h : Dq K H v (e x)) (t : TKv K H ik e r m) : TKv K H ik e ((ik k, v) :: r) ((k, x) :: m)
section
variable {κ α : Type} {K : Fr} {H H' : Hp} {ik : κ -> Key} {e : α -> PyData} {kvs : List (Key × V)} {m : List (κ × α)}
theorem TKv.ext (x : Ext H H') : ∀ {kvs : List (Key × V)} {m : List (κ × α)}, TKv K H ik e kvs m -> TKv K H' ik e kvs m
 | _, _, .nil => .nil
 | _, _, .cons h t => .cons (Dq_ext x h) (TKv.ext x t)
theorem TKv.kv : ∀ {kvs : List (Key × V)} {m : List (κ × α)}, TKv K H ik e kvs m -> DqKv K H kvs (m.map λ p => (kD (ik p.1), e p.2))
 | _, _, .nil => .nil
 | _, _, .cons h t => .cons h (TKv.kv t)
theorem TKv.len : ∀ {kvs : List (Key × V)} {m : List (κ × α)}, TKv K H ik e kvs m -> kvs.length = m.length
 | _, _, .nil => rfl
 | _, _, .cons h t => by rw [List.length_cons, List.length_cons, TKv.len t]
theorem TKv.keys : ∀ {kvs : List (Key × V)} {m : List (κ × α)}, TKv K H ik e kvs m -> kvs.map (·.1) = (ks m).map ik
 | _, _, .nil => rfl
 | _, _, .cons h t => by
   have := TKv.keys t
   simp only [ks, List.map_cons] at this ⊢
   rw [this]
variable [DecidableEq κ]
theorem TKv.some (inj : ∀ a b, ik a = ik b -> a = b) {k : κ} {x : α} : ∀ {kvs : List (Key × V)} {m : List (κ × α)}, TKv K H ik e kvs m -> lk m k = some x -> ∃ v, valV kvs (ik k) = Option.some v /\ Dq K H v (e x)
 | _, _, .nil, h => by cases h
 | _, _, .cons (k := k') h t, g => by
   rw [lk_cons] at g
   by_cases z : k' = k
   · subst z
     rw [if_pos rfl] at g
     cases g
     exact ⟨_, valV_pos rfl, h⟩
   · rw [if_neg z] at g
     obtain ⟨v, a, b⟩ := TKv.some inj t g
     exact ⟨v, by rw [valV_neg (λ q => z (inj _ _ q))]; exact a, b⟩
theorem TKv.none (inj : ∀ a b, ik a = ik b -> a = b) {k : κ} : ∀ {kvs : List (Key × V)} {m : List (κ × α)}, TKv K H ik e kvs m -> lk m k = none -> valV kvs (ik k) = Option.none
 | _, _, .nil, h => rfl
 | _, _, .cons (k := k') h t, g => by
   rw [lk_cons] at g
   by_cases z : k' = k
   · subst z
     rw [if_pos rfl] at g
     cases g
   · rw [if_neg z] at g
     rw [valV_neg (λ q => z (inj _ _ q))]
     exact TKv.none inj t g
theorem TKv.isSome (inj : ∀ a b, ik a = ik b -> a = b) (t : TKv K H ik e kvs m) (k : κ) : (valV kvs (ik k)).isSome = (lk m k).isSome := by
 cases h : lk m k with
 | none =>
   rw [t.none inj h]
   rfl
 | some x =>
   obtain ⟨v, a, _⟩ := t.some inj h
   rw [a]
   rfl
theorem TKv.app {r : List (Key × V)} {n : List (κ × α)} (b : TKv K H ik e r n) : ∀ {kvs : List (Key × V)} {m : List (κ × α)}, TKv K H ik e kvs m -> TKv K H ik e (kvs ++ r) (m ++ n)
 | _, _, .nil => b
 | _, _, .cons h t => .cons h (TKv.app b t)
theorem TKv.upd (inj : ∀ a b, ik a = ik b -> a = b) {k : κ} {x : α} {v : V} (d : Dq K H v (e x)) : ∀ {kvs : List (Key × V)} {m : List (κ × α)}, TKv K H ik e kvs m ->
   TKv K H ik e (kvs.map λ kv => if kv.1 = ik k then (kv.1, v) else kv) (m.map λ p => if p.1 = k then (p.1, x) else p)
 | _, _, .nil => .nil
 | _, _, .cons (k := k') h t => by
   rw [List.map_cons, List.map_cons]
   by_cases z : k' = k
   · subst z
     rw [if_pos rfl, if_pos rfl]
     exact .cons d (TKv.upd inj d t)
   · rw [if_neg (λ q => z (inj _ _ q)), if_neg z]
     exact .cons h (TKv.upd inj d t)
theorem TKv.put (inj : ∀ a b, ik a = ik b -> a = b) {k : κ} {x : α} {v : V} (t : TKv K H ik e kvs m) (d : Dq K H v (e x)) : TKv K H ik e (putK kvs (ik k) v) (pk m k x) := by
 unfold putK pk
 rw [any_lk m k, valV_any (ik k) kvs, t.isSome inj]
 cases lk m k with
 | none =>
   rw [if_neg (by simp), if_neg (by simp)]
   exact TKv.app (.cons d .nil) t
 | some y =>
   rw [if_pos (by rfl), if_pos (by rfl)]
   exact TKv.upd inj d t
theorem TKv.drop (inj : ∀ a b, ik a = ik b -> a = b) {k : κ} : ∀ {kvs : List (Key × V)} {m : List (κ × α)}, TKv K H ik e kvs m -> TKv K H ik e (dropK kvs (ik k)) (dk m k)
 | _, _, .nil => .nil
 | _, _, .cons (k := k') h t => by
   have ih := TKv.drop (k := k) inj t
   unfold dropK dk at ih ⊢
   by_cases z : k' = k
   · subst z
     rw [List.filter_cons_of_neg (by simp), List.filter_cons_of_neg (by simp)]
     exact ih
   · rw [List.filter_cons_of_pos (by simpa using λ q => z (inj _ _ q)), List.filter_cons_of_pos (by simpa using z)]
     exact .cons h ih
end
theorem injS (a b : Str) (h : iS a = iS b) : a = b := Sum.inr.inj h
section
variable {κ α : Type} {K : Fr} {ik : κ -> Key} {e : α -> PyData} {m : List (κ × α)} {Rs : List Res} {H : Hp} {Q : VK} {σ : L2.St} {D : Ends} {p : Addr}
def tkR (K : Fr) (ik : κ -> Key) (e : α -> PyData) (kvs : List (Key × V)) (m : List (κ × α)) : Res := ⟨λ F l => l = [] /\ TKv K F ik e kvs m, λ _ _ _ x h => ⟨h.1, TKv.ext x h.2⟩⟩
def adR (K : Fr) (ik : κ -> Key) (e : α -> PyData) (p : Addr) (m : List (κ × α)) : Res := exi λ kvs => sp2 (pt p (.dK kvs)) (tkR K ik e kvs m)
theorem M.gotT {kvs : List (Key × V)} (S : M Rs H) (i : Nat) (h : Rs[i]? = some (tkR K ik e kvs m)) : TKv K H ik e kvs m := by
 obtain ⟨F, L, s, mm⟩ := S
 obtain ⟨l, h⟩ := s.get i h
 exact TKv.ext mm.ex h.2
theorem adR_open (S : M Rs H) (j : Nat) (hj : Rs[j]? = some (adR K ik e p m)) : ∃ kvs, M (pt p (.dK kvs) :: tkR K ik e kvs m :: Rs.eraseIdx j) H := by
 obtain ⟨kvs, S1⟩ := (S.at j hj).ex
 exact ⟨kvs, S1.sp⟩
theorem adR_close {kvs : List (Key × V)} (S : M (pt p (.dK kvs) :: tkR K ik e kvs m :: Rs) H) : M (adR K ik e p m :: Rs) H := M.ex' (T := λ kvs => sp2 (pt p (.dK kvs)) (tkR K ik e kvs m)) kvs S.sp'
theorem v_dnewo (S : M Rs H) (k : ∀ p H', M (adR K ik e p ([] : List (κ × α)) :: Rs) H' -> Q (.ref p) H') : tDNewK σ H Q := v_dnew S λ p H' S' => k p H' (by
 obtain ⟨F, L, ⟨l1, l2, rfl, a, b⟩, mm⟩ := S'
 exact ⟨F, _, ⟨l1, l2, rfl, ⟨[], l1, [], by simp, a, rfl, .nil⟩, b⟩, mm⟩)
theorem M.gotDk (S : M Rs H) (j : Nat) (hj : Rs[j]? = some (adR K ik e p m)) : ∃ kvs, H p = some (.dK kvs) /\ TKv K H ik e kvs m := by
 obtain ⟨kvs, S1⟩ := adR_open S j hj
 exact ⟨kvs, S1.got 0 rfl, S1.gotT 1 rfl⟩
variable [DecidableEq κ]
theorem putd_core {k : κ} {x : α} {y : V} (inj : ∀ a b, ik a = ik b -> a = b) (S : M Rs H) (j : Nat) (hj : Rs[j]? = some (adR K ik e p m)) (h : EnF Rs (λ F => Dq K F y (e x))) :
   ∃ kvs, H p = some (.dK kvs) /\ kvs.length = m.length /\ M (adR K ik e p (pk m k x) :: Rs.eraseIdx j) (upd H p (.dK (putK kvs (ik k) y))) := by
 have S0 : M (da K y (e x) :: Rs) H := S.addA h
 obtain ⟨kvs, S1⟩ := adR_open S0 (j + 1) (by simpa using hj)
 have hl := (S1.gotT 1 rfl).len
 refine ⟨kvs, S1.got 0 rfl, hl, ?_⟩
 have S2 := S1.putAt (o' := .dK (putK kvs (ik k) y)) 0 rfl
 obtain ⟨F, L, ⟨l1, l2, rfl, a, l3, l4, rfl, ⟨rfl, t⟩, l5, l6, rfl, ⟨rfl, d⟩, b⟩, mm⟩ := S2
 exact ⟨F, _, ⟨l1, l6, by simp, ⟨_, l1, [], by simp, a, rfl, t.put inj d⟩, b⟩, mm⟩
theorem v_putdS {e : α -> PyData} {m : List (Str × α)} {n : Str} {x : α} {y : V} {Q : Hp -> Prop} (S : M Rs H) (j : Nat) (hj : Rs[j]? = some (adR K iS e p m)) (h : EnF Rs (λ F => Dq K F y (e x))) (hz : m.length < 100000)
   (k : ∀ H', M (adR K iS e p (pk m n x) :: Rs.eraseIdx j) H' -> Q H') : uSet (.ref p) (.str n) y H Q := by
 obtain ⟨kvs, h1, h2, S2⟩ := putd_core (k := n) injS S j hj h
 exact .inr ⟨p, _, rfl, DPut.k (k := Sum.inr n) h1 (Nat.lt_of_lt_of_le (by rw [h2]; exact hz) (by decide)), k _ S2⟩
def FzK (Q : VK) : VK := λ v H => Q v H \/ ∃ d u, H d = some u /\ Mut (some u) /\ ∀ od, Q v (upd H d (.frz od u))
def tFzE (t : TE) : TE := λ σ H Q => t σ H (FzK Q)
theorem pe_fz {X : Cx} {x : Expr} {t : TE} (h : PE X x t) : PE X x (tFzE t) := ⟨λ pins s σ H Q I hw => thn (h.run pins s σ H _ I hw) λ v s1 ⟨y, H1, I1, r, q⟩ => by
 rcases q with q | ⟨d, u, hd, mu, q⟩
 · exact ⟨y, H1, I1, r, q⟩
 · obtain ⟨od, I2⟩ := I1.lock hd mu
   exact ⟨y, _, I2, r, q od⟩⟩
theorem adR_frz {kvs : List (Key × V)} {od : Obj} (S : M (pt p (.dK kvs) :: tkR K ik e kvs m :: Rs) H) : M (da K (.ref p) (eD ik e m) :: Rs) (upd H p (.frz od (.dK kvs))) := by
 have S1 : M (pt p (.frz od (.dK kvs)) :: tkR K ik e kvs m :: Rs) (upd H p (.frz od (.dK kvs))) := S.putAt 0 rfl
 obtain ⟨F, L, ⟨l1, l2, rfl, ⟨rfl, fp⟩, l3, l4, rfl, ⟨rfl, t⟩, b⟩, mm⟩ := S1.fix
 exact ⟨F, l4, ⟨[], l4, rfl, ⟨rfl, .dct fp t.kv⟩, b⟩, mm⟩
theorem v_fzD {v : V} (S : M Rs H) (j : Nat) (hj : Rs[j]? = some (adR K ik e p m)) (k : ∀ H', M (da K (.ref p) (eD ik e m) :: Rs.eraseIdx j) H' -> Q v H') : FzK Q v H := by
 obtain ⟨kvs, S1⟩ := adR_open S j hj
 exact .inr ⟨p, .dK kvs, S1.got 0 rfl, trivial, λ od => k _ (adR_frz S1)⟩
end
end RC
namespace RC
open PySem PySem.Spec PyProof.Rows L2
def leS (a b : Str) : Bool := !ltCps b.cps.toList a.cps.toList
def srtS' (xs : List Str) : List Str := xs.mergeSort leS
theorem ltCps_irrefl : ∀ a : List Nat, ltCps a a = false
 | [] => rfl
 | x :: r => by simp [ltCps, ltCps_irrefl r]
theorem ltCps_trans : ∀ a b c : List Nat, ltCps a b = true -> ltCps b c = true -> ltCps a c = true
 | [], [], _, h, _ => by simp [ltCps] at h
 | [], _ :: _, [], _, h => by simp [ltCps] at h
 | [], _ :: _, _ :: _, _, _ => rfl
 | _ :: _, [], _, h, _ => by simp [ltCps] at h
 | _ :: _, _ :: _, [], _, h => by simp [ltCps] at h
 | x :: r, y :: s, z :: t, h, g => by
   simp only [ltCps, Bool.or_eq_true, Bool.and_eq_true, decide_eq_true_eq, beq_iff_eq] at h g ⊢
   rcases h with h | ⟨h, h'⟩
   · rcases g with g | ⟨g, _⟩
     · exact .inl (by omega)
     · exact .inl (by omega)
   · rcases g with g | ⟨g, g'⟩
     · exact .inl (by omega)
     · exact .inr ⟨by omega, ltCps_trans r s t h' g'⟩
theorem ltCps_tri : ∀ a b : List Nat, ltCps a b = false -> ltCps b a = false -> a = b
 | [], [], _, _ => rfl
 | [], _ :: _, h, _ => by simp [ltCps] at h
 | _ :: _, [], _, h => by simp [ltCps] at h
 | x :: r, y :: s, h, g => by
   simp only [ltCps, Bool.or_eq_false_iff, Bool.and_eq_false_iff, decide_eq_false_iff_not, beq_eq_false_iff_ne] at h g
   have e : x = y := by omega
   subst e
   rw [ltCps_tri r s (by simpa using h.2) (by simpa using g.2)]
theorem leS_total (a b : Str) : (leS a b || leS b a) = true := by
 unfold leS
 cases h : ltCps b.cps.toList a.cps.toList with
 | false => rfl
 | true =>
   cases g : ltCps a.cps.toList b.cps.toList with
   | false => rfl
   | true =>
     have := ltCps_trans _ _ _ h g
     rw [ltCps_irrefl] at this
     cases this
theorem leS_trans (a b c : Str) (h : leS a b = true) (g : leS b c = true) : leS a c = true := by
 unfold leS at *
 cases k : ltCps c.cps.toList a.cps.toList with
 | false => rfl
 | true =>
   exfalso
   rw [Bool.not_eq_true'] at h g
   cases z : ltCps b.cps.toList c.cps.toList with
   | true =>
     have := ltCps_trans _ _ _ z k
     rw [this] at h
     cases h
   | false =>
     have e := ltCps_tri _ _ z g
     rw [e] at h
     rw [h] at k
     cases k
theorem leS_anti (a b : Str) (h : leS a b = true) (g : leS b a = true) : a = b := by
 unfold leS at *
 rw [Bool.not_eq_true'] at h g
 have e := ltCps_tri _ _ g h
 obtain ⟨x⟩ := a
 obtain ⟨y⟩ := b
 have e' : x = y := Array.toList_inj.mp e
 rw [e']
theorem sortedS_pw : ∀ {l : List Str}, sortedS l = true -> l.Pairwise (λ a b => leS a b = true)
 | [], _ => List.Pairwise.nil
 | [x], _ => by simp
 | x :: y :: r, h => by
   have h' : (!ltCps y.cps.toList x.cps.toList && risingS y r) = true := h
   rw [Bool.and_eq_true] at h'
   have ih := sortedS_pw (l := y :: r) h'.2
   refine List.pairwise_cons.mpr ⟨λ z hz => ?_, ih⟩
   rcases List.mem_cons.mp hz with rfl | hz
   · exact h'.1
   · exact leS_trans _ _ _ h'.1 ((List.pairwise_cons.mp ih).1 z hz)
theorem pwS_eq : ∀ {xs ys : List Str}, xs.Perm ys -> xs.Pairwise (λ a b => leS a b = true) -> ys.Pairwise (λ a b => leS a b = true) -> xs = ys
 | [], ys, p, _, _ => (List.nil_perm.mp p).symm
 | x :: xs, [], p, _, _ => absurd p.length_eq (by simp)
 | x :: xs, y :: ys, p, h1, h2 => by
   obtain ⟨a1, a2⟩ := List.pairwise_cons.mp h1
   obtain ⟨b1, b2⟩ := List.pairwise_cons.mp h2
   have e : x = y := by
     have m1 : y ∈ x :: xs := p.mem_iff.mpr List.mem_cons_self
     have m2 : x ∈ y :: ys := p.mem_iff.mp List.mem_cons_self
     rcases List.mem_cons.mp m1 with z | z
     · exact z.symm
     · rcases List.mem_cons.mp m2 with w | w
       · exact w
       · exact leS_anti _ _ (a1 y z) (b1 x w)
   subst e
   rw [pwS_eq (List.Perm.cons_inv p) a2 b2]
theorem srtS_perm (xs : List Str) : (srtS' xs).Perm xs := List.mergeSort_perm _ _
theorem srtS_pw (xs : List Str) : (srtS' xs).Pairwise (λ a b => leS a b = true) := List.pairwise_mergeSort (le := leS) leS_trans leS_total xs
theorem srtS_eq {ys xs : List Str} (p : ys.Perm xs) (h : sortedS ys = true) : ys = srtS' xs := pwS_eq (p.trans (srtS_perm xs).symm) (sortedS_pw h) (srtS_pw xs)
def rSortDS : List V -> Hp -> VK -> Prop := λ xs H Q => ∃ (a : Addr) (kvs : List (Key × V)) (ks : List Str), xs = [.ref a] /\ Rd H a (.dK kvs) /\ kvs.map (·.1) = ks.map Sum.inr /\ ks.length < 64 /\
 ∀ ys p, ys.Perm ks -> sortedS ys = true -> H p = none -> Q (.ref p) (upd H p (.lst (ys.map V.str)))
theorem cr_sortedDS {X : Cx} (h : X.calm = true) : CallR X (.builtin "sorted") rSortDS := call_sortedD h
section
variable {α : Type} {K : Fr} {e : α -> PyData} {Rs : List Res} {H : Hp} {Q : VK} {p : Addr}
theorem dqAll_strs : ∀ xs : List Str, DqAll K H (xs.map V.str) (xs.map eS)
 | [] => .nil
 | x :: r => .cons (.str x) (dqAll_strs r)
theorem dqAll_ints : ∀ xs : List Int, DqAll K H (xs.map V.int) (xs.map eI)
 | [] => .nil
 | x :: r => .cons (.int x) (dqAll_ints r)
theorem M.ownS {q : Addr} {xs : List Str} (S : M (pt q (.lst (xs.map V.str)) :: Rs) H) : M (acR K q (xs.map eS) :: Rs) H := S.own (EnF.all λ F => dqAll_strs xs)
def atS (s : Str) (i : Int) : Option Str := if s.length <= 100000 then (atI s.cps.toList i).map λ c => ⟨#[c]⟩ else none
theorem v_ixs {s : Str} {i : Int} {c : Str} (h : atS s i = some c) (k : Q (.str c) H) : uIx K (.str s) (.int i) H Q := by
 unfold atS at h
 split at h
 · rename_i hz
   cases e : atI s.cps.toList i with
   | none => rw [e] at h; cases h
   | some n =>
     rw [e] at h
     cases h
     exact .inr (.inr ⟨s, i, n, rfl, rfl, Nat.le_trans hz (by decide), e, k⟩)
 · cases h
def rJoin (K : Fr) : V -> List V -> Hp -> VK -> Prop := λ x xs H Q => ∃ a p, ∃ ys : List Str, x = .str a /\ xs = [.ref p] /\ (SqL K H p (ys.map V.str) \/ SqT K H p (ys.map V.str)) /\ (ys.map (·.length)).sum + ys.length * a.length <= 16777216 /\ Q (.str (Txt.join a ys)) H
theorem g_m1 {r : V -> List V -> Hp -> VK -> Prop} {to te : TE} {σ : L2.St} (k : to σ H λ x H1 => (∃ a, x = .str a) /\ te σ H1 λ y H2 => r x [y] H2 Q) : tM1 r to te σ H Q := k
theorem v_isS {s : Str} {φ : Prop} (k : φ) : (∃ a, V.str s = .str a) /\ φ := ⟨⟨s, rfl⟩, k⟩
theorem DqAll.strs : ∀ {xs : List Str} {vs : List V}, DqAll K H vs (xs.map eS) -> vs = xs.map V.str
 | [], _, h => by cases h; rfl
 | x :: r, _, h => by
   cases h with
   | cons a t => rw [a.strV, DqAll.strs t]; rfl
theorem DqAll.ints : ∀ {xs : List Int} {vs : List V}, DqAll K H vs (xs.map eI) -> vs = xs.map V.int
 | [], _, h => by cases h; rfl
 | x :: r, _, h => by
   cases h with
   | cons a t => rw [a.intV, DqAll.ints t]; rfl
theorem Dq.lstS {v : V} {xs : List Str} (d : Dq K H v (eL eS xs)) : ∃ a, v = .ref a /\ SqL K H a (xs.map V.str) := by
 cases d with
 | lst h q => exact ⟨_, rfl, by rw [<- q.strs]; exact h⟩
theorem v_join {s : Str} {v : V} {xs : List Str} (d : Dq K H v (eL eS xs)) (hz : (xs.map (·.length)).sum + xs.length * s.length <= 16777216) (k : Q (.str (Txt.join s xs)) H) : rJoin K (.str s) [v] H Q := by
 obtain ⟨a, rfl, h⟩ := d.lstS
 exact ⟨s, a, xs, rfl, rfl, .inl h, hz, k⟩
theorem v_lenS {s : Str} (h : s.length <= 100000) (k : Q (.int (s.length : Nat)) H) : uLen K [.str s] H Q := .inl ⟨_, _, rfl, ⟨Nat.le_trans h (by decide), rfl⟩, k⟩
def inSt (c s : Str) : Option Bool := match c.cps.toList with
 | [n] => some (decide (n ∈ s.cps.toList))
 | _ => none
theorem v_ninSt {c s : Str} {b : Bool} (h : inSt c s = some b) (k : Q (.bl (!b)) H) : uNotIn K (.str c) (.str s) H Q := by
 obtain ⟨⟨l⟩⟩ := c
 unfold inSt at h
 match l, h with
 | [n], h =>
   cases h
   exact .inr (.inr (.inr ⟨_, _, rfl, rfl, by rw [show (⟨⟨[n]⟩⟩ : Str) = ⟨#[n]⟩ from rfl, PySem.StrLaws.found_one s n]; exact k⟩))
end
end RC

namespace RC
open PySem PySem.Spec PyProof.Rows L2
section
variable {α β : Type} {K : Fr} {σ : L2.St} {H : Hp} {Q : VK} {D : Ends} {Rs : List Res} {ta tb tc te : TE} {tt s : TT} {c1 c2 : Bool} {x y z : V} {p : Addr}
def Pu (te : TE) (σ : L2.St) (H : Hp) (x : V) : Prop := ∀ P : VK, P x H -> te σ H P
def PuT (tt : TT) (σ : L2.St) (H : Hp) (c : Bool) : Prop := ∀ P : Bool -> Hp -> Prop, P c H -> tt σ H P
theorem g_andP {P : Bool -> Hp -> Prop} (h1 : PuT tt σ H c1) (h2 : PuT s σ H c2) (k : P (c1 && c2) H) : tAnd tt s σ H P := h1 _ (by
 cases c1 with
 | true => exact h2 _ k
 | false => exact k)
theorem g_orP {P : Bool -> Hp -> Prop} (h1 : PuT tt σ H c1) (h2 : PuT s σ H c2) (k : P (c1 || c2) H) : tOr tt s σ H P := h1 _ (by
 cases c1 with
 | true => exact k
 | false => exact h2 _ k)
theorem g_andVP (h1 : Pu ta σ H (.bl c1)) (h2 : Pu tb σ H (.bl c2)) (k : Q (.bl (c1 && c2)) H) : tAndV ta tb σ H Q := h1 _ ⟨c1, rfl, by
 cases c1 with
 | true => exact h2 _ k
 | false => exact k⟩
theorem g_chainP {r r' : R2} (ha : Pu ta σ H x) (hb : Pu tb σ H y) (h1 : ∀ P : VK, P (.bl c1) H -> r x y H P) (hc : Pu tc σ H z) (h2 : ∀ P : VK, P (.bl c2) H -> r' y z H P) (k : Q (.bl (c1 && c2)) H) : tChain r r' ta tb tc σ H Q :=
 ha _ (hb _ (h1 _ ⟨c1, rfl, by
   cases c1 with
   | true => exact hc _ (h2 _ k)
   | false => exact k⟩))
theorem tt_cut {P : Bool -> Hp -> Prop} {m : (Bool -> Prop) -> Prop} {KK : Bool -> Prop} (hf : jn m KK) (Inv : Hp -> Prop) (h1 : ∀ (kk : Bool -> Prop) (P' : Bool -> Hp -> Prop), (∀ c H, kk c -> Inv H -> P' c H) -> m kk -> tt σ H P')
   (h2 : ∀ c H, KK c -> Inv H -> P c H) : tt σ H P := h1 KK P h2 hf
theorem te_cut {m : (Bool -> Prop) -> Prop} {KK : Bool -> Prop} (hf : jn m KK) (Inv : Hp -> Prop) (h1 : ∀ (kk : Bool -> Prop) (P' : VK), (∀ c H, kk c -> Inv H -> P' (.bl c) H) -> m kk -> te σ H P')
   (h2 : ∀ c H, KK c -> Inv H -> Q (.bl c) H) : te σ H Q := h1 KK Q h2 hf
theorem M.gotO {ds : List PyData} (S : M Rs H) (j : Nat) (hj : Rs[j]? = some (acR K p ds)) : Dq K H (.ref p) (.list ds) := by
 obtain ⟨vs, S1⟩ := (S.at j hj).ex
 exact .lst (SqL.of (S1.sp.got 0 rfl)) (S1.sp.gotAA 1 rfl)
abbrev EqOk (d : PyData) : Prop := SeqAt.shaped d = true
theorem EqOk.nodict {d : PyData} (h : EqOk d) : d.hasDict = false := PyData.hasDict_of_canLay d (SeqAt.canLay_of_shaped h)
theorem v_neq {d e : PyData} (h1 : Dq K H x d) (h2 : Dq K H y e) (s1 : EqOk d) (s2 : EqOk e) (k : Q (.bl (!PyData.eqv d e)) H) : uNe K x y H Q := v_neD (h1.dp s1.nodict) (h2.dp s2.nodict) s1 s2 k
theorem M.openP {γ δ : Type} {e : γ -> PyData} {f : δ -> PyData} {v : V} {q : γ × δ} (S : M Rs H) (j : Nat) (hj : Rs[j]? = some (da K v (eP e f q))) : ∃ a u w, v = .ref a /\ SqT K H a [u, w] /\ M (da K u (e q.1) :: da K w (f q.2) :: Rs) H := by
 obtain ⟨F, L, s, m⟩ := S
 cases EnF.at j hj F L s with
 | tup a t =>
   cases t with
   | cons d1 t =>
     cases t with
     | cons d2 t =>
       cases t
       exact ⟨_, _, _, rfl, m.ex.sqT a, F, L, ⟨[], L, rfl, ⟨rfl, d1⟩, [], L, rfl, ⟨rfl, d2⟩, s⟩, m⟩
theorem v_itLe {a : Addr} {xs : List V} {v : V} {R : It -> Hp -> Prop} (e : v = .ref a) (h : SqL K H a xs) (k : R (Itl K a) H) : ItL K R v H := ⟨a, e, ⟨xs, h⟩, k⟩
def strL (s : Str) : List Str := s.cps.toList.map λ c => ⟨#[c]⟩
theorem g_iStr {R : It -> Hp -> Prop} (k : te σ H λ v H1 => ∃ x, v = .str x /\ R (Its x) H1) : iStr te σ H R := k
theorem for_str {F : Str -> β -> (β -> Prop) -> Prop} {z : Str} {s0 : β} {KK : β -> Prop} {g : TG} {tb : TS} (hf : forD F (strL z) s0 KK) (Inv : β -> L2.St -> Hp -> Prop) (h0 : Inv s0 σ H)
   (hs : ∀ x s σ H (kk : β -> Prop), Inv s σ H -> F x s kk -> g (.str x) σ H λ σ2 H2 => tb ⟨λ σ H => ∃ s', kk s' /\ Inv s' σ H, D.rt, D.nx, λ σ H => ∃ s', kk s' /\ Inv s' σ H⟩ σ2 H2)
   (hd : ∀ s σ H, KK s -> Inv s σ H -> D.nx σ H) : ForW (Its z) g tb D σ H := by
 have hl : (strL z).length = z.cps.size := by simp [strL]
 refine for_W walk_str (λ i σ H => ∃ s, forD F ((strL z).drop i) s KK /\ Inv s σ H) ⟨s0, by simpa using hf, h0⟩ (λ _ _ _ _ _ => trivial) ?_ ?_
 · rintro i v σ H H' hi ⟨s, hf, h⟩ ⟨rfl, c, hc, rfl⟩
   have hi2 : i < (strL z).length := by rw [hl]; exact hi
   rw [List.drop_eq_getElem_cons hi2] at hf
   have e : (strL z)[i] = ⟨#[c]⟩ := by
     have : (strL z)[i]? = some ⟨#[c]⟩ := by
       unfold strL
       rw [List.getElem?_map, Array.getElem?_toList, hc]
       rfl
     exact Option.some.inj ((List.getElem?_eq_getElem hi2).symm.trans this)
   rw [e] at hf
   exact hs _ s σ H' _ h hf
 · rintro σ H ⟨s, hf, h⟩
   rw [<- hl, List.drop_length] at hf
   exact hd s σ H hf h
theorem sqL_ty {a : Addr} {xs : List V} (h : SqL K H a xs) : TyX K H (.ref a) (.type "list") := by
 rcases h with (h | ⟨o, h⟩) | ⟨o, its, n, h, hc, _⟩
 · exact .base (.lst h)
 · exact .base (.frz h)
 · exact .kList h hc
theorem sqT_ty {a : Addr} {xs : List V} (h : SqT K H a xs) : TyX K H (.ref a) (.type "tuple") := by
 rcases h with (h | ⟨o, h⟩) | ⟨o, its, n, h, hc, _⟩
 · exact .base (.tup h)
 · exact .fTuple h
 · exact .kTuple h hc
def tyN : PyData -> String
 | .none => "NoneType"
 | .bool _ => "bool"
 | .int _ => "int"
 | .str _ => "str"
 | .list _ => "list"
 | .tuple _ => "tuple"
 | .dict _ => "dict"
def isA (c : String) (d : PyData) : Bool := decide (tyN d = c) || (decide (tyN d = "bool") && decide (c = "int"))
def rIsiD (K : Fr) : List V -> Hp -> VK -> Prop := λ xs H Q => ∃ (a : Addr) (kvs : List (Key × V)) (c : V) (u : Value) (b : Bool), xs = [.ref a, c] /\ ClsV c u /\ Rd H a (.dK kvs) /\ PySem.W.kitOne K (.type "dict") u = some b /\ Q (.bl b) H
theorem cr_isiD {X : Cx} : CallR X (.builtin "isinstance") (rIsiD X.K) := by
 intro pins s σ H xs us Q I r h
 obtain ⟨a, kvs, c, u, b, rfl, hc, hr, e, q⟩ := h
 obtain ⟨u1, u2, rfl, r1, r2⟩ := vals2 r
 cases (show u1 = Value.ref a from r1)
 have e2 := hc.eq r2
 subst e2
 obtain ⟨_, _, vs, _, o, es, ep, h1, h2, _⟩ := dk_rd I.hok hr
 exact PySem.W.kia_one PySem.W.kitx_dict I.kIn ⟨o, h1, h2.1⟩ e (λ z => nomatch z) λ tk => ⟨.bl b, H, I.tok tk, rfl, q⟩
def uIsi (K : Fr) : List V -> Hp -> VK -> Prop := λ xs H Q => rIsi K xs H Q \/ rIsiD K xs H Q
theorem cr_isiQ {X : Cx} : CallR X (.builtin "isinstance") (uIsi X.K) := call_isi.or cr_isiD
theorem Dn.ty {v : V} {d : PyData} (h : Dn K H v d) : TyX K H v (.type (tyN d)) \/ (∃ a kvs, v = .ref a /\ Rd H a (.dK kvs) /\ tyN d = "dict") := by
 cases h with
 | non => exact .inl (.base .non)
 | bl b => exact .inl (.base (.bl b))
 | int i => exact .inl (.base (.int i))
 | str x => exact .inl (.base (.str x))
 | lst h _ => exact .inl (sqL_ty h)
 | tup h _ => exact .inl (sqT_ty h)
 | dct h _ => exact .inr ⟨_, _, rfl, h, rfl⟩
theorem kit_all : ∀ t ∈ ["NoneType", "bool", "int", "str", "list", "tuple", "dict"], ∀ c ∈ ["int", "bool", "str", "list", "tuple", "dict"], kitB t c = some (decide (t = c) || (decide (t = "bool") && decide (c = "int"))) := by decide +kernel
theorem v_isq {v : V} {d : PyData} {c : String} {b : Bool} (h : Dn K H v d) (hc : c ∈ ["int", "bool", "str", "list", "tuple", "dict"]) (hb : isA c d = b) (k : Q (.bl b) H) : uIsi K [v, .ty c] H Q := by
 subst hb
 have kk := kit_ty (K := K) (kit_all (tyN d) (by cases d <;> simp [tyN]) c hc)
 rcases h.ty with z | ⟨a, kvs, rfl, hr, e⟩
 · exact .inl (v_isi z kk k)
 · rw [e] at kk
   refine .inr ⟨a, kvs, .ty c, _, _, rfl, .ty c, hr, kk, ?_⟩
   unfold isA at k
   rw [e] at k
   exact k
def DatN (K : Fr) (C : Addr) : Prop := ∀ t ∈ ["NoneType", "bool", "int", "str", "list", "tuple", "dict"], PySem.W.kitOne K (.type t) (.ref C) = some false
theorem v_isqC {v : V} {d : PyData} {C : Addr} (h : Dn K H v d) (n : DatN K C) (k : Q (.bl false) H) : uIsi K [v, .ref C] H Q := by
 have kk := n (tyN d) (by cases d <;> simp [tyN])
 rcases h.ty with z | ⟨a, kvs, rfl, hr, e⟩
 · exact .inl ⟨v, .ref C, _, .ref C, false, rfl, .own C, z, kk, k⟩
 · rw [e] at kk
   exact .inr ⟨a, kvs, .ref C, .ref C, false, rfl, .own C, hr, kk, k⟩
theorem M.spN2 {A B : Res} (S : M (sp2 A B :: Rs) H) : M (A :: B :: Rs) H := S.sp
theorem M.spN3 {A B C : Res} (S : M (sp2 A (sp2 B C) :: Rs) H) : M (A :: B :: C :: Rs) H := M.sub (.cons 2 rfl (.refl _)) (S.sp.at 1 rfl).spN2
theorem M.spM2 {A B : Res} (S : M (A :: B :: Rs) H) : M (sp2 A B :: Rs) H := S.sp'
theorem M.spM3 {A B C : Res} (S : M (A :: B :: C :: Rs) H) : M (sp2 A (sp2 B C) :: Rs) H := ((M.spM2 (M.sub (.cons 1 rfl (.cons 1 rfl (.refl _))) S)).at 1 rfl).sp'
end
end RC

namespace RC
open PySem PySem.Spec PyProof.Rows L2
structure Fl {α : Type} (e : α -> PyData) (sv : α -> V) : Prop where
 to : ∀ {K : Fr} {H : Hp} {v : V} {x : α}, Dq K H v (e x) -> v = sv x
 of : ∀ (K : Fr) (H : Hp) (x : α), Dq K H (sv x) (e x)
theorem flI : Fl eI V.int := ⟨Dq.intV, λ _ _ x => .int x⟩
theorem flS : Fl eS V.str := ⟨Dq.strV, λ _ _ x => .str x⟩
theorem flB : Fl eB V.bl := ⟨Dq.blV, λ _ _ x => .bl x⟩
def Brw (R : Res) (K : Fr) (v : V) (d : PyData) : Prop := ∀ Rs H, M (R :: Rs) H -> Dq K H v d
section
variable {α β : Type} {e : α -> PyData} {sv : α -> V} {K : Fr} {σ : L2.St} {H : Hp} {Q : VK} {D : Ends} {Rs : List Res} {v w : V} {xs ys : List α} {p : Addr}
theorem Brw.da {d : PyData} : Brw (da K v d) K v d := λ _ _ S => S.gotA 0 rfl
theorem Brw.ac {ds : List PyData} : Brw (acR K p ds) K (.ref p) (.list ds) := λ _ _ S => S.gotO 0 rfl
theorem Fl.all (f : Fl e sv) : ∀ {vs : List V} {xs : List α}, DqAll K H vs (xs.map e) -> vs = xs.map sv
 | _, [], h => by cases h; rfl
 | _, x :: r, h => by
   cases h with
   | cons a t => rw [f.to a, Fl.all f t]; rfl
theorem Fl.ofA (f : Fl e sv) : ∀ xs : List α, DqAll K H (xs.map sv) (xs.map e)
 | [] => .nil
 | x :: r => .cons (f.of K H x) (Fl.ofA f r)
theorem Fl.lst (f : Fl e sv) (d : Dq K H v (eL e xs)) : ∃ a, v = .ref a /\ SqL K H a (xs.map sv) := by
 cases d with
 | lst h q => exact ⟨_, rfl, by rw [<- f.all q]; exact h⟩
theorem v_ixN (f : Fl e sv) (d : Dq K H v (eL e xs)) {i : Int} {x : α} (hx : atI xs i = some x) (k : Q (sv x) H) : uIx K v (.int i) H Q := by
 obtain ⟨a, rfl, h⟩ := f.lst d
 exact v_ixL h (atI_map hx) k
theorem v_lenN (d : Dq K H v (eL e xs)) (k : Q (.int (xs.length : Nat)) H) : uLen K [v] H Q := by
 cases d with
 | lst h q =>
   have := q.len
   rw [List.length_map] at this
   exact v_lenL h (by rw [this]; exact k)
theorem M.ownF (f : Fl e sv) {q : Addr} (S : M (pt q (.lst (xs.map sv)) :: Rs) H) : M (acR K q (xs.map e) :: Rs) H := S.own (EnF.all λ F => f.ofA xs)
theorem v_liN (f : Fl e sv) (S : M Rs H) (d : Dq K H v (eL e xs)) (k : ∀ p H', M (acR K p (xs.map e) :: Rs) H' -> Q (.ref p) H') : rListOf K [v] H Q := by
 obtain ⟨a, rfl, h⟩ := f.lst d
 exact v_list S (.inl h) λ p H' S' => k p H' (S'.ownF f)
theorem cutV_map (f : α -> V) (xs : List α) (lo hi : Option Int) : cutV (xs.map f) lo hi = (cutL xs lo hi).map f := cutL_map f xs lo hi
theorem v_slN (f : Fl e sv) (S : M Rs H) (d : Dq K H v (eL e xs)) {lo hi : Option Int} (k : ∀ p H', M (acR K p ((cutL xs lo hi).map e) :: Rs) H' -> Q (.ref p) H') : uSl K v lo hi H Q := by
 obtain ⟨a, rfl, h⟩ := f.lst d
 refine v_slL S h λ p H' S' => k p H' ?_
 rw [cutV_map] at S'
 exact S'.ownF f
theorem v_catN (f : Fl e sv) (S : M Rs H) (d : Dq K H v (eL e xs)) (d2 : Dq K H w (eL e ys)) (hz : xs.length + ys.length <= 100000) (k : ∀ p H', M (acR K p ((xs ++ ys).map e) :: Rs) H' -> Q (.ref p) H') : uAdd K v w H Q := by
 obtain ⟨a, rfl, h⟩ := f.lst d
 obtain ⟨b, rfl, h2⟩ := f.lst d2
 refine v_catS S h h2 (by rw [List.length_map, List.length_map]; exact hz) λ p H' S' => k p H' ?_
 rw [<- List.map_append] at S'
 exact S'.ownF f
theorem v_revN (f : Fl e sv) (S : M Rs H) (d : Dq K H v (eL e xs)) (k : ∀ p H', M (acR K p (xs.reverse.map e) :: Rs) H' -> Q (.ref p) H') : RevK K Q v H := by
 obtain ⟨a, rfl, h⟩ := f.lst d
 refine v_rev S h λ p H' S' => k p H' ?_
 rw [<- List.map_reverse] at S'
 exact S'.ownF f
theorem for_N (f : Fl e sv) {F : α -> β -> (β -> Prop) -> Prop} {s0 : β} {KK : β -> Prop} {g : TG} {tb : TS} (hf : forD F xs s0 KK) (Inv : β -> L2.St -> Hp -> Prop) (h0 : Inv s0 σ H)
   (hrd : ∀ s σ H, Inv s σ H -> Dq K H v (eL e xs))
   (hs : ∀ x s σ H (kk : β -> Prop), Inv s σ H -> F x s kk -> g (sv x) σ H λ σ2 H2 => tb ⟨λ σ H => ∃ s', kk s' /\ Inv s' σ H, D.rt, D.nx, λ σ H => ∃ s', kk s' /\ Inv s' σ H⟩ σ2 H2)
   (hd : ∀ s σ H, KK s -> Inv s σ H -> D.nx σ H) : ItL K (λ J H1 => ForW J g tb D σ H1) v H := by
 obtain ⟨a, rfl, h⟩ := f.lst (hrd s0 σ H h0)
 have hrd' : ∀ s σ H, Inv s σ H -> SqL K H a (xs.map sv) := λ s σ H h => by
   obtain ⟨b, eb, q⟩ := f.lst (hrd s σ H h)
   cases eb
   exact q
 refine v_itL h (for_lst (e := e) hf Inv h0 (λ s σ H h => ⟨hrd' s σ H h, f.ofA xs⟩) (λ i v x s σ H kk h hv hx hF => ?_) hd)
 rw [List.getElem?_map, hx] at hv
 cases hv
 exact hs x s σ H kk h hF
theorem lc_N (f : Fl e sv) {te : TE} {tt : TT} {g : TG} {ws : List Nat} {F : α -> (Option β -> Prop) -> Prop} {e' : β -> PyData} {KK : List β -> Prop} (hf : xs.length <= 100000 /\ lcD F xs [] KK) (S : M Rs H) (hrd : ∀ H, M Rs H -> Dq K H v (eL e xs))
   (hs : ∀ x (acc : List β) E H (kk : Option β -> Prop) (N : Hp -> Prop), (acc.map e').length < 100000 -> M (acR K E (acc.map e') :: Rs) H -> F x kk ->
     (∀ y H, kk (some y) -> M (acR K E (acc.map e' ++ [e' y]) :: Rs) H -> N H) -> (∀ H, kk none -> M (acR K E (acc.map e') :: Rs) H -> N H) -> g (sv x) (wipe σ ws) H λ σ2 H2 => wipe σ2 ws = wipe σ ws /\ tt σ2 H2 λ b H3 =>
     if b = true then te σ2 H3 (LcK N E) else N H3)
   (hd : ∀ E (acc : List β) H, KK acc -> M (acR K E (acc.map e') :: Rs) H -> Q (.ref E) H) : ItL K (λ J H1 => LcW J g tt te ws σ Q H1) v H := by
 obtain ⟨a, rfl, h⟩ := f.lst (hrd H S)
 refine v_itL h (lc_lst (e := e) hf S (λ H S => ⟨?_, f.ofA xs⟩) (λ i v x acc E H kk N hl S hv hx hF k1 k2 => ?_) hd)
 · obtain ⟨b, eb, q⟩ := f.lst (hrd H S)
   cases eb
   exact q
 · rw [List.getElem?_map, hx] at hv
   cases hv
   exact hs x acc E H kk N hl S hF k1 k2
def DcW (J : It) (g : TG) (tt : TT) (tk tv : TE) (vs : List Nat) (σ : L2.St) (Q : VK) (H1 : Hp) : Prop := ∀ D, H1 D = none -> ∃ W : Nat -> Nat -> Hp -> Prop, (∃ m, W 0 m (upd H1 D (.dK []))) /\ ∀ i m H, W i m H ->
 (J.stop i H /\ Q (.ref D) H) \/ (J.go i H /\ ∃ Nx : Hp -> Prop, (∀ H', Nx H' -> ∃ m', m' < m /\ W (i + 1) m' H') /\ ∀ x H', J.yld i H x H' -> g x (wipe σ vs) H' λ σ2 H2 => wipe σ2 vs = wipe σ vs /\ tt σ2 H2 λ b H3 =>
   if b = true then tk σ2 H3 λ y H4 => tv σ2 H4 λ z H5 => ∃ kvs k, y = kV k /\ H5 D = some (.dK kvs) /\ kvs.length < sizeLine /\ Nx (upd H5 D (.dK (putK kvs k z))) else Nx H3)
theorem g_dc {wi : TI} {g : TG} {tt : TT} {tk tv : TE} {vs : List Nat} (k : wi σ H λ J H1 => DcW J g tt tk tv vs σ Q H1) : tDc wi g tt tk tv vs σ H Q := k
def DcK (N : Hp -> Prop) (D : Addr) (y : V) : VK := λ z H5 => ∃ kvs k, y = kV k /\ H5 D = some (.dK kvs) /\ kvs.length < sizeLine /\ N (upd H5 D (.dK (putK kvs k z)))
def dcD {κ γ δ : Type} [DecidableEq κ] (f : δ -> List (κ × γ) -> (Option (κ × γ) -> Prop) -> Prop) : List δ -> List (κ × γ) -> (List (κ × γ) -> Prop) -> Prop
 | [], acc, k => k acc
 | x :: xs, acc, k => f x acc λ y => dcD f xs (match y with | none => acc | some q => pk acc q.1 q.2) k
theorem pk_len {κ γ : Type} [DecidableEq κ] (m : List (κ × γ)) (k : κ) (x : γ) : (pk m k x).length <= m.length + 1 := by
 unfold pk
 split
 · rw [List.length_map]; omega
 · rw [List.length_append]; exact Nat.le_refl _
theorem v_dcS {γ : Type} {e' : γ -> PyData} {N : Hp -> Prop} {E : Addr} {acc : List (Str × γ)} {n : Str} {x : γ} {y : V} (S : M Rs H) (j : Nat) (hj : Rs[j]? = some (adR K iS e' E acc)) (h : EnF Rs (λ F => Dq K F y (e' x))) (hz : acc.length < 100000)
   (k : ∀ H', M (adR K iS e' E (pk acc n x) :: Rs.eraseIdx j) H' -> N H') : DcK N E (.str n) y H := by
 obtain ⟨kvs, h1, h2, S2⟩ := putd_core (k := n) injS S j hj h
 exact ⟨kvs, Sum.inr n, rfl, h1, Nat.lt_of_lt_of_le (by rw [h2]; exact hz) (by decide), k _ S2⟩
end
end RC

namespace RC
open PySem PySem.Spec PyProof.Rows L2 SeqAt
section
variable {prog : Program} {w : World}
theorem tupEq (p q : Addr) (xs ys : Array Value) (m k : Nat) (dp dq : Option Addr) (tp tq : Array (Option Value)) (hz : xs.size = ys.size) : MeetsIn prog w (Builtin.«tuple.__eq__» ⟨[.ref p, .ref q], []⟩) (λ A R s => s.heap.get? p = some ⟨.type "tuple", dp, .seq xs m, tp⟩ /\ s.heap.get? q = some ⟨.type "tuple", dq, .seq ys k, tq⟩ /\
   (∀ j (i1 : j < xs.size) (i2 : j < ys.size), EqP prog w A.in1 s xs[j] ys[j] true) /\ R (.ok (.ret (.bool true))) s) := by
 intro A R s hh
 obtain ⟨h0, g0, d0, t0, o0⟩ := s
 obtain ⟨e1, e2, he, hR⟩ := hh
 have sb := AutoSeq1.sub_tuple_tuple
 have hl : (xs.toList.zip ys.toList).length = xs.size := by simp [hz]
 wp_walk using wpAny_loadPart' e1, wpAny_loadPart' e2, wpAny_forIn_list _ (λ r b s' => b.1 = none /\ s' = ⟨h0, g0, d0, t0, o0⟩ /\ ∃ i, r = (xs.toList.zip ys.toList).drop i) _
 case turn =>
   rintro ⟨x, y⟩ r b s' ⟨hb, rfl, i, hi⟩
   have lt : i < (xs.toList.zip ys.toList).length := by
     rcases Nat.lt_or_ge i (xs.toList.zip ys.toList).length with z | z
     · exact z
     · rw [List.drop_of_length_le z] at hi
       cases hi
   rw [List.drop_eq_getElem_cons lt] at hi
   obtain ⟨hxy, hr⟩ := List.cons.inj hi
   have i1 : i < xs.size := by omega
   have i2 : i < ys.size := by omega
   have ex : x = xs[i] := by simpa using congrArg Prod.fst hxy
   have ey : y = ys[i] := by simpa using congrArg Prod.snd hxy
   subst ex ey
   refine wpAny_bind (he i i1 i2 _ _ ?_)
   wp_walk
   exact ⟨rfl, rfl, i + 1, hr⟩
 case fin =>
   rintro ⟨b1, b2⟩ s' ⟨hb, rfl, i, hi⟩
   simp only at hb
   subst hb
   wp_walk
   show R (.ok (.ret (.bool (xs.size == ys.size)))) _
   rw [hz]
   simpa using hR
 case h => exact ⟨rfl, rfl, 0, rfl⟩
variable {A : Around} {s : Shared} {p q : Addr} {xs ys : Array Value}
theorem rc_tupEq (hp : s.heap.IsTuple p xs) (hq : s.heap.IsTuple q ys) (hz : xs.size = ys.size) (hu : A.units < cLine) (he : ∀ j (i1 : j < xs.size) (i2 : j < ys.size), EqP prog w A.in1 s xs[j] ys[j] true) (E Q : Value -> Shared -> Prop) (h : Q (.bool true) s) :
   wpAny (model prog w) A (richCompare .Eq (.ref p) (.ref q)) Q E s := by
 obtain ⟨⟨c1, d1, a1, b1⟩, o1, k1, n1, z1⟩ := id hp
 obtain ⟨⟨c2, d2, a2, b2⟩, o2, k2, n2, z2⟩ := id hq
 simp only at k1 z1 k2 z2
 subst k1 z1 k2 z2
 have t1 : s.TypeIs (.ref p) "tuple" := ⟨_, o1, rfl⟩
 have t2 : s.TypeIs (.ref q) "tuple" := ⟨_, o2, rfl⟩
 exact wpAny_richCompare_same_room (op := .Eq) t1 t2 F.slot_tuple_eq (call_meetsIn F.slot_tuple_eq t1 F.entry_tuple_eq (F.args_tuple_eq_2 _ _) (tupEq p q xs ys n1 n2 d1 d2 b1 b2 hz) ⟨o1, o2, he, (λ x => nomatch x), h⟩) hu
end
section
variable {prog : Program} {w : World} {A : Around} {s : Shared} {K : Type} [DecidableEq K] {knd : KeyKind prog w K}
end
end RC

namespace RC
open PySem PySem.Spec PyProof.Rows L2
def SysD (h : Heap) : Prop := ∃ o es ep, h.get? sysModules = some o /\ o.data = .dict es ep
def NDX (h : Heap) : Prop := h.NoDigits /\ SysD h
theorem SysD.keep {h h' : Heap} (x : SysD h) (k : ∀ b o, h.get? b = some o -> h'.get? b = some o) : SysD h' := by
 obtain ⟨o, es, ep, a, b⟩ := x
 exact ⟨o, es, ep, k _ _ a, b⟩
theorem SysD.ne {h : Heap} (x : SysD h) {a : Addr} {o : Obj} {vs : Array Value} {n : Nat} (e : h.get? a = some o) (d : o.data = .seq vs n) : a ≠ sysModules := by
 rintro rfl
 obtain ⟨o', es, ep, a1, b1⟩ := x
 rw [e] at a1
 cases a1
 rw [d] at b1
 cases b1
section
variable {X : Cx} {pins : List (Addr × Obj)} {σ : L2.St} {H : Hp} {s : Shared}
theorem key_reads {k : Key} {u : Value} {h : Heap} (hk : keyIs k u = true) : Reads h u (kD k) [] := by
 rcases keyIs_shape hk with ⟨i, t, rfl, rfl⟩ | ⟨x, t, rfl, rfl⟩
 · exact .int i t
 · exact .str x t
mutual
theorem Dn.reads (I : Inv X pins σ H s) (sy : SysD s.heap) : ∀ {v : V} {d : PyData}, Dn X.K H v d -> ∀ {u : Value}, RelV v u -> ∃ as, Reads s.heap u d as /\ sysModules ∉ as
 | _, _, .non, _, r => by cases r; exact ⟨_, .none, by simp⟩
 | _, _, .bl b, _, r => by cases r; exact ⟨_, .bool b, by simp⟩
 | _, _, .int i, _, r => by obtain ⟨t, rfl⟩ := r; exact ⟨_, .int i t, by simp⟩
 | _, _, .str x, _, r => by obtain ⟨t, rfl⟩ := r; exact ⟨_, .str x t, by simp⟩
 | _, _, .lst h q, _, r => by
   cases r
   obtain ⟨its, rv, ⟨o, n, ho, hc, _, hd⟩, _⟩ := I.list h
   obtain ⟨as, hr, hn⟩ := DnAll.reads I sy q rv
   refine ⟨_, .list ho hc hd hr, ?_⟩
   intro z
   rcases List.mem_cons.mp z with z | z
   · exact sy.ne ho hd z.symm
   · exact hn z
 | _, _, .tup h q, _, r => by
   cases r
   obtain ⟨its, rv, ⟨o, ho, hc, n, hd⟩, _⟩ := I.tuple h
   obtain ⟨as, hr, hn⟩ := DnAll.reads I sy q rv
   exact ⟨_, .tuple ho hc hd hr, hn⟩
 | _, _, .dct h q, _, r => by
   cases r
   obtain ⟨_, hm, vs, rv, o, es, ep, ho, hx, hd, hk, hp, _⟩ := dk_rd I.hok h
   obtain ⟨as, bs, h1, h2, n1, n2⟩ := DnKv.reads I sy q rv hp
   refine ⟨_, .dict ho hx.1 hd h1 h2, ?_⟩
   intro z
   rcases List.mem_cons.mp z with z | z
   · rw [<- z] at hm
     simp at hm
   · rcases List.mem_append.mp z with z | z
     · exact n1 z
     · exact n2 z
theorem DnAll.reads (I : Inv X pins σ H s) (sy : SysD s.heap) : ∀ {vs : List V} {ds : List PyData}, DnAll X.K H vs ds -> ∀ {us : List Value}, Vals vs us -> ∃ as, ReadsAll s.heap us ds as /\ sysModules ∉ as
 | _, _, .nil, _, r => by cases r; exact ⟨_, .nil, by simp⟩
 | _, _, .cons h t, _, r => by
   cases r with
   | cons r1 r2 =>
     obtain ⟨as, h1, n1⟩ := Dn.reads I sy h r1
     obtain ⟨bs, h2, n2⟩ := DnAll.reads I sy t r2
     exact ⟨_, .cons h1 h2, by simp [n1, n2]⟩
theorem DnKv.reads (I : Inv X pins σ H s) (sy : SysD s.heap) : ∀ {kvs : List (Key × V)} {ds : List (PyData × PyData)}, DnKv X.K H kvs ds -> ∀ {vs : List (Key × Value)} {es : List DictEntry}, KV kvs vs -> Pairs (mixKind X.prog X.w) es vs ->
   ∃ as bs, ReadsAll s.heap (es.map (·.key)) (ds.map (·.1)) as /\ ReadsAll s.heap (es.map (·.val)) (ds.map (·.2)) bs /\ sysModules ∉ as /\ sysModules ∉ bs
 | _, _, .nil, _, _, r, p => by
   cases r
   cases p
   exact ⟨_, _, .nil, .nil, by simp, by simp⟩
 | _, _, .cons h t, _, _, r, p => by
   cases r with
   | cons r1 r2 =>
     cases p with
     | cons k1 v1 p2 =>
       obtain ⟨e1, e2⟩ := r1
       obtain ⟨as, bs, h1, h2, n1, n2⟩ := DnKv.reads I sy t r2 p2
       rw [<- v1] at e2
       obtain ⟨cs, h3, n3⟩ := Dn.reads I sy h e2
       rw [<- e1] at k1
       exact ⟨_, _, .cons (key_reads k1) h1, .cons h3 h2, by simpa using n1, by simp [n3, n2]⟩
end
end
section
variable {X : Cx}
theorem SysD.now {pins : List (Addr × Obj)} {σ : L2.St} {H : Hp} {s : Shared} (x : SysD X.base) (I : Inv X pins σ H s) : SysD s.heap := x.keep λ b o e => (I.env0.bs b o e).1
def rReprQ (K : Fr) : List V -> Hp -> VK -> Prop := λ xs H Q => ∃ v d, xs = [v] /\ Dn K H v d /\ d.showable = true /\ d.depth <= 60 /\ d.shown.length <= sizeLine /\ Q (.str d.shown) H
theorem cr_reprQ (hy : SysD X.base) (hg : X.A.guards = some []) (hu : X.A.units + 64 < cLine) : CallR X (.builtin "repr") (rReprQ X.K) := by
 intro pins s σ H xs us Q I r h
 obtain ⟨v, d, rfl, hd, hs, hp, hz, q⟩ := h
 obtain ⟨u, rfl, ru⟩ := vals1 r
 obtain ⟨as, rd, ns⟩ := hd.reads I (hy.now I) ru
 cases hd with
 | non =>
   cases (show u = Value.none from ru)
   refine PySem.P.repr_of_none ⟨.str _, H, I.tok _, ⟨_, rfl⟩, ?_⟩
   simpa only [PyData.shown] using q
 | bl b =>
   cases (show u = Value.bool b from ru)
   refine PySem.P.repr_of_bool ⟨.str _, H, I.tok _, ⟨_, rfl⟩, ?_⟩
   simpa only [PyData.shown] using q
 | int i =>
   obtain ⟨t, rfl⟩ := ru
   refine PySem.P.repr_of_int (by simpa [PyData.showable] using hs) ⟨.str _, H, I.tok _, ⟨_, rfl⟩, ?_⟩
   simpa only [PyData.shown] using q
 | str x =>
   obtain ⟨t, rfl⟩ := ru
   refine PySem.P.repr_of_str ⟨.str _, H, I.tok _, ⟨_, rfl⟩, ?_⟩ (by simpa only [PyData.shown] using hz)
   simpa only [PyData.shown] using q
 | lst h1 h2 =>
   cases ru
   exact repr_of_reads' rd hs (λ _ => ns) hg (by omega) (λ _ _ e => e) (λ h' u tk k => ⟨.str _, H, I.kept k, ⟨_, rfl⟩, q⟩) hz
 | tup h1 h2 =>
   cases ru
   exact repr_of_reads' rd hs (λ _ => ns) hg (by omega) (λ _ _ e => e) (λ h' u tk k => ⟨.str _, H, I.kept k, ⟨_, rfl⟩, q⟩) hz
 | dct h1 h2 =>
   cases ru
   exact repr_of_reads' rd hs (λ _ => ns) hg (by omega) (λ _ _ e => e) (λ h' u tk k => ⟨.str _, H, I.kept k, ⟨_, rfl⟩, q⟩) hz
end
def EqQ (K : Fr) (H : Hp) (E : V -> V -> Prop) (x y : V) : Prop := EqR K H E x y \/
 (∃ a b ks ls, x = .ref a /\ y = .ref b /\ Rd H a (.dK ks) /\ Rd H b (.dK ls) /\ ks.length = ls.length /\ ∀ p ∈ ks, ∃ u, valV ls p.1 = some u /\ E p.2 u) \/
 ∃ a b xs ys, x = .ref a /\ y = .ref b /\ SqT K H a xs /\ SqT K H b ys /\ Paired E xs ys
theorem eqQ_run {X : Cx} {pins : List (Addr × Obj)} {σ : L2.St} {H : Hp} {s : Shared} (I : Inv X pins σ H s) {A : Around} {F : V -> V -> Prop} (hu : A.units < cLine)
   (ih : ∀ x y v u, F x y -> RelV x v -> RelV y u -> SeqAt.EqP X.prog X.w A.in1 s v u true) {x y : V} {v u : Value} (h : EqQ X.K H F x y) (rx : RelV x v) (ry : RelV y u) (E Q : Value -> Shared -> Prop) (q : Q (.bool true) s) :
   wpAny (model X.prog X.w) A (richCompare .Eq v u) Q E s := by
 rcases h with h | ⟨a, b, ks, ls, rfl, rfl, ha, hb, hl, hp⟩ | ⟨a, b, xs, ys, rfl, rfl, ha, hb, hp⟩
 · exact eqR_run I hu ih h rx ry E Q q
 · obtain rfl : v = Value.ref a := rx
   obtain rfl : u = Value.ref b := ry
   obtain ⟨_, na, wa, ka, oa⟩ := dk_rd I.hok ha
   obtain ⟨_, nb, wb, kb, ob⟩ := dk_rd I.hok hb
   have hz : wa.length = wb.length := by rw [<- ka.length, <- kb.length]; exact hl
   refine PySem.W.rcP_dicts na nb oa ob hu (λ _ => hits_run ih kb ka hp) E Q ?_
   simpa [hz] using q
 · obtain rfl : v = Value.ref a := rx
   obtain rfl : u = Value.ref b := ry
   obtain ⟨us, r1, p1, _⟩ := I.tuple ha
   obtain ⟨ws, r2, p2, _⟩ := I.tuple hb
   have hsz : us.toArray.size = ws.toArray.size := by
     rw [List.size_toArray, List.size_toArray, <- r1.length, <- r2.length]
     exact Paired.length hp
   refine rc_tupEq p1 p2 hsz hu (λ j h1 h2 => ?_) E Q q
   simpa using items_run ih hp r1 r2 j (by simpa using h1) (by simpa using h2)
def EqW (K : Fr) (H : Hp) : Nat -> V -> V -> Prop
 | 0 => λ _ _ => False
 | n + 1 => λ x y => (∃ d, Dp K H x d /\ Dp K H y d /\ SeqAt.shaped d = true) \/ EqQ K H (EqW K H n) x y
theorem shaped_depth {d : PyData} (h : SeqAt.shaped d = true) : d.canLay0 = true /\ d.depth <= 64 := by
 unfold SeqAt.shaped at h
 rw [Bool.and_eq_true] at h
 exact ⟨h.1, of_decide_eq_true h.2⟩
section
variable {X : Cx} {pins : List (Addr × Obj)} {σ : L2.St} {H : Hp} {s : Shared}
theorem eqW_run (I : Inv X pins σ H s) : ∀ (n : Nat) (A : Around), A.units + n + 65 < cLine -> ∀ (x y : V) (v u : Value), EqW X.K H n x y -> RelV x v -> RelV y u -> SeqAt.EqP X.prog X.w A s v u true
 | 0, _, _, _, _, _, _, h, _, _ => (show False from h).elim
 | n + 1, A, hu, x, y, v, u, h, rx, ry => by
   rcases h with ⟨d, d1, d2, sh⟩ | h
   · obtain ⟨as, r1⟩ := Dp.reads I d x v d1 rx
     obtain ⟨bs, r2⟩ := Dp.reads I d y u d2 ry
     have hd := shaped_depth sh
     have := SeqAt.eqAt_reads d d A s v u as bs r1 r2 hd.1 hd.1 (by omega)
     rw [SeqAt.eqv_refl d hd.1] at this
     exact this.eqP
   · have step := eqQ_run I (A := A) (by omega) (eqW_run I n A.in1 (by show A.units + 1 + n + 65 < cLine; omega)) h rx ry
     obtain ⟨a, b, rfl, rfl⟩ : ∃ a b, x = .ref a /\ y = .ref b := by
       rcases h with (⟨a, b, _, _, e1, e2, _⟩ | ⟨a, b, _, _, e1, e2, _⟩) | ⟨a, b, _, _, e1, e2, _⟩ | ⟨a, b, _, _, e1, e2, _⟩
       · exact ⟨a, b, e1, e2⟩
       · exact ⟨a, b, e1, e2⟩
       · exact ⟨a, b, e1, e2⟩
       · exact ⟨a, b, e1, e2⟩
     cases (show v = Value.ref a from rx)
     cases (show u = Value.ref b from ry)
     by_cases e : a = b
     · subst e
       exact (SeqAt.EqAt.same _).eqP
     · exact SeqAt.eqP_refs e step
end
mutual
def dOk : PyData -> Prop
 | .list ds => dOkA ds
 | .dict kvs => (kvs.map (·.1)).Nodup /\ dOkK kvs
 | .tuple ds => dOkA ds
 | .none => True
 | .bool _ => True
 | .int _ => True
 | .str x => SeqAt.shaped (.str x) = true
def dOkA : List PyData -> Prop
 | [] => True
 | d :: r => dOk d /\ dOkA r
def dOkK : List (PyData × PyData) -> Prop
 | [] => True
 | p :: r => dOk p.2 /\ dOkK r
end
section
variable {K : Fr} {H : Hp}
theorem kD_inj {a b : Key} (h : kD a = kD b) : a = b := by
 cases a <;> cases b <;> simp [kD] at h <;> rw [h]
theorem DnKv.key : ∀ {kvs : List (Key × V)} {ds : List (PyData × PyData)}, DnKv K H kvs ds -> ds.map (·.1) = (kvs.map (·.1)).map kD
 | _, _, .nil => rfl
 | _, _, .cons h t => by
   have := DnKv.key t
   simp only [List.map_cons] at this ⊢
   rw [this]
theorem nd_of_map {γ δ : Type} (f : γ -> δ) : ∀ {l : List γ}, (l.map f).Nodup -> l.Nodup
 | [], _ => List.nodup_nil
 | x :: r, h => by
   rw [List.map_cons, List.nodup_cons] at h
   exact List.nodup_cons.mpr ⟨λ z => h.1 (List.mem_map.mpr ⟨x, z, rfl⟩), nd_of_map f h.2⟩
theorem valV_nd : ∀ {ls : List (Key × V)} {i : Nat} {k : Key} {u : V}, (ls.map (·.1)).Nodup -> ls[i]? = some (k, u) -> valV ls k = some u
 | [], i, k, u, _, h => by simp at h
 | q :: r, 0, k, u, _, h => by
   cases (Option.some.inj (show some q = some (k, u) from h))
   exact valV_pos rfl
 | q :: r, i + 1, k, u, nd, h => by
   have nd' := List.nodup_cons.mp nd
   have h' : r[i]? = some (k, u) := by simpa using h
   rw [valV_neg]
   · exact valV_nd nd'.2 h'
   · intro e
     exact nd'.1 (List.mem_map.mpr ⟨(k, u), List.mem_of_getElem? h', e.symm⟩)
mutual
theorem Dn.eqW : ∀ {x y : V} {d : PyData} {n : Nat}, Dn K H x d -> Dn K H y d -> dOk d -> d.depth < n -> EqW K H n x y
 | _, _, _, 0, _, _, _, hn => absurd hn (Nat.not_lt_zero _)
 | _, _, _, n + 1, .non, h, _, _ => by cases h; exact .inl ⟨_, .non, .non, by decide⟩
 | _, _, _, n + 1, .bl b, h, _, _ => by cases h; exact .inl ⟨_, .bl b, .bl b, by cases b <;> decide⟩
 | _, _, _, n + 1, .int i, h, _, _ => by cases h; exact .inl ⟨_, .int i, .int i, rfl⟩
 | _, _, _, n + 1, .str z, h, ok, _ => by cases h; exact .inl ⟨_, .str z, .str z, ok⟩
 | _, _, _, n + 1, .tup a q, h, ok, hn => by
   cases h with
   | tup b q2 => exact .inr (.inr (.inr ⟨_, _, _, _, rfl, rfl, a, b, DnAll.eqW q q2 ok (by simpa [PyData.depth] using hn)⟩))
 | _, _, _, n + 1, .lst a q, h, ok, hn => by
   cases h with
   | lst b q2 => exact .inr (.inl (.inl ⟨_, _, _, _, rfl, rfl, a, b, DnAll.eqW q q2 ok (by simpa [PyData.depth] using hn)⟩))
 | _, _, _, n + 1, .dct (ds := ds) a q, h, ok, hn => by
   cases h with
   | @dct _ kvs2 _ b q2 =>
     have ok' : (ds.map (·.1)).Nodup /\ dOkK ds := ok
     have hl : PyData.depthKv ds < n := by simpa [PyData.depth] using hn
     obtain ⟨h1, h2⟩ := DnKv.eqW q q2 ok'.2 hl
     refine .inr (.inr (.inl ⟨_, _, _, _, rfl, rfl, a, b, h1, λ p hp => ?_⟩))
     obtain ⟨i, hi⟩ := List.getElem?_of_mem hp
     obtain ⟨u, hu, hw⟩ := h2 i p hi
     refine ⟨u, ?_, hw⟩
     have nd : (kvs2.map (·.1)).Nodup := by
       have := ok'.1
       rw [q2.key] at this
       exact nd_of_map _ this
     exact valV_nd nd hu
theorem DnKv.eqW : ∀ {xs ys : List (Key × V)} {ds : List (PyData × PyData)} {n : Nat}, DnKv K H xs ds -> DnKv K H ys ds -> dOkK ds -> PyData.depthKv ds < n ->
   xs.length = ys.length /\ ∀ (i : Nat) (p : Key × V), xs[i]? = some p -> ∃ u, ys[i]? = some (p.1, u) /\ EqW K H n p.2 u
 | _, _, _, _, .nil, h, _, _ => by
   cases h
   exact ⟨rfl, λ i p h => by simp at h⟩
 | _, _, _, n, .cons (k := k) (d := d) a t, h, ok, hn => by
   generalize hds : ((kD k, d) :: _ : List (PyData × PyData)) = dd at h
   cases h with
   | nil => cases hds
   | cons a2 t2 =>
     injection hds with e1 e2
     injection e1 with e3 e4
     have e5 := kD_inj e3
     subst e5
     subst e4
     subst e2
     have hn' := hn
     simp only [PyData.depthKv] at hn'
     obtain ⟨h1, h2⟩ := DnKv.eqW (n := n) t t2 ok.2 (by omega)
     refine ⟨by rw [List.length_cons, List.length_cons, h1], λ i p hp => ?_⟩
     cases i with
     | zero =>
       cases hp
       exact ⟨_, rfl, Dn.eqW a a2 ok.1 (show d.depth < n by omega)⟩
     | succ i =>
       obtain ⟨u, hu, hw⟩ := h2 i p (by simpa using hp)
       exact ⟨u, by simpa using hu, hw⟩
theorem DnAll.eqW : ∀ {xs ys : List V} {ds : List PyData} {n : Nat}, DnAll K H xs ds -> DnAll K H ys ds -> dOkA ds -> PyData.depthAll ds < n -> Paired (EqW K H n) xs ys
 | _, _, _, _, .nil, h, _, _ => by cases h; exact .nil
 | _, _, _, _, .cons a t, h, ok, hn => by
   cases h with
   | cons a2 t2 =>
     have hn' := hn
     simp only [PyData.depthAll] at hn'
     exact .cons (Dn.eqW a a2 ok.1 (by omega)) (DnAll.eqW t t2 ok.2 (by omega))
end
end
section
variable {X : Cx}
def rEqW (K : Fr) : R2 := λ x y H Q => ∃ d, Dn K H x d /\ Dn K H y d /\ dOk d /\ d.depth <= 60 /\ Q (.bl true) H
theorem op_eqW (hu : X.A.units + 128 < cLine) : OpR X (compareOp .Eq) (rEqW X.K) := by
 intro pins s σ H x y v u Q I rx ry h
 obtain ⟨d, d1, d2, ok, hd, q⟩ := h
 have w := Dn.eqW (n := 61) d1 d2 ok (by omega)
 rcases w with ⟨d', e1, e2, sh⟩ | w
 · refine op_eqD (X := X) (by omega) pins s σ H x y v u Q I rx ry ⟨d', d', e1, e2, sh, sh, ?_⟩
   rw [SeqAt.eqv_refl d' (shaped_depth sh).1]
   exact q
 · exact eqQ_run I (A := X.A) (by omega) (eqW_run I 60 X.A.in1 (by show X.A.units + 1 + 60 + 65 < cLine; omega)) w rx ry _ _ ⟨.bl true, H, I, rfl, q⟩
def uEqQ (K : Fr) : R2 := λ x y H Q => uEq K x y H Q \/ rEqW K x y H Q
theorem uo_eqQ (hu : X.A.units + 128 < cLine) : OpR X (compareOp .Eq) (uEqQ X.K) := (uo_eq (by omega)).or (op_eqW hu)
theorem units128 {k : Nat} {A : Around} (hr : Room k A) : A.units + 128 < cLine := by
 have := hr.un
 have := hr.dp
 omega
end
end RC

namespace RC
open PySem PySem.Spec PyProof.Rows L2
section
variable {κ α : Type} {K : Fr} {ik : κ -> Key} {e : α -> PyData} {m : List (κ × α)} {Rs : List Res} {H : Hp} {Q : VK} {σ : L2.St} {D : Ends} {p : Addr}
abbrev OE := Str × Addr × List Int
def olsR (es : List OE) : Res := ⟨λ _ l => l = es.map λ q => (q.2.1, HO.lst (q.2.2.map V.int)), λ _ _ _ _ h => h⟩
def oM (es : List OE) : List (Str × List Int) := es.map λ q => (q.1, q.2.2)
def oK (es : List OE) : List (Key × V) := es.map λ q => (iS q.1, V.ref q.2.1)
def adoR (p : Addr) (m : List (Str × List Int)) : Res := exi λ es => prp (oM es = m) (sp2 (pt p (.dK (oK es))) (olsR es))
variable {es : List OE} {om : List (Str × List Int)}
theorem ado_open (S : M (adoR p om :: Rs) H) : ∃ es, oM es = om /\ M (pt p (.dK (oK es)) :: olsR es :: Rs) H := by
 obtain ⟨es, S⟩ := S.ex
 obtain ⟨h, S⟩ := S.pr
 exact ⟨es, h, S.sp⟩
theorem ado_close (h : oM es = om) (S : M (pt p (.dK (oK es)) :: olsR es :: Rs) H) : M (adoR p om :: Rs) H := M.ex' es (M.pr' h S.sp')
theorem ado_new (S : M (pt p (.dK []) :: Rs) H) : M (adoR p [] :: Rs) H := by
 refine ado_close (es := []) rfl ?_
 obtain ⟨F, L, ⟨l1, l2, rfl, a, b⟩, mm⟩ := S
 exact ⟨F, _, ⟨l1, l2, rfl, a, [], l2, rfl, rfl, b⟩, mm⟩
theorem ols_take {l1 l2 : List OE} {n : Str} {a : Addr} {ns : List Int} (S : M (olsR (l1 ++ (n, a, ns) :: l2) :: Rs) H) : M (pt a (.lst (ns.map V.int)) :: olsR (l1 ++ l2) :: Rs) H := by
 obtain ⟨F, L, ⟨q1, q2, rfl, rfl, b⟩, mm⟩ := S
 refine (⟨F, _, ⟨[(a, _)], _, rfl, rfl, _, q2, rfl, rfl, b⟩, mm.perm ?_⟩ : M (pt a (.lst (ns.map V.int)) :: olsR (l1 ++ l2) :: Rs) H)
 simp only [List.map_append, List.map_cons, List.cons_append, List.append_assoc, List.nil_append]
 exact List.perm_middle
theorem ols_give {l1 l2 : List OE} {n : Str} {a : Addr} {ns : List Int} (S : M (pt a (.lst (ns.map V.int)) :: olsR (l1 ++ l2) :: Rs) H) : M (olsR (l1 ++ (n, a, ns) :: l2) :: Rs) H := by
 obtain ⟨F, L, ⟨q0, q1, rfl, rfl, q2, q3, rfl, rfl, b⟩, mm⟩ := S
 refine (⟨F, _, ⟨_, q3, rfl, rfl, b⟩, mm.perm ?_⟩ : M (olsR (l1 ++ (n, a, ns) :: l2) :: Rs) H)
 simp only [List.map_append, List.map_cons, List.cons_append, List.append_assoc, List.nil_append]
 exact List.perm_middle.symm
theorem pk_oM {n : Str} {a : Addr} {ns : List Int} {es : List OE} (h : lk (oM es) n = none) : pk (oM es) n ns = oM (es ++ [(n, a, ns)]) /\ putK (oK es) (iS n) (.ref a) = oK (es ++ [(n, a, ns)]) := by
 have h1 : ((oM es).any λ p => decide (p.1 = n)) = false := by rw [any_lk, h]; rfl
 have h2 : ((oK es).any λ p => decide (p.1 = iS n)) = false := by
   unfold oK oM at *
   rw [List.any_map] at *
   rw [<- h1]
   congr 1
   funext q
   exact decide_eq_decide.mpr ⟨λ z => injS _ _ z, λ z => congrArg iS z⟩
 constructor
 · unfold pk
   rw [h1]
   simp [oM]
 · unfold putK
   rw [h2]
   simp [oK]
theorem v_putO {n : Str} {a : Addr} {ns : List Int} {Q : Hp -> Prop} (S : M (pt a (.lst (ns.map V.int)) :: adoR p om :: Rs) H) (h : lk om n = none) (hz : om.length < 100000) (k : ∀ H', M (adoR p (pk om n ns) :: Rs) H' -> Q H') : uSet (.ref p) (.str n) (.ref a) H Q := by
 obtain ⟨es, he, S1⟩ := ado_open (S.at 1 rfl)
 subst he
 have hp := pk_oM (a := a) (ns := ns) h
 have hl : (oK es).length < 100000 := by
   have : (oK es).length = (oM es).length := by simp [oK, oM]
   omega
 refine v_putS S1 0 rfl hl λ H' S2 => k H' ?_
 refine ado_close (es := es ++ [(n, a, ns)]) hp.1.symm ?_
 rw [<- hp.2]
 have S3 : M (pt a (.lst (ns.map V.int)) :: olsR (es ++ []) :: pt p (.dK (putK (oK es) (iS n) (.ref a))) :: Rs) H' := by
   rw [List.append_nil]
   exact M.sub (.cons 2 rfl (.cons 1 rfl (.cons 0 rfl (.refl _)))) S2
 exact M.sub (.cons 1 rfl (.refl _)) (ols_give S3)
theorem ado_ad (S : M (adoR p om :: Rs) H) : M (adR K iS (eL eI) p om :: Rs) H := by
 obtain ⟨es, he, S1⟩ := ado_open S
 subst he
 have go : ∀ (es2 : List OE) {Rs : List Res}, M (olsR es2 :: Rs) H -> M (tkR K iS (eL eI) (oK es2) (oM es2) :: Rs) H := by
   intro es2
   induction es2 with
   | nil =>
     intro Rs S
     obtain ⟨F, L, ⟨l1, l2, rfl, h1, b⟩, mm⟩ := S
     exact ⟨F, l2, ⟨[], l2, rfl, ⟨rfl, .nil⟩, b⟩, mm.perm (by rw [show l1 = [] from h1]; exact .refl _)⟩
   | cons q r ih =>
     intro Rs S
     obtain ⟨n, a, ns⟩ := q
     have S2 := ols_take (l1 := []) S
     have S3 := ih (S2.at 1 rfl |> M.sub (.cons 0 rfl (.cons 0 rfl (.refl _))))
     have S4 := (S3.at 1 rfl).fix
     obtain ⟨F, L, ⟨l1, l2, rfl, ⟨rfl, fp⟩, l3, l4, rfl, ⟨rfl, t⟩, b⟩, mm⟩ := S4
     exact ⟨F, l4, ⟨[], l4, rfl, ⟨rfl, .cons (.lst (.inl (.inl fp)) (dqAll_ints ns)) t⟩, b⟩, mm⟩
 have S2 := go es (S1.at 1 rfl |> M.sub (.cons 0 rfl (.cons 0 rfl (.refl _))))
 exact adR_close (S2.at 1 rfl)
theorem acR_pt {a : Addr} {ns : List Int} (S : M (acR K a (ns.map eI) :: Rs) H) : M (pt a (.lst (ns.map V.int)) :: Rs) H := by
 obtain ⟨vs, S1⟩ := S.ex
 have S2 := S1.sp
 have h := (S2.gotAA 1 rfl).ints
 subst h
 exact M.sub (.cons 0 rfl (.tl (.refl _))) S2
theorem dc_G {β κ γ : Type} [DecidableEq κ] {e : β -> PyData} {sv : β -> V} {xs : List β} {v : V} (f : Fl e sv) (AR : Addr -> List (κ × γ) -> Res) (hnew : ∀ E H, M (pt E (.dK []) :: Rs) H -> M (AR E [] :: Rs) H) {tk tv : TE} {tt : TT} {g : TG} {ws : List Nat} {F : β -> List (κ × γ) -> (Option (κ × γ) -> Prop) -> Prop} {KK : List (κ × γ) -> Prop} (hf : xs.length <= 100000 /\ dcD F xs [] KK) (S : M Rs H) (hrd : ∀ H, M Rs H -> Dq K H v (eL e xs))
   (hs : ∀ x (acc : List (κ × γ)) E H (kk : Option (κ × γ) -> Prop) (N : Hp -> Prop), acc.length < 100000 -> M (AR E acc :: Rs) H -> F x acc kk ->
     (∀ q H, kk (some q) -> M (AR E (pk acc q.1 q.2) :: Rs) H -> N H) -> (∀ H, kk none -> M (AR E acc :: Rs) H -> N H) -> g (sv x) (wipe σ ws) H λ σ2 H2 => wipe σ2 ws = wipe σ ws /\ tt σ2 H2 λ b H3 =>
     if b = true then tk σ2 H3 λ y H4 => tv σ2 H4 (DcK N E y) else N H3)
   (hd : ∀ E (acc : List (κ × γ)) H, KK acc -> M (AR E acc :: Rs) H -> Q (.ref E) H) : ItL K (λ J H1 => DcW J g tt tk tv ws σ Q H1) v H := by
 obtain ⟨a, rfl, h⟩ := f.lst (hrd H S)
 refine v_itL h ?_
 obtain ⟨hz, hf⟩ := hf
 intro E hE
 refine ⟨λ i m H => m = xs.length - i /\ i <= xs.length /\ ∃ acc, dcD F (xs.drop i) acc KK /\ acc.length <= i /\ M (AR E acc :: Rs) H, ⟨_, rfl, Nat.zero_le _, [], by simpa using hf, Nat.le_refl _, hnew E _ (S.new hE)⟩, ?_⟩
 rintro i m H1 ⟨rfl, hi, acc, hf, ha, S1⟩
 have hq : SqL K H1 a (xs.map sv) := by
   obtain ⟨b, eb, q⟩ := f.lst (hrd H1 S1.tl)
   cases eb
   exact q
 rcases Nat.lt_or_ge i xs.length with hlt | hge
 · right
   rw [List.drop_eq_getElem_cons hlt] at hf
   refine ⟨⟨xs.map sv, sv xs[i], hq, by rw [List.getElem?_map, List.getElem?_eq_getElem hlt]; rfl⟩, λ H => ∃ acc, dcD F (xs.drop (i + 1)) acc KK /\ acc.length <= i + 1 /\ M (AR E acc :: Rs) H, λ H' h => ⟨xs.length - (i + 1), by omega, rfl, hlt, h⟩, ?_⟩
   rintro x H' ⟨rfl, hx⟩
   have hx' := hx _ hq
   rw [List.getElem?_map, List.getElem?_eq_getElem hlt] at hx'
   cases hx'
   exact hs _ acc E H' _ _ (by omega) S1 hf (λ q H hk S => ⟨_, hk, Nat.le_trans (pk_len _ _ _) (by omega), S⟩) (λ H hk S => ⟨acc, hk, by omega, S⟩)
 · left
   have e0 : i = xs.length := by omega
   subst e0
   rw [List.drop_length] at hf
   exact ⟨⟨xs.map sv, hq, by rw [List.length_map]; exact Nat.le_refl _⟩, hd E acc H1 hf S1⟩
theorem v_dcO {N : Hp -> Prop} {n : Str} {a : Addr} {ns : List Int} (S : M (acR K a (ns.map eI) :: adoR p om :: Rs) H) (h : lk om n = none) (hz : om.length < 100000) (k : ∀ H', M (adoR p (pk om n ns) :: Rs) H' -> N H') : DcK N p (.str n) (.ref a) H := by
 have q := v_putO (Q := N) (acR_pt S) h hz k
 rcases q with ⟨_, _, _, _, _, hx, _⟩ | ⟨p', H', hp, hd, hq⟩
 · cases hx
 · cases hp
   rcases hd with ⟨kvs, k', h1, h2, h3, rfl⟩ | ⟨kvs, k', b, h1, h2, _⟩
   · exact ⟨kvs, k', h2, h1, h3, hq⟩
   · cases h2
def rDictP (K : Fr) : List V -> Hp -> VK -> Prop := λ xs H Q => ∃ (a : Addr) (ps : List Addr) (kvs : List (Key × V)), xs = [.ref a] /\ SqL K H a (ps.map V.ref) /\ Paired (λ p kv => SqT K H p [kV kv.1, kv.2]) ps kvs /\ ∀ p, H p = none -> Q (.ref p) (upd H p (.dK (mergeK [] kvs)))
theorem cr_dictP {X : Cx} (h : X.calm = true) : CallR X (.type "dict") (rDictP X.K) := call_dictP h
def dOf {κ γ : Type} [DecidableEq κ] (ps : List (κ × γ)) : List (κ × γ) := ps.foldl (λ acc q => pk acc q.1 q.2) []
theorem v_dictp {e : α -> PyData} {v : V} {ps : List (Str × α)} (S : M Rs H) (j : Nat) (hj : Rs[j]? = some (da K v (eL (eP eS e) ps))) (k : ∀ p H', M (adR K iS e p (dOf ps) :: Rs) H' -> Q (.ref p) H') : rDictP K [v] H Q := by
 obtain ⟨F, L, s, mm⟩ := S
 cases EnF.at j hj F L s with
 | @lst a vs _ hs q =>
   have key : ∀ {ps : List (Str × α)} {vs : List V}, DqAll K F vs (ps.map (eP eS e)) -> ∃ as kvs, vs = as.map V.ref /\ Paired (λ p (kv : Key × V) => SqT K F p [kV kv.1, kv.2]) as kvs /\ TKv K F iS e kvs ps := by
     intro ps
     induction ps with
     | nil =>
       intro vs h
       cases h
       exact ⟨[], [], rfl, .nil, .nil⟩
     | cons q ps ih =>
       intro vs h
       cases h with
       | cons d t =>
         obtain ⟨as, kvs, rfl, h2, h3⟩ := ih t
         cases d with
         | @tup b ws _ hb ht =>
           cases ht with
           | cons d1 t1 =>
             cases t1 with
             | cons d2 t2 =>
               cases t2
               have e1 := d1.strV
               subst e1
               exact ⟨b :: as, (iS q.1, _) :: kvs, rfl, .cons hb h2, .cons d2 h3⟩
   obtain ⟨as, kvs, rfl, h2, h3⟩ := key q
   refine ⟨a, as, kvs, rfl, mm.ex.sqL hs, Paired.mapP h2 λ p kv z => mm.ex.sqT z, λ p hp => k p _ ?_⟩
   have mg : ∀ {ps : List (Str × α)} {kvs acc : List (Key × V)} {ac : List (Str × α)}, TKv K F iS e kvs ps -> TKv K F iS e acc ac -> TKv K F iS e (mergeK acc kvs) (ps.foldl (λ acc q => pk acc q.1 q.2) ac) := by
     intro ps
     induction ps with
     | nil =>
       intro kvs acc ac h1 h2
       cases h1
       exact h2
     | cons q ps ih =>
       intro kvs acc ac h1 h2
       cases h1 with
       | @cons k' _ _ _ _ d t =>
         have z := ih t (h2.put (k := k') injS d)
         exact z
   have S0 : M (tkR K iS e (mergeK [] kvs) (dOf ps) :: Rs) H := ⟨F, L, ⟨[], L, rfl, ⟨rfl, mg h3 .nil⟩, s⟩, mm⟩
   exact adR_close (S0.new hp)
end
section
variable {α β : Type} {K : Fr} {e : α -> PyData} {Rs : List Res} {H : Hp} {Q : VK} {σ : L2.St} {D : Ends} {p : Addr}
def adL {κ : Type} (K : Fr) (ik : κ -> Key) (e : α -> PyData) (p : Addr) (od : Obj) (kvs : List (Key × V)) (m : List (κ × α)) : Res := sp2 (pt p (.frz od (.dK kvs))) (tkR K ik e kvs m)
end
theorem Dn.by_ {K : Fr} {H : Hp} {v : V} {d e : PyData} (h : d = e) (q : Dn K H v e) : Dn K H v d := h ▸ q
structure AlkOk (d : PyData) : Prop where
 ok : dOk d
 sh : d.showable = true
 dp : d.depth <= 60
 ln : d.shown.length <= sizeLine
structure ShQ (dp bk : Nat) (d : PyData) : Prop where
 ok : dOk d
 sh : d.showable = true
 lf : d.leavesShort 400 = true
 dp : d.depth <= dp
 bk : d.bulk <= bk
theorem ShQ.alk {dp bk : Nat} {d : PyData} (h : ShQ dp bk d) (h1 : dp <= 60) (h2 : bk <= 40000) : AlkOk d := by
 refine ⟨h.ok, h.sh, Nat.le_trans h.dp h1, ?_⟩
 have z := PyData.shown_le_bulk 400 (by decide) d h.lf
 have b := h.bk
 rw [sizeLine_eq]
 omega
theorem ShQ.up {dp bk dp' bk' : Nat} {d : PyData} (h : ShQ dp bk d) (h1 : dp <= dp') (h2 : bk <= bk') : ShQ dp' bk' d := ⟨h.ok, h.sh, h.lf, Nat.le_trans h.dp h1, Nat.le_trans h.bk h2⟩
theorem log2_lt {n : Int} (h : n.natAbs < 2 ^ 1000) : n.natAbs.log2 < 1920 := by
 rcases Nat.eq_zero_or_pos n.natAbs with e | e
 · rw [e]
   decide
 · have := (Nat.log2_lt (by omega)).mpr h
   omega
theorem ShQ.int {n : Int} (h : n.natAbs < 2 ^ 1000) : ShQ 0 0 (.int n) := by
 have l := log2_lt h
 refine ⟨trivial, by simpa [PyData.showable] using l, ?_, by simp [PyData.depth], by simp [PyData.bulk]⟩
 have q : (2 : Nat) ^ 1000 < 10 ^ 310 := by decide +kernel
 have z : (PySem.Str.ofString (toString n)).length <= 311 := by
   have := int_text_length_le10 (a := n) (k := 310) (by decide) (by omega)
   rw [PySem.ofString_length]
   exact this
 simp only [PyData.leavesShort, PyData.shown]
 exact decide_eq_true (Nat.le_trans z (show 311 <= 400 by decide))
theorem ShQ.all {dp bk : Nat} : ∀ {ds : List PyData}, (∀ d ∈ ds, ShQ dp bk d) -> dOkA ds /\ PyData.showableAll ds = true /\ PyData.leavesShortAll 400 ds = true /\ PyData.depthAll ds <= dp /\ PyData.bulkAll ds <= ds.length * (bk + 1)
 | [], _ => ⟨trivial, rfl, rfl, Nat.zero_le _, by simp [PyData.bulkAll]⟩
 | d :: ds, h => by
   have a := h d List.mem_cons_self
   obtain ⟨h0, h1, h2, h3, h4⟩ := ShQ.all λ x hx => h x (List.mem_cons_of_mem _ hx)
   refine ⟨⟨a.ok, h0⟩, by simp [PyData.showableAll, a.sh, h1], by simp [PyData.leavesShortAll, a.lf, h2], ?_, ?_⟩
   · simp only [PyData.depthAll]
     have := a.dp
     omega
   · simp only [PyData.bulkAll, List.length_cons]
     have := a.bk
     rw [Nat.add_mul]
     omega
theorem ShQ.list {dp bk : Nat} {ds : List PyData} (h : ∀ d ∈ ds, ShQ dp bk d) : ShQ (dp + 1) (ds.length * (bk + 1)) (.list ds) := by
 obtain ⟨h0, h1, h2, h3, h4⟩ := ShQ.all h
 refine ⟨h0, by simpa [PyData.showable] using h1, by simpa [PyData.leavesShort] using h2, ?_, by simpa [PyData.bulk] using h4⟩
 simp only [PyData.depth]
 omega
end RC

namespace RC
open PySem PySem.Spec PyProof.Rows L2
theorem walk_S {l : PySem.W.OpenLaw} {n k : Nat} {q : Program} {loose : List Str} {XP : (Str -> Option Value) -> Heap -> Prop} {YP : World -> Heap -> Prop} {d : DefRec} {CX : World -> CXT} {x : Str}
   (hi : importsNone q = true) (hn : l.most = some n) (hn2 : n <= sizeLine) (hdf : d.params.defaults = []) (hr : Room k callerA)
   (F : ∀ (w : World) (mg : Str -> Option Value) (fa : Addr) (h : Heap), YP w h -> h.Ns mainGlobals mg -> mg d.name = some (.ref fa) ->
     ∃ (K : Fr) (fd : FuncData) (sp : Sp), K.In h /\ (∀ (s : Shared) (u : Value), BindsTo s fd ⟨[u], []⟩ [(x, u)]) /\
       (∀ (H : Hp) (a : Addr) (ns : List Int), ns.length <= n -> SqL K H a (ns.map V.int) -> sp [.ref a] H (λ v _ => v = .bl true) λ _ _ _ => False) /\
       ∀ base : Heap, K.In base -> base.Ns mainGlobals mg -> NDX base -> FnX true l.prog w K mg base (CX w) k fa fd [x] sp)
   (hCX : ∀ (w : World) (H : Hp) (s : Shared) (e : Value) (s' : Shared), CX w [] H s (λ _ _ _ => False) e s' -> False) :
   PySem.W.WalkO q loose XP YP l.row.toRowW d [] (λ f vs => PySem.call f vs) := by
 refine Att.attach_call hn hdf ?_
 intro w s0 s1 mg mb fa o pm cd doc a vs ns G Y ho hd hcd hmg hobj hints hlen hgen
 obtain ⟨K, fd, sp, KX, hb, hsp, hF⟩ := F w mg fa _ Y G.T.g hmg
 exact law_callN KX G.T.g G.T.b G.T.builtins G.T.nolimit (λ h' kp => ⟨nd_keep G.T.nodigits kp, by
     obtain ⟨mm, ⟨o, es, ep, e, d, _⟩, _⟩ := (G.T.seer hi).mods
     exact ⟨o, es, ep, kp _ _ _ _ e d, d⟩⟩) hgen hobj hints
   (Nat.le_trans hlen hn2) hr hF hb (λ H hS => hsp H a ns hlen hS) (λ H e s' => hCX w H s1 e s')
end RC

namespace RC
open PySem PySem.Spec PyProof.Rows L2
def lcS {α β γ : Type} (f : α -> γ -> (Option β -> γ -> Prop) -> Prop) : List α -> γ -> List β -> (List β -> γ -> Prop) -> Prop
 | [], s, acc, k => k acc s
 | x :: xs, s, acc, k => f x s λ y s' => lcS f xs s' (acc ++ y.toList) k
def isNo : PyData -> Bool
 | .none => true
 | _ => false
def anyAt : PyData -> Int -> Option PyData
 | .list ds, i => atI ds i
 | .tuple ds, i => atI ds i
 | _, _ => none
section
variable {α β γ : Type} {K : Fr} {Rs : List Res} {H : Hp} {σ : L2.St} {Q : VK} {D : Ends} {v w : V} {d d' : PyData} {p : Addr} {e : α -> PyData} {xs ys : List α}
theorem M.cstA (S : M Rs H) (i : Nat) (h0 : Rs[i]? = some (da K v d)) (h : d = d') : M (da K v d' :: Rs) H := h ▸ M.addA S (EnF.at i h0)
theorem v_ixa {i : Int} {x : PyData} (S : M Rs H) (j : Nat) (hj : Rs[j]? = some (da K v d)) (hx : anyAt d i = some x) (k : ∀ u, M (da K u x :: Rs) H -> Q u H) : uIx K v (.int i) H Q := by
 cases d with
 | list ds => exact v_ixq S (.inl (EnF.at j hj)) hx k
 | tuple ds => exact v_ixq S (.inr (EnF.at j hj)) hx k
 | _ => cases hx
theorem DqAll.fixT {F : Hp} {L : List Cell} {vs : List V} {ds : List PyData} (s : Sat F Rs L) (m : MemC F L H) (q : DqAll K F vs ds) (k : ∀ p H', M (da K (.ref p) (.tuple ds) :: Rs) H' -> Q (.ref p) H') : ∀ p, H p = none -> Q (.ref p) (upd H p (.tup vs)) := by
 intro p hp
 have S1 : M (daA K vs ds :: Rs) H := ⟨F, L, ⟨[], L, rfl, ⟨rfl, q⟩, s⟩, m⟩
 refine k p _ ?_
 have S2 : M (pt p (.tup vs) :: daA K vs ds :: Rs) (upd H p (.tup vs)) := S1.new hp
 have S3 : M (da K (.ref p) (.tuple ds) :: daA K vs ds :: Rs) (upd H p (.tup vs)) := S2.fixG (R := da K (.ref p) (.tuple ds)) (φ := λ F => DqAll K F vs ds) (λ F L ⟨_, _, _, a, _⟩ => a.2) λ F q e => ⟨rfl, .tup (.inl (.inl e)) q⟩
 exact M.sub (.cons 0 rfl (.tl (.refl _))) S3
theorem v_slA {lo hi : Option Int} (S : M Rs H) (j : Nat) (hj : Rs[j]? = some (da K v (eV e xs))) (k : ∀ u H', M (da K u (eV e (cutL xs lo hi)) :: Rs) H' -> Q u H') : rSlA K v lo hi H Q := by
 obtain ⟨F, L, s, m⟩ := id S
 have d0 := EnF.at j hj F L s
 cases d0 with
 | tup a q =>
   rename_i vs
   refine ⟨_, _, rfl, m.ex.sqT a, λ hw => ?_, λ _ => ?_⟩
   · have hl : vs.length = xs.length := by have := q.len; rwa [List.length_map] at this
     have e1 : cutL xs lo hi = xs := by
       unfold cutL
       rw [<- hl, hw.1, hw.2]
       simp [hl]
     refine k _ H ?_
     rw [e1]
     exact S.addA (EnF.at j hj)
   · refine DqAll.fixT s m (q.cut lo hi) λ p H' S' => k _ H' ?_
     unfold eV
     rw [<- cutL_map]
     exact S'
theorem isNo_eq (h : Dq K H v d) : isNo d = decide (v = .non) := by
 cases h <;> simp [isNo]
theorem v_isNa (h : Dq K H v d) (k : Q (.bl (isNo d)) H) : rIsN v .non H Q := ⟨rfl, by rw [<- isNo_eq h]; exact k⟩
theorem v_notNa (h : Dq K H v d) (k : Q (.bl (!isNo d)) H) : rNotN v .non H Q := ⟨rfl, by rw [<- isNo_eq h]; exact k⟩
theorem v_all {bs : List Bool} (h : Dq K H v (eL eB bs)) (k : Q (.bl (bs.all id)) H) : rAll K [v] H Q := by
 obtain ⟨a, rfl, hs⟩ := flB.lst h
 exact ⟨a, bs, rfl, hs, k⟩
theorem v_dpopA {κ : Type} {ik : κ -> Key} {tb : TE} {m : List (κ × α)} (S : M Rs H) (j : Nat) (hj : Rs[j]? = some (adR K ik e p m)) (k : tb σ H (PopV p Q)) : Pop1K tb σ Q (.ref p) H := by
 obtain ⟨kvs, h, t⟩ := S.gotDk j hj
 exact v_dpop h k
theorem popd_core {κ : Type} [DecidableEq κ] {ik : κ -> Key} {m : List (κ × α)} {k : κ} {x : α} (inj : ∀ a b, ik a = ik b -> a = b) (S : M Rs H) (j : Nat) (hj : Rs[j]? = some (adR K ik e p m)) (hx : lk m k = some x) :
   ∃ kvs u, H p = some (.dK kvs) /\ valV kvs (ik k) = some u /\ M (da K u (e x) :: adR K ik e p (dk m k) :: Rs.eraseIdx j) (upd H p (.dK (dropK kvs (ik k)))) := by
 obtain ⟨kvs, S1⟩ := adR_open S j hj
 have S2 := S1.putAt (o' := .dK (dropK kvs (ik k))) 0 rfl
 obtain ⟨F, L, ⟨l1, l2, rfl, a, l3, l4, rfl, ⟨rfl, t⟩, b⟩, mm⟩ := id S2
 obtain ⟨u, h1, h2⟩ := t.some inj hx
 exact ⟨kvs, u, S1.got 0 rfl, h1, F, _, ⟨[], _, rfl, ⟨rfl, h2⟩, l1, l4, by simp, ⟨_, l1, [], by simp, a, rfl, t.drop inj⟩, b⟩, mm⟩
theorem v_popAS {m : List (Str × α)} {n : Str} {x : α} (S : M Rs H) (j : Nat) (hj : Rs[j]? = some (adR K iS e p m)) (hx : lk m n = some x) (k : ∀ u H', M (da K u (e x) :: adR K iS e p (dk m n) :: Rs.eraseIdx j) H' -> Q u H') : PopV p Q (.str n) H := by
 obtain ⟨kvs, u, h1, h2, S2⟩ := popd_core injS S j hj hx
 exact ⟨kvs, Sum.inr n, u, h1, rfl, h2, k u _ S2⟩
theorem lc_rngS {te : TE} {tt : TT} {g : TG} {ws : List Nat} {F : Int -> γ -> (Option β -> γ -> Prop) -> Prop} {e' : β -> PyData} {n : Int} {s0 : γ} {KK : List β -> γ -> Prop} (RsF : γ -> List Res) (hf : (rng n).length <= 100000 /\ lcS F (rng n) s0 [] KK) (S : M (RsF s0) H)
   (hs : ∀ x (s : γ) (acc : List β) E H (kk : Option β -> γ -> Prop) (N : Hp -> Prop), (acc.map e').length < 100000 -> M (acR K E (acc.map e') :: RsF s) H -> F x s kk ->
     (∀ y s' H, kk (some y) s' -> M (acR K E (acc.map e' ++ [e' y]) :: RsF s') H -> N H) -> (∀ s' H, kk none s' -> M (acR K E (acc.map e') :: RsF s') H -> N H) -> g (.int x) (wipe σ ws) H λ σ2 H2 => wipe σ2 ws = wipe σ ws /\ tt σ2 H2 λ b H3 =>
     if b = true then te σ2 H3 (LcK N E) else N H3)
   (hd : ∀ E (acc : List β) s H, KK acc s -> M (acR K E (acc.map e') :: RsF s) H -> Q (.ref E) H) : LcW (Itr 0 n.toNat) g tt te ws σ Q H := by
 obtain ⟨hz, hf⟩ := hf
 rw [rng_len] at hz
 refine lc_X walk_range (λ E i H => ∃ acc s, lcS F ((rng n).drop i) s acc KK /\ acc.length <= i /\ M (acR K E (acc.map e') :: RsF s) H) (λ E hE => ⟨[], s0, by simpa using hf, Nat.le_refl _, acR_nil (S.new hE)⟩) (λ E i H _ _ => trivial) ?_ ?_
 · rintro E i v H H' hi ⟨acc, s, hf, ha, S⟩ ⟨rfl, rfl⟩
   have hi2 : i < (rng n).length := by rw [rng_len]; exact hi
   rw [List.drop_eq_getElem_cons hi2] at hf
   have e : (rng n)[i] = (0 : Int) + (i : Nat) := Option.some.inj ((List.getElem?_eq_getElem hi2).symm.trans (rng_get hi))
   rw [e] at hf
   refine hs _ s acc E H' _ _ (by rw [List.length_map]; omega) S hf (λ y s' H hk S => ⟨acc ++ [y], s', hk, by rw [List.length_append]; simpa using ha, by rw [List.map_append]; exact S⟩) (λ s' H hk S => ⟨acc, s', ?_, by omega, S⟩)
   simpa using hk
 · rintro E H ⟨acc, s, hf, ha, S⟩
   rw [<- rng_len, List.drop_length] at hf
   exact hd E acc s H hf S
theorem inV_str {s : Str} : ∀ xs : List Str, inV (.str s) (xs.map V.str) = xs.any λ y => decide (y = s)
 | [] => rfl
 | x :: xs => by
   have h := inV_str (s := s) xs
   unfold inV at h ⊢
   rw [List.map_cons, List.any_cons, List.any_cons, h]
   congr 1
theorem flat_strs : ∀ xs : List Str, (xs.map V.str).all flatV = true
 | [] => rfl
 | x :: xs => by rw [List.map_cons, List.all_cons, flat_strs xs]; rfl
theorem v_inT {s : Str} {xs : List Str} (h : SqL K H p (xs.map V.str) \/ SqT K H p (xs.map V.str)) (k : Q (.bl (xs.any λ y => decide (y = s))) H) : uIn K (.str s) (.ref p) H Q :=
 .inl ⟨p, _, rfl, h, rfl, flat_strs xs, by rw [inV_str]; exact k⟩
theorem Dq.sqTS {xs : List Str} (h : Dq K H v (eV eS xs)) : ∃ a, v = .ref a /\ SqT K H a (xs.map V.str) := by
 cases h with
 | tup a q => exact ⟨_, rfl, (flS.all q) ▸ a⟩
theorem v_inV {s : Str} {xs : List Str} (h : Dq K H v (eV eS xs)) (k : Q (.bl (xs.any λ y => decide (y = s))) H) : uIn K (.str s) v H Q := by
 obtain ⟨a, rfl, hs⟩ := h.sqTS
 exact v_inT (.inr hs) k
theorem v_hdY {W : WX} {cs : List Value} {sl : Option Nat} {ts : Addr -> Value -> Option Addr -> TS} {r : List Hd} {cls : Value} {dd : Option Addr} (h : PySem.W.exmAny K cls cs = some true) (k : ∀ a, ts a cls dd (Hd.ends D sl) (Hd.put σ a sl) H) : wTry K W D (⟨cs, sl, ts⟩ :: r) cls dd σ H :=
 ⟨true, h, λ _ a _ => k a, λ z => nomatch z⟩
theorem g_xgv {a C dd : Addr} {fs : List (Str × V)} {n : Str} {i : Nat} (hv : σ[i]? = some (some (.ref a))) (c : ExcC K C) (hn : PySem.W.findIn K (.ref C) n = some none) (h : H dd = some (.xd fs)) (l : fs.lookup n = some v) (k : Q v H) : tXg K a (.ref C) (some dd) n (tVar i) σ H Q :=
 g_xg (g_var hv (v_xg c hn h l k))
end
end RC

namespace RC
open PySem PySem.Spec PyProof.Rows L2
section
variable {X : Cx} {CX : CXT} {g : Bool} {k n : Nat} {f C : Addr} {fd : FuncData} {ps ks : List Str} {sp : Sp} {W : WX} {x m : Str} {p pos apos : Pos} {o e : Expr} {es : List Expr} {kws : List Keyword} {t tk : TA} {ta : TE} {gg : List Value -> List Value -> List Value} {gV : List V -> List V -> List V}
end
theorem Sat.got {F : Hp} : ∀ {Rs : List Res} {L : List Cell} (i : Nat) {R : Res}, Sat F Rs L -> Rs[i]? = some R -> ∃ l, R.on F l /\ ∀ c ∈ l, c ∈ L
 | [], L, i, R, _, e => by simp at e
 | S :: Rs, L, 0, R, ⟨l1, l2, h, a, _⟩, e => by
   have e : S = R := Option.some.inj e
   subst e
   exact ⟨l1, a, λ c hc => h ▸ List.mem_append_left _ hc⟩
 | S :: Rs, L, i + 1, R, ⟨l1, l2, h, _, b⟩, e => by
   obtain ⟨l, h1, h2⟩ := Sat.got i b (by simpa using e)
   exact ⟨l, h1, λ c hc => h ▸ List.mem_append_right _ (h2 c hc)⟩
section
variable {K : Fr} {κ α β : Type} {ik : κ -> Key} {e : α -> PyData} {Rs : List Res} {H : Hp} {Q : VK} {v : V} {p : Addr} {m : List (κ × α)} {σ : L2.St}
def DVs (K : Fr) (Rs : List Res) (H : Hp) (ik : κ -> Key) (e : α -> PyData) (v : V) (m : List (κ × α)) : Prop :=
 ∃ p kvs F L, v = .ref p /\ Rd H p (.dK kvs) /\ Sat F Rs L /\ MemC F L H /\ TKv K F ik e kvs m
theorem DqKv.tkv : ∀ {kvs : List (Key × V)} {m : List (κ × α)}, DqKv K H kvs (m.map λ p => (kD (ik p.1), e p.2)) -> TKv K H ik e kvs m
 | [], [], _ => .nil
 | [], q :: m, h => by cases h
 | _ :: _, [], h => by cases h
 | (k, v) :: kvs, q :: m, h => by
   generalize e1 : (((q :: m).map λ p => (kD (ik p.1), e p.2)) : List (PyData × PyData)) = ds at h
   cases h with
   | cons h r =>
     simp only [List.map_cons, List.cons.injEq, Prod.mk.injEq] at e1
     obtain ⟨⟨a, b⟩, c⟩ := e1
     subst b c
     cases kD_inj a
     exact .cons h (DqKv.tkv r)
theorem M.dvO (S : M Rs H) (j : Nat) (hj : Rs[j]? = some (adR K ik e p m)) : DVs K Rs H ik e (.ref p) m := by
 obtain ⟨F, L, s, mm⟩ := S
 obtain ⟨l, ⟨kvs, l1, l2, rfl, rfl, rfl, t⟩, hl⟩ := s.got j hj
 exact ⟨p, kvs, F, L, rfl, .inl (mm.own (p, .dK kvs) (hl _ (by simp))).1, s, mm, t⟩
theorem M.dvA (S : M Rs H) (j : Nat) (hj : Rs[j]? = some (da K v (eD ik e m))) : DVs K Rs H ik e v m := by
 obtain ⟨F, L, s, mm⟩ := S
 obtain ⟨l, ⟨rfl, h⟩, hl⟩ := s.got j hj
 cases h with
 | dct h q => exact ⟨_, _, F, L, rfl, .inr ⟨_, mm.ex _ _ h⟩, s, mm, q.tkv⟩
inductive DF where
 | own
 | lck (p : Addr) (od : Obj) (kvs : List (Key × V))
 | dat
 | fzd (p : Addr) (od : Obj) (kvs : List (Key × V))
def bdR (K : Fr) (ik : κ -> Key) (e : α -> PyData) (v : V) (m : List (κ × α)) : DF -> Res
 | .own => exi λ p => prp (v = .ref p) (adR K ik e p m)
 | .lck p od kvs => prp (v = .ref p) (adL K ik e p od kvs m)
 | .dat => da K v (eD ik e m)
 | .fzd p od kvs => prp (v = .ref p) (sp2 (fz p (.frz od (.dK kvs))) (tkR K ik e kvs m))
theorem M.dvB {f : DF} (S : M Rs H) (j : Nat) (hj : Rs[j]? = some (bdR K ik e v m f)) : DVs K Rs H ik e v m := by
 cases f with
 | own =>
   obtain ⟨F, L, s, mm⟩ := S
   obtain ⟨l, ⟨p, rfl, kvs, l1, l2, rfl, rfl, rfl, t⟩, hl⟩ := s.got j hj
   exact ⟨p, kvs, F, L, rfl, .inl (mm.own (p, .dK kvs) (hl _ (by simp))).1, s, mm, t⟩
 | lck p od kvs =>
   obtain ⟨F, L, s, mm⟩ := S
   obtain ⟨l, ⟨rfl, l1, l2, rfl, rfl, rfl, t⟩, hl⟩ := s.got j hj
   exact ⟨p, kvs, F, L, rfl, .inr ⟨od, (mm.own (p, .frz od (.dK kvs)) (hl _ (by simp))).1⟩, s, mm, t⟩
 | dat => exact S.dvA j hj
 | fzd p od kvs =>
   obtain ⟨F, L, s, mm⟩ := S
   obtain ⟨l, ⟨rfl, l1, l2, rfl, ⟨rfl, h⟩, rfl, t⟩, hl⟩ := s.got j hj
   exact ⟨p, kvs, F, L, rfl, .inr ⟨od, mm.ex _ _ h⟩, s, mm, t⟩
theorem DVs.len (D : DVs K Rs H ik e v m) (k : Q (.int (m.length : Nat)) H) : uLen K [v] H Q := by
 obtain ⟨p, kvs, F, L, rfl, h, _, _, t⟩ := D
 exact .inr ⟨p, kvs, rfl, h, by rw [t.len]; exact k⟩
variable [DecidableEq κ]
theorem DVs.at (inj : ∀ a b, ik a = ik b -> a = b) {k : κ} {x : α} (D : DVs K Rs H ik e v m) (hx : lk m k = some x) : ∃ p kvs u, v = .ref p /\ Rd H p (.dK kvs) /\ valV kvs (ik k) = some u /\ M (da K u (e x) :: Rs) H := by
 obtain ⟨p, kvs, F, L, rfl, h, s, mm, t⟩ := D
 obtain ⟨u, h1, h2⟩ := t.some inj hx
 exact ⟨p, kvs, u, rfl, h, h1, F, L, ⟨[], L, rfl, ⟨rfl, h2⟩, s⟩, mm⟩
theorem DVs.has (inj : ∀ a b, ik a = ik b -> a = b) (k : κ) (D : DVs K Rs H ik e v m) : ∃ p kvs, v = .ref p /\ Rd H p (.dK kvs) /\ (valV kvs (ik k)).isSome = (lk m k).isSome := by
 obtain ⟨p, kvs, F, L, rfl, h, s, mm, t⟩ := D
 exact ⟨p, kvs, rfl, h, t.isSome inj k⟩
end
section
variable {K : Fr} {α β : Type} {e : α -> PyData} {Rs : List Res} {H : Hp} {Q : VK} {v : V} {p : Addr} {σ : L2.St}
theorem d_ixS {m : List (Str × α)} {n : Str} {x : α} (D : DVs K Rs H iS e v m) (hx : lk m n = some x) (k : ∀ u, M (da K u (e x) :: Rs) H -> Q u H) : rIxK v (.str n) H Q := by
 obtain ⟨p, kvs, u, rfl, h, h1, S⟩ := D.at injS hx
 exact ⟨p, u, rfl, .inl ⟨kvs, Sum.inr n, h, rfl, h1.symm⟩, k u S⟩
theorem d_inS {m : List (Str × α)} {n : Str} (D : DVs K Rs H iS e v m) (k : Q (.bl (lk m n).isSome) H) : uIn K (.str n) v H Q := by
 obtain ⟨p, kvs, rfl, h, e⟩ := D.has injS n
 exact .inr (.inr (.inl ⟨p, _, rfl, .inl ⟨kvs, Sum.inr n, h, rfl, rfl⟩, by rw [show (Sum.inr n : Key) = iS n from rfl, e]; exact k⟩))
theorem d_ninS {m : List (Str × α)} {n : Str} (D : DVs K Rs H iS e v m) (k : Q (.bl (!(lk m n).isSome)) H) : uNotIn K (.str n) v H Q := by
 obtain ⟨p, kvs, rfl, h, e⟩ := D.has injS n
 exact .inr (.inr (.inl ⟨p, _, rfl, .inl ⟨kvs, Sum.inr n, h, rfl, rfl⟩, by rw [show (Sum.inr n : Key) = iS n from rfl, e]; exact k⟩))
theorem d_srtS {m : List (Str × α)} (D : DVs K Rs H iS e v m) (hz : (ks m).length < 64) (k : ∀ q H', M (acR K q ((srtS' (ks m)).map eS) :: Rs) H' -> Q (.ref q) H') : rSortDS [v] H Q := by
 obtain ⟨p, kvs, F, L, rfl, h, s, mm, t⟩ := D
 refine ⟨p, kvs, ks m, rfl, h, t.keys, hz, λ ys q hp hs hn => ?_⟩
 rw [srtS_eq hp hs]
 exact k q _ (M.ownS (M.new ⟨F, L, s, mm⟩ hn))
end
def tLkE (t : TE) : TE := λ σ H Q => t σ H Q \/ tLockE t σ H Q
theorem pe_lk {X : Cx} {x : Expr} {t : TE} (h : PE X x t) : PE X x (tLkE t) := ⟨λ pins s σ H Q I hw => hw.elim (λ q => h.run pins s σ H Q I q) (λ q => (pe_lock h).run pins s σ H Q I q)⟩
def tLkS (t : TS) : TS := λ D σ H => t D σ H \/ tLock t D σ H
theorem ps_lk {X : Cx} {x : Stmt} {t : TS} (h : PS X x t) : PS X x (tLkS t) := ⟨λ pins s σ H D I hw => hw.elim (λ q => h.run pins s σ H D I q) (λ q => (ps_lock h).run pins s σ H D I q)⟩
section
variable {K : Fr} {κ α β : Type} {ik : κ -> Key} {e : α -> PyData} {Rs : List Res} {H : Hp} {Q : VK} {v : V} {p : Addr} {m : List (κ × α)} {σ : L2.St} {od : Obj} {kvs : List (Key × V)}
theorem keys_at {sv : κ -> V} (hsv : ∀ q, kV (ik q) = sv q) (hk : kvs.map (·.1) = (ks m).map ik) {i : Nat} {k : Key} {u : V} (h : kvs[i]? = some (k, u)) : ∃ hi : i < (ks m).length, kV k = sv (ks m)[i] := by
 have h1 : (kvs.map (·.1))[i]? = some k := by rw [List.getElem?_map, h]; rfl
 rw [hk, List.getElem?_map] at h1
 rcases Nat.lt_or_ge i (ks m).length with hi | hi
 · rw [List.getElem?_eq_getElem hi] at h1
   have h1 : ik (ks m)[i] = k := Option.some.inj h1
   exact ⟨hi, by rw [<- h1]; exact hsv _⟩
 · rw [List.getElem?_eq_none hi] at h1
   cases h1
theorem lc_fz {te : TE} {tt : TT} {g : TG} {ws : List Nat} {F : κ -> (Option β -> Prop) -> Prop} {e' : β -> PyData} {KK : List β -> Prop} {R : Res} {sv : κ -> V} (hsv : ∀ q, kV (ik q) = sv q) (hk : kvs.map (·.1) = (ks m).map ik) (hf : (ks m).length <= 100000 /\ lcD F (ks m) [] KK)
   (S : M (R :: Rs) H) (hfr : ∀ Rs H, M (R :: Rs) H -> H p = some (.frz od (.dK kvs)))
   (hs : ∀ x (acc : List β) E H (kk : Option β -> Prop) (N : Hp -> Prop), (acc.map e').length < 100000 -> M (acR K E (acc.map e') :: R :: Rs) H -> F x kk ->
     (∀ y H, kk (some y) -> M (acR K E (acc.map e' ++ [e' y]) :: R :: Rs) H -> N H) -> (∀ H, kk none -> M (acR K E (acc.map e') :: R :: Rs) H -> N H) -> g (sv x) (wipe σ ws) H λ σ2 H2 => wipe σ2 ws = wipe σ ws /\ tt σ2 H2 λ b H3 =>
     if b = true then te σ2 H3 (LcK N E) else N H3)
   (hd : ∀ E (acc : List β) H, KK acc -> M (acR K E (acc.map e') :: R :: Rs) H -> Q (.ref E) H) : LcW (Itk p od kvs) g tt te ws σ Q H := by
 obtain ⟨hz, hf⟩ := hf
 have hl : kvs.length = (ks m).length := by
   have := congrArg List.length hk
   simpa using this
 refine lc_X walk_keys (λ E n H => ∃ acc, lcD F ((ks m).drop n) acc KK /\ acc.length <= n /\ M (acR K E (acc.map e') :: R :: Rs) H) (λ E hE => ⟨[], by simpa using hf, Nat.le_refl _, acR_nil (S.new hE)⟩) (λ E n H _ ⟨acc, _, _, S⟩ => hfr _ _ (S.at 1 rfl)) ?_ ?_
 · rintro E n v H H' hn ⟨acc, hf, ha, S⟩ ⟨rfl, k, u, hk', rfl⟩
   obtain ⟨hn2, ek⟩ := keys_at hsv hk hk'
   rw [List.drop_eq_getElem_cons hn2] at hf
   rw [ek]
   refine hs _ acc E H' _ _ (by rw [List.length_map]; omega) S hf (λ y H hk S => ⟨acc ++ [y], hk, by rw [List.length_append]; simpa using ha, by rw [List.map_append]; exact S⟩) (λ H hk S => ⟨acc, ?_, by omega, S⟩)
   simpa using hk
 · rintro E H ⟨acc, hf, ha, S⟩
   rw [hl, List.drop_length] at hf
   exact hd E acc H hf S
theorem M.openDk (S : M (da K v (eD ik e m) :: Rs) H) : ∃ p od kvs, v = .ref p /\ kvs.map (·.1) = (ks m).map ik /\ M (fz p (.frz od (.dK kvs)) :: tkR K ik e kvs m :: Rs) H := by
 obtain ⟨F, L, ⟨l1, l2, rfl, ⟨rfl, h⟩, b⟩, mm⟩ := S
 cases h with
 | dct h q => exact ⟨_, _, _, rfl, q.tkv.keys, F, l2, ⟨[], l2, rfl, ⟨rfl, h⟩, [], l2, rfl, ⟨rfl, q.tkv⟩, b⟩, mm⟩
theorem M.closeDk (S : M (fz p (.frz od (.dK kvs)) :: tkR K ik e kvs m :: Rs) H) : M (da K (.ref p) (eD ik e m) :: Rs) H := by
 obtain ⟨F, L, ⟨l1, l2, rfl, ⟨rfl, h⟩, l3, l4, rfl, ⟨rfl, t⟩, b⟩, mm⟩ := S
 exact ⟨F, l4, ⟨[], l4, rfl, ⟨rfl, .dct h t.kv⟩, b⟩, mm⟩
theorem lck_frz (S : M (bdR K ik e v m (.lck p od kvs) :: Rs) H) : H p = some (.frz od (.dK kvs)) := by
 obtain ⟨F, L, ⟨l1, l2, rfl, ⟨rfl, l3, l4, rfl, rfl, rfl, t⟩, b⟩, mm⟩ := S
 exact (mm.own (p, .frz od (.dK kvs)) (by simp)).1
theorem fzd_frz (S : M (bdR K ik e v m (.fzd p od kvs) :: Rs) H) : H p = some (.frz od (.dK kvs)) := by
 obtain ⟨F, L, ⟨l1, l2, rfl, ⟨rfl, l3, l4, rfl, ⟨rfl, h⟩, rfl, t⟩, b⟩, mm⟩ := S
 exact mm.ex _ _ h
theorem bd_open (S : M (adR K ik e p m :: Rs) H) : M (bdR K ik e (.ref p) m .own :: Rs) H := M.ex' (T := λ q => prp (V.ref p = .ref q) (adR K ik e q m)) p (M.pr' rfl S)
theorem bd_close (S : M (bdR K ik e (.ref p) m .own :: Rs) H) : M (adR K ik e p m :: Rs) H := by
 obtain ⟨q, S⟩ := M.ex (show M ((exi λ q => prp (V.ref p = .ref q) (adR K ik e q m)) :: Rs) H from S)
 obtain ⟨h, S⟩ := S.pr
 cases h
 exact S
theorem lc_kys {te td : TE} {tt : TT} {g : TG} {ws : List Nat} {F : κ -> (Option β -> Prop) -> Prop} {e' : β -> PyData} {KK : List β -> Prop} {f : DF} {sv : κ -> V} (hsv : ∀ q, kV (ik q) = sv q) (hf : (ks m).length <= 100000 /\ lcD F (ks m) [] KK) (S : M Rs H) (j : Nat) (hj : Rs[j]? = some (bdR K ik e v m f))
   (htd : ∀ f' H' (Q' : VK), M (bdR K ik e v m f' :: Rs.eraseIdx j) H' -> Q' v H' -> td σ H' Q')
   (hs : ∀ f' x (acc : List β) E H (kk : Option β -> Prop) (N : Hp -> Prop), (acc.map e').length < 100000 -> M (acR K E (acc.map e') :: bdR K ik e v m f' :: Rs.eraseIdx j) H -> F x kk ->
     (∀ y H, kk (some y) -> M (acR K E (acc.map e' ++ [e' y]) :: bdR K ik e v m f' :: Rs.eraseIdx j) H -> N H) -> (∀ H, kk none -> M (acR K E (acc.map e') :: bdR K ik e v m f' :: Rs.eraseIdx j) H -> N H) -> g (sv x) (wipe σ ws) H λ σ2 H2 => wipe σ2 ws = wipe σ ws /\ tt σ2 H2 λ b H3 =>
     if b = true then te σ2 H3 (LcK N E) else N H3)
   (hd : ∀ E (acc : List β) H, KK acc -> M (acR K E (acc.map e') :: bdR K ik e v m f :: Rs.eraseIdx j) H -> Q (.ref E) H) : tLkE (tLc (iKeys td) g tt te ws) σ H Q := by
 have S1 := S.at j hj
 cases f with
 | own =>
   obtain ⟨p, S1⟩ := M.ex (show M ((exi λ q => prp (v = .ref q) (adR K ik e q m)) :: Rs.eraseIdx j) H from S1)
   obtain ⟨rfl, S1'⟩ := S1.pr
   obtain ⟨kvs, S1⟩ := adR_open S1' 0 rfl
   refine .inr ⟨p, .dK kvs, S1.got 0 rfl, trivial, λ od => ?_⟩
   have S2 : M (pt p (.frz od (.dK kvs)) :: tkR K ik e kvs m :: Rs.eraseIdx j) (upd H p (.frz od (.dK kvs))) := S1.putAt 0 rfl
   have S3 : M (bdR K ik e (.ref p) m (.lck p od kvs) :: Rs.eraseIdx j) (upd H p (.frz od (.dK kvs))) := M.pr' rfl S2.sp'
   refine htd _ _ _ S3 ⟨p, od, rfl, .inl ⟨kvs, S2.got 0 rfl, ?_⟩⟩
   refine lc_fz (Q := λ v H' => H' p = some (.frz od (.dK kvs)) /\ Q v (upd H' p (.dK kvs))) hsv (S2.gotT 1 rfl).keys hf S3 (λ _ _ S => lck_frz S) (λ x acc E H kk N h1 h2 h3 h4 h5 => hs _ x acc E H kk N h1 h2 h3 h4 h5) ?_
   rintro E acc H2 hK S4
   have S5 := S4.at 1 rfl
   refine ⟨lck_frz S5, hd E acc _ hK ?_⟩
   obtain ⟨_, S5⟩ := M.pr (show M (prp (V.ref p = .ref p) (adL K ik e p od kvs m) :: acR K E (acc.map e') :: Rs.eraseIdx j) H2 from S5)
   have S6 : M (pt p (.dK kvs) :: tkR K ik e kvs m :: acR K E (acc.map e') :: Rs.eraseIdx j) (upd H2 p (.dK kvs)) := S5.sp.putAt 0 rfl
   exact M.sub (.cons 1 rfl (.refl _)) (bd_open (adR_close S6))
 | lck p od kvs =>
   have e1 : v = .ref p := (M.pr (show M (prp (v = .ref p) (adL K ik e p od kvs m) :: Rs.eraseIdx j) H from S1)).1
   have t : TKv K H ik e kvs m := ((M.pr (show M (prp (v = .ref p) (adL K ik e p od kvs m) :: Rs.eraseIdx j) H from S1)).2).sp.gotT 1 rfl
   refine .inl (htd _ _ _ S1 ⟨p, od, e1, .inl ⟨kvs, lck_frz S1, ?_⟩⟩)
   exact lc_fz hsv t.keys hf S1 (λ _ _ S => lck_frz S) (λ x acc E H kk N h1 h2 h3 h4 h5 => hs _ x acc E H kk N h1 h2 h3 h4 h5) (λ E acc H hK S => hd E acc H hK S)
 | dat =>
   obtain ⟨p, od, kvs, rfl, hk, S2⟩ := M.openDk (show M (da K v (eD ik e m) :: Rs.eraseIdx j) H from S1)
   have S3 : M (bdR K ik e (.ref p) m (.fzd p od kvs) :: Rs.eraseIdx j) H := M.pr' rfl S2.sp'
   refine .inl (htd _ _ _ S3 ⟨p, od, rfl, .inl ⟨kvs, fzd_frz S3, ?_⟩⟩)
   refine lc_fz hsv hk hf S3 (λ _ _ S => fzd_frz S) (λ x acc E H kk N h1 h2 h3 h4 h5 => hs _ x acc E H kk N h1 h2 h3 h4 h5) ?_
   rintro E acc H2 hK S4
   have S5 := S4.at 1 rfl
   obtain ⟨_, S5⟩ := M.pr (show M (prp (V.ref p = .ref p) (sp2 (fz p (.frz od (.dK kvs))) (tkR K ik e kvs m)) :: acR K E (acc.map e') :: Rs.eraseIdx j) H2 from S5)
   exact hd E acc _ hK (M.sub (.cons 1 rfl (.refl _)) (M.closeDk S5.sp))
 | fzd p od kvs =>
   have e1 : v = .ref p := (M.pr (show M (prp (v = .ref p) (sp2 (fz p (.frz od (.dK kvs))) (tkR K ik e kvs m)) :: Rs.eraseIdx j) H from S1)).1
   have t : TKv K H ik e kvs m := ((M.pr (show M (prp (v = .ref p) (sp2 (fz p (.frz od (.dK kvs))) (tkR K ik e kvs m)) :: Rs.eraseIdx j) H from S1)).2).sp.gotT 1 rfl
   refine .inl (htd _ _ _ S1 ⟨p, od, e1, .inl ⟨kvs, fzd_frz S1, ?_⟩⟩)
   exact lc_fz hsv t.keys hf S1 (λ _ _ S => fzd_frz S) (λ x acc E H kk N h1 h2 h3 h4 h5 => hs _ x acc E H kk N h1 h2 h3 h4 h5) (λ E acc H hK S => hd E acc H hK S)
theorem for_fz {F : κ -> β -> (β -> Prop) -> Prop} {s0 : β} {KK : β -> Prop} {g : TG} {tb : TS} {D : Ends} {sv : κ -> V} (hsv : ∀ q, kV (ik q) = sv q) (hk : kvs.map (·.1) = (ks m).map ik) (hf : forD F (ks m) s0 KK) (Inv : β -> L2.St -> Hp -> Prop) (h0 : Inv s0 σ H)
   (hrd : ∀ s σ H, Inv s σ H -> H p = some (.frz od (.dK kvs)))
   (hs : ∀ x s σ H (kk : β -> Prop), Inv s σ H -> F x s kk -> g (sv x) σ H λ σ2 H2 => tb ⟨λ σ H => ∃ s', kk s' /\ Inv s' σ H, D.rt, D.nx, λ σ H => ∃ s', kk s' /\ Inv s' σ H⟩ σ2 H2)
   (hd : ∀ s σ H, KK s -> Inv s σ H -> D.nx σ H) : ForW (Itk p od kvs) g tb D σ H := by
 have hl : kvs.length = (ks m).length := by
   have := congrArg List.length hk
   simpa using this
 refine for_W walk_keys (λ i σ H => ∃ s, forD F ((ks m).drop i) s KK /\ Inv s σ H) ⟨s0, by simpa using hf, h0⟩ (λ i σ H _ ⟨s, _, h⟩ => hrd s σ H h) ?_ ?_
 · rintro i v σ H H' hi ⟨s, hf, h⟩ ⟨rfl, k, u, hk', rfl⟩
   obtain ⟨hn2, ek⟩ := keys_at hsv hk hk'
   rw [List.drop_eq_getElem_cons hn2] at hf
   rw [ek]
   exact hs _ s σ H' _ h hf
 · rintro σ H ⟨s, hf, h⟩
   rw [hl, List.drop_length] at hf
   exact hd s σ H hf h
end
end RC

namespace RC
open PySem PySem.Spec PyProof.Rows L2
section
variable {K : Fr} {α β : Type} {e : α -> PyData} {Rs : List Res} {H : Hp} {Q : VK} {v w : V} {p : Addr} {σ : L2.St}
theorem eqvA_ints : ∀ xs ys : List Int, PyData.eqvAll (xs.map eI) (ys.map eI) = decide (xs = ys)
 | [], [] => rfl
 | [], y :: ys => by simp [PyData.eqvAll]
 | x :: xs, [] => by simp [PyData.eqvAll]
 | x :: xs, y :: ys => by
   have ih := eqvA_ints xs ys
   simp only [List.map_cons, PyData.eqvAll, ih]
   by_cases z : x = y
   · subst z
     simp [PyData.eqv]
   · simp [PyData.eqv, z]
theorem eqv_LI (xs ys : List Int) : PyData.eqv (eL eI xs) (eL eI ys) = decide (xs = ys) := eqvA_ints xs ys
theorem canL_ints : ∀ xs : List Int, PyData.canLayAll0 (xs.map eI) = true
 | [] => rfl
 | x :: xs => by
   simp only [List.map_cons, PyData.canLayAll0, canL_ints xs, Bool.and_true]
   rfl
theorem depA_ints : ∀ xs : List Int, PyData.depthAll (xs.map eI) = 0
 | [] => rfl
 | x :: xs => by
   simp only [List.map_cons, PyData.depthAll, depA_ints xs]
   rfl
theorem shaped_LI (xs : List Int) : EqOk (eL eI xs) := by
 show SeqAt.shaped (.list (xs.map eI)) = true
 unfold SeqAt.shaped
 rw [Bool.and_eq_true]
 refine ⟨?_, decide_eq_true ?_⟩
 · simp only [PyData.canLay0]
   exact canL_ints xs
 · simp only [PyData.depth, depA_ints]
   omega
theorem v_neLI {xs ys : List Int} (h1 : Dq K H v (eL eI xs)) (h2 : Dq K H w (eL eI ys)) (k : Q (.bl (!decide (xs = ys))) H) : uNe K v w H Q := v_neq h1 h2 (shaped_LI xs) (shaped_LI ys) (by rw [eqv_LI]; exact k)
def KeyK (R : It -> Hp -> Prop) : VK := λ x H1 => ∃ d o, x = .ref d /\ ((∃ kvs, H1 d = some (.frz o (.dK kvs)) /\ R (Itk d o kvs) H1) \/ ∃ kvs, H1 d = some (.frz o (.dT kvs)) /\ R (Itkt d o kvs) H1)
theorem g_iKeys {td : TE} {R : It -> Hp -> Prop} (k : td σ H (KeyK R)) : iKeys td σ H R := k
theorem v_itK {R : It -> Hp -> Prop} {od : Obj} {kvs : List (Key × V)} (ev : v = .ref p) (h : H p = some (.frz od (.dK kvs))) (k : R (Itk p od kvs) H) : KeyK R v H := ⟨p, od, ev, .inl ⟨kvs, h, k⟩⟩
theorem v_ifcT {A B : Prop} {b : Bool} (h : b = true) (k : A) : if b = true then A else B := by rw [if_pos h]; exact k
theorem v_ifcF {A B : Prop} {b : Bool} (h : b = false) (k : B) : if b = true then A else B := by rw [h]; exact k
theorem M.drp (S : M Rs H) (i : Nat) : M (Rs.eraseIdx i) H := by
 cases h : Rs[i]? with
 | none =>
   rw [List.eraseIdx_of_length_le (by simpa using h)]
   exact S
 | some R => exact (S.at i h).tl
end
end RC

namespace RC
open PySem PySem.Spec PyProof.Rows L2
theorem forD_inv {α β : Type} {f : α -> β -> (β -> Prop) -> Prop} (Inv : Nat -> β -> Prop) : ∀ {xs : List α} {s : β} {k : β -> Prop} {n : Nat}, Inv n s ->
   (∀ (i : Nat) x s (kk : β -> Prop), xs[i]? = some x -> Inv (n + i) s -> (∀ s', Inv (n + i + 1) s' -> kk s') -> f x s kk) -> (∀ s, Inv (n + xs.length) s -> k s) -> forD f xs s k
 | [], s, k, n, h0, _, hd => hd s h0
 | x :: xs, s, k, n, h0, hs, hd => by
   refine hs 0 x s _ rfl h0 λ s' h' => ?_
   refine forD_inv Inv (n := n + 1) h' (λ i y s kk hy hi hk => ?_) (λ s hi => hd s ?_)
   · refine hs (i + 1) y s kk (by simpa using hy) ?_ λ s' hs' => hk s' ?_
     · rw [show n + (i + 1) = n + 1 + i by omega]
       exact hi
     · rw [show n + 1 + i + 1 = n + (i + 1) + 1 by omega]
       exact hs'
   · rw [List.length_cons, show n + (xs.length + 1) = n + 1 + xs.length by omega]
     exact hi
theorem lcD_map {α β : Type} {f : α -> (Option β -> Prop) -> Prop} {k : List β -> Prop} (g : α -> β) : ∀ {xs : List α} {acc : List β}, (∀ x ∈ xs, ∀ kk : Option β -> Prop, kk (some (g x)) -> f x kk) -> k (acc ++ xs.map g) -> lcD f xs acc k
 | [], acc, _, h => by simpa [lcD] using h
 | x :: xs, acc, hs, h => by
   refine hs x List.mem_cons_self _ ?_
   refine lcD_map g (λ y hy => hs y (List.mem_cons_of_mem _ hy)) ?_
   simpa using h
theorem lcD_all {α β : Type} {f : α -> (Option β -> Prop) -> Prop} {k : List β -> Prop} (G : β -> Prop) : ∀ {xs : List α} {acc : List β}, (∀ x ∈ xs, ∀ kk : Option β -> Prop, (∀ y, G y -> kk (some y)) -> f x kk) -> (∀ y ∈ acc, G y) ->
   (∀ ys, (∀ y ∈ ys, G y) -> ys.length = acc.length + xs.length -> k ys) -> lcD f xs acc k
 | [], acc, _, ha, h => h acc ha rfl
 | x :: xs, acc, hs, ha, h => by
   refine hs x List.mem_cons_self _ λ y hy => ?_
   refine lcD_all G (λ z hz => hs z (List.mem_cons_of_mem _ hz)) (λ z hz => ?_) λ ys hys hl => h ys hys ?_
   · rcases List.mem_append.mp hz with hz | hz
     · exact ha z hz
     · have : z = y := by simpa using hz
       rw [this]
       exact hy
   · rw [hl]
     simp
     omega
def GN (s : Str) : Prop := 1 <= s.length /\ s.length <= 8 /\ ∀ c ∈ s.cps.toList, 97 <= c /\ c <= 122
def GC (ns : List Int) : Prop := ns.length <= 48 /\ ∀ n ∈ ns, 0 <= n /\ n <= 999
theorem letters_mem {c : Nat} (h : 97 <= c /\ c <= 122) : c ∈ ("abcdefghijklmnopqrstuvwxyz" : Str).cps.toList := by
 have key : ∀ i : Fin 26, (97 + i.val) ∈ ("abcdefghijklmnopqrstuvwxyz" : Str).cps.toList := by decide +kernel
 have := key ⟨c - 97, by omega⟩
 rwa [show 97 + (c - 97) = c by omega] at this
theorem tk {n : Int} {k : Int -> Prop} (h : 0 < n /\ n < 2 ^ 62) (g : ∀ v, 0 <= v -> v < n -> k v) : takeD n k := ⟨h, g⟩
theorem atI_ex {α : Type} {xs : List α} {i : Int} (h0 : 0 <= i) (h1 : i < xs.length) : ∃ x ∈ xs, atI xs i = some x := by
 have hl : i.toNat < xs.length := by omega
 exact ⟨xs[i.toNat], List.getElem_mem hl, atI_int h0 (List.getElem?_eq_getElem hl)⟩
theorem cmul {a b : Int} (h : 0 <= b /\ b < 2 ^ 62) (ha : 0 <= a /\ a < 2 ^ 62) : CMul a b \/ CMulW a b := .inl (.inl ⟨by omega, by omega⟩)
theorem join_cps' : ∀ ys : List Str, (Str.join ("" : Str) ys).cps.toList = (ys.map (·.cps.toList)).flatten
 | [] => rfl
 | [x] => by
   show x.cps.toList = _
   simp
 | x :: y :: r => by
   have ih := join_cps' (y :: r)
   show ((x.cps ++ (#[] : Array Nat)) ++ (Str.join ("" : Str) (y :: r)).cps).toList = _
   rw [Array.toList_append, ih]
   simp
theorem join_cps (ys : List Str) : (Txt.join ("" : Str) ys).cps.toList = (ys.map (·.cps.toList)).flatten := by
 rw [<- join_cps', <- StrLaws.glued_eq_join]
 rfl
def G1 (c : Str) : Prop := ∃ n, c = ⟨#[n]⟩ /\ 97 <= n /\ n <= 122
theorem letter_at {i : Int} (h0 : 0 <= i) (h1 : i < 26) : ∃ c, atS ("abcdefghijklmnopqrstuvwxyz" : Str) i = some c /\ G1 c := by
 have key : ∀ k : Fin 26, atS ("abcdefghijklmnopqrstuvwxyz" : Str) (k.val : Int) = some ⟨#[97 + k.val]⟩ := by decide +kernel
 have z := key ⟨i.toNat, by omega⟩
 have e : ((i.toNat : Nat) : Int) = i := by omega
 simp only [e] at z
 exact ⟨_, z, _, rfl, by omega, by omega⟩
theorem flat_len {ys : List Str} (h : ∀ y ∈ ys, G1 y) : ((ys.map (·.cps.toList)).flatten).length = ys.length /\ ∀ c ∈ (ys.map (·.cps.toList)).flatten, 97 <= c /\ c <= 122 := by
 induction ys with
 | nil => exact ⟨rfl, λ _ h => nomatch h⟩
 | cons y r ih =>
   obtain ⟨n, rfl, h1, h2⟩ := h y List.mem_cons_self
   obtain ⟨a, b⟩ := ih λ z hz => h z (List.mem_cons_of_mem _ hz)
   refine ⟨by simpa using a, λ c hc => ?_⟩
   rw [List.map_cons, List.flatten_cons] at hc
   rcases List.mem_append.mp hc with hc | hc
   · have : c = n := by simpa using hc
     omega
   · exact b c hc
theorem join_GN {ys : List Str} (h : ∀ y ∈ ys, G1 y) (h1 : 1 <= ys.length) (h2 : ys.length <= 8) : GN (Txt.join ("" : Str) ys) := by
 have e := join_cps ys
 obtain ⟨a, b⟩ := flat_len h
 have hl : (Txt.join ("" : Str) ys).length = ys.length := by
   show (Txt.join ("" : Str) ys).cps.size = _
   rw [<- Array.length_toList, e, a]
 exact ⟨by omega, by omega, λ c hc => b c (by rw [<- e]; exact hc)⟩
theorem sIx_int {n d : Nat} {i : Int} (h : 0 <= i) : HT.sIx n d (some i) = min i.toNat n := by
 have := HT.sIx_nat n d i.toNat
 rwa [show ((i.toNat : Nat) : Int) = i by omega] at this
theorem cut_hi {α : Type} {xs : List α} {i : Int} (h : 0 <= i) : cutL xs none (some i) = xs.take i.toNat := by
 unfold cutL
 rw [sIx_int h, HT.sIx_none, List.drop_zero, Nat.sub_zero]
 rcases Nat.le_total i.toNat xs.length with z | z
 · rw [Nat.min_eq_left z]
 · rw [Nat.min_eq_right z, List.take_of_length_le (Nat.le_refl _), List.take_of_length_le z]
theorem cut_lo {α : Type} {xs : List α} {i : Int} (h : 0 <= i) : cutL xs (some i) none = xs.drop i.toNat := by
 unfold cutL
 rw [sIx_int h, HT.sIx_none]
 rcases Nat.le_total i.toNat xs.length with z | z
 · rw [Nat.min_eq_left z, List.take_of_length_le]
   rw [List.length_drop]
   exact Nat.le_refl _
 · rw [Nat.min_eq_right z, List.drop_of_length_le z, List.drop_of_length_le (Nat.le_refl _), List.take_nil]
def GNb (s : Str) : Bool := decide (1 <= s.length) && (decide (s.length <= 8) && s.cps.toList.all λ c => decide (97 <= c) && decide (c <= 122))
theorem GNb_ok {s : Str} (h : GNb s = true) : GN s := by
 unfold GNb at h
 simp only [Bool.and_eq_true, decide_eq_true_eq, List.all_eq_true] at h
 exact ⟨h.1, h.2.1, h.2.2⟩
def words31 : List Str := [("none" : Str), ("log" : Str), ("full" : Str), ("step" : Str), ("wide" : Str), ("a" : Str), ("ab" : Str), ("files" : Str), ("run" : Str), ("put" : Str), ("gone" : Str), ("moments" : Str)]
theorem words_ok : ∀ w ∈ words31, GN w := by
 have key : (words31.all GNb) = true := by decide +kernel
 intro w hw
 exact GNb_ok (List.all_eq_true.mp key w hw)
structure GF (m : List (Str × List Int)) : Prop where
 nd : (ks m).Nodup
 nm : ∀ q ∈ m, GN q.1 /\ GC q.2
 ln : m.length <= 8
theorem nd_le {α : Type} [DecidableEq α] : ∀ {xs ys : List α}, xs.Nodup -> (∀ x ∈ xs, x ∈ ys) -> xs.length <= ys.length
 | [], _, _, _ => Nat.zero_le _
 | x :: xs, ys, nd, h => by
   obtain ⟨h1, h2⟩ := List.nodup_cons.mp nd
   have := nd_le (ys := ys.erase x) h2 λ z hz => (List.mem_erase_of_ne (λ e => h1 (by rw [<- e]; exact hz))).mpr (h z (List.mem_cons_of_mem _ hz))
   rw [List.length_erase_of_mem (h x List.mem_cons_self)] at this
   have := List.length_pos_of_mem (h x List.mem_cons_self)
   rw [List.length_cons]
   omega
theorem GF.nil : GF [] := ⟨List.nodup_nil, (λ _ h => nomatch h), by decide⟩
theorem lk_mem {κ γ : Type} [DecidableEq κ] {m : List (κ × γ)} {n : κ} {x : γ} (h : lk m n = some x) : (n, x) ∈ m := by
 unfold lk at h
 cases e : m.find? λ p => decide (p.1 = n) with
 | none => rw [e] at h; cases h
 | some q =>
   rw [e] at h
   have h1 := List.mem_of_find?_eq_some e
   have h2 : q.1 = n := by simpa using List.find?_some e
   cases h
   rw [<- h2]
   exact h1
theorem lk_some {κ γ : Type} [DecidableEq κ] {m : List (κ × γ)} {n : κ} (h : n ∈ ks m) : ∃ x, lk m n = some x := by
 induction m with
 | nil => cases h
 | cons q m ih =>
   rw [lk_cons]
   by_cases z : q.1 = n
   · exact ⟨_, if_pos z⟩
   · rw [if_neg z]
     exact ih ((List.mem_cons.mp h).resolve_left λ e => z e.symm)
theorem pk_keys {κ γ : Type} [DecidableEq κ] {m : List (κ × γ)} {n : κ} {x : γ} : ks (pk m n x) = if (lk m n).isSome then ks m else ks m ++ [n] := by
 unfold pk
 rw [any_lk]
 split
 · unfold ks
   rw [List.map_map]
   refine List.map_congr_left λ q _ => ?_
   show (if q.1 = n then (q.1, x) else q).1 = q.1
   split <;> rfl
 · simp [ks]
theorem not_mem_of_lk {κ γ : Type} [DecidableEq κ] {m : List (κ × γ)} {n : κ} (h : lk m n = none) : n ∉ ks m := λ z => by
 obtain ⟨x, e⟩ := lk_some z
 rw [h] at e
 cases e
theorem GF.put {m : List (Str × List Int)} {n : Str} {ns : List Int} (g : GF m) (hn : GN n) (hc : GC ns) (hl : (lk m n).isSome = true \/ m.length < 8) : GF (pk m n ns) := by
 refine ⟨?_, λ q hq => ?_, ?_⟩
 · rw [pk_keys]
   cases e : lk m n with
   | none =>
     simp only [Option.isSome, Bool.false_eq_true, if_false]
     exact List.nodup_append.mpr ⟨g.nd, by simp, λ a ha b hb z => not_mem_of_lk e (by rw [<- show b = n by simpa using hb, <- z]; exact ha)⟩
   | some x => exact g.nd
 · unfold pk at hq
   split at hq
   · obtain ⟨p, hp, rfl⟩ := List.mem_map.mp hq
     have := g.nm p hp
     split
     · exact ⟨this.1, hc⟩
     · exact this
   · rcases List.mem_append.mp hq with hq | hq
     · exact g.nm q hq
     · rw [show q = (n, ns) by simpa using hq]
       exact ⟨hn, hc⟩
 · unfold pk
   rw [any_lk]
   have := g.ln
   split
   · rw [List.length_map]
     exact this
   · rename_i z
     rw [List.length_append]
     simp
     rcases hl with h | h
     · exact absurd h z
     · omega
def cont (m : List (Str × List Int)) : List (Str × List Int) := (srtS' (ks m)).map λ n => (n, (lk m n).getD [])
theorem dcD_nd {f : Str -> List (Str × List Int) -> (Option (Str × List Int) -> Prop) -> Prop} {k : List (Str × List Int) -> Prop} (g : Str -> List Int) : ∀ {xs : List Str} {acc : List (Str × List Int)}, xs.Nodup -> (∀ x ∈ xs, x ∉ ks acc) ->
   (∀ x ∈ xs, ∀ acc (kk : Option (Str × List Int) -> Prop), lk acc x = none -> kk (some (x, g x)) -> f x acc kk) -> k (acc ++ xs.map λ x => (x, g x)) -> dcD f xs acc k
 | [], acc, _, _, _, h => by simpa [dcD] using h
 | x :: xs, acc, nd, hn, hs, h => by
   obtain ⟨n1, n2⟩ := List.nodup_cons.mp nd
   have hx : lk acc x = none := by
     cases e : lk acc x with
     | none => rfl
     | some y => exact absurd (List.mem_map.mpr ⟨(x, y), lk_mem e, rfl⟩) (hn x List.mem_cons_self)
   refine hs x List.mem_cons_self acc _ hx ?_
   have e1 : pk acc x (g x) = acc ++ [(x, g x)] := by
     unfold pk
     rw [any_lk, hx]
     rfl
   show dcD f xs (pk acc x (g x)) k
   rw [e1]
   refine dcD_nd g n2 (λ y hy hz => ?_) (λ y hy => hs y (List.mem_cons_of_mem _ hy)) (by simpa using h)
   unfold ks at hz
   rw [List.map_append] at hz
   rcases List.mem_append.mp hz with hz | hz
   · exact hn y (List.mem_cons_of_mem _ hy) hz
   · rw [show y = x by simpa using hz] at hy
     exact n1 hy
theorem srt_nd {xs : List Str} (h : xs.Nodup) : (srtS' xs).Nodup := (srtS_perm xs).nodup_iff.mpr h
theorem srt_len (xs : List Str) : (srtS' xs).length = xs.length := (srtS_perm xs).length_eq
theorem ks_len {κ γ : Type} (m : List (κ × γ)) : (ks m).length = m.length := by simp [ks]
theorem srt_mem {xs : List Str} {x : Str} (h : x ∈ srtS' xs) : x ∈ xs := (srtS_perm xs).mem_iff.mp h
theorem cont_keys (m : List (Str × List Int)) : ks (cont m) = srtS' (ks m) := by
 unfold ks cont
 rw [List.map_map]
 exact List.map_id'' (λ _ => rfl) _
theorem dOf_nd {m acc : List (Str × List Int)} (h : (ks (acc ++ m)).Nodup) : m.foldl (λ acc q => pk acc q.1 q.2) acc = acc ++ m := by
 induction m generalizing acc with
 | nil => simp
 | cons q m ih =>
   have hx : q.1 ∉ ks acc := by
     unfold ks at h ⊢
     rw [List.map_append, List.map_cons, List.nodup_append] at h
     exact λ z => h.2.2 _ z _ List.mem_cons_self rfl
   have hn : lk acc q.1 = none := by
     cases e : lk acc q.1 with
     | none => rfl
     | some y => exact absurd (List.mem_map.mpr ⟨(q.1, y), lk_mem e, rfl⟩) hx
   have e1 : pk acc q.1 q.2 = acc ++ [q] := by
     unfold pk
     rw [any_lk, hn]
     rfl
   rw [List.foldl_cons, e1, ih (by simpa using h)]
   simp
theorem dOf_cont {m : List (Str × List Int)} (g : GF m) : dOf (cont m) = cont m := by
 have := dOf_nd (m := cont m) (acc := []) (by rw [List.nil_append, cont_keys]; exact srt_nd g.nd)
 simpa [dOf] using this
theorem GN.shq {s : Str} (g : GN s) : ShQ 0 8 (.str s) := by
 refine ⟨?_, rfl, ?_, by simp [PyData.depth], ?_⟩
 · show SeqAt.shaped (.str s) = true
   unfold SeqAt.shaped
   rw [Bool.and_eq_true]
   refine ⟨?_, by simp [PyData.depth]⟩
   simp only [PyData.canLay0, PyData.strOk]
   rw [Array.all_eq_true']
   intro c hc
   have := g.2.2 c (by simpa using hc)
   exact decide_eq_true (by omega)
 · simp only [PyData.leavesShort, List.all_eq_true]
   intro c hc
   have := g.2.2 c hc
   exact decide_eq_true (by omega)
 · exact g.2.1
theorem GC.shq {ns : List Int} (g : GC ns) : ShQ 1 48 (eL eI ns) := by
 have h := ShQ.list (dp := 0) (bk := 0) (ds := ns.map eI) λ d hd => by
   obtain ⟨n, hn, rfl⟩ := List.mem_map.mp hd
   have := g.2 n hn
   exact ShQ.int (Nat.lt_of_lt_of_le (show n.natAbs < 2 ^ 10 by omega) (by decide))
 rw [List.length_map] at h
 exact h.up (Nat.le_refl _) (by have := g.1; omega)
theorem strs_shq {xs : List Str} (h : ∀ x ∈ xs, GN x) (hl : xs.length <= 8) : ShQ 1 72 (eL eS xs) := by
 have h := ShQ.list (dp := 0) (bk := 8) (ds := xs.map eS) λ d hd => by
   obtain ⟨n, hn, rfl⟩ := List.mem_map.mp hd
   exact (h n hn).shq
 rw [List.length_map] at h
 exact h.up (Nat.le_refl _) (by omega)
theorem nd_map {α β : Type} {f : α -> β} (inj : ∀ a b, f a = f b -> a = b) : ∀ {l : List α}, l.Nodup -> (l.map f).Nodup
 | [], _ => List.nodup_nil
 | x :: r, h => by
   obtain ⟨h1, h2⟩ := List.nodup_cons.mp h
   rw [List.map_cons]
   refine List.nodup_cons.mpr ⟨λ z => ?_, nd_map inj h2⟩
   obtain ⟨y, hy, e⟩ := List.mem_map.mp z
   rw [inj _ _ e] at hy
   exact h1 hy
theorem dict_shq : ∀ {m : List (Str × List Int)}, (ks m).Nodup -> (∀ q ∈ m, GN q.1 /\ GC q.2) -> ShQ 2 (m.length * 58) (eD iS (eL eI) m) := by
 intro m nd h
 have key : ∀ {m : List (Str × List Int)}, (∀ q ∈ m, GN q.1 /\ GC q.2) -> dOkK (m.map λ p => (kD (iS p.1), eL eI p.2)) /\ PyData.showableKv (m.map λ p => (kD (iS p.1), eL eI p.2)) = true /\ PyData.leavesShortKv 400 (m.map λ p => (kD (iS p.1), eL eI p.2)) = true /\
     PyData.depthKv (m.map λ p => (kD (iS p.1), eL eI p.2)) <= 1 /\ PyData.bulkKv (m.map λ p => (kD (iS p.1), eL eI p.2)) <= m.length * 58 := by
   intro m
   induction m with
   | nil => exact λ _ => ⟨trivial, rfl, rfl, Nat.zero_le _, Nat.zero_le _⟩
   | cons q m ih =>
     intro h
     obtain ⟨h0, h1, h2, h3, h4⟩ := ih λ z hz => h z (List.mem_cons_of_mem _ hz)
     obtain ⟨a, b⟩ := h q List.mem_cons_self
     have sa : ShQ 0 8 (kD (iS q.1)) := a.shq
     have sb := b.shq
     refine ⟨⟨sb.ok, h0⟩, ?_, ?_, ?_, ?_⟩
     · simp [PyData.showableKv, sa.sh, sb.sh, h1]
     · simp [PyData.leavesShortKv, sa.lf, sb.lf, h2]
     · simp only [List.map_cons, PyData.depthKv]
       have := sa.dp
       have := sb.dp
       omega
     · simp only [List.map_cons, PyData.bulkKv, List.length_cons]
       have := sa.bk
       have := sb.bk
       omega
 obtain ⟨h0, h1, h2, h3, h4⟩ := key h
 refine ⟨⟨?_, h0⟩, by simpa [PyData.showable, eD] using h1, by simpa [PyData.leavesShort, eD] using h2, ?_, by simpa [PyData.bulk, eD] using h4⟩
 · rw [List.map_map]
   have e : ((λ x : PyData × PyData => x.1) ∘ λ p : Str × List Int => (kD (iS p.1), eL eI p.2)) = (λ n : Str => kD (iS n)) ∘ (λ p : Str × List Int => p.1) := rfl
   rw [e, <- List.map_map]
   exact nd_map (λ a b z => injS _ _ (kD_inj z)) nd
 · simp only [eD, PyData.depth]
   omega
theorem cont_good {m : List (Str × List Int)} (g : GF m) : GF (cont m) := by
 refine ⟨by rw [cont_keys]; exact srt_nd g.nd, λ q hq => ?_, ?_⟩
 · obtain ⟨n, hn, rfl⟩ := List.mem_map.mp hq
   obtain ⟨y, hy⟩ := lk_some (srt_mem hn)
   have := g.nm _ (lk_mem hy)
   dsimp only
   rw [hy]
   exact this
 · have := g.ln
   unfold cont
   rw [List.length_map, srt_len, ks_len]
   exact this
theorem names_good {m : List (Str × List Int)} (g : GF m) : ∀ x ∈ srtS' (ks m), GN x := λ x hx => by
 obtain ⟨q, hq, rfl⟩ := List.mem_map.mp (srt_mem hx)
 exact (g.nm q hq).1
end RC

namespace RC
open PySem PySem.Spec PyProof.Rows L2
section
variable {κ α β γ : Type} [DecidableEq κ]
def tr (f : α -> β) (m : List (κ × α)) : List (κ × β) := m.map λ p => (p.1, f p.2)
@[simp] theorem ks_tr (f : α -> β) (m : List (κ × α)) : ks (tr f m) = ks m := by simp [ks, tr]
@[simp] theorem len_tr (f : α -> β) (m : List (κ × α)) : (tr f m).length = m.length := by simp [tr]
@[simp] theorem lk_nil (k : κ) : lk ([] : List (κ × α)) k = none := rfl
theorem lk_pk (m : List (κ × α)) (k j : κ) (x : α) : lk (pk m k x) j = if j = k then some x else lk m j := by
 unfold pk
 split
 · rename_i h
   induction m with
   | nil => simp at h
   | cons p m ih =>
     rw [List.map_cons, lk_cons, lk_cons]
     by_cases z : p.1 = k
     · rw [if_pos z]
       by_cases y : j = k
       · subst y
         simp [z]
       · rw [if_neg (by rw [z]; exact λ q => y q.symm), if_neg y, if_neg (by rw [z]; exact λ q => y q.symm)]
         by_cases hh : (m.any λ p => decide (p.1 = k)) = true
         · rw [ih hh, if_neg y]
         · have : m.map (λ p => if p.1 = k then (p.1, x) else p) = m := by
             rw [List.map_congr_left (g := id), List.map_id]
             intro q hq
             have : ¬ q.1 = k := λ z => hh (List.any_eq_true.mpr ⟨q, hq, by simpa using z⟩)
             simp [this]
           rw [this]
     · rw [if_neg z]
       have hh : (m.any λ p => decide (p.1 = k)) = true := by simpa [z] using h
       by_cases y : p.1 = j
       · rw [if_pos y, if_pos y, if_neg (λ q => z (y.trans q))]
       · rw [if_neg y, if_neg y, ih hh]
 · rename_i h
   induction m with
   | nil =>
     show lk ([] ++ [(k, x)]) j = _
     rw [List.nil_append, lk_cons]
     by_cases y : j = k
     · subst y; simp
     · rw [if_neg (λ q => y q.symm), if_neg y]
   | cons p m ih =>
     have hp : ¬ p.1 = k := λ z => h (by simp [z])
     have hm : ¬ (m.any λ p => decide (p.1 = k)) = true := λ z => h (by rw [List.any_cons, z]; simp)
     rw [List.cons_append, lk_cons, lk_cons, ih hm]
     by_cases y : p.1 = j
     · rw [if_pos y, if_pos y, if_neg (λ q => hp (y.trans q))]
     · rw [if_neg y, if_neg y]
theorem lk_dk (m : List (κ × α)) (k j : κ) : lk (dk m k) j = if j = k then none else lk m j := by
 induction m with
 | nil => simp [dk]
 | cons p m ih =>
   unfold dk at ih ⊢
   rw [List.filter_cons]
   by_cases z : p.1 = k
   · rw [if_neg (by simp [z]), ih, lk_cons]
     by_cases y : j = k
     · rw [if_pos y, if_pos y]
     · rw [if_neg y, if_neg y, if_neg (λ q => y (q.symm.trans z))]
   · rw [if_pos (by simp [z]), lk_cons, lk_cons, ih]
     by_cases y : p.1 = j
     · rw [if_pos y, if_pos y, if_neg (λ q => z (y.trans q))]
     · rw [if_neg y, if_neg y]
theorem mem_of_lk {m : List (κ × α)} {k : κ} {x : α} (h : lk m k = some x) : k ∈ ks m := List.mem_map.mpr ⟨_, lk_mem h, rfl⟩
theorem lk_iff {m : List (κ × α)} {k : κ} : (lk m k).isSome = true ↔ k ∈ ks m := by
 constructor
 · intro h
   obtain ⟨x, hx⟩ := Option.isSome_iff_exists.mp h
   exact mem_of_lk hx
 · intro h
   obtain ⟨x, hx⟩ := lk_some h
   rw [hx]
   rfl
theorem lk_none_iff {m : List (κ × α)} {k : κ} : lk m k = none ↔ k ∉ ks m := by
 constructor
 · exact not_mem_of_lk
 · intro h
   cases e : lk m k with
   | none => rfl
   | some x => exact absurd (mem_of_lk e) h
theorem pk_new {m : List (κ × α)} {k : κ} {x : α} (h : lk m k = none) : pk m k x = m ++ [(k, x)] := by
 unfold pk
 rw [any_lk, h]
 rfl
theorem nd_pk {m : List (κ × α)} {k : κ} {x : α} (h : (ks m).Nodup) : (ks (pk m k x)).Nodup := by
 rw [pk_keys]
 split
 · exact h
 · rename_i z
   have hn : k ∉ ks m := λ q => z (lk_iff.mpr q)
   exact List.nodup_append.mpr ⟨h, by simp, λ a ha b hb => by
     have : b = k := by simpa using hb
     rw [this]
     exact λ e => hn (e ▸ ha)⟩
theorem lk_of_mem {m : List (κ × α)} (nd : (ks m).Nodup) {p : κ × α} (h : p ∈ m) : lk m p.1 = some p.2 := by
 induction m with
 | nil => cases h
 | cons q m ih =>
   have nd' := List.nodup_cons.mp (show (q.1 :: ks m).Nodup from nd)
   rw [lk_cons]
   rcases List.mem_cons.mp h with rfl | h
   · rw [if_pos rfl]
   · have hq : ¬ q.1 = p.1 := λ z => nd'.1 (by rw [z]; exact List.mem_map.mpr ⟨p, h, rfl⟩)
     rw [if_neg hq, ih nd'.2 h]
end
theorem ShQ.tup {dp bk : Nat} {ds : List PyData} (h : ∀ d ∈ ds, ShQ dp bk d) : ShQ (dp + 1) (ds.length * (bk + 1)) (.tuple ds) := by
 obtain ⟨h0, h1, h2, h3, h4⟩ := ShQ.all h
 refine ⟨h0, by simpa [PyData.showable] using h1, by simpa [PyData.leavesShort] using h2, ?_, by simpa [PyData.bulk] using h4⟩
 simp only [PyData.depth]
 omega
theorem ShQ.non : ShQ 0 0 .none := ⟨trivial, rfl, rfl, by simp [PyData.depth], by simp [PyData.bulk]⟩
theorem ShQ.bl (b : Bool) : ShQ 0 0 (.bool b) := ⟨trivial, rfl, rfl, by simp [PyData.depth], by simp [PyData.bulk]⟩
theorem ShQ.ints {ns : List Int} (h : ∀ n ∈ ns, n.natAbs < 2 ^ 1000) : ShQ 1 ns.length (eL eI ns) := by
 have := ShQ.list (dp := 0) (bk := 0) (ds := ns.map eI) (λ d hd => by
   obtain ⟨n, hn, rfl⟩ := List.mem_map.mp hd
   exact ShQ.int (h n hn))
 simpa [eL] using this
def wdb (s : Str) : Bool := SeqAt.shaped (.str s) && ((PyData.str s).showable && ((PyData.str s).leavesShort 400 && decide (s.length <= 16)))
theorem ShQ.wd {s : Str} (h : wdb s = true) : ShQ 0 16 (.str s) := by
 simp only [wdb, Bool.and_eq_true, decide_eq_true_eq] at h
 exact ⟨h.1, h.2.1, h.2.2.1, by simp [PyData.depth], h.2.2.2⟩
end RC

namespace RC
open PySem PySem.Spec PyProof.Rows L2
structure Shn (dp sz : Nat) (d : PyData) : Prop where
 ok : dOk d
 sh : d.showable = true
 dp : d.depth <= dp
 ln : d.shown.length <= sz
structure ShnA (dp sz : Nat) (ds : List PyData) : Prop where
 ok : dOkA ds
 sh : PyData.showableAll ds = true
 dp : PyData.depthAll ds <= dp
 ln : ((PyData.shownAll ds).map (·.length)).sum + 2 * ds.length <= sz
theorem Shn.up {dp sz dp' sz' : Nat} {d : PyData} (h : Shn dp sz d) (h1 : dp <= dp') (h2 : sz <= sz') : Shn dp' sz' d := ⟨h.ok, h.sh, Nat.le_trans h.dp h1, Nat.le_trans h.ln h2⟩
theorem Shn.alk {dp sz : Nat} {d : PyData} (h : Shn dp sz d) (h1 : dp <= 60) (h2 : sz <= 16000000) : AlkOk d := ⟨h.ok, h.sh, Nat.le_trans h.dp h1, Nat.le_trans h.ln (Nat.le_trans h2 (by rw [sizeLine_eq]; decide))⟩
theorem ShQ.shn {dp bk : Nat} {d : PyData} (h : ShQ dp bk d) : Shn dp (402 * bk + 400) d := by
 refine ⟨h.ok, h.sh, h.dp, ?_⟩
 have z := PyData.shown_le_bulk 400 (by decide) d h.lf
 have b := h.bk
 omega
theorem ShnA.nil : ShnA 0 0 [] := ⟨trivial, rfl, Nat.le_refl _, Nat.le_refl _⟩
theorem ShnA.up {dp sz dp' sz' : Nat} {d : List PyData} (h : ShnA dp sz d) (h1 : dp <= dp') (h2 : sz <= sz') : ShnA dp' sz' d := ⟨h.ok, h.sh, Nat.le_trans h.dp h1, Nat.le_trans h.ln h2⟩
theorem ShnA.cons {dp s s' : Nat} {d : PyData} {ds : List PyData} (a : Shn dp s d) (b : ShnA dp s' ds) : ShnA dp (s + 2 + s') (d :: ds) := by
 have h1 := a.dp
 have h2 := b.dp
 have h3 := a.ln
 have h4 := b.ln
 refine ⟨⟨a.ok, b.ok⟩, by simp [PyData.showableAll, a.sh, b.sh], ?_, ?_⟩
 · simp only [PyData.depthAll]
   omega
 · simp only [PyData.shownAll, List.map_cons, List.sum_cons, List.length_cons]
   omega
theorem ShnA.all {dp s : Nat} : ∀ {ds : List PyData}, (∀ d ∈ ds, Shn dp s d) -> ShnA dp (ds.length * (s + 2)) ds
 | [], _ => ShnA.nil.up (Nat.zero_le _) (Nat.zero_le _)
 | d :: ds, h => by
   have a := h d List.mem_cons_self
   have b := ShnA.all λ x hx => h x (List.mem_cons_of_mem _ hx)
   refine (ShnA.cons a b).up (Nat.le_refl _) ?_
   rw [List.length_cons, Nat.add_mul]
   omega
theorem ShnA.app {dp s s' : Nat} : ∀ {ds es : List PyData}, ShnA dp s ds -> ShnA dp s' es -> ShnA dp (s + s') (ds ++ es)
 | [], es, a, b => b.up (Nat.le_refl _) (by omega)
 | d :: ds, es, a, b => by
   have h1 := a.dp
   have h4 := a.ln
   have h0 := a.ok
   have hs := a.sh
   simp only [PyData.depthAll] at h1
   simp only [PyData.shownAll, List.map_cons, List.sum_cons, List.length_cons] at h4
   simp only [PyData.showableAll, Bool.and_eq_true] at hs
   have c : ShnA dp (((PyData.shownAll ds).map (·.length)).sum + 2 * ds.length) ds := ⟨h0.2, hs.2, by omega, Nat.le_refl _⟩
   have e : Shn dp d.shown.length d := ⟨h0.1, hs.1, by omega, Nat.le_refl _⟩
   exact (ShnA.cons e (ShnA.app c b)).up (Nat.le_refl _) (by omega)
theorem Shn.list {dp s : Nat} {ds : List PyData} (h : ShnA dp s ds) : Shn (dp + 1) (s + 3) (.list ds) := by
 have h1 := h.dp
 have h2 := listText_len_le (PyData.shownAll ds)
 have h3 := PyData.shownAll_length ds
 have h4 := h.ln
 refine ⟨h.ok, by simpa [PyData.showable] using h.sh, ?_, ?_⟩
 · simp only [PyData.depth]
   omega
 · simp only [PyData.shown]
   omega
theorem Shn.tup {dp s : Nat} {ds : List PyData} (h : ShnA dp s ds) : Shn (dp + 1) (s + 3) (.tuple ds) := by
 have h1 := h.dp
 have h2 := tupleText_len_le (PyData.shownAll ds)
 have h3 := PyData.shownAll_length ds
 have h4 := h.ln
 refine ⟨h.ok, by simpa [PyData.showable] using h.sh, ?_, ?_⟩
 · simp only [PyData.depth]
   omega
 · simp only [PyData.shown]
   omega
theorem Shn.int {n : Int} (k : Nat) (h0 : 0 < k) (hk : k <= 500) (h : n.natAbs < 10 ^ k) : Shn 0 (k + 1) (.int n) := by
 have l : n.natAbs.log2 < 1920 := by
   rcases Nat.eq_zero_or_pos n.natAbs with e | e
   · rw [e]
     decide
   · refine (Nat.log2_lt (by omega)).mpr (Nat.lt_of_lt_of_le h ?_)
     exact Nat.le_trans (Nat.pow_le_pow_right (by decide) hk) (by decide +kernel)
 refine ⟨trivial, by simpa [PyData.showable] using l, by simp [PyData.depth], ?_⟩
 have := int_text_length_le10 (a := n) (k := k) h0 h
 simp only [PyData.shown]
 rw [PySem.ofString_length]
 exact this
theorem Shn.non : Shn 0 4 .none := ⟨trivial, rfl, by simp [PyData.depth], by decide⟩
theorem Shn.bl (b : Bool) : Shn 0 5 (.bool b) := ⟨trivial, rfl, by simp [PyData.depth], by cases b <;> decide⟩
theorem Shn.wd {s : Str} (h : wdb s = true) : Shn 0 200 (.str s) := by
 simp only [wdb, Bool.and_eq_true, decide_eq_true_eq] at h
 refine ⟨h.1, h.2.1, by simp [PyData.depth], ?_⟩
 have hx : ∀ c ∈ s.cps.toList, c < 16 ^ 8 := by simpa only [PyData.leavesShort, List.all_eq_true, decide_eq_true_eq] using h.2.2.1
 have e := PySem.StrLaws.reprText_len s hx
 have l : s.length <= 16 := h.2.2.2
 simp only [PyData.shown]
 omega
theorem GN.shn {s : Str} (g : GN s) : Shn 0 100 (.str s) := by
 have q := g.shq
 refine ⟨q.ok, q.sh, q.dp, ?_⟩
 have hx : ∀ c ∈ s.cps.toList, c < 16 ^ 8 := λ c hc => by
   have := (g.2.2 c hc).2
   omega
 have e := PySem.StrLaws.reprText_len s hx
 have l : s.length <= 8 := g.2.1
 simp only [PyData.shown]
 omega
theorem Shn.dict {α : Type} {e : α -> PyData} {dp s n : Nat} {m : List (Str × α)} (nd : (ks m).Nodup) (h : ∀ q ∈ m, GN q.1 /\ Shn dp s (e q.2)) (hl : m.length <= n) : Shn (dp + 1) (n * (s + 104) + 3) (eD iS e m) := by
 have key : ∀ {m : List (Str × α)}, (∀ q ∈ m, GN q.1 /\ Shn dp s (e q.2)) -> dOkK (m.map λ p => (kD (iS p.1), e p.2)) /\ PyData.showableKv (m.map λ p => (kD (iS p.1), e p.2)) = true /\
     PyData.depthKv (m.map λ p => (kD (iS p.1), e p.2)) <= dp /\ ((PyData.shownKv (m.map λ p => (kD (iS p.1), e p.2))).map (·.length)).sum + 2 * m.length <= m.length * (s + 104) := by
   intro m
   induction m with
   | nil => exact λ _ => ⟨trivial, rfl, Nat.zero_le _, Nat.zero_le _⟩
   | cons q m ih =>
     intro h
     obtain ⟨h0, h1, h3, h4⟩ := ih λ z hz => h z (List.mem_cons_of_mem _ hz)
     obtain ⟨a, b⟩ := h q List.mem_cons_self
     have sa : Shn 0 100 (kD (iS q.1)) := a.shn
     have b1 := b.ln
     have b2 := sa.ln
     have b3 := b.dp
     have b4 := sa.dp
     refine ⟨⟨b.ok, h0⟩, ?_, ?_, ?_⟩
     · simp [PyData.showableKv, sa.sh, b.sh, h1]
     · simp only [List.map_cons, PyData.depthKv]
       omega
     · have e2 : ((kD (iS q.1)).shown ++ ": " ++ (e q.2).shown).length = (kD (iS q.1)).shown.length + 2 + (e q.2).shown.length := by
         rw [PySem.strLen_append, PySem.strLen_append]
         rfl
       simp only [List.map_cons, PyData.shownKv, List.sum_cons, List.length_cons]
       rw [Nat.add_mul]
       omega
 obtain ⟨h0, h1, h3, h4⟩ := key h
 have h5 := dictText_len_le (PyData.shownKv (m.map λ p => (kD (iS p.1), e p.2)))
 have h6 := PyData.shownKv_length (m.map λ p => (kD (iS p.1), e p.2))
 rw [List.length_map] at h6
 have h7 := Nat.mul_le_mul_right (s + 104) hl
 refine ⟨⟨?_, h0⟩, by simpa [PyData.showable, eD] using h1, ?_, ?_⟩
 · rw [List.map_map]
   have e : ((λ x : PyData × PyData => x.1) ∘ λ p : Str × α => (kD (iS p.1), e p.2)) = (λ n : Str => kD (iS n)) ∘ (λ p : Str × α => p.1) := rfl
   rw [e, <- List.map_map]
   exact nd_map (λ a b z => injS _ _ (kD_inj z)) nd
 · simp only [eD, PyData.depth]
   omega
 · simp only [eD, PyData.shown]
   omega
end RC

namespace RC
open PySem PySem.Spec PyProof.Rows L2
def stp (m : Nat) : Nat -> Nat -> Nat
 | 0, i => i
 | n + 1, i => stp m n ((i * 5 + 1) % (m + 1))
structure MOk (m : Nat) : Prop where
 get : ∀ j, j <= m -> ∃ b, b < m + 1 /\ stp m b 0 = j
 back : stp m (m + 1) 0 = 0
def occ (m : Nat) (ow : Array (Option Nat)) : List Nat := (List.range (m + 1)).filterMap λ j => ow.getD j none
structure OwI (m : Nat) (ow : Array (Option Nat)) (k : Nat) : Prop where
 sz : ow.size = m + 1
 pm : (occ m ow).Perm (List.range k)
theorem fm_congr {α β : Type} {f g : α -> Option β} : ∀ {l : List α}, (∀ x ∈ l, f x = g x) -> l.filterMap f = l.filterMap g
 | [], _ => rfl
 | x :: l, h => by
   rw [List.filterMap_cons, List.filterMap_cons, h x List.mem_cons_self, fm_congr λ y hy => h y (List.mem_cons_of_mem _ hy)]
theorem fm_all {α β : Type} {f : α -> Option β} : ∀ {l : List α}, (∀ x ∈ l, (f x).isSome = true) -> (l.filterMap f).length = l.length
 | [], _ => rfl
 | x :: l, h => by
   obtain ⟨y, hy⟩ := Option.isSome_iff_exists.mp (h x List.mem_cons_self)
   rw [List.filterMap_cons_some hy, List.length_cons, List.length_cons, fm_all λ z hz => h z (List.mem_cons_of_mem _ hz)]
theorem OwI.has {m k : Nat} {ow : Array (Option Nat)} (h : OwI m ow k) (hk : k <= m) : ∃ j, j <= m /\ (ow.getD j (some 0)).isNone = true := by
 rcases Classical.em (∃ j, j <= m /\ (ow.getD j (some 0)).isNone = true) with z | z
 · exact z
 · exfalso
   have all : ∀ j ∈ List.range (m + 1), (ow.getD j none).isSome = true := λ j hj => by
     have hl := List.mem_range.mp hj
     have : ¬ (ow.getD j (some 0)).isNone = true := λ q => z ⟨j, by omega, q⟩
     have e : ow.getD j none = ow.getD j (some 0) := by simp [Array.getD, h.sz, hl]
     rw [e]
     cases q : ow.getD j (some 0) with
     | none => rw [q] at this; exact absurd rfl this
     | some y => rfl
   have l1 := fm_all all
   have l2 := h.pm.length_eq
   simp only [occ] at l2
   rw [l1, List.length_range, List.length_range] at l2
   omega
theorem OwI.put {m k q : Nat} {ow : Array (Option Nat)} (h : OwI m ow k) (hq : (ow.getD q (some 0)).isNone = true) : OwI m (ow.setIfInBounds q (some k)) (k + 1) := by
 have hlt : q < ow.size := by
   rcases Nat.lt_or_ge q ow.size with z | z
   · exact z
   · simp [Array.getD, Nat.not_lt.mpr z] at hq
 have hn : ow.getD q none = none := by
   have e : ow.getD q none = ow.getD q (some 0) := by simp [Array.getD, hlt]
   rw [e]
   simpa using hq
 refine ⟨by simp [h.sz], ?_⟩
 have hs := h.sz
 have sp : List.range (m + 1) = List.range q ++ q :: (List.range' (q + 1) (m - q)) := by
   rw [List.range_eq_range', show m + 1 = q + (1 + (m - q)) by omega, <- List.range'_append_1, <- List.range'_append_1, List.range_eq_range']
   simp
 have ne : ∀ j, j ≠ q -> (ow.setIfInBounds q (some k)).getD j none = ow.getD j none := λ j hj => by
   simp only [Array.getD_eq_getD_getElem?]
   rw [Array.getElem?_setIfInBounds_ne (λ z => hj z.symm)]
 have same : (ow.setIfInBounds q (some k)).getD q none = some k := by
   simp only [Array.getD_eq_getD_getElem?]
   rw [Array.getElem?_setIfInBounds_self_of_lt hlt]
   rfl
 have a : occ m (ow.setIfInBounds q (some k)) = (List.range q).filterMap (λ j => ow.getD j none) ++ k :: (List.range' (q + 1) (m - q)).filterMap (λ j => ow.getD j none) := by
   unfold occ
   rw [sp, List.filterMap_append, List.filterMap_cons_some (f := λ j => (ow.setIfInBounds q (some k)).getD j none) same]
   congr 1
   · exact fm_congr λ j hj => ne j (by have := List.mem_range.mp hj; omega)
   · congr 1
     exact fm_congr λ j hj => ne j (by have := List.mem_range'_1.mp hj; omega)
 have b : occ m ow = (List.range q).filterMap (λ j => ow.getD j none) ++ (List.range' (q + 1) (m - q)).filterMap (λ j => ow.getD j none) := by
   unfold occ
   rw [sp, List.filterMap_append, List.filterMap_cons_none (f := λ j => ow.getD j none) hn]
 rw [a, List.range_succ]
 have p := h.pm
 rw [b] at p
 exact (List.perm_middle.trans (p.cons k)).trans (List.perm_append_singleton _ _).symm
end RC

namespace RC
open PySem PySem.Spec PyProof.Rows L2
def kyM : Value -> Key
 | .int i _ => .inl i
 | .str x _ => .inr x
 | _ => .inl 0
def GdM (w : World) (e : Int × Value) : Prop := keyIs (kyM e.2) e.2 = true /\ e.1 = keyH w (kyM e.2)
def kys (es : Array (Int × Value)) : List Key := es.toList.map λ e => kyM e.2
def SM (w : World) (h : Heap) (a : Addr) (L : List Key) : Prop :=
 ∃ o es ep t, h.get? a = some o /\ o.ExactSet /\ o.data = .set es ep t /\ (∀ e ∈ es.toList, GdM w e) /\ kys es = L /\ L.Nodup /\ es.size < scanBound /\ t.fits es.size = true /\ Ris t.place.toList /\ (w.params.followText "set-order" = true \/ t.led = true)
section
variable {P : Program} {w : World} {h h' : Heap} {a : Addr} {L : List Key}
theorem SM.keep (R : SM w h a L) (k : ∀ o, h.get? a = some o -> h'.get? a = some o) : SM w h' a L := by
 obtain ⟨o, es, ep, t, ho, r⟩ := R
 exact ⟨o, es, ep, t, k o ho, r⟩
end
section
variable {P : Program} {w : World} {A : Around} {E : Value -> Shared -> Prop} {s : Shared} {a : Addr} {L : List Key}
end
end RC

namespace RC
open PySem PySem.Spec PyProof.Rows L2
structure SX (w : World) (h : Heap) (a : Addr) (es : Array (Int × Value)) (ep : Nat) (t : SetTable) : Prop where
 ob : ∃ o, h.get? a = some o /\ o.ExactSet /\ o.data = .set es ep t
 gd : ∀ e ∈ es.toList, GdM w e
 nd : (kys es).Nodup
 sz : es.size < scanBound
 ft : t.fits es.size = true
 rs : Ris t.place.toList
 ld : w.params.followText "set-order" = true \/ t.led = true
theorem SX.keep {w : World} {h h' : Heap} {a : Addr} {es : Array (Int × Value)} {ep : Nat} {t : SetTable} (R : SX w h a es ep t) (k : ∀ o, h.get? a = some o -> h'.get? a = some o) : SX w h' a es ep t := by
 obtain ⟨o, a1, a2, a3⟩ := R.ob
 exact ⟨⟨o, k o a1, a2, a3⟩, R.gd, R.nd, R.sz, R.ft, R.rs, R.ld⟩
section
variable {P : Program} {w : World} {A : Around} {E : Value -> Shared -> Prop} {s : Shared} {a : Addr} {es : Array (Int × Value)} {ep : Nat} {t : SetTable}
end
section
variable {P : Program} {w : World} {A : Around} {E : Value -> Shared -> Prop} {s : Shared} {a b : Addr} {es eo : Array (Int × Value)} {ep eq : Nat} {t to : SetTable}
end
end RC

namespace RC
open PySem PySem.Spec PyProof.Rows L2
theorem nodup_le {α : Type} : ∀ {l m : List α}, l.Nodup -> (∀ x ∈ l, x ∈ m) -> l.length <= m.length
 | [], m, _, _ => Nat.zero_le _
 | x :: l, m, nd, h => by
   obtain ⟨n1, n2⟩ := List.nodup_cons.mp nd
   obtain ⟨a, b, rfl⟩ := List.append_of_mem (h x List.mem_cons_self)
   have := nodup_le (m := a ++ b) n2 λ y hy => by
     have := h y (List.mem_cons_of_mem _ hy)
     rcases List.mem_append.mp this with z | z
     · exact List.mem_append_left _ z
     · rcases List.mem_cons.mp z with z | z
       · exact absurd (z ▸ hy) n1
       · exact List.mem_append_right _ z
   rw [List.length_append] at this
   rw [List.length_cons, List.length_append, List.length_cons]
   omega
section
variable {P : Program} {w : World} {A : Around} {E : Value -> Shared -> Prop} {s : Shared} {a b : Addr} {es eo : Array (Int × Value)} {ep eq : Nat} {t to : SetTable}
structure Got (L0 : List Key) (ks L : List Key) : Prop where
 nd : L.Nodup
 mem : ∀ k, k ∈ L ↔ k ∈ L0 \/ k ∈ ks
theorem Got.nil {L0 : List Key} (h : L0.Nodup) : Got L0 [] L0 := ⟨h, λ k => by simp⟩
theorem Got.len {L0 ks L : List Key} (g : Got L0 ks L) : L.length <= L0.length + ks.length := by
 have := nodup_le g.nd λ k hk => List.mem_append.mpr ((g.mem k).mp hk)
 rwa [List.length_append] at this
end
end RC

namespace RC
open PySem PySem.Spec PyProof.Rows L2
section
variable {P : Program} {w : World} {A : Around} {E : Value -> Shared -> Prop} {s : Shared}
variable {a d : Addr} {es : Array (Int × Value)} {ep : Nat} {t : SetTable} {vs : List (Key × Value)}
end
end RC

namespace RC
open PySem PySem.Spec PyProof.Rows L2
section
variable {P : Program} {w : World} {A : Around} {E : Value -> Shared -> Prop} {s : Shared} {a b : Addr} {ea eb : Array (Int × Value)} {pa pb : Nat} {ta tb : SetTable}
end
end RC

namespace RC
open PySem PySem.Spec PyProof.Rows L2
section
variable {P : Program} {w : World} {A : Around} {E : Value -> Shared -> Prop} {s : Shared} {a : Addr} {es : Array (Int × Value)} {ep : Nat} {t : SetTable}
end
section
variable {P : Program} {w : World} {A : Around} {E : Value -> Shared -> Prop} {s : Shared}
end
def SetH (w : World) (a : Addr) (L : List Key) : HO := .ext λ h => SM w h a L
section
variable {X : Cx}
def rSetL (K : Fr) (w : World) : List V -> Hp -> VK -> Prop := λ xs H Q => ∃ (l : Addr) (ks : List Key), xs = [.ref l] /\ SqL K H l (ks.map kV) /\ ks.length < 4000 /\ ∀ p L, H p = none -> Got [] ks L -> Q (.ref p) (upd H p (SetH w p L))
end
end RC

namespace RC
open PySem PySem.Spec PyProof.Rows L2
section
variable {P : Program} {w : World} {A : Around} {E : Value -> Shared -> Prop} {s : Shared} {a b : Addr} {ea eb : Array (Int × Value)} {pa pb : Nat} {ta tb : SetTable} {es : Array (Int × Value)} {ep : Nat} {t : SetTable}
end
section
variable {P : Program} {w : World} {A : Around} {E : Value -> Shared -> Prop} {s : Shared} {a b : Addr} {ea eb : Array (Int × Value)} {pa pb : Nat} {ta tb : SetTable} {es : Array (Int × Value)} {ep : Nat} {t : SetTable}
structure Left (L0 ks L : List Key) : Prop where
 nd : L.Nodup
 mem : ∀ k, k ∈ L ↔ k ∈ L0 /\ k ∉ ks
end
section
variable {P : Program} {w : World} {A : Around} {E : Value -> Shared -> Prop} {s : Shared} {a b : Addr} {ea eb : Array (Int × Value)} {pa pb : Nat} {ta tb : SetTable}
end
end RC

namespace RC
open PySem PySem.Spec PyProof.Rows L2
def dd {α : Type} [DecidableEq α] : List α -> List α
 | [] => []
 | x :: xs => x :: (dd xs).filter λ y => decide (y ≠ x)
structure SIs {κ : Type} (ik : κ -> Key) (L : List Key) (xs : List κ) : Prop where
 nd : L.Nodup
 mem : ∀ q, q ∈ L ↔ q ∈ xs.map ik
theorem SIs.len {κ : Type} {ik : κ -> Key} {L : List Key} {xs : List κ} (h : SIs ik L xs) : L.length <= xs.length := by
 have := nodup_le h.nd λ q hq => (h.mem q).mp hq
 rwa [List.length_map] at this
theorem perm_of {α : Type} {l m : List α} (h1 : l.Nodup) (h2 : m.Nodup) (h : ∀ x, x ∈ l ↔ x ∈ m) : l.Perm m := by
 induction l generalizing m with
 | nil =>
   have : m = [] := List.eq_nil_iff_forall_not_mem.mpr λ x hx => nomatch (h x).mpr hx
   rw [this]
 | cons x l ih =>
   obtain ⟨n1, n2⟩ := List.nodup_cons.mp h1
   obtain ⟨a, b, rfl⟩ := List.append_of_mem ((h x).mp List.mem_cons_self)
   have nd2 : (x :: (a ++ b)).Nodup := List.perm_middle.nodup_iff.mp h2
   obtain ⟨n3, n4⟩ := List.nodup_cons.mp nd2
   refine (List.Perm.cons x (ih n2 n4 λ y => ?_)).trans List.perm_middle.symm
   constructor
   · intro hy
     have := (h y).mp (List.mem_cons_of_mem _ hy)
     rcases List.mem_append.mp this with z | z
     · exact List.mem_append_left _ z
     · rcases List.mem_cons.mp z with z | z
       · exact absurd (z ▸ hy) n1
       · exact List.mem_append_right _ z
   · intro hy
     have : y ∈ a ++ x :: b := by
       rcases List.mem_append.mp hy with z | z
       · exact List.mem_append_left _ z
       · exact List.mem_append_right _ (List.mem_cons_of_mem _ z)
     rcases List.mem_cons.mp ((h y).mpr this) with z | z
     · exact absurd (z ▸ hy) n3
     · exact z
section
variable {K : Fr} {α : Type} {e : α -> PyData} {Rs : List Res} {H : Hp} {Q : VK} {v : V} {a b : Addr} {σ : L2.St} {w : World}
end
end RC

namespace RC
open PySem PySem.Spec PyProof.Rows L2
def tkey (h : Heap) : Value -> Str
 | .ref a => match h.get? a with
   | some o => match o.data with
     | .seq xs _ => match (xs[0]? : Option Value) with
       | some (Value.str y _) => y
       | _ => ""
     | _ => ""
   | none => ""
 | _ => ""
def TxP (h : Heap) (v : Value) (y : Str) (u : Value) : Prop := ∃ a o t n, v = .ref a /\ h.get? a = some o /\ o.cls = .type "tuple" /\ o.data = .seq #[.str y t, u] n
theorem TxP.key {h : Heap} {v : Value} {y : Str} {u : Value} (p : TxP h v y u) : tkey h v = y := by
 obtain ⟨a, o, t, n, rfl, ho, hc, hd⟩ := p
 unfold tkey
 simp only [ho, hd]
 rfl
theorem TxP.keeps {h h' : Heap} {v : Value} {y : Str} {u : Value} (p : TxP h v y u) (k : ∀ b o, v = .ref b -> h.get? b = some o -> h'.get? b = some o) : TxP h' v y u := by
 obtain ⟨a, o, t, n, rfl, ho, hc, hd⟩ := p
 exact ⟨a, o, t, n, rfl, k _ _ rfl ho, hc, hd⟩
section
variable {prog : Program} {w : World} {A : Around} {s : Shared}
end
section
variable {X : Cx}
end
end RC

namespace RC
open PySem PySem.Spec PyProof.Rows L2
section
variable {K : Fr} {α : Type} {e : α -> PyData} {Rs : List Res} {H H' : Hp} {Q : VK} {v : V} {p : Addr}
end
section
variable {K : Fr} {α : Type} {e : α -> PyData} {Rs : List Res} {H H' : Hp} {Q : VK} {v : V} {p : Addr} {σ : L2.St}
end
section
variable {K : Fr} {α β γ : Type} {ea : α -> PyData} {eb : β -> PyData} {ec : γ -> PyData} {Rs : List Res} {H H' : Hp} {Q : VK} {v : V} {p : Addr} {σ : L2.St}
end
section
variable {K : Fr} {Rs : List Res} {H : Hp} {Q : VK} {v : V} {d : PyData} {ta tb : TE} {σ : L2.St}
end
section
variable {K : Fr} {α κ : Type} {ik ik' : κ -> Key} {e e' : α -> PyData} {Rs : List Res} {H : Hp} {Q : VK} {v : V} {p : Addr} {m : List (κ × α)}
end
section
variable {β : Type} {F : β -> (β -> Prop) -> (β -> Prop) -> Prop} {s0 : β} {KK : β -> Prop} {tc : TT} {tb : TS} {D : Ends} {σ : L2.St} {H : Hp}
end
section
variable {K : Fr} {κ α β : Type} {ik : κ -> Key} {e : α -> PyData} {Rs : List Res} {H : Hp} {v : V} {m : List (κ × α)} {σ : L2.St} {f : DF}
end
theorem v_par {v w : V} {σ : L2.St} {H : Hp} {D : Ends} {i j : Nat} (k : D.nx ((σ.set i (some v)).set j (some w)) H) : ∃ v' w', [v, w] = [v', w'] /\ D.nx ((σ.set i (some v')).set j (some w')) H := ⟨_, _, rfl, k⟩
end RC

namespace RC
open PySem PySem.Spec PyProof.Rows L2
def rMax2 : List V -> Hp -> VK -> Prop := λ xs H Q => ∃ i j, xs = [.int i, .int j] /\ Q (.int (if j > i then j else i)) H
theorem cr_max2 {X : Cx} (hc : X.calm = true) : CallR X (.builtin "max") rMax2 := call_max2 hc
section
variable {X : Cx}
end
section
variable {α β : Type} {K : Fr} {Rs : List Res} {H : Hp} {σ : L2.St} {Q : VK} {v : V} {p : Addr} {e : α -> PyData}
theorem v_max2 {i j : Int} (k : Q (.int (if j > i then j else i)) H) : rMax2 [.int i, .int j] H Q := ⟨i, j, rfl, k⟩
end
end RC

namespace RC
open PySem PySem.Spec PyProof.Rows L2
def dEq {κ α : Type} [DecidableEq κ] [DecidableEq α] (m n : List (κ × α)) : Bool := (m.length == n.length) && m.all λ p => decide (lk n p.1 = some p.2)
inductive HitsV (K : Fr) (H : Hp) (ls : List (Key × V)) : List (Key × V) -> Bool -> Prop
 | nil : HitsV K H ls [] true
 | miss {k : Key} {v : V} {r : List (Key × V)} (h : valV ls k = none) : HitsV K H ls ((k, v) :: r) false
 | hit {k : Key} {v u : V} {r : List (Key × V)} {d e : PyData} {b : Bool} (h : valV ls k = some u) (h1 : Dp K H v d) (h2 : Dp K H u e) (s1 : SeqAt.shaped d = true) (s2 : SeqAt.shaped e = true) (t : HitsV K H ls r b) : HitsV K H ls ((k, v) :: r) (PyData.eqv d e && b)
def rEqD2 (K : Fr) : R2 := λ x y H Q => ∃ a b ks ls r, x = .ref a /\ y = .ref b /\ Rd H a (.dK ks) /\ Rd H b (.dK ls) /\ HitsV K H ls ks r /\ Q (.bl (ks.length == ls.length && r)) H
section
variable {X : Cx} {pins : List (Addr × Obj)} {σ : L2.St} {H : Hp} {s : Shared}
theorem hitsV_run (I : Inv X pins σ H s) {A : Around} (hu : A.units + 65 < cLine) {ls : List (Key × V)} {vb : List (Key × Value)} (rb : KV ls vb) : ∀ {ks : List (Key × V)} {r : Bool}, HitsV X.K H ls ks r -> ∀ {va : List (Key × Value)}, KV ks va -> PySem.W.KeqHitsP X.prog X.w A s vb va r := by
 intro ks r h
 induction h with
 | nil =>
   intro va ra
   unfold KV at ra
   cases ra
   exact .nil
 | @miss k v r hn =>
   intro va ra
   unfold KV at ra
   cases ra with
   | @cons p q ps qs h1 t =>
     obtain ⟨h1, h2⟩ := h1
     obtain ⟨key, u⟩ := q
     have h1' : k = key := h1
     have rr : RelO none (valueAt vb k) := by rw [<- hn]; exact rb.val k
     have e : valueAt vb k = none := by
       cases z : valueAt vb k with
       | none => rfl
       | some y => rw [z] at rr; exact rr.elim
     rw [h1'] at e
     exact .miss e
 | @hit k v u r d e b hv h1 h2 s1 s2 t ih =>
   intro va ra
   unfold KV at ra
   cases ra with
   | @cons p q ps qs hh tt =>
     obtain ⟨k1, k2⟩ := hh
     obtain ⟨key, w⟩ := q
     have k1' : k = key := k1
     have rr : RelO (some u) (valueAt vb k) := by rw [<- hv]; exact rb.val k
     obtain ⟨y, hy, ry⟩ := rr.some_of
     rw [k1'] at hy
     obtain ⟨as, r1⟩ := Dp.reads I d v w h1 k2
     obtain ⟨bs, r2⟩ := Dp.reads I e u y h2 ry
     have d1 := shaped_depth s1
     have d2 := shaped_depth s2
     exact .hit hy (SeqAt.eqAt_reads d e A s w y as bs r1 r2 d1.1 d2.1 (by omega)).eqP (ih tt)
end
section
variable {X : Cx}
theorem op_eqD2 (hu : X.A.units + 128 < cLine) : OpR X (compareOp .Eq) (rEqD2 X.K) := by
 intro pins s σ H x y v u Q I rx ry h
 obtain ⟨a, b, ks, ls, r, rfl, rfl, ha, hb, hh, q⟩ := h
 obtain rfl : v = Value.ref a := rx
 obtain rfl : u = Value.ref b := ry
 obtain ⟨_, na, wa, ka, oa⟩ := dk_rd I.hok ha
 obtain ⟨_, nb, wb, kb, ob⟩ := dk_rd I.hok hb
 refine PySem.W.rcP_dicts na nb oa ob (by omega) (λ _ => hitsV_run I (A := X.A.in1) (by show X.A.units + 1 + 65 < cLine; omega) kb hh ka) _ _ ?_
 rw [<- ka.length, <- kb.length]
 exact ⟨.bl _, H, I, rfl, q⟩
end
structure EqT {α : Type} [DecidableEq α] (e : α -> PyData) : Prop where
 sh : ∀ x, EqOk (e x)
 ev : ∀ x y, PyData.eqv (e x) (e y) = decide (x = y)
theorem eqtLI : EqT (eL eI) := ⟨shaped_LI, λ x y => eqv_LI x y⟩
section
variable {κ α β : Type} [DecidableEq κ] [DecidableEq α] {K : Fr} {Rs : List Res} {H F : Hp} {σ : L2.St} {Q : VK} {v w : V} {p : Addr} {e : α -> PyData} {ik : κ -> Key} {m n : List (κ × α)}
theorem tkv_hits (T : EqT e) (inj : ∀ a b, ik a = ik b -> a = b) {ls : List (Key × V)} (t2 : TKv K H ik e ls n) : ∀ {kvs : List (Key × V)} {m : List (κ × α)}, TKv K H ik e kvs m -> HitsV K H ls kvs (m.all λ p => decide (lk n p.1 = some p.2))
 | _, _, .nil => .nil
 | _, _, .cons (k := k) (x := x) d t => by
   have ih := tkv_hits T inj t2 t
   rw [List.all_cons]
   cases e0 : lk n k with
   | none =>
     have := t2.none inj e0
     have e1 : decide ((none : Option α) = some x) = false := by simp
     rw [e1, Bool.false_and]
     exact .miss this
   | some y =>
     obtain ⟨u, h1, h2⟩ := t2.some inj e0
     have e1 : decide (some y = some x) = PyData.eqv (e x) (e y) := by
       rw [T.ev]
       by_cases z : x = y
       · subst z
         simp
       · simp [z, Ne.symm z]
     rw [e1]
     exact .hit h1 (d.dp (T.sh x).nodict) (h2.dp (T.sh y).nodict) (T.sh x) (T.sh y) ih
theorem DVs.eqD (T : EqT e) (inj : ∀ a b, ik a = ik b -> a = b) (D1 : DVs K Rs H ik e v m) (D2 : DVs K Rs H ik e w n) : ∃ a b ks ls, v = .ref a /\ w = .ref b /\ Rd H a (.dK ks) /\ Rd H b (.dK ls) /\ ks.length = m.length /\ ls.length = n.length /\ HitsV K H ls ks (m.all λ p => decide (lk n p.1 = some p.2)) := by
 obtain ⟨p, kvs, F, L, rfl, h1, s1, m1, t1⟩ := D1
 obtain ⟨q, ls, F2, L2, rfl, h2, s2, m2, t2⟩ := D2
 exact ⟨p, q, kvs, ls, rfl, rfl, h1, h2, t1.len, t2.len, tkv_hits T inj (TKv.ext m2.ex t2) (TKv.ext m1.ex t1)⟩
def uEqV (K : Fr) : R2 := λ x y H Q => uEqQ K x y H Q \/ rEqD2 K x y H Q
theorem uo_eqV {X : Cx} (hu : X.A.units + 128 < cLine) : OpR X (compareOp .Eq) (uEqV X.K) := (uo_eqQ hu).or (op_eqD2 hu)
theorem v_eqV (T : EqT e) (inj : ∀ a b, ik a = ik b -> a = b) (D1 : DVs K Rs H ik e v m) (D2 : DVs K Rs H ik e w n) (k : Q (.bl (dEq m n)) H) : uEqV K v w H Q := by
 obtain ⟨a, b, ks, ls, rfl, rfl, h1, h2, l1, l2, hh⟩ := D1.eqD T inj D2
 refine .inr ⟨a, b, ks, ls, _, rfl, rfl, h1, h2, hh, ?_⟩
 rw [l1, l2]
 exact k
theorem DVs.get {a : Addr} {k : κ} (inj : ∀ a b, ik a = ik b -> a = b) (D : DVs K Rs H ik e (.ref a) m) : ∃ o, DGet H a (kV (ik k)) o /\ ((lk m k = none /\ o = none) \/ ∃ x u, lk m k = some x /\ o = some u /\ M (da K u (e x) :: Rs) H) := by
 obtain ⟨p, kvs, F, L, e0, h1, s1, m1, t1⟩ := D
 cases e0
 refine ⟨valV kvs (ik k), .inl ⟨kvs, ik k, h1, rfl, rfl⟩, ?_⟩
 cases z : lk m k with
 | none => exact .inl ⟨rfl, t1.none inj z⟩
 | some x =>
   obtain ⟨u, hu, hd⟩ := t1.some inj z
   exact .inr ⟨x, u, rfl, hu, F, L, ⟨[], L, rfl, ⟨rfl, hd⟩, s1⟩, m1⟩
end
section
variable {κ α : Type} [DecidableEq κ] {K : Fr} {Rs : List Res} {H : Hp} {Q : VK}
end
end RC

namespace RC
open PySem PySem.Spec PyProof.Rows L2
end RC

namespace RC
open PySem PySem.Spec PyProof.Rows L2
section
variable {prog : Program} {w : World} {A : Around} {I : Addr} {fp wr : List Addr} {n : Nat} {P : Nat -> Value -> Prop} {St : Nat -> Heap -> Prop}
end
section
variable {prog : Program} {w : World} {A : Around} {E : Value -> Shared -> Prop} {s : Shared}
end
end RC

namespace RC
open PySem PySem.Spec PyProof.Rows L2
section
variable {X : Cx}
end
section
variable {κ α : Type} {K : Fr} {Rs : List Res} {H : Hp} {Q : VK} {v : V} {e : α -> PyData}
end
end RC

namespace RC
open PySem PySem.Spec PyProof.Rows L2
section
variable {α β γ : Type} {e : α -> PyData} {sv : α -> V} {K : Fr} {σ : L2.St} {H : Hp} {Q : VK} {D : Ends} {Rs : List Res} {v w : V} {xs ys : List α} {p : Addr}
end
end RC

namespace RC
open PySem PySem.Spec PyProof.Rows L2
section
variable {K : Fr} {H : Hp} {v w : V} {Q : VK} {Rs : List Res} {σ : L2.St} {D : Ends} {α β : Type} {e : α -> PyData} {xs : List α}
theorem div_okB {i j : Int} (h : 0 < j /\ j < 2 ^ 200) : CDivW i j := wide_div (b := 200) h.1 (by omega) (by decide) (by decide)
theorem v_divB {i j : Int} (h : 0 < j /\ j < 2 ^ 200) (k : Q (.int (i / j)) H) : uDiv (.int i) (.int j) H Q := ⟨i, j, rfl, rfl, div_okB h, k⟩
end
end RC

namespace RC
open PySem PySem.Spec PyProof.Rows L2
section
variable {K : Fr} {H : Hp} {v w : V} {Q : VK} {Rs : List Res} {σ : L2.St} {α β : Type}
end
end RC

namespace RC
open PySem PySem.Spec PyProof.Rows L2
section
variable {X : Cx} {x : Str} {C fI : Addr} {k : Nat} {fd : FuncData} {ps : List Str} {B newId initId : String} {bmB : List Value} {p pos pos' : Pos}
end
def emR : Res := ⟨λ _ l => l = [], λ _ _ _ _ h => h⟩
theorem M.addE {Rs : List Res} {H : Hp} (S : M Rs H) : M (emR :: Rs) H := by
 obtain ⟨F, L, s, m⟩ := S
 exact ⟨F, L, ⟨[], L, rfl, rfl, s⟩, m⟩
section
variable {K : Fr} {H : Hp} {Q : VK} {a D : Addr} {b : Bool}
end
end RC

namespace RC
open PySem PySem.Spec PyProof.Rows L2
section
variable {K : Fr} {H : Hp} {Q : VK} {Rs : List Res} {σ : L2.St} {κ α : Type} [DecidableEq κ] {ik : κ -> Key} {e : α -> PyData} {p : Addr}
inductive Prs (K : Fr) (F : Hp) (ik : κ -> Key) (e : α -> PyData) : List (V × V) -> List (κ × α) -> Prop
 | nil : Prs K F ik e [] []
 | cons {k : κ} {x : α} {v : V} {r : List (V × V)} {m : List (κ × α)} (h : Dq K F v (e x)) (t : Prs K F ik e r m) : Prs K F ik e ((kV (ik k), v) :: r) ((k, x) :: m)
theorem tk_merge {F : Hp} (inj : ∀ a b, ik a = ik b -> a = b) {kvs : List (Key × V)} {m : List (κ × α)} (h : TKv K F ik e kvs m) : ∀ {kv0 : List (Key × V)} {m0 : List (κ × α)}, TKv K F ik e kv0 m0 -> TKv K F ik e (mergeK kv0 kvs) (m.foldl (λ acc q => pk acc q.1 q.2) m0) := by
 induction h with
 | nil => exact λ h => h
 | cons h t ih => exact λ h0 => ih (h0.put inj h)
end
end RC

namespace RC
open PySem PySem.Spec PyProof.Rows L2
section
variable {X : Cx} {CX : CXT} {g : Bool} {k n : Nat} {f C : Addr} {fd : FuncData} {ps ks : List Str} {sp : Sp} {W : WX} {x m : Str} {p pos apos : Pos} {o e : Expr} {es : List Expr} {kws : List Keyword} {t tk : TA} {gg : List Value -> List Value -> List Value} {gV : List V -> List V -> List V}
variable {σ : L2.St} {H : Hp} {Q : VK} {Rs : List Res} {l : Nat}
end
end RC

namespace RC
open PySem PySem.Spec PyProof.Rows L2
def vr {α : Type} (T : Addr -> α -> Res) (v : V) (x : α) : Res := exi λ p => prp (v = .ref p) (T p x)
def vrD {α : Type} (K : Fr) (e : α -> PyData) (v : V) (x : α) : Res := da K v (e x)
def starR {α : Type} (A : V -> α -> Res) : List V -> List α -> Res
 | [], [] => emR
 | v :: vs, x :: xs => sp2 (A v x) (starR A vs xs)
 | _, _ => prp False emR
def lsR {α : Type} (A : V -> α -> Res) (p : Addr) (xs : List α) : Res := exi λ vs => sp2 (pt p (.lst vs)) (starR A vs xs)
def q1R {α : Type} (A : V -> α -> Res) (vs : List V) (x : α) : Res := exi λ u => prp (vs = [u]) (A u x)
def qcR {α β : Type} (A : V -> α -> Res) (Q : List V -> β -> Res) (vs : List V) (x : α × β) : Res := exi λ u => exi λ us => prp (vs = u :: us) (sp2 (A u x.1) (Q us x.2))
def tuR {α : Type} (Q : List V -> α -> Res) (p : Addr) (x : α) : Res := exi λ vs => sp2 (pt p (.tup vs)) (Q vs x)
section
variable {K : Fr} {α β γ δ : Type} {Rs : List Res} {H : Hp} {A : V -> α -> Res} {B : V -> β -> Res} {C : V -> γ -> Res} {D : V -> δ -> Res} {T : Addr -> α -> Res} {p : Addr} {Q : VK}
theorem M.vrC {x : α} (S : M (T p x :: Rs) H) : M (vr T (.ref p) x :: Rs) H := M.ex' p (M.pr' rfl S)
theorem M.vrO {x : α} {v : V} (S : M (vr T v x :: Rs) H) : ∃ p, v = .ref p /\ M (T p x :: Rs) H := by
 obtain ⟨p, S⟩ := S.ex
 exact ⟨p, S.pr⟩
theorem starR_len : ∀ {vs : List V} {xs : List α} {Rs : List Res}, M (starR A vs xs :: Rs) H -> vs.length = xs.length
 | [], [], _, _ => rfl
 | v :: vs, x :: xs, _, S => by
   have := starR_len (S.sp.at 1 rfl)
   simp [this]
 | [], _ :: _, _, S => (S.pr).1.elim
 | _ :: _, [], _, S => (S.pr).1.elim
theorem starR_put : ∀ {vs : List V} {xs : List α} {Rs : List Res} {u : V} {y : α}, M (A u y :: starR A vs xs :: Rs) H -> M (starR A (vs ++ [u]) (xs ++ [y]) :: Rs) H
 | [], [], _, u, y, S => M.sp' S
 | [], _ :: _, _, _, _, S => ((S.at 1 rfl).pr).1.elim
 | _ :: _, [], _, _, _, S => ((S.at 1 rfl).pr).1.elim
 | v :: vs, x :: xs, Rs, u, y, S => by
   have S2 := (S.at 1 rfl).sp
   have S3 := starR_put (vs := vs) (xs := xs) (u := u) (y := y) (Rs := A v x :: Rs) (M.sub (.cons 2 rfl (.cons 1 rfl (.cons 0 rfl (.refl _)))) S2)
   exact M.sp' (M.sub (.cons 1 rfl (.refl _)) S3)
theorem lsR_nil (S : M (pt p (.lst []) :: Rs) H) : M (lsR A p [] :: Rs) H := M.ex' [] (M.sp' (M.sub (.cons 1 rfl (.refl _)) S.addE))
theorem M.h1C {u : V} {x : α} (S : M (A u x :: Rs) H) : M (q1R A [u] x :: Rs) H := M.ex' u (M.pr' rfl S)
theorem M.hcC {P : List V -> β -> Res} {u : V} {us : List V} {x : α} {y : β} (S : M (A u x :: P us y :: Rs) H) : M (qcR A P (u :: us) (x, y) :: Rs) H := M.ex' u (M.ex' us (M.pr' rfl S.sp'))
theorem M.hq2C {u w : V} {x : α} {y : β} (S : M (A u x :: B w y :: Rs) H) : M (qcR A (q1R B) [u, w] (x, y) :: Rs) H := M.hcC (M.sub (.cons 1 rfl (.refl _)) (M.h1C (M.sub (.cons 1 rfl (.refl _)) S)))
theorem M.tuC {P : List V -> α -> Res} {vs : List V} {x : α} (S : M (P vs x :: pt p (.tup vs) :: Rs) H) : M (tuR P p x :: Rs) H := M.ex' vs (M.sp' (M.sub (.cons 1 rfl (.refl _)) S))
end
end RC

namespace RC
open PySem PySem.Spec PyProof.Rows L2
section
variable {κ α : Type} [DecidableEq κ]
theorem atKey {m : List (κ × α)} {k : κ} {x : α} (h : lk m k = some x) : ∃ n : Nat, m[n]? = some (k, x) := by
 obtain ⟨n, hn, e⟩ := List.getElem_of_mem (lk_mem h)
 exact ⟨n, by rw [List.getElem?_eq_getElem hn, e]⟩
theorem ndAt {m : List (κ × α)} {k : κ} {x : α} {n : Nat} (nd : (ks m).Nodup) (h : m[n]? = some (k, x)) : lk m k = some x := lk_of_mem nd (List.mem_of_getElem? h)
theorem pkAt : ∀ {m : List (κ × α)} {k : κ} {x y : α} {n : Nat}, (ks m).Nodup -> m[n]? = some (k, x) -> pk m k y = m.set n (k, y)
 | [], k, x, y, n, _, h => by simp at h
 | q :: m, k, x, y, 0, nd, h => by
   cases (Option.some.inj (show some q = some (k, x) from h))
   have nd' := List.nodup_cons.mp (show (k :: ks m).Nodup from nd)
   unfold pk
   rw [if_pos (by simp), List.map_cons, if_pos rfl, List.set_cons_zero]
   congr 1
   refine (List.map_congr_left λ p hp => ?_).trans (List.map_id _)
   have : p.1 ≠ k := λ z => nd'.1 (by rw [<- z]; exact List.mem_map.mpr ⟨p, hp, rfl⟩)
   rw [if_neg this]
   rfl
 | q :: m, k, x, y, n + 1, nd, h => by
   have nd' := List.nodup_cons.mp (show (q.1 :: ks m).Nodup from nd)
   have h' : m[n]? = some (k, x) := by simpa using h
   have hk : q.1 ≠ k := λ z => nd'.1 (by rw [z]; exact List.mem_map.mpr ⟨_, List.mem_of_getElem? h', rfl⟩)
   have ih := pkAt (y := y) nd'.2 h'
   have hm := ndAt nd'.2 h'
   unfold pk at ih ⊢
   rw [any_lk, hm] at ih
   rw [any_lk, lk_cons, if_neg hk, hm]
   rw [if_pos (by rfl)] at ih ⊢
   rw [List.map_cons, if_neg hk, ih, List.set_cons_succ]
end
def starK {κ α : Type} (ik : κ -> Key) (A : V -> α -> Res) : List (Key × V) -> List (κ × α) -> Res
 | [], [] => emR
 | kv :: kvs, q :: m => sp2 (prp (kv.1 = ik q.1) (A kv.2 q.2)) (starK ik A kvs m)
 | _, _ => prp False emR
def dvR {κ α : Type} (ik : κ -> Key) (A : V -> α -> Res) (p : Addr) (m : List (κ × α)) : Res := exi λ kvs => prp (ks m).Nodup (sp2 (pt p (.dK kvs)) (starK ik A kvs m))
section
variable {K : Fr} {κ α : Type} {Rs : List Res} {H : Hp} {A : V -> α -> Res} {ik : κ -> Key} {p : Addr} {Q : VK}
theorem starK_keys : ∀ {kvs : List (Key × V)} {m : List (κ × α)} {Rs : List Res}, M (starK ik A kvs m :: Rs) H -> kvs.map (·.1) = (ks m).map ik
 | [], [], _, _ => rfl
 | kv :: kvs, q :: m, _, S => by
   have := starK_keys (S.sp.at 1 rfl)
   have e := (S.sp).pr.1
   simp only [ks, List.map_cons] at this ⊢
   rw [e, this]
 | [], _ :: _, _, S => (S.pr).1.elim
 | _ :: _, [], _, S => (S.pr).1.elim
theorem starK_open : ∀ {kvs : List (Key × V)} {m : List (κ × α)} {Rs : List Res} {n : Nat} {k : κ} {x : α}, M (starK ik A kvs m :: Rs) H -> m[n]? = some (k, x) -> ∃ u, kvs[n]? = some (ik k, u) /\ M (A u x :: starK ik A (kvs.eraseIdx n) (m.eraseIdx n) :: Rs) H
 | [], [], _, n, k, x, _, h => by simp at h
 | [], _ :: _, _, _, _, _, S, _ => (S.pr).1.elim
 | _ :: _, [], _, _, _, _, S, _ => (S.pr).1.elim
 | kv :: kvs, y :: m, Rs, 0, k, x, S, h => by
   cases (Option.some.inj (show some y = some (k, x) from h))
   obtain ⟨e, S2⟩ := S.sp.pr
   exact ⟨kv.2, by rw [<- e]; rfl, S2⟩
 | kv :: kvs, y :: m, Rs, n + 1, k, x, S, h => by
   obtain ⟨u, hu, S2⟩ := starK_open (n := n) (k := k) (x := x) (S.sp.at 1 rfl) (by simpa using h)
   refine ⟨u, by simpa using hu, ?_⟩
   have S3 : M (sp2 (prp (kv.1 = ik y.1) (A kv.2 y.2)) (starK ik A (kvs.eraseIdx n) (m.eraseIdx n)) :: A u x :: Rs) H := M.sp' (M.sub (.cons 2 rfl (.cons 1 rfl (.refl _))) S2)
   exact M.sub (.cons 1 rfl (.refl _)) S3
theorem starK_repl : ∀ {kvs : List (Key × V)} {m : List (κ × α)} {Rs : List Res} {n : Nat} {k : κ} {u0 u : V} {x y : α}, kvs[n]? = some (ik k, u0) -> m[n]? = some (k, x) -> M (A u y :: starK ik A (kvs.eraseIdx n) (m.eraseIdx n) :: Rs) H -> M (starK ik A (kvs.set n (ik k, u)) (m.set n (k, y)) :: Rs) H
 | [], _, _, n, _, _, _, _, _, h, _, _ => by simp at h
 | _ :: _, [], _, _, _, _, _, _, _, _, h, _ => by simp at h
 | kv :: kvs, q :: m, Rs, 0, k, u0, u, x, y, h, g, S => M.sp' (M.pr' rfl S)
 | kv :: kvs, q :: m, Rs, n + 1, k, u0, u, x, y, h, g, S => by
   have S2 : M (sp2 (prp (kv.1 = ik q.1) (A kv.2 q.2)) (starK ik A (kvs.eraseIdx n) (m.eraseIdx n)) :: A u y :: Rs) H := M.sub (.cons 1 rfl (.refl _)) S
   have S3 := starK_repl (kvs := kvs) (m := m) (n := n) (k := k) (u0 := u0) (u := u) (x := x) (y := y) (Rs := prp (kv.1 = ik q.1) (A kv.2 q.2) :: Rs) (by simpa using h) (by simpa using g) (M.sub (.cons 2 rfl (.cons 1 rfl (.refl _))) S2.sp)
   exact M.sp' (M.sub (.cons 1 rfl (.refl _)) S3)
theorem set_same {γ : Type} : ∀ {xs : List γ} {n : Nat} {x : γ}, xs[n]? = some x -> xs.set n x = xs
 | [], n, x, h => by simp at h
 | y :: xs, 0, x, h => by cases (Option.some.inj (show some y = some x from h)); rfl
 | y :: xs, n + 1, x, h => by rw [List.set_cons_succ, set_same (by simpa using h)]
theorem starK_close {kvs : List (Key × V)} {m : List (κ × α)} {n : Nat} {k : κ} {u : V} {x y : α} (h : kvs[n]? = some (ik k, u)) (g : m[n]? = some (k, x)) (S : M (A u y :: starK ik A (kvs.eraseIdx n) (m.eraseIdx n) :: Rs) H) : M (starK ik A kvs (m.set n (k, y)) :: Rs) H := by
 have := starK_repl h g S
 rwa [set_same h] at this
theorem starK_put : ∀ {kvs : List (Key × V)} {m : List (κ × α)} {Rs : List Res} {k : κ} {u : V} {y : α}, M (A u y :: starK ik A kvs m :: Rs) H -> M (starK ik A (kvs ++ [(ik k, u)]) (m ++ [(k, y)]) :: Rs) H
 | [], [], _, k, u, y, S => M.sp' (M.pr' rfl S)
 | [], _ :: _, _, _, _, _, S => ((S.at 1 rfl).pr).1.elim
 | _ :: _, [], _, _, _, _, S => ((S.at 1 rfl).pr).1.elim
 | kv :: kvs, q :: m, Rs, k, u, y, S => by
   have S2 := (S.at 1 rfl).sp
   have S3 := starK_put (kvs := kvs) (m := m) (k := k) (u := u) (y := y) (Rs := prp (kv.1 = ik q.1) (A kv.2 q.2) :: Rs) (M.sub (.cons 2 rfl (.cons 1 rfl (.cons 0 rfl (.refl _)))) S2)
   exact M.sp' (M.sub (.cons 1 rfl (.refl _)) S3)
theorem ks_kv {kvs : List (Key × V)} {m : List (κ × α)} (h : kvs.map (·.1) = (ks m).map ik) (inj : ∀ a b, ik a = ik b -> a = b) (nd : (ks m).Nodup) : (ks kvs).Nodup := by
 show (kvs.map (·.1)).Nodup
 rw [h]
 exact nd_map inj nd
variable [DecidableEq κ]
theorem dvR_open (S : M Rs H) (j : Nat) {m : List (κ × α)} (hj : Rs[j]? = some (dvR ik A p m)) : ∃ kvs, (ks m).Nodup /\ kvs.map (·.1) = (ks m).map ik /\ M (pt p (.dK kvs) :: starK ik A kvs m :: Rs.eraseIdx j) H := by
 obtain ⟨kvs, S1⟩ := (S.at j hj).ex
 obtain ⟨nd, S2⟩ := S1.pr
 exact ⟨kvs, nd, starK_keys (S2.sp.at 1 rfl), S2.sp⟩
theorem dvR_mk {kvs : List (Key × V)} {m : List (κ × α)} (nd : (ks m).Nodup) (S : M (pt p (.dK kvs) :: starK ik A kvs m :: Rs) H) : M (dvR ik A p m :: Rs) H := M.ex' kvs (M.pr' nd S.sp')
theorem M.dvk {m : List (κ × α)} (inj : ∀ a b, ik a = ik b -> a = b) (S : M Rs H) (j : Nat) (hj : Rs[j]? = some (dvR ik A p m)) : ∃ kvs, H p = some (.dK kvs) /\ kvs.map (·.1) = (ks m).map ik /\ kvs.length = m.length /\ ∀ k, (valV kvs (ik k)).isSome = (lk m k).isSome := by
 obtain ⟨kvs, nd, hk, S1⟩ := dvR_open S j hj
 have hl : kvs.length = m.length := by
   have := congrArg List.length hk
   simpa [ks] using this
 refine ⟨kvs, S1.got 0 rfl, hk, hl, λ k => ?_⟩
 show (lk kvs (ik k)).isSome = _
 rw [Bool.eq_iff_iff, lk_iff, lk_iff]
 show ik k ∈ kvs.map (·.1) ↔ _
 rw [hk, List.mem_map]
 constructor
 · rintro ⟨a, ha, e⟩
   rwa [<- inj _ _ e]
 · exact λ h => ⟨k, h, rfl⟩
theorem v_lenDV {m : List (κ × α)} (inj : ∀ a b, ik a = ik b -> a = b) (S : M Rs H) (j : Nat) (hj : Rs[j]? = some (dvR ik A p m)) (k : Q (.int (m.length : Nat)) H) : uLen K [.ref p] H Q := by
 obtain ⟨kvs, h, _, hl, _⟩ := M.dvk inj S j hj
 exact v_lenD h (by rw [hl]; exact k)
end
section
variable {K : Fr} {α : Type} {Rs : List Res} {H : Hp} {A : V -> α -> Res} {p : Addr} {Q : VK}
end
section
variable {K : Fr} {κ α : Type} [DecidableEq κ] {Rs : List Res} {H : Hp} {A : V -> α -> Res} {ik : κ -> Key} {p : Addr} {Q : VK}
theorem v_ixDV {m : List (κ × α)} {k : κ} {x : α} (inj : ∀ a b, ik a = ik b -> a = b) (S : M Rs H) (j : Nat) (hj : Rs[j]? = some (dvR ik A p m)) (hx : lk m k = some x)
   (c : ∀ u kvs n, kvs[n]? = some (ik k, u) -> m[n]? = some (k, x) -> (ks m).Nodup -> M (A u x :: pt p (.dK kvs) :: starK ik A (kvs.eraseIdx n) (m.eraseIdx n) :: Rs.eraseIdx j) H -> Q u H) : rIxK (.ref p) (kV (ik k)) H Q := by
 obtain ⟨kvs, nd, hk, S1⟩ := dvR_open S j hj
 obtain ⟨n, hn⟩ := atKey hx
 obtain ⟨u, hu, S2⟩ := starK_open (S1.at 1 rfl) hn
 have S3 : M (A u x :: pt p (.dK kvs) :: starK ik A (kvs.eraseIdx n) (m.eraseIdx n) :: Rs.eraseIdx j) H := M.sub (.cons 0 rfl (.cons 1 rfl (.refl _))) S2
 exact ⟨p, u, rfl, .inl ⟨kvs, ik k, .inl (S3.got 1 rfl), rfl, (ndAt (ks_kv hk inj nd) hu).symm⟩, c u kvs n hu hn nd S3⟩
theorem dvR_close {kvs : List (Key × V)} {m : List (κ × α)} {n : Nat} {k : κ} {u : V} {x y : α} (h : kvs[n]? = some (ik k, u)) (g : m[n]? = some (k, x)) (nd : (ks m).Nodup) (S : M (A u y :: pt p (.dK kvs) :: starK ik A (kvs.eraseIdx n) (m.eraseIdx n) :: Rs) H) : M (dvR ik A p (pk m k y) :: Rs) H := by
 have S1 := starK_close (Rs := pt p (.dK kvs) :: Rs) h g (M.sub (.cons 0 rfl (.cons 1 rfl (.refl _))) S)
 rw [<- pkAt (y := y) nd g] at S1
 exact dvR_mk (nd_pk nd) (M.sub (.cons 1 rfl (.refl _)) S1)
theorem v_putDV {m : List (κ × α)} {k : κ} {u : V} {y : α} {Q : Hp -> Prop} (inj : ∀ a b, ik a = ik b -> a = b) (S : M (A u y :: dvR ik A p m :: Rs) H) (hz : m.length < 100000) (c : ∀ H', M (dvR ik A p (pk m k y) :: Rs) H' -> Q H') : uSet (.ref p) (kV (ik k)) u H Q := by
 obtain ⟨kvs, nd, hk, S1⟩ := dvR_open S 1 rfl
 have hl : kvs.length = m.length := by
   have := congrArg List.length hk
   simpa [ks] using this
 refine .inr ⟨p, _, rfl, DPut.k (k := ik k) (S1.got 0 rfl) (Nat.lt_of_lt_of_le (by rw [hl]; exact hz) (by decide)), c _ ?_⟩
 have S2 : M (pt p (.dK (putK kvs (ik k) u)) :: starK ik A kvs m :: A u y :: Rs) (upd H p (.dK (putK kvs (ik k) u))) := S1.putAt 0 rfl
 have ndk := ks_kv hk inj nd
 cases e : lk m k with
 | some x =>
   obtain ⟨n, hn⟩ := atKey e
   obtain ⟨u0, hu, S3⟩ := starK_open (S2.at 1 rfl) hn
   have S4 := starK_repl (Rs := pt p (.dK (putK kvs (ik k) u)) :: Rs) (u := u) (y := y) hu hn (M.sub (.cons 3 rfl (.cons 1 rfl (.cons 1 rfl (.tl (.refl _))))) S3)
   have e2 : putK kvs (ik k) u = kvs.set n (ik k, u) := pkAt (m := kvs) ndk hu
   rw [<- pkAt (y := y) nd hn, <- e2] at S4
   exact dvR_mk (nd_pk nd) (M.sub (.cons 1 rfl (.refl _)) S4)
 | none =>
   have e1 : lk kvs (ik k) = none := by
     refine lk_none_iff.mpr λ z => ?_
     have z : ik k ∈ kvs.map (·.1) := z
     rw [hk] at z
     obtain ⟨a, ha, ea⟩ := List.mem_map.mp z
     exact lk_none_iff.mp e (by rw [<- inj _ _ ea]; exact ha)
   have e2 : putK kvs (ik k) u = kvs ++ [(ik k, u)] := pk_new (m := kvs) e1
   have S4 := starK_put (k := k) (Rs := pt p (.dK (putK kvs (ik k) u)) :: Rs) (M.sub (.cons 2 rfl (.cons 1 rfl (.refl _))) S2)
   rw [<- pk_new (x := y) e, <- e2] at S4
   exact dvR_mk (nd_pk nd) (M.sub (.cons 1 rfl (.refl _)) S4)
end
end RC
namespace RC
open PySem PySem.Spec PyProof.Rows L2
section
variable {K : Fr} {κ α : Type} {Rs : List Res} {H : Hp} {A : V -> α -> Res} {ik : κ -> Key} {p : Addr} {Q : VK}
end
section
variable {K : Fr} {Rs : List Res} {H : Hp} {Q : VK} {v : V} {α : Type} {σ : L2.St} {tb : TE}
end
end RC

namespace RC
open PySem PySem.Spec PyProof.Rows L2
inductive OD where
 | fz (d : PyData)
 | ol (l : List OD)
 | ot (l : List OD)
mutual
def OD.fgt : OD -> PyData
 | .fz d => d
 | .ol l => .list (OD.fgtAll l)
 | .ot l => .tuple (OD.fgtAll l)
def OD.fgtAll : List OD -> List PyData
 | [] => []
 | x :: xs => x.fgt :: OD.fgtAll xs
end
mutual
def odR (K : Fr) : V -> OD -> Res
 | v, .fz d => da K v d
 | v, .ol l => exi λ p => prp (v = .ref p) (exi λ vs => sp2 (pt p (.lst vs)) (odRs K vs l))
 | v, .ot l => exi λ p => prp (v = .ref p) (exi λ vs => sp2 (pt p (.tup vs)) (odRs K vs l))
def odRs (K : Fr) : List V -> List OD -> Res
 | [], [] => emR
 | v :: vs, x :: xs => sp2 (odR K v x) (odRs K vs xs)
 | [], _ :: _ => prp False emR
 | _ :: _, [] => prp False emR
end
section
variable {K : Fr} {Rs : List Res} {H : Hp} {Q : VK} {v : V} {p : Addr}
mutual
theorem M.gotOD : ∀ {x : OD} {v : V} {Rs : List Res}, M (odR K v x :: Rs) H -> Dn K H v x.fgt
 | .fz d, v, Rs, S => Dq.dn (M.gotA S 0 rfl)
 | .ol l, v, Rs, S => by
   obtain ⟨p, S1⟩ := S.ex
   obtain ⟨e, S2⟩ := S1.pr
   obtain ⟨vs, S3⟩ := S2.ex
   subst e
   exact .lst (SqL.of (S3.sp.got 0 rfl)) (M.gotODs (S3.sp.at 1 rfl))
 | .ot l, v, Rs, S => by
   obtain ⟨p, S1⟩ := S.ex
   obtain ⟨e, S2⟩ := S1.pr
   obtain ⟨vs, S3⟩ := S2.ex
   subst e
   exact .tup (.inl (.inl (S3.sp.got 0 rfl))) (M.gotODs (S3.sp.at 1 rfl))
theorem M.gotODs : ∀ {l : List OD} {vs : List V} {Rs : List Res}, M (odRs K vs l :: Rs) H -> DnAll K H vs (OD.fgtAll l)
 | [], [], _, _ => .nil
 | x :: xs, v :: vs, _, S => .cons (M.gotOD S.sp) (M.gotODs (S.sp.at 1 rfl))
 | _ :: _, [], _, S => (S.pr).1.elim
 | [], _ :: _, _, S => (S.pr).1.elim
end
mutual
theorem M.frzOD : ∀ {x : OD} {v : V} {Rs : List Res}, M (odR K v x :: Rs) H -> M (da K v x.fgt :: Rs) H
 | .fz d, v, Rs, S => S
 | .ol l, v, Rs, S => by
   obtain ⟨p, S1⟩ := S.ex
   obtain ⟨e, S2⟩ := S1.pr
   obtain ⟨vs, S3⟩ := S2.ex
   subst e
   have S4 := M.frzODs (S3.sp.at 1 rfl)
   have S5 : M (pt p (.lst vs) :: daA K vs (OD.fgtAll l) :: Rs) H := S4.at 1 rfl
   exact M.sub (.cons 0 rfl (.tl (.refl _))) (S5.fixG (φ := λ F => DqAll K F vs (OD.fgtAll l)) (R := da K (.ref p) (.list (OD.fgtAll l))) (λ F L s => by
     obtain ⟨l, h⟩ := s.get 0 rfl
     exact h.2) λ F q fp => ⟨rfl, .lst (.inl (.inl fp)) q⟩)
 | .ot l, v, Rs, S => by
   obtain ⟨p, S1⟩ := S.ex
   obtain ⟨e, S2⟩ := S1.pr
   obtain ⟨vs, S3⟩ := S2.ex
   subst e
   have S4 := M.frzODs (S3.sp.at 1 rfl)
   have S5 : M (pt p (.tup vs) :: daA K vs (OD.fgtAll l) :: Rs) H := S4.at 1 rfl
   exact M.sub (.cons 0 rfl (.tl (.refl _))) (S5.fixG (φ := λ F => DqAll K F vs (OD.fgtAll l)) (R := da K (.ref p) (.tuple (OD.fgtAll l))) (λ F L s => by
     obtain ⟨l, h⟩ := s.get 0 rfl
     exact h.2) λ F q fp => ⟨rfl, .tup (.inl (.inl fp)) q⟩)
theorem M.frzODs : ∀ {l : List OD} {vs : List V} {Rs : List Res}, M (odRs K vs l :: Rs) H -> M (daA K vs (OD.fgtAll l) :: Rs) H
 | [], [], _, S => by
   obtain ⟨F, L, ⟨l1, l2, e, a, s⟩, m⟩ := S
   exact ⟨F, L, ⟨l1, l2, e, ⟨a, .nil⟩, s⟩, m⟩
 | x :: xs, v :: vs, Rs, S => by
   have S1 := M.frzOD S.sp
   have S2 := M.frzODs (S1.at 1 rfl)
   have S3 : M (da K v x.fgt :: daA K vs (OD.fgtAll xs) :: Rs) H := S2.at 1 rfl
   obtain ⟨F, L, ⟨l1, l2, rfl, ⟨rfl, h⟩, l3, l4, rfl, ⟨rfl, q⟩, s⟩, m⟩ := S3
   exact ⟨F, l4, ⟨[], l4, rfl, ⟨rfl, .cons h q⟩, s⟩, m⟩
 | _ :: _, [], _, S => (S.pr).1.elim
 | [], _ :: _, _, S => (S.pr).1.elim
end
def OD.at : OD -> Int -> Option OD
 | .fz d, i => (anyAt d i).map .fz
 | .ol l, i => atI l i
 | .ot l, i => atI l i
end
section
variable {K : Fr} {α : Type} {Rs : List Res} {H : Hp} {A : V -> α -> Res} {p : Addr}
end
end RC

namespace RC
open PySem PySem.Spec PyProof.Rows L2
section
variable {σ : L2.St} {H : Hp} {D : Ends} {i j k : Nat} {ta : TA}
end
end RC

namespace RC
open PySem PySem.Spec PyProof.Rows L2
theorem d_upd {X : Cx} {pins : List (Addr × Obj)} {σ : L2.St} {H : Hp} {s : Shared} {a b : Addr} {A : Around} {E : Value -> Shared -> Prop} {kvs ms : List (Key × V)} {Q : Value -> Shared -> Prop} (I : Inv X pins σ H s) (e : H a = some (.dK kvs)) (e2 : Rd H b (.dK ms)) (hne : a ≠ b) (hz : kvs.length + ms.length <= sizeLine)
   (h : ∀ s', Inv X pins σ (upd H a (.dK (mergeK kvs ms))) s' -> Q .none s') : wpAny (model X.prog X.w) A (call (.builtin "dict.update") [.ref a, .ref b]) Q E s := by
 obtain ⟨z, hd, vs, rel, dd⟩ := dk_of I.hok e
 obtain ⟨z2, hd2, ws, rel2, dd2⟩ := dk_rd I.hok e2
 refine call_meetsIn PySem.F.slot_dict_update dd.typeIs PySem.F.entry_dict_update (PySem.F.args_dict_update_2 _ _) (meets_dict_update (mixKind X.prog X.w) a b hne hd2) ⟨vs, ws, dd, dd2, by rw [<- rel.length, <- rel2.length]; exact hz, λ h' dd' _ hs => h _ ?_⟩
 have he : ∃ q, h'.get? a = some q := let ⟨q, _, _, hq, _⟩ := dd'; ⟨q, hq⟩
 exact d_write (t' := s.toks) I (by rw [e]; exact True.intro) hs he (dk_new (Nat.le_trans (length_mergeK ms kvs) hz) hd (rel2.merge rel) dd')
def rDUpd : V -> List V -> Hp -> VK -> Prop := λ x vs H Q => ∃ (a b : Addr) (kvs ms : List (Key × V)), x = .ref a /\ vs = [.ref b] /\ H a = some (.dK kvs) /\ Rd H b (.dK ms) /\ a ≠ b /\ kvs.length + ms.length <= 200000 /\ Q .non (upd H a (.dK (mergeK kvs ms)))
theorem mtd_update {X : Cx} : MtR X "dict.update" rDUpd := by
 intro pins s σ H x vs v us Q I rx rv h
 obtain ⟨a, b, kvs, ms, ex, ev, e, e2, hne, hz, q⟩ := h
 subst ex
 subst ev
 obtain rfl : v = Value.ref a := rx
 obtain ⟨u, rfl, hu⟩ := rv.one
 obtain rfl : u = Value.ref b := hu
 exact d_upd I e e2 hne (Nat.le_trans hz (by decide)) λ s' I' => ⟨.non, _, I', rfl, q⟩
section
variable {K : Fr} {κ α : Type} {ik : κ -> Key} {e : α -> PyData} {m m2 : List (κ × α)} {Rs : List Res} {H : Hp} {Q : VK} {p : Addr} {v : V}
theorem M.tyD {φ : Prop} (S : M Rs H) (j : Nat) (hj : Rs[j]? = some (adR K ik e p m)) (k : φ) : tyV K "dict" (.ref p) H /\ φ := by
 obtain ⟨kvs, h, t⟩ := S.gotDk j hj
 exact ⟨.inr (.inr (.inl ⟨rfl, .inl ⟨kvs, h⟩⟩)), k⟩
def mgD [DecidableEq κ] (m m2 : List (κ × α)) : List (κ × α) := m2.foldl (λ acc q => pk acc q.1 q.2) m
theorem v_updA [DecidableEq κ] (inj : ∀ a b, ik a = ik b -> a = b) (S : M Rs H) (j i : Nat) (hj : Rs[j]? = some (adR K ik e p m)) (hi : Rs[i]? = some (da K v (eD ik e m2))) (hz : m.length + m2.length <= 100000) (k : ∀ H', M (adR K ik e p (mgD m m2) :: Rs.eraseIdx j) H' -> Q .non H') : rDUpd (.ref p) [v] H Q := by
 have S0 : M (da K v (eD ik e m2) :: Rs) H := S.addA (EnF.at i hi)
 have S1 : M (adR K ik e p m :: da K v (eD ik e m2) :: Rs.eraseIdx j) H := S0.at (j + 1) (by simpa using hj)
 obtain ⟨kvs, S2⟩ := S1.ex
 have S3 := S2.sp
 have hl := (S3.gotT 1 rfl).len
 have hp := S3.got 0 rfl
 have S4 : M (da K v (eD ik e m2) :: pt p (.dK kvs) :: tkR K ik e kvs m :: Rs.eraseIdx j) H := M.sub (.cons 2 rfl (.refl _)) S3
 obtain ⟨b, od, ms, rfl, hk, S5⟩ := (M.addA S4 (EnF.at 0 rfl)).openDk
 have hb := S5.gotF 0 rfl
 have ne : p ≠ b := λ z => by rw [z, hb] at hp; cases hp
 have hl2 := (S5.gotT 1 rfl).len
 refine ⟨p, b, kvs, ms, rfl, rfl, hp, .inr ⟨od, hb⟩, ne, by rw [hl, hl2]; omega, k _ ?_⟩
 have S6 := S5.putAt (o' := .dK (mergeK kvs ms)) 3 rfl
 have S7 : M (pt p (.dK (mergeK kvs ms)) :: tkR K ik e kvs m :: tkR K ik e ms m2 :: Rs.eraseIdx j) _ := M.sub (.cons 3 rfl (.cons 3 rfl (.cons 1 rfl (.tl (.tl (.refl _)))))) S6
 obtain ⟨F, L, ⟨l1, l2, rfl, a, l3, l4, rfl, ⟨rfl, t1⟩, l5, l6, rfl, ⟨rfl, t2⟩, c⟩, mm⟩ := S7
 exact ⟨F, _, ⟨l1, l6, by simp, ⟨_, l1, [], by simp, a, rfl, tk_merge inj t2 t1⟩, c⟩, mm⟩
theorem v_clrA (S : M Rs H) (j : Nat) (hj : Rs[j]? = some (adR K ik e p m)) (k : ∀ H', M (adR K ik e p ([] : List (κ × α)) :: Rs.eraseIdx j) H' -> Q .non H') : rDClear (.ref p) [] H Q := by
 obtain ⟨kvs, S1⟩ := adR_open S j hj
 refine ⟨p, kvs, rfl, rfl, S1.got 0 rfl, k _ ?_⟩
 have S2 := S1.putAt (o' := .dK []) 0 rfl
 have S3 : M (pt p (.dK []) :: Rs.eraseIdx j) _ := M.sub (.cons 0 rfl (.tl (.refl _))) S2
 obtain ⟨F, L, ⟨l1, l2, rfl, a, b⟩, mm⟩ := S3
 exact ⟨F, _, ⟨l1, l2, rfl, ⟨[], l1, [], by simp, a, rfl, .nil⟩, b⟩, mm⟩
end
section
variable {X : Cx} {CX : CXT} {g : Bool} {k : Nat} {f : Addr} {fd : FuncData} {ps : List Str} {sp : Sp} {ds : List Value} {dvs : List V} {E : XK} {W : WX} {x : Str} {p pos : Pos}
end
section
variable {α : Type} {K : Fr} {Rs : List Res} {H : Hp} {Q : VK} {v : V} {e : α -> PyData}
end
end RC

namespace RC
open PySem PySem.Spec PyProof.Rows L2
section
open PySem.SeqAt AutoSeq1 MeetsSeq MeetsSeq2 MeetsSeq3 SeqRoads2
variable {prog : Program} {w : World}
end
inductive EqTD : PyData -> PyData -> Bool -> Prop
 | same {d : PyData} (h : dOk d) (hd : d.depth <= 60) : EqTD d d true
 | word {s t : Str} {x y : PyData} (h : s ≠ t) (h1 : EqOk (eS s)) (h2 : EqOk (eS t)) : EqTD (.tuple [.str s, x]) (.tuple [.str t, y]) false
 | dict {s : Str} {m n : List (Str × List Int)} (h : m ≠ n) (h1 : EqOk (eS s)) (hd : dEq m n = false) : EqTD (.tuple [.str s, eD iS (eL eI) m]) (.tuple [.str s, eD iS (eL eI) n]) false
section
variable {X : Cx} {pins : List (Addr × Obj)} {σ : L2.St} {H : Hp} {s : Shared}
theorem Dn.one (I : Inv X pins σ H s) (sy : SysD s.heap) {v : V} {u : Value} {d d' : PyData} (h1 : Dn X.K H v d) (h2 : Dn X.K H v d') (r : RelV v u) (c : d.canLay0 = true) : d = d' := by
 obtain ⟨as, r1, _⟩ := h1.reads I sy r
 obtain ⟨bs, r2, _⟩ := h2.reads I sy r
 exact SeqAt.Reads.unique _ _ _ _ _ c r1 r2
end
section
variable {X : Cx}
end
end RC

namespace RC
open PySem PySem.Spec PyProof.Rows L2
section
variable {K : Fr} {α β γ : Type} {Rs : List Res} {H : Hp} {σ : L2.St} {D : Ends} {A : V -> α -> Res} {B : V -> β -> Res} {p : Addr} {Q : VK} {vs : List V} {xs : List α}
theorem lsR_put {N : Hp -> Prop} {E : Addr} {ys : List β} {u : V} {y : β} (S : M (B u y :: lsR B E ys :: Rs) H) (hz : ys.length < 100000) (k : ∀ H', M (lsR B E (ys ++ [y]) :: Rs) H' -> N H') : LcK N E u H := by
 obtain ⟨ws, S1⟩ := (S.at 1 rfl).ex
 have S2 := S1.sp
 have hl := starR_len (S2.at 1 rfl)
 refine ⟨ws, S2.got 0 rfl, Nat.lt_of_lt_of_le (by rw [hl]; exact hz) (by decide), k _ ?_⟩
 have S3 := S2.putAt (o' := .lst (ws ++ [u])) 0 rfl
 have S4 : M (B u y :: starR B ws ys :: pt E (.lst (ws ++ [u])) :: Rs) _ := M.sub (.cons 2 rfl (.cons 1 rfl (.refl _))) S3
 exact M.ex' _ (M.sp' (M.sub (.cons 1 rfl (.refl _)) (starR_put S4)))
theorem lo_lst {te : TE} {tt : TT} {g : TG} {ws : List Nat} {F : α -> (Option β -> Prop) -> Prop} {e : α -> PyData} {KK : List β -> Prop} {a : Addr} (hf : xs.length <= 100000 /\ lcD F xs [] KK) (S : M Rs H)
   (hrd : ∀ H, M Rs H -> SqL K H a vs /\ DqAll K H vs (xs.map e))
   (hs : ∀ (i : Nat) v x (acc : List β) E H (kk : Option β -> Prop) (N : Hp -> Prop), acc.length < 100000 -> M (lsR B E acc :: Rs) H -> vs[i]? = some v -> xs[i]? = some x -> F x kk ->
     (∀ y H, kk (some y) -> M (lsR B E (acc ++ [y]) :: Rs) H -> N H) -> (∀ H, kk none -> M (lsR B E acc :: Rs) H -> N H) -> g v (wipe σ ws) H λ σ2 H2 => wipe σ2 ws = wipe σ ws /\ tt σ2 H2 λ b H3 =>
     if b = true then te σ2 H3 (LcK N E) else N H3)
   (hd : ∀ E (acc : List β) H, KK acc -> M (lsR B E acc :: Rs) H -> Q (.ref E) H) : LcW (Itl K a) g tt te ws σ Q H := by
 obtain ⟨hz, hf⟩ := hf
 have hl : vs.length = xs.length := by
   have := (hrd H S).2.len
   rwa [List.length_map] at this
 refine lc_X walk_list (λ E i H => ∃ acc, lcD F (xs.drop i) acc KK /\ acc.length <= i /\ M (lsR B E acc :: Rs) H) (λ E hE => ⟨[], by simpa using hf, Nat.le_refl _, lsR_nil (S.new hE)⟩) (λ E i H _ ⟨acc, _, _, S⟩ => (hrd H S.tl).1) ?_ ?_
 · rintro E i v H H' hi ⟨acc, hf, ha, S⟩ ⟨rfl, hv⟩
   have hi2 : i < xs.length := by omega
   rw [List.drop_eq_getElem_cons hi2] at hf
   refine hs i v _ acc E H' _ _ (by omega) S hv (List.getElem?_eq_getElem hi2) hf (λ y H hk S => ⟨acc ++ [y], hk, by rw [List.length_append]; simpa using ha, S⟩) (λ H hk S => ⟨acc, ?_, by omega, S⟩)
   simpa using hk
 · rintro E H ⟨acc, hf, ha, S⟩
   rw [hl, List.drop_length] at hf
   exact hd E acc H hf S
end
end RC

namespace RC
open PySem PySem.Spec PyProof.Rows L2
section
variable {prog : Program} {w : World} {A : Around} {E : Value -> Shared -> Prop} {s : Shared}
end
section
variable {X : Cx}
end
section
variable {K : Fr} {F : Hp}
end
section
variable {K : Fr} {Rs : List Res} {H : Hp} {σ : L2.St} {α : Type} {e : α -> PyData} {l b : Addr} {xs ys : List α} {Q : L2.St -> Hp -> Prop}
end
end RC

namespace RC
open PySem PySem.Spec PyProof.Rows L2
theorem pick_one (items : Array Value) : slicePick items none none (some 1) = items := by
 have h : slicePick items none none (some 1) = slicePick items none none none := rfl
 rw [h, slicePick_plain]
 simp only [Option.elim, List.drop_zero, Nat.sub_zero]
 rw [List.take_of_length_le (by simp)]
def tStepL (K : Fr) (te : TE) (ts : TO) : TE := λ σ H Q => te σ H λ x H1 => ts σ H1 λ o H2 => ∃ a xs, x = .ref a /\ SqL K H2 a xs /\ ((o = some 1 /\ ∀ p, H2 p = none -> Q (.ref p) (upd H2 p (.lst xs))) \/ (o = some (-1) /\ ∀ p, H2 p = none -> Q (.ref p) (upd H2 p (.lst xs.reverse))))
section
variable {X : Cx}
theorem pe_stepL {e : Expr} {te : TE} {ts : TO} {st : Option Expr} {p3 pos : Pos} (he : PE X e te) (hst : PO X st ts) (hsb : ∀ a b : Value, subscripted (.Slice none none st p3) false a b = operate [a, b] (getItem a b) := by intro _ _; rfl) : PE X (.Subscript e (.Slice none none st p3) pos) (tStepL X.K te ts) := by
 refine ⟨λ pins s σ H Q I h => ?_⟩
 refine Subscript_ (thn (he.run pins s σ H _ I h) λ v s1 ⟨x, H1, I1, r1, q1⟩ => ?_)
 refine wpAny_Slice (thn (po_none.run pins s1 σ H1 (λ o H2 => o = none /\ H2 = H1) I1 ⟨rfl, rfl⟩) λ vl s2 ⟨l, H2, I2, pl, el, e2⟩ => ?_)
 subst el e2
 refine thn (po_none.run pins s2 σ H2 (λ o H3 => o = none /\ H3 = H2) I2 ⟨rfl, rfl⟩) λ vu s3 ⟨u, H3, I3, pu, eu, e3⟩ => ?_
 subst eu e3
 refine thn (hst.run pins s3 σ H3 _ I3 q1) λ vs s4 ⟨o, H4, I4, ps, q4⟩ => ?_
 obtain ⟨a, xs, rfl, hx, q⟩ := q4
 obtain rfl : v = Value.ref a := r1
 have I5 : Inv X pins σ H4 { s4 with heap := s4.heap.push { cls := .type "slice", data := .fields #[vl, vu, vs] } } := I4.kept (t' := s4.toks) λ b ob q => Heap.get?_push_of_some _ q
 obtain ⟨its, r, ht, hz⟩ := I5.list hx
 have hlen := r.length
 show wpAny (model X.prog X.w) X.A (subscriptTail e (.Slice none none st p3) (.ref a) (.ref s4.heap.objs.size)) (EP X pins σ Q) X.xe { s4 with heap := s4.heap.push { cls := .type "slice", data := .fields #[vl, vu, vs] } }
 refine tail_any (ops := [.ref a, .ref s4.heap.objs.size]) ht.isList.typeIs (PySem.slot_list_getitem.lookup) ?_ (hsb _ _)
 rcases q with ⟨rfl, q⟩ | ⟨rfl, q⟩
 · refine wpAny_getItem_list_slice ht.isList (Heap.IsSliceOf.new _ vl vu vs) pl pu ps (by decide) ?_ (by rw [List.size_toArray]; omega)
   rw [pick_one]
   refine ⟨.ref _, _, I5.laid (t' := s4.toks) (o := .lst xs) (λ b ob q => Heap.get?_push_of_some _ q) (Nat.le_refl _) ?_, rfl, q _ (I5.hok.fresh (Nat.le_refl _))⟩
   exact ⟨hz, _, 0, r, Heap.get?_push_size _ rfl⟩
 · refine wpAny_getItem_list_slice ht.isList (Heap.IsSliceOf.new _ vl vu vs) pl pu ps (by decide) ?_ (by rw [List.size_toArray]; omega)
   rw [PySem.W.krv_pick]
   refine ⟨.ref _, _, I5.laid (t' := s4.toks) (o := .lst xs.reverse) (λ b ob q => Heap.get?_push_of_some _ q) (Nat.le_refl _) ?_, rfl, q _ (I5.hok.fresh (Nat.le_refl _))⟩
   exact ⟨by rw [List.length_reverse]; exact hz, _, 0, r.reverse, Heap.get?_push_size _ rfl⟩
end
section
variable {K : Fr} {α β γ : Type} {Rs : List Res} {H : Hp} {σ : L2.St} {a b : Addr} {Q : VK} {vs us : List V} {xs : List α} {ys : List γ}
theorem g_stepL {te : TE} {ts : TO} (k : te σ H λ x H1 => ts σ H1 λ o H2 => ∃ a xs, x = .ref a /\ SqL K H2 a xs /\ ((o = some 1 /\ ∀ p, H2 p = none -> Q (.ref p) (upd H2 p (.lst xs))) \/ (o = some (-1) /\ ∀ p, H2 p = none -> Q (.ref p) (upd H2 p (.lst xs.reverse))))) : tStepL K te ts σ H Q := k
def stepL {α : Type} (xs : List α) (n : Int) : List α := if n = 1 then xs else xs.reverse
theorem v_stepN {δ : Type} {e : δ -> PyData} {sv : δ -> V} {ds : List δ} {v : V} {n : Int} (f : Fl e sv) (S : M Rs H) (d : Dq K H v (eL e ds)) (hn : n = 1 \/ n = -1) (k : ∀ p H', M (acR K p ((stepL ds n).map e) :: Rs) H' -> Q (.ref p) H') :
   ∃ a xs, v = .ref a /\ SqL K H a xs /\ ((some n = some 1 /\ ∀ p, H p = none -> Q (.ref p) (upd H p (.lst xs))) \/ (some n = some (-1) /\ ∀ p, H p = none -> Q (.ref p) (upd H p (.lst xs.reverse)))) := by
 obtain ⟨a, rfl, h⟩ := f.lst d
 refine ⟨a, _, rfl, h, ?_⟩
 rcases hn with rfl | rfl
 · refine .inl ⟨rfl, λ p hp => k p _ ?_⟩
   have := S.new (o := .lst (ds.map sv)) hp
   unfold stepL
   rw [if_pos rfl]
   exact M.ownF f this
 · refine .inr ⟨rfl, λ p hp => k p _ ?_⟩
   have := S.new (o := .lst (ds.map sv).reverse) hp
   have e1 : (ds.map sv).reverse = ds.reverse.map sv := List.map_reverse.symm
   unfold stepL
   rw [if_neg (by decide)]
   rw [e1] at this ⊢
   exact M.ownF f this
end
section
variable {K : Fr} {κ α κ2 γ : Type} [DecidableEq κ] [DecidableEq κ2] {Rs : List Res} {H : Hp} {σ : L2.St} {p : Addr} {Q : VK} {od : Obj} {kvs : List (Key × V)} {ik : κ -> Key} {m : List (κ × α)}
theorem dc_fz {tk tv : TE} {tt : TT} {g : TG} {ws : List Nat} {sv : κ -> V} {F : κ -> List (κ2 × γ) -> (Option (κ2 × γ) -> Prop) -> Prop} {KK : List (κ2 × γ) -> Prop} (AR : Addr -> List (κ2 × γ) -> Res) (hnew : ∀ (Rs : List Res) E H, M (pt E (.dK []) :: Rs) H -> M (AR E [] :: Rs) H)
   (hsv : ∀ q, kV (ik q) = sv q) (hk : kvs.map (·.1) = (ks m).map ik) (hf : (ks m).length <= 100000 /\ dcD F (ks m) [] KK) (S : M Rs H) (hfr : ∀ H, M Rs H -> H p = some (.frz od (.dK kvs)))
   (hs : ∀ x (acc : List (κ2 × γ)) E H (kk : Option (κ2 × γ) -> Prop) (N : Hp -> Prop), acc.length < 100000 -> M (AR E acc :: Rs) H -> F x acc kk ->
     (∀ q H, kk (some q) -> M (AR E (pk acc q.1 q.2) :: Rs) H -> N H) -> (∀ H, kk none -> M (AR E acc :: Rs) H -> N H) -> g (sv x) (wipe σ ws) H λ σ2 H2 => wipe σ2 ws = wipe σ ws /\ tt σ2 H2 λ b H3 =>
     if b = true then tk σ2 H3 λ y H4 => tv σ2 H4 (DcK N E y) else N H3)
   (hd : ∀ E (acc : List (κ2 × γ)) H, KK acc -> M (AR E acc :: Rs) H -> Q (.ref E) H) : DcW (Itk p od kvs) g tt tk tv ws σ Q H := by
 obtain ⟨hz, hf⟩ := hf
 have hl : kvs.length = (ks m).length := by
   have := congrArg List.length hk
   simpa using this
 intro E hE
 refine ⟨λ i n H => n = (ks m).length - i /\ i <= (ks m).length /\ ∃ acc, dcD F ((ks m).drop i) acc KK /\ acc.length <= i /\ M (AR E acc :: Rs) H, ⟨_, rfl, Nat.zero_le _, [], by simpa using hf, Nat.le_refl _, hnew _ E _ (S.new hE)⟩, ?_⟩
 rintro i n H1 ⟨rfl, hi, acc, hf, ha, S1⟩
 have hq := hfr H1 S1.tl
 rcases Nat.lt_or_ge i (ks m).length with hlt | hge
 · right
   rw [List.drop_eq_getElem_cons hlt] at hf
   refine ⟨walk_keys.goes i H1 (by rw [hl]; exact hlt) hq, λ H => ∃ acc, dcD F ((ks m).drop (i + 1)) acc KK /\ acc.length <= i + 1 /\ M (AR E acc :: Rs) H, λ H' h => ⟨(ks m).length - (i + 1), by omega, rfl, hlt, h⟩, ?_⟩
   intro x H' y
   obtain ⟨rfl, k, u, hk', rfl⟩ := walk_keys.yields i H1 x H' (by rw [hl]; exact hlt) hq y
   obtain ⟨hn2, ek⟩ := keys_at hsv hk hk'
   rw [ek]
   exact hs _ acc E H' _ _ (by omega) S1 hf (λ q H hk S => ⟨_, hk, Nat.le_trans (pk_len _ _ _) (by omega), S⟩) (λ H hk S => ⟨acc, hk, by omega, S⟩)
 · left
   have e : i = (ks m).length := by omega
   subst e
   rw [List.drop_length] at hf
   refine ⟨?_, hd E acc H1 hf S1⟩
   have := walk_keys.stops H1 hq
   rw [hl] at this
   exact this
theorem ad_new {e' : γ -> PyData} {ik2 : κ2 -> Key} : ∀ (Rs : List Res) (E : Addr) (H : Hp), M (pt E (.dK []) :: Rs) H -> M (adR K ik2 e' E [] :: Rs) H := λ Rs E H S => by
 obtain ⟨F, L, s, mm⟩ := S
 obtain ⟨l1, l2, rfl, a1, b1⟩ := s
 exact ⟨F, _, ⟨l1, l2, rfl, ⟨[], l1, [], by simp, a1, rfl, .nil⟩, b1⟩, mm⟩
end
end RC

namespace RC
open PySem PySem.Spec PyProof.Rows L2
section
variable {K : Fr} {α : Type} {H : Hp} {A : V -> α -> Res} {p : Addr} {e : α -> PyData}
end
end RC

namespace RC
open PySem PySem.Spec PyProof.Rows L2
def tkeyI (h : Heap) : Value -> Int
 | .ref a => match h.get? a with
   | some o => match o.data with
     | .seq xs _ => match (xs[0]? : Option Value) with
       | some (Value.int y _) => y
       | _ => 0
     | _ => 0
   | none => 0
 | _ => 0
def TxPI (h : Heap) (v : Value) (y : Int) (u : Value) : Prop := ∃ a o t n, v = .ref a /\ h.get? a = some o /\ o.cls = .type "tuple" /\ o.data = .seq #[.int y t, u] n
theorem TxPI.key {h : Heap} {v : Value} {y : Int} {u : Value} (p : TxPI h v y u) : tkeyI h v = y := by
 obtain ⟨a, o, t, n, rfl, ho, hc, hd⟩ := p
 unfold tkeyI
 simp only [ho, hd]
 rfl
theorem TxPI.keeps {h h' : Heap} {v : Value} {y : Int} {u : Value} (p : TxPI h v y u) (k : ∀ b o, v = .ref b -> h.get? b = some o -> h'.get? b = some o) : TxPI h' v y u := by
 obtain ⟨a, o, t, n, rfl, ho, hc, hd⟩ := p
 exact ⟨a, o, t, n, rfl, k _ _ rfl ho, hc, hd⟩
section
variable {prog : Program} {w : World} {A : Around} {s : Shared}
end
section
variable {X : Cx}
end
section
variable {K : Fr} {α : Type} {e : α -> PyData} {Rs : List Res} {H H' : Hp} {Q : VK} {v : V} {p : Addr}
end
section
variable {α : Type} {A : V -> α -> Res} {p : Addr} {Rs : List Res} {H : Hp}
end
end RC

namespace RC
open PySem PySem.Spec PyProof.Rows L2
open PySem.Sem (wp)
def sIt : Bool -> String
 | true => "tuple_iterator"
 | false => "list_iterator"
def SIt (f : Bool) (h : Heap) (a l : Addr) (i : Nat) : Prop := ∃ o, h.get? a = some o /\ o.cls = .type (sIt f) /\ o.data = .fields #[.ref l, .int i 0]
theorem SIt.at {f : Bool} {h h' : Heap} {a l : Addr} {i : Nat} (x : SIt f h a l i) (e : ∀ o, h.get? a = some o -> h'.get? a = some o) : SIt f h' a l i := let ⟨o, ho, r⟩ := x; ⟨o, e _ ho, r⟩
section
variable {prog : Program} {w : World} {A : Around} {E : Value -> Shared -> Prop} {s : Shared}
end
section
variable {prog : Program} {w : World} {A : Around} {E : Value -> Shared -> Prop} {s : Shared}

end
section
variable {X : Cx} {pins : List (Addr × Obj)} {σ : L2.St} {H : Hp} {s : Shared} {f : Bool} {a : Addr} {xs ys : List V}
end
section
variable {K : Fr} {f1 f2 f : Bool} {a b : Addr} {vs us : List V} {Rs : List Res} {H : Hp} {σ : L2.St} {Q : VK} {α γ β : Type} {xs : List α} {ys : List γ} {D : Ends}
end
end RC

namespace RC
open PySem PySem.Spec PyProof.Rows L2
section
variable {P : Program} {w : World} {A : Around} {E : Value -> Shared -> Prop} {s : Shared} {a : Addr} {es : Array (Int × Value)} {ep : Nat} {t : SetTable}
end
section
variable {X : Cx}
end
section
variable {K : Fr} {α : Type} {e : α -> PyData} {Rs : List Res} {H : Hp} {Q : VK} {v : V} {a b : Addr} {σ : L2.St} {w : World}
end
section
variable {prog : Program} {w : World} {A : Around} {R : Result -> Shared -> Prop} {s : Shared} {elt t0 i0 t1 i1 : Expr} {ifs0 ifs1 : List Expr} {scope : Scope} {pos : Pos} {it acc : Value} {env : Env}
end

section
variable {X : Cx}
end
end RC

namespace RC
open PySem PySem.Spec PyProof.Rows L2
section
variable {K : Fr} {w : World} {Rs : List Res} {H : Hp} {σ : L2.St} {Q : VK} {α κ : Type} {vs : List V} {xs : List α} {a p D : Addr} {e : α -> PyData} {L : List Key} {acc : List Int}
end
structure InsY (K : Fr) (C : Addr) : Prop where
 ha : PySem.W.findIn K (.ref C) "__class__" = some (some (.builtin "object.__class__"))
 hn : PySem.W.specialIn K (.builtin "object.__class__") "__get__" = some (some (.builtin "getset_descriptor.__get__"))
 ht : PySem.W.takesIn K (.builtin "object.__class__") = some true
 hm : PySem.W.mroIn K C (.type "object") = some true
theorem chY_ok {K : Fr} {x : Str} (h : chY K x = true) : InsY K (He.ga K x) :=
 ⟨He.eqO_ok (He.ba (He.ba h).1).1, He.eqO_ok (He.ba (He.ba h).1).2, of_decide_eq_true (He.ba (He.ba h).2).1, of_decide_eq_true (He.ba (He.ba h).2).2⟩
theorem v_isI {K : Fr} {H : Hp} {a C C2 : Addr} {dx : Addr} {fs : List (Str × V)} {b : Bool} {Q : VK} (h : H a = some (.ins C dx fs)) (c : Cls K C) (y : InsY K C) (hk : PySem.W.kitOne K (.ref C) (.ref C2) = some b) (k : Q (.bl b) H) : uIsi K [.ref a, .ref C2] H Q :=
 .inl ⟨.ref a, .ref C2, .ref C, .ref C2, b, rfl, .own _, .base (.ins h c y.ha y.hn y.ht y.hm), hk, k⟩
end RC

namespace RC
open PySem PySem.Spec PyProof.Rows L2
section
variable {K : Fr} {κ α β γ κ2 : Type} [DecidableEq κ] [DecidableEq κ2] {Rs : List Res} {H : Hp} {σ : L2.St} {p : Addr} {Q : VK} {od : Obj} {kvs : List (Key × V)} {ik : κ -> Key} {m : List (κ × α)} {e : α -> PyData} {sv : κ -> V} {D : Ends}
end
end RC

namespace RC
open PySem PySem.Spec PyProof.Rows L2
section
variable {K : Fr} {Rs : List Res} {H : Hp} {Q : VK} {p q : Addr} {m : List ((Int × Int) × Bool)} {x : Int × Int} {σ : L2.St}
end
section
variable {X : Cx}
end
section
variable {K : Fr} {α κ : Type} {ik : κ -> Key} {e : α -> PyData} {Rs : List Res} {H H' : Hp} {Q : VK} {v : V} {p : Addr} {m : List (κ × α)}
end
def DnR {α : Type} (K : Fr) (A : V -> α -> Res) (e : α -> PyData) : Prop := ∀ (v : V) (x : α) (Rs : List Res) (H : Hp), M (A v x :: Rs) H -> Dn K H v (e x)
section
variable {K : Fr} {α β : Type} {A : V -> α -> Res} {B : List V -> β -> Res} {e : α -> PyData} {es : β -> List PyData} {Rs : List Res} {H : Hp} {p : Addr}
theorem dnrL {e : α -> PyData} : DnR K (vr (λ p (x : List α) => acR K p (x.map e))) (eL e) := λ v x Rs H S => by
 obtain ⟨p, rfl, S1⟩ := S.vrO
 exact Dq.dn (M.gotO S1 0 rfl)
end
section
variable {K : Fr} {α : Type} {A : V -> α -> Res} {Rs : List Res} {H : Hp} {p : Addr}
end
end RC

namespace RC
open PySem PySem.Spec PyProof.Rows L2
section
variable {K : Fr} {α : Type} {e : α -> PyData} {Rs : List Res} {H : Hp} {p : Addr} {vs : List V} {xs : List α} {Q : VK}
end
section
variable {K : Fr} {H : Hp} {Q : VK} {v w : V}
end
end RC

namespace RC
open PySem PySem.Spec PyProof.Rows L2
section
variable {X : Cx}
end
section
variable {K : Fr} {Rs : List Res} {H : Hp} {Q : VK} {w : World} {a b : Addr}
end
section
variable {Rs : List Res} {H : Hp}
end
end RC

namespace RC
open PySem PySem.Spec PyProof.Rows L2
section
variable {K : Fr} {Rs : List Res} {H : Hp} {σ : L2.St} {Q : VK} {α β γ : Type} {xs : List α} {ys : List β} {a q D : Addr} {e : α -> PyData} {eb : β -> PyData} {e' : γ -> PyData} {sv : α -> V} {svb : β -> V} {acc : List γ}
end
section
variable {X : Cx}
end
end RC

namespace RC
open PySem PySem.Spec PyProof.Rows L2
abbrev acI (K : Fr) : Addr -> List Int -> Res := λ p x => acR K p (x.map eI)
section
variable {K : Fr} {Rs : List Res} {H : Hp} {σ : L2.St} {Q : VK} {α β γ : Type} {xs : List α} {ys : List β} {a q D : Addr} {e : α -> PyData} {eb : β -> PyData} {e' : γ -> PyData} {sv : α -> V} {svb : β -> V} {acc : List γ}
end
def dvL {κ α : Type} (ik : κ -> Key) (A : V -> α -> Res) (p : Addr) (od : Obj) (kvs : List (Key × V)) (m : List (κ × α)) : Res := prp (ks m).Nodup (sp2 (pt p (.frz od (.dK kvs))) (starK ik A kvs m))
section
variable {K : Fr} {κ α β : Type} {ik : κ -> Key} {A : V -> α -> Res} {Rs : List Res} {H : Hp} {p : Addr} {m : List (κ × α)} {σ : L2.St} {od : Obj} {kvs : List (Key × V)} {Q : VK}
theorem dvL_frz (S : M (dvL ik A p od kvs m :: Rs) H) : H p = some (.frz od (.dK kvs)) := (S.pr.2.sp).got 0 rfl
theorem dv_unlock (S : M (dvL ik A p od kvs m :: Rs) H) : H p = some (.frz od (.dK kvs)) /\ M (dvR ik A p m :: Rs) (upd H p (.dK kvs)) := by
 refine ⟨dvL_frz S, ?_⟩
 obtain ⟨nd, S1⟩ := S.pr
 have S6 : M (pt p (.dK kvs) :: starK ik A kvs m :: Rs) (upd H p (.dK kvs)) := S1.sp.putAt 0 rfl
 exact M.ex' kvs (M.pr' nd S6.sp')
theorem dv_lock (S : M (dvR ik A p m :: Rs) H) : ∃ kvs, H p = some (.dK kvs) /\ kvs.map (·.1) = (ks m).map ik /\ ∀ od, M (dvL ik A p od kvs m :: Rs) (upd H p (.frz od (.dK kvs))) := by
 obtain ⟨kvs, S1⟩ := S.ex
 obtain ⟨nd, S2⟩ := S1.pr
 refine ⟨kvs, S2.sp.got 0 rfl, starK_keys (S2.sp.at 1 rfl), λ od => ?_⟩
 have S6 : M (pt p (.frz od (.dK kvs)) :: starK ik A kvs m :: Rs) (upd H p (.frz od (.dK kvs))) := S2.sp.putAt 0 rfl
 exact M.pr' nd S6.sp'
theorem for_dv {F : κ -> β -> (β -> Prop) -> Prop} {s0 : β} {KK : β -> Prop} {g : TG} {tb : TS} {td : TE} {D : Ends} {sv : κ -> V} (hsv : ∀ q, kV (ik q) = sv q) (hf : forD F (ks m) s0 KK) (Iv : Res -> β -> L2.St -> Hp -> Prop)
   (hI : ∀ R s σ H, Iv R s σ H -> ∃ Rs', M (R :: Rs') H /\ ∀ R' H', M (R' :: Rs') H' -> Iv R' s σ H') (h0 : Iv (dvR ik A p m) s0 σ H)
   (htd : ∀ od kvs H' (Q' : VK), Iv (dvL ik A p od kvs m) s0 σ H' -> Q' (.ref p) H' -> td σ H' Q')
   (hs : ∀ od kvs x s σ H (kk : β -> Prop) (R : VK) (B : L2.St -> Hp -> Prop), Iv (dvL ik A p od kvs m) s σ H ->
     (∀ v' H' Rs', M (dvL ik A p od kvs m :: Rs') H' -> (∀ H'', M (dvR ik A p m :: Rs') H'' -> D.rt v' H'') -> R v' H') -> F x s kk ->
     g (sv x) σ H λ σ2 H2 => tb ⟨λ σ H => ∃ s', kk s' /\ Iv (dvL ik A p od kvs m) s' σ H, R, B, λ σ H => ∃ s', kk s' /\ Iv (dvL ik A p od kvs m) s' σ H⟩ σ2 H2)
   (hd : ∀ s σ H, KK s -> Iv (dvR ik A p m) s σ H -> D.nx σ H) : tLkS (tFor (iKeys td) g tb) D σ H := by
 obtain ⟨Rs0, S0, g0⟩ := hI _ _ _ _ h0
 obtain ⟨kvs, hp, hk, lk_⟩ := dv_lock S0
 refine .inr ⟨p, .dK kvs, hp, trivial, λ od => ?_⟩
 have I1 := g0 _ _ (lk_ od)
 refine htd od kvs _ _ I1 ⟨p, od, rfl, .inl ⟨kvs, dvL_frz (lk_ od), ?_⟩⟩
 refine for_fz hsv hk hf (Iv (dvL ik A p od kvs m)) I1 (λ s σ H h => ?_) (λ x s σ H kk h1 h2 => hs od kvs x s σ H kk _ _ h1 (λ v' H' Rs' S k => ?_) h2) (λ s σ H hK h => ?_)
 · obtain ⟨Rs', S, _⟩ := hI _ _ _ _ h
   exact dvL_frz S
 · obtain ⟨a, b⟩ := dv_unlock S
   exact ⟨a, k _ b⟩
 · obtain ⟨Rs', S, q⟩ := hI _ _ _ _ h
   obtain ⟨a, b⟩ := dv_unlock S
   exact ⟨a, hd s σ _ hK (q _ _ b)⟩
variable [DecidableEq κ]
theorem v_ixDVl {k : κ} {x : α} (inj : ∀ a b, ik a = ik b -> a = b) (S : M Rs H) (j : Nat) (hj : Rs[j]? = some (dvL ik A p od kvs m)) (hx : lk m k = some x)
   (c : ∀ u n, kvs[n]? = some (ik k, u) -> m[n]? = some (k, x) -> (ks m).Nodup -> M (A u x :: pt p (.frz od (.dK kvs)) :: starK ik A (kvs.eraseIdx n) (m.eraseIdx n) :: Rs.eraseIdx j) H -> Q u H) : rIxK (.ref p) (kV (ik k)) H Q := by
 obtain ⟨nd, S1⟩ := (S.at j hj).pr
 have S1 := S1.sp
 have hk := starK_keys (S1.at 1 rfl)
 obtain ⟨n, hn⟩ := atKey hx
 obtain ⟨u, hu, S2⟩ := starK_open (S1.at 1 rfl) hn
 have S3 : M (A u x :: pt p (.frz od (.dK kvs)) :: starK ik A (kvs.eraseIdx n) (m.eraseIdx n) :: Rs.eraseIdx j) H := M.sub (.cons 0 rfl (.cons 1 rfl (.refl _))) S2
 exact ⟨p, u, rfl, .inl ⟨kvs, ik k, .inr ⟨od, S3.got 1 rfl⟩, rfl, (ndAt (ks_kv hk inj nd) hu).symm⟩, c u n hu hn nd S3⟩
theorem dvL_same {n : Nat} {k : κ} {u : V} {x : α} (h : kvs[n]? = some (ik k, u)) (g : m[n]? = some (k, x)) (nd : (ks m).Nodup) (S : M (A u x :: pt p (.frz od (.dK kvs)) :: starK ik A (kvs.eraseIdx n) (m.eraseIdx n) :: Rs) H) : M (dvL ik A p od kvs m :: Rs) H := by
 have S1 := starK_close (Rs := pt p (.frz od (.dK kvs)) :: Rs) h g (M.sub (.cons 0 rfl (.cons 1 rfl (.refl _))) S)
 rw [set_same g] at S1
 exact M.pr' nd (M.sub (.cons 1 rfl (.refl _)) S1).sp'
end
end RC

namespace RC
open PySem PySem.Spec PyProof.Rows L2
section
variable {K : Fr} {α : Type} {e : α -> PyData} {Rs : List Res} {H : Hp} {Q : VK} {p q : Addr}
end
end RC

namespace RC
open PySem PySem.Spec PyProof.Rows L2
def nthR : List Res -> Nat -> Option Res
 | [], _ => none
 | R :: _, 0 => some R
 | _ :: Rs, n + 1 => nthR Rs n
def dropR : Nat -> List Res -> List Res
 | 0, Rs => Rs
 | _ + 1, [] => []
 | n + 1, _ :: Rs => dropR n Rs
def pkL (Bs tl : List Res) : List Nat -> List Res
 | [] => tl
 | j :: js => match nthR Bs j with
   | some R => R :: pkL Bs tl js
   | none => pkL Bs tl js
def notIn (j : Nat) : List Nat -> Bool
 | [] => true
 | i :: is => !(Nat.beq i j) && notIn j is
def okJ (n : Nat) : List Nat -> Bool
 | [] => true
 | j :: js => Nat.blt j n && (notIn j js && okJ n js)
theorem nthR_eq : ∀ (Bs : List Res) (n : Nat), nthR Bs n = Bs[n]?
 | [], n => by cases n <;> rfl
 | R :: Bs, 0 => rfl
 | R :: Bs, n + 1 => by
   rw [nthR, nthR_eq Bs n, List.getElem?_cons_succ]
theorem dropR_eq : ∀ (n : Nat) (Bs : List Res), dropR n Bs = Bs.drop n
 | 0, Bs => rfl
 | n + 1, [] => rfl
 | n + 1, R :: Bs => by
   rw [dropR, dropR_eq n Bs, List.drop_succ_cons]
theorem pkL_eq (Bs tl : List Res) : ∀ js : List Nat, pkL Bs tl js = js.filterMap (λ i => Bs[i]?) ++ tl
 | [] => rfl
 | j :: js => by
   rw [pkL, nthR_eq, pkL_eq Bs tl js, List.filterMap_cons]
   cases Bs[j]? <;> rfl
theorem notIn_ok {j : Nat} : ∀ {is : List Nat}, notIn j is = true -> j ∉ is
 | [], _ => λ h => nomatch h
 | i :: is, h => by
   obtain ⟨h1, h2⟩ := Bool.and_eq_true_iff.mp h
   intro hm
   rcases List.mem_cons.mp hm with e | e
   · subst e
     rw [show Nat.beq j j = true from Nat.beq_refl j] at h1
     cases h1
   · exact notIn_ok h2 e
theorem okJ_ok {n : Nat} : ∀ {js : List Nat}, okJ n js = true -> js.Nodup /\ ∀ j ∈ js, j < n
 | [], _ => ⟨List.nodup_nil, λ _ h => nomatch h⟩
 | j :: js, h => by
   obtain ⟨h1, h2⟩ := Bool.and_eq_true_iff.mp h
   obtain ⟨h3, h4⟩ := Bool.and_eq_true_iff.mp h2
   obtain ⟨i1, i2⟩ := okJ_ok h4
   refine ⟨List.nodup_cons.mpr ⟨notIn_ok h3, i1⟩, λ i hi => ?_⟩
   rcases List.mem_cons.mp hi with e | e
   · rw [e]
     exact Nat.le_of_ble_eq_true h1
   · exact i2 i e
theorem take_fm (Bs : List Res) (n : Nat) : (List.range n).filterMap (λ i => Bs[i]?) = Bs.take n := by
 induction n with
 | zero => rfl
 | succ n ih =>
   rw [List.range_succ, List.filterMap_append, ih, List.take_succ]
   cases e : Bs[n]? <;> simp [e]
theorem Sub.left (rest : List Res) : ∀ As : List Res, Sub As (As ++ rest)
 | [] => Sub.nil _
 | a :: As => Sub.cons 0 rfl (Sub.left rest As)
theorem M.pk {Bs : List Res} {H : Hp} (S : M Bs H) (n : Nat) (js : List Nat) (h : okJ n js = true) : M (pkL Bs (dropR n Bs) js) H := by
 obtain ⟨h1, h2⟩ := okJ_ok h
 rw [pkL_eq, dropR_eq]
 have hp : (js ++ (List.range n).filter λ i => !decide (i ∈ js)).Perm (List.range n) := by
   refine perm_of ?_ List.nodup_range λ x => ?_
   · refine List.nodup_append.mpr ⟨h1, List.nodup_range.sublist List.filter_sublist, λ a ha b hb e => ?_⟩
     subst e
     simp [ha] at hb
   · rw [List.mem_append, List.mem_filter, List.mem_range]
     constructor
     · rintro (h | h)
       · exact h2 x h
       · exact h.1
     · intro h
       by_cases z : x ∈ js
       · exact .inl z
       · exact .inr ⟨h, by simpa using z⟩
 have hq := (hp.filterMap λ i => Bs[i]?)
 rw [List.filterMap_append, take_fm] at hq
 have hr : ((js.filterMap (λ i => Bs[i]?) ++ Bs.drop n) ++ ((List.range n).filter λ i => !decide (i ∈ js)).filterMap (λ i => Bs[i]?)).Perm Bs := by
   have h3 := hq.append_right (Bs.drop n)
   rw [List.take_append_drop] at h3
   refine List.Perm.trans ?_ h3
   rw [List.append_assoc, List.append_assoc]
   exact List.Perm.append_left _ List.perm_append_comm
 refine M.sub (λ F L s => ?_) S
 obtain ⟨L0, p0, s0⟩ := s.perm hr.symm
 obtain ⟨L1, L2, p1, s1⟩ := Sub.left _ _ F L0 s0
 exact ⟨L1, L2, p0.trans p1, s1⟩
end RC

namespace RC
open PySem PySem.Spec PyProof.Rows L2
end RC

namespace RC
open PySem PySem.Spec PyProof.Rows L2
def rEqM (C : Addr) (sp : Sp) : R2 := λ x y H Q => ∃ a b dx dy fs gs, x = .ref a /\ y = .ref b /\ H a = some (.ins C dx fs) /\ H b = some (.ins C dy gs) /\ sp [.ref a, .ref b] H (λ v H' => ∃ r : Bool, v = .bl r /\ Q (.bl r) H') (λ _ _ _ => False)
theorem op_eqM {X : Cx} {g : Bool} {k : Nat} {C f : Addr} {fd : FuncData} {ps : List Str} {sp : Sp} (hm : Meth X.K C "__eq__" f) (F : FnX g X.prog X.w X.K X.mg X.base CX0 k f fd ps sp) (hgu : g = true -> X.A.guards = some []) (hr : Room k X.A) (hb : Binds X.K fd ps []) : OpR X (compareOp .Eq) (rEqM C sp) := by
 intro pins s σ H x y v u Q I rx ry hq
 obtain ⟨a, b, dx, dy, fs, gs, rfl, rfl, ha, hb', hq⟩ := hq
 cases rx
 cases ry
 obtain ⟨mA, J, _⟩ := ins_get I.hok ha
 obtain ⟨mB, J', _⟩ := ins_get I.hok hb'
 obtain ⟨od, J, _⟩ := J.look
 obtain ⟨od', J', _⟩ := J'.look
 obtain ⟨m, hF⟩ := I.fr
 show wpAny (model X.prog X.w) X.A (richCompare .Eq (.ref a) (.ref b)) (EP X pins σ Q) X.xe s
 refine PySem.W.cmp_K (op := .Eq) (tb := .ref C) hr.units0 hF I.ok.mod.kin J J'.type (by simp [PySem.W.notFirst]) hm.at_ hm.fn ?_
 refine wpAny_mono (runW (us := [.ref a, .ref b]) (vs := [.ref a, .ref b]) F hgu hr hb .nil pas0 I (.cons rfl (.cons rfl .nil)) hq) (λ w s' z => ?_) λ _ _ x => x
 obtain ⟨y, H', I', ry, r, rfl, q⟩ := z
 cases ry
 exact ⟨.bl r, H', I', rfl, q⟩
section
variable {K : Fr} {α : Type} {Rs : List Res} {H : Hp} {T : Addr -> α -> Res} {p : Addr} {Q : VK}
end
end RC

namespace RC
open PySem PySem.Spec PyProof.Rows L2
theorem FnX.or {g : Bool} {P : Program} {w : World} {K : Fr} {mg : Str -> Option Value} {base : Heap} {CX : CXT} {k : Nat} {f : Addr} {fd : FuncData} {ps : List Str} {s1 s2 : Sp}
   (F1 : FnX g P w K mg base CX k f fd ps s1) (F2 : FnX g P w K mg base CX k f fd ps s2) : FnX g P w K mg base CX k f fd ps (λ vs H Q E => s1 vs H Q E \/ s2 vs H Q E) :=
 ⟨λ vs H Q E h => h.elim (F1.lenG vs H Q E) (F2.lenG vs H Q E), λ B out t H args bs us vs Q E a b c d e f h => h.elim (F1.runG B out t H args bs us vs Q E a b c d e f) (F2.runG B out t H args bs us vs Q E a b c d e f)⟩
section
variable {K : Fr} {H : Hp} {v w : V} {Q : VK} {Rs : List Res} {σ : L2.St} {α β : Type}
end
section
variable {κ α : Type} [DecidableEq κ] {K : Fr} {ik : κ -> Key} {e : α -> PyData} {m : List (κ × α)} {Rs : List Res} {H : Hp} {Q : VK} {σ : L2.St} {p : Addr}
end
end RC

namespace RC
open PySem PySem.Spec PyProof.Rows L2
section
variable {X : Cx}
end
section
variable {α : Type} {K : Fr} {e : α -> PyData} {m : List (Int × α)} {Rs : List Res} {H : Hp} {Q : VK} {p : Addr}
end
section
variable {α : Type} {K : Fr} {Rs : List Res} {H : Hp} {Q : VK} {v w : V} {p : Addr} {e : α -> PyData}
end
end RC

namespace RC
open PySem PySem.Spec PyProof.Rows L2
section
variable {K : Fr} {κ α β : Type} {ik : κ -> Key} {A : V -> α -> Res} {e : α -> PyData} {Rs : List Res} {H : Hp} {p : Addr} {m : List (κ × α)} {σ : L2.St} {od : Obj} {kvs : List (Key × V)} {Q : VK}
theorem starK_dn (h : DnR K A e) : ∀ {kvs : List (Key × V)} {m : List (κ × α)} {Rs : List Res} {H : Hp}, M (starK ik A kvs m :: Rs) H -> DnKv K H kvs (m.map λ p => (kD (ik p.1), e p.2))
 | [], [], _, _, _ => .nil
 | (k, v) :: kvs, q :: m, _, _, S => by
   obtain ⟨e1, S1⟩ := M.pr S.sp
   have e1 : k = ik q.1 := e1
   subst e1
   exact .cons (h v q.2 _ _ S1) (starK_dn h (S1.at 1 rfl))
 | _ :: _, [], _, _, S => (M.pr S).1.elim
 | [], _ :: _, _, _, S => (M.pr S).1.elim
theorem dnrDV (h : DnR K A e) : DnR K (vr (dvR ik A)) (eD ik e) := λ v x Rs H S => by
 obtain ⟨p, rfl, S1⟩ := S.vrO
 obtain ⟨kvs, S2⟩ := S1.ex
 obtain ⟨nd, S3⟩ := S2.pr
 exact .dct (.inl (S3.sp.got 0 rfl)) (starK_dn h (S3.sp.at 1 rfl))
end
end RC

namespace RC
open PySem PySem.Spec PyProof.Rows L2
section
variable {K : Fr} {α : Type} {A : V -> α -> Res} {Rs : List Res} {H : Hp} {p : Addr} {Q : VK}
variable {vs : List V} {xs : List α} {n m : Nat} {u1 u2 : V} {x1 x2 y1 y2 : α}
end
section
open PySem.SeqAt PySem.AutoSeq1 PySem.MeetsSeq PySem.MeetsSeq2 PySem.MeetsSeq3
end
section
variable {K : Fr} {α : Type} {e : α -> PyData} {Rs : List Res} {H : Hp} {p : Addr} {Q : VK} {om : List (Str × List Int)}
end
section
variable {w : World} {K : Fr} {α κ : Type} {Rs : List Res} {H : Hp} {Q : VK} {σ : L2.St} {p q : Addr} {od : Obj} {kvs : List (Key × V)} {ik : κ -> Key} {m : List (κ × α)} {D : Addr} {L : List Key} {acc : List Int} {β : Type} {eb : β -> PyData} {svb : β -> V} {ys : List β}
end
section
variable {K : Fr} {κ α : Type} {ik : κ -> Key} {e : α -> PyData} {Rs : List Res} {H : Hp} {p b : Addr} {m m2 : List (κ × α)} {Q : VK}
end
end RC

namespace RC
open PySem PySem.Spec PyProof.Rows L2
section
variable {K : Fr} {H : Hp} {Q : VK} {Rs : List Res} {p : Addr}
end
end RC

namespace RC
open PySem PySem.Spec PyProof.Rows L2
def ForUG (G : Hp -> Prop) (g : TG) (tb : TS) (D : Ends) : List V -> L2.St -> Hp -> Prop
 | [], σ, H => G H /\ D.nx σ H
 | v :: r, σ, H => G H /\ g v σ H λ σ2 H2 => tb { D with nx := λ σ' H' => ForUG G g tb D r σ' H', ct := λ σ' H' => ForUG G g tb D r σ' H', bk := D.nx } σ2 H2
theorem ForUG.g {G : Hp -> Prop} {g : TG} {tb : TS} {D : Ends} : ∀ {vs : List V} {σ : L2.St} {H : Hp}, ForUG G g tb D vs σ H -> G H
 | [], _, _, h => h.1
 | _ :: _, _, _, h => h.1
def LcU (G : Hp -> Prop) (g : TG) (tt : TT) (te : TE) (ws : List Nat) (σ : L2.St) (E : Addr) (Z : Hp -> Prop) : List V -> Hp -> Prop
 | [], H => G H /\ Z H
 | v :: r, H => G H /\ g v (wipe σ ws) H λ σ2 H2 => wipe σ2 ws = wipe σ ws /\ tt σ2 H2 λ b H3 => if b = true then te σ2 H3 (LcK (λ H4 => LcU G g tt te ws σ E Z r H4) E) else LcU G g tt te ws σ E Z r H3
theorem LcU.g {G : Hp -> Prop} {g : TG} {tt : TT} {te : TE} {ws : List Nat} {σ : L2.St} {E : Addr} {Z : Hp -> Prop} : ∀ {vs : List V} {H : Hp}, LcU G g tt te ws σ E Z vs H -> G H
 | [], _, h => h.1
 | _ :: _, _, h => h.1
section
variable {K : Fr} {a : Addr} {vs : List V} {g : TG} {tt : TT} {te : TE} {ws : List Nat} {σ : L2.St} {Q : VK} {H : Hp}
theorem lc_U (h : ∀ E, H E = none -> LcU (λ H => SqL K H a vs) g tt te ws σ E (λ H => Q (.ref E) H) vs (upd H E (.lst []))) : LcW (Itl K a) g tt te ws σ Q H := by
 refine lc_X walk_list (λ E i H => LcU (λ H => SqL K H a vs) g tt te ws σ E (λ H => Q (.ref E) H) (vs.drop i) H) (λ E hE => by simpa using h E hE) (λ E i H _ h => h.g) ?_ ?_
 · rintro E i v H H' hi h ⟨rfl, hv⟩
   rw [List.drop_eq_getElem_cons hi] at h
   have e : vs[i] = v := Option.some.inj ((List.getElem?_eq_getElem hi).symm.trans hv)
   rw [e] at h
   exact h.2
 · intro E H h
   rw [List.drop_length] at h
   exact h.2
end
section
variable {α : Type} {A : V -> α -> Res} {p : Addr} {x y z : α} {xs : List α} {Rs : List Res} {H : Hp}
end
end RC
namespace RC
open PySem PySem.Spec PyProof.Rows L2
end RC

namespace RC
open PySem PySem.Spec PyProof.Rows L2
section
variable {X : Cx} {pins : List (Addr × Obj)} {σ : L2.St} {H : Hp} {s : Shared}
end
section
variable {α : Type} {A : V -> α -> Res} {p : Addr} {x y : α} {Rs : List Res} {H : Hp}
end
end RC

namespace RC
open PySem PySem.Spec PyProof.Rows L2
section
variable {X : Cx}
end
section
variable {α : Type} {K : Fr} {e : α -> PyData} {m : List (Int × α)} {Rs : List Res} {H : Hp} {Q : VK} {v : V}
end
end RC

namespace RC
open PySem PySem.Spec PyProof.Rows L2
section
variable {α β γ : Type} {e : α -> PyData} {sv : α -> V} {K : Fr} {σ : L2.St} {H : Hp} {Q : VK} {D : Ends} {Rs : List Res} {v w : V} {xs ys : List α} {p : Addr}
end
section
variable {K : Fr} {Rs : List Res} {H : Hp} {v : V} {vs : List V}
end
end RC

namespace RC
open PySem PySem.Spec PyProof.Rows L2
section
variable {K : Fr} {Rs : List Res} {H : Hp} {Q : VK} {p : Addr} {xs : List Str} {x : Str}
end
end RC

namespace RC
open PySem PySem.Spec PyProof.Rows L2
section
variable {Rs : List Res} {H : Hp} {K : Fr} {κ α : Type} [DecidableEq κ] [DecidableEq α] {ik : κ -> Key} {e : α -> PyData} {m : List (κ × Option α)} {Q : VK}
end
section
variable {K : Fr} {α : Type} {A : V -> α -> Res} {Rs : List Res} {H : Hp} {p : Addr}
end
section
variable {σ : L2.St} {H : Hp} {D : Ends} {ta : TA} {R : It -> Hp -> Prop}
end
end RC

namespace RC
open PySem PySem.Spec PyProof.Rows L2
section
variable {K : Fr} {Rs : List Res} {H : Hp} {v u u1 u2 : V} {vs : List V} {p q : Addr} {d d1 d2 : PyData} {l : List OD} {xs : List Int}
end
section
variable {K : Fr} {H : Hp} {Q : VK} {Rs : List Res} {p : Addr}
end
end RC

namespace RC
open PySem PySem.Spec PyProof.Rows L2
section
variable {K : Fr} {α : Type} {f : α -> V} {Rs : List Res} {H : Hp} {Q : VK} {p q : Addr} {m : List ((Int × Int) × α)} {x : Int × Int} {σ : L2.St}
end
end RC

namespace RC
open PySem PySem.Spec PyProof.Rows L2
section
variable {X : Cx}
end
end RC

namespace RC
open PySem PySem.Spec PyProof.Rows L2
@[reducible] def teKT (K : Fr) (i : Nat) (tf : TE) : TE := tOp (uAdd K) (tVar i) (tTup (tCons (tOp rIxK tf (tVar i)) tNil))
section
variable {K : Fr} {Rs : List Res} {σ : L2.St} {E a p : Addr} {m : List ((Int × Int) × Int)} {i : Nat} {tf : TE} {ws : List Nat} {Z : Hp -> Prop} {k : Addr -> Int × Int} {all : List V}
end
end RC
namespace RC
open PySem PySem.Spec PyProof.Rows L2
section
variable {K : Fr} {Rs : List Res} {H : Hp} {Q : VK} {σ : L2.St} {p : Addr} {m : List ((Int × Int) × Int)} {i : Nat} {tf : TE} {ws : List Nat}
end
end RC
namespace RC
open PySem PySem.Spec PyProof.Rows L2
section
variable {β : Type} {K : Fr} {Rs : List Res} {σ : L2.St} {H : Hp} {Q : VK} {ws : List Nat}
end
end RC
namespace RC
open PySem PySem.Spec PyProof.Rows L2
end RC
namespace RC
open PySem PySem.Spec PyProof.Rows L2
end RC

namespace RC
open PySem PySem.Spec PyProof.Rows L2
section
variable {X : Cx}
end
end RC
namespace RC
open PySem PySem.Spec PyProof.Rows L2
section
variable {K : Fr} {Rs : List Res} {H : Hp} {Q : VK} {p : Addr}
end
end RC
namespace RC
open PySem PySem.Spec PyProof.Rows L2
section
variable {α β : Type} {K : Fr} {Rs : List Res} {σ : L2.St} {H : Hp} {Q : VK} {p : Addr} {vs : List V} {xs : List α}
end
end RC

namespace RC
open PySem PySem.Spec PyProof.Rows L2
section
variable {K : Fr} {H : Hp} {Q : VK} {v : V}
end
end RC

namespace RC
open PySem PySem.Spec PyProof.Rows L2
section
variable {K : Fr} {Rs : List Res} {H : Hp} {Q : VK} {σ : L2.St}
end
end RC

namespace RC
open PySem PySem.Spec PyProof.Rows L2
theorem chDN_ok {K : Fr} {x : Str} (h : chDN K x = true) : DatN K (He.ga K x) := λ t ht => of_decide_eq_true (List.all_eq_true.mp h t ht)
end RC

namespace RC
open PySem PySem.Spec PyProof.Rows L2
def rgI (n : Nat) : List V := (List.range n).map λ i : Nat => V.int (0 + (i : Nat))
theorem rgI_drop {n i : Nat} (h : i < n) : (rgI n).drop i = V.int (0 + (i : Nat)) :: (rgI n).drop (i + 1) := by
 have hl : i < (rgI n).length := by unfold rgI; simpa using h
 rw [List.drop_eq_getElem_cons hl]
 congr 1
 unfold rgI
 simp
section
variable {g : TG} {tt : TT} {te : TE} {ws : List Nat} {σ : L2.St} {Q : VK} {H : Hp} {n : Nat}
theorem for_UR {tb : TS} {D : Ends} (vs : List V) (hv : rgI n = vs) (h : ForUG (λ _ => True) g tb D vs σ H) : ForW (Itr 0 n) g tb D σ H := by
 subst hv
 refine for_W (n := n) walk_range (λ i σ H => ForUG (λ _ => True) g tb D ((rgI n).drop i) σ H) h (λ i σ H _ h => trivial) ?_ ?_
 · rintro i v σ H H' hi h ⟨rfl, rfl⟩
   have hi : i < n := by simpa using hi
   rw [rgI_drop hi] at h
   exact h.2
 · intro σ H h
   rw [List.drop_of_length_le (by unfold rgI; simp)] at h
   exact h.2
end
section
variable {K : Fr} {H : Hp} {Q : VK} {v : V}
end
end RC

namespace RC
open PySem PySem.Spec PyProof.Rows L2
section
variable {X : Cx}
end
section
variable {K : Fr} {H : Hp} {Q : VK} {v w : V}
end
end RC

namespace RC
open PySem PySem.Spec PyProof.Rows L2 PySem.SeqAt
section
variable {M : Model} {prog : Program} {w : World} {A : Around} {E : Value -> Shared -> Prop} {s : Shared} {K : Fr} {x C L f : Addr} {ox : Obj} {od : Option Obj} {h₀ : Heap} {m : Str -> Option Value} {b tb : Value}
theorem ifBound_objNe {args : List Value} {Q : Option Value -> Shared -> Prop} (X : K.In s.heap) (I : PySem.W.InstAt s.heap x ox C od) (hs : PySem.W.findIn K (.ref C) "__ne__" = some (some (.builtin "object.__ne__")))
   (h : wpAny M A (call (.builtin "object.__ne__") (.ref x :: args)) (λ v => Q (some v)) E s) : wpAny M A (callSpecialIfBound? (.ref x) "__ne__" args) Q E s := by
 simp only [callSpecialIfBound?, bindSpecialIfBound?]
 refine wpAny_holding (wpAny_bind (wpAny_bind (wpAny_bind (I.type.here ((PySem.W.looks_findIn X hs).here ?_)))))
 refine wpAny_bind (wpAny_askSetting (wpAny_ite ?_))
 have fin : wpAny M A (call (.builtin "object.__ne__") ([.ref x] ++ args) >>= λ v => pure (some v)) Q E s := wpAny_bind (wpAny_mono h (λ v s' h' => wpAny_pure h') λ _ _ h' => h')
 split
 · exact wpAny_bind (wpAny_of_eq (F.cmp_object.ne.bind _) (wpAny_pure (by exact fin)))
 · exact wpAny_tryCatch (wpAny_bind (wpAny_of_eq (F.cmp_object.ne.bind _) (wpAny_pure (by exact fin))))
theorem call_objNe {Q : Value -> Shared -> Prop} (hu : A.units + 1 < cLine) (X : K.In s.heap) (I : PySem.W.InstAt s.heap x ox C od) (hm : PySem.W.mroIn K C (.type "object") = some true)
   (hs : PySem.W.findIn K (.ref C) "__eq__" = some (some (.ref f))) (hf : PySem.W.isFn K (.ref f) = true)
   (h : wpAny (model prog w) A.in1 (call (.ref f) [.ref x, b]) (λ v s' => ∃ r : Bool, v = .bool r /\ Q (.bool (!r)) s') E s) :
   wpAny (model prog w) A (call (.builtin "object.__ne__") [.ref x, b]) Q E s := by
 refine wpAny_call (codeAny_call_builtin F.cmp_object.ne.plain F.cmpEntry_ne (PySem.W.check_slot F.cmpKind_ne F.cmpSplit_ne (I.type.andThen (PySem.W.looks_mroIn X hm)) (F.cmpArgs_ne _ _) ?_))
 unfold Builtin.«object.__ne__»
 have hu1 : A.in1.units < cLine := hu
 have go : wpAny (model prog w) A.in1 (callSpecialIfBound? (.ref x) "__eq__" [b]) (λ o s' => ∃ r : Bool, o = some (.bool r) /\ Q (.bool (!r)) s') E s :=
   PySem.W.ifBound_K X I hs hf (wpAny_mono h (λ v s' z => by obtain ⟨r, e, q⟩ := z; exact ⟨r, by rw [e], q⟩) λ _ _ z => z)
 have last : ∀ (r : Bool) (s' : Shared), Q (.bool (!r)) s' -> wpAny (model prog w) A.in1 (do
     let d <- truthy (.bool r)
     ret (.bool !d)) (λ fin s' => ∃ v, fin = .done (.ret v) /\ Q v s') E s' := λ r s' q => by
   repeat wp_step
   exact ⟨_, rfl, q⟩
 refine wpAny_mono (Q := λ fin s' => ∃ v, fin = .done (.ret v) /\ Q v s') (E := E) ?_ (λ fin s' z => by obtain ⟨v, rfl, q⟩ := z; exact q) (λ _ _ z => z)
 repeat (first | with_reducible refine wpAny_cRoomFor hu1 ?_ | with_reducible refine wpAny_mono go ?_ (λ _ _ z => z) | wp_step)
 rintro o s' ⟨r, rfl, q⟩
 exact last r s' q
theorem cmpNe_K {Q : Value -> Shared -> Prop} (hu : A.units + 1 < cLine) (F : PyProof.Rows.Fr h₀ L s.heap m) (X₀ : K.In h₀) (I : PySem.W.InstAt s.heap x ox C od) (hb : PySem.W.Looks (model prog w) s.heap (typeOf b) tb) (hn : PySem.W.notFirst K C tb = true)
   (hm : PySem.W.mroIn K C (.type "object") = some true) (hne : PySem.W.findIn K (.ref C) "__ne__" = some (some (.builtin "object.__ne__"))) (hs : PySem.W.findIn K (.ref C) "__eq__" = some (some (.ref f))) (hf : PySem.W.isFn K (.ref f) = true)
   (h : wpAny (model prog w) A.in1 (call (.ref f) [.ref x, b]) (λ v s' => ∃ r : Bool, v = .bool r /\ Q (.bool (!r)) s') E s) : wpAny (model prog w) A (richCompare .NotEq (.ref x) b) Q E s := by
 have X := X₀.keeps F.keep
 have one : wpAny (model prog w) A (tryCompare (.ref x) (cmpInfo .NotEq).2.1 b) (λ r s' => ∃ v, r = some v /\ Q v s') E s := by
   unfold tryCompare
   refine wpAny_bind (ifBound_objNe X I hne ?_)
   have c1 : wpAny (model prog w) A (call (.builtin "object.__ne__") [.ref x, b]) (λ v s' => ∃ r : Bool, v = .bool r /\ Q v s') E s :=
     call_objNe (Q := λ v s' => ∃ r : Bool, v = .bool r /\ Q v s') hu X I hm hs hf (wpAny_mono h (λ v s' z => by obtain ⟨r, e, q⟩ := z; exact ⟨r, e, !r, rfl, q⟩) λ _ _ e => e)
   refine wpAny_mono c1 (λ v s' z => ?_) λ _ _ e => e
   obtain ⟨r, e, q⟩ := z
   subst e
   exact wpAny_pure ⟨_, rfl, q⟩
 unfold richCompare
 simp only [oneThing_ref]
 refine wpAny_holding (wpAny_bind (wpAny_cRoomFor (Nat.lt_of_succ_lt hu) ?_))
 refine wpAny_bind (I.type.here (wpAny_bind (hb.here ?_)))
 split
 · rename_i q
   have e : PySem.W.subIn K tb (.ref C) = some false := by
     rcases Bool.or_eq_true_iff.mp hn with e | e
     · rw [beq_iff_eq.mp e] at q; simp at q
     · exact beq_iff_eq.mp e
   refine wpAny_bind ((PySem.W.looks_subIn X e).here ?_)
   simp only [Bool.false_eq_true, if_false]
   refine wpAny_bind (wpAny_mono one (λ r s' z => ?_) λ _ _ e => e)
   obtain ⟨v, rfl, hq⟩ := z
   exact wpAny_pure hq
 · refine wpAny_bind (wpAny_pure ?_)
   simp only [Bool.false_eq_true, if_false]
   refine wpAny_bind (wpAny_mono one (λ r s' z => ?_) λ _ _ e => e)
   obtain ⟨v, rfl, hq⟩ := z
   exact wpAny_pure hq
end
def rNeM (C : Addr) (sp : Sp) : R2 := λ x y H Q => ∃ a b dx dy fs gs, x = .ref a /\ y = .ref b /\ H a = some (.ins C dx fs) /\ H b = some (.ins C dy gs) /\ sp [.ref a, .ref b] H (λ v H' => ∃ r : Bool, v = .bl r /\ Q (.bl (!r)) H') (λ _ _ _ => False)
theorem op_neM {X : Cx} {g : Bool} {k : Nat} {C f : Addr} {fd : FuncData} {ps : List Str} {sp : Sp} (hm : Meth X.K C "__eq__" f) (hmr : PySem.W.mroIn X.K C (.type "object") = some true)
   (hne : PySem.W.findIn X.K (.ref C) "__ne__" = some (some (.builtin "object.__ne__"))) (F : FnX g X.prog X.w X.K X.mg X.base CX0 k f fd ps sp) (hgu : g = true -> X.A.guards = some []) (hr : Room (k + 1) X.A) (hb : Binds X.K fd ps []) : OpR X (compareOp .NotEq) (rNeM C sp) := by
 intro pins s σ H x y v u Q I rx ry hq
 obtain ⟨a, b, dx, dy, fs, gs, rfl, rfl, ha, hb', hq⟩ := hq
 cases rx
 cases ry
 obtain ⟨mA, J, _⟩ := ins_get I.hok ha
 obtain ⟨mB, J', _⟩ := ins_get I.hok hb'
 obtain ⟨od, J, _⟩ := J.look
 obtain ⟨od', J', _⟩ := J'.look
 obtain ⟨m, hF⟩ := I.fr
 show wpAny (model X.prog X.w) X.A (richCompare .NotEq (.ref a) (.ref b)) (EP X pins σ Q) X.xe s
 refine cmpNe_K (tb := .ref C) (by have := hr.units; omega) hF I.ok.mod.kin J J'.type (by simp [PySem.W.notFirst]) hmr hne hm.at_ hm.fn ?_
 have e0 : Env0 X.prog X.w X.K X.mg X.base X.A.in1 X.stack s H := by
   have e := I.env0
   exact ⟨e.frames, e.mod, e.bs, e.bsz, e.funs, e.frf, e.hok, e.bare⟩
 have hl := F.lenG _ _ _ _ hq
 have go := F.runG X.A.in1 X.stack s _ ⟨[.ref a, .ref b], []⟩ _ [.ref a, .ref b] [.ref a, .ref b] _ _ hgu hr.in1 e0 (by simpa using hb s [.ref a, .ref b] I.kIn (by simpa using hl)) (.refl _) (.cons rfl (.cons rfl .nil)) hq
 refine wpAny_call (codeAny_mono go λ res s' z => ?_)
 match res, z with
 | .error e, z => exact z.elim
 | .ok (.ret u), z =>
   obtain ⟨y, H', I', ry, r, rfl, q⟩ := I.after z
   cases ry
   exact ⟨r, rfl, .bl (!r), H', I', rfl, q⟩
 | .ok .next, z => cases z
 | .ok .brk, z => cases z
 | .ok .cont, z => cases z
theorem sub_bt {K : Fr} {C : Addr} : ∀ n ∈ ["NoneType", "bool", "int", "str", "list", "tuple", "dict"], PySem.W.subIn K (.type n) (.ref C) = some false := by
 have go : ∀ (n : String) (ts : List String), fastBuiltinMro n = some (ts.map Value.type) -> PySem.W.subIn K (.type n) (.ref C) = some false := λ n ts e => by
   show (fastBuiltinMro n).map (·.contains (.ref C)) = some false
   rw [e]
   show some ((ts.map Value.type).contains (.ref C)) = some false
   congr 1
   induction ts with
   | nil => rfl
   | cons t ts ih => simp
 intro n hn
 simp only [List.mem_cons, List.not_mem_nil, or_false] at hn
 rcases hn with rfl | rfl | rfl | rfl | rfl | rfl | rfl
 · exact go _ ["NoneType", "object"] (by decide +kernel)
 · exact go _ ["bool", "int", "object"] (by decide +kernel)
 · exact go _ ["int", "object"] (by decide +kernel)
 · exact go _ ["str", "object"] (by decide +kernel)
 · exact go _ ["list", "object"] (by decide +kernel)
 · exact go _ ["tuple", "object"] (by decide +kernel)
 · exact go _ ["dict", "object"] (by decide +kernel)
theorem looks_dn {X : Cx} {pins : List (Addr × Obj)} {σ : L2.St} {H : Hp} {s : Shared} {y : V} {u : Value} {d : PyData} (I : Inv X pins σ H s) (r : RelV y u) (h : Dn X.K H y d) :
   ∃ n ∈ ["NoneType", "bool", "int", "str", "list", "tuple", "dict"], ∀ M, PySem.W.Looks M s.heap (typeOf u) (.type n) := by
 refine ⟨tyN d, by cases d <;> simp [tyN], λ M => ?_⟩
 rcases h.ty with z | ⟨a, kvs, rfl, hr, e⟩
 · obtain ⟨P, Z, p, _⟩ := kit_of I r z
   exact Z.ty M _ I.kIn p
 · cases (show u = Value.ref a from r)
   obtain ⟨_, _, vs, _, o, es, ep, h1, h2, _⟩ := dk_rd I.hok hr
   rw [e]
   exact PySem.W.kitx_dict.ty M _ I.kIn ⟨o, h1, h2.1⟩
def rCmD (K : Fr) (neg : Bool) (C : Addr) (sp : Sp) : R2 := λ x y H Q => ∃ a d dx fs, x = .ref a /\ H a = some (.ins C dx fs) /\ Dn K H y d /\ sp [.ref a, y] H (λ v H' => ∃ r : Bool, v = .bl r /\ Q (.bl (if neg then !r else r)) H') (λ _ _ _ => False)
theorem op_eqD {X : Cx} {g : Bool} {k : Nat} {C f : Addr} {fd : FuncData} {ps : List Str} {sp : Sp} (hm : Meth X.K C "__eq__" f) (F : FnX g X.prog X.w X.K X.mg X.base CX0 k f fd ps sp) (hgu : g = true -> X.A.guards = some []) (hr : Room k X.A) (hb : Binds X.K fd ps []) : OpR X (compareOp .Eq) (rCmD X.K false C sp) := by
 intro pins s σ H x y v u Q I rx ry hq
 obtain ⟨a, d, dx, fs, rfl, ha, hd, hq⟩ := hq
 cases rx
 obtain ⟨mA, J, _⟩ := ins_get I.hok ha
 obtain ⟨od, J, _⟩ := J.look
 obtain ⟨m, hF⟩ := I.fr
 obtain ⟨n, hn, hl⟩ := looks_dn I ry hd
 show wpAny (model X.prog X.w) X.A (richCompare .Eq (.ref a) u) (EP X pins σ Q) X.xe s
 refine PySem.W.cmp_K (op := .Eq) (tb := .type n) hr.units0 hF I.ok.mod.kin J (hl _) (by unfold PySem.W.notFirst; rw [sub_bt n hn]; simp) hm.at_ hm.fn ?_
 refine wpAny_mono (runW (us := [.ref a, u]) (vs := [.ref a, y]) F hgu hr hb .nil pas0 I (.cons rfl (.cons ry .nil)) hq) (λ w s' z => ?_) λ _ _ x => x
 obtain ⟨y, H', I', ry, r, rfl, q⟩ := z
 cases ry
 exact ⟨.bl r, H', I', rfl, q⟩
theorem op_neD {X : Cx} {g : Bool} {k : Nat} {C f : Addr} {fd : FuncData} {ps : List Str} {sp : Sp} (hm : Meth X.K C "__eq__" f) (hmr : PySem.W.mroIn X.K C (.type "object") = some true)
   (hne : PySem.W.findIn X.K (.ref C) "__ne__" = some (some (.builtin "object.__ne__"))) (F : FnX g X.prog X.w X.K X.mg X.base CX0 k f fd ps sp) (hgu : g = true -> X.A.guards = some []) (hr : Room (k + 1) X.A) (hb : Binds X.K fd ps []) : OpR X (compareOp .NotEq) (rCmD X.K true C sp) := by
 intro pins s σ H x y v u Q I rx ry hq
 obtain ⟨a, d, dx, fs, rfl, ha, hd, hq⟩ := hq
 cases rx
 obtain ⟨mA, J, _⟩ := ins_get I.hok ha
 obtain ⟨od, J, _⟩ := J.look
 obtain ⟨m, hF⟩ := I.fr
 obtain ⟨n, hn, hl⟩ := looks_dn I ry hd
 show wpAny (model X.prog X.w) X.A (richCompare .NotEq (.ref a) u) (EP X pins σ Q) X.xe s
 refine cmpNe_K (tb := .type n) (by have := hr.units; omega) hF I.ok.mod.kin J (hl _) (by unfold PySem.W.notFirst; rw [sub_bt n hn]; simp) hmr hne hm.at_ hm.fn ?_
 have e0 : Env0 X.prog X.w X.K X.mg X.base X.A.in1 X.stack s H := by
   have e := I.env0
   exact ⟨e.frames, e.mod, e.bs, e.bsz, e.funs, e.frf, e.hok, e.bare⟩
 have hl := F.lenG _ _ _ _ hq
 have go := F.runG X.A.in1 X.stack s _ ⟨[.ref a, u], []⟩ _ [.ref a, u] [.ref a, y] _ _ hgu hr.in1 e0 (by simpa using hb s [.ref a, u] I.kIn (by simpa using hl)) (.refl _) (.cons rfl (.cons ry .nil)) hq
 refine wpAny_call (codeAny_mono go λ res s' z => ?_)
 match res, z with
 | .error e, z => exact z.elim
 | .ok (.ret u), z =>
   obtain ⟨y, H', I', ry, r, rfl, q⟩ := I.after z
   cases ry
   exact ⟨r, rfl, .bl (!r), H', I', rfl, q⟩
 | .ok .next, z => cases z
 | .ok .brk, z => cases z
 | .ok .cont, z => cases z
def uEqI (K : Fr) (C : Addr) (sp : Sp) : R2 := λ x y H Q => rEqM C sp x y H Q \/ rCmD K false C sp x y H Q
def uNeI (K : Fr) (C : Addr) (sp : Sp) : R2 := λ x y H Q => rNeM C sp x y H Q \/ rCmD K true C sp x y H Q
theorem op_eqI {X : Cx} {g : Bool} {k : Nat} {C f : Addr} {fd : FuncData} {ps : List Str} {sp : Sp} (hm : Meth X.K C "__eq__" f) (F : FnX g X.prog X.w X.K X.mg X.base CX0 k f fd ps sp) (hgu : g = true -> X.A.guards = some []) (hr : Room k X.A) (hb : Binds X.K fd ps []) : OpR X (compareOp .Eq) (uEqI X.K C sp) := (op_eqM hm F hgu hr hb).or (op_eqD hm F hgu hr hb)
theorem op_neI {X : Cx} {g : Bool} {k : Nat} {C f : Addr} {fd : FuncData} {ps : List Str} {sp : Sp} (hm : Meth X.K C "__eq__" f) (hmr : PySem.W.mroIn X.K C (.type "object") = some true)
   (hne : PySem.W.findIn X.K (.ref C) "__ne__" = some (some (.builtin "object.__ne__"))) (F : FnX g X.prog X.w X.K X.mg X.base CX0 k f fd ps sp) (hgu : g = true -> X.A.guards = some []) (hr : Room (k + 1) X.A) (hb : Binds X.K fd ps []) : OpR X (compareOp .NotEq) (uNeI X.K C sp) := (op_neM hm hmr hne F hgu hr hb).or (op_neD hm hmr hne F hgu hr hb)
theorem chMo_ok {K : Fr} {x : Str} (h : chMo K x = true) : PySem.W.mroIn K (He.ga K x) (.type "object") = some true := of_decide_eq_true h
theorem chNe_ok {K : Fr} {x : Str} (h : chNe K x = true) : PySem.W.findIn K (.ref (He.ga K x)) "__ne__" = some (some (.builtin "object.__ne__")) := by
 unfold chNe at h
 split at h
 · rename_i n e
   rw [e, of_decide_eq_true h]
 · cases h
end RC

namespace RC
open PySem PySem.Spec PyProof.Rows L2
section
variable {σ : L2.St} {H : Hp} {Q : VK} {R : Str -> Hp -> Prop} {t : TE} {ts : List TE} {acc y : Str} {i : Int}
end
end RC

namespace RC
open PySem PySem.Spec PyProof.Rows L2
end RC

namespace RC
open PySem PySem.Spec PyProof.Rows L2 HT
section
variable {prog : Program} {w : World} {A : Around} {E : Value -> Shared -> Prop} {s : Shared}
end
section
variable {α : Type} {K : Fr} {Rs : List Res} {H : Hp} {σ : L2.St} {Q : VK} {v : V} {e : α -> PyData} {xs : List α} {te : TE}
end
end RC

namespace RC
open PySem PySem.Spec PyProof.Rows L2
open PyProof.Rows.KTD (TabOf Rows datumAt tabLook tab_of_look kt_dictFind_strs)
section
variable {X : Cx}
end
section
variable {δ : Type} {K : Fr} {R : δ -> V -> Prop} {x : Str} {D : List (Str × δ)}
end
section
variable {prog : Program} {w : World} {A : Around} {E : Value -> Shared -> Prop} {s : Shared} {a : Addr} {δ : Type} {R : δ -> Value -> Prop} {D : List (Str × δ)} {k : Str} {tk : Tok}
end
section
variable {X : Cx} {δ : Type} {R : δ -> V -> Prop} {a : Addr} {D : List (Str × δ)} {x : Str} {p apos cpos : Pos} {e : Expr} {ty : TE}
end
structure CallF (X : Cx) (E : XK) (f : Addr) (sp : Sp) : Prop where
 keep : PySem.W.keepIn X.K (.ref f) = true
 run : ∀ (pins : List (Addr × Obj)) (σ : L2.St) (H : Hp) (s : Shared) (Q : VK) (us : List Value) (vs : List V), Inv X pins σ H s -> Vals vs us -> sp vs H Q E -> wpAny (model X.prog X.w) X.A (call (.ref f) us) (EP X pins σ Q) X.xe s
section
variable {X : Cx}
end
section
variable {K : Fr} {Rs : List Res} {H : Hp} {Q : VK} {a : Addr}
end
end RC

namespace RC
open PySem PySem.Spec PyProof.Rows L2
section
variable {K : Fr} {Rs : List Res} {H : Hp} {Q : VK} {v : V}
end
section
variable {X : Cx} {o e : Expr} {to te : TE}
end
section
variable {K : Fr} {Rs : List Res} {H : Hp} {Q : VK} {v w : V}
end
end RC

namespace RC
open PySem PySem.Spec PyProof.Rows L2
open Sem (wp) in
section
variable {α β : Type} {e : α -> PyData} {K : Fr} {σ : L2.St} {H : Hp} {D : Ends} {v : V} {xs : List α}
end
end RC

namespace RC
open PySem PySem.Spec PyProof.Rows L2
section
variable {K : Fr} {Rs Rs2 : List Res} {R : Res} {H : Hp} {Q : VK} {v w : V}
mutual
theorem od_dq {F F' : Hp} (e : Ext F F') : ∀ {x : OD} {v : V} {c : List Cell}, (odR K v x).on F c -> (∀ q ∈ c, F' q.1 = some q.2) -> Dq K F' v x.fgt
 | .fz d, v, c, h, _ => Dq_ext e h.2
 | .ol l, v, c, h, g => by
   obtain ⟨p, rfl, vs, c1, c2, rfl, rfl, h2⟩ := h
   exact .lst (.inl (.inl (g (p, .lst vs) (List.mem_append_left _ (List.mem_singleton.mpr rfl))))) (ods_dq e h2 λ q hq => g q (List.mem_append_right _ hq))
 | .ot l, v, c, h, g => by
   obtain ⟨p, rfl, vs, c1, c2, rfl, rfl, h2⟩ := h
   exact .tup (.inl (.inl (g (p, .tup vs) (List.mem_append_left _ (List.mem_singleton.mpr rfl))))) (ods_dq e h2 λ q hq => g q (List.mem_append_right _ hq))
theorem ods_dq {F F' : Hp} (e : Ext F F') : ∀ {l : List OD} {vs : List V} {c : List Cell}, (odRs K vs l).on F c -> (∀ q ∈ c, F' q.1 = some q.2) -> DqAll K F' vs (OD.fgtAll l)
 | [], [], _, _, _ => .nil
 | x :: xs, v :: vs, c, h, g => by
   obtain ⟨c1, c2, rfl, h1, h2⟩ := h
   exact .cons (od_dq e h1 λ q hq => g q (List.mem_append_left _ hq)) (ods_dq e h2 λ q hq => g q (List.mem_append_right _ hq))
 | _ :: _, [], _, h, _ => h.1.elim
 | [], _ :: _, _, h, _ => h.1.elim
end
end
section
variable {α β γ : Type} {K : Fr} {B : V -> β -> Res} {Rs : List Res} {H : Hp} {Q : VK} {σ : L2.St} {a b : Addr} {f1 f2 : Bool} {vs us : List V} {xs : List α} {ys : List γ}
end
end RC

namespace RC
open PySem PySem.Spec PyProof.Rows L2
section
variable {K : Fr} {Rs : List Res} {H : Hp} {κ α : Type} {A : V -> α -> Res} {e : α -> PyData} {ik : κ -> Key} {p : Addr} {m : List (κ × α)} {od : Obj} {kvs : List (Key × V)}
def Free (R : Res) : Prop := ∀ F F' l, R.on F l -> R.on F' l
theorem Free.pt {a : Addr} {o : HO} : Free (pt a o) := λ _ _ _ h => h
theorem ints_any {F F' : Hp} : ∀ {vs : List V} {ns : List Int}, DqAll K F vs (ns.map eI) -> DqAll K F' vs (ns.map eI)
 | _, [], .nil => .nil
 | _, n :: ns, .cons h r => by
   cases h
   exact .cons (.int n) (ints_any r)
theorem Free.ints {E : Addr} {ns : List Int} : Free (acR K E (ns.map eI)) := λ F F' l h => by
 obtain ⟨vs, c1, c2, e, a, h2⟩ := h
 exact ⟨vs, c1, c2, e, a, h2.1, ints_any h2.2⟩
def FreeA (Rs : List Res) : Prop := ∀ R ∈ Rs, Free R
theorem Sat.free {F F' : Hp} : ∀ {Rs : List Res} {l : List Cell}, FreeA Rs -> Sat F Rs l -> Sat F' Rs l
 | [], _, _, h => h
 | R :: Rs, _, g, ⟨l1, l2, e, a, b⟩ => ⟨l1, l2, e, g R List.mem_cons_self _ _ _ a, Sat.free (λ S hS => g S (List.mem_cons_of_mem _ hS)) b⟩
theorem Sat.app {F : Hp} {Rs2 : List Res} : ∀ {Rs1 : List Res} {l1 l2 : List Cell}, Sat F Rs1 l1 -> Sat F Rs2 l2 -> Sat F (Rs1 ++ Rs2) (l1 ++ l2)
 | [], l1, l2, h1, h2 => by
   have : l1 = [] := h1
   subst this
   exact h2
 | R :: Rs1, l1, l2, ⟨a, b, e, x, y⟩, h2 => by
   subst e
   exact ⟨a, b ++ l2, by rw [List.append_assoc], x, Sat.app y h2⟩
end
end RC

namespace RC
open PySem PySem.Spec PyProof.Rows L2
section
variable {K : Fr} {κ κ2 α γ : Type} [DecidableEq κ] [DecidableEq κ2] {ik : κ -> Key} {A : V -> α -> Res} {Rs : List Res} {H : Hp} {Q : VK} {σ : L2.St} {p : Addr} {m : List (κ × α)}
theorem dc_dv {tk tv td : TE} {tt : TT} {g : TG} {ws : List Nat} {sv : κ -> V} {F : κ -> List (κ2 × γ) -> (Option (κ2 × γ) -> Prop) -> Prop} {KK : List (κ2 × γ) -> Prop} (AR : Addr -> List (κ2 × γ) -> Res) (hnew : ∀ (Rs : List Res) E H, M (pt E (.dK []) :: Rs) H -> M (AR E [] :: Rs) H)
   (hsv : ∀ q, kV (ik q) = sv q) (hf : (ks m).length <= 100000 /\ dcD F (ks m) [] KK) (S : M (dvR ik A p m :: Rs) H)
   (htd : ∀ od kvs H' (Q' : VK), M (dvL ik A p od kvs m :: Rs) H' -> Q' (.ref p) H' -> td σ H' Q')
   (hs : ∀ od kvs x (acc : List (κ2 × γ)) E H (kk : Option (κ2 × γ) -> Prop) (N : Hp -> Prop), acc.length < 100000 -> M (AR E acc :: dvL ik A p od kvs m :: Rs) H -> F x acc kk ->
     (∀ q H, kk (some q) -> M (AR E (pk acc q.1 q.2) :: dvL ik A p od kvs m :: Rs) H -> N H) -> (∀ H, kk none -> M (AR E acc :: dvL ik A p od kvs m :: Rs) H -> N H) -> g (sv x) (wipe σ ws) H λ σ2 H2 => wipe σ2 ws = wipe σ ws /\ tt σ2 H2 λ b H3 =>
     if b = true then tk σ2 H3 λ y H4 => tv σ2 H4 (DcK N E y) else N H3)
   (hd : ∀ E (acc : List (κ2 × γ)) H, KK acc -> M (AR E acc :: dvR ik A p m :: Rs) H -> Q (.ref E) H) : tLkE (tDc (iKeys td) g tt tk tv ws) σ H Q := by
 obtain ⟨kvs, hp, hk, lk_⟩ := dv_lock S
 refine .inr ⟨p, .dK kvs, hp, trivial, λ od => ?_⟩
 have S1 := lk_ od
 refine htd od kvs _ _ S1 ⟨p, od, rfl, .inl ⟨kvs, dvL_frz S1, ?_⟩⟩
 refine dc_fz (Q := λ v H' => H' p = some (.frz od (.dK kvs)) /\ Q v (upd H' p (.dK kvs))) AR hnew hsv hk hf S1 (λ _ S => dvL_frz S) (λ x acc E H kk N h1 h2 h3 h4 h5 => hs od kvs x acc E H kk N h1 h2 h3 h4 h5) ?_
 intro E acc H hK S
 obtain ⟨a, b⟩ := dv_unlock (M.at S 1 rfl)
 exact ⟨a, hd E acc _ hK (M.at b 1 rfl)⟩
end
theorem merge_nd : ∀ {kvs acc : List (Key × V)}, ((acc ++ kvs).map (·.1)).Nodup -> mergeK acc kvs = acc ++ kvs
 | [], acc, _ => by
   show acc = _
   rw [List.append_nil]
 | (k, v) :: kvs, acc, h => by
   show mergeK (putK acc k v) kvs = _
   have nk : (acc.any λ kv => decide (kv.1 = k)) = false := by
     rw [List.any_eq_false]
     intro q hq z
     rw [List.map_append, List.nodup_append] at h
     exact h.2.2 q.1 (List.mem_map.mpr ⟨q, hq, rfl⟩) k (by simp) (of_decide_eq_true z)
   have e : putK acc k v = acc ++ [(k, v)] := by
     unfold putK
     rw [if_neg (by rw [nk]; decide)]
   rw [e, merge_nd (by rw [List.append_assoc]; exact h), List.append_assoc]
   rfl
section
variable {K : Fr} {α : Type} {B : V -> α -> Res} {H : Hp} {Q : VK}
theorem pairs_open : ∀ {vs : List V} {ps : List (Str × α)} {Rs : List Res}, M (starR (vr (tuR (qcR (vrD K eS) (q1R B)))) vs ps :: Rs) H ->
   ∃ (as : List Addr) (kvs : List (Key × V)), vs = as.map V.ref /\ Paired (λ p kv => SqT K H p [kV kv.1, kv.2]) as kvs /\ M (starK iS B kvs ps :: Rs) H
 | [], [], Rs, S => ⟨[], [], rfl, .nil, S⟩
 | v :: vs, x :: ps, Rs, S => by
   have S1 : M (vr (tuR (qcR (vrD K eS) (q1R B))) v x :: starR (vr (tuR (qcR (vrD K eS) (q1R B)))) vs ps :: Rs) H := S.sp
   obtain ⟨p, rfl, S2⟩ := S1.vrO
   obtain ⟨us, S3⟩ := S2.ex
   have S4 := S3.sp
   have S5 : M (qcR (vrD K eS) (q1R B) us x :: pt p (.tup us) :: starR (vr (tuR (qcR (vrD K eS) (q1R B)))) vs ps :: Rs) H := M.at S4 1 rfl
   obtain ⟨u, S6⟩ := S5.ex
   obtain ⟨us2, S7⟩ := S6.ex
   obtain ⟨rfl, S8⟩ := S7.pr
   have S9 := S8.sp
   have eu : u = .str x.1 := (S9.gotA 0 rfl).strV
   subst eu
   have S10 : M (q1R B us2 x.2 :: pt p (.tup (.str x.1 :: us2)) :: starR (vr (tuR (qcR (vrD K eS) (q1R B)))) vs ps :: Rs) H := S9.tl
   obtain ⟨w, S11⟩ := S10.ex
   obtain ⟨rfl, S12⟩ := S11.pr
   have hp : H p = some (.tup [.str x.1, w]) := S12.got 1 rfl
   have S13 : M (starR (vr (tuR (qcR (vrD K eS) (q1R B)))) vs ps :: B w x.2 :: Rs) H := M.sub (.cons 2 rfl (.cons 0 rfl (.tl (.refl _)))) S12
   obtain ⟨as, kvs, rfl, h1, S14⟩ := pairs_open S13
   refine ⟨p :: as, (iS x.1, w) :: kvs, rfl, .cons (.inl (.inl hp)) h1, ?_⟩
   have S15 : M (B w x.2 :: starK iS B kvs ps :: Rs) H := M.sub (.cons 1 rfl (.refl _)) S14
   exact M.sp' (M.pr' rfl S15)
 | [], _ :: _, _, S => (S.pr).1.elim
 | _ :: _, [], _, S => (S.pr).1.elim
theorem v_dictDV {a : Addr} {ps : List (Str × α)} {Rs : List Res} (S : M (lsR (vr (tuR (qcR (vrD K eS) (q1R B)))) a ps :: Rs) H) (nd : (ks ps).Nodup) (k : ∀ p H', M (dvR iS B p ps :: Rs) H' -> Q (.ref p) H') : rDictP K [.ref a] H Q := by
 obtain ⟨vs, S1⟩ := S.ex
 have S2 : M (starR (vr (tuR (qcR (vrD K eS) (q1R B)))) vs ps :: pt a (.lst vs) :: Rs) H := M.at S1.sp 1 rfl
 obtain ⟨as, kvs, rfl, h1, S3⟩ := pairs_open S2
 refine ⟨a, as, kvs, rfl, SqL.of (S3.got 1 rfl), h1, λ p hp => k p _ ?_⟩
 have hk := starK_keys S3
 have e : mergeK [] kvs = kvs := by
   refine merge_nd ?_
   rw [List.nil_append, hk]
   exact nd_map (λ a b z => by injection z) nd
 rw [e]
 have S4 := S3.new (o := .dK kvs) hp
 have S5 : M (pt p (.dK kvs) :: starK iS B kvs ps :: Rs) _ := M.sub (.cons 0 rfl (.cons 0 rfl (.tl (.refl _)))) S4
 exact M.ex' kvs (M.pr' nd S5.sp')
end
section
variable {α β : Type} {e : α -> PyData} {sv : α -> V} {K : Fr} {B : V -> β -> Res} {σ : L2.St} {H : Hp} {Q : VK} {Rs : List Res} {v : V} {xs : List α}
theorem lo_N (f : Fl e sv) {te : TE} {tt : TT} {g : TG} {ws : List Nat} {F : α -> (Option β -> Prop) -> Prop} {KK : List β -> Prop} (hf : xs.length <= 100000 /\ lcD F xs [] KK) (S : M Rs H) (hrd : ∀ H, M Rs H -> Dq K H v (eL e xs))
   (hs : ∀ x (acc : List β) E H (kk : Option β -> Prop) (N : Hp -> Prop), acc.length < 100000 -> M (lsR B E acc :: Rs) H -> F x kk ->
     (∀ y H, kk (some y) -> M (lsR B E (acc ++ [y]) :: Rs) H -> N H) -> (∀ H, kk none -> M (lsR B E acc :: Rs) H -> N H) -> g (sv x) (wipe σ ws) H λ σ2 H2 => wipe σ2 ws = wipe σ ws /\ tt σ2 H2 λ b H3 =>
     if b = true then te σ2 H3 (LcK N E) else N H3)
   (hd : ∀ E (acc : List β) H, KK acc -> M (lsR B E acc :: Rs) H -> Q (.ref E) H) : ItL K (λ J H1 => LcW J g tt te ws σ Q H1) v H := by
 obtain ⟨a, rfl, h⟩ := f.lst (hrd H S)
 refine v_itL h (lo_lst (K := K) (e := e) hf S (λ H S => ⟨?_, f.ofA xs⟩) (λ i v x acc E H kk N hl S hv hx hF k1 k2 => ?_) hd)
 · obtain ⟨b, eb, q⟩ := f.lst (hrd H S)
   cases eb
   exact q
 · rw [List.getElem?_map, hx] at hv
   cases hv
   exact hs x acc E H kk N hl S hF k1 k2
end
def rEqE : R2 := λ x y H Q => ∃ a b ks, x = .ref a /\ y = .ref b /\ Rd H a (.dK ks) /\ Rd H b (.dK []) /\ Q (.bl ks.isEmpty) H
theorem op_eqE {X : Cx} (hu : X.A.units < cLine) : OpR X (compareOp .Eq) rEqE := by
 intro pins s σ H x y v u Q I rx ry h
 obtain ⟨a, b, ks, rfl, rfl, ha, hb, q⟩ := h
 cases rx
 cases ry
 obtain ⟨_, na, wa, ka, oa⟩ := dk_rd I.hok ha
 obtain ⟨_, nb, wb, kb, ob⟩ := dk_rd I.hok hb
 cases kb
 refine PySem.W.rcP_dicts (r := true) na nb oa ob hu (λ hl => ?_) _ _ ?_
 · have : wa = [] := List.eq_nil_of_length_eq_zero hl
   subst this
   exact .nil
 · refine ⟨.bl _, H, I, rfl, ?_⟩
   have e : (wa.length == ([] : List (Key × Value)).length && true) = ks.isEmpty := by
     have := ka.length
     cases ks with
     | nil =>
       have : wa = [] := List.eq_nil_of_length_eq_zero (by simpa using this.symm)
       subst this
       rfl
     | cons x r =>
       cases wa with
       | nil => simp at this
       | cons y r => simp
   rw [e]
   exact q
section
variable {K : Fr} {α κ : Type} {ik ik' : κ -> Key} {e e' : α -> PyData} {Rs : List Res} {H : Hp} {Q : VK} {v : V} {p : Addr} {m : List (κ × α)}
theorem v_eqE (D : DVs K Rs H ik e v m) (S : M Rs H) (j : Nat) (hj : Rs[j]? = some (adR K ik' e' p [])) (k : Q (.bl m.isEmpty) H) : rEqE v (.ref p) H Q := by
 obtain ⟨a, kvs, F, L, rfl, h, s, mm, t⟩ := D
 obtain ⟨kv2, h2, t2⟩ := S.gotDk j hj
 cases t2
 refine ⟨a, p, kvs, rfl, rfl, h, .inl h2, ?_⟩
 cases t with
 | nil => exact k
 | cons _ _ => exact k
end
end RC

namespace RC
open PySem PySem.Spec PyProof.Rows L2
@[reducible] def oo2 {a0 a1 : Res} (r : List Res) : List Res := a0 :: a1 :: r
@[reducible] def oo3 {a0 a1 a2 : Res} (r : List Res) : List Res := a0 :: a1 :: a2 :: r
@[reducible] def oo4 {a0 a1 a2 a3 : Res} (r : List Res) : List Res := a0 :: a1 :: a2 :: a3 :: r
@[reducible] def oo5 {a0 a1 a2 a3 a4 : Res} (r : List Res) : List Res := a0 :: a1 :: a2 :: a3 :: a4 :: r
@[reducible] def oo6 {a0 a1 a2 a3 a4 a5 : Res} (r : List Res) : List Res := a0 :: a1 :: a2 :: a3 :: a4 :: a5 :: r
@[reducible] def oo7 {a0 a1 a2 a3 a4 a5 a6 : Res} (r : List Res) : List Res := a0 :: a1 :: a2 :: a3 :: a4 :: a5 :: a6 :: r
@[reducible] def oo8 {a0 a1 a2 a3 a4 a5 a6 a7 : Res} (r : List Res) : List Res := a0 :: a1 :: a2 :: a3 :: a4 :: a5 :: a6 :: a7 :: r
@[reducible] def oo9 {a0 a1 a2 a3 a4 a5 a6 a7 a8 : Res} (r : List Res) : List Res := a0 :: a1 :: a2 :: a3 :: a4 :: a5 :: a6 :: a7 :: a8 :: r
@[reducible] def oo10 {a0 a1 a2 a3 a4 a5 a6 a7 a8 a9 : Res} (r : List Res) : List Res := a0 :: a1 :: a2 :: a3 :: a4 :: a5 :: a6 :: a7 :: a8 :: a9 :: r
@[reducible] def oo11 {a0 a1 a2 a3 a4 a5 a6 a7 a8 a9 a10 : Res} (r : List Res) : List Res := a0 :: a1 :: a2 :: a3 :: a4 :: a5 :: a6 :: a7 :: a8 :: a9 :: a10 :: r
@[reducible] def oo12 {a0 a1 a2 a3 a4 a5 a6 a7 a8 a9 a10 a11 : Res} (r : List Res) : List Res := a0 :: a1 :: a2 :: a3 :: a4 :: a5 :: a6 :: a7 :: a8 :: a9 :: a10 :: a11 :: r
@[reducible] def oo13 {a0 a1 a2 a3 a4 a5 a6 a7 a8 a9 a10 a11 a12 : Res} (r : List Res) : List Res := a0 :: a1 :: a2 :: a3 :: a4 :: a5 :: a6 :: a7 :: a8 :: a9 :: a10 :: a11 :: a12 :: r
@[reducible] def oo14 {a0 a1 a2 a3 a4 a5 a6 a7 a8 a9 a10 a11 a12 a13 : Res} (r : List Res) : List Res := a0 :: a1 :: a2 :: a3 :: a4 :: a5 :: a6 :: a7 :: a8 :: a9 :: a10 :: a11 :: a12 :: a13 :: r
local macro_rules | `(tactic| walk_at "S") => `(tactic| assumption)
local macro_rules | `(tactic| walk_at "hp") => `(tactic| first
 | assumption
 | exact M.got (by assumption) 0 rfl | exact M.got (by assumption) 1 rfl | exact M.got (by assumption) 2 rfl | exact M.got (by assumption) 3 rfl | exact M.got (by assumption) 4 rfl
 | exact M.got (by assumption) 5 rfl | exact M.got (by assumption) 6 rfl | exact M.got (by assumption) 7 rfl | exact M.got (by assumption) 8 rfl
 | exact M.gotF (by assumption) 0 rfl | exact M.gotF (by assumption) 1 rfl | exact M.gotF (by assumption) 2 rfl | exact M.gotF (by assumption) 3 rfl | exact M.gotF (by assumption) 4 rfl
 | exact M.gotF (by assumption) 5 rfl | exact M.gotF (by assumption) 6 rfl | exact M.gotF (by assumption) 7 rfl | exact M.gotF (by assumption) 8 rfl)
local macro_rules | `(tactic| walk_at "sl") => `(tactic| first
 | assumption
 | exact SqL.of (by walk_at "hp")
 | exact M.gotR (by assumption) 0 rfl | exact M.gotR (by assumption) 1 rfl | exact M.gotR (by assumption) 2 rfl | exact M.gotR (by assumption) 3 rfl)
local macro_rules | `(tactic| walk_at "mul") => `(tactic| first
 | exact Or.inl (Or.inr ⟨by decide, by decide⟩) | exact Or.inl (Or.inl ⟨by decide, by decide⟩) | exact Or.inl (Or.inr ⟨by omega, by omega⟩) | exact Or.inl (Or.inl ⟨by omega, by omega⟩))
local macro_rules | `(tactic| walk_at "sq") => `(tactic| first | assumption | exact SqT.of (by walk_at "hp"))
local macro_rules | `(tactic| walk_at "sts") => `(tactic| first
 | with_reducible refine g_asg ?_
 | with_reducible refine g_asgX ?_
 | with_reducible refine g_drop ?_
 | with_reducible refine g_ret ?_
 | with_reducible refine g_retN ?_
 | with_reducible refine g_if ?_
 | with_reducible refine g_next ?_
 | with_reducible refine g_bk ?_
 | with_reducible refine g_ct ?_
 | with_reducible refine g_augS ?_
 | with_reducible refine g_for ?_
 | with_reducible refine g_while ?_
 | with_reducible refine g_par ?_
 | ((with_reducible refine' g_aug ?hh ?kk); (case hh => exact rfl)))
local macro_rules | `(tactic| walk_at "ev1") => `(tactic| first
 | with_reducible refine g_rt ?_
 | with_reducible refine g_lc ?_
 | with_reducible refine g_iList ?_
 | with_reducible refine g_iRng1 ?_
 | with_reducible refine g_iRev ?_
 | with_reducible refine g_yes ?_
 | ((with_reducible refine' g_wipe ?hh ?kk); (case hh => exact rfl))
 | with_reducible refine g_name ?_
 | ((with_reducible refine' g_var ?hh ?kk); (case hh => exact rfl))
 | with_reducible refine g_c ?_
 | with_reducible refine g_op ?_
 | with_reducible refine g_un ?_
 | with_reducible refine g_nil ?_
 | with_reducible refine g_cons ?_
 | with_reducible refine g_cb ?_
 | with_reducible refine g_call ?_
 | with_reducible refine g_lst ?_
 | with_reducible refine g_tup ?_
 | with_reducible refine g_test ?_
 | with_reducible refine g_B ?_
 | with_reducible refine g_bl ?_
 | with_reducible refine g_int ?_
 | with_reducible refine g_and ?_
 | with_reducible refine g_or ?_
 | with_reducible refine g_not ?_
 | with_reducible refine g_andV ?_
 | with_reducible refine g_orV ?_
 | with_reducible refine g_notV ?_
 | with_reducible refine g_ifE ?_
 | with_reducible refine g_chain ?_
 | with_reducible refine g_sub ?_
 | with_reducible refine g_sl ?_
 | with_reducible refine g_noPart ?_
 | with_reducible refine g_part ?_
 | with_reducible refine g_rev ?_
 | with_reducible refine g_bm ?_
 | with_reducible refine g_bm0 ?_
 | with_reducible refine v_add ?_
 | with_reducible refine v_sub ?_
 | with_reducible refine v_iadd ?_
 | with_reducible refine v_isub ?_
 | with_reducible refine v_lt ?_
 | with_reducible refine v_le ?_
 | with_reducible refine v_gt ?_
 | with_reducible refine v_ge ?_
 | with_reducible refine v_eqI ?_
 | with_reducible refine v_neI ?_
 | with_reducible refine v_eqS ?_
 | with_reducible refine v_eqB ?_
 | with_reducible refine v_neB ?_
 | ((with_reducible refine' v_mod ?hh ?kk); (case hh => first | decide | omega))
 | ((with_reducible refine' v_mul ?hh ?kk); (case hh => walk_at "mul"))
 | ((with_reducible refine' v_imul ?hh ?kk); (case hh => first | exact Or.inr ⟨by decide, by decide⟩ | exact Or.inl ⟨by decide, by decide⟩ | exact Or.inr ⟨by omega, by omega⟩ | exact Or.inl ⟨by omega, by omega⟩))
 | ((with_reducible refine' v_div ?hh ?kk); (case hh => first | decide | exact ⟨by omega, by omega⟩))
 | ((with_reducible refine' v_divB ?hh ?kk); (case hh => first | decide | exact ⟨by omega, by omega⟩))
 | ((with_reducible refine' v_idiv ?hh ?kk); (case hh => first | exact ⟨by decide, by decide⟩ | exact ⟨by omega, by omega⟩))
 | ((with_reducible refine' v_ixL ?hs ?hh ?kk); (case hs => walk_at "sl"); (case hh => exact rfl))
 | ((with_reducible refine' v_ixT ?hs ?hh ?kk); (case hs => walk_at "sq"); (case hh => exact rfl))
 | ((with_reducible refine' v_get ?hs ?h0 ?hh ?kk); (case hs => walk_at "sl"); (case h0 => decide); (case hh => exact rfl))
 | ((with_reducible refine' v_lenL ?hs ?kk); (case hs => walk_at "sl"))
 | ((with_reducible refine' v_pow ?hh ?kk); (case hh => decide +kernel))
 | with_reducible refine v_abs ?_
 | with_reducible refine v_neg ?_
 | with_reducible refine v_isN ?_
 | with_reducible refine v_notN ?_
 | with_reducible refine v_two ?_
 | with_reducible refine g_callN ?_
 | ((with_reducible refine' v_lens ?h1 ?h2 ?kk); (case h1 => exact rfl); (case h2 => exact rfl))
 | ((with_reducible refine' g_gtup ?h1 ?h2 ?kk); (case h1 => walk_at "sq"); (case h2 => exact rfl))
 | with_reducible refine g_gcons ?_
 | with_reducible refine g_gnil ?_
 | with_reducible refine v_ifNT ?_
 | with_reducible refine v_ifNF ?_
 | with_reducible refine v_ifT ?_
 | with_reducible refine v_ifF ?_)
local macro_rules | `(tactic| walk_at "ev") => `(tactic| repeat walk_at "ev1")
local macro_rules | `(tactic| walk_at "nx") => `(tactic| repeat with_reducible refine g_nx ?_)
local macro_rules | `(tactic| walk_at "st") => `(tactic| ((repeat first | with_reducible refine g_nx ?_ | with_reducible refine g_seq ?_); walk_at "sts"; walk_at "ev"))
local macro_rules | `(tactic| walk_at "go1") => `(tactic| first | with_reducible refine g_nx ?_ | with_reducible refine g_seq ?_ | walk_at "sts" | walk_at "ev1")
local macro_rules | `(tactic| walk_at "go") => `(tactic| repeat walk_at "go1")
local macro_rules | `(tactic| walk_at "sub1") => `(tactic| first
 | exact Sub.refl _ | exact Sub.nil _
 | refine Sub.cons 0 rfl ?_ | refine Sub.cons 1 rfl ?_ | refine Sub.cons 2 rfl ?_ | refine Sub.cons 3 rfl ?_ | refine Sub.cons 4 rfl ?_ | refine Sub.cons 5 rfl ?_ | refine Sub.cons 6 rfl ?_ | refine Sub.cons 7 rfl ?_
 | refine Sub.cons 8 rfl ?_ | refine Sub.cons 9 rfl ?_ | refine Sub.cons 10 rfl ?_ | refine Sub.cons 11 rfl ?_ | refine Sub.cons 12 rfl ?_ | refine Sub.cons 13 rfl ?_ | refine Sub.cons 14 rfl ?_ | refine Sub.cons 15 rfl ?_ | refine Sub.tl ?_)
local macro_rules | `(tactic| walk_at "sub") => `(tactic| (refine M.sub ?_ (by assumption); repeat walk_at "sub1"))
local macro_rules | `(tactic| walk_at "sts") => `(tactic| first
 | with_reducible refine g_sfld ?_
 | with_reducible refine g_rz ?_
 | with_reducible refine g_try ?_)
local macro_rules | `(tactic| walk_at "ev1") => `(tactic| first
 | with_reducible refine g_callW ?_
 | with_reducible refine g_meth ?_
 | with_reducible refine g_make ?_
 | with_reducible refine g_fld ?_
 | with_reducible refine g_dpop ?_
 | with_reducible refine g_callE ?_
 | with_reducible refine g_xg ?_)
abbrev bagO (x y z : Int) (cl : Addr) : HO := .lst [.int x, .int y, .int z, .ref cl]
structure BagOk (x y z : Int) (ns : List Int) : Prop where
 x0 : 0 <= x
 y0 : 0 <= y
 y1 : y < 2147483647
 z0 : 0 <= z
 nn : ∀ n ∈ ns, (0 : Int) <= n
def bagR (bag : Addr) : Res := exi λ (b : Int × Int × Int × Addr × List Int) => prp (BagOk b.1 b.2.1 b.2.2.1 b.2.2.2.2) (sp2 (pt bag (bagO b.1 b.2.1 b.2.2.1 b.2.2.2.1)) (pt b.2.2.2.1 (.lst (b.2.2.2.2.map V.int))))
theorem bag_open {bag : Addr} {Rs : List Res} {H : Hp} (S : M (bagR bag :: Rs) H) : ∃ x y z cl ns, BagOk x y z ns /\ M (pt bag (bagO x y z cl) :: pt cl (.lst (ns.map V.int)) :: Rs) H := by
 obtain ⟨⟨x, y, z, cl, ns⟩, S⟩ := S.ex
 obtain ⟨ok, S⟩ := S.pr
 exact ⟨x, y, z, cl, ns, ok, S.sp⟩
theorem bag_close {bag cl : Addr} {x y z : Int} {ns : List Int} {Rs : List Res} {H : Hp} (ok : BagOk x y z ns) (S : M (pt bag (bagO x y z cl) :: pt cl (.lst (ns.map V.int)) :: Rs) H) : M (bagR bag :: Rs) H :=
 M.ex' (T := λ (b : Int × Int × Int × Addr × List Int) => prp (BagOk b.1 b.2.1 b.2.2.1 b.2.2.2.2) (sp2 (pt bag (bagO b.1 b.2.1 b.2.2.1 b.2.2.2.1)) (pt b.2.2.2.1 (.lst (b.2.2.2.2.map V.int))))) (x, y, z, cl, ns) (M.pr' ok S.sp')
def sp_l_take (K : Fr) : Sp := λ vs H Q _ => ∃ (Rs : List Res) (bag : Addr) (many : Int), vs = [.ref bag, .int many] /\ M (bagR bag :: Rs) H /\ 0 < many /\ many < 2 ^ 120 /\
 ∀ v H', 0 <= v -> v < many -> M (bagR bag :: Rs) H' -> Q (.int v) H'
abbrev t_l_take_6 (K : Fr) : TS := (tSeq (tIfS (tTest (tOp uGe (tVar 4) (tC (.int 1000000000000000000)))) (tAsg (tVar 4) (gSub (tVar 0) (tC (.int 0)) uSet)) tNext)
 (tAsg (tOp uMod (tOp (uAdd K) (tOp (uAdd K) (tOp uMul (tOp (uIx K) (tVar 0) (tC (.int 1))) (tC (.int 48271))) (tOp uMod (tVar 4) (tC (.int 2147483647)))) (tOp uMul (tC (.int 7919)) (tOp (uIx K) (tVar 0) (tC (.int 2))))) (tC (.int 2147483647))) (gSub (tVar 0) (tC (.int 1)) uSet)))
abbrev t_l_take_5 (K : Fr) : TS := (tSeq (tAugS (tVar 0) (tC (.int 2)) (tC (.int 1)) (gIx K) iAdd uSet)
 (t_l_take_6 K))
abbrev t_l_take_3 (K : Fr) : TS := (tSeq (tIfS (tTest (tOp uLt (tOp (uIx K) (tVar 0) (tC (.int 2))) (tCB (uLen K) (tCons (tOp (uIx K) (tVar 0) (tC (.int 3))) tNil)))) (tAsg (tOp (uIx K) (tOp (uIx K) (tVar 0) (tC (.int 3))) (tOp (uIx K) (tVar 0) (tC (.int 2)))) (gName 4)) tNext)
 (t_l_take_5 K))
abbrev t_l_take_2 (K : Fr) : TS := (tSeq (tAsg (tC (.int 0)) (gName 4))
 (t_l_take_3 K))
abbrev t_l_take_11 (K : Fr) : TS := (tSeq (tAsg (tOp uDiv (tOp (uIx K) (tVar 0) (tC (.int 0))) (tVar 1)) (gSub (tVar 0) (tC (.int 0)) uSet))
 (tRet (tVar 5)))
abbrev t_l_take_10 (K : Fr) : TS := (tSeq (tAsg (tOp uMod (tOp (uIx K) (tVar 0) (tC (.int 0))) (tVar 1)) (gName 5))
 (t_l_take_11 K))
abbrev t_l_take_15 (K : Fr) : TS := (tSeq (tIfS (tTest (tOp uGt (tVar 1) (tC (.int 1000000)))) (tRet (tOp uMod (tOp (uAdd K) (tOp uMul (tVar 3) (tC (.int 1000000007))) (tVar 2)) (tVar 1))) tNext)
 (tRet (tOp uMod (tOp uDiv (tVar 3) (tC (.int 7))) (tVar 1))))
abbrev t_l_take_14 (K : Fr) : TS := (tSeq (tAsg (tOp uMod (tOp uMul (tOp uMod (tOp uMul (tVar 2) (tVar 2)) (tC (.int 998244353))) (tC (.int 30011))) (tC (.int 998244353))) (gName 3))
 (t_l_take_15 K))
abbrev t_l_take_13 (K : Fr) : TS := (tSeq (tAsg (tOp uMod (tOp uMul (tOp (uAdd K) (tOp (uIx K) (tVar 0) (tC (.int 1))) (tC (.int 1))) (tC (.int 39373))) (tC (.int 1000000007))) (gName 2))
 (t_l_take_14 K))
abbrev t_l_take_9 (K : Fr) : TS := (tSeq (tIfS (tTest (tOp uGt (tOp (uIx K) (tVar 0) (tC (.int 0))) (tC (.int 0)))) (t_l_take_10 K) tNext)
 (t_l_take_13 K))
abbrev t_l_take_1 (K : Fr) : TS := (tSeq (tIfS (tTest (tOp (uEq K) (tOp (uIx K) (tVar 0) (tC (.int 0))) (tC (.int 0)))) (t_l_take_2 K) tNext)
 (t_l_take_9 K))
abbrev t_l_take (K : Fr) : TS := (t_l_take_1 K)
theorem take_tail {K : Fr} {Q : VK} {Rs : List Res} {bag cl : Addr} {many x y z : Int} {ns : List Int} {c : Option V} {H : Hp} (m0 : 0 < many) (m1 : many < 2 ^ 120) (ok : BagOk x y z ns)
   (k : ∀ v H', 0 <= v -> v < many -> M (bagR bag :: Rs) H' -> Q (.int v) H') (S : M (pt bag (bagO x y z cl) :: pt cl (.lst (ns.map V.int)) :: Rs) H) :
   t_l_take_9 K { nx := λ _ H' => Q .non H', rt := Q } [some (V.ref bag), some (V.int many), none, none, c, none] H := by
 have x0 := ok.x0
 have y0 := ok.y0
 have y1 := ok.y1
 walk_at "go"
 refine v_ifD (λ h => ?_) (λ h => ?_)
 · walk_at "go"
   refine v_set S 0 rfl rfl λ H' S' => ?_
   have S2 : M (pt bag (bagO (x / many) y z cl) :: pt cl (.lst (ns.map V.int)) :: Rs) H' := S'
   walk_at "go"
   exact k _ _ (Int.emod_nonneg _ (by omega)) (Int.emod_lt_of_pos _ m0) (bag_close ⟨Int.ediv_nonneg x0 (Int.le_of_lt m0), y0, y1, ok.z0, ok.nn⟩ S2)
 · walk_at "go"
   have f0 := Int.emod_nonneg ((y + 1) * 39373) (show (1000000007 : Int) ≠ 0 by decide)
   have f1 := Int.emod_lt_of_pos ((y + 1) * 39373) (show (0 : Int) < 1000000007 by decide)
   walk_at "go"
   have g0 := Int.emod_nonneg ((y + 1) * 39373 % 1000000007 * ((y + 1) * 39373 % 1000000007) % 998244353 * 30011) (show (998244353 : Int) ≠ 0 by decide)
   have g1 := Int.emod_lt_of_pos ((y + 1) * 39373 % 1000000007 * ((y + 1) * 39373 % 1000000007) % 998244353 * 30011) (show (0 : Int) < 998244353 by decide)
   refine v_ifD (λ h => ?_) (λ h => ?_)
   · walk_at "go"
     exact k _ _ (Int.emod_nonneg _ (by omega)) (Int.emod_lt_of_pos _ m0) (bag_close ok S)
   · walk_at "go"
     exact k _ _ (Int.emod_nonneg _ (by omega)) (Int.emod_lt_of_pos _ m0) (bag_close ok S)
theorem take_mid {K : Fr} {Q : VK} {Rs : List Res} {bag cl : Addr} {many y z c : Int} {ns : List Int} {H : Hp} (m0 : 0 < many) (m1 : many < 2 ^ 120) (ok : BagOk 0 y z ns) (c0 : 0 <= c)
   (k : ∀ v H', 0 <= v -> v < many -> M (bagR bag :: Rs) H' -> Q (.int v) H') (S : M (pt bag (bagO 0 y z cl) :: pt cl (.lst (ns.map V.int)) :: Rs) H) :
   t_l_take_5 K { nx := t_l_take_9 K { nx := λ _ H' => Q .non H', rt := Q }, rt := Q } [some (V.ref bag), some (V.int many), none, none, some (.int c), none] H := by
 have y0 := ok.y0
 have y1 := ok.y1
 have z0 := ok.z0
 have fin : ∀ {x : Int} {H' : Hp}, 0 <= x -> M (pt bag (bagO x y (z + 1) cl) :: pt cl (.lst (ns.map V.int)) :: Rs) H' ->
     tAsg (tOp uMod (tOp (uAdd K) (tOp (uAdd K) (tOp uMul (tOp (uIx K) (tVar 0) (tC (.int 1))) (tC (.int 48271))) (tOp uMod (tVar 4) (tC (.int 2147483647)))) (tOp uMul (tC (.int 7919)) (tOp (uIx K) (tVar 0) (tC (.int 2))))) (tC (.int 2147483647))) (gSub (tVar 0) (tC (.int 1)) uSet)
       { nx := t_l_take_9 K { nx := λ _ H' => Q .non H', rt := Q }, rt := Q } [some (V.ref bag), some (V.int many), none, none, some (.int c), none] H' := by
   intro x H' x0 S
   walk_at "go"
   refine v_set S 0 rfl rfl λ H2 S' => ?_
   have S2 : M (pt bag (bagO x ((y * 48271 + c % 2147483647 + 7919 * (z + 1)) % 2147483647) (z + 1) cl) :: pt cl (.lst (ns.map V.int)) :: Rs) H2 := S'
   walk_at "nx"
   exact take_tail m0 m1 ⟨x0, Int.emod_nonneg _ (by decide), Int.emod_lt_of_pos _ (by decide), by omega, ok.nn⟩ k S2
 walk_at "go"
 refine v_set S 0 rfl rfl λ H' S' => ?_
 have S2 : M (pt bag (bagO 0 y (z + 1) cl) :: pt cl (.lst (ns.map V.int)) :: Rs) H' := S'
 walk_at "go"
 refine v_ifD (λ h => ?_) (λ h => ?_)
 · walk_at "go"
   refine v_set S2 0 rfl rfl λ H2 S' => ?_
   have S3 : M (pt bag (bagO c y (z + 1) cl) :: pt cl (.lst (ns.map V.int)) :: Rs) H2 := S'
   exact fin c0 S3
 · walk_at "st"
   exact fin (Int.le_refl 0) S2
theorem len_l_take {K : Fr} (vs : List V) (H : Hp) (Q : VK) (E : XK) (h : sp_l_take K vs H Q E) : vs.length = 2 := by
 obtain ⟨Rs, bag, many, rfl, _⟩ := h
 rfl
theorem pure_l_take {K : Fr} (vs : List V) (H : Hp) (Q : VK) (E : XK) (h : sp_l_take K vs H Q E) : t_l_take K { nx := λ _ H' => Q .non H', rt := Q } (start ["_law_bag_here", "_law_many", "_law_first", "_law_second", "_law_cell", "_law_value"] vs) H := by
 obtain ⟨Rs, bag, many, rfl, S, m0, m1, k⟩ := h
 obtain ⟨x, y, z, cl, ns, ok, S⟩ := bag_open S
 show t_l_take K _ [some (V.ref bag), some (V.int many), none, none, none, none] H
 walk_at "go"
 refine v_ifD (λ h => ?_) (λ h => ?_)
 · subst h
   walk_at "go"
   refine v_ifD (λ h => ?_) (λ h => ?_)
   · rw [List.length_map] at h
     walk_at "go"
     refine v_ixL (SqL.of (S.got 1 rfl)) (atI_ints ok.z0 h) ?_
     walk_at "nx"
     refine take_mid m0 m1 ok ?_ k S
     rw [List.getD_eq_getElem?_getD]
     cases e : ns[z.toNat]? with
     | none => exact Int.le_refl 0
     | some n => exact ok.nn n (List.mem_of_getElem? e)
   · walk_at "st"
     exact take_mid m0 m1 ok (Int.le_refl 0) k S
 · walk_at "st"
   exact take_tail m0 m1 ok k S
def sp_l_bag (K : Fr) : Sp := λ vs H Q _ => ∃ (Rs : List Res) (a : Addr) (ns : List Int), vs = [.ref a] /\ M Rs H /\ Ent Rs (λ H => SqL K H a (ns.map V.int)) /\ ns.length <= 63 /\ ∀ bag H', M (bagR bag :: Rs) H' -> Q (.ref bag) H'
theorem len_l_bag {K : Fr} (vs : List V) (H : Hp) (Q : VK) (E : XK) (h : sp_l_bag K vs H Q E) : vs.length = 1 := by
 obtain ⟨Rs, a, ns, rfl, _⟩ := h
 rfl
abbrev t_l_bag (K : Fr) : TS := (tRet (tLst (tCons (tC (.int 0)) (tCons (tC (.int 1234567891)) (tCons (tC (.int 0)) (tCons (tLc (iList K (tSl (uSl K) (tVar 0) tNoPart (tPart (tC (.int 63))))) (gName 1) tYes (tCB rAbs (tCons (tVar 1) tNil)) [1]) tNil))))))
theorem pure_l_bag {K : Fr} (vs : List V) (H : Hp) (Q : VK) (E : XK) (h : sp_l_bag K vs H Q E) : t_l_bag K { nx := λ _ H' => Q .non H', rt := Q } (start ["_law_script", "_law_cell"] vs) H := by
 obtain ⟨Rs, a, ns, rfl, S, hS, hl, k⟩ := h
 show t_l_bag K _ [some (V.ref a), none] H
 walk_at "go"
 refine v_slL S (hS H S) λ q H1 S1 => ?_
 rw [show cutV (ns.map V.int) none (some 63) = (ns.map V.int).take 63 from cut_to _ 63, <- List.map_take] at S1
 refine v_itL (SqL.of (S1.got 0 rfl)) ?_
 refine lc_W walk_list S1 (λ i acc => ∃ ms : List Int, acc = ms.map V.int /\ ms.length <= i /\ ∀ n ∈ ms, 0 <= n) ⟨[], rfl, Nat.le_refl _, (λ _ h => nomatch h)⟩ (λ H S => SqL.of (S.got 0 rfl)) ?_ ?_
 · intro i x acc E H H' hi hp S y
   obtain ⟨rfl, hx⟩ := y
   obtain ⟨n, _, rfl⟩ := ints_get hx
   obtain ⟨ms, rfl, hm, hn⟩ := hp
   walk_at "go"
   have hz : i < 63 := by
     rw [List.length_map, List.length_take] at hi
     omega
   refine lc_next S 0 rfl (by rw [List.length_map]; omega) λ H' S' => ?_
   refine ⟨_, ⟨ms ++ [if n < 0 then -n else n], by simp, by simp; omega, λ m h => ?_⟩, S'⟩
   rcases List.mem_append.mp h with h | h
   · exact hn m h
   · cases List.mem_singleton.mp h
     split <;> omega
 · rintro E acc H ⟨ms, rfl, _, hn⟩ S
   walk_at "go"
   refine v_lst S (by simp) λ p H' S' => ?_
   walk_at "go"
   have S2 : M (pt p (bagO 0 1234567891 0 E) :: pt E (.lst (ms.map V.int)) :: Rs) H' := (S'.at 2 rfl).tl
   exact k p H' (bag_close ⟨by decide, by decide, by decide, by decide, hn⟩ S2)
theorem u_take {K : Fr} {Rs : List Res} {H : Hp} {bag : Addr} {many : Int} {Q : VK} {E : XK} (S : M (bagR bag :: Rs) H) (h : 0 < many /\ many < 2 ^ 62) (k : ∀ v H', 0 <= v -> v < many -> M (bagR bag :: Rs) H' -> Q (.int v) H') :
   sp_l_take K ([.ref bag, .int many] ++ []) H Q E := ⟨Rs, bag, many, rfl, S, h.1, by omega, k⟩
def sp_l_alike (K : Fr) : Sp := λ vs H Q _ => ∃ (x y : V) (d : PyData), vs = [x, y] /\ Dn K H x d /\ Dn K H y d /\ AlkOk d /\ Q (.bl true) H
theorem len_l_alike {K : Fr} (vs : List V) (H : Hp) (Q : VK) (E : XK) (h : sp_l_alike K vs H Q E) : vs.length = 2 := by
 obtain ⟨x, y, d, rfl, _⟩ := h
 rfl
abbrev t_l_alike (K : Fr) : TS := (tRet (tAndV (tOp (uEqQ K) (tVar 0) (tVar 1)) (tOp (uEqQ K) (tCB (rReprQ K) (tCons (tVar 0) tNil)) (tCB (rReprQ K) (tCons (tVar 1) tNil)))))
theorem pure_l_alike {K : Fr} (vs : List V) (H : Hp) (Q : VK) (E : XK) (h : sp_l_alike K vs H Q E) : t_l_alike K { nx := λ _ H' => Q .non H', rt := Q } (L2.start ["_law_found", "_law_due"] vs) H := by
 obtain ⟨x, y, d, rfl, h1, h2, ok, k⟩ := h
 show t_l_alike K _ [some x, some y] H
 refine g_ret (g_andV (g_op (g_var rfl (g_var rfl (.inr ⟨d, h1, h2, ok.ok, ok.dp, g_bl (v_ifT ?_)⟩)))))
 refine g_op (g_cb (g_cons (g_var rfl (g_nil ⟨x, d, rfl, h1, ok.sh, ok.dp, ok.ln, ?_⟩))))
 refine g_cb (g_cons (g_var rfl (g_nil ⟨y, d, rfl, h2, ok.sh, ok.dp, ok.ln, ?_⟩)))
 refine .inl (v_eqS ?_)
 rw [decide_eq_true rfl]
 exact k
structure TxC (K : Fr) : Prop where
 cl_House : Cls K (He.ga K "House")
 na_House_signs_by : NoAttr K (He.ga K "House") "signs_by"
 xc_Wrong : ExcC K (He.ga K "Wrong")
 xn_Wrong_at : chN K "Wrong" "at" = true
 xm_Wrong_StoreError : PySem.W.exmOne K (.ref (He.ga K "Wrong")) (.ref (He.ga K "StoreError")) = some true
 xm_Wrong_Missing : PySem.W.exmOne K (.ref (He.ga K "Wrong")) (.ref (He.ga K "Missing")) = some false
 xk_Wrong_NoFile : PySem.W.kitOne K (.ref (He.ga K "Wrong")) (.ref (He.ga K "NoFile")) = some false
 xk_Wrong_There : PySem.W.kitOne K (.ref (He.ga K "Wrong")) (.ref (He.ga K "There")) = some false
 xk_Wrong_TooMany : PySem.W.kitOne K (.ref (He.ga K "Wrong")) (.ref (He.ga K "TooMany")) = some false
 xc_TooMany : ExcC K (He.ga K "TooMany")
 xn_TooMany_most : chN K "TooMany" "most" = true
 xm_TooMany_StoreError : PySem.W.exmOne K (.ref (He.ga K "TooMany")) (.ref (He.ga K "StoreError")) = some true
 xm_TooMany_Missing : PySem.W.exmOne K (.ref (He.ga K "TooMany")) (.ref (He.ga K "Missing")) = some false
 xk_TooMany_NoFile : PySem.W.kitOne K (.ref (He.ga K "TooMany")) (.ref (He.ga K "NoFile")) = some false
 xk_TooMany_There : PySem.W.kitOne K (.ref (He.ga K "TooMany")) (.ref (He.ga K "There")) = some false
 xk_TooMany_TooMany : PySem.W.kitOne K (.ref (He.ga K "TooMany")) (.ref (He.ga K "TooMany")) = some true
 xc_NoFile : ExcC K (He.ga K "NoFile")
 xn_NoFile_name : chN K "NoFile" "name" = true
 xm_NoFile_StoreError : PySem.W.exmOne K (.ref (He.ga K "NoFile")) (.ref (He.ga K "StoreError")) = some false
 xm_NoFile_Missing : PySem.W.exmOne K (.ref (He.ga K "NoFile")) (.ref (He.ga K "Missing")) = some true
 xk_NoFile_NoFile : PySem.W.kitOne K (.ref (He.ga K "NoFile")) (.ref (He.ga K "NoFile")) = some true
 xk_NoFile_There : PySem.W.kitOne K (.ref (He.ga K "NoFile")) (.ref (He.ga K "There")) = some false
 xk_NoFile_TooMany : PySem.W.kitOne K (.ref (He.ga K "NoFile")) (.ref (He.ga K "TooMany")) = some false
 xc_There : ExcC K (He.ga K "There")
 xn_There_thing : chN K "There" "thing" = true
 xm_There_StoreError : PySem.W.exmOne K (.ref (He.ga K "There")) (.ref (He.ga K "StoreError")) = some true
 xm_There_Missing : PySem.W.exmOne K (.ref (He.ga K "There")) (.ref (He.ga K "Missing")) = some false
 xk_There_NoFile : PySem.W.kitOne K (.ref (He.ga K "There")) (.ref (He.ga K "NoFile")) = some false
 xk_There_There : PySem.W.kitOne K (.ref (He.ga K "There")) (.ref (He.ga K "There")) = some true
 xk_There_TooMany : PySem.W.kitOne K (.ref (He.ga K "There")) (.ref (He.ga K "TooMany")) = some false
 iy_House : InsY K (He.ga K "House")
 ik_House_House : PySem.W.kitOne K (.ref (He.ga K "House")) (.ref (He.ga K "House")) = some true
 in_House : DatN K (He.ga K "House")
inductive Ex where
 | Wrong (w : PyData)
 | TooMany (w : PyData)
 | NoFile (w : PyData)
 | There (w : PyData)
def Ex.cls : Ex -> Str
 | .Wrong _ => "Wrong"
 | .TooMany _ => "TooMany"
 | .NoFile _ => "NoFile"
 | .There _ => "There"
def Ex.fld : Ex -> Str
 | .Wrong _ => "at"
 | .TooMany _ => "most"
 | .NoFile _ => "name"
 | .There _ => "thing"
def Ex.val : Ex -> PyData
 | .Wrong w => w
 | .TooMany w => w
 | .NoFile w => w
 | .There w => w
def p_l_any (a_some : (List Str)) (P : Str -> Prop) : Prop := takeD ((a_some).length : Int) λ n2 => ∃ x5, atI a_some n2 = some x5 /\ P x5
def sp_l_any (K : Fr) : Sp := λ vs H Q _ => ∃ (Rs : List Res) (a_bag_here : Addr) (R_a_some : Res) (v_a_some : V) (a_some : (List Str)) (P : Str -> Prop), vs = [(V.ref a_bag_here), v_a_some] /\ Brw R_a_some K v_a_some ((eL eS) a_some) /\ M (bagR a_bag_here :: R_a_some :: Rs) H /\ p_l_any a_some P /\ ∀ (r : Str) H', P r -> M (bagR a_bag_here :: R_a_some :: Rs) H' -> Q (V.str r) H'
theorem len_l_any {K : Fr} (vs : List V) (H : Hp) (Q : VK) (E : XK) (h : sp_l_any K vs H Q E) : vs.length = 2 := by
 obtain ⟨Rs, a_bag_here, R_a_some, v_a_some, a_some, P, rfl, _⟩ := h
 rfl
abbrev t_l_any (K : Fr) : TS := (tRet (tOp (uIx K) (tVar 1) (tCall (sp_l_take K) [] E0 (tCons (tVar 0) (tCons (tCB (uLen K) (tCons (tVar 1) tNil)) tNil)))))
theorem pure_l_any {K : Fr} (vs : List V) (H : Hp) (Q : VK) (E : XK) (h : sp_l_any K vs H Q E) : t_l_any K { nx := λ _ H' => Q .non H', rt := Q } (L2.start ["_law_bag_here", "_law_some"] vs) H := by
 obtain ⟨Rs, a_bag_here, R_a_some, v_a_some, a_some, P, rfl, h_a_some, S0, hf, hk⟩ := h
 show t_l_any K _ [some (V.ref a_bag_here), some v_a_some] H
 refine g_ret (g_op (g_var rfl (g_call (g_cons (g_var rfl (g_cons (g_cb (g_cons (g_var rfl (g_nil (v_lenN (h_a_some _ _ (M.at S0 1 rfl)) (g_nil ?_))))))))))))
 obtain ⟨h1, hf⟩ := hf
 refine u_take (S0.at 0 rfl) h1 λ n2 H4 n2l n2u (S3 : M (oo2 Rs) H4) => ?_
 replace hf := hf n2 n2l n2u
 obtain ⟨x5, h6, hf⟩ := hf
 refine v_ixN flS (h_a_some _ _ (M.at S3 1 rfl)) h6 ?_
 exact hk _ _ hf (M.pk S3 2 [0, 1] rfl)
def p_l_content  (P : (List Int) -> Prop) : Prop := takeD 5 λ n2 => takeD 5 λ n6 => takeD 13 λ n10 => takeD 49 λ n14 => takeD 3 λ n22 => ∃ x27, atI ([n6, n10, n14]) n22 = some x27 /\ if (decide (n2 = 0)) = true then (((-(2 ^ 62) : Int) <= x27 /\ x27 < (2 ^ 62 : Int)) /\ (rng x27).length <= 100000 /\ lcD (λ (x36 : Int) (k43 : Option Int -> Prop) => takeD 3 λ n49 => ∃ x54, atI ([1, 7, 2] : List Int) n49 = some x54 /\ k43 (some x54)) (rng x27) [] λ acc33 => P acc33) else (if (decide (n2 = 1)) = true then (((-(2 ^ 62) : Int) <= x27 /\ x27 < (2 ^ 62 : Int)) /\ (rng x27).length <= 100000 /\ lcD (λ (x69 : Int) (k76 : Option Int -> Prop) => takeD 142 λ n78 => (CMul 7 n78 \/ CMulW 7 n78) /\ k76 (some (1 + (7 * n78)))) (rng x27) [] λ acc66 => P acc66) else (if (decide (n2 = 2)) = true then (((-(2 ^ 62) : Int) <= x27 /\ x27 < (2 ^ 62 : Int)) /\ (rng x27).length <= 100000 /\ lcD (λ (x95 : Int) (k102 : Option Int -> Prop) => takeD 142 λ n104 => (CMul 7 n104 \/ CMulW 7 n104) /\ k102 (some (7 * n104))) (rng x27) [] λ acc92 => P acc92) else (if (decide (n2 = 3)) = true then (((-(2 ^ 62) : Int) <= x27 /\ x27 < (2 ^ 62 : Int)) /\ (rng x27).length <= 100000 /\ lcD (λ (x121 : Int) (k128 : Option Int -> Prop) => takeD 2 λ n134 => ∃ x139, atI ([0, 999] : List Int) n134 = some x139 /\ k128 (some x139)) (rng x27) [] λ acc118 => P acc118) else (((-(2 ^ 62) : Int) <= x27 /\ x27 < (2 ^ 62 : Int)) /\ (rng x27).length <= 100000 /\ lcD (λ (x154 : Int) (k161 : Option Int -> Prop) => takeD 1000 λ n163 => k161 (some n163)) (rng x27) [] λ acc151 => P acc151))))
def sp_l_content (K : Fr) : Sp := λ vs H Q _ => ∃ (Rs : List Res) (a_bag_here : Addr) (P : (List Int) -> Prop), vs = [(V.ref a_bag_here)] /\ M (bagR a_bag_here :: Rs) H /\ p_l_content P /\ ∀ (r : (List Int)) (v : V) H', P r -> M (da K v ((eL eI) r) :: bagR a_bag_here :: Rs) H' -> Q v H'
theorem len_l_content {K : Fr} (vs : List V) (H : Hp) (Q : VK) (E : XK) (h : sp_l_content K vs H Q E) : vs.length = 1 := by
 obtain ⟨Rs, a_bag_here, P, rfl, _⟩ := h
 rfl
abbrev t_l_content_9 (K : Fr) : TS := (tSeq (tIfS (tTest (tOp (uEq K) (tVar 1) (tC (.int 3)))) (tRet (tLc (iRng1 (tCons (tVar 2) tNil)) (gName 3) tYes (tOp (uIx K) (tLst (tCons (tC (.int 0)) (tCons (tC (.int 999)) tNil))) (tCall (sp_l_take K) [] E0 (tCons (tVar 0) (tCons (tC (.int 2)) tNil)))) [3])) tNext)
 (tRet (tLc (iRng1 (tCons (tVar 2) tNil)) (gName 3) tYes (tCall (sp_l_take K) [] E0 (tCons (tVar 0) (tCons (tC (.int 1000)) tNil))) [3])))
abbrev t_l_content_7 (K : Fr) : TS := (tSeq (tIfS (tTest (tOp (uEq K) (tVar 1) (tC (.int 2)))) (tRet (tLc (iRng1 (tCons (tVar 2) tNil)) (gName 3) tYes (tOp uMul (tC (.int 7)) (tCall (sp_l_take K) [] E0 (tCons (tVar 0) (tCons (tC (.int 142)) tNil)))) [3])) tNext)
 (t_l_content_9 K))
abbrev t_l_content_5 (K : Fr) : TS := (tSeq (tIfS (tTest (tOp (uEq K) (tVar 1) (tC (.int 1)))) (tRet (tLc (iRng1 (tCons (tVar 2) tNil)) (gName 3) tYes (tOp (uAdd K) (tC (.int 1)) (tOp uMul (tC (.int 7)) (tCall (sp_l_take K) [] E0 (tCons (tVar 0) (tCons (tC (.int 142)) tNil))))) [3])) tNext)
 (t_l_content_7 K))
abbrev t_l_content_3 (K : Fr) : TS := (tSeq (tIfS (tTest (tOp (uEq K) (tVar 1) (tC (.int 0)))) (tRet (tLc (iRng1 (tCons (tVar 2) tNil)) (gName 3) tYes (tOp (uIx K) (tLst (tCons (tC (.int 1)) (tCons (tC (.int 7)) (tCons (tC (.int 2)) tNil)))) (tCall (sp_l_take K) [] E0 (tCons (tVar 0) (tCons (tC (.int 3)) tNil)))) [3])) tNext)
 (t_l_content_5 K))
abbrev t_l_content_2 (K : Fr) : TS := (tSeq (tAsg (tOp (uIx K) (tLst (tCons (tCall (sp_l_take K) [] E0 (tCons (tVar 0) (tCons (tC (.int 5)) tNil))) (tCons (tCall (sp_l_take K) [] E0 (tCons (tVar 0) (tCons (tC (.int 13)) tNil))) (tCons (tCall (sp_l_take K) [] E0 (tCons (tVar 0) (tCons (tC (.int 49)) tNil))) tNil)))) (tCall (sp_l_take K) [] E0 (tCons (tVar 0) (tCons (tC (.int 3)) tNil)))) (gName 2))
 (t_l_content_3 K))
abbrev t_l_content_1 (K : Fr) : TS := (tSeq (tAsg (tCall (sp_l_take K) [] E0 (tCons (tVar 0) (tCons (tC (.int 5)) tNil))) (gName 1))
 (t_l_content_2 K))
abbrev t_l_content (K : Fr) : TS := (t_l_content_1 K)
theorem pure_l_content {K : Fr} (vs : List V) (H : Hp) (Q : VK) (E : XK) (h : sp_l_content K vs H Q E) : t_l_content K { nx := λ _ H' => Q .non H', rt := Q } (L2.start ["_law_bag_here", "_law_pick", "_law_long", "_law_k"] vs) H := by
 obtain ⟨Rs, a_bag_here, P, rfl, S0, hf, hk⟩ := h
 show t_l_content K _ [some (V.ref a_bag_here), none, none, none] H
 refine g_seq (g_asg (g_call (g_cons (g_var rfl (g_cons (g_c (g_nil ?_)))))))
 obtain ⟨h1, hf⟩ := hf
 refine u_take (S0.at 0 rfl) h1 λ n2 H4 n2l n2u (S3 : M (_ :: Rs) H4) => ?_
 replace hf := hf n2 n2l n2u
 refine g_nx ?_
 show (_ : TS) _ [some (V.ref a_bag_here), some (V.int n2), none, none] _
 refine g_seq (g_asg (g_op (g_lst (g_cons (g_call (g_cons (g_var rfl (g_cons (g_c (g_nil ?_))))))))))
 obtain ⟨h5, hf⟩ := hf
 refine u_take (S3.at 0 rfl) h5 λ n6 H8 n6l n6u (S7 : M (_ :: Rs) H8) => ?_
 replace hf := hf n6 n6l n6u
 refine g_cons (g_call (g_cons (g_var rfl (g_cons (g_c (g_nil ?_))))))
 obtain ⟨h9, hf⟩ := hf
 refine u_take (S7.at 0 rfl) h9 λ n10 H12 n10l n10u (S11 : M (_ :: Rs) H12) => ?_
 replace hf := hf n10 n10l n10u
 refine g_cons (g_call (g_cons (g_var rfl (g_cons (g_c (g_nil ?_))))))
 obtain ⟨h13, hf⟩ := hf
 refine u_take (S11.at 0 rfl) h13 λ n14 H16 n14l n14u (S15 : M (_ :: Rs) H16) => ?_
 replace hf := hf n14 n14l n14u
 refine g_nil (v_lsto (ds := ([n6, n10, n14]).map eI) S15 (EnF.consA (EnF.all λ _ => .int _) (EnF.consA (EnF.all λ _ => .int _) (EnF.consA (EnF.all λ _ => .int _) EnF.nilA))) (len_ok rfl) λ p17 H19 (S18 : M (acR K p17 (([n6, n10, n14]).map eI) :: _ :: Rs) H19) => ?_)
 refine g_call (g_cons (g_var rfl (g_cons (g_c (g_nil ?_)))))
 obtain ⟨h21, hf⟩ := hf
 refine u_take (S18.at 1 rfl) h21 λ n22 H24 n22l n22u (S23 : M (oo2 Rs) H24) => ?_
 replace hf := hf n22 n22l n22u
 have S25 : M (da K (V.ref p17) ((eL eI) ([n6, n10, n14])) :: _ :: Rs) H24 := acR_fixL (S23.at 1 rfl)
 obtain ⟨x27, h28, hf⟩ := hf
 refine v_ixN flI (M.gotA S25 0 rfl) h28 (g_nx ?_)
 show (_ : TS) _ [some (V.ref a_bag_here), some (V.int n2), some (V.int x27), none] _
 have S29 : M (_ :: Rs) H24 := (M.drp S25 0)
 refine g_seq (g_if (g_test (g_op (g_var rfl (g_c (v_eqI (g_bl (v_iff hf (λ _ hf => ?_) (λ _ hf => ?_)))))))))
 ·
  obtain ⟨h32, hf⟩ := hf
  refine g_ret (g_lc (g_iRng1 (g_cons (g_var rfl (g_nil (v_itR h32 ?_))))))
  refine lc_rng (K := K) (e' := eI) hf S29 (λ x36 acc33 E34 H42 kk35 N37 hl38 S41 hf hp39 hn40 => ?_) (λ E34 acc33 H59 hf S58 => ?_)
  ·
   refine g_name (g_wipe rfl (g_yes (v_ifT (g_op (g_lst (g_cons (g_c (g_cons (g_c (g_cons (g_c (g_nil (v_lsto (ds := ([1, 7, 2] : List Int).map eI) S41 (EnF.consA (EnF.all λ _ => .int _) (EnF.consA (EnF.all λ _ => .int _) (EnF.consA (EnF.all λ _ => .int _) EnF.nilA))) (len_ok rfl) λ p44 H46 (S45 : M (acR K p44 (([1, 7, 2] : List Int).map eI) :: acR K E34 (acc33.map eI) :: _ :: Rs) H46) => ?_)))))))))))))
   refine g_call (g_cons (g_var rfl (g_cons (g_c (g_nil ?_)))))
   obtain ⟨h48, hf⟩ := hf
   refine u_take (S45.at 2 rfl) h48 λ n49 H51 n49l n49u (S50 : M (oo3 Rs) H51) => ?_
   replace hf := hf n49 n49l n49u
   have S52 : M (da K (V.ref p44) ((eL eI) ([1, 7, 2] : List Int)) :: oo2 Rs) H51 := acR_fixL (S50.at 1 rfl)
   obtain ⟨x54, h55, hf⟩ := hf
   refine v_ixN flI (M.gotA S52 0 rfl) h55 (acR_put S52 2 rfl (EnF.all λ _ => .int _) hl38 λ H57 (S56 : M (acR K E34 (acc33.map eI ++ [eI x54]) :: oo2 Rs) H57) => ?_)
   exact hp39 _ _ hf (M.pk S56 3 [0, 2] rfl)
  have S61 : M (da K (V.ref E34) ((eL eI) acc33) :: _ :: Rs) H59 := acR_fixL S58
  exact hk _ _ _ hf (M.pk S61 2 [0, 1] rfl)
 ·
  refine g_next (g_nx (g_seq (g_if (g_test (g_op (g_var rfl (g_c (v_eqI (g_bl (v_iff hf (λ _ hf => ?_) (λ _ hf => ?_)))))))))))
  ·
   obtain ⟨h65, hf⟩ := hf
   refine g_ret (g_lc (g_iRng1 (g_cons (g_var rfl (g_nil (v_itR h65 ?_))))))
   refine lc_rng (K := K) (e' := eI) hf S29 (λ x69 acc66 E67 H75 kk68 N70 hl71 S74 hf hp72 hn73 => ?_) (λ E67 acc66 H85 hf S84 => ?_)
   ·
    refine g_name (g_wipe rfl (g_yes (v_ifT (g_op (g_c (g_op (g_c (g_call (g_cons (g_var rfl (g_cons (g_c (g_nil ?_)))))))))))))
    obtain ⟨h77, hf⟩ := hf
    refine u_take (S74.at 1 rfl) h77 λ n78 H80 n78l n78u (S79 : M (_ :: acR K E67 (acc66.map eI) :: Rs) H80) => ?_
    replace hf := hf n78 n78l n78u
    obtain ⟨h81, hf⟩ := hf
    refine v_mul h81 (v_add (acR_put S79 1 rfl (EnF.all λ _ => .int _) hl71 λ H83 (S82 : M (acR K E67 (acc66.map eI ++ [eI (1 + (7 * n78))]) :: _ :: Rs) H83) => ?_))
    exact hp72 _ _ hf (M.pk S82 2 [0, 1] rfl)
   have S87 : M (da K (V.ref E67) ((eL eI) acc66) :: _ :: Rs) H85 := acR_fixL S84
   exact hk _ _ _ hf (M.pk S87 2 [0, 1] rfl)
  ·
   refine g_next (g_nx (g_seq (g_if (g_test (g_op (g_var rfl (g_c (v_eqI (g_bl (v_iff hf (λ _ hf => ?_) (λ _ hf => ?_)))))))))))
   ·
    obtain ⟨h91, hf⟩ := hf
    refine g_ret (g_lc (g_iRng1 (g_cons (g_var rfl (g_nil (v_itR h91 ?_))))))
    refine lc_rng (K := K) (e' := eI) hf S29 (λ x95 acc92 E93 H101 kk94 N96 hl97 S100 hf hp98 hn99 => ?_) (λ E93 acc92 H111 hf S110 => ?_)
    ·
     refine g_name (g_wipe rfl (g_yes (v_ifT (g_op (g_c (g_call (g_cons (g_var rfl (g_cons (g_c (g_nil ?_)))))))))))
     obtain ⟨h103, hf⟩ := hf
     refine u_take (S100.at 1 rfl) h103 λ n104 H106 n104l n104u (S105 : M (_ :: acR K E93 (acc92.map eI) :: Rs) H106) => ?_
     replace hf := hf n104 n104l n104u
     obtain ⟨h107, hf⟩ := hf
     refine v_mul h107 (acR_put S105 1 rfl (EnF.all λ _ => .int _) hl97 λ H109 (S108 : M (acR K E93 (acc92.map eI ++ [eI (7 * n104)]) :: _ :: Rs) H109) => ?_)
     exact hp98 _ _ hf (M.pk S108 2 [0, 1] rfl)
    have S113 : M (da K (V.ref E93) ((eL eI) acc92) :: _ :: Rs) H111 := acR_fixL S110
    exact hk _ _ _ hf (M.pk S113 2 [0, 1] rfl)
   ·
    refine g_next (g_nx (g_seq (g_if (g_test (g_op (g_var rfl (g_c (v_eqI (g_bl (v_iff hf (λ _ hf => ?_) (λ _ hf => ?_)))))))))))
    ·
     obtain ⟨h117, hf⟩ := hf
     refine g_ret (g_lc (g_iRng1 (g_cons (g_var rfl (g_nil (v_itR h117 ?_))))))
     refine lc_rng (K := K) (e' := eI) hf S29 (λ x121 acc118 E119 H127 kk120 N122 hl123 S126 hf hp124 hn125 => ?_) (λ E119 acc118 H144 hf S143 => ?_)
     ·
      refine g_name (g_wipe rfl (g_yes (v_ifT (g_op (g_lst (g_cons (g_c (g_cons (g_c (g_nil (v_lsto (ds := ([0, 999] : List Int).map eI) S126 (EnF.consA (EnF.all λ _ => .int _) (EnF.consA (EnF.all λ _ => .int _) EnF.nilA)) (len_ok rfl) λ p129 H131 (S130 : M (acR K p129 (([0, 999] : List Int).map eI) :: acR K E119 (acc118.map eI) :: _ :: Rs) H131) => ?_)))))))))))
      refine g_call (g_cons (g_var rfl (g_cons (g_c (g_nil ?_)))))
      obtain ⟨h133, hf⟩ := hf
      refine u_take (S130.at 2 rfl) h133 λ n134 H136 n134l n134u (S135 : M (oo3 Rs) H136) => ?_
      replace hf := hf n134 n134l n134u
      have S137 : M (da K (V.ref p129) ((eL eI) ([0, 999] : List Int)) :: oo2 Rs) H136 := acR_fixL (S135.at 1 rfl)
      obtain ⟨x139, h140, hf⟩ := hf
      refine v_ixN flI (M.gotA S137 0 rfl) h140 (acR_put S137 2 rfl (EnF.all λ _ => .int _) hl123 λ H142 (S141 : M (acR K E119 (acc118.map eI ++ [eI x139]) :: oo2 Rs) H142) => ?_)
      exact hp124 _ _ hf (M.pk S141 3 [0, 2] rfl)
     have S146 : M (da K (V.ref E119) ((eL eI) acc118) :: _ :: Rs) H144 := acR_fixL S143
     exact hk _ _ _ hf (M.pk S146 2 [0, 1] rfl)
    ·
     obtain ⟨h150, hf⟩ := hf
     refine g_next (g_nx (g_ret (g_lc (g_iRng1 (g_cons (g_var rfl (g_nil (v_itR h150 ?_))))))))
     refine lc_rng (K := K) (e' := eI) hf S29 (λ x154 acc151 E152 H160 kk153 N155 hl156 S159 hf hp157 hn158 => ?_) (λ E152 acc151 H169 hf S168 => ?_)
     ·
      refine g_name (g_wipe rfl (g_yes (v_ifT (g_call (g_cons (g_var rfl (g_cons (g_c (g_nil ?_)))))))))
      obtain ⟨h162, hf⟩ := hf
      refine u_take (S159.at 1 rfl) h162 λ n163 H165 n163l n163u (S164 : M (_ :: acR K E152 (acc151.map eI) :: Rs) H165) => ?_
      replace hf := hf n163 n163l n163u
      refine acR_put S164 1 rfl (EnF.all λ _ => .int _) hl156 λ H167 (S166 : M (acR K E152 (acc151.map eI ++ [eI n163]) :: _ :: Rs) H167) => ?_
      exact hp157 _ _ hf (M.pk S166 2 [0, 1] rfl)
     have S171 : M (da K (V.ref E152) ((eL eI) acc151) :: _ :: Rs) H169 := acR_fixL S168
     exact hk _ _ _ hf (M.pk S171 2 [0, 1] rfl)
def p_l_names (a_many : Int) (P : (List Str) -> Prop) : Prop := takeD 3 λ n8 => takeD 26 λ n12 => takeD 8 λ n16 => takeD (1 + n16) λ n20 => ((-(2 ^ 62) : Int) <= (1 + n16) /\ (1 + n16) < (2 ^ 62 : Int)) /\ (rng (1 + n16)).length <= 100000 /\ lcD (λ (x29 : Int) (k36 : Option Str -> Prop) => takeD 26 λ n38 => ∃ x41, atS ("abcdefghijklmnopqrstuvwxyz" : Str) n38 = some x41 /\ k36 (some x41)) (rng (1 + n16)) [] λ acc26 => if (decide (n8 = 0)) = true then (([("none" : Str), ("log" : Str), ("full" : Str), ("step" : Str), ("wide" : Str), ("a" : Str), ("ab" : Str), ("files" : Str), ("run" : Str), ("put" : Str), ("gone" : Str), ("moments" : Str)]).length + ([("none" : Str), ("log" : Str), ("full" : Str), ("step" : Str), ("wide" : Str), ("a" : Str), ("ab" : Str), ("files" : Str), ("run" : Str), ("put" : Str), ("gone" : Str), ("moments" : Str)]).length <= 100000 /\ ((0 : Int) < 12) /\ P (cutL (cutL (cat ([("none" : Str), ("log" : Str), ("full" : Str), ("step" : Str), ("wide" : Str), ("a" : Str), ("ab" : Str), ("files" : Str), ("run" : Str), ("put" : Str), ("gone" : Str), ("moments" : Str)]) ([("none" : Str), ("log" : Str), ("full" : Str), ("step" : Str), ("wide" : Str), ("a" : Str), ("ab" : Str), ("files" : Str), ("run" : Str), ("put" : Str), ("gone" : Str), ("moments" : Str)])) (some (n12 % 12)) none) none (some a_many))) else (((-(2 ^ 62) : Int) <= a_many /\ a_many < (2 ^ 62 : Int)) /\ (rng a_many).length <= 100000 /\ lcD (λ (x76 : Int) (k83 : Option Str -> Prop) => ((0 : Int) < 26) /\ ∃ x91, atS ("abcdefghijklmnopqrstuvwxyz" : Str) ((n12 + x76) % 26) = some x91 /\ ((cutL acc26 none (some n20))).length + ([x91]).length <= 100000 /\ ((cat (cutL acc26 none (some n20)) ([x91]))).length + ((cutL acc26 (some (n20 + 1)) none)).length <= 100000 /\ ((((cat (cat (cutL acc26 none (some n20)) ([x91])) (cutL acc26 (some (n20 + 1)) none))).map (·.length)).sum + ((cat (cat (cutL acc26 none (some n20)) ([x91])) (cutL acc26 (some (n20 + 1)) none))).length * (("" : Str)).length <= 16777216) /\ k83 (some (Txt.join ("" : Str) (cat (cat (cutL acc26 none (some n20)) ([x91])) (cutL acc26 (some (n20 + 1)) none))))) (rng a_many) [] λ acc73 => P acc73)
def sp_l_names (K : Fr) : Sp := λ vs H Q _ => ∃ (Rs : List Res) (a_bag_here : Addr) (a_many : Int) (P : (List Str) -> Prop), vs = [(V.ref a_bag_here), (V.int a_many)] /\ M (bagR a_bag_here :: Rs) H /\ p_l_names a_many P /\ ∀ (r : (List Str)) (v : V) H', P r -> M (da K v ((eL eS) r) :: bagR a_bag_here :: Rs) H' -> Q v H'
theorem len_l_names {K : Fr} (vs : List V) (H : Hp) (Q : VK) (E : XK) (h : sp_l_names K vs H Q E) : vs.length = 2 := by
 obtain ⟨Rs, a_bag_here, a_many, P, rfl, _⟩ := h
 rfl
abbrev t_l_names_8 (K : Fr) : TS := (tSeq (tIfS (tTest (tOp (uEq K) (tVar 4) (tC (.int 0)))) (tRet (tSl (uSl K) (tSl (uSl K) (tOp (uAdd K) (tVar 3) (tVar 3)) (tPart (tOp uMod (tVar 5) (tC (.int 12)))) tNoPart) tNoPart (tPart (tVar 1)))) tNext)
 (tRet (tLc (iRng1 (tCons (tVar 1) tNil)) (gName 9) tYes (tM1 (rJoin K) (tC (.str "")) (tOp (uAdd K) (tOp (uAdd K) (tSl (uSl K) (tVar 8) tNoPart (tPart (tVar 7))) (tLst (tCons (tOp (uIx K) (tVar 2) (tOp uMod (tOp (uAdd K) (tVar 5) (tVar 9)) (tC (.int 26)))) tNil))) (tSl (uSl K) (tVar 8) (tPart (tOp (uAdd K) (tVar 7) (tC (.int 1)))) tNoPart))) [9])))
abbrev t_l_names_7 (K : Fr) : TS := (tSeq (tAsg (tLc (iRng1 (tCons (tVar 6) tNil)) (gName 9) tYes (tOp (uIx K) (tVar 2) (tCall (sp_l_take K) [] E0 (tCons (tVar 0) (tCons (tC (.int 26)) tNil)))) [9]) (gName 8))
 (t_l_names_8 K))
abbrev t_l_names_6 (K : Fr) : TS := (tSeq (tAsg (tCall (sp_l_take K) [] E0 (tCons (tVar 0) (tCons (tVar 6) tNil))) (gName 7))
 (t_l_names_7 K))
abbrev t_l_names_5 (K : Fr) : TS := (tSeq (tAsg (tOp (uAdd K) (tC (.int 1)) (tCall (sp_l_take K) [] E0 (tCons (tVar 0) (tCons (tC (.int 8)) tNil)))) (gName 6))
 (t_l_names_6 K))
abbrev t_l_names_4 (K : Fr) : TS := (tSeq (tAsg (tCall (sp_l_take K) [] E0 (tCons (tVar 0) (tCons (tC (.int 26)) tNil))) (gName 5))
 (t_l_names_5 K))
abbrev t_l_names_3 (K : Fr) : TS := (tSeq (tAsg (tCall (sp_l_take K) [] E0 (tCons (tVar 0) (tCons (tC (.int 3)) tNil))) (gName 4))
 (t_l_names_4 K))
abbrev t_l_names_2 (K : Fr) : TS := (tSeq (tAsg (tLst (tCons (tC (.str "none")) (tCons (tC (.str "log")) (tCons (tC (.str "full")) (tCons (tC (.str "step")) (tCons (tC (.str "wide")) (tCons (tC (.str "a")) (tCons (tC (.str "ab")) (tCons (tC (.str "files")) (tCons (tC (.str "run")) (tCons (tC (.str "put")) (tCons (tC (.str "gone")) (tCons (tC (.str "moments")) tNil))))))))))))) (gName 3))
 (t_l_names_3 K))
abbrev t_l_names_1 (K : Fr) : TS := (tSeq (tAsg (tC (.str "abcdefghijklmnopqrstuvwxyz")) (gName 2))
 (t_l_names_2 K))
abbrev t_l_names (K : Fr) : TS := (t_l_names_1 K)
theorem pure_l_names {K : Fr} (vs : List V) (H : Hp) (Q : VK) (E : XK) (h : sp_l_names K vs H Q E) : t_l_names K { nx := λ _ H' => Q .non H', rt := Q } (L2.start ["_law_bag_here", "_law_many", "_law_letters", "_law_words", "_law_pick", "_law_turn", "_law_size", "_law_at", "_law_base", "_law_k"] vs) H := by
 obtain ⟨Rs, a_bag_here, a_many, P, rfl, S0, hf, hk⟩ := h
 show t_l_names K _ [some (V.ref a_bag_here), some (V.int a_many), none, none, none, none, none, none, none, none] H
 refine g_seq (g_asg (g_c (g_nx ?_)))
 show (_ : TS) _ [some (V.ref a_bag_here), some (V.int a_many), some (V.str ("abcdefghijklmnopqrstuvwxyz" : Str)), none, none, none, none, none, none, none] _
 refine g_seq (g_asg (g_lst (g_cons (g_c (g_cons (g_c (g_cons (g_c (g_cons (g_c (g_cons (g_c (g_cons (g_c (g_cons (g_c (g_cons (g_c (g_cons (g_c (g_cons (g_c (g_cons (g_c (g_cons (g_c (g_nil (v_lsto (ds := ([("none" : Str), ("log" : Str), ("full" : Str), ("step" : Str), ("wide" : Str), ("a" : Str), ("ab" : Str), ("files" : Str), ("run" : Str), ("put" : Str), ("gone" : Str), ("moments" : Str)]).map eS) S0 (EnF.consA (EnF.all λ _ => .str _) (EnF.consA (EnF.all λ _ => .str _) (EnF.consA (EnF.all λ _ => .str _) (EnF.consA (EnF.all λ _ => .str _) (EnF.consA (EnF.all λ _ => .str _) (EnF.consA (EnF.all λ _ => .str _) (EnF.consA (EnF.all λ _ => .str _) (EnF.consA (EnF.all λ _ => .str _) (EnF.consA (EnF.all λ _ => .str _) (EnF.consA (EnF.all λ _ => .str _) (EnF.consA (EnF.all λ _ => .str _) (EnF.consA (EnF.all λ _ => .str _) EnF.nilA)))))))))))) (len_ok rfl) λ p1 H3 (S2 : M (acR K p1 (([("none" : Str), ("log" : Str), ("full" : Str), ("step" : Str), ("wide" : Str), ("a" : Str), ("ab" : Str), ("files" : Str), ("run" : Str), ("put" : Str), ("gone" : Str), ("moments" : Str)]).map eS) :: _ :: Rs) H3) => ?_))))))))))))))))))))))))))))
 have S5 : M (da K (V.ref p1) ((eL eS) ([("none" : Str), ("log" : Str), ("full" : Str), ("step" : Str), ("wide" : Str), ("a" : Str), ("ab" : Str), ("files" : Str), ("run" : Str), ("put" : Str), ("gone" : Str), ("moments" : Str)])) :: _ :: Rs) H3 := acR_fixL S2
 refine g_nx ?_
 show (_ : TS) _ [some (V.ref a_bag_here), some (V.int a_many), some (V.str ("abcdefghijklmnopqrstuvwxyz" : Str)), some (V.ref p1), none, none, none, none, none, none] _
 refine g_seq (g_asg (g_call (g_cons (g_var rfl (g_cons (g_c (g_nil ?_)))))))
 obtain ⟨h7, hf⟩ := hf
 refine u_take (S5.at 1 rfl) h7 λ n8 H10 n8l n8u (S9 : M (oo2 Rs) H10) => ?_
 replace hf := hf n8 n8l n8u
 refine g_nx ?_
 show (_ : TS) _ [some (V.ref a_bag_here), some (V.int a_many), some (V.str ("abcdefghijklmnopqrstuvwxyz" : Str)), some (V.ref p1), some (V.int n8), none, none, none, none, none] _
 refine g_seq (g_asg (g_call (g_cons (g_var rfl (g_cons (g_c (g_nil ?_)))))))
 obtain ⟨h11, hf⟩ := hf
 refine u_take (S9.at 0 rfl) h11 λ n12 H14 n12l n12u (S13 : M (oo2 Rs) H14) => ?_
 replace hf := hf n12 n12l n12u
 refine g_nx ?_
 show (_ : TS) _ [some (V.ref a_bag_here), some (V.int a_many), some (V.str ("abcdefghijklmnopqrstuvwxyz" : Str)), some (V.ref p1), some (V.int n8), some (V.int n12), none, none, none, none] _
 refine g_seq (g_asg (g_op (g_c (g_call (g_cons (g_var rfl (g_cons (g_c (g_nil ?_)))))))))
 obtain ⟨h15, hf⟩ := hf
 refine u_take (S13.at 0 rfl) h15 λ n16 H18 n16l n16u (S17 : M (oo2 Rs) H18) => ?_
 replace hf := hf n16 n16l n16u
 refine v_add (g_nx ?_)
 show (_ : TS) _ [some (V.ref a_bag_here), some (V.int a_many), some (V.str ("abcdefghijklmnopqrstuvwxyz" : Str)), some (V.ref p1), some (V.int n8), some (V.int n12), some (V.int (1 + n16)), none, none, none] _
 refine g_seq (g_asg (g_call (g_cons (g_var rfl (g_cons (g_var rfl (g_nil ?_)))))))
 obtain ⟨h19, hf⟩ := hf
 refine u_take (S17.at 0 rfl) h19 λ n20 H22 n20l n20u (S21 : M (oo2 Rs) H22) => ?_
 replace hf := hf n20 n20l n20u
 refine g_nx ?_
 show (_ : TS) _ [some (V.ref a_bag_here), some (V.int a_many), some (V.str ("abcdefghijklmnopqrstuvwxyz" : Str)), some (V.ref p1), some (V.int n8), some (V.int n12), some (V.int (1 + n16)), some (V.int n20), none, none] _
 obtain ⟨h25, hf⟩ := hf
 refine g_seq (g_asg (g_lc (g_iRng1 (g_cons (g_var rfl (g_nil (v_itR h25 ?_)))))))
 refine lc_rng (K := K) (e' := eS) hf S21 (λ x29 acc26 E27 H35 kk28 N30 hl31 S34 hf hp32 hn33 => ?_) (λ E27 acc26 H46 hf S45 => ?_)
 ·
  refine g_name (g_wipe rfl (g_yes (v_ifT (g_op (g_var rfl (g_call (g_cons (g_var rfl (g_cons (g_c (g_nil ?_)))))))))))
  obtain ⟨h37, hf⟩ := hf
  refine u_take (S34.at 1 rfl) h37 λ n38 H40 n38l n38u (S39 : M (_ :: acR K E27 (acc26.map eS) :: _ :: Rs) H40) => ?_
  replace hf := hf n38 n38l n38u
  obtain ⟨x41, h42, hf⟩ := hf
  refine v_ixs h42 (acR_put S39 1 rfl (EnF.all λ _ => .str _) hl31 λ H44 (S43 : M (acR K E27 (acc26.map eS ++ [eS x41]) :: oo2 Rs) H44) => ?_)
  exact hp32 _ _ hf (M.pk S43 3 [0, 1, 2] rfl)
 have S48 : M (da K (V.ref E27) ((eL eS) acc26) :: oo2 Rs) H46 := acR_fixL S45
 refine g_nx ?_
 show (_ : TS) _ [some (V.ref a_bag_here), some (V.int a_many), some (V.str ("abcdefghijklmnopqrstuvwxyz" : Str)), some (V.ref p1), some (V.int n8), some (V.int n12), some (V.int (1 + n16)), some (V.int n20), some (V.ref E27), none] _
 refine g_seq (g_if (g_test (g_op (g_var rfl (g_c (v_eqI (g_bl (v_iff hf (λ _ hf => ?_) (λ _ hf => ?_)))))))))
 ·
  refine g_ret (g_sl (g_sl (g_op (g_var rfl (g_var rfl ?_)))))
  obtain ⟨h50, hf⟩ := hf
  refine v_catN flS S48 (M.gotA S48 2 rfl) (M.gotA S48 2 rfl) h50 λ p51 H53 (S52 : M (acR K p51 ((cat ([("none" : Str), ("log" : Str), ("full" : Str), ("step" : Str), ("wide" : Str), ("a" : Str), ("ab" : Str), ("files" : Str), ("run" : Str), ("put" : Str), ("gone" : Str), ("moments" : Str)]) ([("none" : Str), ("log" : Str), ("full" : Str), ("step" : Str), ("wide" : Str), ("a" : Str), ("ab" : Str), ("files" : Str), ("run" : Str), ("put" : Str), ("gone" : Str), ("moments" : Str)])).map eS) :: oo3 Rs) H53) => ?_
  have S55 : M (da K (V.ref p51) ((eL eS) (cat ([("none" : Str), ("log" : Str), ("full" : Str), ("step" : Str), ("wide" : Str), ("a" : Str), ("ab" : Str), ("files" : Str), ("run" : Str), ("put" : Str), ("gone" : Str), ("moments" : Str)]) ([("none" : Str), ("log" : Str), ("full" : Str), ("step" : Str), ("wide" : Str), ("a" : Str), ("ab" : Str), ("files" : Str), ("run" : Str), ("put" : Str), ("gone" : Str), ("moments" : Str)]))) :: oo3 Rs) H53 := acR_fixL S52
  obtain ⟨h57, hf⟩ := hf
  refine g_part (g_op (g_var rfl (g_c (v_mod h57 (g_int (g_noPart (v_slN flS S55 (M.gotA S55 0 rfl) λ p58 H60 (S59 : M (acR K p58 ((cutL (cat ([("none" : Str), ("log" : Str), ("full" : Str), ("step" : Str), ("wide" : Str), ("a" : Str), ("ab" : Str), ("files" : Str), ("run" : Str), ("put" : Str), ("gone" : Str), ("moments" : Str)]) ([("none" : Str), ("log" : Str), ("full" : Str), ("step" : Str), ("wide" : Str), ("a" : Str), ("ab" : Str), ("files" : Str), ("run" : Str), ("put" : Str), ("gone" : Str), ("moments" : Str)])) (some (n12 % 12)) none).map eS) :: oo4 Rs) H60) => ?_)))))))
  have S62 : M (da K (V.ref p58) ((eL eS) (cutL (cat ([("none" : Str), ("log" : Str), ("full" : Str), ("step" : Str), ("wide" : Str), ("a" : Str), ("ab" : Str), ("files" : Str), ("run" : Str), ("put" : Str), ("gone" : Str), ("moments" : Str)]) ([("none" : Str), ("log" : Str), ("full" : Str), ("step" : Str), ("wide" : Str), ("a" : Str), ("ab" : Str), ("files" : Str), ("run" : Str), ("put" : Str), ("gone" : Str), ("moments" : Str)])) (some (n12 % 12)) none)) :: oo4 Rs) H60 := acR_fixL S59
  refine g_noPart (g_part (g_var rfl (g_int (v_slN flS S62 (M.gotA S62 0 rfl) λ p64 H66 (S65 : M (acR K p64 ((cutL (cutL (cat ([("none" : Str), ("log" : Str), ("full" : Str), ("step" : Str), ("wide" : Str), ("a" : Str), ("ab" : Str), ("files" : Str), ("run" : Str), ("put" : Str), ("gone" : Str), ("moments" : Str)]) ([("none" : Str), ("log" : Str), ("full" : Str), ("step" : Str), ("wide" : Str), ("a" : Str), ("ab" : Str), ("files" : Str), ("run" : Str), ("put" : Str), ("gone" : Str), ("moments" : Str)])) (some (n12 % 12)) none) none (some a_many)).map eS) :: oo5 Rs) H66) => ?_))))
  have S68 : M (da K (V.ref p64) ((eL eS) (cutL (cutL (cat ([("none" : Str), ("log" : Str), ("full" : Str), ("step" : Str), ("wide" : Str), ("a" : Str), ("ab" : Str), ("files" : Str), ("run" : Str), ("put" : Str), ("gone" : Str), ("moments" : Str)]) ([("none" : Str), ("log" : Str), ("full" : Str), ("step" : Str), ("wide" : Str), ("a" : Str), ("ab" : Str), ("files" : Str), ("run" : Str), ("put" : Str), ("gone" : Str), ("moments" : Str)])) (some (n12 % 12)) none) none (some a_many))) :: oo5 Rs) H66 := acR_fixL S65
  exact hk _ _ _ hf (M.pk S68 6 [0, 4] rfl)
 ·
  obtain ⟨h72, hf⟩ := hf
  refine g_next (g_nx (g_ret (g_lc (g_iRng1 (g_cons (g_var rfl (g_nil (v_itR h72 ?_))))))))
  refine lc_rng (K := K) (e' := eS) hf S48 (λ x76 acc73 E74 H82 kk75 N77 hl78 S81 hf hp79 hn80 => ?_) (λ E74 acc73 H123 hf S122 => ?_)
  ·
   refine g_name (g_wipe rfl (g_yes (v_ifT (g_m1 (g_c (v_isS (g_op (g_op (g_sl (g_var rfl (g_noPart (g_part (g_var rfl (g_int (v_slN flS S81 (M.gotA S81 1 rfl) λ p84 H86 (S85 : M (acR K p84 ((cutL acc26 none (some n20)).map eS) :: acR K E74 (acc73.map eS) :: oo3 Rs) H86) => ?_)))))))))))))))
   have S88 : M (da K (V.ref p84) ((eL eS) (cutL acc26 none (some n20))) :: oo4 Rs) H86 := acR_fixL S85
   obtain ⟨h90, hf⟩ := hf
   obtain ⟨x91, h92, hf⟩ := hf
   refine g_lst (g_cons (g_op (g_var rfl (g_op (g_op (g_var rfl (g_var rfl (v_add (g_c (v_mod h90 (v_ixs h92 (g_nil (v_lsto (ds := ([x91]).map eS) S88 (EnF.consA (EnF.all λ _ => .str _) EnF.nilA) (len_ok rfl) λ p93 H95 (S94 : M (acR K p93 (([x91]).map eS) :: oo5 Rs) H95) => ?_)))))))))))))
   have S97 : M (da K (V.ref p93) ((eL eS) ([x91])) :: oo5 Rs) H95 := acR_fixL S94
   obtain ⟨h99, hf⟩ := hf
   refine v_catN flS S97 (M.gotA S97 1 rfl) (M.gotA S97 0 rfl) h99 λ p100 H102 (S101 : M (acR K p100 ((cat (cutL acc26 none (some n20)) ([x91])).map eS) :: oo6 Rs) H102) => ?_
   have S104 : M (da K (V.ref p100) ((eL eS) (cat (cutL acc26 none (some n20)) ([x91]))) :: oo6 Rs) H102 := acR_fixL S101
   refine g_sl (g_var rfl (g_part (g_op (g_var rfl (g_c (v_add (g_int (g_noPart (v_slN flS S104 (M.gotA S104 4 rfl) λ p106 H108 (S107 : M (acR K p106 ((cutL acc26 (some (n20 + 1)) none).map eS) :: oo7 Rs) H108) => ?_)))))))))
   have S110 : M (da K (V.ref p106) ((eL eS) (cutL acc26 (some (n20 + 1)) none)) :: oo7 Rs) H108 := acR_fixL S107
   obtain ⟨h112, hf⟩ := hf
   refine v_catN flS S110 (M.gotA S110 1 rfl) (M.gotA S110 0 rfl) h112 λ p113 H115 (S114 : M (acR K p113 ((cat (cat (cutL acc26 none (some n20)) ([x91])) (cutL acc26 (some (n20 + 1)) none)).map eS) :: oo8 Rs) H115) => ?_
   have S117 : M (da K (V.ref p113) ((eL eS) (cat (cat (cutL acc26 none (some n20)) ([x91])) (cutL acc26 (some (n20 + 1)) none))) :: oo8 Rs) H115 := acR_fixL S114
   obtain ⟨h119, hf⟩ := hf
   refine v_join (M.gotA S117 0 rfl) h119 (acR_put S117 5 rfl (EnF.all λ _ => .str _) hl78 λ H121 (S120 : M (acR K E74 (acc73.map eS ++ [eS (Txt.join ("" : Str) (cat (cat (cutL acc26 none (some n20)) ([x91])) (cutL acc26 (some (n20 + 1)) none)))]) :: oo8 Rs) H121) => ?_)
   exact hp79 _ _ hf (M.pk S120 9 [0, 6, 7, 8] rfl)
  have S125 : M (da K (V.ref E74) ((eL eS) acc73) :: oo3 Rs) H123 := acR_fixL S122
  exact hk _ _ _ hf (M.pk S125 4 [0, 2] rfl)
def p_is_whole (a_thing : Int) (P : Bool -> Prop) : Prop := P (true && (!false))
def sp_is_whole (K : Fr) : Sp := λ vs H Q _ => ∃ (Rs : List Res) (a_thing : Int) (P : Bool -> Prop), vs = [(V.int a_thing)] /\ M (Rs) H /\ p_is_whole a_thing P /\ ∀ (r : Bool) H', P r -> M (Rs) H' -> Q (V.bl r) H'
theorem len_is_whole {K : Fr} (vs : List V) (H : Hp) (Q : VK) (E : XK) (h : sp_is_whole K vs H Q E) : vs.length = 1 := by
 obtain ⟨Rs, a_thing, P, rfl, _⟩ := h
 rfl
abbrev t_is_whole (K : Fr) : TS := (tRet (tAndV (tCB (uIsi K) (tCons (tVar 0) (tCons (tC (.ty "int")) tNil))) (tNotV (tCB (uIsi K) (tCons (tVar 0) (tCons (tC (.ty "bool")) tNil))))))
theorem pure_is_whole {K : Fr} (vs : List V) (H : Hp) (Q : VK) (E : XK) (h : sp_is_whole K vs H Q E) : t_is_whole K { nx := λ _ H' => Q .non H', rt := Q } (L2.start ["thing"] vs) H := by
 obtain ⟨Rs, a_thing, P, rfl, S0, hf, hk⟩ := h
 show t_is_whole K _ [some (V.int a_thing)] H
 refine g_ret (g_andVP (c1 := true) (c2 := (!false)) (λ _ hq => ?_) (λ _ hq => ?_) ?_)
 ·
  refine g_cb (g_cons (g_var rfl (g_cons (g_c (g_nil (v_isq (.int _) (by decide) (b := true) rfl ?_))))))
  exact hq
 ·
  refine g_notV (g_cb (g_cons (g_var rfl (g_cons (g_c (g_nil (v_isq (.int _) (by decide) (b := false) rfl (g_bl ?_))))))))
  exact hq
 exact hk _ _ hf (M.pk S0 0 [] rfl)
def p_is_sign (a_thing : Int) (P : Bool -> Prop) : Prop := jn (λ k5 => p_is_whole a_thing λ x7 => if x7 = true then (k5 ((decide (0 <= a_thing)) && (decide (a_thing <= 999)))) else (k5 false)) λ c1 => P c1
def sp_is_sign (K : Fr) : Sp := λ vs H Q _ => ∃ (Rs : List Res) (a_thing : Int) (P : Bool -> Prop), vs = [(V.int a_thing)] /\ M (Rs) H /\ p_is_sign a_thing P /\ ∀ (r : Bool) H', P r -> M (Rs) H' -> Q (V.bl r) H'
theorem len_is_sign {K : Fr} (vs : List V) (H : Hp) (Q : VK) (E : XK) (h : sp_is_sign K vs H Q E) : vs.length = 1 := by
 obtain ⟨Rs, a_thing, P, rfl, _⟩ := h
 rfl
abbrev t_is_sign (K : Fr) : TS := (tRet (tAndV (tCall (sp_is_whole K) [] E0 (tCons (tVar 0) tNil)) (tChain uLe uLe (tC (.int 0)) (tVar 0) (tC (.int 999)))))
theorem pure_is_sign {K : Fr} (vs : List V) (H : Hp) (Q : VK) (E : XK) (h : sp_is_sign K vs H Q E) : t_is_sign K { nx := λ _ H' => Q .non H', rt := Q } (L2.start ["thing"] vs) H := by
 obtain ⟨Rs, a_thing, P, rfl, S0, hf, hk⟩ := h
 show t_is_sign K _ [some (V.int a_thing)] H
 refine g_ret ?_
 refine te_cut hf (λ H => M (Rs) H) (λ kk2 P3 hP4 hf => ?_) ?_
 ·
  refine g_andV (g_call (g_cons (g_var rfl (g_nil (⟨_, _, _, rfl, S0, hf, λ x7 H9 hf (S8 : M (Rs) H9) => ?_⟩)))))
  refine g_bl (v_iff hf (λ _ hf => ?_) (λ _ hf => ?_))
  ·
   refine g_chainP (c1 := (decide (0 <= a_thing))) (c2 := (decide (a_thing <= 999))) (λ _ hq => ?_) (λ _ hq => ?_) (λ _ hq => v_le hq) (λ _ hq => ?_) (λ _ hq => v_le hq) ?_
   ·
    refine g_c ?_
    exact hq
   ·
    refine g_var rfl ?_
    exact hq
   ·
    refine g_c ?_
    exact hq
   exact hP4 _ _ hf (M.pk S8 0 [] rfl)
  ·
   exact hP4 _ _ hf (M.pk S8 0 [] rfl)
 intro c1 H12 hf S11
 exact hk _ _ hf (M.sub (.refl _) S11)
def p_are_signs (a_thing : (List Int)) (a_fewest : Int) (a_most : Int) (P : Bool -> Prop) : Prop := if ((!true) || (!((decide (a_fewest <= ((a_thing).length : Int))) && (decide (((a_thing).length : Int) <= a_most))))) = true then (P false) else (forD (λ (x4 : Int) (s1 : Unit) (k2 : (Unit) -> Prop) => p_is_sign x4 λ x8 => if (!x8) = true then (P false) else (k2 ())) a_thing () λ s1 => P true)
def sp_are_signs (K : Fr) : Sp := λ vs H Q _ => ∃ (Rs : List Res) (R_a_thing : Res) (v_a_thing : V) (a_thing : (List Int)) (a_fewest : Int) (a_most : Int) (P : Bool -> Prop), vs = [v_a_thing, (V.int a_fewest), (V.int a_most)] /\ Brw R_a_thing K v_a_thing ((eL eI) a_thing) /\ M (R_a_thing :: Rs) H /\ p_are_signs a_thing a_fewest a_most P /\ ∀ (r : Bool) H', P r -> M (R_a_thing :: Rs) H' -> Q (V.bl r) H'
theorem len_are_signs {K : Fr} (vs : List V) (H : Hp) (Q : VK) (E : XK) (h : sp_are_signs K vs H Q E) : vs.length = 3 := by
 obtain ⟨Rs, R_a_thing, v_a_thing, a_thing, a_fewest, a_most, P, rfl, _⟩ := h
 rfl
abbrev t_are_signs_4 (K : Fr) : TS := (tIfS (tNot (tB (tCall (sp_is_sign K) [] E0 (tCons (tVar 3) tNil)))) (tRet (tC (.bl false))) tNext)
abbrev t_are_signs_3 (K : Fr) : TS := (tSeq (tFor (iList K (tVar 0)) (gName 3) (t_are_signs_4 K))
 (tRet (tC (.bl true))))
abbrev t_are_signs_1 (K : Fr) : TS := (tSeq (tIfS (tOr (tNot (tB (tCB (uIsi K) (tCons (tVar 0) (tCons (tC (.ty "list")) tNil))))) (tNot (tTest (tChain uLe uLe (tVar 1) (tCB (uLen K) (tCons (tVar 0) tNil)) (tVar 2))))) (tRet (tC (.bl false))) tNext)
 (t_are_signs_3 K))
abbrev t_are_signs (K : Fr) : TS := (t_are_signs_1 K)
theorem pure_are_signs {K : Fr} (vs : List V) (H : Hp) (Q : VK) (E : XK) (h : sp_are_signs K vs H Q E) : t_are_signs K { nx := λ _ H' => Q .non H', rt := Q } (L2.start ["thing", "fewest", "most", "sign"] vs) H := by
 obtain ⟨Rs, R_a_thing, v_a_thing, a_thing, a_fewest, a_most, P, rfl, h_a_thing, S0, hf, hk⟩ := h
 show t_are_signs K _ [some v_a_thing, some (V.int a_fewest), some (V.int a_most), none] H
 refine g_seq (g_if (g_orP (c1 := (!true)) (c2 := (!((decide (a_fewest <= ((a_thing).length : Int))) && (decide (((a_thing).length : Int) <= a_most))))) (λ _ hq => ?_) (λ _ hq => ?_) ?_))
 ·
  refine g_not (g_B (g_cb (g_cons (g_var rfl (g_cons (g_c (g_nil (v_isq (Dq.dn (h_a_thing _ _ (M.at S0 0 rfl))) (by decide) (b := true) rfl (g_bl ?_)))))))))
  exact hq
 ·
  refine g_not (g_test (g_chainP (c1 := (decide (a_fewest <= ((a_thing).length : Int)))) (c2 := (decide (((a_thing).length : Int) <= a_most))) (λ _ hq => ?_) (λ _ hq => ?_) (λ _ hq => v_le hq) (λ _ hq => ?_) (λ _ hq => v_le hq) ?_))
  ·
   refine g_var rfl ?_
   exact hq
  ·
   refine g_cb (g_cons (g_var rfl (g_nil (v_lenN (h_a_thing _ _ (M.at S0 0 rfl)) ?_))))
   exact hq
  ·
   refine g_var rfl ?_
   exact hq
  refine g_bl ?_
  exact hq
 refine v_iff hf (λ _ hf => ?_) (λ _ hf => ?_)
 ·
  refine g_ret (g_c ?_)
  exact hk _ _ hf (M.pk S0 1 [0] rfl)
 ·
  refine g_next (g_nx (g_seq (g_for (g_iList (g_var rfl ?_)))))
  refine for_N flI (K := K) (β := Unit) hf (λ (s1 : Unit) σ H' => ∃ (o5 : Option V), σ = [some v_a_thing, some (V.int a_fewest), some (V.int a_most), o5] /\ M (R_a_thing :: Rs) H') ⟨_, rfl, (M.pk S0 1 [0] rfl)⟩ (λ _ _ _ h => by obtain ⟨_, _, S⟩ := h; exact h_a_thing _ _ (S.at 0 rfl)) ?_ ?_
  ·
   rintro x4 s1 _ H7 kk3 ⟨o5, rfl, S6⟩ hf
   refine g_name (g_if (g_not (g_B (g_call (g_cons (g_var rfl (g_nil (⟨_, _, _, rfl, S6, hf, λ x8 H10 hf (S9 : M (_ :: Rs) H10) => ?_⟩))))))))
   refine g_bl (v_iff hf (λ _ hf => ?_) (λ _ hf => ?_))
   ·
    refine g_ret (g_c ?_)
    exact hk _ _ hf (M.pk S9 1 [0] rfl)
   ·
    refine g_next ?_
    exact ⟨_, hf, _, rfl, (M.pk S9 1 [0] rfl)⟩
  rintro s1 _ H13 hf ⟨o5, rfl, S12⟩
  refine g_nx ?_
  show (_ : TS) _ [some v_a_thing, some (V.int a_fewest), some (V.int a_most), o5] _
  refine g_ret (g_c ?_)
  exact hk _ _ hf (M.sub (.cons 0 rfl (.refl _)) S12)
def p_is_content (a_thing : (List Int)) (P : Bool -> Prop) : Prop := p_are_signs a_thing 0 48 λ x1 => P x1
def sp_is_content (K : Fr) : Sp := λ vs H Q _ => ∃ (Rs : List Res) (R_a_thing : Res) (v_a_thing : V) (a_thing : (List Int)) (P : Bool -> Prop), vs = [v_a_thing] /\ Brw R_a_thing K v_a_thing ((eL eI) a_thing) /\ M (R_a_thing :: Rs) H /\ p_is_content a_thing P /\ ∀ (r : Bool) H', P r -> M (R_a_thing :: Rs) H' -> Q (V.bl r) H'
theorem len_is_content {K : Fr} (vs : List V) (H : Hp) (Q : VK) (E : XK) (h : sp_is_content K vs H Q E) : vs.length = 1 := by
 obtain ⟨Rs, R_a_thing, v_a_thing, a_thing, P, rfl, _⟩ := h
 rfl
abbrev t_is_content (K : Fr) : TS := (tRet (tCall (sp_are_signs K) [] E0 (tCons (tVar 0) (tCons (tC (.int 0)) (tCons (tC (.int 48)) tNil)))))
theorem pure_is_content {K : Fr} (vs : List V) (H : Hp) (Q : VK) (E : XK) (h : sp_is_content K vs H Q E) : t_is_content K { nx := λ _ H' => Q .non H', rt := Q } (L2.start ["thing"] vs) H := by
 obtain ⟨Rs, R_a_thing, v_a_thing, a_thing, P, rfl, h_a_thing, S0, hf, hk⟩ := h
 show t_is_content K _ [some v_a_thing] H
 refine g_ret (g_call (g_cons (g_var rfl (g_cons (g_c (g_cons (g_c (g_nil (⟨_, _, _, _, _, _, _, rfl, h_a_thing, (M.at S0 0 rfl), hf, λ x1 H3 hf (S2 : M (_ :: Rs) H3) => ?_⟩)))))))))
 exact hk _ _ hf (M.pk S2 1 [0] rfl)
def p_is_name (a_thing : Str) (P : Bool -> Prop) : Prop := jn (λ k5 => jn (λ k11 => ((a_thing).length <= 100000) /\ if (decide (1 <= ((a_thing).length : Int))) = true then (k11 (decide (((a_thing).length : Int) <= 8))) else (k11 false)) λ c7 => k5 (!c7)) λ c1 => if c1 = true then (P false) else (forD (λ (x21 : Str) (s18 : Unit) (k19 : (Unit) -> Prop) => ∃ c25, inSt x21 ("abcdefghijklmnopqrstuvwxyz" : Str) = some c25 /\ if (!c25) = true then (P false) else (k19 ())) (strL a_thing) () λ s18 => P true)
def sp_is_name (K : Fr) : Sp := λ vs H Q _ => ∃ (Rs : List Res) (a_thing : Str) (P : Bool -> Prop), vs = [(V.str a_thing)] /\ M (Rs) H /\ p_is_name a_thing P /\ ∀ (r : Bool) H', P r -> M (Rs) H' -> Q (V.bl r) H'
theorem len_is_name {K : Fr} (vs : List V) (H : Hp) (Q : VK) (E : XK) (h : sp_is_name K vs H Q E) : vs.length = 1 := by
 obtain ⟨Rs, a_thing, P, rfl, _⟩ := h
 rfl
abbrev t_is_name_4 (K : Fr) : TS := (tIfS (tTest (tOp (uNotIn K) (tVar 1) (tC (.str "abcdefghijklmnopqrstuvwxyz")))) (tRet (tC (.bl false))) tNext)
abbrev t_is_name_3 (K : Fr) : TS := (tSeq (tFor (iStr (tVar 0)) (gName 1) (t_is_name_4 K))
 (tRet (tC (.bl true))))
abbrev t_is_name_1 (K : Fr) : TS := (tSeq (tIfS (tOr (tNot (tB (tCB (uIsi K) (tCons (tVar 0) (tCons (tC (.ty "str")) tNil))))) (tNot (tTest (tChain uLe uLe (tC (.int 1)) (tCB (uLen K) (tCons (tVar 0) tNil)) (tC (.int 8)))))) (tRet (tC (.bl false))) tNext)
 (t_is_name_3 K))
abbrev t_is_name (K : Fr) : TS := (t_is_name_1 K)
theorem pure_is_name {K : Fr} (vs : List V) (H : Hp) (Q : VK) (E : XK) (h : sp_is_name K vs H Q E) : t_is_name K { nx := λ _ H' => Q .non H', rt := Q } (L2.start ["thing", "letter"] vs) H := by
 obtain ⟨Rs, a_thing, P, rfl, S0, hf, hk⟩ := h
 show t_is_name K _ [some (V.str a_thing), none] H
 refine g_seq (g_if ?_)
 refine tt_cut hf (λ H => M (Rs) H) (λ kk2 P3 hP4 hf => ?_) ?_
 ·
  refine g_or (g_not (g_B (g_cb (g_cons (g_var rfl (g_cons (g_c (g_nil (v_isq (.str _) (by decide) (b := true) rfl (g_bl (v_ifcF (by decide) (g_not (g_test ?_)))))))))))))
  refine te_cut hf (λ H => M (Rs) H) (λ kk8 P9 hP10 hf => ?_) ?_
  ·
   obtain ⟨h13, hf⟩ := hf
   refine g_chain (g_c (g_cb (g_cons (g_var rfl (g_nil (v_lenS h13 (v_le (g_bl (v_iff hf (λ _ hf => ?_) (λ _ hf => ?_))))))))))
   ·
    refine g_c (v_le ?_)
    exact hP10 _ _ hf (M.pk S0 0 [] rfl)
   ·
    exact hP10 _ _ hf (M.pk S0 0 [] rfl)
  intro c7 H15 hf S14
  refine g_bl ?_
  exact hP4 _ _ hf (M.sub (.refl _) S14)
 intro c1 H17 hf S16
 refine v_iff hf (λ _ hf => ?_) (λ _ hf => ?_)
 ·
  refine g_ret (g_c ?_)
  exact hk _ _ hf (M.sub (.refl _) S16)
 ·
  refine g_next (g_nx (g_seq (g_for (g_iStr (g_var rfl (⟨_, rfl, ?_⟩))))))
  refine for_str (β := Unit) hf (λ (s18 : Unit) σ H' => ∃ (o22 : Option V), σ = [some (V.str a_thing), o22] /\ M (Rs) H') ⟨_, rfl, (M.sub (.refl _) S16)⟩ ?_ ?_
  ·
   rintro x21 s18 _ H24 kk20 ⟨o22, rfl, S23⟩ hf
   obtain ⟨c25, h26, hf⟩ := hf
   refine g_name (g_if (g_test (g_op (g_var rfl (g_c (v_ninSt h26 (g_bl (v_iff hf (λ _ hf => ?_) (λ _ hf => ?_)))))))))
   ·
    refine g_ret (g_c ?_)
    exact hk _ _ hf (M.sub (.refl _) S23)
   ·
    refine g_next ?_
    exact ⟨_, hf, _, rfl, (M.sub (.refl _) S23)⟩
  rintro s18 _ H28 hf ⟨o22, rfl, S27⟩
  refine g_nx ?_
  show (_ : TS) _ [some (V.str a_thing), o22] _
  refine g_ret (g_c ?_)
  exact hk _ _ hf (M.sub (.refl _) S27)
def p_wanted (a_at : Int) (a_fits : Bool) (X : Ex -> Prop) (P : Unit -> Prop) : Prop := if (!a_fits) = true then (X (Ex.Wrong (eI a_at))) else (P ())
def sp_wanted (K : Fr) : Sp := λ vs H Q E => ∃ (Rs : List Res) (a_at : Int) (a_fits : Bool) (X : Ex -> Prop) (P : Unit -> Prop), vs = [(V.int a_at), (V.bl a_fits)] /\ M (Rs) H /\ p_wanted a_at a_fits X P /\ (∀ (x : Ex) (d : Addr) (v : V) H', X x -> M (pt d (.xd [(x.fld, v)]) :: da K v x.val :: Rs) H' -> E (.ref (He.ga K x.cls)) (some d) H') /\ ∀ (m0 : Unit) H', P m0 -> M (Rs) H' -> Q .non H'
theorem len_wanted {K : Fr} (vs : List V) (H : Hp) (Q : VK) (E : XK) (h : sp_wanted K vs H Q E) : vs.length = 2 := by
 obtain ⟨Rs, a_at, a_fits, X, P, rfl, _⟩ := h
 rfl
abbrev t_wanted_1 (K : Fr) (W : WX) : TS := (tIfS (tNot (tB (tVar 1))) (tRz W (He.ga K "Wrong") "at" (tVar 0)) tNext)
abbrev t_wanted (K : Fr) (W : WX) : TS := (t_wanted_1 K W)
theorem pure_wanted {K : Fr} (T : TxC K) (vs : List V) (H : Hp) (Q : VK) (E : XK) (h : sp_wanted K vs H Q E) : t_wanted K (WT E) { nx := λ _ H' => Q .non H', rt := Q } (L2.start ["at", "fits"] vs) H := by
 obtain ⟨Rs, a_at, a_fits, X, P, rfl, S0, hf, hX, hk⟩ := h
 show t_wanted K (WT E) _ [some (V.int a_at), some (V.bl a_fits)] H
 refine g_if (g_not (g_B (g_var rfl (g_bl (v_iff hf (λ _ hf => ?_) (λ _ hf => ?_))))))
 ·
  refine g_rz (g_var rfl ?_)
  have S1 : M (da K (V.int a_at) (eI a_at) :: Rs) H := M.addA S0 (EnF.all λ _ => .int (K := K) a_at)
  refine v_rz S1 λ d3 H5 (S4 : M (pt d3 (.xd [("at", (V.int a_at))]) :: _ :: Rs) H5) => ?_
  exact hX (Ex.Wrong (eI a_at)) d3 (V.int a_at) _ hf (M.pk S4 2 [0, 1] rfl)
 ·
  refine g_next ?_
  exact hk _ _ hf (M.pk S0 0 [] rfl)
def R_House (K : Fr) (a : Addr) (x : (List (Str × (List Int)))) : Res := exi λ (dx : Addr) => exi λ (p0 : Addr) => sp2 (pt a (.ins (He.ga K "House") dx [("signs_by", (.ref p0))])) (sp2 (pt dx (.own a)) (adR K iS (eL eI) p0 x))
theorem R_House_open {K : Fr} {a : Addr} {x : (List (Str × (List Int)))} {Rs : List Res} {H : Hp} (S : M (R_House K a x :: Rs) H) : ∃ (dx : Addr) (p0 : Addr), M (pt a (.ins (He.ga K "House") dx [("signs_by", (.ref p0))]) :: pt dx (.own a) :: adR K iS (eL eI) p0 x :: Rs) H := by
 obtain ⟨dx, S⟩ := S.ex
 obtain ⟨p0, S⟩ := S.ex
 exact ⟨dx, p0, M.spN3 S⟩
theorem R_House_close {K : Fr} {a : Addr} {x : (List (Str × (List Int)))} {Rs : List Res} {H : Hp} {dx : Addr} {p0 : Addr} (S : M (pt a (.ins (He.ga K "House") dx [("signs_by", (.ref p0))]) :: pt dx (.own a) :: adR K iS (eL eI) p0 x :: Rs) H) : M (R_House K a x :: Rs) H := M.ex' dx <| M.ex' p0 <| M.spM3 S
theorem v_R_House {K : Fr} {a : Addr} {x : (List (Str × (List Int)))} {Rs : List Res} {H : Hp} {W : WX} {m : Str} {sp : Sp} {dvs : List V} {t : TA} {σ : L2.St} {Q : VK} (S : M Rs H) (i : Nat) (e : Rs[i]? = some (R_House K a x)) (hm : ∀ (dx : Addr) (p0 : Addr), List.lookup m ([("signs_by", (.ref p0))] : List (Str × V)) = none)
   (k : t σ H λ vs H2 => sp (.ref a :: (vs ++ dvs)) H2 Q (WE W σ)) : MethK W (He.ga K "House") m sp dvs t σ Q (.ref a) H := by
 obtain ⟨dx, p0, S1⟩ := R_House_open (S.at i e)
 exact v_meth (S1.got 0 rfl) (hm dx p0) k
theorem i_R_House {K : Fr} {a : Addr} {x : (List (Str × (List Int)))} {Rs : List Res} {H : Hp} (S : M (R_House K a x :: Rs) H) : ∃ dx fs, H a = some (.ins (He.ga K "House") dx fs) := by
 obtain ⟨dx, p0, S1⟩ := R_House_open S
 exact ⟨_, _, S1.got 0 rfl⟩
theorem v_len_House {K : Fr} {a : Addr} {x : (List (Str × (List Int)))} {Rs : List Res} {H : Hp} {sp : Sp} {Q : VK} (S : M Rs H) (i : Nat) (e : Rs[i]? = some (R_House K a x)) (k : sp [.ref a] H (λ v H' => ∃ n : Int, v = .int n /\ 0 <= n /\ n < 2 ^ 63 /\ Q (.int n) H') E0) : rLenI (He.ga K "House") sp [.ref a] H Q := by
 obtain ⟨dx, p0, S1⟩ := R_House_open (S.at i e)
 exact ⟨a, _, _, rfl, S1.got 0 rfl, k⟩
def p_House___init__  (P : ((List (Str × (List Int)))) -> Prop) : Prop := P ([] : (List (Str × (List Int))))
def sp_House___init__ (K : Fr) : Sp := λ vs H Q _ => ∃ (Rs : List Res) (p_a_self d_a_self : Addr) (P : ((List (Str × (List Int)))) -> Prop), vs = [(V.ref p_a_self)] /\ M (pt p_a_self (.ins (He.ga K "House") d_a_self []) :: pt d_a_self (.own p_a_self) :: Rs) H /\ p_House___init__ P /\ ∀ (m0 : ((List (Str × (List Int))))) H', P m0 -> M (R_House K p_a_self m0 :: Rs) H' -> Q .non H'
theorem len_House___init__ {K : Fr} (vs : List V) (H : Hp) (Q : VK) (E : XK) (h : sp_House___init__ K vs H Q E) : vs.length = 1 := by
 obtain ⟨Rs, p_a_self, d_a_self, P, rfl, _⟩ := h
 rfl
abbrev t_House___init__ (K : Fr) : TS := (sFld K (tVar 0) tDNewK "signs_by")
theorem pure_House___init__ {K : Fr} (T : TxC K) (vs : List V) (H : Hp) (Q : VK) (E : XK) (h : sp_House___init__ K vs H Q E) : t_House___init__ K { nx := λ _ H' => Q .non H', rt := Q } (L2.start ["self"] vs) H := by
 obtain ⟨Rs, p_a_self, d_a_self, P, rfl, S0, hf, hk⟩ := h
 show t_House___init__ K _ [some (V.ref p_a_self)] H
 refine g_sfld (v_dnewo S0 λ p1 H3 (S2 : M (adR K iS (eL eI) p1 ([] : (List (Str × (List Int)))) :: oo2 Rs) H3) => ?_)
 refine g_var rfl (v_sfld S2 1 rfl T.cl_House T.na_House_signs_by (by simp) λ H6 (S5 : M (_ :: pt p_a_self (.ins (He.ga K "House") d_a_self [("signs_by", (V.ref p1))]) :: _ :: Rs) H6) => ?_)
 have S7 : M (R_House K p_a_self ([] : (List (Str × (List Int)))) :: Rs) H6 := R_House_close (M.pk S5 3 [1, 2, 0] rfl)
 exact hk _ _ hf (M.pk S7 1 [0] rfl)
def p_House___len__ (a_self : ((List (Str × (List Int))))) (P : Int -> Prop) : Prop := P ((a_self).length : Int)
def sp_House___len__ (K : Fr) : Sp := λ vs H Q _ => ∃ (Rs : List Res) (p_a_self : Addr) (a_self : ((List (Str × (List Int))))) (P : Int -> Prop), vs = [(V.ref p_a_self)] /\ M (R_House K p_a_self a_self :: Rs) H /\ p_House___len__ a_self P /\ ∀ (r : Int) H', P r -> M (R_House K p_a_self a_self :: Rs) H' -> Q (V.int r) H'
theorem len_House___len__ {K : Fr} (vs : List V) (H : Hp) (Q : VK) (E : XK) (h : sp_House___len__ K vs H Q E) : vs.length = 1 := by
 obtain ⟨Rs, p_a_self, a_self, P, rfl, _⟩ := h
 rfl
abbrev t_House___len__ (K : Fr) : TS := (tRet (tCB (uLen K) (tCons (tFld K (tVar 0) "signs_by") tNil)))
theorem pure_House___len__ {K : Fr} (T : TxC K) (vs : List V) (H : Hp) (Q : VK) (E : XK) (h : sp_House___len__ K vs H Q E) : t_House___len__ K { nx := λ _ H' => Q .non H', rt := Q } (L2.start ["self"] vs) H := by
 obtain ⟨Rs, p_a_self, a_self, P, rfl, S0, hf, hk⟩ := h
 show t_House___len__ K _ [some (V.ref p_a_self)] H
 obtain ⟨dx2, p3, (S1 : M (pt p_a_self (.ins (He.ga K "House") dx2 [("signs_by", (V.ref p3))]) :: pt dx2 (.own p_a_self) :: adR K iS (eL eI) p3 a_self :: Rs) H)⟩ := R_House_open (S0.at 0 rfl)
 refine g_ret (g_cb (g_cons (g_fld (g_var rfl (v_fld (S1.got 0 rfl) T.cl_House T.na_House_signs_by rfl (g_nil (DVs.len (M.dvO S1 2 rfl) ?_)))))))
 have S7 : M (R_House K p_a_self a_self :: Rs) H := R_House_close (M.pk S1 3 [0, 1, 2] rfl)
 exact hk _ _ hf (M.pk S7 1 [0] rfl)
def p_House_need_file (a_self : ((List (Str × (List Int))))) (a_name : Str) (X : Ex -> Prop) (P : Unit -> Prop) : Prop := if (!(lk a_self a_name).isSome) = true then (X (Ex.NoFile (eS a_name))) else (P ())
def sp_House_need_file (K : Fr) : Sp := λ vs H Q E => ∃ (Rs : List Res) (p_a_self : Addr) (a_self : ((List (Str × (List Int))))) (a_name : Str) (X : Ex -> Prop) (P : Unit -> Prop), vs = [(V.ref p_a_self), (V.str a_name)] /\ M (R_House K p_a_self a_self :: Rs) H /\ p_House_need_file a_self a_name X P /\ (∀ (x : Ex) (d : Addr) (v : V) H', X x -> M (pt d (.xd [(x.fld, v)]) :: da K v x.val :: R_House K p_a_self a_self :: Rs) H' -> E (.ref (He.ga K x.cls)) (some d) H') /\ ∀ (m0 : Unit) H', P m0 -> M (R_House K p_a_self a_self :: Rs) H' -> Q .non H'
theorem len_House_need_file {K : Fr} (vs : List V) (H : Hp) (Q : VK) (E : XK) (h : sp_House_need_file K vs H Q E) : vs.length = 2 := by
 obtain ⟨Rs, p_a_self, a_self, a_name, X, P, rfl, _⟩ := h
 rfl
abbrev t_House_need_file_1 (K : Fr) (W : WX) : TS := (tIfS (tTest (tOp (uNotIn K) (tVar 1) (tFld K (tVar 0) "signs_by"))) (tRz W (He.ga K "NoFile") "name" (tVar 1)) tNext)
abbrev t_House_need_file (K : Fr) (W : WX) : TS := (t_House_need_file_1 K W)
theorem pure_House_need_file {K : Fr} (T : TxC K) (vs : List V) (H : Hp) (Q : VK) (E : XK) (h : sp_House_need_file K vs H Q E) : t_House_need_file K (WT E) { nx := λ _ H' => Q .non H', rt := Q } (L2.start ["self", "name"] vs) H := by
 obtain ⟨Rs, p_a_self, a_self, a_name, X, P, rfl, S0, hf, hX, hk⟩ := h
 show t_House_need_file K (WT E) _ [some (V.ref p_a_self), some (V.str a_name)] H
 obtain ⟨dx2, p3, (S1 : M (pt p_a_self (.ins (He.ga K "House") dx2 [("signs_by", (V.ref p3))]) :: pt dx2 (.own p_a_self) :: adR K iS (eL eI) p3 a_self :: Rs) H)⟩ := R_House_open (S0.at 0 rfl)
 refine g_if (g_test (g_op (g_var rfl (g_fld (g_var rfl (v_fld (S1.got 0 rfl) T.cl_House T.na_House_signs_by rfl (d_ninS (M.dvO S1 2 rfl) (g_bl (v_iff hf (λ _ hf => ?_) (λ _ hf => ?_))))))))))
 ·
  refine g_rz (g_var rfl ?_)
  have S7 : M (da K (V.str a_name) (eS a_name) :: oo3 Rs) H := M.addA S1 (EnF.all λ _ => .str (K := K) a_name)
  refine v_rz S7 λ d9 H11 (S10 : M (pt d9 (.xd [("name", (V.str a_name))]) :: oo4 Rs) H11) => ?_
  have S13 : M (R_House K p_a_self a_self :: oo2 Rs) H11 := R_House_close (M.pk S10 5 [2, 3, 4, 0, 1] rfl)
  exact hX (Ex.NoFile (eS a_name)) d9 (V.str a_name) _ hf (M.pk S13 3 [1, 2, 0] rfl)
 ·
  refine g_next ?_
  have S14 : M (R_House K p_a_self a_self :: Rs) H := R_House_close (M.pk S1 3 [0, 1, 2] rfl)
  exact hk _ _ hf (M.pk S14 1 [0] rfl)
def p_House_names_of (a_self : ((List (Str × (List Int))))) (P : (List Str) -> Prop) : Prop := (ks a_self).length < 64 /\ P (srtS' (ks a_self))
def sp_House_names_of (K : Fr) : Sp := λ vs H Q _ => ∃ (Rs : List Res) (p_a_self : Addr) (a_self : ((List (Str × (List Int))))) (P : (List Str) -> Prop), vs = [(V.ref p_a_self)] /\ M (R_House K p_a_self a_self :: Rs) H /\ p_House_names_of a_self P /\ ∀ (r : (List Str)) (p : Addr) H', P r -> M (acR K p (r.map eS) :: R_House K p_a_self a_self :: Rs) H' -> Q (.ref p) H'
theorem len_House_names_of {K : Fr} (vs : List V) (H : Hp) (Q : VK) (E : XK) (h : sp_House_names_of K vs H Q E) : vs.length = 1 := by
 obtain ⟨Rs, p_a_self, a_self, P, rfl, _⟩ := h
 rfl
abbrev t_House_names_of (K : Fr) : TS := (tRet (tCB rSortDS (tCons (tFld K (tVar 0) "signs_by") tNil)))
theorem pure_House_names_of {K : Fr} (T : TxC K) (vs : List V) (H : Hp) (Q : VK) (E : XK) (h : sp_House_names_of K vs H Q E) : t_House_names_of K { nx := λ _ H' => Q .non H', rt := Q } (L2.start ["self"] vs) H := by
 obtain ⟨Rs, p_a_self, a_self, P, rfl, S0, hf, hk⟩ := h
 show t_House_names_of K _ [some (V.ref p_a_self)] H
 obtain ⟨dx2, p3, (S1 : M (pt p_a_self (.ins (He.ga K "House") dx2 [("signs_by", (V.ref p3))]) :: pt dx2 (.own p_a_self) :: adR K iS (eL eI) p3 a_self :: Rs) H)⟩ := R_House_open (S0.at 0 rfl)
 refine g_ret (g_cb (g_cons (g_fld (g_var rfl (v_fld (S1.got 0 rfl) T.cl_House T.na_House_signs_by rfl (g_nil ?_))))))
 obtain ⟨h7, hf⟩ := hf
 refine d_srtS (M.dvO S1 2 rfl) h7 λ p8 H10 (S9 : M (acR K p8 ((srtS' (ks a_self)).map eS) :: oo3 Rs) H10) => ?_
 have S12 : M (R_House K p_a_self a_self :: _ :: Rs) H10 := R_House_close (M.pk S9 4 [1, 2, 3, 0] rfl)
 exact hk _ _ _ hf (M.pk S12 2 [1, 0] rfl)
def p_House_write (a_self : ((List (Str × (List Int))))) (a_name : Str) (a_content : (List Int)) (X : Ex -> ((List (Str × (List Int)))) -> Prop) (P : ((List (Str × (List Int)))) -> Prop) : Prop := p_is_name a_name λ x1 => p_wanted 0 x1 (λ x9 => X x9 a_self) λ _u5 => p_is_content a_content λ x16 => p_wanted 1 x16 (λ x24 => X x24 a_self) λ _u20 => if ((!(lk a_self a_name).isSome) && (decide (((a_self).length : Int) = 8))) = true then (X (Ex.TooMany (eI 8)) a_self) else ((a_self).length < 100000 /\ P (pk a_self a_name a_content))
def sp_House_write (K : Fr) : Sp := λ vs H Q E => ∃ (Rs : List Res) (p_a_self : Addr) (a_self : ((List (Str × (List Int))))) (a_name : Str) (R_a_content : Res) (v_a_content : V) (a_content : (List Int)) (X : Ex -> ((List (Str × (List Int)))) -> Prop) (P : ((List (Str × (List Int)))) -> Prop), vs = [(V.ref p_a_self), (V.str a_name), v_a_content] /\ Brw R_a_content K v_a_content ((eL eI) a_content) /\ M (R_House K p_a_self a_self :: R_a_content :: Rs) H /\ p_House_write a_self a_name a_content X P /\ (∀ (x : Ex) (m0 : ((List (Str × (List Int))))) (d : Addr) (v : V) H', X x m0 -> M (pt d (.xd [(x.fld, v)]) :: da K v x.val :: R_House K p_a_self m0 :: R_a_content :: Rs) H' -> E (.ref (He.ga K x.cls)) (some d) H') /\ ∀ (m0 : ((List (Str × (List Int))))) H', P m0 -> M (R_House K p_a_self m0 :: R_a_content :: Rs) H' -> Q .non H'
theorem len_House_write {K : Fr} (vs : List V) (H : Hp) (Q : VK) (E : XK) (h : sp_House_write K vs H Q E) : vs.length = 3 := by
 obtain ⟨Rs, p_a_self, a_self, a_name, R_a_content, v_a_content, a_content, X, P, rfl, _⟩ := h
 rfl
abbrev t_House_write_3 (K : Fr) (W : WX) : TS := (tSeq (tIfS (tAnd (tTest (tOp (uNotIn K) (tVar 1) (tFld K (tVar 0) "signs_by"))) (tTest (tOp (uEq K) (tCB (uLen K) (tCons (tFld K (tVar 0) "signs_by") tNil)) (tC (.int 8))))) (tRz W (He.ga K "TooMany") "most" (tC (.int 8))) tNext)
 (tAsg (tCB (rListOf K) (tCons (tVar 2) tNil)) (gSub (tFld K (tVar 0) "signs_by") (tVar 1) uSet)))
abbrev t_House_write_2 (K : Fr) (W : WX) : TS := (tSeq (tDrop (tCallW W (sp_wanted K) [] (tCons (tC (.int 1)) (tCons (tCall (sp_is_content K) [] E0 (tCons (tVar 2) tNil)) tNil))))
 (t_House_write_3 K W))
abbrev t_House_write_1 (K : Fr) (W : WX) : TS := (tSeq (tDrop (tCallW W (sp_wanted K) [] (tCons (tC (.int 0)) (tCons (tCall (sp_is_name K) [] E0 (tCons (tVar 1) tNil)) tNil))))
 (t_House_write_2 K W))
abbrev t_House_write (K : Fr) (W : WX) : TS := (t_House_write_1 K W)
theorem pure_House_write {K : Fr} (T : TxC K) (vs : List V) (H : Hp) (Q : VK) (E : XK) (h : sp_House_write K vs H Q E) : t_House_write K (WT E) { nx := λ _ H' => Q .non H', rt := Q } (L2.start ["self", "name", "content"] vs) H := by
 obtain ⟨Rs, p_a_self, a_self, a_name, R_a_content, v_a_content, a_content, X, P, rfl, h_a_content, S0, hf, hX, hk⟩ := h
 show t_House_write K (WT E) _ [some (V.ref p_a_self), some (V.str a_name), some v_a_content] H
 refine g_seq (g_drop (g_callW (g_cons (g_c (g_cons (g_call (g_cons (g_var rfl (g_nil (⟨_, _, _, rfl, S0, hf, λ x1 H3 hf (S2 : M (oo2 Rs) H3) => ?_⟩))))))))))
 refine g_nil (⟨_, _, _, _, _, rfl, S2, hf, λ x9 d10 v11 H13 hf (S12 : M (pt d10 (.xd [(x9.fld, v11)]) :: da K v11 x9.val :: oo2 Rs) H13) => ?_, λ _u5 H7 hf (S6 : M (oo2 Rs) H7) => ?_⟩)
 ·
  exact hX x9 _ d10 v11 _ hf (M.pk S12 4 [0, 1, 2, 3] rfl)
 refine g_nx ?_
 show (_ : TS) _ [some (V.ref p_a_self), some (V.str a_name), some v_a_content] _
 refine g_seq (g_drop (g_callW (g_cons (g_c (g_cons (g_call (g_cons (g_var rfl (g_nil (⟨_, _, _, _, _, rfl, h_a_content, (M.at S6 1 rfl), hf, λ x16 H18 hf (S17 : M (oo2 Rs) H18) => ?_⟩))))))))))
 refine g_nil (⟨_, _, _, _, _, rfl, S17, hf, λ x24 d25 v26 H28 hf (S27 : M (pt d25 (.xd [(x24.fld, v26)]) :: da K v26 x24.val :: oo2 Rs) H28) => ?_, λ _u20 H22 hf (S21 : M (oo2 Rs) H22) => ?_⟩)
 ·
  exact hX x24 _ d25 v26 _ hf (M.pk S27 4 [0, 1, 3, 2] rfl)
 refine g_nx ?_
 show (_ : TS) _ [some (V.ref p_a_self), some (V.str a_name), some v_a_content] _
 obtain ⟨dx32, p33, (S31 : M (pt p_a_self (.ins (He.ga K "House") dx32 [("signs_by", (V.ref p33))]) :: pt dx32 (.own p_a_self) :: adR K iS (eL eI) p33 a_self :: _ :: Rs) H22)⟩ := R_House_open (S21.at 1 rfl)
 refine g_seq (g_if (g_andP (c1 := (!(lk a_self a_name).isSome)) (c2 := (decide (((a_self).length : Int) = 8))) (λ _ hq => ?_) (λ _ hq => ?_) ?_))
 ·
  refine g_test (g_op (g_var rfl (g_fld (g_var rfl (v_fld (S31.got 0 rfl) T.cl_House T.na_House_signs_by rfl (d_ninS (M.dvO S31 2 rfl) (g_bl ?_)))))))
  exact hq
 ·
  refine g_test (g_op (g_cb (g_cons (g_fld (g_var rfl (v_fld (S31.got 0 rfl) T.cl_House T.na_House_signs_by rfl (g_nil (DVs.len (M.dvO S31 2 rfl) (g_c (v_eqI (g_bl ?_)))))))))))
  exact hq
 refine v_iff hf (λ _ hf => ?_) (λ _ hf => ?_)
 ·
  refine g_rz (g_c ?_)
  have S37 : M (da K (V.int 8) (eI 8) :: oo4 Rs) H22 := M.addA S31 (EnF.all λ _ => .int (K := K) 8)
  refine v_rz S37 λ d39 H41 (S40 : M (pt d39 (.xd [("most", (V.int 8))]) :: oo5 Rs) H41) => ?_
  have S43 : M (R_House K p_a_self a_self :: oo3 Rs) H41 := R_House_close (M.pk S40 6 [2, 3, 4, 0, 1, 5] rfl)
  exact hX (Ex.TooMany (eI 8)) _ d39 (V.int 8) _ hf (M.pk S43 4 [1, 2, 0, 3] rfl)
 ·
  refine g_next (g_nx (g_asgX (g_cb (g_cons (g_var rfl (g_nil (v_liN flI S31 (h_a_content _ _ (M.at S31 3 rfl)) λ p44 H46 (S45 : M (acR K p44 (a_content.map eI) :: oo4 Rs) H46) => ?_)))))))
  have S48 : M (da K (V.ref p44) ((eL eI) a_content) :: oo4 Rs) H46 := acR_fixL S45
  refine g_sub (g_fld (g_var rfl (v_fld (S48.got 1 rfl) T.cl_House T.na_House_signs_by rfl (g_var rfl ?_))))
  obtain ⟨h50, hf⟩ := hf
  refine v_putdS (e := (eL eI)) (x := a_content) S48 3 rfl (EnF.at 0 rfl) h50 λ H52 (S51 : M (adR K iS (eL eI) p33 (pk a_self a_name a_content) :: oo4 Rs) H52) => ?_
  have S54 : M (R_House K p_a_self (pk a_self a_name a_content) :: oo2 Rs) H52 := R_House_close (M.pk S51 5 [2, 3, 0, 1, 4] rfl)
  exact hk _ _ hf (M.pk S54 3 [0, 2] rfl)
def p_House_content (a_self : ((List (Str × (List Int))))) (a_name : Str) (X : Ex -> Prop) (P : (List Int) -> Prop) : Prop := p_is_name a_name λ x1 => p_wanted 0 x1 (λ x9 => X x9) λ _u5 => p_House_need_file a_self a_name (λ x20 => X x20) λ _u16 => ∃ x33, lk a_self a_name = some x33 /\ P x33
def sp_House_content (K : Fr) : Sp := λ vs H Q E => ∃ (Rs : List Res) (p_a_self : Addr) (a_self : ((List (Str × (List Int))))) (a_name : Str) (X : Ex -> Prop) (P : (List Int) -> Prop), vs = [(V.ref p_a_self), (V.str a_name)] /\ M (R_House K p_a_self a_self :: Rs) H /\ p_House_content a_self a_name X P /\ (∀ (x : Ex) (d : Addr) (v : V) H', X x -> M (pt d (.xd [(x.fld, v)]) :: da K v x.val :: R_House K p_a_self a_self :: Rs) H' -> E (.ref (He.ga K x.cls)) (some d) H') /\ ∀ (r : (List Int)) (p : Addr) H', P r -> M (acR K p (r.map eI) :: R_House K p_a_self a_self :: Rs) H' -> Q (.ref p) H'
theorem len_House_content {K : Fr} (vs : List V) (H : Hp) (Q : VK) (E : XK) (h : sp_House_content K vs H Q E) : vs.length = 2 := by
 obtain ⟨Rs, p_a_self, a_self, a_name, X, P, rfl, _⟩ := h
 rfl
abbrev t_House_content_2 (K : Fr) (W : WX) : TS := (tSeq (tDrop (tMethW W (He.ga K "House") "need_file" (sp_House_need_file K) [] (tVar 0) (tCons (tVar 1) tNil)))
 (tRet (tCB (rListOf K) (tCons (tOp rIxK (tFld K (tVar 0) "signs_by") (tVar 1)) tNil))))
abbrev t_House_content_1 (K : Fr) (W : WX) : TS := (tSeq (tDrop (tCallW W (sp_wanted K) [] (tCons (tC (.int 0)) (tCons (tCall (sp_is_name K) [] E0 (tCons (tVar 1) tNil)) tNil))))
 (t_House_content_2 K W))
abbrev t_House_content (K : Fr) (W : WX) : TS := (t_House_content_1 K W)
theorem pure_House_content {K : Fr} (T : TxC K) (vs : List V) (H : Hp) (Q : VK) (E : XK) (h : sp_House_content K vs H Q E) : t_House_content K (WT E) { nx := λ _ H' => Q .non H', rt := Q } (L2.start ["self", "name"] vs) H := by
 obtain ⟨Rs, p_a_self, a_self, a_name, X, P, rfl, S0, hf, hX, hk⟩ := h
 show t_House_content K (WT E) _ [some (V.ref p_a_self), some (V.str a_name)] H
 refine g_seq (g_drop (g_callW (g_cons (g_c (g_cons (g_call (g_cons (g_var rfl (g_nil (⟨_, _, _, rfl, S0, hf, λ x1 H3 hf (S2 : M (_ :: Rs) H3) => ?_⟩))))))))))
 refine g_nil (⟨_, _, _, _, _, rfl, S2, hf, λ x9 d10 v11 H13 hf (S12 : M (pt d10 (.xd [(x9.fld, v11)]) :: da K v11 x9.val :: _ :: Rs) H13) => ?_, λ _u5 H7 hf (S6 : M (_ :: Rs) H7) => ?_⟩)
 ·
  exact hX x9 d10 v11 _ hf (M.pk S12 3 [0, 1, 2] rfl)
 refine g_nx ?_
 show (_ : TS) _ [some (V.ref p_a_self), some (V.str a_name)] _
 refine g_seq (g_drop (g_meth (g_var rfl (v_R_House S6 0 rfl (λ _ _ => rfl) (g_cons (g_var rfl (g_nil (⟨_, _, _, _, _, _, rfl, (M.at S6 0 rfl), hf, λ x20 d21 v22 H24 hf (S23 : M (pt d21 (.xd [(x20.fld, v22)]) :: da K v22 x20.val :: _ :: Rs) H24) => ?_, λ _u16 H18 hf (S17 : M (_ :: Rs) H18) => ?_⟩))))))))
 ·
  exact hX x20 d21 v22 _ hf (M.pk S23 3 [0, 1, 2] rfl)
 refine g_nx ?_
 show (_ : TS) _ [some (V.ref p_a_self), some (V.str a_name)] _
 obtain ⟨dx28, p29, (S27 : M (pt p_a_self (.ins (He.ga K "House") dx28 [("signs_by", (V.ref p29))]) :: pt dx28 (.own p_a_self) :: adR K iS (eL eI) p29 a_self :: Rs) H18)⟩ := R_House_open (S17.at 0 rfl)
 refine g_ret (g_cb (g_cons (g_op (g_fld (g_var rfl (v_fld (S27.got 0 rfl) T.cl_House T.na_House_signs_by rfl (g_var rfl ?_)))))))
 obtain ⟨x33, h34, hf⟩ := hf
 refine d_ixS (M.dvO S27 2 rfl) h34 λ u35 S36 => ?_
 refine g_nil (v_liN flI S36 (M.gotA S36 0 rfl) λ p38 H40 (S39 : M (acR K p38 (x33.map eI) :: da K u35 ((eL eI) x33) :: oo3 Rs) H40) => ?_)
 have S42 : M (R_House K p_a_self a_self :: oo2 Rs) H40 := R_House_close (M.pk S39 5 [2, 3, 4, 0, 1] rfl)
 exact hk _ _ _ hf (M.pk S42 3 [1, 0] rfl)
def p_House_contents (a_self : ((List (Str × (List Int))))) (P : (List (Str × (List Int))) -> Prop) : Prop := (ks a_self).length < 64 /\ ((srtS' (ks a_self))).length <= 100000 /\ dcD (λ (x16 : Str) (acc13 : List (Str × (List Int))) (k23 : Option (Str × (List Int)) -> Prop) => ∃ x30, lk a_self x16 = some x30 /\ lk acc13 x16 = none /\ k23 (some (x16, x30))) (srtS' (ks a_self)) [] λ acc13 => P acc13
def sp_House_contents (K : Fr) : Sp := λ vs H Q _ => ∃ (Rs : List Res) (p_a_self : Addr) (a_self : ((List (Str × (List Int))))) (P : (List (Str × (List Int))) -> Prop), vs = [(V.ref p_a_self)] /\ M (R_House K p_a_self a_self :: Rs) H /\ p_House_contents a_self P /\ ∀ (r : (List (Str × (List Int)))) (p : Addr) H', P r -> M (adoR p r :: R_House K p_a_self a_self :: Rs) H' -> Q (.ref p) H'
theorem len_House_contents {K : Fr} (vs : List V) (H : Hp) (Q : VK) (E : XK) (h : sp_House_contents K vs H Q E) : vs.length = 1 := by
 obtain ⟨Rs, p_a_self, a_self, P, rfl, _⟩ := h
 rfl
abbrev t_House_contents (K : Fr) : TS := (tRet (tDc (iList K (tCB rSortDS (tCons (tFld K (tVar 0) "signs_by") tNil))) (gName 1) tYes (tVar 1) (tCB (rListOf K) (tCons (tOp rIxK (tFld K (tVar 0) "signs_by") (tVar 1)) tNil)) [1]))
theorem pure_House_contents {K : Fr} (T : TxC K) (vs : List V) (H : Hp) (Q : VK) (E : XK) (h : sp_House_contents K vs H Q E) : t_House_contents K { nx := λ _ H' => Q .non H', rt := Q } (L2.start ["self", "name"] vs) H := by
 obtain ⟨Rs, p_a_self, a_self, P, rfl, S0, hf, hk⟩ := h
 show t_House_contents K _ [some (V.ref p_a_self), none] H
 obtain ⟨dx2, p3, (S1 : M (pt p_a_self (.ins (He.ga K "House") dx2 [("signs_by", (V.ref p3))]) :: pt dx2 (.own p_a_self) :: adR K iS (eL eI) p3 a_self :: Rs) H)⟩ := R_House_open (S0.at 0 rfl)
 refine g_ret (g_dc (g_iList (g_cb (g_cons (g_fld (g_var rfl (v_fld (S1.got 0 rfl) T.cl_House T.na_House_signs_by rfl (g_nil ?_))))))))
 obtain ⟨h7, hf⟩ := hf
 refine d_srtS (M.dvO S1 2 rfl) h7 λ p8 H10 (S9 : M (acR K p8 ((srtS' (ks a_self)).map eS) :: oo3 Rs) H10) => ?_
 have S12 : M (R_House K p_a_self a_self :: _ :: Rs) H10 := R_House_close (M.pk S9 4 [1, 2, 3, 0] rfl)
 refine dc_G flS adoR (λ _ _ S => ado_new S) (K := K) hf S12 (λ _ S => S.gotO 1 rfl) (λ x16 acc13 E14 H22 kk15 N17 hl18 S21 hf hp19 hn20 => ?_) (λ E14 acc13 H44 hf (S43 : M (adoR E14 acc13 :: oo2 Rs) H44) => ?_)
 ·
  obtain ⟨dx25, p26, (S24 : M (pt p_a_self (.ins (He.ga K "House") dx25 [("signs_by", (V.ref p26))]) :: pt dx25 (.own p_a_self) :: adR K iS (eL eI) p26 a_self :: adoR E14 acc13 :: _ :: Rs) H22)⟩ := R_House_open (S21.at 1 rfl)
  refine g_name (g_wipe rfl (g_yes (v_ifT (g_var rfl (g_cb (g_cons (g_op (g_fld (g_var rfl (v_fld (S24.got 0 rfl) T.cl_House T.na_House_signs_by rfl (g_var rfl ?_)))))))))))
  obtain ⟨x30, h31, hf⟩ := hf
  refine d_ixS (M.dvO S24 2 rfl) h31 λ u32 S33 => ?_
  refine g_nil (v_liN flI S33 (M.gotA S33 0 rfl) λ p35 H37 (S36 : M (acR K p35 (x30.map eI) :: da K u32 ((eL eI) x30) :: oo5 Rs) H37) => ?_)
  have S39 : M (R_House K p_a_self a_self :: oo4 Rs) H37 := R_House_close (M.pk S36 7 [2, 3, 4, 0, 1, 5, 6] rfl)
  obtain ⟨h40, hf⟩ := hf
  refine v_dcO (M.pk S39 5 [1, 3, 0, 2, 4] rfl) h40 hl18 λ H42 (S41 : M (adoR E14 (pk acc13 x16 x30) :: oo3 Rs) H42) => ?_
  exact hp19 (_, _) _ hf (M.pk S41 4 [0, 1, 3] rfl)
 exact hk _ _ _ hf (M.pk S43 3 [0, 1] rfl)
def p_House_drop (a_self : ((List (Str × (List Int))))) (a_name : Str) (X : Ex -> ((List (Str × (List Int)))) -> Prop) (P : ((List (Str × (List Int)))) -> Prop) : Prop := p_is_name a_name λ x1 => p_wanted 0 x1 (λ x9 => X x9 a_self) λ _u5 => p_House_need_file a_self a_name (λ x20 => X x20 a_self) λ _u16 => ∃ x33, lk a_self a_name = some x33 /\ P (dk a_self a_name)
def sp_House_drop (K : Fr) : Sp := λ vs H Q E => ∃ (Rs : List Res) (p_a_self : Addr) (a_self : ((List (Str × (List Int))))) (a_name : Str) (X : Ex -> ((List (Str × (List Int)))) -> Prop) (P : ((List (Str × (List Int)))) -> Prop), vs = [(V.ref p_a_self), (V.str a_name)] /\ M (R_House K p_a_self a_self :: Rs) H /\ p_House_drop a_self a_name X P /\ (∀ (x : Ex) (m0 : ((List (Str × (List Int))))) (d : Addr) (v : V) H', X x m0 -> M (pt d (.xd [(x.fld, v)]) :: da K v x.val :: R_House K p_a_self m0 :: Rs) H' -> E (.ref (He.ga K x.cls)) (some d) H') /\ ∀ (m0 : ((List (Str × (List Int))))) H', P m0 -> M (R_House K p_a_self m0 :: Rs) H' -> Q .non H'
theorem len_House_drop {K : Fr} (vs : List V) (H : Hp) (Q : VK) (E : XK) (h : sp_House_drop K vs H Q E) : vs.length = 2 := by
 obtain ⟨Rs, p_a_self, a_self, a_name, X, P, rfl, _⟩ := h
 rfl
abbrev t_House_drop_2 (K : Fr) (W : WX) : TS := (tSeq (tDrop (tMethW W (He.ga K "House") "need_file" (sp_House_need_file K) [] (tVar 0) (tCons (tVar 1) tNil)))
 (tDrop (tDPop1 (tFld K (tVar 0) "signs_by") (tVar 1))))
abbrev t_House_drop_1 (K : Fr) (W : WX) : TS := (tSeq (tDrop (tCallW W (sp_wanted K) [] (tCons (tC (.int 0)) (tCons (tCall (sp_is_name K) [] E0 (tCons (tVar 1) tNil)) tNil))))
 (t_House_drop_2 K W))
abbrev t_House_drop (K : Fr) (W : WX) : TS := (t_House_drop_1 K W)
theorem pure_House_drop {K : Fr} (T : TxC K) (vs : List V) (H : Hp) (Q : VK) (E : XK) (h : sp_House_drop K vs H Q E) : t_House_drop K (WT E) { nx := λ _ H' => Q .non H', rt := Q } (L2.start ["self", "name"] vs) H := by
 obtain ⟨Rs, p_a_self, a_self, a_name, X, P, rfl, S0, hf, hX, hk⟩ := h
 show t_House_drop K (WT E) _ [some (V.ref p_a_self), some (V.str a_name)] H
 refine g_seq (g_drop (g_callW (g_cons (g_c (g_cons (g_call (g_cons (g_var rfl (g_nil (⟨_, _, _, rfl, S0, hf, λ x1 H3 hf (S2 : M (_ :: Rs) H3) => ?_⟩))))))))))
 refine g_nil (⟨_, _, _, _, _, rfl, S2, hf, λ x9 d10 v11 H13 hf (S12 : M (pt d10 (.xd [(x9.fld, v11)]) :: da K v11 x9.val :: _ :: Rs) H13) => ?_, λ _u5 H7 hf (S6 : M (_ :: Rs) H7) => ?_⟩)
 ·
  exact hX x9 _ d10 v11 _ hf (M.pk S12 3 [0, 1, 2] rfl)
 refine g_nx ?_
 show (_ : TS) _ [some (V.ref p_a_self), some (V.str a_name)] _
 refine g_seq (g_drop (g_meth (g_var rfl (v_R_House S6 0 rfl (λ _ _ => rfl) (g_cons (g_var rfl (g_nil (⟨_, _, _, _, _, _, rfl, (M.at S6 0 rfl), hf, λ x20 d21 v22 H24 hf (S23 : M (pt d21 (.xd [(x20.fld, v22)]) :: da K v22 x20.val :: _ :: Rs) H24) => ?_, λ _u16 H18 hf (S17 : M (_ :: Rs) H18) => ?_⟩))))))))
 ·
  exact hX x20 _ d21 v22 _ hf (M.pk S23 3 [0, 1, 2] rfl)
 refine g_nx ?_
 show (_ : TS) _ [some (V.ref p_a_self), some (V.str a_name)] _
 obtain ⟨dx28, p29, (S27 : M (pt p_a_self (.ins (He.ga K "House") dx28 [("signs_by", (V.ref p29))]) :: pt dx28 (.own p_a_self) :: adR K iS (eL eI) p29 a_self :: Rs) H18)⟩ := R_House_open (S17.at 0 rfl)
 refine g_drop (g_dpop (g_fld (g_var rfl (v_fld (S27.got 0 rfl) T.cl_House T.na_House_signs_by rfl (v_dpopA S27 2 rfl (g_var rfl ?_))))))
 obtain ⟨x33, h34, hf⟩ := hf
 refine v_popAS S27 2 rfl h34 λ u35 H37 (S36 : M (da K u35 ((eL eI) x33) :: adR K iS (eL eI) p29 (dk a_self a_name) :: oo2 Rs) H37) => ?_
 have S40 : M (R_House K p_a_self (dk a_self a_name) :: _ :: Rs) H37 := R_House_close (M.pk S36 4 [2, 3, 1, 0] rfl)
 exact hk _ _ hf (M.pk S40 2 [0] rfl)
def p_House_move (a_self : ((List (Str × (List Int))))) (a_name : Str) (a_new : Str) (X : Ex -> ((List (Str × (List Int)))) -> Prop) (P : ((List (Str × (List Int)))) -> Prop) : Prop := p_is_name a_name λ x1 => p_wanted 0 x1 (λ x9 => X x9 a_self) λ _u5 => p_is_name a_new λ x16 => p_wanted 1 x16 (λ x24 => X x24 a_self) λ _u20 => p_House_need_file a_self a_name (λ x35 => X x35 a_self) λ _u31 => if ((lk a_self a_new).isSome) = true then (X (Ex.There (eS a_new)) a_self) else (∃ x55, lk a_self a_name = some x55 /\ ((dk a_self a_name)).length < 100000 /\ P (pk (dk a_self a_name) a_new x55))
def sp_House_move (K : Fr) : Sp := λ vs H Q E => ∃ (Rs : List Res) (p_a_self : Addr) (a_self : ((List (Str × (List Int))))) (a_name : Str) (a_new : Str) (X : Ex -> ((List (Str × (List Int)))) -> Prop) (P : ((List (Str × (List Int)))) -> Prop), vs = [(V.ref p_a_self), (V.str a_name), (V.str a_new)] /\ M (R_House K p_a_self a_self :: Rs) H /\ p_House_move a_self a_name a_new X P /\ (∀ (x : Ex) (m0 : ((List (Str × (List Int))))) (d : Addr) (v : V) H', X x m0 -> M (pt d (.xd [(x.fld, v)]) :: da K v x.val :: R_House K p_a_self m0 :: Rs) H' -> E (.ref (He.ga K x.cls)) (some d) H') /\ ∀ (m0 : ((List (Str × (List Int))))) H', P m0 -> M (R_House K p_a_self m0 :: Rs) H' -> Q .non H'
theorem len_House_move {K : Fr} (vs : List V) (H : Hp) (Q : VK) (E : XK) (h : sp_House_move K vs H Q E) : vs.length = 3 := by
 obtain ⟨Rs, p_a_self, a_self, a_name, a_new, X, P, rfl, _⟩ := h
 rfl
abbrev t_House_move_4 (K : Fr) (W : WX) : TS := (tSeq (tIfS (tTest (tOp (uIn K) (tVar 2) (tFld K (tVar 0) "signs_by"))) (tRz W (He.ga K "There") "thing" (tVar 2)) tNext)
 (tAsg (tDPop1 (tFld K (tVar 0) "signs_by") (tVar 1)) (gSub (tFld K (tVar 0) "signs_by") (tVar 2) uSet)))
abbrev t_House_move_3 (K : Fr) (W : WX) : TS := (tSeq (tDrop (tMethW W (He.ga K "House") "need_file" (sp_House_need_file K) [] (tVar 0) (tCons (tVar 1) tNil)))
 (t_House_move_4 K W))
abbrev t_House_move_2 (K : Fr) (W : WX) : TS := (tSeq (tDrop (tCallW W (sp_wanted K) [] (tCons (tC (.int 1)) (tCons (tCall (sp_is_name K) [] E0 (tCons (tVar 2) tNil)) tNil))))
 (t_House_move_3 K W))
abbrev t_House_move_1 (K : Fr) (W : WX) : TS := (tSeq (tDrop (tCallW W (sp_wanted K) [] (tCons (tC (.int 0)) (tCons (tCall (sp_is_name K) [] E0 (tCons (tVar 1) tNil)) tNil))))
 (t_House_move_2 K W))
abbrev t_House_move (K : Fr) (W : WX) : TS := (t_House_move_1 K W)
theorem pure_House_move {K : Fr} (T : TxC K) (vs : List V) (H : Hp) (Q : VK) (E : XK) (h : sp_House_move K vs H Q E) : t_House_move K (WT E) { nx := λ _ H' => Q .non H', rt := Q } (L2.start ["self", "name", "new"] vs) H := by
 obtain ⟨Rs, p_a_self, a_self, a_name, a_new, X, P, rfl, S0, hf, hX, hk⟩ := h
 show t_House_move K (WT E) _ [some (V.ref p_a_self), some (V.str a_name), some (V.str a_new)] H
 refine g_seq (g_drop (g_callW (g_cons (g_c (g_cons (g_call (g_cons (g_var rfl (g_nil (⟨_, _, _, rfl, S0, hf, λ x1 H3 hf (S2 : M (_ :: Rs) H3) => ?_⟩))))))))))
 refine g_nil (⟨_, _, _, _, _, rfl, S2, hf, λ x9 d10 v11 H13 hf (S12 : M (pt d10 (.xd [(x9.fld, v11)]) :: da K v11 x9.val :: _ :: Rs) H13) => ?_, λ _u5 H7 hf (S6 : M (_ :: Rs) H7) => ?_⟩)
 ·
  exact hX x9 _ d10 v11 _ hf (M.pk S12 3 [0, 1, 2] rfl)
 refine g_nx ?_
 show (_ : TS) _ [some (V.ref p_a_self), some (V.str a_name), some (V.str a_new)] _
 refine g_seq (g_drop (g_callW (g_cons (g_c (g_cons (g_call (g_cons (g_var rfl (g_nil (⟨_, _, _, rfl, S6, hf, λ x16 H18 hf (S17 : M (_ :: Rs) H18) => ?_⟩))))))))))
 refine g_nil (⟨_, _, _, _, _, rfl, S17, hf, λ x24 d25 v26 H28 hf (S27 : M (pt d25 (.xd [(x24.fld, v26)]) :: da K v26 x24.val :: _ :: Rs) H28) => ?_, λ _u20 H22 hf (S21 : M (_ :: Rs) H22) => ?_⟩)
 ·
  exact hX x24 _ d25 v26 _ hf (M.pk S27 3 [0, 1, 2] rfl)
 refine g_nx ?_
 show (_ : TS) _ [some (V.ref p_a_self), some (V.str a_name), some (V.str a_new)] _
 refine g_seq (g_drop (g_meth (g_var rfl (v_R_House S21 0 rfl (λ _ _ => rfl) (g_cons (g_var rfl (g_nil (⟨_, _, _, _, _, _, rfl, (M.at S21 0 rfl), hf, λ x35 d36 v37 H39 hf (S38 : M (pt d36 (.xd [(x35.fld, v37)]) :: da K v37 x35.val :: _ :: Rs) H39) => ?_, λ _u31 H33 hf (S32 : M (_ :: Rs) H33) => ?_⟩))))))))
 ·
  exact hX x35 _ d36 v37 _ hf (M.pk S38 3 [0, 1, 2] rfl)
 refine g_nx ?_
 show (_ : TS) _ [some (V.ref p_a_self), some (V.str a_name), some (V.str a_new)] _
 obtain ⟨dx43, p44, (S42 : M (pt p_a_self (.ins (He.ga K "House") dx43 [("signs_by", (V.ref p44))]) :: pt dx43 (.own p_a_self) :: adR K iS (eL eI) p44 a_self :: Rs) H33)⟩ := R_House_open (S32.at 0 rfl)
 refine g_seq (g_if (g_test (g_op (g_var rfl (g_fld (g_var rfl (v_fld (S42.got 0 rfl) T.cl_House T.na_House_signs_by rfl (d_inS (M.dvO S42 2 rfl) (g_bl (v_iff hf (λ _ hf => ?_) (λ _ hf => ?_)))))))))))
 ·
  refine g_rz (g_var rfl ?_)
  have S48 : M (da K (V.str a_new) (eS a_new) :: oo3 Rs) H33 := M.addA S42 (EnF.all λ _ => .str (K := K) a_new)
  refine v_rz S48 λ d50 H52 (S51 : M (pt d50 (.xd [("thing", (V.str a_new))]) :: oo4 Rs) H52) => ?_
  have S54 : M (R_House K p_a_self a_self :: oo2 Rs) H52 := R_House_close (M.pk S51 5 [2, 3, 4, 0, 1] rfl)
  exact hX (Ex.There (eS a_new)) _ d50 (V.str a_new) _ hf (M.pk S54 3 [1, 2, 0] rfl)
 ·
  refine g_next (g_nx (g_asgX (g_dpop (g_fld (g_var rfl (v_fld (S42.got 0 rfl) T.cl_House T.na_House_signs_by rfl (v_dpopA S42 2 rfl (g_var rfl ?_))))))))
  obtain ⟨x55, h56, hf⟩ := hf
  refine v_popAS S42 2 rfl h56 λ u57 H59 (S58 : M (da K u57 ((eL eI) x55) :: adR K iS (eL eI) p44 (dk a_self a_name) :: oo2 Rs) H59) => ?_
  refine g_sub (g_fld (g_var rfl (v_fld (S58.got 2 rfl) T.cl_House T.na_House_signs_by rfl (g_var rfl ?_))))
  obtain ⟨h62, hf⟩ := hf
  refine v_putdS (e := (eL eI)) (x := x55) S58 1 rfl (EnF.at 0 rfl) h62 λ H64 (S63 : M (adR K iS (eL eI) p44 (pk (dk a_self a_name) a_new x55) :: oo3 Rs) H64) => ?_
  have S66 : M (R_House K p_a_self (pk (dk a_self a_name) a_new x55) :: _ :: Rs) H64 := R_House_close (M.pk S63 4 [2, 3, 0, 1] rfl)
  exact hk _ _ hf (M.pk S66 2 [0] rfl)
def p_are_contents (a_thing : PyData) (P : Bool -> Prop) : Prop := jn (λ k5 => if (!(isA "dict" a_thing)) = true then (k5 true) else (∃ x7 : (List (Str × (List Int))), a_thing = (eD iS (eL eI)) x7 /\ k5 (decide (8 < ((x7).length : Int))))) λ c1 => if c1 = true then (P false) else (∃ x13 : (List (Str × (List Int))), a_thing = (eD iS (eL eI)) x13 /\ forD (λ (x28 : Str) (s25 : Unit) (k26 : (Unit) -> Prop) => jn (λ k36 => p_is_name x28 λ x38 => if (!x38) = true then (k36 true) else (∃ x42, lk x13 x28 = some x42 /\ p_is_content x42 λ x48 => k36 (!x48))) λ c32 => if c32 = true then (P false) else (k26 ())) (ks x13) () λ s25 => P true)
def sp_are_contents_0 (K : Fr) : Sp := λ vs H Q _ => ∃ (Rs : List Res) (v_a_thing : V) (a_thing : PyData) (P : Bool -> Prop), vs = [v_a_thing] /\ M (da K v_a_thing (eA a_thing) :: Rs) H /\ p_are_contents a_thing P /\ ∀ (r : Bool) H', P r -> M (Rs) H' -> Q (V.bl r) H'
theorem len_are_contents_0 {K : Fr} (vs : List V) (H : Hp) (Q : VK) (E : XK) (h : sp_are_contents_0 K vs H Q E) : vs.length = 1 := by
 obtain ⟨Rs, v_a_thing, a_thing, P, rfl, _⟩ := h
 rfl
def p_are_contents_o (a_thing : (List (Str × (List Int)))) (P : Bool -> Prop) : Prop := if ((!true) || (decide (8 < ((a_thing).length : Int)))) = true then (P false) else (forD (λ (x7 : Str) (s4 : Unit) (k5 : (Unit) -> Prop) => jn (λ k18 => p_is_name x7 λ x20 => if (!x20) = true then (k18 true) else (∃ x24, lk a_thing x7 = some x24 /\ p_is_content x24 λ x40 => k18 (!x40))) λ c14 => if c14 = true then (P false) else (k5 ())) (ks a_thing) () λ s4 => P true)
def sp_are_contents_o (K : Fr) : Sp := λ vs H Q _ => ∃ (Rs : List Res) (p_a_thing : Addr) (a_thing : (List (Str × (List Int)))) (P : Bool -> Prop), vs = [(V.ref p_a_thing)] /\ M (dvR iS (vr (acI K)) p_a_thing a_thing :: Rs) H /\ p_are_contents_o a_thing P /\ ∀ (r : Bool) H', P r -> M (dvR iS (vr (acI K)) p_a_thing a_thing :: Rs) H' -> Q (V.bl r) H'
theorem len_are_contents_o {K : Fr} (vs : List V) (H : Hp) (Q : VK) (E : XK) (h : sp_are_contents_o K vs H Q E) : vs.length = 1 := by
 obtain ⟨Rs, p_a_thing, a_thing, P, rfl, _⟩ := h
 rfl
def sp_are_contents (K : Fr) : Sp := λ vs H Q E => sp_are_contents_0 K vs H Q E \/ sp_are_contents_o K vs H Q E
theorem len_are_contents {K : Fr} (vs : List V) (H : Hp) (Q : VK) (E : XK) (h : sp_are_contents K vs H Q E) : vs.length = 1 := h.elim (len_are_contents_0 vs H Q E) λ h => len_are_contents_o vs H Q E h
abbrev t_are_contents_4 (K : Fr) : TS := (tIfS (tOr (tNot (tB (tCall (sp_is_name K) [] E0 (tCons (tVar 1) tNil)))) (tNot (tB (tCall (sp_is_content K) [] E0 (tCons (tOp rIxK (tVar 0) (tVar 1)) tNil))))) (tRet (tC (.bl false))) tNext)
abbrev t_are_contents_3 (K : Fr) : TS := (tSeq (tLkS (tFor (iKeys (tVar 0)) (gName 1) (t_are_contents_4 K)))
 (tRet (tC (.bl true))))
abbrev t_are_contents_1 (K : Fr) : TS := (tSeq (tIfS (tOr (tNot (tB (tCB (uIsi K) (tCons (tVar 0) (tCons (tC (.ty "dict")) tNil))))) (tTest (tOp uGt (tCB (uLen K) (tCons (tVar 0) tNil)) (tC (.int 8))))) (tRet (tC (.bl false))) tNext)
 (t_are_contents_3 K))
abbrev t_are_contents (K : Fr) : TS := (t_are_contents_1 K)
theorem pure_are_contents_0 {K : Fr} (vs : List V) (H : Hp) (Q : VK) (E : XK) (h : sp_are_contents_0 K vs H Q E) : t_are_contents K { nx := λ _ H' => Q .non H', rt := Q } (L2.start ["thing", "name"] vs) H := by
 obtain ⟨Rs, v_a_thing, a_thing, P, rfl, S0, hf, hk⟩ := h
 show t_are_contents K _ [some v_a_thing, none] H
 refine g_seq (g_if ?_)
 refine tt_cut hf (λ H => M (da K v_a_thing (eA a_thing) :: Rs) H) (λ kk2 P3 hP4 hf => ?_) ?_
 ·
  refine g_or (g_not (g_B (g_cb (g_cons (g_var rfl (g_cons (g_c (g_nil (v_isq (Dq.dn (M.gotA S0 0 rfl)) (by decide) rfl (g_bl (v_iff hf (λ _ hf => ?_) (λ _ hf => ?_))))))))))))
  ·
   exact hP4 _ _ hf (M.pk S0 1 [0] rfl)
  ·
   refine g_test (g_op (g_cb (g_cons (g_var rfl (g_nil ?_)))))
   obtain ⟨x7, h8, hf⟩ := hf
   have S9 := M.cstA S0 0 rfl h8
   refine DVs.len (M.dvA S9 0 rfl) (g_c (v_gt (g_bl ?_)))
   exact hP4 _ _ hf (M.sub (.cons 1 rfl (.tl (.refl _))) S9)
 intro c1 H12 hf S11
 refine v_iff hf (λ _ hf => ?_) (λ _ hf => ?_)
 ·
  refine g_ret (g_c ?_)
  exact hk _ _ hf (M.sub (.tl (.refl _)) S11)
 ·
  refine g_next (g_nx ?_)
  show (_ : TS) _ [some v_a_thing, none] _
  obtain ⟨x13, h14, hf⟩ := hf
  have S15 := M.cstA S11 0 rfl h14
  refine g_seq (Or.inl (g_for (g_iKeys (g_var rfl ?_))))
  obtain ⟨p17, od18, kvs19, e20, hk21, (S22 : M (fz p17 (.frz od18 (.dK kvs19)) :: tkR K iS (eL eI) kvs19 x13 :: da K v_a_thing ((eD iS (eL eI)) x13) :: da K v_a_thing (eA a_thing) :: Rs) H12)⟩ := (M.addA S15 (EnF.at 0 rfl)).openDk
  refine v_itK e20 (S22.gotF 0 rfl) ?_
  refine for_fz (sv := V.str) (λ _ => rfl) hk21 (β := Unit) hf (λ (s25 : Unit) σ H' => ∃ (o29 : Option V), σ = [some v_a_thing, o29] /\ M (fz p17 (.frz od18 (.dK kvs19)) :: tkR K iS (eL eI) kvs19 x13 :: da K v_a_thing ((eD iS (eL eI)) x13) :: da K v_a_thing (eA a_thing) :: Rs) H') ⟨_, rfl, (M.pk S22 4 [0, 1, 2, 3] rfl)⟩ (λ _ _ _ h => by obtain ⟨_, _, S⟩ := h; exact S.gotF 0 rfl) ?_ ?_
  ·
   rintro x28 s25 _ H31 kk27 ⟨o29, rfl, S30⟩ hf
   refine g_name (g_if ?_)
   refine tt_cut hf (λ H => M (fz p17 (.frz od18 (.dK kvs19)) :: tkR K iS (eL eI) kvs19 x13 :: da K v_a_thing ((eD iS (eL eI)) x13) :: da K v_a_thing (eA a_thing) :: Rs) H) (λ kk33 P34 hP35 hf => ?_) ?_
   ·
    refine g_or (g_not (g_B (g_call (g_cons (g_var rfl (g_nil (⟨_, _, _, rfl, S30, hf, λ x38 H40 hf (S39 : M (oo4 Rs) H40) => ?_⟩)))))))
    refine g_bl (v_iff hf (λ _ hf => ?_) (λ _ hf => ?_))
    ·
     exact hP35 _ _ hf (M.pk S39 4 [0, 1, 2, 3] rfl)
    ·
     refine g_not (g_B (g_call (g_cons (g_op (g_var rfl (g_var rfl ?_))))))
     obtain ⟨x42, h43, hf⟩ := hf
     refine d_ixS (M.dvA S39 2 rfl) h43 λ u44 S45 => ?_
     refine g_nil (⟨_, _, _, _, _, rfl, Brw.da, (M.addA S45 (EnF.at 0 rfl)), hf, λ x48 H50 hf (S49 : M (da K u44 ((eL eI) x42) :: da K u44 ((eL eI) x42) :: oo4 Rs) H50) => ?_⟩)
     refine g_bl ?_
     exact hP35 _ _ hf (M.pk S49 6 [2, 3, 4, 5] rfl)
   intro c32 H53 hf S52
   refine v_iff hf (λ _ hf => ?_) (λ _ hf => ?_)
   ·
    refine g_ret (g_c ?_)
    exact hk _ _ hf (M.sub (.tl (.tl (.tl (.tl (.refl _))))) S52)
   ·
    refine g_next ?_
    exact ⟨_, hf, _, rfl, (M.sub (.cons 0 rfl (.cons 0 rfl (.cons 0 rfl (.cons 0 rfl (.refl _))))) S52)⟩
  rintro s25 _ H55 hf ⟨o29, rfl, S54⟩
  refine g_nx ?_
  show (_ : TS) _ [some v_a_thing, o29] _
  have S56 : M (oo3 Rs) H55 := (M.drp S54 3)
  refine g_ret (g_c ?_)
  exact hk _ _ hf (M.pk S56 3 [] rfl)
theorem pure_are_contents_o {K : Fr} (vs : List V) (H : Hp) (Q : VK) (E : XK) (h : sp_are_contents_o K vs H Q E) : t_are_contents K { nx := λ _ H' => Q .non H', rt := Q } (L2.start ["thing", "name"] vs) H := by
 obtain ⟨Rs, p_a_thing, a_thing, P, rfl, S0, hf, hk⟩ := h
 show t_are_contents K _ [some (V.ref p_a_thing), none] H
 refine g_seq (g_if (g_orP (c1 := (!true)) (c2 := (decide (8 < ((a_thing).length : Int)))) (λ _ hq => ?_) (λ _ hq => ?_) ?_))
 ·
  refine g_not (g_B (g_cb (g_cons (g_var rfl (g_cons (g_c (g_nil (v_isq ((dnrDV (ik := iS) (dnrL (e := eI))) _ _ _ _ (M.vrC (M.at S0 0 rfl))) (by decide) (b := true) rfl (g_bl ?_)))))))))
  exact hq
 ·
  refine g_test (g_op (g_cb (g_cons (g_var rfl (g_nil (v_lenDV injS S0 0 rfl (g_c (v_gt (g_bl ?_)))))))))
  exact hq
 refine v_iff hf (λ _ hf => ?_) (λ _ hf => ?_)
 ·
  refine g_ret (g_c ?_)
  exact hk _ _ hf (M.pk S0 1 [0] rfl)
 ·
  refine g_next (g_nx (g_seq ?_))
  have S1 : M (_ :: Rs) H := M.at S0 0 rfl
  refine for_dv (sv := V.str) (λ _ => rfl) (β := Unit) hf (λ (R : Res) (s4 : Unit) σ H' => ∃ (o11 : Option V), σ = [some (V.ref p_a_thing), o11] /\ M (R :: Rs) H') (λ _ _ _ _ h => by obtain ⟨o11, e, S⟩ := h; exact ⟨_, S, λ _ _ S' => ⟨o11, e, S'⟩⟩) ⟨_, rfl, (M.pk S1 1 [0] rfl)⟩ (λ _ _ _ _ _ q => g_var rfl q) ?_ ?_
  ·
   rintro od2 kvs3 x7 s4 _ H13 kk6 R8 B9 ⟨o11, rfl, S12⟩ hR10 hf
   refine g_name (g_if ?_)
   refine tt_cut hf (λ H => M (dvL iS (vr (acI K)) p_a_thing od2 kvs3 a_thing :: Rs) H) (λ kk15 P16 hP17 hf => ?_) ?_
   ·
    refine g_or (g_not (g_B (g_call (g_cons (g_var rfl (g_nil (⟨_, _, _, rfl, S12, hf, λ x20 H22 hf (S21 : M (dvL iS (vr (acI K)) p_a_thing od2 kvs3 a_thing :: Rs) H22) => ?_⟩)))))))
    refine g_bl (v_iff hf (λ _ hf => ?_) (λ _ hf => ?_))
    ·
     exact hP17 _ _ hf (M.pk S21 1 [0] rfl)
    ·
     refine g_not (g_B (g_call (g_cons (g_op (g_var rfl (g_var rfl ?_))))))
     obtain ⟨x24, h25, hf⟩ := hf
     refine v_ixDVl (k := x7) injS S21 0 rfl h25 λ u26 n28 hu29 hn30 nd31 (S32 : M (vr (acI K) u26 x24 :: pt p_a_thing (.frz od2 (.dK kvs3)) :: starK iS (vr (acI K)) (kvs3.eraseIdx n28) (a_thing.eraseIdx n28) :: Rs) H22) => ?_
     obtain ⟨p36, rfl, S37⟩ := M.vrO S32
     have S39 : M (acR K p36 (x24.map eI) :: oo2 Rs) H22 := S37
     refine g_nil (⟨_, _, _, _, _, rfl, Brw.ac, (M.at S39 0 rfl), hf, λ x40 H42 hf (S41 : M (oo3 Rs) H42) => ?_⟩)
     refine g_bl ?_
     have S45 : M (vr (acI K) (V.ref p36) x24 :: oo2 Rs) H42 := M.vrC (M.at S41 0 rfl)
     have S46 : M (dvL iS (vr (acI K)) p_a_thing od2 kvs3 a_thing :: Rs) H42 := dvL_same hu29 hn30 nd31 (M.pk S45 3 [0, 1, 2] rfl)
     exact hP17 _ _ hf (M.pk S46 1 [0] rfl)
   intro c14 H48 hf S47
   refine v_iff hf (λ _ hf => ?_) (λ _ hf => ?_)
   ·
    refine g_ret (g_c ?_)
    refine hR10 _ _ _ (M.sub (.cons 0 rfl (.refl _)) S47) λ H50 (S49 : M (dvR iS (vr (acI K)) p_a_thing a_thing :: Rs) H50) => ?_
    exact hk _ _ hf (M.pk S49 1 [0] rfl)
   ·
    refine g_next ?_
    exact ⟨_, hf, _, rfl, (M.sub (.cons 0 rfl (.refl _)) S47)⟩
  rintro s4 _ H52 hf ⟨o11, rfl, S51⟩
  refine g_nx ?_
  show (_ : TS) _ [some (V.ref p_a_thing), o11] _
  refine g_ret (g_c ?_)
  exact hk _ _ hf (M.sub (.cons 0 rfl (.refl _)) S51)
theorem pure_are_contents {K : Fr} (vs : List V) (H : Hp) (Q : VK) (E : XK) (h : sp_are_contents K vs H Q E) : t_are_contents K { nx := λ _ H' => Q .non H', rt := Q } (L2.start ["thing", "name"] vs) H := h.elim (pure_are_contents_0 vs H Q E) λ h => pure_are_contents_o vs H Q E h
def p_House_become (a_self : ((List (Str × (List Int))))) (a_contents : PyData) (X : Ex -> ((List (Str × (List Int)))) -> Prop) (P : ((List (Str × (List Int)))) -> Prop) : Prop := p_are_contents a_contents λ x2 => p_wanted 0 x2 (λ x10 => X x10 a_self) λ _u6 => ∃ x23 : (List (Str × (List Int))), a_contents = (eD iS (eL eI)) x23 /\ (ks x23).length <= 100000 /\ dcD (λ (x39 : Str) (acc36 : List (Str × (List Int))) (k46 : Option (Str × (List Int)) -> Prop) => ∃ x47, lk x23 x39 = some x47 /\ k46 (some (x39, x47))) (ks x23) [] λ acc36 => P acc36
def sp_House_become_0 (K : Fr) : Sp := λ vs H Q E => ∃ (Rs : List Res) (p_a_self : Addr) (a_self : ((List (Str × (List Int))))) (v_a_contents : V) (a_contents : PyData) (X : Ex -> ((List (Str × (List Int)))) -> Prop) (P : ((List (Str × (List Int)))) -> Prop), vs = [(V.ref p_a_self), v_a_contents] /\ M (R_House K p_a_self a_self :: da K v_a_contents (eA a_contents) :: Rs) H /\ p_House_become a_self a_contents X P /\ (∀ (x : Ex) (m0 : ((List (Str × (List Int))))) (d : Addr) (v : V) H', X x m0 -> M (pt d (.xd [(x.fld, v)]) :: da K v x.val :: R_House K p_a_self m0 :: Rs) H' -> E (.ref (He.ga K x.cls)) (some d) H') /\ ∀ (m0 : ((List (Str × (List Int))))) H', P m0 -> M (R_House K p_a_self m0 :: Rs) H' -> Q .non H'
theorem len_House_become_0 {K : Fr} (vs : List V) (H : Hp) (Q : VK) (E : XK) (h : sp_House_become_0 K vs H Q E) : vs.length = 2 := by
 obtain ⟨Rs, p_a_self, a_self, v_a_contents, a_contents, X, P, rfl, _⟩ := h
 rfl
def p_House_become_o (a_self : ((List (Str × (List Int))))) (a_contents : (List (Str × (List Int)))) (X : Ex -> ((List (Str × (List Int)))) -> Prop) (P : ((List (Str × (List Int)))) -> Prop) : Prop := p_are_contents_o a_contents λ x1 => p_wanted 0 x1 (λ x9 => X x9 a_self) λ _u5 => (ks a_contents).length <= 100000 /\ dcD (λ (x29 : Str) (acc26 : List (Str × (List Int))) (k34 : Option (Str × (List Int)) -> Prop) => ∃ x37, lk a_contents x29 = some x37 /\ k34 (some (x29, x37))) (ks a_contents) [] λ acc26 => P acc26
def sp_House_become_o (K : Fr) : Sp := λ vs H Q E => ∃ (Rs : List Res) (p_a_self : Addr) (a_self : ((List (Str × (List Int))))) (p_a_contents : Addr) (a_contents : (List (Str × (List Int)))) (X : Ex -> ((List (Str × (List Int)))) -> Prop) (P : ((List (Str × (List Int)))) -> Prop), vs = [(V.ref p_a_self), (V.ref p_a_contents)] /\ M (R_House K p_a_self a_self :: dvR iS (vr (acI K)) p_a_contents a_contents :: Rs) H /\ p_House_become_o a_self a_contents X P /\ (∀ (x : Ex) (m0 : ((List (Str × (List Int))))) (d : Addr) (v : V) H', X x m0 -> M (pt d (.xd [(x.fld, v)]) :: da K v x.val :: R_House K p_a_self m0 :: dvR iS (vr (acI K)) p_a_contents a_contents :: Rs) H' -> E (.ref (He.ga K x.cls)) (some d) H') /\ ∀ (m0 : ((List (Str × (List Int))))) H', P m0 -> M (R_House K p_a_self m0 :: dvR iS (vr (acI K)) p_a_contents a_contents :: Rs) H' -> Q .non H'
theorem len_House_become_o {K : Fr} (vs : List V) (H : Hp) (Q : VK) (E : XK) (h : sp_House_become_o K vs H Q E) : vs.length = 2 := by
 obtain ⟨Rs, p_a_self, a_self, p_a_contents, a_contents, X, P, rfl, _⟩ := h
 rfl
def sp_House_become (K : Fr) : Sp := λ vs H Q E => sp_House_become_0 K vs H Q E \/ sp_House_become_o K vs H Q E
theorem len_House_become {K : Fr} (vs : List V) (H : Hp) (Q : VK) (E : XK) (h : sp_House_become K vs H Q E) : vs.length = 2 := h.elim (len_House_become_0 vs H Q E) λ h => len_House_become_o vs H Q E h
abbrev t_House_become_1 (K : Fr) (W : WX) : TS := (tSeq (tDrop (tCallW W (sp_wanted K) [] (tCons (tC (.int 0)) (tCons (tCall (sp_are_contents K) [] E0 (tCons (tVar 1) tNil)) tNil))))
 (sFld K (tVar 0) (tLkE (tDc (iKeys (tVar 1)) (gName 2) tYes (tVar 2) (tCB (rListOf K) (tCons (tOp rIxK (tVar 1) (tVar 2)) tNil)) [2])) "signs_by"))
abbrev t_House_become (K : Fr) (W : WX) : TS := (t_House_become_1 K W)
theorem pure_House_become_0 {K : Fr} (T : TxC K) (vs : List V) (H : Hp) (Q : VK) (E : XK) (h : sp_House_become_0 K vs H Q E) : t_House_become K (WT E) { nx := λ _ H' => Q .non H', rt := Q } (L2.start ["self", "contents", "name"] vs) H := by
 obtain ⟨Rs, p_a_self, a_self, v_a_contents, a_contents, X, P, rfl, S0, hf, hX, hk⟩ := h
 show t_House_become K (WT E) _ [some (V.ref p_a_self), some v_a_contents, none] H
 refine g_seq (g_drop (g_callW (g_cons (g_c (g_cons (g_call (g_cons (g_var rfl (g_nil (.inl (⟨_, _, _, _, rfl, (M.addA S0 (EnF.at 1 rfl)), hf, λ x2 H4 hf (S3 : M (oo2 Rs) H4) => ?_⟩)))))))))))
 refine g_nil (⟨_, _, _, _, _, rfl, S3, hf, λ x10 d11 v12 H14 hf (S13 : M (pt d11 (.xd [(x10.fld, v12)]) :: da K v12 x10.val :: oo2 Rs) H14) => ?_, λ _u6 H8 hf (S7 : M (oo2 Rs) H8) => ?_⟩)
 ·
  exact hX x10 _ d11 v12 _ hf (M.pk S13 4 [0, 1, 2] rfl)
 refine g_nx ?_
 show (_ : TS) _ [some (V.ref p_a_self), some v_a_contents, none] _
 obtain ⟨dx18, p19, (S17 : M (pt p_a_self (.ins (He.ga K "House") dx18 [("signs_by", (V.ref p19))]) :: pt dx18 (.own p_a_self) :: adR K iS (eL eI) p19 a_self :: _ :: Rs) H8)⟩ := R_House_open (S7.at 0 rfl)
 refine g_sfld (Or.inl ?_)
 obtain ⟨x23, h24, hf⟩ := hf
 have S25 := M.cstA S17 3 rfl h24
 refine g_dc (g_iKeys (g_var rfl ?_))
 obtain ⟨p27, od28, kvs29, e30, hk31, (S32 : M (fz p27 (.frz od28 (.dK kvs29)) :: tkR K iS (eL eI) kvs29 x23 :: da K v_a_contents ((eD iS (eL eI)) x23) :: oo4 Rs) H8)⟩ := (M.addA S25 (EnF.at 0 rfl)).openDk
 refine v_itK e30 (S32.gotF 0 rfl) ?_
 have S35 : M (R_House K p_a_self a_self :: oo4 Rs) H8 := R_House_close (M.pk S32 7 [3, 4, 5, 0, 1, 2, 6] rfl)
 refine dc_fz (sv := V.str) (λ E acc => adR K iS (eL eI) E acc) (ad_new (K := K)) (λ _ => rfl) hk31 hf S35 (λ _ S => S.gotF 1 rfl) (λ x39 acc36 E37 H45 kk38 N40 hl41 S44 hf hp42 hn43 => ?_) (λ E37 acc36 H61 hf (S60 : M (adR K iS (eL eI) E37 acc36 :: oo5 Rs) H61) => ?_)
 ·
  refine g_name (g_wipe rfl (g_yes (v_ifT (g_var rfl (g_cb (g_cons (g_op (g_var rfl (g_var rfl ?_)))))))))
  obtain ⟨x47, h48, hf⟩ := hf
  refine d_ixS (M.dvA S44 4 rfl) h48 λ u49 S50 => ?_
  refine g_nil (v_liN flI S50 (M.gotA S50 0 rfl) λ p52 H54 (S53 : M (acR K p52 (x47.map eI) :: da K u49 ((eL eI) x47) :: adR K iS (eL eI) E37 acc36 :: oo5 Rs) H54) => ?_)
  have S56 : M (da K (V.ref p52) ((eL eI) x47) :: oo7 Rs) H54 := acR_fixL S53
  refine v_dcS (x := x47) S56 2 rfl (EnF.at 0 rfl) hl41 λ H59 (S58 : M (adR K iS (eL eI) E37 (pk acc36 x39 x47) :: oo7 Rs) H59) => ?_
  exact hp42 (_, _) _ hf (M.pk S58 8 [0, 3, 4, 5, 6, 7] rfl)
 obtain ⟨dx64, p65, (S63 : M (pt p_a_self (.ins (He.ga K "House") dx64 [("signs_by", (V.ref p65))]) :: pt dx64 (.own p_a_self) :: adR K iS (eL eI) p65 a_self :: oo5 Rs) H61)⟩ := R_House_open (S60.at 1 rfl)
 refine g_var rfl (v_sfld S63 0 rfl T.cl_House T.na_House_signs_by (by simp) λ H70 (S69 : M (pt p_a_self (.ins (He.ga K "House") dx64 [("signs_by", (V.ref E37))]) :: oo7 Rs) H70) => ?_)
 have S71 : M (R_House K p_a_self acc36 :: oo5 Rs) H70 := R_House_close (M.pk S69 8 [0, 1, 3, 2, 4, 5, 6, 7] rfl)
 exact hk _ _ hf (M.pk S71 6 [0] rfl)
theorem pure_House_become_o {K : Fr} (T : TxC K) (vs : List V) (H : Hp) (Q : VK) (E : XK) (h : sp_House_become_o K vs H Q E) : t_House_become K (WT E) { nx := λ _ H' => Q .non H', rt := Q } (L2.start ["self", "contents", "name"] vs) H := by
 obtain ⟨Rs, p_a_self, a_self, p_a_contents, a_contents, X, P, rfl, S0, hf, hX, hk⟩ := h
 show t_House_become K (WT E) _ [some (V.ref p_a_self), some (V.ref p_a_contents), none] H
 refine g_seq (g_drop (g_callW (g_cons (g_c (g_cons (g_call (g_cons (g_var rfl (g_nil (.inr (⟨_, _, _, _, rfl, (M.at S0 1 rfl), hf, λ x1 H3 hf (S2 : M (oo2 Rs) H3) => ?_⟩)))))))))))
 refine g_nil (⟨_, _, _, _, _, rfl, S2, hf, λ x9 d10 v11 H13 hf (S12 : M (pt d10 (.xd [(x9.fld, v11)]) :: da K v11 x9.val :: oo2 Rs) H13) => ?_, λ _u5 H7 hf (S6 : M (oo2 Rs) H7) => ?_⟩)
 ·
  exact hX x9 _ d10 v11 _ hf (M.pk S12 4 [0, 1, 3, 2] rfl)
 refine g_nx ?_
 show (_ : TS) _ [some (V.ref p_a_self), some (V.ref p_a_contents), none] _
 obtain ⟨dx17, p18, (S16 : M (pt p_a_self (.ins (He.ga K "House") dx17 [("signs_by", (V.ref p18))]) :: pt dx17 (.own p_a_self) :: adR K iS (eL eI) p18 a_self :: _ :: Rs) H7)⟩ := R_House_open (S6.at 1 rfl)
 refine g_sfld ?_
 have S22 : M (R_House K p_a_self a_self :: _ :: Rs) H7 := R_House_close (M.pk S16 4 [0, 1, 2, 3] rfl)
 have S23 : M (oo2 Rs) H7 := M.at S22 1 rfl
 refine dc_dv (sv := V.str) (λ E acc => adR K iS (eL eI) E acc) (ad_new (K := K)) (λ _ => rfl) hf S23 (λ _ _ _ _ S q => g_var rfl q) (λ od24 kvs25 x29 acc26 E27 H36 kk28 N30 hl31 S35 hf hp32 hn33 => ?_) (λ E27 acc26 H65 hf S64 => ?_)
 ·
  refine g_name (g_wipe rfl (g_yes (v_ifT (g_var rfl (g_cb (g_cons (g_op (g_var rfl (g_var rfl ?_)))))))))
  obtain ⟨x37, h38, hf⟩ := hf
  refine v_ixDVl (k := x29) injS S35 1 rfl h38 λ u39 n41 hu42 hn43 nd44 (S45 : M (vr (acI K) u39 x37 :: pt p_a_contents (.frz od24 (.dK kvs25)) :: starK iS (vr (acI K)) (kvs25.eraseIdx n41) (a_contents.eraseIdx n41) :: adR K iS (eL eI) E27 acc26 :: _ :: Rs) H36) => ?_
  obtain ⟨p49, rfl, S50⟩ := M.vrO S45
  have S52 : M (acR K p49 (x37.map eI) :: oo4 Rs) H36 := S50
  refine g_nil (v_liN flI S52 (M.gotO S52 0 rfl) λ p53 H55 (S54 : M (acR K p53 (x37.map eI) :: oo5 Rs) H55) => ?_)
  have S58 : M (vr (acI K) (V.ref p49) x37 :: oo5 Rs) H55 := M.vrC (M.at S54 1 rfl)
  have S59 : M (dvL iS (vr (acI K)) p_a_contents od24 kvs25 a_contents :: oo3 Rs) H55 := dvL_same hu42 hn43 nd44 (M.pk S58 6 [0, 2, 3, 1, 4, 5] rfl)
  have S60 : M (da K (V.ref p53) ((eL eI) x37) :: oo3 Rs) H55 := acR_fixL (S59.at 1 rfl)
  refine v_dcS (x := x37) S60 2 rfl (EnF.at 0 rfl) hl31 λ H63 (S62 : M (adR K iS (eL eI) E27 (pk acc26 x29 x37) :: oo3 Rs) H63) => ?_
  exact hp32 (_, _) _ hf (M.pk S62 4 [0, 2, 3] rfl)
 obtain ⟨dx68, p69, (S67 : M (pt p_a_self (.ins (He.ga K "House") dx68 [("signs_by", (V.ref p69))]) :: pt dx68 (.own p_a_self) :: adR K iS (eL eI) p69 a_self :: adR K iS (eL eI) E27 acc26 :: _ :: Rs) H65)⟩ := R_House_open (S64.at 2 rfl)
 refine g_var rfl (v_sfld S67 0 rfl T.cl_House T.na_House_signs_by (by simp) λ H74 (S73 : M (pt p_a_self (.ins (He.ga K "House") dx68 [("signs_by", (V.ref E27))]) :: oo4 Rs) H74) => ?_)
 have S75 : M (R_House K p_a_self acc26 :: oo2 Rs) H74 := R_House_close (M.pk S73 5 [0, 1, 3, 2, 4] rfl)
 exact hk _ _ hf (M.pk S75 3 [0, 2] rfl)
theorem pure_House_become {K : Fr} (T : TxC K) (vs : List V) (H : Hp) (Q : VK) (E : XK) (h : sp_House_become K vs H Q E) : t_House_become K (WT E) { nx := λ _ H' => Q .non H', rt := Q } (L2.start ["self", "contents", "name"] vs) H := h.elim (pure_House_become_0 T vs H Q E) λ h => pure_House_become_o T vs H Q E h
def p_House_copied (a_self : ((List (Str × (List Int))))) (X : Ex -> Prop) (P : ((List (Str × (List Int)))) -> Prop) : Prop := p_House___init__ λ m7 => p_House_contents a_self λ x12 => p_House_become m7 ((eD iS (eL eI)) x12) (λ x28 m27 => X x28) λ m23 => P m23
def sp_House_copied (K : Fr) : Sp := λ vs H Q E => ∃ (Rs : List Res) (p_a_self : Addr) (a_self : ((List (Str × (List Int))))) (X : Ex -> Prop) (P : ((List (Str × (List Int)))) -> Prop), vs = [(V.ref p_a_self)] /\ M (R_House K p_a_self a_self :: Rs) H /\ p_House_copied a_self X P /\ (∀ (x : Ex) (d : Addr) (v : V) H', X x -> M (pt d (.xd [(x.fld, v)]) :: da K v x.val :: R_House K p_a_self a_self :: Rs) H' -> E (.ref (He.ga K x.cls)) (some d) H') /\ ∀ (r : ((List (Str × (List Int))))) (p : Addr) H', P r -> M (R_House K p r :: R_House K p_a_self a_self :: Rs) H' -> Q (.ref p) H'
theorem len_House_copied {K : Fr} (vs : List V) (H : Hp) (Q : VK) (E : XK) (h : sp_House_copied K vs H Q E) : vs.length = 1 := by
 obtain ⟨Rs, p_a_self, a_self, X, P, rfl, _⟩ := h
 rfl
abbrev t_House_copied_2 (K : Fr) (W : WX) : TS := (tSeq (tDrop (tMethW W (He.ga K "House") "become" (sp_House_become K) [] (tVar 1) (tCons (tFzE (tMethW W0 (He.ga K "House") "contents" (sp_House_contents K) [] (tVar 0) tNil)) tNil)))
 (tRet (tVar 1)))
abbrev t_House_copied_1 (K : Fr) (W : WX) : TS := (tSeq (tAsg (tMakeW W0 (He.ga K "House") (sp_House___init__ K) [] tNil) (gName 1))
 (t_House_copied_2 K W))
abbrev t_House_copied (K : Fr) (W : WX) : TS := (t_House_copied_1 K W)
theorem pure_House_copied {K : Fr} (T : TxC K) (vs : List V) (H : Hp) (Q : VK) (E : XK) (h : sp_House_copied K vs H Q E) : t_House_copied K (WT E) { nx := λ _ H' => Q .non H', rt := Q } (L2.start ["self", "other"] vs) H := by
 obtain ⟨Rs, p_a_self, a_self, X, P, rfl, S0, hf, hX, hk⟩ := h
 show t_House_copied K (WT E) _ [some (V.ref p_a_self), none] H
 refine g_seq (g_asg (g_make (g_nil (v_make S0 λ a1 dx2 H4 (S3 : M (pt a1 (.ins (He.ga K "House") dx2 []) :: pt dx2 (.own a1) :: _ :: Rs) H4) => ?_))))
 refine ⟨_, _, _, _, rfl, (M.at (M.at S3 1 rfl) 1 rfl), hf, λ m7 H9 hf (S8 : M (R_House K a1 m7 :: _ :: Rs) H9) => ?_⟩
 refine And.intro rfl (g_nx ?_)
 show (_ : TS) _ [some (V.ref p_a_self), some (V.ref a1)] _
 refine g_seq (g_drop (g_meth (g_var rfl (v_R_House S8 0 rfl (λ _ _ => rfl) (g_cons (g_meth (g_var rfl (v_R_House S8 1 rfl (λ _ _ => rfl) (g_nil (⟨_, _, _, _, rfl, (M.at S8 1 rfl), hf, λ x12 u15 H14 hf (S13 : M (adoR u15 x12 :: oo2 Rs) H14) => ?_⟩))))))))))
 have S17 : M (adR K iS (eL eI) u15 x12 :: oo2 Rs) H14 := ado_ad (S13.at 0 rfl)
 refine v_fzD S17 0 rfl λ H20 (S19 : M (da K (V.ref u15) ((eD iS (eL eI)) x12) :: oo2 Rs) H20) => ?_
 refine g_nil (.inl (⟨_, _, _, _, _, _, _, rfl, (M.at (M.addA S19 (EnF.at 0 rfl)) 3 rfl), hf, λ x28 m27 d29 v30 H32 hf (S31 : M (pt d29 (.xd [(x28.fld, v30)]) :: da K v30 x28.val :: R_House K a1 m27 :: oo2 Rs) H32) => ?_, λ m23 H25 hf (S24 : M (R_House K a1 m23 :: oo2 Rs) H25) => ?_⟩))
 ·
  exact hX x28 d29 v30 _ hf (M.pk S31 5 [0, 1, 4] rfl)
 refine g_nx ?_
 show (_ : TS) _ [some (V.ref p_a_self), some (V.ref a1)] _
 have S35 : M (oo2 Rs) H25 := (M.drp S24 1)
 refine g_ret (g_var rfl ?_)
 exact hk _ _ _ hf (M.pk S35 2 [0, 1] rfl)
def p_House___eq__ (a_self : ((List (Str × (List Int))))) (a_other : ((List (Str × (List Int))))) (P : Bool -> Prop) : Prop := P (dEq a_self a_other)
def sp_House___eq___0 (K : Fr) : Sp := λ vs H Q _ => ∃ (Rs : List Res) (p_a_self : Addr) (a_self : ((List (Str × (List Int))))) (p_a_other : Addr) (a_other : ((List (Str × (List Int))))) (P : Bool -> Prop), vs = [(V.ref p_a_self), (V.ref p_a_other)] /\ M (R_House K p_a_self a_self :: R_House K p_a_other a_other :: Rs) H /\ p_House___eq__ a_self a_other P /\ ∀ (r : Bool) H', P r -> M (R_House K p_a_self a_self :: R_House K p_a_other a_other :: Rs) H' -> Q (V.bl r) H'
theorem len_House___eq___0 {K : Fr} (vs : List V) (H : Hp) (Q : VK) (E : XK) (h : sp_House___eq___0 K vs H Q E) : vs.length = 2 := by
 obtain ⟨Rs, p_a_self, a_self, p_a_other, a_other, P, rfl, _⟩ := h
 rfl
def p_House___eq___s (a_self : ((List (Str × (List Int))))) (P : Bool -> Prop) : Prop := P (dEq a_self a_self)
def sp_House___eq___s (K : Fr) : Sp := λ vs H Q _ => ∃ (Rs : List Res) (p_a_self : Addr) (a_self : ((List (Str × (List Int))))) (P : Bool -> Prop), vs = [(V.ref p_a_self), (V.ref p_a_self)] /\ M (R_House K p_a_self a_self :: Rs) H /\ p_House___eq___s a_self P /\ ∀ (r : Bool) H', P r -> M (R_House K p_a_self a_self :: Rs) H' -> Q (V.bl r) H'
theorem len_House___eq___s {K : Fr} (vs : List V) (H : Hp) (Q : VK) (E : XK) (h : sp_House___eq___s K vs H Q E) : vs.length = 2 := by
 obtain ⟨Rs, p_a_self, a_self, P, rfl, _⟩ := h
 rfl
def p_House___eq___a (a_self : ((List (Str × (List Int))))) (a_other : PyData) (P : Bool -> Prop) : Prop := P false
def sp_House___eq___a (K : Fr) : Sp := λ vs H Q _ => ∃ (Rs : List Res) (p_a_self : Addr) (a_self : ((List (Str × (List Int))))) (v_a_other : V) (a_other : PyData) (P : Bool -> Prop), vs = [(V.ref p_a_self), v_a_other] /\ M (R_House K p_a_self a_self :: da K v_a_other (eA a_other) :: Rs) H /\ p_House___eq___a a_self a_other P /\ ∀ (r : Bool) H', P r -> M (R_House K p_a_self a_self :: Rs) H' -> Q (V.bl r) H'
theorem len_House___eq___a {K : Fr} (vs : List V) (H : Hp) (Q : VK) (E : XK) (h : sp_House___eq___a K vs H Q E) : vs.length = 2 := by
 obtain ⟨Rs, p_a_self, a_self, v_a_other, a_other, P, rfl, _⟩ := h
 rfl
def sp_House___eq__ (K : Fr) : Sp := λ vs H Q E => sp_House___eq___0 K vs H Q E \/ sp_House___eq___s K vs H Q E \/ sp_House___eq___a K vs H Q E
theorem len_House___eq__ {K : Fr} (vs : List V) (H : Hp) (Q : VK) (E : XK) (h : sp_House___eq__ K vs H Q E) : vs.length = 2 := h.elim (len_House___eq___0 vs H Q E) λ h => h.elim (len_House___eq___s vs H Q E) λ h => len_House___eq___a vs H Q E h
abbrev t_House___eq__ (K : Fr) : TS := (tRet (tAndV (tCB (uIsi K) (tCons (tVar 1) (tCons (tC (.ref (He.ga K "House"))) tNil))) (tOp (uEqV K) (tFld K (tVar 0) "signs_by") (tFld K (tVar 1) "signs_by"))))
theorem pure_House___eq___0 {K : Fr} (T : TxC K) (vs : List V) (H : Hp) (Q : VK) (E : XK) (h : sp_House___eq___0 K vs H Q E) : t_House___eq__ K { nx := λ _ H' => Q .non H', rt := Q } (L2.start ["self", "other"] vs) H := by
 obtain ⟨Rs, p_a_self, a_self, p_a_other, a_other, P, rfl, S0, hf, hk⟩ := h
 show t_House___eq__ K _ [some (V.ref p_a_self), some (V.ref p_a_other)] H
 obtain ⟨dx2, p3, (S1 : M (pt p_a_other (.ins (He.ga K "House") dx2 [("signs_by", (V.ref p3))]) :: pt dx2 (.own p_a_other) :: adR K iS (eL eI) p3 a_other :: _ :: Rs) H)⟩ := R_House_open (S0.at 1 rfl)
 refine g_ret (g_andV (g_cb (g_cons (g_var rfl (g_cons (g_c (g_nil (v_isI (b := true) (S1.got 0 rfl) T.cl_House T.iy_House T.ik_House_House (g_bl ?_)))))))))
 rw [if_pos rfl]
 obtain ⟨dx8, p9, (S7 : M (pt p_a_self (.ins (He.ga K "House") dx8 [("signs_by", (V.ref p9))]) :: pt dx8 (.own p_a_self) :: adR K iS (eL eI) p9 a_self :: oo3 Rs) H)⟩ := R_House_open (S1.at 3 rfl)
 refine g_op (g_fld (g_var rfl (v_fld (S7.got 0 rfl) T.cl_House T.na_House_signs_by rfl (g_fld (g_var rfl (v_fld (S7.got 3 rfl) T.cl_House T.na_House_signs_by rfl (v_eqV eqtLI injS (M.dvO S7 2 rfl) (M.dvO S7 5 rfl) ?_)))))))
 have S13 : M (R_House K p_a_other a_other :: oo3 Rs) H := R_House_close (M.pk S7 6 [3, 4, 5, 0, 1, 2] rfl)
 have S14 : M (R_House K p_a_self a_self :: _ :: Rs) H := R_House_close (M.pk S13 4 [1, 2, 3, 0] rfl)
 exact hk _ _ hf (M.pk S14 2 [0, 1] rfl)
theorem pure_House___eq___s {K : Fr} (T : TxC K) (vs : List V) (H : Hp) (Q : VK) (E : XK) (h : sp_House___eq___s K vs H Q E) : t_House___eq__ K { nx := λ _ H' => Q .non H', rt := Q } (L2.start ["self", "other"] vs) H := by
 obtain ⟨Rs, p_a_self, a_self, P, rfl, S0, hf, hk⟩ := h
 show t_House___eq__ K _ [some (V.ref p_a_self), some (V.ref p_a_self)] H
 obtain ⟨dx2, p3, (S1 : M (pt p_a_self (.ins (He.ga K "House") dx2 [("signs_by", (V.ref p3))]) :: pt dx2 (.own p_a_self) :: adR K iS (eL eI) p3 a_self :: Rs) H)⟩ := R_House_open (S0.at 0 rfl)
 refine g_ret (g_andV (g_cb (g_cons (g_var rfl (g_cons (g_c (g_nil (v_isI (b := true) (S1.got 0 rfl) T.cl_House T.iy_House T.ik_House_House (g_bl ?_)))))))))
 rw [if_pos rfl]
 refine g_op (g_fld (g_var rfl (v_fld (S1.got 0 rfl) T.cl_House T.na_House_signs_by rfl (g_fld (g_var rfl (v_fld (S1.got 0 rfl) T.cl_House T.na_House_signs_by rfl (v_eqV eqtLI injS (M.dvO S1 2 rfl) (M.dvO S1 2 rfl) ?_)))))))
 have S7 : M (R_House K p_a_self a_self :: Rs) H := R_House_close (M.pk S1 3 [0, 1, 2] rfl)
 exact hk _ _ hf (M.pk S7 1 [0] rfl)
theorem pure_House___eq___a {K : Fr} (T : TxC K) (vs : List V) (H : Hp) (Q : VK) (E : XK) (h : sp_House___eq___a K vs H Q E) : t_House___eq__ K { nx := λ _ H' => Q .non H', rt := Q } (L2.start ["self", "other"] vs) H := by
 obtain ⟨Rs, p_a_self, a_self, v_a_other, a_other, P, rfl, S0, hf, hk⟩ := h
 show t_House___eq__ K _ [some (V.ref p_a_self), some v_a_other] H
 refine g_ret (g_andV (g_cb (g_cons (g_var rfl (g_cons (g_c (g_nil (v_isqC (Dq.dn (M.gotA S0 1 rfl)) T.in_House (g_bl ?_)))))))))
 rw [if_neg (by simp)]
 exact hk _ _ hf (M.pk S0 2 [0] rfl)
theorem pure_House___eq__ {K : Fr} (T : TxC K) (vs : List V) (H : Hp) (Q : VK) (E : XK) (h : sp_House___eq__ K vs H Q E) : t_House___eq__ K { nx := λ _ H' => Q .non H', rt := Q } (L2.start ["self", "other"] vs) H := h.elim (pure_House___eq___0 T vs H Q E) λ h => h.elim (pure_House___eq___s T vs H Q E) λ h => pure_House___eq___a T vs H Q E h
def p_l_refused (x : Ex) (P : (Str × PyData) -> Prop) : Prop := match x with
 | .Wrong w => P (("Wrong" : Str), w)
 | .TooMany w => P (("TooMany" : Str), w)
 | .NoFile w => P (("NoFile" : Str), w)
 | .There w => P (("There" : Str), w)
def sp_l_refused (K : Fr) (a : Addr) (cls : Value) (d : Option Addr) (H : Hp) (Q : VK) : Prop := ∃ (Rs : List Res) (dd : Addr) (v : V) (x : Ex) (P : (Str × PyData) -> Prop), cls = .ref (He.ga K x.cls) /\ d = some dd /\ M (pt dd (.xd [(x.fld, v)]) :: da K v x.val :: Rs) H /\ p_l_refused x P /\ ∀ (r : (Str × PyData)) (u : V) H', P r -> M (da K u ((eP eS eA) r) :: pt dd (.xd [(x.fld, v)]) :: da K v x.val :: Rs) H' -> Q u H'
abbrev t_l_refused_5 (K : Fr) (a : Addr) (cls : Value) (d : Option Addr) : TS := (tSeq (tIfS (tB (tCB (uIsX K a cls d) (tCons (tVar 0) (tCons (tC (.ref (He.ga K "TooMany"))) tNil)))) (tRet (tTup (tCons (tC (.str "TooMany")) (tCons (tXg K a cls d "most" (tVar 0)) tNil)))) tNext)
 (tRet (tTup (tCons (tC (.str "Wrong")) (tCons (tXg K a cls d "at" (tVar 0)) tNil)))))
abbrev t_l_refused_3 (K : Fr) (a : Addr) (cls : Value) (d : Option Addr) : TS := (tSeq (tIfS (tB (tCB (uIsX K a cls d) (tCons (tVar 0) (tCons (tC (.ref (He.ga K "There"))) tNil)))) (tRet (tTup (tCons (tC (.str "There")) (tCons (tXg K a cls d "thing" (tVar 0)) tNil)))) tNext)
 (t_l_refused_5 K a cls d))
abbrev t_l_refused_1 (K : Fr) (a : Addr) (cls : Value) (d : Option Addr) : TS := (tSeq (tIfS (tB (tCB (uIsX K a cls d) (tCons (tVar 0) (tCons (tC (.ref (He.ga K "NoFile"))) tNil)))) (tRet (tTup (tCons (tC (.str "NoFile")) (tCons (tXg K a cls d "name" (tVar 0)) tNil)))) tNext)
 (t_l_refused_3 K a cls d))
abbrev t_l_refused (K : Fr) (a : Addr) (cls : Value) (d : Option Addr) : TS := (t_l_refused_1 K a cls d)
theorem pure_l_refused {K : Fr} (T : TxC K) (a : Addr) (cls : Value) (d : Option Addr) (H : Hp) (Q : VK) (h : sp_l_refused K a cls d H Q) : t_l_refused K a cls d { nx := λ _ H' => Q .non H', rt := Q } (L2.start ["_law_e"] [.ref a]) H := by
 obtain ⟨Rs, dd, v, x, P, rfl, rfl, S0, hf, hk⟩ := h
 show t_l_refused K a _ _ _ [some (V.ref a)] H
 cases x with
 | Wrong w =>
   refine g_seq (g_if (g_B (g_cb (g_cons (g_var rfl (g_cons (g_c (g_nil (v_isX T.xc_Wrong (S0.got 0 rfl) T.xk_Wrong_NoFile (g_bl (v_ifF (g_next (g_nx (g_seq (g_if (g_B (g_cb (g_cons (g_var rfl (g_cons (g_c (g_nil (v_isX T.xc_Wrong (S0.got 0 rfl) T.xk_Wrong_There (g_bl (v_ifF (g_next (g_nx (g_seq (g_if (g_B (g_cb (g_cons (g_var rfl (g_cons (g_c (g_nil (v_isX T.xc_Wrong (S0.got 0 rfl) T.xk_Wrong_TooMany (g_bl (v_ifF (g_next (g_nx (g_ret (g_tup (g_cons (g_c (g_cons (g_xgv rfl T.xc_Wrong (chN_ok T.xn_Wrong_at) (S0.got 0 rfl) rfl (g_nil (v_tupq S0 (EnF.consA (EnF.all λ _ => .str _) (EnF.consA (EnF.at 1 rfl) EnF.nilA)) (len_ok rfl) λ p1 H3 (S2 : M (da K (V.ref p1) ((eP eS eA) (("Wrong" : Str), w)) :: pt dd (.xd [("at", v)]) :: da K v w :: Rs) H3) => ?_)))))))))))))))))))))))))))))))))))))))))))))))))
   exact hk _ _ _ hf (M.sub (.cons 0 rfl (.cons 0 rfl (.cons 0 rfl (.refl _)))) S2)
 | TooMany w =>
   refine g_seq (g_if (g_B (g_cb (g_cons (g_var rfl (g_cons (g_c (g_nil (v_isX T.xc_TooMany (S0.got 0 rfl) T.xk_TooMany_NoFile (g_bl (v_ifF (g_next (g_nx (g_seq (g_if (g_B (g_cb (g_cons (g_var rfl (g_cons (g_c (g_nil (v_isX T.xc_TooMany (S0.got 0 rfl) T.xk_TooMany_There (g_bl (v_ifF (g_next (g_nx (g_seq (g_if (g_B (g_cb (g_cons (g_var rfl (g_cons (g_c (g_nil (v_isX T.xc_TooMany (S0.got 0 rfl) T.xk_TooMany_TooMany (g_bl (v_ifT (g_ret (g_tup (g_cons (g_c (g_cons (g_xgv rfl T.xc_TooMany (chN_ok T.xn_TooMany_most) (S0.got 0 rfl) rfl (g_nil (v_tupq S0 (EnF.consA (EnF.all λ _ => .str _) (EnF.consA (EnF.at 1 rfl) EnF.nilA)) (len_ok rfl) λ p5 H7 (S6 : M (da K (V.ref p5) ((eP eS eA) (("TooMany" : Str), w)) :: pt dd (.xd [("most", v)]) :: da K v w :: Rs) H7) => ?_)))))))))))))))))))))))))))))))))))))))))))))))
   exact hk _ _ _ hf (M.sub (.cons 0 rfl (.cons 0 rfl (.cons 0 rfl (.refl _)))) S6)
 | NoFile w =>
   refine g_seq (g_if (g_B (g_cb (g_cons (g_var rfl (g_cons (g_c (g_nil (v_isX T.xc_NoFile (S0.got 0 rfl) T.xk_NoFile_NoFile (g_bl (v_ifT (g_ret (g_tup (g_cons (g_c (g_cons (g_xgv rfl T.xc_NoFile (chN_ok T.xn_NoFile_name) (S0.got 0 rfl) rfl (g_nil (v_tupq S0 (EnF.consA (EnF.all λ _ => .str _) (EnF.consA (EnF.at 1 rfl) EnF.nilA)) (len_ok rfl) λ p9 H11 (S10 : M (da K (V.ref p9) ((eP eS eA) (("NoFile" : Str), w)) :: pt dd (.xd [("name", v)]) :: da K v w :: Rs) H11) => ?_)))))))))))))))))))
   exact hk _ _ _ hf (M.sub (.cons 0 rfl (.cons 0 rfl (.cons 0 rfl (.refl _)))) S10)
 | There w =>
   refine g_seq (g_if (g_B (g_cb (g_cons (g_var rfl (g_cons (g_c (g_nil (v_isX T.xc_There (S0.got 0 rfl) T.xk_There_NoFile (g_bl (v_ifF (g_next (g_nx (g_seq (g_if (g_B (g_cb (g_cons (g_var rfl (g_cons (g_c (g_nil (v_isX T.xc_There (S0.got 0 rfl) T.xk_There_There (g_bl (v_ifT (g_ret (g_tup (g_cons (g_c (g_cons (g_xgv rfl T.xc_There (chN_ok T.xn_There_thing) (S0.got 0 rfl) rfl (g_nil (v_tupq S0 (EnF.consA (EnF.all λ _ => .str _) (EnF.consA (EnF.at 1 rfl) EnF.nilA)) (len_ok rfl) λ p13 H15 (S14 : M (da K (V.ref p13) ((eP eS eA) (("There" : Str), w)) :: pt dd (.xd [("thing", v)]) :: da K v w :: Rs) H15) => ?_)))))))))))))))))))))))))))))))))
   exact hk _ _ _ hf (M.sub (.cons 0 rfl (.cons 0 rfl (.cons 0 rfl (.refl _)))) S14)
def p_l_due (a_files : (List (Str × (List Int)))) (a_deed_here : PyData) (P : PyData -> Prop) : Prop := ∃ x1 : (List PyData), a_deed_here = (eV eA) x1 /\ ∃ x9 : (PyData × PyData), (cutL x1 none (some 2)) = [x9.1, x9.2] /\ ∃ x19 : Str, x9.1 = eS x19 /\ jn (λ k28 => if (decide (x19 = ("write" : Str))) = true then (jn (λ k34 => ∃ x36 : Str, x9.2 = eS x36 /\ if (!(lk a_files x36).isSome) = true then (k34 (decide (((a_files).length : Int) = 8))) else (k34 false)) λ c30 => k28 c30) else (k28 false)) λ c24 => if c24 = true then (P ((eP eS eI) (("TooMany" : Str), 8))) else (jn (λ k52 => if (([("drop" : Str), ("move" : Str), ("content" : Str)]).any λ y => decide (y = x19)) = true then (∃ x58 : Str, x9.2 = eS x58 /\ k52 (!(lk a_files x58).isSome)) else (k52 false)) λ c48 => if c48 = true then (P ((eP eS eA) (("NoFile" : Str), x9.2))) else (jn (λ k72 => if (decide (x19 = ("move" : Str))) = true then (∃ x74, atI x1 2 = some x74 /\ ∃ x79 : Str, x74 = eS x79 /\ k72 ((lk a_files x79).isSome)) else (k72 false)) λ c68 => if c68 = true then (∃ x85, atI x1 2 = some x85 /\ P ((eP eS eA) (("There" : Str), x85))) else (P (eN ()))))
def sp_l_due (K : Fr) : Sp := λ vs H Q _ => ∃ (Rs : List Res) (p_a_files : Addr) (a_files : (List (Str × (List Int)))) (v_a_deed_here : V) (a_deed_here : PyData) (P : PyData -> Prop), vs = [(V.ref p_a_files), v_a_deed_here] /\ M (adR K iS (eL eI) p_a_files a_files :: da K v_a_deed_here (eA a_deed_here) :: Rs) H /\ p_l_due a_files a_deed_here P /\ ∀ (r : PyData) (v : V) H', P r -> M (da K v (eA r) :: adR K iS (eL eI) p_a_files a_files :: Rs) H' -> Q v H'
theorem len_l_due {K : Fr} (vs : List V) (H : Hp) (Q : VK) (E : XK) (h : sp_l_due K vs H Q E) : vs.length = 2 := by
 obtain ⟨Rs, p_a_files, a_files, v_a_deed_here, a_deed_here, P, rfl, _⟩ := h
 rfl
abbrev t_l_due_6 (K : Fr) : TS := (tSeq (tIfS (tAnd (tTest (tOp (uEq K) (tVar 2) (tC (.str "move")))) (tTest (tOp (uIn K) (tOp (uIx K) (tVar 1) (tC (.int 2))) (tVar 0)))) (tRet (tTup (tCons (tC (.str "There")) (tCons (tOp (uIx K) (tVar 1) (tC (.int 2))) tNil)))) tNext)
 (tRet (tC .non)))
abbrev t_l_due_4 (K : Fr) : TS := (tSeq (tIfS (tAnd (tTest (tOp (uIn K) (tVar 2) (tTup (tCons (tC (.str "drop")) (tCons (tC (.str "move")) (tCons (tC (.str "content")) tNil)))))) (tTest (tOp (uNotIn K) (tVar 3) (tVar 0)))) (tRet (tTup (tCons (tC (.str "NoFile")) (tCons (tVar 3) tNil)))) tNext)
 (t_l_due_6 K))
abbrev t_l_due_2 (K : Fr) : TS := (tSeq (tIfS (tAnd (tTest (tOp (uEq K) (tVar 2) (tC (.str "write")))) (tAnd (tTest (tOp (uNotIn K) (tVar 3) (tVar 0))) (tTest (tOp (uEq K) (tCB (uLen K) (tCons (tVar 0) tNil)) (tC (.int 8)))))) (tRet (tTup (tCons (tC (.str "TooMany")) (tCons (tC (.int 8)) tNil)))) tNext)
 (t_l_due_4 K))
abbrev t_l_due_1 (K : Fr) : TS := (tSeq (tAsg (tSl (rSlA K) (tVar 1) tNoPart (tPart (tC (.int 2)))) (gTup K 2 (gCons (gName 2) (gCons (gName 3) gNil))))
 (t_l_due_2 K))
abbrev t_l_due (K : Fr) : TS := (t_l_due_1 K)
theorem pure_l_due {K : Fr} (vs : List V) (H : Hp) (Q : VK) (E : XK) (h : sp_l_due K vs H Q E) : t_l_due K { nx := λ _ H' => Q .non H', rt := Q } (L2.start ["_law_files", "_law_deed_here", "_law_word", "_law_name"] vs) H := by
 obtain ⟨Rs, p_a_files, a_files, v_a_deed_here, a_deed_here, P, rfl, S0, hf, hk⟩ := h
 show t_l_due K _ [some (V.ref p_a_files), some v_a_deed_here, none, none] H
 refine g_seq (g_asgX (g_sl (g_var rfl (g_noPart (g_part (g_c (g_int ?_)))))))
 obtain ⟨x1, h2, hf⟩ := hf
 have S3 := M.cstA S0 1 rfl h2
 refine v_slA S3 0 rfl λ p5 H7 (S6 : M (da K p5 ((eV eA) (cutL x1 none (some 2))) :: da K v_a_deed_here ((eV eA) x1) :: oo2 Rs) H7) => ?_
 obtain ⟨x9, h10, hf⟩ := hf
 have S11 : M (da K p5 ((eP eA eA) x9) :: oo4 Rs) H7 := M.cstA S6 0 rfl (by rw [h10]; rfl)
 obtain ⟨a15, u13, u14, e_a15, q_a15, S16⟩ := S11.openP 0 rfl
 subst e_a15
 refine g_gtup q_a15 rfl (g_gcons ?_)
 obtain ⟨x19, h20, hf⟩ := hf
 have S21 := M.cstA S16 0 rfl h20
 obtain rfl := (S21.gotA 0 rfl).strV
 have S22 := S21.tl
 refine g_name (g_gcons ?_)
 refine g_name (g_gnil (g_nx ?_))
 show (_ : TS) _ [some (V.ref p_a_files), some v_a_deed_here, some (V.str x19), some u14] _
 have S23 : M (da K u14 (eA x9.2) :: oo2 Rs) H7 := (M.drp (M.drp (M.drp (M.drp S22 6) 3) 2) 0)
 refine g_seq (g_if ?_)
 refine tt_cut hf (λ H => M (da K u14 (eA x9.2) :: da K v_a_deed_here ((eV eA) x1) :: adR K iS (eL eI) p_a_files a_files :: Rs) H) (λ kk25 P26 hP27 hf => ?_) ?_
 ·
  refine g_and (g_test (g_op (g_var rfl (g_c (v_eqS (g_bl (v_iff hf (λ _ hf => ?_) (λ _ hf => ?_))))))))
  ·
   refine tt_cut hf (λ H => M (da K u14 (eA x9.2) :: da K v_a_deed_here ((eV eA) x1) :: adR K iS (eL eI) p_a_files a_files :: Rs) H) (λ kk31 P32 hP33 hf => ?_) ?_
   ·
    refine g_and (g_test (g_op (g_var rfl (g_var rfl ?_))))
    obtain ⟨x36, h37, hf⟩ := hf
    have S38 := M.cstA S23 0 rfl h37
    obtain rfl := (S38.gotA 0 rfl).strV
    have S39 := S38.tl
    refine d_ninS (M.dvO S39 2 rfl) (g_bl (v_iff hf (λ _ hf => ?_) (λ _ hf => ?_)))
    ·
     refine g_test (g_op (g_cb (g_cons (g_var rfl (g_nil (DVs.len (M.dvO S39 2 rfl) (g_c (v_eqI (g_bl ?_)))))))))
     exact hP33 _ _ hf (M.sub (.cons 0 rfl (.cons 0 rfl (.cons 0 rfl (.refl _)))) S39)
    ·
     exact hP33 _ _ hf (M.sub (.cons 0 rfl (.cons 0 rfl (.cons 0 rfl (.refl _)))) S39)
   intro c30 H41 hf S40
   exact hP27 _ _ hf (M.sub (.cons 0 rfl (.cons 0 rfl (.cons 0 rfl (.refl _)))) S40)
  ·
   exact hP27 _ _ hf (M.pk S23 3 [0, 1, 2] rfl)
 intro c24 H43 hf S42
 refine v_iff hf (λ _ hf => ?_) (λ _ hf => ?_)
 ·
  refine g_ret (g_tup (g_cons (g_c (g_cons (g_c (g_nil (v_tupq S42 (EnF.consA (EnF.all λ _ => .str _) (EnF.consA (EnF.all λ _ => .int _) EnF.nilA)) (len_ok rfl) λ p44 H46 (S45 : M (da K (V.ref p44) ((eP eS eI) (("TooMany" : Str), 8)) :: da K u14 (eA x9.2) :: da K v_a_deed_here ((eV eA) x1) :: adR K iS (eL eI) p_a_files a_files :: Rs) H46) => ?_)))))))
  exact hk _ _ _ hf (M.pk S45 4 [0, 3] rfl)
 ·
  refine g_next (g_nx (g_seq (g_if ?_)))
  refine tt_cut hf (λ H => M (da K u14 (eA x9.2) :: da K v_a_deed_here ((eV eA) x1) :: adR K iS (eL eI) p_a_files a_files :: Rs) H) (λ kk49 P50 hP51 hf => ?_) ?_
  ·
   refine g_and (g_test (g_op (g_var rfl (g_tup (g_cons (g_c (g_cons (g_c (g_cons (g_c (g_nil (v_tupq S42 (EnF.consA (EnF.all λ _ => .str _) (EnF.consA (EnF.all λ _ => .str _) (EnF.consA (EnF.all λ _ => .str _) EnF.nilA))) (len_ok rfl) λ p54 H56 (S55 : M (da K (V.ref p54) ((eV eS) [("drop" : Str), ("move" : Str), ("content" : Str)]) :: da K u14 (eA x9.2) :: da K v_a_deed_here ((eV eA) x1) :: adR K iS (eL eI) p_a_files a_files :: Rs) H56) => ?_))))))))))))
   refine v_inV (M.gotA S55 0 rfl) (g_bl (v_iff hf (λ _ hf => ?_) (λ _ hf => ?_)))
   ·
    refine g_test (g_op (g_var rfl (g_var rfl ?_)))
    obtain ⟨x58, h59, hf⟩ := hf
    have S60 := M.cstA S55 1 rfl h59
    obtain rfl := (S60.gotA 0 rfl).strV
    have S61 := S60.tl
    refine d_ninS (M.dvO S61 3 rfl) (g_bl ?_)
    exact hP51 _ _ hf (M.sub (.cons 1 rfl (.cons 1 rfl (.cons 1 rfl (.tl (.refl _))))) S61)
   ·
    exact hP51 _ _ hf (M.pk S55 4 [1, 2, 3] rfl)
  intro c48 H63 hf S62
  refine v_iff hf (λ _ hf => ?_) (λ _ hf => ?_)
  ·
   refine g_ret (g_tup (g_cons (g_c (g_cons (g_var rfl (g_nil (v_tupq S62 (EnF.consA (EnF.all λ _ => .str _) (EnF.consA (EnF.at 0 rfl) EnF.nilA)) (len_ok rfl) λ p64 H66 (S65 : M (da K (V.ref p64) ((eP eS eA) (("NoFile" : Str), x9.2)) :: da K u14 (eA x9.2) :: da K v_a_deed_here ((eV eA) x1) :: adR K iS (eL eI) p_a_files a_files :: Rs) H66) => ?_)))))))
   exact hk _ _ _ hf (M.pk S65 4 [0, 3] rfl)
  ·
   refine g_next (g_nx (g_seq (g_if ?_)))
   refine tt_cut hf (λ H => M (da K u14 (eA x9.2) :: da K v_a_deed_here ((eV eA) x1) :: adR K iS (eL eI) p_a_files a_files :: Rs) H) (λ kk69 P70 hP71 hf => ?_) ?_
   ·
    refine g_and (g_test (g_op (g_var rfl (g_c (v_eqS (g_bl (v_iff hf (λ _ hf => ?_) (λ _ hf => ?_))))))))
    ·
     refine g_test (g_op (g_op (g_var rfl (g_c ?_))))
     obtain ⟨x74, h75, hf⟩ := hf
     refine v_ixv S62 1 rfl h75 λ u76 S77 => ?_
     refine g_var rfl ?_
     obtain ⟨x79, h80, hf⟩ := hf
     have S81 := M.cstA S77 0 rfl h80
     obtain rfl := (S81.gotA 0 rfl).strV
     have S82 := S81.tl
     refine d_inS (M.dvO S82 3 rfl) (g_bl ?_)
     exact hP71 _ _ hf (M.sub (.cons 1 rfl (.cons 1 rfl (.cons 1 rfl (.tl (.refl _))))) S82)
    ·
     exact hP71 _ _ hf (M.sub (.cons 0 rfl (.cons 0 rfl (.cons 0 rfl (.refl _)))) S62)
   intro c68 H84 hf S83
   refine v_iff hf (λ _ hf => ?_) (λ _ hf => ?_)
   ·
    refine g_ret (g_tup (g_cons (g_c (g_cons (g_op (g_var rfl (g_c ?_)))))))
    obtain ⟨x85, h86, hf⟩ := hf
    refine v_ixv S83 1 rfl h86 λ u87 S88 => ?_
    refine g_nil (v_tupq S88 (EnF.consA (EnF.all λ _ => .str _) (EnF.consA (EnF.at 0 rfl) EnF.nilA)) (len_ok rfl) λ p90 H92 (S91 : M (da K (V.ref p90) ((eP eS eA) (("There" : Str), x85)) :: da K u87 (eA x85) :: da K u14 (eA x9.2) :: da K v_a_deed_here ((eV eA) x1) :: adR K iS (eL eI) p_a_files a_files :: Rs) H92) => ?_)
    exact hk _ _ _ hf (M.pk S91 5 [0, 4] rfl)
   ·
    refine g_next (g_nx (g_ret (g_c ?_)))
    have S94 : M (da K V.non (eN ()) :: da K u14 (eA x9.2) :: da K v_a_deed_here ((eV eA) x1) :: adR K iS (eL eI) p_a_files a_files :: Rs) H84 := M.addA S83 (EnF.all λ _ => .non)
    exact hk _ _ _ hf (M.pk S94 4 [0, 3] rfl)
def p_l_do (a_files : (List (Str × (List Int)))) (a_deed_here : PyData) (P : PyData -> (List (Str × (List Int))) -> Prop) : Prop := ∃ x1 : (List PyData), a_deed_here = (eV eA) x1 /\ ∃ x9 : (PyData × PyData), (cutL x1 none (some 2)) = [x9.1, x9.2] /\ ∃ x19 : Str, x9.1 = eS x19 /\ if (decide (x19 = ("content" : Str))) = true then (∃ x24 : Str, x9.2 = eS x24 /\ ∃ x28, lk a_files x24 = some x28 /\ P ((eL eI) x28) a_files) else (jn (β := (List (Str × (List Int)))) (λ k40 => if (decide (x19 = ("write" : Str))) = true then (∃ x45, atI x1 2 = some x45 /\ ∃ x50 : (List Int), x45 = (eL eI) x50 /\ ∃ x60 : Str, x9.2 = eS x60 /\ (a_files).length < 100000 /\ k40 (pk a_files x60 x50)) else (k40 a_files)) λ s39 => jn (β := (List (Str × (List Int)))) (λ k71 => if (decide (x19 = ("drop" : Str))) = true then (∃ x76 : Str, x9.2 = eS x76 /\ ∃ x80, lk s39 x76 = some x80 /\ k71 (dk s39 x76)) else (k71 s39)) λ s70 => jn (β := (List (Str × (List Int)))) (λ k90 => if (decide (x19 = ("move" : Str))) = true then (∃ x95 : Str, x9.2 = eS x95 /\ ∃ x99, lk s70 x95 = some x99 /\ ∃ x106, atI x1 2 = some x106 /\ ∃ x111 : Str, x106 = eS x111 /\ ((dk s70 x95)).length < 100000 /\ k90 (pk (dk s70 x95) x111 x99)) else (k90 s70)) λ s89 => jn (β := (List (Str × (List Int)))) (λ k122 => if (decide (x19 = ("become" : Str))) = true then (∃ x133 : (List (Str × (List Int))), x9.2 = (eD iS (eL eI)) x133 /\ (ks x133).length <= 100000 /\ lcD (λ (x140 : Str) (k147 : Option (Str × (List Int)) -> Prop) => ∃ x151, lk x133 x140 = some x151 /\ k147 (some (x140, x151))) (ks x133) [] λ acc137 => (([] : (List (Str × (List Int))))).length + ((dOf acc137)).length <= 100000 /\ k122 (mgD ([] : (List (Str × (List Int)))) (dOf acc137))) else (k122 s89)) λ s121 => P (eN ()) s121)
def sp_l_do (K : Fr) : Sp := λ vs H Q _ => ∃ (Rs : List Res) (p_a_files : Addr) (a_files : (List (Str × (List Int)))) (v_a_deed_here : V) (a_deed_here : PyData) (P : PyData -> (List (Str × (List Int))) -> Prop), vs = [(V.ref p_a_files), v_a_deed_here] /\ M (adR K iS (eL eI) p_a_files a_files :: da K v_a_deed_here (eA a_deed_here) :: Rs) H /\ p_l_do a_files a_deed_here P /\ ∀ (r : PyData) (m1 : (List (Str × (List Int)))) (v : V) H', P r m1 -> M (da K v (eA r) :: adR K iS (eL eI) p_a_files m1 :: Rs) H' -> Q v H'
theorem len_l_do {K : Fr} (vs : List V) (H : Hp) (Q : VK) (E : XK) (h : sp_l_do K vs H Q E) : vs.length = 2 := by
 obtain ⟨Rs, p_a_files, a_files, v_a_deed_here, a_deed_here, P, rfl, _⟩ := h
 rfl
abbrev t_l_do_11 (K : Fr) : TS := (tSeq (tDrop (tBM0 K "dict" rDClear (tVar 0)))
 (tDrop (tBM K "dict" rDUpd (tVar 0) (tCons (tFzE (tCB (rDictP K) (tCons (tLkE (tLc (iKeys (tVar 3)) (gName 4) tYes (tTup (tCons (tVar 4) (tCons (tCB (rListOf K) (tCons (tOp rIxK (tVar 3) (tVar 4)) tNil)) tNil))) [4])) tNil))) tNil))))
abbrev t_l_do_10 (K : Fr) : TS := (tSeq (tIfS (tTest (tOp (uEq K) (tVar 2) (tC (.str "become")))) (t_l_do_11 K) tNext)
 (tRet (tC .non)))
abbrev t_l_do_8 (K : Fr) : TS := (tSeq (tIfS (tTest (tOp (uEq K) (tVar 2) (tC (.str "move")))) (tAsg (tDPop1 (tVar 0) (tVar 3)) (gSub (tVar 0) (tOp (uIx K) (tVar 1) (tC (.int 2))) uSet)) tNext)
 (t_l_do_10 K))
abbrev t_l_do_6 (K : Fr) : TS := (tSeq (tIfS (tTest (tOp (uEq K) (tVar 2) (tC (.str "drop")))) (tDrop (tDPop1 (tVar 0) (tVar 3))) tNext)
 (t_l_do_8 K))
abbrev t_l_do_4 (K : Fr) : TS := (tSeq (tIfS (tTest (tOp (uEq K) (tVar 2) (tC (.str "write")))) (tAsg (tCB (rListOf K) (tCons (tOp (uIx K) (tVar 1) (tC (.int 2))) tNil)) (gSub (tVar 0) (tVar 3) uSet)) tNext)
 (t_l_do_6 K))
abbrev t_l_do_2 (K : Fr) : TS := (tSeq (tIfS (tTest (tOp (uEq K) (tVar 2) (tC (.str "content")))) (tRet (tCB (rListOf K) (tCons (tOp rIxK (tVar 0) (tVar 3)) tNil))) tNext)
 (t_l_do_4 K))
abbrev t_l_do_1 (K : Fr) : TS := (tSeq (tAsg (tSl (rSlA K) (tVar 1) tNoPart (tPart (tC (.int 2)))) (gTup K 2 (gCons (gName 2) (gCons (gName 3) gNil))))
 (t_l_do_2 K))
abbrev t_l_do (K : Fr) : TS := (t_l_do_1 K)
theorem pure_l_do {K : Fr} (vs : List V) (H : Hp) (Q : VK) (E : XK) (h : sp_l_do K vs H Q E) : t_l_do K { nx := λ _ H' => Q .non H', rt := Q } (L2.start ["_law_files", "_law_deed_here", "_law_word", "_law_name", "_law_one"] vs) H := by
 obtain ⟨Rs, p_a_files, a_files, v_a_deed_here, a_deed_here, P, rfl, S0, hf, hk⟩ := h
 show t_l_do K _ [some (V.ref p_a_files), some v_a_deed_here, none, none, none] H
 refine g_seq (g_asgX (g_sl (g_var rfl (g_noPart (g_part (g_c (g_int ?_)))))))
 obtain ⟨x1, h2, hf⟩ := hf
 have S3 := M.cstA S0 1 rfl h2
 refine v_slA S3 0 rfl λ p5 H7 (S6 : M (da K p5 ((eV eA) (cutL x1 none (some 2))) :: da K v_a_deed_here ((eV eA) x1) :: oo2 Rs) H7) => ?_
 obtain ⟨x9, h10, hf⟩ := hf
 have S11 : M (da K p5 ((eP eA eA) x9) :: oo4 Rs) H7 := M.cstA S6 0 rfl (by rw [h10]; rfl)
 obtain ⟨a15, u13, u14, e_a15, q_a15, S16⟩ := S11.openP 0 rfl
 subst e_a15
 refine g_gtup q_a15 rfl (g_gcons ?_)
 obtain ⟨x19, h20, hf⟩ := hf
 have S21 := M.cstA S16 0 rfl h20
 obtain rfl := (S21.gotA 0 rfl).strV
 have S22 := S21.tl
 refine g_name (g_gcons ?_)
 refine g_name (g_gnil (g_nx ?_))
 show (_ : TS) _ [some (V.ref p_a_files), some v_a_deed_here, some (V.str x19), some u14, none] _
 have S23 : M (da K u14 (eA x9.2) :: oo2 Rs) H7 := (M.drp (M.drp (M.drp (M.drp S22 6) 3) 2) 0)
 refine g_seq (g_if (g_test (g_op (g_var rfl (g_c (v_eqS (g_bl (v_iff hf (λ _ hf => ?_) (λ _ hf => ?_)))))))))
 ·
  refine g_ret (g_cb (g_cons (g_op (g_var rfl (g_var rfl ?_)))))
  obtain ⟨x24, h25, hf⟩ := hf
  have S26 := M.cstA S23 0 rfl h25
  obtain rfl := (S26.gotA 0 rfl).strV
  have S27 := S26.tl
  obtain ⟨x28, h29, hf⟩ := hf
  refine d_ixS (M.dvO S27 2 rfl) h29 λ u30 S31 => ?_
  refine g_nil (v_liN flI S31 (M.gotA S31 0 rfl) λ p33 H35 (S34 : M (acR K p33 (x28.map eI) :: da K u30 ((eL eI) x28) :: da K (V.str x24) (eA x9.2) :: oo2 Rs) H35) => ?_)
  have S37 : M (da K (V.ref p33) ((eL eI) x28) :: oo4 Rs) H35 := acR_fixL S34
  exact hk _ _ _ _ hf (M.pk S37 5 [0, 4] rfl)
 ·
  refine g_next (g_nx ?_)
  show (_ : TS) _ [some (V.ref p_a_files), some v_a_deed_here, some (V.str x19), some u14, none] _
  refine jn_cut (β := (List (Str × (List Int)))) hf (λ (s39 : (List (Str × (List Int)))) σ H' => σ = [some (V.ref p_a_files), some v_a_deed_here, some (V.str x19), some u14, none] /\ M (adR K iS (eL eI) p_a_files s39 :: da K u14 (eA x9.2) :: da K v_a_deed_here ((eV eA) x1) :: Rs) H') (λ kk41 N42 hN43 hf => ?_) ?_
  ·
   refine g_if (g_test (g_op (g_var rfl (g_c (v_eqS (g_bl (v_iff hf (λ _ hf => ?_) (λ _ hf => ?_))))))))
   ·
    refine g_asgX (g_cb (g_cons (g_op (g_var rfl (g_c ?_)))))
    obtain ⟨x45, h46, hf⟩ := hf
    refine v_ixv S23 1 rfl h46 λ u47 S48 => ?_
    refine g_nil ?_
    obtain ⟨x50, h51, hf⟩ := hf
    have S52 := M.cstA S48 0 rfl h51
    refine v_liN flI S52 (M.gotA S52 0 rfl) λ p54 H56 (S55 : M (acR K p54 (x50.map eI) :: da K u47 ((eL eI) x50) :: da K u47 (eA x45) :: oo3 Rs) H56) => ?_
    have S58 : M (da K (V.ref p54) ((eL eI) x50) :: oo5 Rs) H56 := acR_fixL S55
    refine g_sub (g_var rfl (g_var rfl ?_))
    obtain ⟨x60, h61, hf⟩ := hf
    have S62 := M.cstA S58 3 rfl h61
    obtain rfl := (S62.gotA 0 rfl).strV
    have S63 := S62.tl
    obtain ⟨h64, hf⟩ := hf
    refine v_putdS (e := (eL eI)) (x := x50) S63 5 rfl (EnF.at 0 rfl) h64 λ H66 (S65 : M (adR K iS (eL eI) p_a_files (pk a_files x60 x50) :: oo3 (da K (V.str x60) (eA x9.2) :: _ :: Rs)) H66) => ?_
    exact hN43 _ _ _ hf ⟨rfl, (M.pk S65 6 [0, 4, 5] rfl)⟩
   ·
    refine g_next ?_
    exact hN43 _ _ _ hf ⟨rfl, (M.pk S23 3 [2, 0, 1] rfl)⟩
  rintro s39 _ H69 hf ⟨rfl, S68⟩
  refine jn_cut (β := (List (Str × (List Int)))) hf (λ (s70 : (List (Str × (List Int)))) σ H' => σ = [some (V.ref p_a_files), some v_a_deed_here, some (V.str x19), some u14, none] /\ M (adR K iS (eL eI) p_a_files s70 :: da K u14 (eA x9.2) :: da K v_a_deed_here ((eV eA) x1) :: Rs) H') (λ kk72 N73 hN74 hf => ?_) ?_
  ·
   refine g_if (g_test (g_op (g_var rfl (g_c (v_eqS (g_bl (v_iff hf (λ _ hf => ?_) (λ _ hf => ?_))))))))
   ·
    refine g_drop (g_dpop (g_var rfl (v_dpopA S68 0 rfl (g_var rfl ?_))))
    obtain ⟨x76, h77, hf⟩ := hf
    have S78 := M.cstA S68 1 rfl h77
    obtain rfl := (S78.gotA 0 rfl).strV
    have S79 := S78.tl
    obtain ⟨x80, h81, hf⟩ := hf
    refine v_popAS S79 0 rfl h81 λ u82 H84 (S83 : M (da K u82 ((eL eI) x80) :: adR K iS (eL eI) p_a_files (dk s39 x76) :: da K (V.str x76) (eA x9.2) :: _ :: Rs) H84) => ?_
    exact hN74 _ _ _ hf ⟨rfl, (M.pk S83 4 [1, 2, 3] rfl)⟩
   ·
    refine g_next ?_
    exact hN74 _ _ _ hf ⟨rfl, (M.sub (.cons 0 rfl (.cons 0 rfl (.cons 0 rfl (.refl _)))) S68)⟩
  rintro s70 _ H88 hf ⟨rfl, S87⟩
  refine jn_cut (β := (List (Str × (List Int)))) hf (λ (s89 : (List (Str × (List Int)))) σ H' => σ = [some (V.ref p_a_files), some v_a_deed_here, some (V.str x19), some u14, none] /\ M (adR K iS (eL eI) p_a_files s89 :: da K u14 (eA x9.2) :: da K v_a_deed_here ((eV eA) x1) :: Rs) H') (λ kk91 N92 hN93 hf => ?_) ?_
  ·
   refine g_if (g_test (g_op (g_var rfl (g_c (v_eqS (g_bl (v_iff hf (λ _ hf => ?_) (λ _ hf => ?_))))))))
   ·
    refine g_asgX (g_dpop (g_var rfl (v_dpopA S87 0 rfl (g_var rfl ?_))))
    obtain ⟨x95, h96, hf⟩ := hf
    have S97 := M.cstA S87 1 rfl h96
    obtain rfl := (S97.gotA 0 rfl).strV
    have S98 := S97.tl
    obtain ⟨x99, h100, hf⟩ := hf
    refine v_popAS S98 0 rfl h100 λ u101 H103 (S102 : M (da K u101 ((eL eI) x99) :: adR K iS (eL eI) p_a_files (dk s70 x95) :: da K (V.str x95) (eA x9.2) :: _ :: Rs) H103) => ?_
    refine g_sub (g_var rfl (g_op (g_var rfl (g_c ?_))))
    obtain ⟨x106, h107, hf⟩ := hf
    refine v_ixv S102 3 rfl h107 λ u108 S109 => ?_
    obtain ⟨x111, h112, hf⟩ := hf
    have S113 := M.cstA S109 0 rfl h112
    obtain rfl := (S113.gotA 0 rfl).strV
    have S114 := S113.tl
    obtain ⟨h115, hf⟩ := hf
    refine v_putdS (e := (eL eI)) (x := x99) S114 2 rfl (EnF.at 1 rfl) h115 λ H117 (S116 : M (adR K iS (eL eI) p_a_files (pk (dk s70 x95) x111 x99) :: da K (V.str x111) (eA x106) :: oo3 Rs) H117) => ?_
    exact hN93 _ _ _ hf ⟨rfl, (M.pk S116 5 [0, 3, 4] rfl)⟩
   ·
    refine g_next ?_
    exact hN93 _ _ _ hf ⟨rfl, (M.sub (.cons 0 rfl (.cons 0 rfl (.cons 0 rfl (.refl _)))) S87)⟩
  rintro s89 _ H120 hf ⟨rfl, S119⟩
  refine jn_cut (β := (List (Str × (List Int)))) hf (λ (s121 : (List (Str × (List Int)))) σ H' => ∃ (o127 : Option V), σ = [some (V.ref p_a_files), some v_a_deed_here, some (V.str x19), some u14, o127] /\ M (adR K iS (eL eI) p_a_files s121 :: da K u14 (eA x9.2) :: da K v_a_deed_here ((eV eA) x1) :: Rs) H') (λ kk123 N124 hN125 hf => ?_) ?_
  ·
   refine g_if (g_test (g_op (g_var rfl (g_c (v_eqS (g_bl (v_iff hf (λ _ hf => ?_) (λ _ hf => ?_))))))))
   ·
    refine g_seq (g_drop (g_bm0 (g_var rfl (M.tyD S119 0 rfl (v_clrA S119 0 rfl λ H129 (S128 : M (adR K iS (eL eI) p_a_files ([] : (List (Str × (List Int)))) :: oo2 Rs) H129) => ?_)))))
    refine g_nx ?_
    show (_ : TS) _ [some (V.ref p_a_files), some v_a_deed_here, some (V.str x19), some u14, none] _
    refine g_drop (g_bm (g_var rfl (M.tyD S128 0 rfl (g_cons (g_cb (g_cons ?_))))))
    obtain ⟨x133, h134, hf⟩ := hf
    have S135 := M.cstA S128 1 rfl h134
    have S149 : M (bdR K iS (eL eI) u14 x133 DF.dat :: da K u14 ((eD iS (eL eI)) x133) :: oo3 Rs) H129 := M.addA S135 (EnF.at 0 rfl)
    refine lc_kys (K := K) (sv := V.str) (e' := (eP eS (eL eI))) (λ _ => rfl) hf S149 0 rfl (λ _ _ _ S q => g_var rfl q) (λ f148 x140 acc137 E138 H146 kk139 N141 hl142 S145 hf hp143 hn144 => ?_) (λ E138 acc137 H169 hf (S168 : M (acR K E138 (acc137.map (eP eS (eL eI))) :: oo5 Rs) H169) => ?_)
    ·
     refine g_name (g_wipe rfl (g_yes (v_ifT (g_tup (g_cons (g_var rfl (g_cons (g_cb (g_cons (g_op (g_var rfl (g_var rfl ?_))))))))))))
     obtain ⟨x151, h152, hf⟩ := hf
     refine d_ixS (M.dvB S145 1 rfl) h152 λ u153 S154 => ?_
     refine g_nil (v_liN flI S154 (M.gotA S154 0 rfl) λ p156 H158 (S157 : M (acR K p156 (x151.map eI) :: da K u153 ((eL eI) x151) :: acR K E138 (acc137.map (eP eS (eL eI))) :: bdR K iS (eL eI) u14 x133 f148 :: oo4 Rs) H158) => ?_)
     have S160 : M (da K (V.ref p156) ((eL eI) x151) :: oo7 Rs) H158 := acR_fixL S157
     refine g_nil (v_tupq S160 (EnF.consA (EnF.all λ _ => .str _) (EnF.consA (EnF.at 0 rfl) EnF.nilA)) (len_ok rfl) λ p162 H164 (S163 : M (da K (V.ref p162) ((eP eS (eL eI)) (x140, x151)) :: oo8 Rs) H164) => ?_)
     refine acR_put S163 3 rfl (EnF.at 0 rfl) hl142 λ H167 (S166 : M (acR K E138 (acc137.map (eP eS (eL eI)) ++ [(eP eS (eL eI)) (x140, x151)]) :: oo8 Rs) H167) => ?_
     exact hp143 _ _ hf (M.pk S166 9 [0, 4, 5, 6, 7, 8] rfl)
    have S171 : M (da K (V.ref E138) ((eL (eP eS (eL eI))) acc137) :: oo5 Rs) H169 := acR_fixL S168
    refine g_nil (v_dictp S171 0 rfl λ p173 H175 (S174 : M (adR K iS (eL eI) p173 (dOf acc137) :: oo6 Rs) H175) => ?_)
    refine v_fzD S174 0 rfl λ H178 (S177 : M (da K (V.ref p173) ((eD iS (eL eI)) (dOf acc137)) :: oo6 Rs) H178) => ?_
    refine g_nil ?_
    obtain ⟨h180, hf⟩ := hf
    refine v_updA injS S177 4 0 rfl rfl h180 λ H182 (S181 : M (adR K iS (eL eI) p_a_files (mgD ([] : (List (Str × (List Int)))) (dOf acc137)) :: oo6 Rs) H182) => ?_
    exact hN125 _ _ _ hf ⟨_, rfl, (M.pk S181 7 [0, 5, 6] rfl)⟩
   ·
    refine g_next ?_
    exact hN125 _ _ _ hf ⟨_, rfl, (M.sub (.cons 0 rfl (.cons 0 rfl (.cons 0 rfl (.refl _)))) S119)⟩
  rintro s121 _ H185 hf ⟨o127, rfl, S184⟩
  refine g_ret (g_c ?_)
  have S186 : M (da K V.non (eN ()) :: oo3 Rs) H185 := M.addA S184 (EnF.all λ _ => .non)
  exact hk _ _ _ _ hf (M.pk S186 4 [0, 1] rfl)
def p_l_deed (a_names_here : (List Str)) (P : PyData -> Prop) : Prop := p_l_any ([("write" : Str), ("write" : Str), ("write" : Str), ("drop" : Str), ("move" : Str), ("move" : Str), ("content" : Str), ("become" : Str)]) λ x8 => p_l_any a_names_here λ x14 => if (decide (x8 = ("write" : Str))) = true then (p_l_content λ x19 => P ((eT3 eS eS (eL eI)) (x8, x14, x19))) else (if (decide (x8 = ("move" : Str))) = true then (p_l_any a_names_here λ x29 => P ((eT3 eS eS eS) (x8, x14, x29))) else (if (decide (x8 = ("become" : Str))) = true then (takeD ((a_names_here).length : Int) λ n38 => takeD 9 λ n48 => takeD 2 λ n65 => ∃ x70, atI ([1, (-1)] : List Int) n65 = some x70 /\ (x70 = 1 \/ x70 = -1) /\ ((stepL (cutL (cutL a_names_here (some n38) none) none (some n48)) x70)).length <= 100000 /\ lcD (λ (x80 : Str) (k87 : Option (Str × (List Int)) -> Prop) => p_l_content λ x88 => k87 (some (x80, x88))) (stepL (cutL (cutL a_names_here (some n38) none) none (some n48)) x70) [] λ acc77 => P ((eP eS (eD iS (eL eI))) (x8, (dOf acc77)))) else (P ((eP eS eS) (x8, x14)))))
def sp_l_deed (K : Fr) : Sp := λ vs H Q _ => ∃ (Rs : List Res) (a_bag_here : Addr) (v_a_names_here : V) (a_names_here : (List Str)) (P : PyData -> Prop), vs = [(V.ref a_bag_here), v_a_names_here] /\ M (bagR a_bag_here :: da K v_a_names_here ((eL eS) a_names_here) :: Rs) H /\ p_l_deed a_names_here P /\ ∀ (r : PyData) (v : V) H', P r -> M (da K v (eA r) :: bagR a_bag_here :: Rs) H' -> Q v H'
theorem len_l_deed {K : Fr} (vs : List V) (H : Hp) (Q : VK) (E : XK) (h : sp_l_deed K vs H Q E) : vs.length = 2 := by
 obtain ⟨Rs, a_bag_here, v_a_names_here, a_names_here, P, rfl, _⟩ := h
 rfl
abbrev t_l_deed_8 (K : Fr) : TS := (tSeq (tAsg (tSl (uSl K) (tSl (uSl K) (tVar 1) (tPart (tCall (sp_l_take K) [] E0 (tCons (tVar 0) (tCons (tCB (uLen K) (tCons (tVar 1) tNil)) tNil)))) tNoPart) tNoPart (tPart (tCall (sp_l_take K) [] E0 (tCons (tVar 0) (tCons (tC (.int 9)) tNil))))) (gName 4))
 (tRet (tTup (tCons (tVar 2) (tCons (tFzE (tCB (rDictP K) (tCons (tLc (iList K (tStepL K (tVar 4) (tPart (tOp (uIx K) (tLst (tCons (tC (.int 1)) (tCons (tUn (rU λ i => .int (-i)) (tC (.int 1))) tNil))) (tCall (sp_l_take K) [] E0 (tCons (tVar 0) (tCons (tC (.int 2)) tNil))))))) (gName 5) tYes (tTup (tCons (tVar 5) (tCons (tCall (sp_l_content K) [] E0 (tCons (tVar 0) tNil)) tNil))) [5]) tNil))) tNil)))))
abbrev t_l_deed_7 (K : Fr) : TS := (tSeq (tIfS (tTest (tOp (uEq K) (tVar 2) (tC (.str "become")))) (t_l_deed_8 K) tNext)
 (tRet (tTup (tCons (tVar 2) (tCons (tVar 3) tNil)))))
abbrev t_l_deed_5 (K : Fr) : TS := (tSeq (tIfS (tTest (tOp (uEq K) (tVar 2) (tC (.str "move")))) (tRet (tTup (tCons (tVar 2) (tCons (tVar 3) (tCons (tCall (sp_l_any K) [] E0 (tCons (tVar 0) (tCons (tVar 1) tNil))) tNil))))) tNext)
 (t_l_deed_7 K))
abbrev t_l_deed_3 (K : Fr) : TS := (tSeq (tIfS (tTest (tOp (uEq K) (tVar 2) (tC (.str "write")))) (tRet (tTup (tCons (tVar 2) (tCons (tVar 3) (tCons (tCall (sp_l_content K) [] E0 (tCons (tVar 0) tNil)) tNil))))) tNext)
 (t_l_deed_5 K))
abbrev t_l_deed_2 (K : Fr) : TS := (tSeq (tAsg (tCall (sp_l_any K) [] E0 (tCons (tVar 0) (tCons (tVar 1) tNil))) (gName 3))
 (t_l_deed_3 K))
abbrev t_l_deed_1 (K : Fr) : TS := (tSeq (tAsg (tCall (sp_l_any K) [] E0 (tCons (tVar 0) (tCons (tLst (tCons (tC (.str "write")) (tCons (tC (.str "write")) (tCons (tC (.str "write")) (tCons (tC (.str "drop")) (tCons (tC (.str "move")) (tCons (tC (.str "move")) (tCons (tC (.str "content")) (tCons (tC (.str "become")) tNil))))))))) tNil))) (gName 2))
 (t_l_deed_2 K))
abbrev t_l_deed (K : Fr) : TS := (t_l_deed_1 K)
theorem pure_l_deed {K : Fr} (vs : List V) (H : Hp) (Q : VK) (E : XK) (h : sp_l_deed K vs H Q E) : t_l_deed K { nx := λ _ H' => Q .non H', rt := Q } (L2.start ["_law_bag_here", "_law_names_here", "_law_word", "_law_name", "_law_some", "_law_one"] vs) H := by
 obtain ⟨Rs, a_bag_here, v_a_names_here, a_names_here, P, rfl, S0, hf, hk⟩ := h
 show t_l_deed K _ [some (V.ref a_bag_here), some v_a_names_here, none, none, none, none] H
 refine g_seq (g_asg (g_call (g_cons (g_var rfl (g_cons (g_lst (g_cons (g_c (g_cons (g_c (g_cons (g_c (g_cons (g_c (g_cons (g_c (g_cons (g_c (g_cons (g_c (g_cons (g_c (g_nil (v_lsto (ds := ([("write" : Str), ("write" : Str), ("write" : Str), ("drop" : Str), ("move" : Str), ("move" : Str), ("content" : Str), ("become" : Str)]).map eS) S0 (EnF.consA (EnF.all λ _ => .str _) (EnF.consA (EnF.all λ _ => .str _) (EnF.consA (EnF.all λ _ => .str _) (EnF.consA (EnF.all λ _ => .str _) (EnF.consA (EnF.all λ _ => .str _) (EnF.consA (EnF.all λ _ => .str _) (EnF.consA (EnF.all λ _ => .str _) (EnF.consA (EnF.all λ _ => .str _) EnF.nilA)))))))) (len_ok rfl) λ p1 H3 (S2 : M (acR K p1 (([("write" : Str), ("write" : Str), ("write" : Str), ("drop" : Str), ("move" : Str), ("move" : Str), ("content" : Str), ("become" : Str)]).map eS) :: oo2 Rs) H3) => ?_))))))))))))))))))))))))
 have S5 : M (da K (V.ref p1) ((eL eS) ([("write" : Str), ("write" : Str), ("write" : Str), ("drop" : Str), ("move" : Str), ("move" : Str), ("content" : Str), ("become" : Str)])) :: oo2 Rs) H3 := acR_fixL S2
 refine g_nil (⟨_, _, _, _, _, _, rfl, Brw.da, (M.at (M.addA S5 (EnF.at 0 rfl)) 2 rfl), hf, λ x8 H10 hf (S9 : M (oo4 Rs) H10) => ?_⟩)
 refine g_nx ?_
 show (_ : TS) _ [some (V.ref a_bag_here), some v_a_names_here, some (V.str x8), none, none, none] _
 have S12 : M (oo2 Rs) H10 := (M.drp (M.drp S9 2) 1)
 refine g_seq (g_asg (g_call (g_cons (g_var rfl (g_cons (g_var rfl (g_nil (⟨_, _, _, _, _, _, rfl, Brw.da, (M.at (M.addA S12 (EnF.at 1 rfl)) 1 rfl), hf, λ x14 H16 hf (S15 : M (oo3 Rs) H16) => ?_⟩))))))))
 refine g_nx ?_
 show (_ : TS) _ [some (V.ref a_bag_here), some v_a_names_here, some (V.str x8), some (V.str x14), none, none] _
 have S18 : M (oo2 Rs) H16 := (M.drp S15 1)
 refine g_seq (g_if (g_test (g_op (g_var rfl (g_c (v_eqS (g_bl (v_iff hf (λ _ hf => ?_) (λ _ hf => ?_)))))))))
 ·
  refine g_ret (g_tup (g_cons (g_var rfl (g_cons (g_var rfl (g_cons (g_call (g_cons (g_var rfl (g_nil (⟨_, _, _, rfl, (M.at S18 0 rfl), hf, λ x19 u22 H21 hf (S20 : M (da K u22 ((eL eI) x19) :: oo2 Rs) H21) => ?_⟩)))))))))))
  refine g_nil (v_tupq S20 (EnF.consA (EnF.all λ _ => .str _) (EnF.consA (EnF.all λ _ => .str _) (EnF.consA (EnF.at 0 rfl) EnF.nilA))) (len_ok rfl) λ p24 H26 (S25 : M (da K (V.ref p24) ((eT3 eS eS (eL eI)) (x8, x14, x19)) :: oo3 Rs) H26) => ?_)
  exact hk _ _ _ hf (M.pk S25 4 [0, 2] rfl)
 ·
  refine g_next (g_nx (g_seq (g_if (g_test (g_op (g_var rfl (g_c (v_eqS (g_bl (v_iff hf (λ _ hf => ?_) (λ _ hf => ?_)))))))))))
  ·
   refine g_ret (g_tup (g_cons (g_var rfl (g_cons (g_var rfl (g_cons (g_call (g_cons (g_var rfl (g_cons (g_var rfl (g_nil (⟨_, _, _, _, _, _, rfl, Brw.da, (M.at (M.addA S18 (EnF.at 1 rfl)) 1 rfl), hf, λ x29 H31 hf (S30 : M (oo3 Rs) H31) => ?_⟩)))))))))))))
   refine g_nil (v_tupq S30 (EnF.consA (EnF.all λ _ => .str _) (EnF.consA (EnF.all λ _ => .str _) (EnF.consA (EnF.all λ _ => .str _) EnF.nilA))) (len_ok rfl) λ p33 H35 (S34 : M (da K (V.ref p33) ((eT3 eS eS eS) (x8, x14, x29)) :: oo3 Rs) H35) => ?_)
   exact hk _ _ _ hf (M.pk S34 4 [0, 1] rfl)
  ·
   refine g_next (g_nx (g_seq (g_if (g_test (g_op (g_var rfl (g_c (v_eqS (g_bl (v_iff hf (λ _ hf => ?_) (λ _ hf => ?_)))))))))))
   ·
    refine g_seq (g_asg (g_sl (g_sl (g_var rfl (g_part (g_call (g_cons (g_var rfl (g_cons (g_cb (g_cons (g_var rfl (g_nil (v_lenN (M.gotA S18 1 rfl) (g_nil ?_)))))))))))))))
    obtain ⟨h37, hf⟩ := hf
    refine u_take (S18.at 0 rfl) h37 λ n38 H40 n38l n38u (S39 : M (oo2 Rs) H40) => ?_
    replace hf := hf n38 n38l n38u
    refine g_int (g_noPart (v_slN flS S39 (M.gotA S39 1 rfl) λ p41 H43 (S42 : M (acR K p41 ((cutL a_names_here (some n38) none).map eS) :: oo2 Rs) H43) => ?_))
    have S45 : M (da K (V.ref p41) ((eL eS) (cutL a_names_here (some n38) none)) :: oo2 Rs) H43 := acR_fixL S42
    refine g_noPart (g_part (g_call (g_cons (g_var rfl (g_cons (g_c (g_nil ?_)))))))
    obtain ⟨h47, hf⟩ := hf
    refine u_take (S45.at 1 rfl) h47 λ n48 H50 n48l n48u (S49 : M (oo3 Rs) H50) => ?_
    replace hf := hf n48 n48l n48u
    refine g_int (v_slN flS S49 (M.gotA S49 1 rfl) λ p51 H53 (S52 : M (acR K p51 ((cutL (cutL a_names_here (some n38) none) none (some n48)).map eS) :: oo3 Rs) H53) => ?_)
    have S55 : M (da K (V.ref p51) ((eL eS) (cutL (cutL a_names_here (some n38) none) none (some n48))) :: oo3 Rs) H53 := acR_fixL S52
    refine g_nx ?_
    show (_ : TS) _ [some (V.ref a_bag_here), some v_a_names_here, some (V.str x8), some (V.str x14), some (V.ref p51), none] _
    have S57 : M (oo3 Rs) H53 := (M.drp S55 2)
    refine g_ret (g_tup (g_cons (g_var rfl (g_cons (g_cb (g_cons (g_lc (g_iList (g_stepL (g_var rfl (g_part (g_op (g_lst (g_cons (g_c (g_cons (g_un (g_c (v_neg (g_nil (v_lsto (ds := ([1, (-1)] : List Int).map eI) S57 (EnF.consA (EnF.all λ _ => .int _) (EnF.consA (EnF.all λ _ => .int _) EnF.nilA)) (len_ok rfl) λ p60 H62 (S61 : M (acR K p60 (([1, (-1)] : List Int).map eI) :: oo3 Rs) H62) => ?_)))))))))))))))))))))
    refine g_call (g_cons (g_var rfl (g_cons (g_c (g_nil ?_)))))
    obtain ⟨h64, hf⟩ := hf
    refine u_take (S61.at 2 rfl) h64 λ n65 H67 n65l n65u (S66 : M (oo4 Rs) H67) => ?_
    replace hf := hf n65 n65l n65u
    have S68 : M (da K (V.ref p60) ((eL eI) ([1, (-1)] : List Int)) :: oo3 Rs) H67 := acR_fixL (S66.at 1 rfl)
    obtain ⟨x70, h71, hf⟩ := hf
    refine v_ixN flI (M.gotA S68 0 rfl) h71 (g_int ?_)
    obtain ⟨h72, hf⟩ := hf
    refine v_stepN flS S68 (M.gotA S68 2 rfl) h72 λ p73 H75 (S74 : M (acR K p73 ((stepL (cutL (cutL a_names_here (some n38) none) none (some n48)) x70).map eS) :: oo4 Rs) H75) => ?_
    refine lc_N flS (K := K) (e' := (eP eS (eL eI))) hf S74 (λ _ S => S.gotO 0 rfl) (λ x80 acc77 E78 H86 kk79 N81 hl82 S85 hf hp83 hn84 => ?_) (λ E78 acc77 H100 hf S99 => ?_)
    ·
     refine g_name (g_wipe rfl (g_yes (v_ifT (g_tup (g_cons (g_var rfl (g_cons (g_call (g_cons (g_var rfl (g_nil (⟨_, _, _, rfl, (M.at S85 3 rfl), hf, λ x88 u91 H90 hf (S89 : M (da K u91 ((eL eI) x88) :: _ :: acR K E78 (acc77.map (eP eS (eL eI))) :: oo4 Rs) H90) => ?_⟩))))))))))))
     refine g_nil (v_tupq S89 (EnF.consA (EnF.all λ _ => .str _) (EnF.consA (EnF.at 0 rfl) EnF.nilA)) (len_ok rfl) λ p93 H95 (S94 : M (da K (V.ref p93) ((eP eS (eL eI)) (x80, x88)) :: oo7 Rs) H95) => ?_)
     refine acR_put S94 3 rfl (EnF.at 0 rfl) hl82 λ H98 (S97 : M (acR K E78 (acc77.map (eP eS (eL eI)) ++ [(eP eS (eL eI)) (x80, x88)]) :: oo7 Rs) H98) => ?_
     exact hp83 _ _ hf (M.pk S97 8 [0, 4, 5, 3, 6, 7] rfl)
    have S102 : M (da K (V.ref E78) ((eL (eP eS (eL eI))) acc77) :: oo5 Rs) H100 := acR_fixL S99
    refine g_nil (v_dictp S102 0 rfl λ p104 H106 (S105 : M (adR K iS (eL eI) p104 (dOf acc77) :: oo6 Rs) H106) => ?_)
    refine v_fzD S105 0 rfl λ H109 (S108 : M (da K (V.ref p104) ((eD iS (eL eI)) (dOf acc77)) :: oo6 Rs) H109) => ?_
    refine g_nil (v_tupq S108 (EnF.consA (EnF.all λ _ => .str _) (EnF.consA (EnF.at 0 rfl) EnF.nilA)) (len_ok rfl) λ p111 H113 (S112 : M (da K (V.ref p111) ((eP eS (eD iS (eL eI))) (x8, (dOf acc77))) :: oo7 Rs) H113) => ?_)
    exact hk _ _ _ hf (M.pk S112 8 [0, 5] rfl)
   ·
    refine g_next (g_nx (g_ret (g_tup (g_cons (g_var rfl (g_cons (g_var rfl (g_nil (v_tupq S18 (EnF.consA (EnF.all λ _ => .str _) (EnF.consA (EnF.all λ _ => .str _) EnF.nilA)) (len_ok rfl) λ p115 H117 (S116 : M (da K (V.ref p115) ((eP eS eS) (x8, x14)) :: oo2 Rs) H117) => ?_)))))))))
    exact hk _ _ _ hf (M.pk S116 3 [0, 1] rfl)
def p_l_call (a_house : ((List (Str × (List Int))))) (a_deed_here : PyData) (X : Ex -> ((List (Str × (List Int)))) -> Prop) (P : PyData -> ((List (Str × (List Int)))) -> Prop) : Prop := ∃ x1, anyAt a_deed_here 0 = some x1 /\ ∃ x6 : Str, x1 = eS x6 /\ if (decide (x6 = ("write" : Str))) = true then (∃ x10, anyAt a_deed_here 1 = some x10 /\ ∃ x15, anyAt a_deed_here 2 = some x15 /\ ∃ x20 : Str, x10 = eS x20 /\ ∃ x24 : (List Int), x15 = (eL eI) x24 /\ p_House_write a_house x20 x24 (λ x34 m33 => X x34 m33) λ m29 => P (eN ()) m29) else (∃ x43, anyAt a_deed_here 0 = some x43 /\ ∃ x48 : Str, x43 = eS x48 /\ if (decide (x48 = ("drop" : Str))) = true then (∃ x52, anyAt a_deed_here 1 = some x52 /\ ∃ x57 : Str, x52 = eS x57 /\ p_House_drop a_house x57 (λ x66 m65 => X x66 m65) λ m61 => P (eN ()) m61) else (∃ x75, anyAt a_deed_here 0 = some x75 /\ ∃ x80 : Str, x75 = eS x80 /\ if (decide (x80 = ("move" : Str))) = true then (∃ x84, anyAt a_deed_here 1 = some x84 /\ ∃ x89, anyAt a_deed_here 2 = some x89 /\ ∃ x94 : Str, x84 = eS x94 /\ ∃ x98 : Str, x89 = eS x98 /\ p_House_move a_house x94 x98 (λ x107 m106 => X x107 m106) λ m102 => P (eN ()) m102) else (∃ x116, anyAt a_deed_here 0 = some x116 /\ ∃ x121 : Str, x116 = eS x121 /\ if (decide (x121 = ("become" : Str))) = true then (∃ x125, anyAt a_deed_here 1 = some x125 /\ p_House_become a_house x125 (λ x136 m135 => X x136 m135) λ m131 => P (eN ()) m131) else (∃ x145, anyAt a_deed_here 1 = some x145 /\ ∃ x150 : Str, x145 = eS x150 /\ p_House_content a_house x150 (λ x159 => X x159 a_house) λ x154 => P ((eL eI) x154) a_house))))
def sp_l_call (K : Fr) : Sp := λ vs H Q E => ∃ (Rs : List Res) (p_a_house : Addr) (a_house : ((List (Str × (List Int))))) (v_a_deed_here : V) (a_deed_here : PyData) (X : Ex -> ((List (Str × (List Int)))) -> Prop) (P : PyData -> ((List (Str × (List Int)))) -> Prop), vs = [(V.ref p_a_house), v_a_deed_here] /\ M (R_House K p_a_house a_house :: da K v_a_deed_here (eA a_deed_here) :: Rs) H /\ p_l_call a_house a_deed_here X P /\ (∀ (x : Ex) (m1 : ((List (Str × (List Int))))) (d : Addr) (v : V) H', X x m1 -> M (pt d (.xd [(x.fld, v)]) :: da K v x.val :: R_House K p_a_house m1 :: Rs) H' -> E (.ref (He.ga K x.cls)) (some d) H') /\ ∀ (r : PyData) (m1 : ((List (Str × (List Int))))) (v : V) H', P r m1 -> M (da K v (eA r) :: R_House K p_a_house m1 :: Rs) H' -> Q v H'
theorem len_l_call {K : Fr} (vs : List V) (H : Hp) (Q : VK) (E : XK) (h : sp_l_call K vs H Q E) : vs.length = 2 := by
 obtain ⟨Rs, p_a_house, a_house, v_a_deed_here, a_deed_here, X, P, rfl, _⟩ := h
 rfl
abbrev t_l_call_7 (K : Fr) (W : WX) : TS := (tSeq (tIfS (tTest (tOp (uEq K) (tOp (uIx K) (tVar 1) (tC (.int 0))) (tC (.str "become")))) (tRet (tMethW W (He.ga K "House") "become" (sp_House_become K) [] (tVar 0) (tCons (tOp (uIx K) (tVar 1) (tC (.int 1))) tNil))) tNext)
 (tRet (tMethW W (He.ga K "House") "content" (sp_House_content K) [] (tVar 0) (tCons (tOp (uIx K) (tVar 1) (tC (.int 1))) tNil))))
abbrev t_l_call_5 (K : Fr) (W : WX) : TS := (tSeq (tIfS (tTest (tOp (uEq K) (tOp (uIx K) (tVar 1) (tC (.int 0))) (tC (.str "move")))) (tRet (tMethW W (He.ga K "House") "move" (sp_House_move K) [] (tVar 0) (tCons (tOp (uIx K) (tVar 1) (tC (.int 1))) (tCons (tOp (uIx K) (tVar 1) (tC (.int 2))) tNil)))) tNext)
 (t_l_call_7 K W))
abbrev t_l_call_3 (K : Fr) (W : WX) : TS := (tSeq (tIfS (tTest (tOp (uEq K) (tOp (uIx K) (tVar 1) (tC (.int 0))) (tC (.str "drop")))) (tRet (tMethW W (He.ga K "House") "drop" (sp_House_drop K) [] (tVar 0) (tCons (tOp (uIx K) (tVar 1) (tC (.int 1))) tNil))) tNext)
 (t_l_call_5 K W))
abbrev t_l_call_1 (K : Fr) (W : WX) : TS := (tSeq (tIfS (tTest (tOp (uEq K) (tOp (uIx K) (tVar 1) (tC (.int 0))) (tC (.str "write")))) (tRet (tMethW W (He.ga K "House") "write" (sp_House_write K) [] (tVar 0) (tCons (tOp (uIx K) (tVar 1) (tC (.int 1))) (tCons (tOp (uIx K) (tVar 1) (tC (.int 2))) tNil)))) tNext)
 (t_l_call_3 K W))
abbrev t_l_call (K : Fr) (W : WX) : TS := (t_l_call_1 K W)
theorem pure_l_call {K : Fr} (T : TxC K) (vs : List V) (H : Hp) (Q : VK) (E : XK) (h : sp_l_call K vs H Q E) : t_l_call K (WT E) { nx := λ _ H' => Q .non H', rt := Q } (L2.start ["_law_house", "_law_deed_here"] vs) H := by
 obtain ⟨Rs, p_a_house, a_house, v_a_deed_here, a_deed_here, X, P, rfl, S0, hf, hX, hk⟩ := h
 show t_l_call K (WT E) _ [some (V.ref p_a_house), some v_a_deed_here] H
 refine g_seq (g_if (g_test (g_op (g_op (g_var rfl (g_c ?_))))))
 obtain ⟨x1, h2, hf⟩ := hf
 refine v_ixa S0 1 rfl h2 λ u3 S4 => ?_
 refine g_c ?_
 obtain ⟨x6, h7, hf⟩ := hf
 have S8 := M.cstA S4 0 rfl h7
 obtain rfl := (S8.gotA 0 rfl).strV
 have S9 := S8.tl
 refine v_eqS (g_bl (v_iff hf (λ _ hf => ?_) (λ _ hf => ?_)))
 ·
  refine g_ret (g_meth (g_var rfl (v_R_House S9 1 rfl (λ _ _ => rfl) (g_cons (g_op (g_var rfl (g_c ?_)))))))
  obtain ⟨x10, h11, hf⟩ := hf
  refine v_ixa S9 2 rfl h11 λ u12 S13 => ?_
  refine g_cons (g_op (g_var rfl (g_c ?_)))
  obtain ⟨x15, h16, hf⟩ := hf
  refine v_ixa S13 3 rfl h16 λ u17 S18 => ?_
  refine g_nil ?_
  obtain ⟨x20, h21, hf⟩ := hf
  have S22 := M.cstA S18 1 rfl h21
  obtain rfl := (S22.gotA 0 rfl).strV
  have S23 := S22.tl
  obtain ⟨x24, h25, hf⟩ := hf
  have S26 := M.cstA S23 0 rfl h25
  refine ⟨_, _, _, _, _, _, _, _, _, rfl, Brw.da, (M.at (M.addA S26 (EnF.at 0 rfl)) 5 rfl), hf, λ x34 m33 d35 v36 H38 hf (S37 : M (pt d35 (.xd [(x34.fld, v36)]) :: da K v36 x34.val :: R_House K p_a_house m33 :: da K u17 ((eL eI) x24) :: da K u17 ((eL eI) x24) :: da K u17 (eA x15) :: da K (V.str x20) (eA x10) :: da K (V.str x6) (eA x1) :: _ :: Rs) H38) => ?_, λ m29 H31 hf (S30 : M (R_House K p_a_house m29 :: oo6 Rs) H31) => ?_⟩
  ·
   exact hX x34 _ d35 v36 _ hf (M.pk S37 9 [0, 1, 2] rfl)
  have S41 : M (da K V.non (eN ()) :: oo7 Rs) H31 := M.addA S30 (EnF.all λ _ => .non)
  exact hk _ _ _ _ hf (M.pk S41 8 [0, 1] rfl)
 ·
  refine g_next (g_nx (g_seq (g_if (g_test (g_op (g_op (g_var rfl (g_c ?_))))))))
  obtain ⟨x43, h44, hf⟩ := hf
  refine v_ixa S9 2 rfl h44 λ u45 S46 => ?_
  refine g_c ?_
  obtain ⟨x48, h49, hf⟩ := hf
  have S50 := M.cstA S46 0 rfl h49
  obtain rfl := (S50.gotA 0 rfl).strV
  have S51 := S50.tl
  refine v_eqS (g_bl (v_iff hf (λ _ hf => ?_) (λ _ hf => ?_)))
  ·
   refine g_ret (g_meth (g_var rfl (v_R_House S51 2 rfl (λ _ _ => rfl) (g_cons (g_op (g_var rfl (g_c ?_)))))))
   obtain ⟨x52, h53, hf⟩ := hf
   refine v_ixa S51 3 rfl h53 λ u54 S55 => ?_
   refine g_nil ?_
   obtain ⟨x57, h58, hf⟩ := hf
   have S59 := M.cstA S55 0 rfl h58
   obtain rfl := (S59.gotA 0 rfl).strV
   have S60 := S59.tl
   refine ⟨_, _, _, _, _, _, rfl, (M.at S60 3 rfl), hf, λ x66 m65 d67 v68 H70 hf (S69 : M (pt d67 (.xd [(x66.fld, v68)]) :: da K v68 x66.val :: R_House K p_a_house m65 :: da K (V.str x57) (eA x52) :: da K (V.str x48) (eA x43) :: da K (V.str x6) (eA x1) :: _ :: Rs) H70) => ?_, λ m61 H63 hf (S62 : M (R_House K p_a_house m61 :: oo4 Rs) H63) => ?_⟩
   ·
    exact hX x66 _ d67 v68 _ hf (M.pk S69 7 [0, 1, 2] rfl)
   have S73 : M (da K V.non (eN ()) :: oo5 Rs) H63 := M.addA S62 (EnF.all λ _ => .non)
   exact hk _ _ _ _ hf (M.pk S73 6 [0, 1] rfl)
  ·
   refine g_next (g_nx (g_seq (g_if (g_test (g_op (g_op (g_var rfl (g_c ?_))))))))
   obtain ⟨x75, h76, hf⟩ := hf
   refine v_ixa S51 3 rfl h76 λ u77 S78 => ?_
   refine g_c ?_
   obtain ⟨x80, h81, hf⟩ := hf
   have S82 := M.cstA S78 0 rfl h81
   obtain rfl := (S82.gotA 0 rfl).strV
   have S83 := S82.tl
   refine v_eqS (g_bl (v_iff hf (λ _ hf => ?_) (λ _ hf => ?_)))
   ·
    refine g_ret (g_meth (g_var rfl (v_R_House S83 3 rfl (λ _ _ => rfl) (g_cons (g_op (g_var rfl (g_c ?_)))))))
    obtain ⟨x84, h85, hf⟩ := hf
    refine v_ixa S83 4 rfl h85 λ u86 S87 => ?_
    refine g_cons (g_op (g_var rfl (g_c ?_)))
    obtain ⟨x89, h90, hf⟩ := hf
    refine v_ixa S87 5 rfl h90 λ u91 S92 => ?_
    refine g_nil ?_
    obtain ⟨x94, h95, hf⟩ := hf
    have S96 := M.cstA S92 1 rfl h95
    obtain rfl := (S96.gotA 0 rfl).strV
    have S97 := S96.tl
    obtain ⟨x98, h99, hf⟩ := hf
    have S100 := M.cstA S97 0 rfl h99
    obtain rfl := (S100.gotA 0 rfl).strV
    have S101 := S100.tl
    refine ⟨_, _, _, _, _, _, _, rfl, (M.at S101 5 rfl), hf, λ x107 m106 d108 v109 H111 hf (S110 : M (pt d108 (.xd [(x107.fld, v109)]) :: da K v109 x107.val :: R_House K p_a_house m106 :: da K (V.str x98) (eA x89) :: da K (V.str x94) (eA x84) :: da K (V.str x80) (eA x75) :: da K (V.str x48) (eA x43) :: da K (V.str x6) (eA x1) :: _ :: Rs) H111) => ?_, λ m102 H104 hf (S103 : M (R_House K p_a_house m102 :: oo6 Rs) H104) => ?_⟩
    ·
     exact hX x107 _ d108 v109 _ hf (M.pk S110 9 [0, 1, 2] rfl)
    have S114 : M (da K V.non (eN ()) :: oo7 Rs) H104 := M.addA S103 (EnF.all λ _ => .non)
    exact hk _ _ _ _ hf (M.pk S114 8 [0, 1] rfl)
   ·
    refine g_next (g_nx (g_seq (g_if (g_test (g_op (g_op (g_var rfl (g_c ?_))))))))
    obtain ⟨x116, h117, hf⟩ := hf
    refine v_ixa S83 4 rfl h117 λ u118 S119 => ?_
    refine g_c ?_
    obtain ⟨x121, h122, hf⟩ := hf
    have S123 := M.cstA S119 0 rfl h122
    obtain rfl := (S123.gotA 0 rfl).strV
    have S124 := S123.tl
    refine v_eqS (g_bl (v_iff hf (λ _ hf => ?_) (λ _ hf => ?_)))
    ·
     refine g_ret (g_meth (g_var rfl (v_R_House S124 4 rfl (λ _ _ => rfl) (g_cons (g_op (g_var rfl (g_c ?_)))))))
     obtain ⟨x125, h126, hf⟩ := hf
     refine v_ixa S124 5 rfl h126 λ u127 S128 => ?_
     refine g_nil (.inl (⟨_, _, _, _, _, _, _, rfl, (M.at (M.addA S128 (EnF.at 0 rfl)) 6 rfl), hf, λ x136 m135 d137 v138 H140 hf (S139 : M (pt d137 (.xd [(x136.fld, v138)]) :: da K v138 x136.val :: R_House K p_a_house m135 :: da K u127 (eA x125) :: da K (V.str x121) (eA x116) :: da K (V.str x80) (eA x75) :: da K (V.str x48) (eA x43) :: da K (V.str x6) (eA x1) :: _ :: Rs) H140) => ?_, λ m131 H133 hf (S132 : M (R_House K p_a_house m131 :: oo6 Rs) H133) => ?_⟩))
     ·
      exact hX x136 _ d137 v138 _ hf (M.pk S139 9 [0, 1, 2] rfl)
     have S143 : M (da K V.non (eN ()) :: oo7 Rs) H133 := M.addA S132 (EnF.all λ _ => .non)
     exact hk _ _ _ _ hf (M.pk S143 8 [0, 1] rfl)
    ·
     refine g_next (g_nx (g_ret (g_meth (g_var rfl (v_R_House S124 4 rfl (λ _ _ => rfl) (g_cons (g_op (g_var rfl (g_c ?_)))))))))
     obtain ⟨x145, h146, hf⟩ := hf
     refine v_ixa S124 5 rfl h146 λ u147 S148 => ?_
     refine g_nil ?_
     obtain ⟨x150, h151, hf⟩ := hf
     have S152 := M.cstA S148 0 rfl h151
     obtain rfl := (S152.gotA 0 rfl).strV
     have S153 := S152.tl
     refine ⟨_, _, _, _, _, _, rfl, (M.at S153 5 rfl), hf, λ x159 d160 v161 H163 hf (S162 : M (pt d160 (.xd [(x159.fld, v161)]) :: da K v161 x159.val :: _ :: da K (V.str x150) (eA x145) :: da K (V.str x121) (eA x116) :: da K (V.str x80) (eA x75) :: da K (V.str x48) (eA x43) :: da K (V.str x6) (eA x1) :: _ :: Rs) H163) => ?_, λ x154 u157 H156 hf (S155 : M (acR K u157 (x154.map eI) :: oo7 Rs) H156) => ?_⟩
     ·
      exact hX x159 _ d160 v161 _ hf (M.pk S162 9 [0, 1, 2] rfl)
     have S166 : M (da K (V.ref u157) ((eL eI) x154) :: oo7 Rs) H156 := acR_fixL S155
     exact hk _ _ _ _ hf (M.pk S166 8 [0, 1] rfl)
def p_l_said (a_house : ((List (Str × (List Int))))) (a_deed_here : PyData) (P : PyData -> ((List (Str × (List Int)))) -> Prop) : Prop := jn (β := PyData × ((List (Str × (List Int))))) (λ k4 => p_l_call a_house a_deed_here (λ x20 m18 => p_l_refused x20 λ x28 => k4 (((eP eS eA) x28), m18)) λ x13 m14 => k4 (((eP eS eA) (("told" : Str), x13)), m14)) λ s3 => P s3.1 s3.2
def sp_l_said (K : Fr) : Sp := λ vs H Q _ => ∃ (Rs : List Res) (p_a_house : Addr) (a_house : ((List (Str × (List Int))))) (v_a_deed_here : V) (a_deed_here : PyData) (P : PyData -> ((List (Str × (List Int)))) -> Prop), vs = [(V.ref p_a_house), v_a_deed_here] /\ M (R_House K p_a_house a_house :: da K v_a_deed_here (eA a_deed_here) :: Rs) H /\ p_l_said a_house a_deed_here P /\ ∀ (r : PyData) (m1 : ((List (Str × (List Int))))) (v : V) H', P r m1 -> M (da K v (eA r) :: R_House K p_a_house m1 :: Rs) H' -> Q v H'
theorem len_l_said {K : Fr} (vs : List V) (H : Hp) (Q : VK) (E : XK) (h : sp_l_said K vs H Q E) : vs.length = 2 := by
 obtain ⟨Rs, p_a_house, a_house, v_a_deed_here, a_deed_here, P, rfl, _⟩ := h
 rfl
abbrev t_l_said_2 (K : Fr) : TS := (tSeq (tTry K W0 (λ W => (tAsg (tTup (tCons (tC (.str "told")) (tCons (tCallW W (sp_l_call K) [] (tCons (tVar 0) (tCons (tVar 1) tNil))) tNil))) (gName 2))) [⟨[.ref (He.ga K "StoreError"), .ref (He.ga K "Missing")], some 3, λ a cls d => (tAsg (tCallE a cls d (sp_l_refused K) (tVar 3)) (gName 2))⟩])
 (tRet (tVar 2)))
abbrev t_l_said_1 (K : Fr) : TS := (tSeq (tAsg (tC .non) (gName 2))
 (t_l_said_2 K))
abbrev t_l_said (K : Fr) : TS := (t_l_said_1 K)
theorem pure_l_said {K : Fr} (T : TxC K) (vs : List V) (H : Hp) (Q : VK) (E : XK) (h : sp_l_said K vs H Q E) : t_l_said K { nx := λ _ H' => Q .non H', rt := Q } (L2.start ["_law_house", "_law_deed_here", "_law_found", "_law_e"] vs) H := by
 obtain ⟨Rs, p_a_house, a_house, v_a_deed_here, a_deed_here, P, rfl, S0, hf, hk⟩ := h
 show t_l_said K _ [some (V.ref p_a_house), some v_a_deed_here, none, none] H
 refine g_seq (g_asg (g_c ?_))
 have S1 : M (da K V.non (eN ()) :: oo2 Rs) H := M.addA S0 (EnF.all λ _ => .non)
 refine g_nx ?_
 show (_ : TS) _ [some (V.ref p_a_house), some v_a_deed_here, some V.non, none] _
 refine jn_cut (β := PyData × ((List (Str × (List Int))))) hf (λ (s3 : PyData × ((List (Str × (List Int))))) σ H' => ∃ (u8 : V) (o11 : Option V), σ = [some (V.ref p_a_house), some v_a_deed_here, some u8, o11] /\ M (da K u8 (eA s3.1) :: R_House K p_a_house s3.2 :: da K v_a_deed_here (eA a_deed_here) :: Rs) H') (λ kk5 N6 hN7 hf => ?_) ?_
 ·
  refine g_try (g_asg (g_tup (g_cons (g_c (g_cons (g_callW (g_cons (g_var rfl (g_cons (g_var rfl (g_nil (⟨_, _, _, _, _, _, _, rfl, (M.at (M.addA S1 (EnF.at 2 rfl)) 2 rfl), hf, λ x20 m18 d21 v22 H24 hf (S23 : M (pt d21 (.xd [(x20.fld, v22)]) :: da K v22 x20.val :: R_House K p_a_house m18 :: oo2 Rs) H24) => ?_, λ x13 m14 u17 H16 hf (S15 : M (da K u17 (eA x13) :: R_House K p_a_house m14 :: oo2 Rs) H16) => ?_⟩))))))))))))
  ·
   refine v_hdY ?_ λ a27 => ?_
   ·
    cases x20 with
    | Wrong w => exact (exm_cons T.xm_Wrong_StoreError (exm_cons T.xm_Wrong_Missing rfl))
    | TooMany w => exact (exm_cons T.xm_TooMany_StoreError (exm_cons T.xm_TooMany_Missing rfl))
    | NoFile w => exact (exm_cons T.xm_NoFile_StoreError (exm_cons T.xm_NoFile_Missing rfl))
    | There w => exact (exm_cons T.xm_There_StoreError (exm_cons T.xm_There_Missing rfl))
   refine g_asg (g_callE (g_var rfl (⟨rfl, _, d21, _, x20, _, rfl, rfl, (M.pk S23 5 [0, 1, 2, 3, 4] rfl), hf, λ x28 u29 H31 hf (S30 : M (da K u29 ((eP eS eA) x28) :: oo5 Rs) H31) => ?_⟩)))
   exact hN7 _ _ _ hf ⟨_, _, rfl, (M.pk S30 6 [0, 3, 5] rfl)⟩
  refine g_nil (v_tupq S15 (EnF.consA (EnF.all λ _ => .str _) (EnF.consA (EnF.at 0 rfl) EnF.nilA)) (len_ok rfl) λ p33 H35 (S34 : M (da K (V.ref p33) ((eP eS eA) (("told" : Str), x13)) :: oo4 Rs) H35) => ?_)
  exact hN7 _ _ _ hf ⟨_, _, rfl, (M.pk S34 5 [0, 2, 4] rfl)⟩
 rintro s3 _ H38 hf ⟨u8, o11, rfl, S37⟩
 refine g_ret (g_var rfl ?_)
 exact hk _ _ _ _ hf (M.sub (.cons 0 rfl (.cons 0 rfl (.tl (.refl _)))) S37)
def p_l_same (a_house : ((List (Str × (List Int))))) (a_files : (List (Str × (List Int)))) (P : Bool -> Prop) : Prop := p_House_names_of a_house λ x1 => p_House_contents a_house λ x8 => p_House___len__ a_house λ x18 => ((0 : Int) <= x18 /\ x18 < (2 ^ 63 : Int)) /\ (ks a_files).length < 64 /\ (ks a_files).length < 64 /\ ((srtS' (ks a_files))).length <= 100000 /\ lcD (λ (x46 : Str) (k53 : Option (Str × (List Int)) -> Prop) => ∃ x54, lk a_files x46 = some x54 /\ k53 (some (x46, x54))) (srtS' (ks a_files)) [] λ acc43 => (((eL eA) ([(eL eS) x1, (eD iS (eL eI)) x8, eI x18] : List PyData)) = ((eL eA) ([(eL eS) (srtS' (ks a_files)), (eD iS (eL eI)) (dOf acc43), eI ((a_files).length : Int)] : List PyData)) /\ AlkOk ((eL eA) ([(eL eS) x1, (eD iS (eL eI)) x8, eI x18] : List PyData))) /\ P true
def sp_l_same (K : Fr) : Sp := λ vs H Q _ => ∃ (Rs : List Res) (p_a_house : Addr) (a_house : ((List (Str × (List Int))))) (v_a_files : V) (a_files : (List (Str × (List Int)))) (f_a_files : DF) (P : Bool -> Prop), vs = [(V.ref p_a_house), v_a_files] /\ M (R_House K p_a_house a_house :: bdR K iS (eL eI) v_a_files a_files f_a_files :: Rs) H /\ p_l_same a_house a_files P /\ ∀ (r : Bool) H', P r -> M (R_House K p_a_house a_house :: bdR K iS (eL eI) v_a_files a_files f_a_files :: Rs) H' -> Q (V.bl r) H'
theorem len_l_same {K : Fr} (vs : List V) (H : Hp) (Q : VK) (E : XK) (h : sp_l_same K vs H Q E) : vs.length = 2 := by
 obtain ⟨Rs, p_a_house, a_house, v_a_files, a_files, f_a_files, P, rfl, _⟩ := h
 rfl
abbrev t_l_same_2 (K : Fr) : TS := (tSeq (tAsg (tLst (tCons (tCB rSortDS (tCons (tVar 1) tNil)) (tCons (tFzE (tCB (rDictP K) (tCons (tLc (iList K (tCB rSortDS (tCons (tVar 1) tNil))) (gName 4) tYes (tTup (tCons (tVar 4) (tCons (tOp rIxK (tVar 1) (tVar 4)) tNil))) [4]) tNil))) (tCons (tCB (uLen K) (tCons (tVar 1) tNil)) tNil)))) (gName 3))
 (tRet (tCall (sp_l_alike K) [] E0 (tCons (tVar 2) (tCons (tVar 3) tNil)))))
abbrev t_l_same_1 (K : Fr) : TS := (tSeq (tAsg (tLst (tCons (tMethW W0 (He.ga K "House") "names_of" (sp_House_names_of K) [] (tVar 0) tNil) (tCons (tFzE (tMethW W0 (He.ga K "House") "contents" (sp_House_contents K) [] (tVar 0) tNil)) (tCons (tCB (rLenI (He.ga K "House") (sp_House___len__ K)) (tCons (tVar 0) tNil)) tNil)))) (gName 2))
 (t_l_same_2 K))
abbrev t_l_same (K : Fr) : TS := (t_l_same_1 K)
theorem pure_l_same {K : Fr} (T : TxC K) (vs : List V) (H : Hp) (Q : VK) (E : XK) (h : sp_l_same K vs H Q E) : t_l_same K { nx := λ _ H' => Q .non H', rt := Q } (L2.start ["_law_house", "_law_files", "_law_told", "_law_due_here", "_law_name"] vs) H := by
 obtain ⟨Rs, p_a_house, a_house, v_a_files, a_files, f_a_files, P, rfl, S0, hf, hk⟩ := h
 show t_l_same K _ [some (V.ref p_a_house), some v_a_files, none, none, none] H
 refine g_seq (g_asg (g_lst (g_cons (g_meth (g_var rfl (v_R_House S0 0 rfl (λ _ _ => rfl) (g_nil (⟨_, _, _, _, rfl, (M.at S0 0 rfl), hf, λ x1 u4 H3 hf (S2 : M (acR K u4 (x1.map eS) :: oo2 Rs) H3) => ?_⟩))))))))
 have S6 : M (da K (V.ref u4) ((eL eS) x1) :: oo2 Rs) H3 := acR_fixL S2
 refine g_cons (g_meth (g_var rfl (v_R_House S6 1 rfl (λ _ _ => rfl) (g_nil (⟨_, _, _, _, rfl, (M.at S6 1 rfl), hf, λ x8 u11 H10 hf (S9 : M (adoR u11 x8 :: oo3 Rs) H10) => ?_⟩)))))
 have S13 : M (adR K iS (eL eI) u11 x8 :: oo3 Rs) H10 := ado_ad (S9.at 0 rfl)
 refine v_fzD S13 0 rfl λ H16 (S15 : M (da K (V.ref u11) ((eD iS (eL eI)) x8) :: oo3 Rs) H16) => ?_
 refine g_cons (g_cb (g_cons (g_var rfl (g_nil (v_len_House S15 1 rfl (⟨_, _, _, _, rfl, (S15.at 1 rfl), hf, λ x18 H20 hf (S19 : M (oo4 Rs) H20) => ?_⟩))))))
 obtain ⟨h21, hf⟩ := hf
 refine ⟨_, rfl, h21.1, h21.2, ?_⟩
 refine g_nil (v_lsto (ds := ([(eL eS) x1, (eD iS (eL eI)) x8, eI x18] : List PyData).map eA) S19 (EnF.consA (EnF.at 2 rfl) (EnF.consA (EnF.at 1 rfl) (EnF.consA (EnF.all λ _ => .int _) EnF.nilA))) (len_ok rfl) λ p22 H24 (S23 : M (acR K p22 (([(eL eS) x1, (eD iS (eL eI)) x8, eI x18] : List PyData).map eA) :: oo4 Rs) H24) => ?_)
 have S26 : M (da K (V.ref p22) ((eL eA) ([(eL eS) x1, (eD iS (eL eI)) x8, eI x18] : List PyData)) :: oo4 Rs) H24 := acR_fixL S23
 refine g_nx ?_
 show (_ : TS) _ [some (V.ref p_a_house), some v_a_files, some (V.ref p22), none, none] _
 have S28 : M (oo3 Rs) H24 := (M.drp (M.drp S26 3) 2)
 refine g_seq (g_asg (g_lst (g_cons (g_cb (g_cons (g_var rfl (g_nil ?_)))))))
 obtain ⟨h29, hf⟩ := hf
 refine d_srtS (M.dvB S28 2 rfl) h29 λ p30 H32 (S31 : M (acR K p30 ((srtS' (ks a_files)).map eS) :: oo3 Rs) H32) => ?_
 have S34 : M (da K (V.ref p30) ((eL eS) (srtS' (ks a_files))) :: oo3 Rs) H32 := acR_fixL S31
 refine g_cons (g_cb (g_cons (g_lc (g_iList (g_cb (g_cons (g_var rfl (g_nil ?_))))))))
 obtain ⟨h38, hf⟩ := hf
 refine d_srtS (M.dvB S34 3 rfl) h38 λ p39 H41 (S40 : M (acR K p39 ((srtS' (ks a_files)).map eS) :: oo4 Rs) H41) => ?_
 refine lc_N flS (K := K) (e' := (eP eS (eL eI))) hf S40 (λ _ S => S.gotO 0 rfl) (λ x46 acc43 E44 H52 kk45 N47 hl48 S51 hf hp49 hn50 => ?_) (λ E44 acc43 H66 hf S65 => ?_)
 ·
  refine g_name (g_wipe rfl (g_yes (v_ifT (g_tup (g_cons (g_var rfl (g_cons (g_op (g_var rfl (g_var rfl ?_))))))))))
  obtain ⟨x54, h55, hf⟩ := hf
  refine d_ixS (M.dvB S51 5 rfl) h55 λ u56 S57 => ?_
  refine g_nil (v_tupq S57 (EnF.consA (EnF.all λ _ => .str _) (EnF.consA (EnF.at 0 rfl) EnF.nilA)) (len_ok rfl) λ p59 H61 (S60 : M (da K (V.ref p59) ((eP eS (eL eI)) (x46, x54)) :: da K u56 ((eL eI) x54) :: acR K E44 (acc43.map (eP eS (eL eI))) :: oo5 Rs) H61) => ?_)
  refine acR_put S60 2 rfl (EnF.at 0 rfl) hl48 λ H64 (S63 : M (acR K E44 (acc43.map (eP eS (eL eI)) ++ [(eP eS (eL eI)) (x46, x54)]) :: oo7 Rs) H64) => ?_
  exact hp49 _ _ hf (M.pk S63 8 [0, 3, 4, 5, 6, 7] rfl)
 have S68 : M (da K (V.ref E44) ((eL (eP eS (eL eI))) acc43) :: oo5 Rs) H66 := acR_fixL S65
 refine g_nil (v_dictp S68 0 rfl λ p70 H72 (S71 : M (adR K iS (eL eI) p70 (dOf acc43) :: oo6 Rs) H72) => ?_)
 refine v_fzD S71 0 rfl λ H75 (S74 : M (da K (V.ref p70) ((eD iS (eL eI)) (dOf acc43)) :: oo6 Rs) H75) => ?_
 refine g_cons (g_cb (g_cons (g_var rfl (g_nil (DVs.len (M.dvB S74 6 rfl) (g_nil (v_lsto (ds := ([(eL eS) (srtS' (ks a_files)), (eD iS (eL eI)) (dOf acc43), eI ((a_files).length : Int)] : List PyData).map eA) S74 (EnF.consA (EnF.at 3 rfl) (EnF.consA (EnF.at 0 rfl) (EnF.consA (EnF.all λ _ => .int _) EnF.nilA))) (len_ok rfl) λ p77 H79 (S78 : M (acR K p77 (([(eL eS) (srtS' (ks a_files)), (eD iS (eL eI)) (dOf acc43), eI ((a_files).length : Int)] : List PyData).map eA) :: oo7 Rs) H79) => ?_)))))))
 have S81 : M (da K (V.ref p77) ((eL eA) ([(eL eS) (srtS' (ks a_files)), (eD iS (eL eI)) (dOf acc43), eI ((a_files).length : Int)] : List PyData)) :: oo7 Rs) H79 := acR_fixL S78
 refine g_nx ?_
 show (_ : TS) _ [some (V.ref p_a_house), some v_a_files, some (V.ref p22), some (V.ref p77), none] _
 have S83 : M (oo5 Rs) H79 := (M.drp (M.drp (M.drp S81 4) 2) 1)
 refine g_ret (g_call (g_cons (g_var rfl (g_cons (g_var rfl (g_nil ?_))))))
 obtain ⟨h84, hf⟩ := hf
 refine ⟨_, _, _, rfl, (Dq.dn (M.gotA S83 2 rfl)), (Dn.by_ h84.1 (Dq.dn (M.gotA S83 0 rfl))), h84.2, ?_⟩
 exact hk _ _ hf (M.pk S83 5 [3, 4] rfl)
def p_l_step (a_house : ((List (Str × (List Int))))) (a_files : (List (Str × (List Int)))) (a_deed_here : PyData) (P : Bool -> ((List (Str × (List Int)))) -> (List (Str × (List Int))) -> Prop) : Prop := p_l_due a_files a_deed_here λ x2 => jn (λ k11 => if (!isNo x2) = true then (∃ x13, anyAt a_deed_here 1 = some x13 /\ ∃ x18 : Str, x13 = eS x18 /\ ((x18).length <= 100000) /\ ((0 : Int) < 2) /\ k11 (decide ((((x18).length : Int) % 2) = 0))) else (k11 false)) λ c7 => jn (β := PyData × (List (Str × (List Int)))) (λ k27 => if (isNo x2) = true then (p_l_do a_files a_deed_here λ x35 m36 => k27 (((eP eS eA) (("told" : Str), x35)), m36)) else (k27 (x2, a_files))) λ s26 => ((-(2 ^ 62) : Int) <= (1 + (if c7 = true then (1 : Int) else 0)) /\ (1 + (if c7 = true then (1 : Int) else 0)) < (2 ^ 62 : Int)) /\ (rng (1 + (if c7 = true then (1 : Int) else 0))).length <= 100000 /\ lcS (λ (x53 : Int) (s61 : ((List (Str × (List Int))))) (k60 : Option Bool -> ((List (Str × (List Int)))) -> Prop) => p_l_said s61 a_deed_here λ x64 m65 => ((eA x64) = (eA s26.1) /\ AlkOk (eA x64)) /\ k60 (some true) m65) (rng (1 + (if c7 = true then (1 : Int) else 0))) a_house [] λ acc50 s61 => P ((acc50).all id) s61 s26.2
def sp_l_step (K : Fr) : Sp := λ vs H Q _ => ∃ (Rs : List Res) (p_a_house : Addr) (a_house : ((List (Str × (List Int))))) (p_a_files : Addr) (a_files : (List (Str × (List Int)))) (v_a_deed_here : V) (a_deed_here : PyData) (P : Bool -> ((List (Str × (List Int)))) -> (List (Str × (List Int))) -> Prop), vs = [(V.ref p_a_house), (V.ref p_a_files), v_a_deed_here] /\ M (R_House K p_a_house a_house :: adR K iS (eL eI) p_a_files a_files :: da K v_a_deed_here (eA a_deed_here) :: Rs) H /\ p_l_step a_house a_files a_deed_here P /\ ∀ (r : Bool) (m1 : ((List (Str × (List Int))))) (m2 : (List (Str × (List Int)))) H', P r m1 m2 -> M (R_House K p_a_house m1 :: adR K iS (eL eI) p_a_files m2 :: Rs) H' -> Q (V.bl r) H'
theorem len_l_step {K : Fr} (vs : List V) (H : Hp) (Q : VK) (E : XK) (h : sp_l_step K vs H Q E) : vs.length = 3 := by
 obtain ⟨Rs, p_a_house, a_house, p_a_files, a_files, v_a_deed_here, a_deed_here, P, rfl, _⟩ := h
 rfl
abbrev t_l_step_3 (K : Fr) : TS := (tSeq (tIfS (tTest (tOp rIsN (tVar 3) (tC .non))) (tAsg (tTup (tCons (tC (.str "told")) (tCons (tCall (sp_l_do K) [] E0 (tCons (tVar 1) (tCons (tVar 2) tNil))) tNil))) (gName 3)) tNext)
 (tRet (tCB (rAll K) (tCons (tLc (iRng1 (tCons (tVar 4) tNil)) (gName 5) tYes (tCall (sp_l_alike K) [] E0 (tCons (tCall (sp_l_said K) [] E0 (tCons (tVar 0) (tCons (tVar 2) tNil))) (tCons (tVar 3) tNil))) [5]) tNil))))
abbrev t_l_step_2 (K : Fr) : TS := (tSeq (tAsg (tOp (uAdd K) (tC (.int 1)) (tCB rIntB (tCons (tAndV (tOp rNotN (tVar 3) (tC .non)) (tOp (uEq K) (tOp uMod (tCB (uLen K) (tCons (tOp (uIx K) (tVar 2) (tC (.int 1))) tNil)) (tC (.int 2))) (tC (.int 0)))) tNil))) (gName 4))
 (t_l_step_3 K))
abbrev t_l_step_1 (K : Fr) : TS := (tSeq (tAsg (tCall (sp_l_due K) [] E0 (tCons (tVar 1) (tCons (tVar 2) tNil))) (gName 3))
 (t_l_step_2 K))
abbrev t_l_step (K : Fr) : TS := (t_l_step_1 K)
theorem pure_l_step {K : Fr} (vs : List V) (H : Hp) (Q : VK) (E : XK) (h : sp_l_step K vs H Q E) : t_l_step K { nx := λ _ H' => Q .non H', rt := Q } (L2.start ["_law_house", "_law_files", "_law_deed_here", "_law_due_here", "_law_turns", "_law_k"] vs) H := by
 obtain ⟨Rs, p_a_house, a_house, p_a_files, a_files, v_a_deed_here, a_deed_here, P, rfl, S0, hf, hk⟩ := h
 show t_l_step K _ [some (V.ref p_a_house), some (V.ref p_a_files), some v_a_deed_here, none, none, none] H
 refine g_seq (g_asg (g_call (g_cons (g_var rfl (g_cons (g_var rfl (g_nil (⟨_, _, _, _, _, _, rfl, (M.at (M.addA S0 (EnF.at 2 rfl)) 2 rfl), hf, λ x2 u5 H4 hf (S3 : M (da K u5 (eA x2) :: oo3 Rs) H4) => ?_⟩))))))))
 refine g_nx ?_
 show (_ : TS) _ [some (V.ref p_a_house), some (V.ref p_a_files), some v_a_deed_here, some u5, none, none] _
 refine g_seq (g_asg (g_op (g_c (g_cb (g_cons ?_)))))
 refine te_cut hf (λ H => M (da K u5 (eA x2) :: adR K iS (eL eI) p_a_files a_files :: R_House K p_a_house a_house :: da K v_a_deed_here (eA a_deed_here) :: Rs) H) (λ kk8 P9 hP10 hf => ?_) ?_
 ·
  refine g_andV (g_op (g_var rfl (g_c (v_notNa (M.gotA S3 0 rfl) (g_bl (v_iff hf (λ _ hf => ?_) (λ _ hf => ?_)))))))
  ·
   refine g_op (g_op (g_cb (g_cons (g_op (g_var rfl (g_c ?_))))))
   obtain ⟨x13, h14, hf⟩ := hf
   refine v_ixa S3 3 rfl h14 λ u15 S16 => ?_
   refine g_nil ?_
   obtain ⟨x18, h19, hf⟩ := hf
   have S20 := M.cstA S16 0 rfl h19
   obtain rfl := (S20.gotA 0 rfl).strV
   have S21 := S20.tl
   obtain ⟨h22, hf⟩ := hf
   obtain ⟨h23, hf⟩ := hf
   refine v_lenS h22 (g_c (v_mod h23 (g_c (v_eqI ?_))))
   exact hP10 _ _ hf (M.sub (.cons 1 rfl (.cons 1 rfl (.cons 1 rfl (.cons 1 rfl (.tl (.refl _)))))) S21)
  ·
   exact hP10 _ _ hf (M.pk S3 4 [0, 1, 2, 3] rfl)
 intro c7 H25 hf S24
 refine g_nil (v_intB (v_add (g_nx ?_)))
 show (_ : TS) _ [some (V.ref p_a_house), some (V.ref p_a_files), some v_a_deed_here, some u5, some (V.int (1 + (if c7 = true then (1 : Int) else 0))), none] _
 refine jn_cut (β := PyData × (List (Str × (List Int)))) hf (λ (s26 : PyData × (List (Str × (List Int)))) σ H' => ∃ (u31 : V), σ = [some (V.ref p_a_house), some (V.ref p_a_files), some v_a_deed_here, some u31, some (V.int (1 + (if c7 = true then (1 : Int) else 0))), none] /\ M (da K u31 (eA s26.1) :: adR K iS (eL eI) p_a_files s26.2 :: R_House K p_a_house a_house :: da K v_a_deed_here (eA a_deed_here) :: Rs) H') (λ kk28 N29 hN30 hf => ?_) ?_
 ·
  refine g_if (g_test (g_op (g_var rfl (g_c (v_isNa (M.gotA S24 0 rfl) (g_bl (v_iff hf (λ _ hf => ?_) (λ _ hf => ?_))))))))
  ·
   refine g_asg (g_tup (g_cons (g_c (g_cons (g_call (g_cons (g_var rfl (g_cons (g_var rfl (g_nil (⟨_, _, _, _, _, _, rfl, (M.at (M.addA S24 (EnF.at 3 rfl)) 2 rfl), hf, λ x35 m36 u39 H38 hf (S37 : M (da K u39 (eA x35) :: adR K iS (eL eI) p_a_files m36 :: da K u5 (eA x2) :: R_House K p_a_house a_house :: da K v_a_deed_here (eA a_deed_here) :: Rs) H38) => ?_⟩)))))))))))
   refine g_nil (v_tupq S37 (EnF.consA (EnF.all λ _ => .str _) (EnF.consA (EnF.at 0 rfl) EnF.nilA)) (len_ok rfl) λ p41 H43 (S42 : M (da K (V.ref p41) ((eP eS eA) (("told" : Str), x35)) :: oo5 Rs) H43) => ?_)
   exact hN30 _ _ _ hf ⟨_, rfl, (M.pk S42 6 [0, 2, 4, 5] rfl)⟩
  ·
   refine g_next ?_
   exact hN30 _ _ _ hf ⟨_, rfl, (M.sub (.cons 0 rfl (.cons 0 rfl (.cons 0 rfl (.cons 0 rfl (.refl _))))) S24)⟩
 rintro s26 _ H46 hf ⟨u31, rfl, S45⟩
 obtain ⟨h49, hf⟩ := hf
 refine g_ret (g_cb (g_cons (g_lc (g_iRng1 (g_cons (g_var rfl (g_nil (v_itR h49 ?_))))))))
 refine lc_rngS (K := K) (e' := eB) (λ (s61 : ((List (Str × (List Int))))) => R_House K p_a_house s61 :: da K u31 (eA s26.1) :: adR K iS (eL eI) p_a_files s26.2 :: da K v_a_deed_here (eA a_deed_here) :: Rs) hf (M.sub (.cons 2 rfl (.cons 0 rfl (.cons 0 rfl (.cons 0 rfl (.refl _))))) S45) (λ x53 s61 acc50 E51 H59 kk52 N54 hl55 S58 hf hp56 hn57 => ?_) (λ E51 acc50 s61 H75 hf S74 => ?_)
 ·
  refine g_name (g_wipe rfl (g_yes (v_ifT (g_call (g_cons (g_call (g_cons (g_var rfl (g_cons (g_var rfl (g_nil (⟨_, _, _, _, _, _, rfl, (M.at (M.addA S58 (EnF.at 4 rfl)) 2 rfl), hf, λ x64 m65 u68 H67 hf (S66 : M (da K u68 (eA x64) :: R_House K p_a_house m65 :: acR K E51 (acc50.map eB) :: oo3 Rs) H67) => ?_⟩))))))))))))
  refine g_cons (g_var rfl (g_nil ?_))
  obtain ⟨h70, hf⟩ := hf
  refine ⟨_, _, _, rfl, (Dq.dn (M.gotA S66 0 rfl)), (Dn.by_ h70.1 (Dq.dn (M.gotA S66 3 rfl))), h70.2, ?_⟩
  refine acR_put S66 2 rfl (EnF.all λ _ => .bl _) hl55 λ H72 (S71 : M (acR K E51 (acc50.map eB ++ [eB true]) :: oo5 Rs) H72) => ?_
  exact hp56 _ _ _ hf (M.pk S71 6 [0, 2, 3, 4, 5] rfl)
 have S77 : M (da K (V.ref E51) ((eL eB) acc50) :: R_House K p_a_house s61 :: oo3 Rs) H75 := acR_fixL S74
 refine g_nil (v_all (M.gotA S77 0 rfl) ?_)
 exact hk _ _ _ _ hf (M.pk S77 5 [1, 3] rfl)
def p_l_equal (a_one : ((List (Str × (List Int))))) (a_other : ((List (Str × (List Int))))) (a_due_here : Bool) (P : Bool -> Prop) : Prop := p_House___eq__ a_one a_other λ x3 => p_House___eq__ a_other a_one λ x9 => p_House___eq__ a_one a_other λ x15 => p_House___eq__ a_other a_one λ x21 => (((eL eB) ([x3, x9, (!x15), (!x21)])) = ((eL eB) ([a_due_here, a_due_here, (!a_due_here), (!a_due_here)])) /\ AlkOk ((eL eB) ([x3, x9, (!x15), (!x21)]))) /\ P true
def sp_l_equal_0 (K : Fr) : Sp := λ vs H Q _ => ∃ (Rs : List Res) (p_a_one : Addr) (a_one : ((List (Str × (List Int))))) (p_a_other : Addr) (a_other : ((List (Str × (List Int))))) (a_due_here : Bool) (P : Bool -> Prop), vs = [(V.ref p_a_one), (V.ref p_a_other), (V.bl a_due_here)] /\ M (R_House K p_a_one a_one :: R_House K p_a_other a_other :: Rs) H /\ p_l_equal a_one a_other a_due_here P /\ ∀ (r : Bool) H', P r -> M (R_House K p_a_one a_one :: R_House K p_a_other a_other :: Rs) H' -> Q (V.bl r) H'
theorem len_l_equal_0 {K : Fr} (vs : List V) (H : Hp) (Q : VK) (E : XK) (h : sp_l_equal_0 K vs H Q E) : vs.length = 3 := by
 obtain ⟨Rs, p_a_one, a_one, p_a_other, a_other, a_due_here, P, rfl, _⟩ := h
 rfl
def p_l_equal_s (a_one : ((List (Str × (List Int))))) (a_due_here : Bool) (P : Bool -> Prop) : Prop := p_House___eq___s a_one λ x3 => p_House___eq___s a_one λ x9 => p_House___eq___s a_one λ x15 => p_House___eq___s a_one λ x21 => (((eL eB) ([x3, x9, (!x15), (!x21)])) = ((eL eB) ([a_due_here, a_due_here, (!a_due_here), (!a_due_here)])) /\ AlkOk ((eL eB) ([x3, x9, (!x15), (!x21)]))) /\ P true
def sp_l_equal_s (K : Fr) : Sp := λ vs H Q _ => ∃ (Rs : List Res) (p_a_one : Addr) (a_one : ((List (Str × (List Int))))) (a_due_here : Bool) (P : Bool -> Prop), vs = [(V.ref p_a_one), (V.ref p_a_one), (V.bl a_due_here)] /\ M (R_House K p_a_one a_one :: Rs) H /\ p_l_equal_s a_one a_due_here P /\ ∀ (r : Bool) H', P r -> M (R_House K p_a_one a_one :: Rs) H' -> Q (V.bl r) H'
theorem len_l_equal_s {K : Fr} (vs : List V) (H : Hp) (Q : VK) (E : XK) (h : sp_l_equal_s K vs H Q E) : vs.length = 3 := by
 obtain ⟨Rs, p_a_one, a_one, a_due_here, P, rfl, _⟩ := h
 rfl
def sp_l_equal (K : Fr) : Sp := λ vs H Q E => sp_l_equal_0 K vs H Q E \/ sp_l_equal_s K vs H Q E
theorem len_l_equal {K : Fr} (vs : List V) (H : Hp) (Q : VK) (E : XK) (h : sp_l_equal K vs H Q E) : vs.length = 3 := h.elim (len_l_equal_0 vs H Q E) λ h => len_l_equal_s vs H Q E h
abbrev t_l_equal_1 (K : Fr) : TS := (tSeq (tAsg (tLst (tCons (tOp (uEqI K (He.ga K "House") (sp_House___eq__ K)) (tVar 0) (tVar 1)) (tCons (tOp (uEqI K (He.ga K "House") (sp_House___eq__ K)) (tVar 1) (tVar 0)) (tCons (tOp (uNeI K (He.ga K "House") (sp_House___eq__ K)) (tVar 0) (tVar 1)) (tCons (tOp (uNeI K (He.ga K "House") (sp_House___eq__ K)) (tVar 1) (tVar 0)) tNil))))) (gName 3))
 (tRet (tCall (sp_l_alike K) [] E0 (tCons (tVar 3) (tCons (tLst (tCons (tVar 2) (tCons (tVar 2) (tCons (tNotV (tVar 2)) (tCons (tNotV (tVar 2)) tNil))))) tNil)))))
abbrev t_l_equal (K : Fr) : TS := (t_l_equal_1 K)
theorem pure_l_equal_0 {K : Fr} (vs : List V) (H : Hp) (Q : VK) (E : XK) (h : sp_l_equal_0 K vs H Q E) : t_l_equal K { nx := λ _ H' => Q .non H', rt := Q } (L2.start ["_law_one", "_law_other", "_law_due_here", "_law_told"] vs) H := by
 obtain ⟨Rs, p_a_one, a_one, p_a_other, a_other, a_due_here, P, rfl, S0, hf, hk⟩ := h
 show t_l_equal K _ [some (V.ref p_a_one), some (V.ref p_a_other), some (V.bl a_due_here), none] H
 refine g_seq (g_asg (g_lst (g_cons (g_op (g_var rfl (g_var rfl ?_))))))
 obtain ⟨_, _, Z1⟩ := i_R_House (M.at S0 0 rfl)
 obtain ⟨_, _, Z2⟩ := i_R_House (M.at S0 1 rfl)
 refine .inl ⟨_, _, _, _, _, _, rfl, rfl, Z1, Z2, ?_⟩
 refine .inl (⟨_, _, _, _, _, _, rfl, (M.at (M.at S0 1 rfl) 1 rfl), hf, λ x3 H5 hf (S4 : M (oo2 Rs) H5) => ?_⟩)
 refine ⟨_, rfl, ?_⟩
 refine g_cons (g_op (g_var rfl (g_var rfl ?_)))
 obtain ⟨_, _, Z7⟩ := i_R_House (M.at S4 1 rfl)
 obtain ⟨_, _, Z8⟩ := i_R_House (M.at S4 0 rfl)
 refine .inl ⟨_, _, _, _, _, _, rfl, rfl, Z7, Z8, ?_⟩
 refine .inl (⟨_, _, _, _, _, _, rfl, (M.at (M.at S4 0 rfl) 1 rfl), hf, λ x9 H11 hf (S10 : M (oo2 Rs) H11) => ?_⟩)
 refine ⟨_, rfl, ?_⟩
 refine g_cons (g_op (g_var rfl (g_var rfl ?_)))
 obtain ⟨_, _, Z13⟩ := i_R_House (M.at S10 1 rfl)
 obtain ⟨_, _, Z14⟩ := i_R_House (M.at S10 0 rfl)
 refine .inl ⟨_, _, _, _, _, _, rfl, rfl, Z13, Z14, ?_⟩
 refine .inl (⟨_, _, _, _, _, _, rfl, (M.at (M.at S10 0 rfl) 1 rfl), hf, λ x15 H17 hf (S16 : M (oo2 Rs) H17) => ?_⟩)
 refine ⟨_, rfl, ?_⟩
 refine g_cons (g_op (g_var rfl (g_var rfl ?_)))
 obtain ⟨_, _, Z19⟩ := i_R_House (M.at S16 1 rfl)
 obtain ⟨_, _, Z20⟩ := i_R_House (M.at S16 0 rfl)
 refine .inl ⟨_, _, _, _, _, _, rfl, rfl, Z19, Z20, ?_⟩
 refine .inl (⟨_, _, _, _, _, _, rfl, (M.at (M.at S16 0 rfl) 1 rfl), hf, λ x21 H23 hf (S22 : M (oo2 Rs) H23) => ?_⟩)
 refine ⟨_, rfl, ?_⟩
 refine g_nil (v_lsto (ds := ([x3, x9, (!x15), (!x21)]).map eB) S22 (EnF.consA (EnF.all λ _ => .bl _) (EnF.consA (EnF.all λ _ => .bl _) (EnF.consA (EnF.all λ _ => .bl _) (EnF.consA (EnF.all λ _ => .bl _) EnF.nilA)))) (len_ok rfl) λ p25 H27 (S26 : M (acR K p25 (([x3, x9, (!x15), (!x21)]).map eB) :: oo2 Rs) H27) => ?_)
 have S29 : M (da K (V.ref p25) ((eL eB) ([x3, x9, (!x15), (!x21)])) :: oo2 Rs) H27 := acR_fixL S26
 refine g_nx ?_
 show (_ : TS) _ [some (V.ref p_a_one), some (V.ref p_a_other), some (V.bl a_due_here), some (V.ref p25)] _
 refine g_ret (g_call (g_cons (g_var rfl (g_cons (g_lst (g_cons (g_var rfl (g_cons (g_var rfl (g_cons (g_notV (g_var rfl (g_bl (g_cons (g_notV (g_var rfl (g_bl (g_nil (v_lsto (ds := ([a_due_here, a_due_here, (!a_due_here), (!a_due_here)]).map eB) S29 (EnF.consA (EnF.all λ _ => .bl _) (EnF.consA (EnF.all λ _ => .bl _) (EnF.consA (EnF.all λ _ => .bl _) (EnF.consA (EnF.all λ _ => .bl _) EnF.nilA)))) (len_ok rfl) λ p31 H33 (S32 : M (acR K p31 (([a_due_here, a_due_here, (!a_due_here), (!a_due_here)]).map eB) :: oo3 Rs) H33) => ?_)))))))))))))))))))
 refine g_nil ?_
 obtain ⟨h35, hf⟩ := hf
 refine ⟨_, _, _, rfl, (Dq.dn (M.gotA S32 1 rfl)), (Dn.by_ h35.1 (Dq.dn (M.gotO S32 0 rfl))), h35.2, ?_⟩
 exact hk _ _ hf (M.pk S32 4 [3, 2] rfl)
theorem pure_l_equal_s {K : Fr} (vs : List V) (H : Hp) (Q : VK) (E : XK) (h : sp_l_equal_s K vs H Q E) : t_l_equal K { nx := λ _ H' => Q .non H', rt := Q } (L2.start ["_law_one", "_law_other", "_law_due_here", "_law_told"] vs) H := by
 obtain ⟨Rs, p_a_one, a_one, a_due_here, P, rfl, S0, hf, hk⟩ := h
 show t_l_equal K _ [some (V.ref p_a_one), some (V.ref p_a_one), some (V.bl a_due_here), none] H
 refine g_seq (g_asg (g_lst (g_cons (g_op (g_var rfl (g_var rfl ?_))))))
 obtain ⟨_, _, Z1⟩ := i_R_House (M.at S0 0 rfl)
 obtain ⟨_, _, Z2⟩ := i_R_House (M.at S0 0 rfl)
 refine .inl ⟨_, _, _, _, _, _, rfl, rfl, Z1, Z2, ?_⟩
 refine .inr (.inl (⟨_, _, _, _, rfl, (M.at S0 0 rfl), hf, λ x3 H5 hf (S4 : M (_ :: Rs) H5) => ?_⟩))
 refine ⟨_, rfl, ?_⟩
 refine g_cons (g_op (g_var rfl (g_var rfl ?_)))
 obtain ⟨_, _, Z7⟩ := i_R_House (M.at S4 0 rfl)
 obtain ⟨_, _, Z8⟩ := i_R_House (M.at S4 0 rfl)
 refine .inl ⟨_, _, _, _, _, _, rfl, rfl, Z7, Z8, ?_⟩
 refine .inr (.inl (⟨_, _, _, _, rfl, (M.at S4 0 rfl), hf, λ x9 H11 hf (S10 : M (_ :: Rs) H11) => ?_⟩))
 refine ⟨_, rfl, ?_⟩
 refine g_cons (g_op (g_var rfl (g_var rfl ?_)))
 obtain ⟨_, _, Z13⟩ := i_R_House (M.at S10 0 rfl)
 obtain ⟨_, _, Z14⟩ := i_R_House (M.at S10 0 rfl)
 refine .inl ⟨_, _, _, _, _, _, rfl, rfl, Z13, Z14, ?_⟩
 refine .inr (.inl (⟨_, _, _, _, rfl, (M.at S10 0 rfl), hf, λ x15 H17 hf (S16 : M (_ :: Rs) H17) => ?_⟩))
 refine ⟨_, rfl, ?_⟩
 refine g_cons (g_op (g_var rfl (g_var rfl ?_)))
 obtain ⟨_, _, Z19⟩ := i_R_House (M.at S16 0 rfl)
 obtain ⟨_, _, Z20⟩ := i_R_House (M.at S16 0 rfl)
 refine .inl ⟨_, _, _, _, _, _, rfl, rfl, Z19, Z20, ?_⟩
 refine .inr (.inl (⟨_, _, _, _, rfl, (M.at S16 0 rfl), hf, λ x21 H23 hf (S22 : M (_ :: Rs) H23) => ?_⟩))
 refine ⟨_, rfl, ?_⟩
 refine g_nil (v_lsto (ds := ([x3, x9, (!x15), (!x21)]).map eB) S22 (EnF.consA (EnF.all λ _ => .bl _) (EnF.consA (EnF.all λ _ => .bl _) (EnF.consA (EnF.all λ _ => .bl _) (EnF.consA (EnF.all λ _ => .bl _) EnF.nilA)))) (len_ok rfl) λ p25 H27 (S26 : M (acR K p25 (([x3, x9, (!x15), (!x21)]).map eB) :: _ :: Rs) H27) => ?_)
 have S29 : M (da K (V.ref p25) ((eL eB) ([x3, x9, (!x15), (!x21)])) :: _ :: Rs) H27 := acR_fixL S26
 refine g_nx ?_
 show (_ : TS) _ [some (V.ref p_a_one), some (V.ref p_a_one), some (V.bl a_due_here), some (V.ref p25)] _
 refine g_ret (g_call (g_cons (g_var rfl (g_cons (g_lst (g_cons (g_var rfl (g_cons (g_var rfl (g_cons (g_notV (g_var rfl (g_bl (g_cons (g_notV (g_var rfl (g_bl (g_nil (v_lsto (ds := ([a_due_here, a_due_here, (!a_due_here), (!a_due_here)]).map eB) S29 (EnF.consA (EnF.all λ _ => .bl _) (EnF.consA (EnF.all λ _ => .bl _) (EnF.consA (EnF.all λ _ => .bl _) (EnF.consA (EnF.all λ _ => .bl _) EnF.nilA)))) (len_ok rfl) λ p31 H33 (S32 : M (acR K p31 (([a_due_here, a_due_here, (!a_due_here), (!a_due_here)]).map eB) :: oo2 Rs) H33) => ?_)))))))))))))))))))
 refine g_nil ?_
 obtain ⟨h35, hf⟩ := hf
 refine ⟨_, _, _, rfl, (Dq.dn (M.gotA S32 1 rfl)), (Dn.by_ h35.1 (Dq.dn (M.gotO S32 0 rfl))), h35.2, ?_⟩
 exact hk _ _ hf (M.pk S32 3 [2] rfl)
theorem pure_l_equal {K : Fr} (vs : List V) (H : Hp) (Q : VK) (E : XK) (h : sp_l_equal K vs H Q E) : t_l_equal K { nx := λ _ H' => Q .non H', rt := Q } (L2.start ["_law_one", "_law_other", "_law_due_here", "_law_told"] vs) H := h.elim (pure_l_equal_0 vs H Q E) λ h => pure_l_equal_s vs H Q E h
def p_l_spoil_one (a_house : ((List (Str × (List Int))))) (a_files : (List (Str × (List Int)))) (X : Ex -> ((List (Str × (List Int)))) -> Prop) (P : ((List (Str × (List Int)))) -> Prop) : Prop := (ks a_files).length < 64 /\ p_l_any (srtS' (ks a_files)) λ x9 => (ks a_files).length < 64 /\ p_l_any (srtS' (ks a_files)) λ x21 => takeD 4 λ n27 => jn (β := ((List (Str × (List Int))))) (λ k31 => if (decide (n27 = 0)) = true then (∃ x38, lk a_files x9 = some x38 /\ takeD (if ((x38).length : Int) > 1 then ((x38).length : Int) else 1) λ n44 => ∃ x48, lk a_files x9 = some x48 /\ (x48).length + (([0] : List Int)).length <= 100000 /\ ∃ x66, atI (cat x48 ([0] : List Int)) n44 = some x66 /\ ((0 : Int) < 999) /\ ∃ x70, lk a_files x9 = some x70 /\ ((cutL x70 none (some n44))).length + ([(1 + (x66 % 999))]).length <= 100000 /\ ∃ x94, lk a_files x9 = some x94 /\ ((cat (cutL x70 none (some n44)) ([(1 + (x66 % 999))]))).length + ((cutL x94 (some (n44 + 1)) none)).length <= 100000 /\ p_House_write a_house x9 (cat (cat (cutL x70 none (some n44)) ([(1 + (x66 % 999))])) (cutL x94 (some (n44 + 1)) none)) (λ x118 m117 => X x118 m117) λ m113 => k31 m113) else (k31 a_house)) λ s30 => jn (β := ((List (Str × (List Int))))) (λ k128 => if (decide (n27 = 1)) = true then (p_House_drop s30 x9 (λ x138 m137 => X x138 m137) λ m133 => k128 m133) else (k128 s30)) λ s127 => jn (λ k151 => if (decide (n27 = 3)) = true then (∃ x153, lk a_files x9 = some x153 /\ ∃ x158, lk a_files x21 = some x158 /\ k151 (!decide (x153 = x158))) else (k151 false)) λ c147 => if c147 = true then (∃ x165, lk a_files x21 = some x165 /\ p_House_write s127 x9 x165 (λ x182 m181 => X x182 m181) λ m177 => ∃ x190, lk a_files x9 = some x190 /\ p_House_write m177 x21 x190 (λ x207 m206 => X x207 m206) λ m202 => P m202) else (if (decide (1 < n27)) = true then (p_House_move s127 x9 ("zzzzzzzz" : Str) (λ x219 m218 => X x219 m218) λ m214 => P m214) else (P s127))
def sp_l_spoil_one (K : Fr) : Sp := λ vs H Q E => ∃ (Rs : List Res) (a_bag_here : Addr) (p_a_house : Addr) (a_house : ((List (Str × (List Int))))) (v_a_files : V) (a_files : (List (Str × (List Int)))) (f_a_files : DF) (X : Ex -> ((List (Str × (List Int)))) -> Prop) (P : ((List (Str × (List Int)))) -> Prop), vs = [(V.ref a_bag_here), (V.ref p_a_house), v_a_files] /\ M (bagR a_bag_here :: R_House K p_a_house a_house :: bdR K iS (eL eI) v_a_files a_files f_a_files :: Rs) H /\ p_l_spoil_one a_house a_files X P /\ (∀ (x : Ex) (m0 : ((List (Str × (List Int))))) (d : Addr) (v : V) H', X x m0 -> M (pt d (.xd [(x.fld, v)]) :: da K v x.val :: bagR a_bag_here :: R_House K p_a_house m0 :: bdR K iS (eL eI) v_a_files a_files f_a_files :: Rs) H' -> E (.ref (He.ga K x.cls)) (some d) H') /\ ∀ (m0 : ((List (Str × (List Int))))) H', P m0 -> M (bagR a_bag_here :: R_House K p_a_house m0 :: bdR K iS (eL eI) v_a_files a_files f_a_files :: Rs) H' -> Q .non H'
theorem len_l_spoil_one {K : Fr} (vs : List V) (H : Hp) (Q : VK) (E : XK) (h : sp_l_spoil_one K vs H Q E) : vs.length = 3 := by
 obtain ⟨Rs, a_bag_here, p_a_house, a_house, v_a_files, a_files, f_a_files, X, P, rfl, _⟩ := h
 rfl
abbrev t_l_spoil_one_5 (K : Fr) (W : WX) : TS := (tSeq (tAsg (tOp (uAdd K) (tC (.int 1)) (tOp uMod (tOp (uIx K) (tOp (uAdd K) (tOp rIxK (tVar 2) (tVar 4)) (tLst (tCons (tC (.int 0)) tNil))) (tVar 6)) (tC (.int 999)))) (gName 7))
 (tDrop (tMethW W (He.ga K "House") "write" (sp_House_write K) [] (tVar 1) (tCons (tVar 4) (tCons (tOp (uAdd K) (tOp (uAdd K) (tSl (uSl K) (tOp rIxK (tVar 2) (tVar 4)) tNoPart (tPart (tVar 6))) (tLst (tCons (tVar 7) tNil))) (tSl (uSl K) (tOp rIxK (tVar 2) (tVar 4)) (tPart (tOp (uAdd K) (tVar 6) (tC (.int 1)))) tNoPart)) tNil)))))
abbrev t_l_spoil_one_4 (K : Fr) (W : WX) : TS := (tSeq (tAsg (tCall (sp_l_take K) [] E0 (tCons (tVar 0) (tCons (tCB rMax2 (tCons (tC (.int 1)) (tCons (tCB (uLen K) (tCons (tOp rIxK (tVar 2) (tVar 4)) tNil)) tNil))) tNil))) (gName 6))
 (t_l_spoil_one_5 K W))
abbrev t_l_spoil_one_10 (K : Fr) (W : WX) : TS := (tSeq (tDrop (tMethW W (He.ga K "House") "write" (sp_House_write K) [] (tVar 1) (tCons (tVar 4) (tCons (tCB (rListOf K) (tCons (tOp rIxK (tVar 2) (tVar 5)) tNil)) tNil))))
 (tDrop (tMethW W (He.ga K "House") "write" (sp_House_write K) [] (tVar 1) (tCons (tVar 5) (tCons (tCB (rListOf K) (tCons (tOp rIxK (tVar 2) (tVar 4)) tNil)) tNil)))))
abbrev t_l_spoil_one_12 (K : Fr) (W : WX) : TS := (tIfS (tTest (tOp uGt (tVar 3) (tC (.int 1)))) (tDrop (tMethW W (He.ga K "House") "move" (sp_House_move K) [] (tVar 1) (tCons (tVar 4) (tCons (tC (.str "zzzzzzzz")) tNil)))) tNext)
abbrev t_l_spoil_one_9 (K : Fr) (W : WX) : TS := (tIfS (tAnd (tTest (tOp (uEq K) (tVar 3) (tC (.int 3)))) (tTest (tOp (uNe K) (tOp rIxK (tVar 2) (tVar 4)) (tOp rIxK (tVar 2) (tVar 5))))) (t_l_spoil_one_10 K W) (t_l_spoil_one_12 K W))
abbrev t_l_spoil_one_7 (K : Fr) (W : WX) : TS := (tSeq (tIfS (tTest (tOp (uEq K) (tVar 3) (tC (.int 1)))) (tDrop (tMethW W (He.ga K "House") "drop" (sp_House_drop K) [] (tVar 1) (tCons (tVar 4) tNil))) tNext)
 (t_l_spoil_one_9 K W))
abbrev t_l_spoil_one_3 (K : Fr) (W : WX) : TS := (tSeq (tIfS (tTest (tOp (uEq K) (tVar 3) (tC (.int 0)))) (t_l_spoil_one_4 K W) tNext)
 (t_l_spoil_one_7 K W))
abbrev t_l_spoil_one_2 (K : Fr) (W : WX) : TS := (tSeq (tAsg (tCall (sp_l_take K) [] E0 (tCons (tVar 0) (tCons (tC (.int 4)) tNil))) (gName 3))
 (t_l_spoil_one_3 K W))
abbrev t_l_spoil_one_1 (K : Fr) (W : WX) : TS := (tSeq (tPar 4 5 (tCons (tCall (sp_l_any K) [] E0 (tCons (tVar 0) (tCons (tCB rSortDS (tCons (tVar 2) tNil)) tNil))) (tCons (tCall (sp_l_any K) [] E0 (tCons (tVar 0) (tCons (tCB rSortDS (tCons (tVar 2) tNil)) tNil))) tNil)))
 (t_l_spoil_one_2 K W))
abbrev t_l_spoil_one (K : Fr) (W : WX) : TS := (t_l_spoil_one_1 K W)
theorem pure_l_spoil_one {K : Fr} (T : TxC K) (vs : List V) (H : Hp) (Q : VK) (E : XK) (h : sp_l_spoil_one K vs H Q E) : t_l_spoil_one K (WT E) { nx := λ _ H' => Q .non H', rt := Q } (L2.start ["_law_bag_here", "_law_house", "_law_files", "_law_pick", "_law_name", "_law_other", "_law_at", "_law_sign"] vs) H := by
 obtain ⟨Rs, a_bag_here, p_a_house, a_house, v_a_files, a_files, f_a_files, X, P, rfl, S0, hf, hX, hk⟩ := h
 show t_l_spoil_one K (WT E) _ [some (V.ref a_bag_here), some (V.ref p_a_house), some v_a_files, none, none, none, none, none] H
 refine g_seq (g_par (g_cons (g_call (g_cons (g_var rfl (g_cons (g_cb (g_cons (g_var rfl (g_nil ?_))))))))))
 obtain ⟨h1, hf⟩ := hf
 refine d_srtS (M.dvB S0 2 rfl) h1 λ p2 H4 (S3 : M (acR K p2 ((srtS' (ks a_files)).map eS) :: oo3 Rs) H4) => ?_
 have S6 : M (da K (V.ref p2) ((eL eS) (srtS' (ks a_files))) :: oo3 Rs) H4 := acR_fixL S3
 refine g_nil (⟨_, _, _, _, _, _, rfl, Brw.da, (M.at (M.addA S6 (EnF.at 0 rfl)) 2 rfl), hf, λ x9 H11 hf (S10 : M (oo5 Rs) H11) => ?_⟩)
 refine g_cons (g_call (g_cons (g_var rfl (g_cons (g_cb (g_cons (g_var rfl (g_nil ?_))))))))
 obtain ⟨h13, hf⟩ := hf
 refine d_srtS (M.dvB S10 4 rfl) h13 λ p14 H16 (S15 : M (acR K p14 ((srtS' (ks a_files)).map eS) :: oo5 Rs) H16) => ?_
 have S18 : M (da K (V.ref p14) ((eL eS) (srtS' (ks a_files))) :: oo5 Rs) H16 := acR_fixL S15
 refine g_nil (⟨_, _, _, _, _, _, rfl, Brw.da, (M.at (M.addA S18 (EnF.at 0 rfl)) 2 rfl), hf, λ x21 H23 hf (S22 : M (oo7 Rs) H23) => ?_⟩)
 refine g_nil (v_par (g_nx ?_))
 show (_ : TS) _ [some (V.ref a_bag_here), some (V.ref p_a_house), some v_a_files, none, some (V.str x9), some (V.str x21), none, none] _
 have S25 : M (oo3 Rs) H23 := (M.drp (M.drp (M.drp (M.drp S22 4) 3) 2) 1)
 refine g_seq (g_asg (g_call (g_cons (g_var rfl (g_cons (g_c (g_nil ?_)))))))
 obtain ⟨h26, hf⟩ := hf
 refine u_take (S25.at 0 rfl) h26 λ n27 H29 n27l n27u (S28 : M (oo3 Rs) H29) => ?_
 replace hf := hf n27 n27l n27u
 refine g_nx ?_
 show (_ : TS) _ [some (V.ref a_bag_here), some (V.ref p_a_house), some v_a_files, some (V.int n27), some (V.str x9), some (V.str x21), none, none] _
 refine jn_cut (β := ((List (Str × (List Int))))) hf (λ (s30 : ((List (Str × (List Int))))) σ H' => ∃ (o36 : Option V) (o37 : Option V), σ = [some (V.ref a_bag_here), some (V.ref p_a_house), some v_a_files, some (V.int n27), some (V.str x9), some (V.str x21), o36, o37] /\ M (R_House K p_a_house s30 :: bagR a_bag_here :: bdR K iS (eL eI) v_a_files a_files f_a_files :: Rs) H') (λ kk32 N33 hN34 hf => ?_) ?_
 ·
  refine g_if (g_test (g_op (g_var rfl (g_c (v_eqI (g_bl (v_iff hf (λ _ hf => ?_) (λ _ hf => ?_))))))))
  ·
   refine g_seq (g_asg (g_call (g_cons (g_var rfl (g_cons (g_cb (g_cons (g_c (g_cons (g_cb (g_cons (g_op (g_var rfl (g_var rfl ?_))))))))))))))
   obtain ⟨x38, h39, hf⟩ := hf
   refine d_ixS (M.dvB S28 2 rfl) h39 λ u40 S41 => ?_
   refine g_nil (v_lenN (M.gotA S41 0 rfl) (g_nil (v_max2 (g_nil ?_))))
   obtain ⟨h43, hf⟩ := hf
   refine u_take (S41.at 1 rfl) h43 λ n44 H46 n44l n44u (S45 : M (_ :: da K u40 ((eL eI) x38) :: oo2 Rs) H46) => ?_
   replace hf := hf n44 n44l n44u
   refine g_nx ?_
   show (_ : TS) _ [some (V.ref a_bag_here), some (V.ref p_a_house), some v_a_files, some (V.int n27), some (V.str x9), some (V.str x21), some (V.int n44), none] _
   have S47 : M (oo3 Rs) H46 := (M.drp S45 1)
   refine g_seq (g_asg (g_op (g_c (g_op (g_op (g_op (g_op (g_var rfl (g_var rfl ?_)))))))))
   obtain ⟨x48, h49, hf⟩ := hf
   refine d_ixS (M.dvB S47 2 rfl) h49 λ u50 S51 => ?_
   refine g_lst (g_cons (g_c (g_nil (v_lsto (ds := ([0] : List Int).map eI) S51 (EnF.consA (EnF.all λ _ => .int _) EnF.nilA) (len_ok rfl) λ p53 H55 (S54 : M (acR K p53 (([0] : List Int).map eI) :: da K u50 ((eL eI) x48) :: oo3 Rs) H55) => ?_))))
   have S57 : M (da K (V.ref p53) ((eL eI) ([0] : List Int)) :: oo4 Rs) H55 := acR_fixL S54
   obtain ⟨h59, hf⟩ := hf
   refine v_catN flI S57 (M.gotA S57 1 rfl) (M.gotA S57 0 rfl) h59 λ p60 H62 (S61 : M (acR K p60 ((cat x48 ([0] : List Int)).map eI) :: oo5 Rs) H62) => ?_
   refine g_var rfl ?_
   have S64 : M (da K (V.ref p60) ((eL eI) (cat x48 ([0] : List Int))) :: oo5 Rs) H62 := acR_fixL S61
   obtain ⟨x66, h67, hf⟩ := hf
   obtain ⟨h68, hf⟩ := hf
   refine v_ixN flI (M.gotA S64 0 rfl) h67 (g_c (v_mod h68 (v_add (g_nx ?_))))
   show (_ : TS) _ [some (V.ref a_bag_here), some (V.ref p_a_house), some v_a_files, some (V.int n27), some (V.str x9), some (V.str x21), some (V.int n44), some (V.int (1 + (x66 % 999)))] _
   have S69 : M (oo3 Rs) H62 := (M.drp (M.drp (M.drp S64 2) 1) 0)
   refine g_drop (g_meth (g_var rfl (v_R_House S69 1 rfl (λ _ _ => rfl) (g_cons (g_var rfl (g_cons (g_op (g_op (g_sl (g_op (g_var rfl (g_var rfl ?_))))))))))))
   obtain ⟨x70, h71, hf⟩ := hf
   refine d_ixS (M.dvB S69 2 rfl) h71 λ u72 S73 => ?_
   refine g_noPart (g_part (g_var rfl (g_int (v_slN flI S73 (M.gotA S73 0 rfl) λ p75 H77 (S76 : M (acR K p75 ((cutL x70 none (some n44)).map eI) :: da K u72 ((eL eI) x70) :: oo3 Rs) H77) => ?_))))
   have S79 : M (da K (V.ref p75) ((eL eI) (cutL x70 none (some n44))) :: oo4 Rs) H77 := acR_fixL S76
   refine g_lst (g_cons (g_var rfl (g_nil (v_lsto (ds := ([(1 + (x66 % 999))]).map eI) S79 (EnF.consA (EnF.all λ _ => .int _) EnF.nilA) (len_ok rfl) λ p81 H83 (S82 : M (acR K p81 (([(1 + (x66 % 999))]).map eI) :: oo5 Rs) H83) => ?_))))
   have S85 : M (da K (V.ref p81) ((eL eI) ([(1 + (x66 % 999))])) :: oo5 Rs) H83 := acR_fixL S82
   obtain ⟨h87, hf⟩ := hf
   refine v_catN flI S85 (M.gotA S85 1 rfl) (M.gotA S85 0 rfl) h87 λ p88 H90 (S89 : M (acR K p88 ((cat (cutL x70 none (some n44)) ([(1 + (x66 % 999))])).map eI) :: oo6 Rs) H90) => ?_
   have S92 : M (da K (V.ref p88) ((eL eI) (cat (cutL x70 none (some n44)) ([(1 + (x66 % 999))]))) :: oo6 Rs) H90 := acR_fixL S89
   refine g_sl (g_op (g_var rfl (g_var rfl ?_)))
   obtain ⟨x94, h95, hf⟩ := hf
   refine d_ixS (M.dvB S92 6 rfl) h95 λ u96 S97 => ?_
   refine g_part (g_op (g_var rfl (g_c (v_add (g_int (g_noPart (v_slN flI S97 (M.gotA S97 0 rfl) λ p99 H101 (S100 : M (acR K p99 ((cutL x94 (some (n44 + 1)) none).map eI) :: da K u96 ((eL eI) x94) :: oo7 Rs) H101) => ?_)))))))
   have S103 : M (da K (V.ref p99) ((eL eI) (cutL x94 (some (n44 + 1)) none)) :: oo8 Rs) H101 := acR_fixL S100
   obtain ⟨h105, hf⟩ := hf
   refine v_catN flI S103 (M.gotA S103 2 rfl) (M.gotA S103 0 rfl) h105 λ p106 H108 (S107 : M (acR K p106 ((cat (cat (cutL x70 none (some n44)) ([(1 + (x66 % 999))])) (cutL x94 (some (n44 + 1)) none)).map eI) :: oo9 Rs) H108) => ?_
   have S110 : M (da K (V.ref p106) ((eL eI) (cat (cat (cutL x70 none (some n44)) ([(1 + (x66 % 999))])) (cutL x94 (some (n44 + 1)) none))) :: oo9 Rs) H108 := acR_fixL S107
   refine g_nil (⟨_, _, _, _, _, _, _, _, _, rfl, Brw.da, (M.at (M.addA S110 (EnF.at 0 rfl)) 9 rfl), hf, λ x118 m117 d119 v120 H122 hf (S121 : M (pt d119 (.xd [(x118.fld, v120)]) :: da K v120 x118.val :: R_House K p_a_house m117 :: oo10 Rs) H122) => ?_, λ m113 H115 hf (S114 : M (R_House K p_a_house m113 :: oo10 Rs) H115) => ?_⟩)
   ·
    exact hX x118 _ d119 v120 _ hf (M.pk S121 13 [0, 1, 11, 2, 12] rfl)
   exact hN34 _ _ _ hf ⟨_, _, rfl, (M.pk S114 11 [0, 9, 10] rfl)⟩
  ·
   refine g_next ?_
   exact hN34 _ _ _ hf ⟨_, _, rfl, (M.pk S28 3 [1, 0, 2] rfl)⟩
 rintro s30 _ H126 hf ⟨o36, o37, rfl, S125⟩
 refine jn_cut (β := ((List (Str × (List Int))))) hf (λ (s127 : ((List (Str × (List Int))))) σ H' => σ = [some (V.ref a_bag_here), some (V.ref p_a_house), some v_a_files, some (V.int n27), some (V.str x9), some (V.str x21), o36, o37] /\ M (R_House K p_a_house s127 :: bagR a_bag_here :: bdR K iS (eL eI) v_a_files a_files f_a_files :: Rs) H') (λ kk129 N130 hN131 hf => ?_) ?_
 ·
  refine g_if (g_test (g_op (g_var rfl (g_c (v_eqI (g_bl (v_iff hf (λ _ hf => ?_) (λ _ hf => ?_))))))))
  ·
   refine g_drop (g_meth (g_var rfl (v_R_House S125 0 rfl (λ _ _ => rfl) (g_cons (g_var rfl (g_nil (⟨_, _, _, _, _, _, rfl, (M.at S125 0 rfl), hf, λ x138 m137 d139 v140 H142 hf (S141 : M (pt d139 (.xd [(x138.fld, v140)]) :: da K v140 x138.val :: R_House K p_a_house m137 :: oo2 Rs) H142) => ?_, λ m133 H135 hf (S134 : M (R_House K p_a_house m133 :: oo2 Rs) H135) => ?_⟩)))))))
   ·
    exact hX x138 _ d139 v140 _ hf (M.pk S141 5 [0, 1, 3, 2, 4] rfl)
   exact hN131 _ _ _ hf ⟨rfl, (M.pk S134 3 [0, 1, 2] rfl)⟩
  ·
   refine g_next ?_
   exact hN131 _ _ _ hf ⟨rfl, (M.sub (.cons 0 rfl (.cons 0 rfl (.cons 0 rfl (.refl _)))) S125)⟩
 rintro s127 _ H146 hf ⟨rfl, S145⟩
 refine g_if ?_
 refine tt_cut hf (λ H => M (R_House K p_a_house s127 :: bagR a_bag_here :: bdR K iS (eL eI) v_a_files a_files f_a_files :: Rs) H) (λ kk148 P149 hP150 hf => ?_) ?_
 ·
  refine g_and (g_test (g_op (g_var rfl (g_c (v_eqI (g_bl (v_iff hf (λ _ hf => ?_) (λ _ hf => ?_))))))))
  ·
   refine g_test (g_op (g_op (g_var rfl (g_var rfl ?_))))
   obtain ⟨x153, h154, hf⟩ := hf
   refine d_ixS (M.dvB S145 2 rfl) h154 λ u155 S156 => ?_
   refine g_op (g_var rfl (g_var rfl ?_))
   obtain ⟨x158, h159, hf⟩ := hf
   refine d_ixS (M.dvB S156 3 rfl) h159 λ u160 S161 => ?_
   refine v_neLI (M.gotA S161 1 rfl) (M.gotA S161 0 rfl) (g_bl ?_)
   exact hP150 _ _ hf (M.sub (.cons 2 rfl (.cons 2 rfl (.cons 2 rfl (.tl (.tl (.refl _)))))) S161)
  ·
   exact hP150 _ _ hf (M.sub (.cons 0 rfl (.cons 0 rfl (.cons 0 rfl (.refl _)))) S145)
 intro c147 H164 hf S163
 refine v_iff hf (λ _ hf => ?_) (λ _ hf => ?_)
 ·
  refine g_seq (g_drop (g_meth (g_var rfl (v_R_House S163 0 rfl (λ _ _ => rfl) (g_cons (g_var rfl (g_cons (g_cb (g_cons (g_op (g_var rfl (g_var rfl ?_))))))))))))
  obtain ⟨x165, h166, hf⟩ := hf
  refine d_ixS (M.dvB S163 2 rfl) h166 λ u167 S168 => ?_
  refine g_nil (v_liN flI S168 (M.gotA S168 0 rfl) λ p170 H172 (S171 : M (acR K p170 (x165.map eI) :: da K u167 ((eL eI) x165) :: R_House K p_a_house s127 :: bagR a_bag_here :: bdR K iS (eL eI) v_a_files a_files f_a_files :: Rs) H172) => ?_)
  have S174 : M (da K (V.ref p170) ((eL eI) x165) :: oo4 Rs) H172 := acR_fixL S171
  refine g_nil (⟨_, _, _, _, _, _, _, _, _, rfl, Brw.da, (M.at (M.addA S174 (EnF.at 0 rfl)) 3 rfl), hf, λ x182 m181 d183 v184 H186 hf (S185 : M (pt d183 (.xd [(x182.fld, v184)]) :: da K v184 x182.val :: R_House K p_a_house m181 :: oo5 Rs) H186) => ?_, λ m177 H179 hf (S178 : M (R_House K p_a_house m177 :: oo5 Rs) H179) => ?_⟩)
  ·
   exact hX x182 _ d183 v184 _ hf (M.pk S185 8 [0, 1, 6, 2, 7] rfl)
  refine g_nx ?_
  show (_ : TS) _ [some (V.ref a_bag_here), some (V.ref p_a_house), some v_a_files, some (V.int n27), some (V.str x9), some (V.str x21), o36, o37] _
  have S189 : M (oo3 Rs) H179 := (M.drp (M.drp (M.drp S178 3) 2) 1)
  refine g_drop (g_meth (g_var rfl (v_R_House S189 0 rfl (λ _ _ => rfl) (g_cons (g_var rfl (g_cons (g_cb (g_cons (g_op (g_var rfl (g_var rfl ?_)))))))))))
  obtain ⟨x190, h191, hf⟩ := hf
  refine d_ixS (M.dvB S189 2 rfl) h191 λ u192 S193 => ?_
  refine g_nil (v_liN flI S193 (M.gotA S193 0 rfl) λ p195 H197 (S196 : M (acR K p195 (x190.map eI) :: da K u192 ((eL eI) x190) :: oo3 Rs) H197) => ?_)
  have S199 : M (da K (V.ref p195) ((eL eI) x190) :: oo4 Rs) H197 := acR_fixL S196
  refine g_nil (⟨_, _, _, _, _, _, _, _, _, rfl, Brw.da, (M.at (M.addA S199 (EnF.at 0 rfl)) 3 rfl), hf, λ x207 m206 d208 v209 H211 hf (S210 : M (pt d208 (.xd [(x207.fld, v209)]) :: da K v209 x207.val :: R_House K p_a_house m206 :: oo5 Rs) H211) => ?_, λ m202 H204 hf (S203 : M (R_House K p_a_house m202 :: oo5 Rs) H204) => ?_⟩)
  ·
   exact hX x207 _ d208 v209 _ hf (M.pk S210 8 [0, 1, 6, 2, 7] rfl)
  exact hk _ _ hf (M.pk S203 6 [4, 0, 5] rfl)
 ·
  refine g_if (g_test (g_op (g_var rfl (g_c (v_gt (g_bl (v_iff hf (λ _ hf => ?_) (λ _ hf => ?_))))))))
  ·
   refine g_drop (g_meth (g_var rfl (v_R_House S163 0 rfl (λ _ _ => rfl) (g_cons (g_var rfl (g_cons (g_c (g_nil (⟨_, _, _, _, _, _, _, rfl, (M.at S163 0 rfl), hf, λ x219 m218 d220 v221 H223 hf (S222 : M (pt d220 (.xd [(x219.fld, v221)]) :: da K v221 x219.val :: R_House K p_a_house m218 :: bagR a_bag_here :: bdR K iS (eL eI) v_a_files a_files f_a_files :: Rs) H223) => ?_, λ m214 H216 hf (S215 : M (R_House K p_a_house m214 :: oo2 Rs) H216) => ?_⟩)))))))))
   ·
    exact hX x219 _ d220 v221 _ hf (M.pk S222 5 [0, 1, 3, 2, 4] rfl)
   exact hk _ _ hf (M.pk S215 3 [1, 0, 2] rfl)
  ·
   refine g_next ?_
   exact hk _ _ hf (M.sub (.cons 1 rfl (.cons 0 rfl (.cons 0 rfl (.refl _)))) S163)
theorem jn_ok {β : Type} {f : (β -> Prop) -> Prop} {k : β -> Prop} (G : β -> Prop) (h1 : ∀ kk : β -> Prop, (∀ b, G b -> kk b) -> f kk) (h2 : ∀ b, G b -> k b) : jn f k := h1 k h2
theorem is_name_ok {s : Str} {P : Bool -> Prop} (g : GN s) (h : P true) : p_is_name s P := by
 unfold p_is_name jn
 obtain ⟨h1, h2, h3⟩ := g
 refine ⟨by omega, ?_⟩
 rw [if_pos (by simp; omega)]
 dsimp only
 rw [if_neg (by simp; omega)]
 refine forD_inv (λ _ _ => True) (n := 0) trivial (λ i x s' kk hx _ hk => ?_) λ _ _ => h
 obtain ⟨c, hc, rfl⟩ := List.mem_map.mp (List.mem_of_getElem? hx)
 have hr := h3 c hc
 refine ⟨true, ?_, ?_⟩
 · show some (decide (c ∈ ("abcdefghijklmnopqrstuvwxyz" : Str).cps.toList)) = some true
   congr 1
   exact decide_eq_true (letters_mem hr)
 · show if (!true) = true then _ else _
   exact hk () trivial
theorem names_ok {k : Int} (hk0 : 0 <= k /\ k <= 12) {P : List Str -> Prop} (h : ∀ ns : List Str, ns.length = k.toNat -> (∀ s ∈ ns, GN s) -> P ns) : p_l_names k P := by
 unfold p_l_names
 refine tk (by decide) λ pick l1 u1 => tk (by decide) λ turn l2 u2 => tk (by decide) λ sz l3 u3 => tk (by omega) λ at_ l4 u4 => ?_
 have hz : (rng (1 + sz)).length = (1 + sz).toNat := rng_len _
 refine ⟨by omega, by omega, lcD_all G1 (λ x _ kk hk => tk (by decide) λ v lv uv => ?_) (λ _ h => nomatch h) λ base hb hl => ?_⟩
 · obtain ⟨c, e, g⟩ := letter_at lv uv
   exact ⟨c, e, hk c g⟩
 have hbl : base.length = (1 + sz).toNat := by rw [hl, hz]; simp
 split
 · refine ⟨by decide, by decide, h _ ?_ ?_⟩
   · rw [cut_lo (by omega), cut_hi hk0.1, List.length_take, List.length_drop]
     show min k.toNat (24 - (turn % 12).toNat) = k.toNat
     have : turn % 12 < 12 := by omega
     have : 0 <= turn % 12 := by omega
     omega
   · intro s hs
     rw [cut_lo (by omega), cut_hi hk0.1] at hs
     have hs2 := List.mem_of_mem_drop (List.mem_of_mem_take hs)
     rcases List.mem_append.mp hs2 with z | z
     · exact words_ok s z
     · exact words_ok s z
 · refine ⟨by omega, by rw [rng_len]; omega, lcD_all GN (λ x hx kk hk => ?_) (λ _ h => nomatch h) λ ys hy hyl => h ys ?_ hy⟩
   · obtain ⟨c, e, g⟩ := letter_at (i := (turn + x) % 26) (by omega) (by omega)
     have e1 : cutL base none (some at_) = base.take at_.toNat := cut_hi l4
     have e2 : cutL base (some (at_ + 1)) none = base.drop (at_ + 1).toNat := cut_lo (by omega)
     have gl : (cat (cat (cutL base none (some at_)) [c]) (cutL base (some (at_ + 1)) none)).length = base.length := by
       rw [e1, e2]
       show ((base.take at_.toNat ++ [c]) ++ base.drop (at_ + 1).toNat).length = _
       rw [List.length_append, List.length_append, List.length_take, List.length_drop]
       simp
       omega
     have ga : ∀ y ∈ cat (cat (cutL base none (some at_)) [c]) (cutL base (some (at_ + 1)) none), G1 y := by
       rw [e1, e2]
       intro y hy
       rcases List.mem_append.mp hy with hy | hy
       · rcases List.mem_append.mp hy with hy | hy
         · exact hb y (List.mem_of_mem_take hy)
         · rw [show y = c by simpa using hy]
           exact g
       · exact hb y (List.mem_of_mem_drop hy)
     have gj : GN (Txt.join ("" : Str) (cat (cat (cutL base none (some at_)) [c]) (cutL base (some (at_ + 1)) none))) := join_GN ga (by rw [gl]; omega) (by rw [gl]; omega)
     have sm : ∀ l : List Str, (∀ y ∈ l, G1 y) -> (l.map (·.length)).sum = l.length := by
       intro l hl
       induction l with
       | nil => rfl
       | cons y r ih =>
         obtain ⟨n, rfl, _⟩ := hl y List.mem_cons_self
         rw [List.map_cons, List.sum_cons, ih λ z hz => hl z (List.mem_cons_of_mem _ hz), List.length_cons]
         show 1 + _ = _
         omega
     refine ⟨by decide, c, e, ?_, ?_, ?_, hk _ gj⟩
     · rw [e1, List.length_take]
       simp
       omega
     · have := gl
       unfold cat at this ⊢
       rw [List.length_append] at this
       omega
     · rw [sm _ ga, gl]
       show base.length + base.length * 0 <= _
       omega
   · rw [hyl, rng_len]
     simp
theorem content_ok {P : List Int -> Prop} (h : ∀ ns, GC ns -> P ns) : p_l_content P := by
 unfold p_l_content
 refine tk (by decide) λ pick l1 u1 => tk (by decide) λ a la ua => tk (by decide) λ b lb ub => tk (by decide) λ c lc uc => tk (by decide) λ w lw uw => ?_
 obtain ⟨x, hx, e⟩ := atI_ex (xs := [a, b, c]) lw (by simpa using uw)
 refine ⟨x, e, ?_⟩
 have hx2 : 0 <= x /\ x <= 48 := by
   simp only [List.mem_cons, List.not_mem_nil, or_false] at hx
   rcases hx with rfl | rfl | rfl <;> omega
 have hl : (rng x).length <= 48 := by
   rw [rng_len]
   omega
 have fin : ∀ {f : Int -> (Option Int -> Prop) -> Prop}, (∀ x, ∀ kk : Option Int -> Prop, (∀ y, 0 <= y /\ y <= 999 -> kk (some y)) -> f x kk) -> ((-(2 ^ 62) : Int) <= x /\ x < (2 ^ 62 : Int)) /\ (rng x).length <= 100000 /\ lcD f (rng x) [] P := by
   intro f hs
   refine ⟨by omega, by omega, lcD_all (λ y => 0 <= y /\ y <= 999) (λ z _ kk hk => hs z kk hk) (λ _ h => nomatch h) λ ys hy hy2 => h ys ⟨?_, hy⟩⟩
   rw [hy2]
   simpa using hl
 have eta : (λ acc => P acc) = P := rfl
 split
 · refine fin λ z kk hk => tk (by decide) λ v lv uv => ?_
   obtain ⟨y, hy, e⟩ := atI_ex (xs := [(1 : Int), 7, 2]) lv (by simpa using uv)
   refine ⟨y, e, hk y ?_⟩
   simp only [List.mem_cons, List.not_mem_nil, or_false] at hy
   rcases hy with rfl | rfl | rfl <;> omega
 · split
   · exact fin λ z kk hk => tk (by decide) λ v lv uv => ⟨cmul (by omega) (by omega), hk _ (by omega)⟩
   · split
     · exact fin λ z kk hk => tk (by decide) λ v lv uv => ⟨cmul (by omega) (by omega), hk _ (by omega)⟩
     · split
       · refine fin λ z kk hk => tk (by decide) λ v lv uv => ?_
         obtain ⟨y, hy, e⟩ := atI_ex (xs := [(0 : Int), 999]) lv (by simpa using uv)
         refine ⟨y, e, hk y ?_⟩
         simp only [List.mem_cons, List.not_mem_nil, or_false] at hy
         rcases hy with rfl | rfl <;> omega
       · exact fin λ z kk hk => tk (by decide) λ v lv uv => hk _ (by omega)
theorem is_sign_ok {x : Int} {P : Bool -> Prop} (hx : 0 <= x /\ x <= 999) (h : P true) : p_is_sign x P := by
 unfold p_is_sign p_is_whole jn
 show P (decide (0 <= x) && decide (x <= 999))
 rw [decide_eq_true hx.1, decide_eq_true hx.2]
 exact h
theorem is_content_ok {ns : List Int} {P : Bool -> Prop} (g : GC ns) (h : P true) : p_is_content ns P := by
 unfold p_is_content p_are_signs
 have h1 := g.1
 rw [if_neg (by simp; omega)]
 refine forD_inv (λ _ _ => True) (n := 0) trivial (λ i x s kk hx _ hk => is_sign_ok (g.2 x (List.mem_of_getElem? hx)) ?_) λ _ _ => h
 show if (!true) = true then _ else _
 exact hk () trivial
theorem contents_ok {m : List (Str × List Int)} {P : List (Str × List Int) -> Prop} (g : GF m) (h : P (cont m)) : p_House_contents m P := by
 unfold p_House_contents
 have := g.ln
 refine ⟨by rw [ks_len]; omega, by rw [srt_len, ks_len]; omega, dcD_nd (λ n => (lk m n).getD []) (srt_nd g.nd) (λ x _ z => nomatch z) (λ x hx acc kk h1 h2 => ?_) h⟩
 obtain ⟨y, hy⟩ := lk_some (srt_mem hx)
 rw [hy] at h2
 exact ⟨y, hy, h1, h2⟩
theorem wds : ((("write" : Str) = ("drop" : Str)) = False) /\ ((("write" : Str) = ("move" : Str)) = False) /\ ((("write" : Str) = ("content" : Str)) = False) /\ ((("write" : Str) = ("become" : Str)) = False) /\ ((("drop" : Str) = ("write" : Str)) = False) /\ ((("drop" : Str) = ("move" : Str)) = False) /\ ((("drop" : Str) = ("content" : Str)) = False) /\ ((("drop" : Str) = ("become" : Str)) = False) /\ ((("move" : Str) = ("write" : Str)) = False) /\ ((("move" : Str) = ("drop" : Str)) = False) /\ ((("move" : Str) = ("content" : Str)) = False) /\ ((("move" : Str) = ("become" : Str)) = False) /\ ((("content" : Str) = ("write" : Str)) = False) /\ ((("content" : Str) = ("drop" : Str)) = False) /\ ((("content" : Str) = ("move" : Str)) = False) /\ ((("content" : Str) = ("become" : Str)) = False) /\ ((("become" : Str) = ("write" : Str)) = False) /\ ((("become" : Str) = ("drop" : Str)) = False) /\ ((("become" : Str) = ("move" : Str)) = False) /\ ((("become" : Str) = ("content" : Str)) = False) := by
 refine ⟨eq_false (by decide), eq_false (by decide), eq_false (by decide), eq_false (by decide), eq_false (by decide), eq_false (by decide), eq_false (by decide), eq_false (by decide), eq_false (by decide), eq_false (by decide), eq_false (by decide), eq_false (by decide), eq_false (by decide), eq_false (by decide), eq_false (by decide), eq_false (by decide), eq_false (by decide), eq_false (by decide), eq_false (by decide), eq_false (by decide)⟩
abbrev Fs := List (Str × List Int)
inductive Dd where
 | write (n : Str) (c : List Int)
 | drop (n : Str)
 | move (n k : Str)
 | content (n : Str)
 | become (c : Fs)
def Dd.dat : Dd -> PyData
 | .write n c => .tuple [.str "write", .str n, eL eI c]
 | .drop n => .tuple [.str "drop", .str n]
 | .move n k => .tuple [.str "move", .str n, .str k]
 | .content n => .tuple [.str "content", .str n]
 | .become c => .tuple [.str "become", eD iS (eL eI) c]
def Dd.ok : Dd -> Prop
 | .write n c => GN n /\ GC c
 | .drop n => GN n
 | .move n k => GN n /\ GN k
 | .content n => GN n
 | .become c => GF c
def dueF (m : Fs) : Dd -> Option Ex
 | .write n _ => if (!(lk m n).isSome && decide (m.length = 8)) = true then some (.TooMany (.int 8)) else none
 | .drop n => if (lk m n).isSome = true then none else some (.NoFile (.str n))
 | .content n => if (lk m n).isSome = true then none else some (.NoFile (.str n))
 | .move n k => if (lk m n).isSome = true then (if (lk m k).isSome = true then some (.There (.str k)) else none) else some (.NoFile (.str n))
 | .become _ => none
def exD (x : Ex) : PyData := eP eS eA (x.cls, x.val)
def dueD (m : Fs) (d : Dd) : PyData := match dueF m d with
 | none => .none
 | some x => exD x
def doF (m : Fs) : Dd -> PyData × Fs
 | .write n c => (.none, pk m n c)
 | .drop n => (.none, dk m n)
 | .move n k => (.none, pk (dk m n) k ((lk m n).getD []))
 | .content n => (eL eI ((lk m n).getD []), m)
 | .become c => (.none, c)
def stF (m : Fs) (d : Dd) : Fs := match dueF m d with
 | none => (doF m d).2
 | some _ => m
def saidD (m : Fs) (d : Dd) : PyData := match dueF m d with
 | none => eP eS eA (("told" : Str), (doF m d).1)
 | some x => exD x
theorem len8 (m : Fs) : decide (((m.length : Nat) : Int) = 8) = decide (m.length = 8) := by
 congr 1
 exact propext ⟨λ h => by omega, λ h => by omega⟩
theorem due_ok {m : Fs} {d : Dd} {P : PyData -> Prop} (h : P (dueD m d)) : p_l_due m d.dat P := by
 unfold p_l_due jn
 cases d with
 | write n c =>
   refine ⟨[.str "write", .str n, eL eI c], rfl, (.str "write", .str n), rfl, _, rfl, ?_⟩
   unfold dueD dueF at h
   simp only [wds, decide_true, decide_false, len8, List.any_cons, List.any_nil, Bool.or_false, Bool.false_eq_true, if_false, if_true] at h ⊢
   refine ⟨n, rfl, ?_⟩
   cases e : lk m n with
   | none =>
     rw [e] at h
     simp only [Option.isSome, Bool.not_false, Bool.true_and, if_true] at h ⊢
     split
     · rename_i z
       rw [if_pos z] at h
       exact h
     · rename_i z
       rw [if_neg z] at h
       exact h
   | some x =>
     rw [e] at h
     simp only [Option.isSome, Bool.not_true, Bool.false_and, Bool.false_eq_true, if_false] at h ⊢
     exact h
 | drop n =>
   refine ⟨[.str "drop", .str n], rfl, (.str "drop", .str n), rfl, _, rfl, ?_⟩
   unfold dueD dueF at h
   simp only [wds, decide_true, decide_false, Bool.true_or, len8, List.any_cons, List.any_nil, Bool.or_false, Bool.false_eq_true, if_false, if_true] at h ⊢
   refine ⟨n, rfl, ?_⟩
   cases e : lk m n with
   | none =>
     rw [e] at h
     exact h
   | some x =>
     rw [e] at h
     exact h
 | content n =>
   refine ⟨[.str "content", .str n], rfl, (.str "content", .str n), rfl, _, rfl, ?_⟩
   unfold dueD dueF at h
   simp only [wds, decide_true, decide_false, Bool.true_or, Bool.or_true, Bool.false_or, len8, List.any_cons, List.any_nil, Bool.or_false, Bool.false_eq_true, if_false, if_true] at h ⊢
   refine ⟨n, rfl, ?_⟩
   cases e : lk m n with
   | none =>
     rw [e] at h
     exact h
   | some x =>
     rw [e] at h
     exact h
 | move n k =>
   refine ⟨[.str "move", .str n, .str k], rfl, (.str "move", .str n), rfl, _, rfl, ?_⟩
   unfold dueD dueF at h
   simp only [wds, decide_true, decide_false, Bool.true_or, Bool.or_true, Bool.false_or, len8, List.any_cons, List.any_nil, Bool.or_false, Bool.false_eq_true, if_false, if_true] at h ⊢
   refine ⟨n, rfl, ?_⟩
   cases e : lk m n with
   | none =>
     rw [e] at h
     exact h
   | some x =>
     rw [e] at h
     show ∃ x53, _
     refine ⟨.str k, rfl, k, rfl, ?_⟩
     cases e2 : lk m k with
     | none =>
       rw [e2] at h
       exact h
     | some y =>
       rw [e2] at h
       exact ⟨.str k, rfl, h⟩
 | become c =>
   refine ⟨[.str "become", eD iS (eL eI) c], rfl, (.str "become", eD iS (eL eI) c), rfl, _, rfl, ?_⟩
   unfold dueD dueF at h
   simp only [wds, decide_true, decide_false, Bool.true_or, Bool.or_true, Bool.false_or, len8, List.any_cons, List.any_nil, Bool.or_false, Bool.false_eq_true, if_false, if_true] at h ⊢
   exact h
theorem keys_map : ∀ {c : Fs}, (ks c).Nodup -> (ks c).map (λ n => (n, (lk c n).getD [])) = c
 | [], _ => rfl
 | q :: r, nd => by
   have nd' : (q.1 :: ks r).Nodup := nd
   obtain ⟨n1, n2⟩ := List.nodup_cons.mp nd'
   have e : ks (q :: r) = q.1 :: ks r := rfl
   rw [e, List.map_cons, lk_cons, if_pos rfl]
   congr 1
   refine Eq.trans (List.map_congr_left λ n hn => ?_) (keys_map n2)
   rw [lk_cons, if_neg (show ¬ q.1 = n from λ z => n1 (z ▸ hn))]
theorem mg_nil {c : Fs} (nd : (ks c).Nodup) : mgD [] c = c := by
 have := dOf_nd (m := c) (acc := []) (by simpa using nd)
 simpa [mgD] using this
theorem dOf_self {c : Fs} (nd : (ks c).Nodup) : dOf c = c := by
 have := dOf_nd (m := c) (acc := []) (by simpa using nd)
 simpa [dOf] using this
theorem do_ok {m : Fs} {d : Dd} {P : PyData -> Fs -> Prop} (g : GF m) (hok : d.ok) (hd : dueF m d = none) (h : P (doF m d).1 (doF m d).2) : p_l_do m d.dat P := by
 unfold p_l_do jn
 have hl := g.ln
 cases d with
 | write n c =>
   refine ⟨[.str "write", .str n, eL eI c], rfl, (.str "write", .str n), rfl, _, rfl, ?_⟩
   simp only [wds, decide_true, decide_false, Bool.false_eq_true, if_false, if_true]
   exact ⟨_, rfl, c, rfl, n, rfl, by omega, h⟩
 | drop n =>
   refine ⟨[.str "drop", .str n], rfl, (.str "drop", .str n), rfl, _, rfl, ?_⟩
   simp only [wds, decide_true, decide_false, Bool.false_eq_true, if_false, if_true]
   cases e : lk m n with
   | none =>
     simp [dueF, e] at hd
   | some x => exact ⟨n, rfl, x, e, h⟩
 | content n =>
   refine ⟨[.str "content", .str n], rfl, (.str "content", .str n), rfl, _, rfl, ?_⟩
   simp only [wds, decide_true, decide_false, Bool.false_eq_true, if_false, if_true]
   simp only [doF] at h
   cases e : lk m n with
   | none =>
     simp [dueF, e] at hd
   | some x =>
     rw [e] at h
     exact ⟨n, rfl, x, e, h⟩
 | move n k =>
   refine ⟨[.str "move", .str n, .str k], rfl, (.str "move", .str n), rfl, _, rfl, ?_⟩
   simp only [wds, decide_true, decide_false, Bool.false_eq_true, if_false, if_true]
   simp only [doF] at h
   cases e : lk m n with
   | none =>
     simp [dueF, e] at hd
   | some x =>
     rw [e] at h
     have : (dk m n).length <= m.length := List.length_filter_le _ _
     exact ⟨n, rfl, x, e, _, rfl, k, rfl, by omega, h⟩
 | become c =>
   refine ⟨[.str "become", eD iS (eL eI) c], rfl, (.str "become", eD iS (eL eI) c), rfl, _, rfl, ?_⟩
   simp only [wds, decide_true, decide_false, Bool.false_eq_true, if_false, if_true]
   have gc : GF c := hok
   have hc := gc.ln
   refine ⟨c, rfl, by rw [ks_len]; omega, lcD_map (λ n => (n, (lk c n).getD [])) (λ n hn kk hk => ?_) ?_⟩
   · obtain ⟨v, hv⟩ := lk_some hn
     rw [hv] at hk
     exact ⟨v, hv, hk⟩
   · rw [List.nil_append, keys_map gc.nd, dOf_self gc.nd, mg_nil gc.nd]
     exact ⟨by simp only [List.length_nil]; omega, h⟩
theorem need_ok {m : Fs} {n : Str} {X : Ex -> Prop} {P : Unit -> Prop} (h1 : lk m n = none -> X (.NoFile (.str n))) (h2 : ∀ x, lk m n = some x -> P ()) : p_House_need_file m n X P := by
 unfold p_House_need_file
 cases e : lk m n with
 | none => exact h1 e
 | some x => exact h2 x e
theorem are_contents_ok {c : Fs} {P : Bool -> Prop} (g : GF c) (h : P true) : p_are_contents (eD iS (eL eI) c) P := by
 unfold p_are_contents
 have hl := g.ln
 refine jn_ok (λ b => b = false) (λ k1 hk1 => ?_) λ b hb => ?_
 · rw [if_neg (by show ¬ (!true) = true; decide)]
   exact ⟨c, rfl, hk1 _ (by simp; omega)⟩
 subst hb
 rw [if_neg (by decide)]
 refine ⟨c, rfl, forD_inv (λ _ _ => True) (n := 0) trivial (λ i x s kk hx _ hk => ?_) λ _ _ => h⟩
 obtain ⟨v, hv⟩ := lk_some (List.mem_of_getElem? hx)
 obtain ⟨g1, g2⟩ := g.nm _ (lk_mem hv)
 refine jn_ok (λ b => b = false) (λ k1 hk1 => is_name_ok g1 ?_) λ b hb => ?_
 · rw [if_neg (by decide)]
   exact ⟨v, hv, is_content_ok g2 (hk1 _ rfl)⟩
 subst hb
 rw [if_neg (by decide)]
 exact hk () trivial
theorem become_ok {m c : Fs} {X : Ex -> Fs -> Prop} {P : Fs -> Prop} (g : GF c) (h : P c) : p_House_become m (eD iS (eL eI) c) X P := by
 unfold p_House_become p_wanted
 have hl := g.ln
 refine are_contents_ok g ?_
 rw [if_neg (by decide)]
 refine ⟨c, rfl, by rw [ks_len]; omega, dcD_nd (λ n => (lk c n).getD []) g.nd (λ x _ hz => by simp [ks] at hz) (λ x hx acc kk _ hk => ?_) ?_⟩
 · obtain ⟨v, hv⟩ := lk_some hx
   rw [hv] at hk
   exact ⟨v, hv, hk⟩
 · rw [List.nil_append, keys_map g.nd]
   exact h
theorem call_ok {m : Fs} {d : Dd} {X : Ex -> Fs -> Prop} {P : PyData -> Fs -> Prop} (g : GF m) (hd : d.ok) (h : match dueF m d with | none => P (doF m d).1 (doF m d).2 | some x => X x m) : p_l_call m d.dat X P := by
 unfold p_l_call
 have hl := g.ln
 cases d with
 | write n c =>
   refine ⟨_, rfl, ("write" : Str), rfl, ?_⟩
   simp only [wds, decide_true, decide_false, Bool.false_eq_true, if_false, if_true]
   refine ⟨_, rfl, _, rfl, n, rfl, c, rfl, ?_⟩
   unfold p_House_write p_wanted
   refine is_name_ok hd.1 ?_
   rw [if_neg (by decide)]
   refine is_content_ok hd.2 ?_
   rw [if_neg (by decide), len8]
   simp only [dueF] at h
   split
   · rename_i z
     rw [if_pos z] at h
     exact h
   · rename_i z
     rw [if_neg z] at h
     exact ⟨by omega, h⟩
 | drop n =>
   refine ⟨_, rfl, ("drop" : Str), rfl, ?_⟩
   simp only [wds, decide_true, decide_false, Bool.false_eq_true, if_false, if_true]
   refine ⟨_, rfl, ("drop" : Str), rfl, ?_⟩
   rw [if_pos (by decide)]
   refine ⟨_, rfl, n, rfl, ?_⟩
   unfold p_House_drop p_wanted
   refine is_name_ok hd ?_
   rw [if_neg (by decide)]
   simp only [dueF] at h
   refine need_ok (λ e => ?_) λ x e => ?_
   · rw [e] at h
     exact h
   · rw [e] at h
     exact ⟨x, e, h⟩
 | move n k =>
   refine ⟨_, rfl, ("move" : Str), rfl, ?_⟩
   simp only [wds, decide_true, decide_false, Bool.false_eq_true, if_false, if_true]
   refine ⟨_, rfl, ("move" : Str), rfl, ?_⟩
   rw [if_neg (by decide)]
   refine ⟨_, rfl, ("move" : Str), rfl, ?_⟩
   rw [if_pos (by decide)]
   refine ⟨_, rfl, _, rfl, n, rfl, k, rfl, ?_⟩
   unfold p_House_move p_wanted
   refine is_name_ok hd.1 ?_
   rw [if_neg (by decide)]
   refine is_name_ok hd.2 ?_
   rw [if_neg (by decide)]
   simp only [dueF, doF] at h
   refine need_ok (λ e => ?_) λ x e => ?_
   · rw [e] at h
     exact h
   · simp only [e, Option.isSome, if_true] at h
     have : (dk m n).length <= m.length := List.length_filter_le _ _
     cases e2 : lk m k with
     | none =>
       rw [e2] at h
       exact ⟨x, e, by omega, h⟩
     | some y =>
       rw [e2] at h
       exact h
 | content n =>
   refine ⟨_, rfl, ("content" : Str), rfl, ?_⟩
   simp only [wds, decide_true, decide_false, Bool.false_eq_true, if_false, if_true]
   refine ⟨_, rfl, ("content" : Str), rfl, ?_⟩
   rw [if_neg (by decide)]
   refine ⟨_, rfl, ("content" : Str), rfl, ?_⟩
   rw [if_neg (by decide)]
   refine ⟨_, rfl, ("content" : Str), rfl, ?_⟩
   rw [if_neg (by decide)]
   refine ⟨_, rfl, n, rfl, ?_⟩
   unfold p_House_content p_wanted
   refine is_name_ok hd ?_
   rw [if_neg (by decide)]
   simp only [dueF, doF] at h
   refine need_ok (λ e => ?_) λ x e => ?_
   · rw [e] at h
     exact h
   · simp only [e, Option.isSome, if_true] at h
     exact ⟨x, e, h⟩
 | become c =>
   refine ⟨_, rfl, ("become" : Str), rfl, ?_⟩
   simp only [wds, decide_true, decide_false, Bool.false_eq_true, if_false, if_true]
   refine ⟨_, rfl, ("become" : Str), rfl, ?_⟩
   rw [if_neg (by decide)]
   refine ⟨_, rfl, ("become" : Str), rfl, ?_⟩
   rw [if_neg (by decide)]
   refine ⟨_, rfl, ("become" : Str), rfl, ?_⟩
   rw [if_pos (by decide)]
   exact ⟨_, rfl, become_ok hd h⟩
theorem said_ok {m : Fs} {d : Dd} {P : PyData -> Fs -> Prop} (g : GF m) (hd : d.ok) (h : P (saidD m d) (stF m d)) : p_l_said m d.dat P := by
 unfold p_l_said jn
 refine call_ok g hd ?_
 unfold saidD stF at h
 cases e : dueF m d with
 | none =>
   rw [e] at h
   exact h
 | some x =>
   rw [e] at h
   unfold p_l_refused
   cases x <;> exact h
theorem lk_good {m : Fs} {n : Str} (g : GF m) : GC ((lk m n).getD []) := by
 cases e : lk m n with
 | none => exact ⟨by decide, λ _ h => nomatch h⟩
 | some x => exact (g.nm _ (lk_mem e)).2
theorem cls_wd (x : Ex) : wdb x.cls = true := by
 cases x with
 | Wrong w => exact (show wdb ("Wrong" : Str) = true by decide +kernel)
 | TooMany w => exact (show wdb ("TooMany" : Str) = true by decide +kernel)
 | NoFile w => exact (show wdb ("NoFile" : Str) = true by decide +kernel)
 | There w => exact (show wdb ("There" : Str) = true by decide +kernel)
theorem due_small {m : Fs} {d : Dd} {x : Ex} (hd : d.ok) (h : dueF m d = some x) : Shn 0 200 x.val := by
 have i8 : Shn 0 200 (.int 8) := (Shn.int (n := 8) 3 (by decide) (by decide) (by decide)).up (Nat.le_refl _) (by decide)
 have nm : ∀ s : Str, GN s -> Shn 0 200 (.str s) := λ s g => g.shn.up (Nat.le_refl _) (by decide)
 cases d with
 | write n c =>
   simp only [dueF] at h
   split at h
   · cases h
     exact i8
   · cases h
 | drop n =>
   simp only [dueF] at h
   split at h
   · cases h
   · cases h
     exact nm _ hd
 | content n =>
   simp only [dueF] at h
   split at h
   · cases h
   · cases h
     exact nm _ hd
 | move n k =>
   simp only [dueF] at h
   split at h
   · split at h
     · cases h
       exact nm _ hd.2
     · cases h
   · cases h
     exact nm _ hd.1
 | become c => cases h
theorem GC_shn {c : List Int} (g : GC c) : Shn 1 20000 (eL eI c) := (g.shq.shn).up (Nat.le_refl _) (by decide)
theorem pair_shn {s : Str} {d : PyData} (hs : wdb s = true) (hd : Shn 1 20000 d) : AlkOk (eP eS eA (s, d)) :=
 (Shn.tup (ShnA.cons ((Shn.wd hs).up (Nat.zero_le 1) (Nat.le_refl _)) (ShnA.cons hd (ShnA.nil.up (Nat.zero_le 1) (Nat.le_refl _))))).alk (by decide) (by decide)
theorem said_alk {m : Fs} {d : Dd} (g : GF m) (hd : d.ok) : AlkOk (saidD m d) := by
 unfold saidD
 cases e : dueF m d with
 | some x => exact pair_shn (cls_wd x) ((due_small hd e).up (Nat.zero_le 1) (by decide))
 | none =>
   have nn : Shn 1 20000 .none := Shn.non.up (Nat.zero_le 1) (by decide)
   refine pair_shn (by decide +kernel) ?_
   cases d with
   | content n => exact GC_shn (lk_good g)
   | _ => exact nn
theorem dk_good {m : Fs} {n : Str} (g : GF m) : GF (dk m n) := by
 refine ⟨?_, λ q hq => g.nm q (List.mem_filter.mp hq).1, Nat.le_trans (List.length_filter_le _ _) g.ln⟩
 exact List.Nodup.sublist (List.Sublist.map _ List.filter_sublist) g.nd
theorem dk_less {m : Fs} {n : Str} {x : List Int} (h : lk m n = some x) : (dk m n).length < m.length := by
 unfold dk
 rcases Nat.lt_or_ge (m.filter λ p => decide (p.1 ≠ n)).length m.length with z | z
 · exact z
 · have e := List.length_filter_eq_length_iff.mp (Nat.le_antisymm (List.length_filter_le _ _) z)
   have := e _ (lk_mem h)
   simp at this
theorem st_good {m : Fs} {d : Dd} (g : GF m) (hd : d.ok) : GF (stF m d) := by
 unfold stF
 cases e : dueF m d with
 | some x => exact g
 | none =>
   cases d with
   | write n c =>
     refine g.put hd.1 hd.2 ?_
     simp only [dueF] at e
     split at e
     · cases e
     · rename_i z
       cases e2 : lk m n with
       | some y => exact .inl rfl
       | none =>
         refine .inr ?_
         have := g.ln
         rw [e2] at z
         simp at z
         omega
   | drop n => exact dk_good g
   | content n => exact g
   | move n k =>
     simp only [dueF] at e
     split at e
     · rename_i z
       obtain ⟨x, hx⟩ := Option.isSome_iff_exists.mp z
       refine (dk_good g).put hd.2 (lk_good g) (.inr ?_)
       have := dk_less hx
       have := g.ln
       omega
     · cases e
   | become c => exact hd
theorem st_due {m : Fs} {d : Dd} {x : Ex} (h : dueF m d = some x) : stF m d = m := by
 unfold stF
 rw [h]
theorem name_due {m : Fs} {d : Dd} {x : Ex} (hd : d.ok) (h : dueF m d = some x) : ∃ n : Str, anyAt d.dat 1 = some (.str n) /\ GN n := by
 cases d with
 | write n c => exact ⟨n, rfl, hd.1⟩
 | drop n => exact ⟨n, rfl, hd⟩
 | move n k => exact ⟨n, rfl, hd.1⟩
 | content n => exact ⟨n, rfl, hd⟩
 | become c => cases h
theorem lcS_all {f : Int -> Fs -> (Option Bool -> Fs -> Prop) -> Prop} {m : Fs} {k : List Bool -> Fs -> Prop} (hf : ∀ x kk, kk (some true) m -> f x m kk) : ∀ {xs : List Int} {acc : List Bool}, (∀ b ∈ acc, b = true) -> (∀ ys : List Bool, (∀ b ∈ ys, b = true) -> k ys m) -> lcS f xs m acc k
 | [], acc, ha, h => h acc ha
 | x :: xs, acc, ha, h => by
   refine hf x _ (lcS_all hf (λ b hb => ?_) h)
   rcases List.mem_append.mp hb with hb | hb
   · exact ha b hb
   · simpa using hb
theorem all_id {ys : List Bool} (h : ∀ b ∈ ys, b = true) : ys.all id = true := List.all_eq_true.mpr h
theorem step_ok {m : Fs} {d : Dd} {P : Bool -> Fs -> Fs -> Prop} (g : GF m) (hd : d.ok) (h : P true (stF m d) (stF m d)) : p_l_step m m d.dat P := by
 unfold p_l_step
 refine due_ok ?_
 unfold jn
 cases e : dueF m d with
 | none =>
   have e1 : dueD m d = .none := by unfold dueD; rw [e]
   rw [e1]
   show if (!isNo PyData.none) = true then _ else _
   rw [if_neg (by decide)]
   show if (isNo PyData.none) = true then _ else _
   rw [if_pos (by decide)]
   refine do_ok g hd e ?_
   rw [if_neg (by decide)]
   refine ⟨by decide, by decide, ?_⟩
   show lcS _ [0] m [] _
   simp only [lcS]
   refine said_ok g hd ⟨⟨?_, said_alk g hd⟩, ?_⟩
   · show saidD m d = _
     unfold saidD
     rw [e]
     rfl
   · show P true (stF m d) (doF m d).2
     have : (doF m d).2 = stF m d := by unfold stF; rw [e]
     rw [this]
     exact h
 | some x =>
   have e1 : dueD m d = exD x := by unfold dueD; rw [e]
   have e2 : saidD m d = exD x := by unfold saidD; rw [e]
   obtain ⟨n, at1, nm⟩ := name_due hd e
   rw [e1]
   show if (!isNo (exD x)) = true then _ else _
   rw [if_pos (by cases x <;> rfl)]
   refine ⟨_, at1, _, rfl, by have := nm.2.1; omega, by decide, ?_⟩
   show if (isNo (exD x)) = true then _ else _
   rw [if_neg (by cases x <;> exact Bool.false_ne_true)]
   rw [st_due e] at h
   have fin : ∀ t : Int, 1 <= t -> t <= 2 -> ((-(2 ^ 62) : Int) <= t /\ t < (2 ^ 62 : Int)) /\ (rng t).length <= 100000 /\ lcS (λ (x51 : Int) (s59 : Fs) (k58 : Option Bool -> Fs -> Prop) => p_l_said s59 d.dat λ x62 m63 => ((eA x62) = (eA (exD x)) /\ AlkOk (eA x62)) /\ k58 (some true) m63) (rng t) m [] λ acc48 s59 => P (acc48.all id) s59 m := by
     intro t h1 h2
     refine ⟨by omega, by rw [rng_len]; omega, lcS_all (λ y kk hk => said_ok g hd ⟨⟨e2, said_alk g hd⟩, ?_⟩) (λ _ z => nomatch z) λ ys hy => ?_⟩
     · rw [st_due e]
       exact hk
     · rw [all_id hy]
       exact h
   split
   · exact fin 2 (by decide) (by decide)
   · exact fin 1 (by decide) (by decide)
theorem any_ok {xs : List Str} {P : Str -> Prop} (h : ∀ x ∈ xs, P x) (h1 : 0 < xs.length) (h2 : xs.length < 1000) : p_l_any xs P := by
 unfold p_l_any
 refine tk (by omega) λ v lv uv => ?_
 obtain ⟨x, hx, e⟩ := atI_ex (xs := xs) lv uv
 exact ⟨x, e, h x hx⟩
theorem dOf_goodF : ∀ (ps acc : Fs), GF acc -> acc.length + ps.length <= 8 -> (∀ q ∈ ps, GN q.1 /\ GC q.2) -> GF (ps.foldl (λ acc q => pk acc q.1 q.2) acc)
 | [], acc, g, _, _ => g
 | q :: ps, acc, g, hl, h => by
   rw [List.length_cons] at hl
   obtain ⟨h1, h2⟩ := h q List.mem_cons_self
   refine dOf_goodF ps _ (g.put h1 h2 (.inr (by omega))) ?_ λ r hr => h r (List.mem_cons_of_mem _ hr)
   have h3 := pk_len acc q.1 q.2
   show (pk acc q.1 q.2).length + ps.length <= 8
   omega
theorem deed_ok {ns : List Str} {P : PyData -> Prop} (hl : ns.length = 8) (hg : ∀ s ∈ ns, GN s) (h : ∀ d : Dd, d.ok -> P d.dat) : p_l_deed ns P := by
 unfold p_l_deed
 refine any_ok (λ w hw => any_ok (λ y hy => ?_) (by omega) (by omega)) (by decide) (by decide)
 have gy := hg y hy
 have hw2 : w = "write" \/ w = "drop" \/ w = "move" \/ w = "content" \/ w = "become" := by
   simp only [List.mem_cons, List.not_mem_nil, or_false] at hw
   rcases hw with h | h | h | h | h | h | h | h
   · exact .inl h
   · exact .inl h
   · exact .inl h
   · exact .inr (.inl h)
   · exact .inr (.inr (.inl h))
   · exact .inr (.inr (.inl h))
   · exact .inr (.inr (.inr (.inl h)))
   · exact .inr (.inr (.inr (.inr h)))
 rcases hw2 with rfl | rfl | rfl | rfl | rfl
 · rw [if_pos (by decide)]
   exact content_ok λ c gc => h (.write y c) ⟨gy, gc⟩
 · rw [if_neg (by decide), if_neg (by decide), if_neg (by decide)]
   exact h (.drop y) gy
 · rw [if_neg (by decide), if_pos (by decide)]
   exact any_ok (λ z hz => h (.move y z) ⟨gy, hg z hz⟩) (by omega) (by omega)
 · rw [if_neg (by decide), if_neg (by decide), if_neg (by decide)]
   exact h (.content y) gy
 · rw [if_neg (by decide), if_neg (by decide), if_pos (by decide)]
   refine tk (by omega) λ a la ua => tk (by decide) λ b lb ub => tk (by decide) λ t lt ut => ?_
   obtain ⟨s, hs, es⟩ := atI_ex (xs := ([1, -1] : List Int)) lt (by simpa using ut)
   have hs2 : s = 1 \/ s = -1 := by simpa using hs
   refine ⟨s, es, hs2, ?_⟩
   have hm : ∀ x ∈ stepL (cutL (cutL ns (some a) none) none (some b)) s, x ∈ ns := λ x hx => by
     have h1 : x ∈ cutL (cutL ns (some a) none) none (some b) := by
       unfold stepL at hx
       split at hx
       · exact hx
       · exact List.mem_reverse.mp hx
     exact List.mem_of_mem_drop (List.mem_of_mem_take (List.mem_of_mem_drop (List.mem_of_mem_take h1)))
   have hll : (stepL (cutL (cutL ns (some a) none) none (some b)) s).length <= 8 := by
     have h1 : (stepL (cutL (cutL ns (some a) none) none (some b)) s).length = (cutL (cutL ns (some a) none) none (some b)).length := by
       unfold stepL
       split
       · rfl
       · exact List.length_reverse
     rw [h1, cut_hi lb, List.length_take]
     omega
   refine ⟨by omega, lcD_all (λ q : Str × List Int => GN q.1 /\ GC q.2) (λ x hx kk hk => content_ok λ c gc => hk (x, c) ⟨hg x (hm x hx), gc⟩) (λ _ h => nomatch h) λ ys hy hyl => ?_⟩
   have : GF (dOf ys) := dOf_goodF ys [] GF.nil (by rw [hyl]; simp only [List.length_nil]; omega) hy
   exact h (.become (dOf ys)) this
theorem dEq_iff {κ α : Type} [DecidableEq κ] [DecidableEq α] {m n : List (κ × α)} (nm : (ks m).Nodup) (nn : (ks n).Nodup) : dEq m n = true ↔ ∀ k, lk m k = lk n k := by
 unfold dEq
 rw [Bool.and_eq_true, List.all_eq_true]
 constructor
 · rintro ⟨hl, h⟩ k
   have hl : m.length = n.length := by simpa using hl
   have sub : ∀ x ∈ ks m, x ∈ ks n := λ x hx => by
     obtain ⟨v, hv⟩ := lk_some hx
     have := of_decide_eq_true (h _ (lk_mem hv))
     exact lk_iff.mp (by rw [this]; rfl)
   cases e : lk m k with
   | some v => exact (of_decide_eq_true (h _ (lk_mem e))).symm
   | none =>
     cases e2 : lk n k with
     | none => rfl
     | some v =>
       have h1 := nd_le (List.nodup_cons.mpr ⟨lk_none_iff.mp e, nm⟩) λ x hx => by
         rcases List.mem_cons.mp hx with rfl | y
         · exact lk_iff.mp (show (lk n x).isSome = true by rw [e2]; rfl)
         · exact sub x y
       rw [List.length_cons, ks_len, ks_len] at h1
       omega
 · intro h
   have h1 := nd_le nm λ x hx => lk_iff.mp (show (lk n x).isSome = true by rw [<- h]; exact lk_iff.mpr hx)
   have h2 := nd_le nn λ x hx => lk_iff.mp (show (lk m x).isSome = true by rw [h]; exact lk_iff.mpr hx)
   rw [ks_len, ks_len] at h1 h2
   refine ⟨by simp; omega, λ p hp => decide_eq_true ?_⟩
   rw [<- h]
   exact lk_of_mem nm hp
def Al (m n : Fs) : Prop := ∀ k, lk m k = lk n k
theorem al_srt {m n : Fs} (g : GF m) (h : GF n) (e : Al m n) : srtS' (ks m) = srtS' (ks n) := by
 have p : (ks m).Perm (ks n) := (List.perm_ext_iff_of_nodup g.nd h.nd).mpr λ a => by rw [<- lk_iff, <- lk_iff, e]
 exact pwS_eq ((srtS_perm _).trans (p.trans (srtS_perm _).symm)) (srtS_pw _) (srtS_pw _)
theorem al_cont {m n : Fs} (g : GF m) (h : GF n) (e : Al m n) : cont m = cont n := by
 unfold cont
 rw [al_srt g h e]
 exact List.map_congr_left λ x _ => by rw [e x]
theorem al_len {m n : Fs} (g : GF m) (h : GF n) (e : Al m n) : m.length = n.length := by
 have := congrArg List.length (al_srt g h e)
 rw [srt_len, srt_len, ks_len, ks_len] at this
 exact this
theorem al_mem {m n : Fs} (g : (ks m).Nodup) (h : (ks n).Nodup) (e : ∀ p, p ∈ m ↔ p ∈ n) : Al m n := λ k => by
 refine Option.ext λ v => ⟨λ z => ?_, λ z => ?_⟩
 · exact lk_of_mem h ((e (k, v)).mp (lk_mem z))
 · exact lk_of_mem g ((e (k, v)).mpr (lk_mem z))
theorem mem_cont {m : Fs} (g : GF m) (p : Str × List Int) : p ∈ cont m ↔ p ∈ m := by
 unfold cont
 rw [List.mem_map]
 constructor
 · rintro ⟨x, hx, rfl⟩
   obtain ⟨v, hv⟩ := lk_some (srt_mem hx)
   rw [hv]
   exact lk_mem hv
 · intro hp
   refine ⟨p.1, (srtS_perm _).mem_iff.mpr (List.mem_map.mpr ⟨p, hp, rfl⟩), ?_⟩
   rw [lk_of_mem g.nd hp]
   rfl
theorem cont_al {m : Fs} (g : GF m) : Al (cont m) m := al_mem (cont_good g).nd g.nd (mem_cont g)
theorem rev_good {m : Fs} (g : GF m) : GF m.reverse := by
 refine ⟨?_, λ q hq => g.nm q (List.mem_reverse.mp hq), by rw [List.length_reverse]; exact g.ln⟩
 have : ks m.reverse = (ks m).reverse := List.map_reverse
 rw [this]
 exact (List.reverse_perm _).nodup_iff.mpr g.nd
theorem rev_al {m : Fs} (g : GF m) : Al m.reverse m := al_mem (rev_good g).nd g.nd λ p => List.mem_reverse
theorem same2_ok {m n : Fs} {P : Bool -> Prop} (g : GF m) (g2 : GF n) (e : Al m n) (h : P true) : p_l_same m n P := by
 unfold p_l_same p_House_names_of p_House___len__
 have hl := g.ln
 have hl2 := g2.ln
 have hk : (ks m).length < 64 := by rw [ks_len]; omega
 have hk2 : (ks n).length < 64 := by rw [ks_len]; omega
 refine ⟨hk, contents_ok g ⟨by omega, hk2, hk2, by rw [srt_len]; omega, ?_⟩⟩
 refine lcD_map (λ x => (x, (lk n x).getD [])) (λ x hx kk hkk => ?_) ?_
 · obtain ⟨y, hy⟩ := lk_some (srt_mem hx)
   rw [hy] at hkk
   exact ⟨y, hy, hkk⟩
 · rw [List.nil_append]
   have e1 : dOf ((srtS' (ks n)).map λ x => (x, (lk n x).getD [])) = cont n := dOf_cont g2
   rw [e1, <- al_srt g g2 e, <- al_cont g g2 e, <- al_len g g2 e]
   refine ⟨⟨rfl, ?_⟩, h⟩
   have hd := dict_shq (cont_good g).nd (cont_good g).nm
   have hc := (cont_good g).ln
   have sl : ShQ 3 1500 (.list [eL eS (srtS' (ks m)), eD iS (eL eI) (cont m), eI (m.length : Int)]) := by
     refine (ShQ.list (dp := 2) (bk := 464) λ d hd' => ?_).up (Nat.le_refl _) (by simp)
     simp only [List.mem_cons, List.not_mem_nil, or_false] at hd'
     rcases hd' with rfl | rfl | rfl
     · exact (strs_shq (names_good g) (by rw [srt_len, ks_len]; exact hl)).up (by decide) (by decide)
     · exact hd.up (Nat.le_refl _) (by omega)
     · exact (ShQ.int (Nat.lt_of_lt_of_le (show ((m.length : Int)).natAbs < 2 ^ 10 by omega) (by decide))).up (by decide) (by decide)
   exact sl.alk (by decide) (by decide)
theorem bools_alk (bs : List Bool) (h : bs.length <= 10) : AlkOk ((eL eB) bs) := (ShQ.list (dp := 0) (bk := 0) (ds := bs.map eB) (λ d hd => by
 obtain ⟨b, _, rfl⟩ := List.mem_map.mp hd
 exact ShQ.bl b)).alk (by decide) (by rw [List.length_map]; omega)
theorem eq_t {m n : Fs} (g : GF m) (h : GF n) (e : Al m n) : dEq m n = true := (dEq_iff g.nd h.nd).mpr e
theorem eq_f {m n : Fs} (g : GF m) (h : GF n) (e : ¬ Al m n) : dEq m n = false := by
 cases z : dEq m n with
 | false => rfl
 | true => exact absurd ((dEq_iff g.nd h.nd).mp z) e
theorem Al.symm {m n : Fs} (e : Al m n) : Al n m := λ k => (e k).symm
theorem Al.trans {m n p : Fs} (e : Al m n) (h : Al n p) : Al m p := λ k => (e k).trans (h k)
theorem Al.refl (m : Fs) : Al m m := λ _ => rfl
theorem equal_ok {m n : Fs} {b : Bool} {P : Bool -> Prop} (h1 : dEq m n = b) (h2 : dEq n m = b) (h : P true) : p_l_equal m n b P := by
 unfold p_l_equal p_House___eq__
 rw [h1, h2]
 exact ⟨⟨rfl, bools_alk _ (by simp)⟩, h⟩
theorem equals_ok {m : Fs} {b : Bool} {P : Bool -> Prop} (g : GF m) (hb : b = true) (h : P true) : p_l_equal_s m b P := by
 subst hb
 unfold p_l_equal_s p_House___eq___s
 rw [eq_t g g (Al.refl m)]
 exact ⟨⟨rfl, bools_alk _ (by simp)⟩, h⟩
theorem copied_ok {m : Fs} {X : Ex -> Prop} {P : Fs -> Prop} (g : GF m) (h : P (cont m)) : p_House_copied m X P := by
 unfold p_House_copied p_House___init__
 exact contents_ok g (become_ok (cont_good g) h)
theorem are_contents_o_ok {c : Fs} {P : Bool -> Prop} (g : GF c) (h : P true) : p_are_contents_o c P := by
 unfold p_are_contents_o
 have hl := g.ln
 rw [if_neg (by simp; omega)]
 refine forD_inv (λ _ _ => True) (n := 0) trivial (λ i x s kk hx _ hk => ?_) λ _ _ => h
 obtain ⟨v, hv⟩ := lk_some (List.mem_of_getElem? hx)
 obtain ⟨g1, g2⟩ := g.nm _ (lk_mem hv)
 refine jn_ok (λ b => b = false) (λ k1 hk1 => is_name_ok g1 ?_) λ b hb => ?_
 · rw [if_neg (by decide)]
   exact ⟨v, hv, is_content_ok g2 (hk1 _ rfl)⟩
 subst hb
 rw [if_neg (by decide)]
 exact hk () trivial
theorem become_o_ok {m c : Fs} {X : Ex -> Fs -> Prop} {P : Fs -> Prop} (g : GF c) (h : P c) : p_House_become_o m c X P := by
 unfold p_House_become_o p_wanted
 have hl := g.ln
 refine are_contents_o_ok g ?_
 rw [if_neg (by decide)]
 refine ⟨by rw [ks_len]; omega, dcD_nd (λ n => (lk c n).getD []) g.nd (λ x _ hz => by simp [ks] at hz) (λ x hx acc kk _ hk => ?_) ?_⟩
 · obtain ⟨v, hv⟩ := lk_some hx
   rw [hv] at hk
   exact ⟨v, hv, hk⟩
 · rw [List.nil_append, keys_map g.nd]
   exact h
theorem write_ok {s : Fs} {n : Str} {c : List Int} {X : Ex -> Fs -> Prop} {P : Fs -> Prop} (hn : GN n) (hc : GC c) (hl : s.length <= 8) (hs : (lk s n).isSome = true) (h : P (pk s n c)) : p_House_write s n c X P := by
 unfold p_House_write p_wanted
 refine is_name_ok hn ?_
 rw [if_neg (by decide)]
 refine is_content_ok hc ?_
 rw [if_neg (by decide), hs, if_neg (by simp)]
 exact ⟨by omega, h⟩
theorem drop_ok {s : Fs} {n : Str} {v : List Int} {X : Ex -> Fs -> Prop} {P : Fs -> Prop} (hn : GN n) (hs : lk s n = some v) (h : P (dk s n)) : p_House_drop s n X P := by
 unfold p_House_drop p_wanted
 refine is_name_ok hn ?_
 rw [if_neg (by decide)]
 refine need_ok (λ e => ?_) λ x e => ⟨x, e, h⟩
 rw [hs] at e
 cases e
theorem move_ok {s : Fs} {n k : Str} {v : List Int} {X : Ex -> Fs -> Prop} {P : Fs -> Prop} (hn : GN n) (hk : GN k) (hl : s.length <= 8) (hs : lk s n = some v) (hs2 : lk s k = none) (h : P (pk (dk s n) k v)) : p_House_move s n k X P := by
 unfold p_House_move p_wanted
 refine is_name_ok hn ?_
 rw [if_neg (by decide)]
 refine is_name_ok hk ?_
 rw [if_neg (by decide)]
 refine need_ok (λ e => ?_) λ x e => ?_
 · rw [hs] at e
   cases e
 · rw [hs2, if_neg (by decide)]
   rw [hs] at e
   cases e
   have : (dk s n).length <= s.length := List.length_filter_le _ _
   exact ⟨_, hs, by omega, h⟩
theorem spoilt {c : List Int} {n v : Int} (g : GC c) (h0 : 0 <= n) (hv : atI (cat c [0]) n = some v) (h1 : n < 1 \/ n < c.length) : GC (cat (cat (cutL c none (some n)) [1 + v % 999]) (cutL c (some (n + 1)) none)) /\ c ≠ cat (cat (cutL c none (some n)) [1 + v % 999]) (cutL c (some (n + 1)) none) := by
 rw [cut_hi h0, cut_lo (by omega)]
 have hc := g.1
 obtain ⟨j, hj, hx⟩ := atI_get hv
 have hjn : j = n.toNat := by
   unfold ixN at hj
   rw [if_pos h0] at hj
   split at hj
   · exact (Option.some.inj hj).symm
   · cases hj
 subst hjn
 have hcat : ∀ a b : List Int, cat a b = a ++ b := λ a b => rfl
 simp only [hcat] at hx ⊢
 have s1 : 0 <= v % 999 := Int.emod_nonneg _ (by decide)
 have s2 : v % 999 < 999 := Int.emod_lt_of_pos _ (by decide)
 refine ⟨⟨?_, λ x hx => ?_⟩, λ e => ?_⟩
 · simp only [List.length_append, List.length_take, List.length_drop, List.length_cons, List.length_nil]
   omega
 · rcases List.mem_append.mp hx with hx | hx
   · rcases List.mem_append.mp hx with hx | hx
     · exact g.2 x (List.mem_of_mem_take hx)
     · have : x = 1 + v % 999 := by simpa using hx
       omega
   · exact g.2 x (List.mem_of_mem_drop hx)
 · by_cases z : n.toNat < c.length
   · have e2 := congrArg (λ l => l[n.toNat]?) e
     rw [List.getElem?_append_left z] at hx
     rw [List.append_assoc, List.getElem?_append_right (by rw [List.length_take]; omega), List.length_take, Nat.min_eq_left (by omega), Nat.sub_self, hx] at e2
     have e3 : v = 1 + v % 999 := Option.some.inj e2
     have := g.2 v (List.mem_of_getElem? hx)
     omega
   · have := congrArg List.length e
     simp only [List.length_append, List.length_take, List.length_drop, List.length_cons, List.length_nil] at this
     omega
theorem u_bag {K : Fr} {Rs : List Res} {H : Hp} {a : Addr} {ns : List Int} {Q : VK} {E : XK} (S : M Rs H) (h : Ent Rs (λ H => SqL K H a (ns.map V.int))) (hl : ns.length <= 63) (k : ∀ bag H', M (bagR bag :: Rs) H' -> Q (.ref bag) H') :
   sp_l_bag K ([.ref a] ++ []) H Q E := ⟨Rs, a, ns, rfl, S, h, hl, k⟩
def sp_law (K : Fr) : Sp := λ vs H Q _ => ∃ (a : Addr) (ns : List Int), vs = [.ref a] /\ SqL K H a (ns.map V.int) /\ ns.length <= 63 /\ ∀ H', Q (.bl true) H'
theorem len_law {K : Fr} (vs : List V) (H : Hp) (Q : VK) (E : XK) (h : sp_law K vs H Q E) : vs.length = 1 := by
 obtain ⟨x, y, rfl, _⟩ := h
 rfl
theorem law_start (K : Fr) (H : Hp) (a : Addr) (ns : List Int) (hl : ns.length <= 63) (hS : SqL K H a (ns.map V.int)) : sp_law K [.ref a] H (λ v _ => v = .bl true) λ _ _ _ => False := ⟨a, ns, rfl, hS, hl, λ _ => rfl⟩
def p_law (P : Bool -> Prop) : Prop := p_l_names 8 λ x1 => p_House___init__ λ m12 => takeD 10 λ n22 => ((-(2 ^ 62) : Int) <= (1 + n22) /\ (1 + n22) < (2 ^ 62 : Int)) /\ forD (λ (x29 : Int) (s26 : ((List (Str × (List Int)))) × (List (Str × (List Int)))) (k27 : (((List (Str × (List Int)))) × (List (Str × (List Int)))) -> Prop) => p_l_deed x1 λ x36 => p_l_step s26.1 s26.2 x36 λ x42 m43 m44 => if (!x42) = true then (P false) else (k27 (m43, m44))) (rng (1 + n22)) (m12, ([] : (List (Str × (List Int))))) λ s26 => p_House_copied s26.1 (λ x55 => False) λ x50 => p_House___init__ λ m68 => (ks s26.2).length < 64 /\ ((srtS' (ks s26.2)).reverse).length <= 100000 /\ lcD (λ (x89 : Str) (k94 : Option (Str × (List Int)) -> Prop) => ∃ x97, lk s26.2 x89 = some x97 /\ k94 (some (x89, x97))) ((srtS' (ks s26.2)).reverse) [] λ acc86 => (ks acc86).Nodup /\ p_House_become_o m68 acc86 (λ x136 m135 => False) λ m131 => (ks s26.2).length < 64 /\ forD (λ (x151 : Str) (s148 : (List (Str × (List Int)))) (k149 : ((List (Str × (List Int)))) -> Prop) => ∃ x156, lk s148 x151 = some x156 /\ (x156).length < 100000 /\ k149 (pk s148 x151 (sno x156 3))) (srtS' (ks s26.2)) acc86 λ s148 => (s148).length < 100000 /\ jn (λ k203 => p_l_equal_s s26.1 true λ x205 => if x205 = true then (p_l_same s26.1 s26.2 λ x209 => k203 x209) else (k203 false)) λ c199 => jn (λ k223 => p_l_equal x50 s26.1 true λ x225 => if x225 = true then (p_l_same x50 s26.2 λ x229 => k223 x229) else (k223 false)) λ c219 => jn (λ k242 => p_l_equal m131 s26.1 true λ x244 => if x244 = true then (p_l_same m131 s26.2 λ x248 => k242 x248) else (k242 false)) λ c238 => if (!((([c199, c219, c238] : List Bool)).all id)) = true then (P false) else ((ks s26.2).length < 64 /\ forD (λ (x292 : PyData) (s289 : Unit) (k290 : (Unit) -> Prop) => p_House___eq___a s26.1 x292 λ x301 => p_House___eq___a s26.1 x292 λ x308 => p_House___init__ λ m318 => p_House___eq___a m318 x292 λ x326 => (((eL eB) ([x301, (!x308), x326])) = ((eL eB) ([false, true, false])) /\ AlkOk ((eL eB) ([x301, (!x308), x326]))) /\ k290 ()) ([eN (), eI 5, (eD iS (eL eI)) s26.2, (eL eS) (srtS' (ks s26.2)), eS ("a" : Str), eB true, (eV eA) ([] : List PyData)] : List PyData) () λ s289 => jn (λ k346 => if ((s26.2).isEmpty) = true then (k346 true) else (k346 ((lk s26.2 ("zzzzzzzz" : Str)).isSome))) λ c342 => if c342 = true then (p_House___init__ λ m360 => p_l_equal m360 s26.1 ((s26.2).isEmpty) λ x369 => P x369) else (takeD 3 λ n374 => ((n374 = 0 -> (p_l_spoil_one s26.1 s26.2 (λ x383 m382 => False) λ m378 => jn (λ k394 => p_l_equal_s m378 (decide (0 = 0)) λ x396 => if (!x396) = true then (k394 true) else (jn (λ k404 => k404 false) λ c400 => k394 c400)) λ c390 => if c390 = true then (P false) else (jn (λ k414 => p_l_equal x50 m378 (decide (1 = 0)) λ x416 => if (!x416) = true then (k414 true) else (jn (λ k424 => p_l_same x50 s26.2 λ x427 => k424 (!x427)) λ c420 => k414 c420)) λ c410 => if c410 = true then (P false) else (jn (λ k439 => p_l_equal m131 m378 (decide (2 = 0)) λ x441 => if (!x441) = true then (k439 true) else (jn (λ k449 => p_l_same m131 s26.2 λ x452 => k449 (!x452)) λ c445 => k439 c445)) λ c435 => if c435 = true then (P false) else (p_House_become m378 ((eD iS (eL eI)) s26.2) (λ x466 m465 => False) λ m461 => jn (λ k477 => ((0 : Int) < 3) /\ p_l_equal m461 x50 true λ x480 => if x480 = true then (p_l_same m461 s26.2 λ x485 => k477 x485) else (k477 false)) λ c473 => P c473))))) /\ (n374 = 1 -> (p_l_spoil_one x50 s26.2 (λ x497 m496 => False) λ m492 => jn (λ k508 => p_l_equal s26.1 m492 (decide (0 = 1)) λ x510 => if (!x510) = true then (k508 true) else (jn (λ k518 => p_l_same s26.1 s26.2 λ x521 => k518 (!x521)) λ c514 => k508 c514)) λ c504 => if c504 = true then (P false) else (jn (λ k533 => p_l_equal_s m492 (decide (1 = 1)) λ x535 => if (!x535) = true then (k533 true) else (jn (λ k543 => k543 false) λ c539 => k533 c539)) λ c529 => if c529 = true then (P false) else (jn (λ k553 => p_l_equal m131 m492 (decide (2 = 1)) λ x555 => if (!x555) = true then (k553 true) else (jn (λ k563 => p_l_same m131 s26.2 λ x566 => k563 (!x566)) λ c559 => k553 c559)) λ c549 => if c549 = true then (P false) else (p_House_become m492 ((eD iS (eL eI)) s26.2) (λ x580 m579 => False) λ m575 => jn (λ k591 => ((0 : Int) < 3) /\ p_l_equal m575 m131 true λ x594 => if x594 = true then (p_l_same m575 s26.2 λ x599 => k591 x599) else (k591 false)) λ c587 => P c587))))) /\ (n374 = 2 -> (p_l_spoil_one m131 s26.2 (λ x611 m610 => False) λ m606 => jn (λ k622 => p_l_equal s26.1 m606 (decide (0 = 2)) λ x624 => if (!x624) = true then (k622 true) else (jn (λ k632 => p_l_same s26.1 s26.2 λ x635 => k632 (!x635)) λ c628 => k622 c628)) λ c618 => if c618 = true then (P false) else (jn (λ k647 => p_l_equal x50 m606 (decide (1 = 2)) λ x649 => if (!x649) = true then (k647 true) else (jn (λ k657 => p_l_same x50 s26.2 λ x660 => k657 (!x660)) λ c653 => k647 c653)) λ c643 => if c643 = true then (P false) else (jn (λ k672 => p_l_equal_s m606 (decide (2 = 2)) λ x674 => if (!x674) = true then (k672 true) else (jn (λ k682 => k682 false) λ c678 => k672 c678)) λ c668 => if c668 = true then (P false) else (p_House_become m606 ((eD iS (eL eI)) s26.2) (λ x694 m693 => False) λ m689 => jn (λ k705 => ((0 : Int) < 3) /\ p_l_equal m689 s26.1 true λ x708 => if x708 = true then (p_l_same m689 s26.2 λ x713 => k705 x713) else (k705 false)) λ c701 => P c701))))))))
theorem spoil_ok {h m : Fs} {X : Ex -> Fs -> Prop} {P : Fs -> Prop} (gh : GF h) (gm : GF m) (e : Al h m) (hne : m ≠ []) (hz : lk m ("zzzzzzzz" : Str) = none) (hP : ∀ h', GF h' -> ¬ Al h' m -> P h') : p_l_spoil_one h m X P := by
 unfold p_l_spoil_one
 have hl := gm.ln
 have hlh := gh.ln
 have hk : (ks m).length < 64 := by rw [ks_len]; omega
 have h0 : 0 < (srtS' (ks m)).length := by rw [srt_len, ks_len]; exact List.length_pos_iff.mpr hne
 have h9 : (srtS' (ks m)).length < 1000 := by rw [srt_len]; omega
 refine ⟨hk, any_ok (λ a ha => ⟨hk, any_ok (λ b hb => tk (by decide) λ t lt ut => ?_) h0 h9⟩) h0 h9⟩
 obtain ⟨va, hva⟩ := lk_some (srt_mem ha)
 obtain ⟨vb, hvb⟩ := lk_some (srt_mem hb)
 obtain ⟨na, ca⟩ : GN a /\ GC va := gm.nm _ (lk_mem hva)
 obtain ⟨nb, cb⟩ : GN b /\ GC vb := gm.nm _ (lk_mem hvb)
 have hha : lk h a = some va := by rw [e, hva]
 have hhb : lk h b = some vb := by rw [e, hvb]
 have hhz : lk h ("zzzzzzzz" : Str) = none := by rw [e, hz]
 have gz : GN ("zzzzzzzz" : Str) := GNb_ok (by decide +kernel)
 have mv : p_House_move h a ("zzzzzzzz" : Str) X P := by
   have hdl := dk_less hha
   refine move_ok na gz hlh hha hhz (hP _ ((dk_good gh).put gz ca (.inr (by omega))) λ z => ?_)
   have := z ("zzzzzzzz" : Str)
   rw [lk_pk, if_pos rfl, hz] at this
   cases this
 have ht : t = 0 \/ t = 1 \/ t = 2 \/ t = 3 := by omega
 unfold jn
 dsimp only
 rcases ht with rfl | rfl | rfl | rfl
 · rw [if_pos (by decide)]
   have hK : 0 < (if ((va).length : Int) > 1 then ((va).length : Int) else 1) /\ (if ((va).length : Int) > 1 then ((va).length : Int) else 1) < 2 ^ 62 := by
     have := ca.1
     split <;> omega
   refine ⟨va, hva, tk hK λ n ln un => ?_⟩
   have hn : n < 1 \/ n < va.length := by
     split at un
     · exact .inr un
     · exact .inl un
   have hcl : ((cat va [0]).length : Int) = va.length + 1 := by
     show ((va ++ [0]).length : Int) = _
     rw [List.length_append]
     rfl
   obtain ⟨x, _, ex⟩ := atI_ex (xs := cat va [0]) ln (by omega)
   obtain ⟨s1, s2⟩ := spoilt ca ln ex hn
   have b1 : (cutL va none (some n)).length <= 48 := by
     rw [cut_hi ln, List.length_take]
     have := ca.1
     omega
   have b2 : (cutL va (some (n + 1)) none).length <= 48 := by
     rw [cut_lo (by omega), List.length_drop]
     have := ca.1
     omega
   refine ⟨va, hva, by have := ca.1; simp; omega, x, ex, by decide, va, hva, by simp; omega, va, hva, ?_, ?_⟩
   · show (cutL va none (some n) ++ [1 + x % 999]).length + _ <= _
     rw [List.length_append, List.length_singleton]
     omega
   refine write_ok na s1 hlh (by rw [hha]; rfl) ?_
   rw [if_neg (by decide), if_neg (by decide), if_neg (by decide), if_neg (by decide)]
   refine hP _ (gh.put na s1 (.inl (by rw [hha]; rfl))) λ z => ?_
   have := z a
   rw [lk_pk, if_pos rfl, hva] at this
   exact s2 (Option.some.inj this).symm
 · rw [if_neg (by decide), if_pos (by decide)]
   refine drop_ok na hha ?_
   rw [if_neg (by decide), if_neg (by decide), if_neg (by decide)]
   refine hP _ (dk_good gh) λ z => ?_
   have := z a
   rw [lk_dk, if_pos rfl, hva] at this
   cases this
 · rw [if_neg (by decide), if_neg (by decide), if_neg (by decide), if_neg (by decide), if_pos (by decide)]
   exact mv
 · rw [if_neg (by decide), if_neg (by decide), if_pos (by decide)]
   refine ⟨va, hva, vb, hvb, ?_⟩
   by_cases eq : va = vb
   · rw [if_neg (by simp [eq]), if_pos (by decide)]
     exact mv
   · rw [if_pos (by simp [eq])]
     have g1 : GF (pk h a vb) := gh.put na cb (.inl (by rw [hha]; rfl))
     have hs : (lk (pk h a vb) b).isSome = true := by
       rw [lk_pk]
       split
       · rfl
       · rw [hhb]
         rfl
     refine ⟨vb, hvb, write_ok na cb hlh (by rw [hha]; rfl) ⟨va, hva, write_ok nb ca g1.ln hs (hP _ (g1.put nb ca (.inl hs)) λ z => ?_)⟩⟩
     have hab : a ≠ b := λ y => eq (by rw [y, hvb] at hva; exact (Option.some.inj hva).symm)
     have := z a
     rw [lk_pk, if_neg hab, lk_pk, if_pos rfl, hva] at this
     exact eq (Option.some.inj this).symm
theorem block_s {h : Fs} {b : Bool} {K : Bool -> Prop} (g : GF h) (hb : b = true) (hK : K false) : jn (λ k => p_l_equal_s h b λ x => if (!x) = true then (k true) else (jn (λ k2 => k2 false) λ c => k c)) K := by
 unfold jn
 refine equals_ok g hb ?_
 rw [if_neg (by decide)]
 exact hK
theorem block_o {o h m : Fs} {b : Bool} {K : Bool -> Prop} (g : GF o) (gh : GF h) (gm : GF m) (e : Al o m) (ne : ¬ Al h m) (hb : b = false) (hK : K false) : jn (λ k => p_l_equal o h b λ x => if (!x) = true then (k true) else (jn (λ k2 => p_l_same o m λ x2 => k2 (!x2)) λ c => k c)) K := by
 subst hb
 unfold jn
 refine equal_ok (eq_f g gh λ z => ne (z.symm.trans e)) (eq_f gh g λ z => ne (z.trans e)) ?_
 rw [if_neg (by decide)]
 exact same2_ok g gm e hK
theorem fin_ok {h o m : Fs} {X : Ex -> Fs -> Prop} (g : GF o) (gm : GF m) (e : Al o m) {K : Bool -> Prop} (hK : K true) : p_House_become h ((eD iS (eL eI)) m) X λ m461 => jn (λ k477 => ((0 : Int) < 3) /\ p_l_equal m461 o true λ x480 => if x480 = true then (p_l_same m461 m λ x485 => k477 x485) else (k477 false)) λ c473 => K c473 := by
 refine become_ok gm ?_
 unfold jn
 refine ⟨by decide, equal_ok (eq_t gm g e.symm) (eq_t g gm e) ?_⟩
 rw [if_pos rfl]
 exact same2_ok gm gm (Al.refl m) hK
theorem law_plain : p_law (λ b => b = true) := by
 unfold p_law
 refine names_ok (by decide) λ ns hl hg => ?_
 unfold p_House___init__
 refine tk (by decide) λ t lt ut => ⟨by omega, ?_⟩
 refine forD_inv (λ _ s => ∃ m, GF m /\ s = (m, m)) (n := 0) ⟨[], GF.nil, rfl⟩ (λ i x s kk hx hi hk => ?_) λ s hi => ?_
 · obtain ⟨m, g, rfl⟩ := hi
   refine deed_ok hl hg λ d hd => step_ok g hd ?_
   rw [if_neg (by decide)]
   exact hk _ ⟨_, st_good g hd, rfl⟩
 obtain ⟨m, g, rfl⟩ := hi
 dsimp only
 have hl := g.ln
 have hk : (ks m).length < 64 := by rw [ks_len]; omega
 have gc := cont_good g
 have gr : GF (cont m).reverse := rev_good gc
 have ac : Al (cont m) m := cont_al g
 have ar : Al (cont m).reverse m := (rev_al gc).trans ac
 refine copied_ok g ⟨hk, by rw [List.length_reverse, srt_len]; omega, lcD_map (λ n => (n, (lk m n).getD [])) (λ x hx kk hkk => ?_) ?_⟩
 · obtain ⟨y, hy⟩ := lk_some (srt_mem (List.mem_reverse.mp hx))
   rw [hy] at hkk
   exact ⟨y, hy, hkk⟩
 have e1 : [] ++ ((srtS' (ks m)).reverse.map λ n => (n, (lk m n).getD [])) = (cont m).reverse := by
   rw [List.nil_append, List.map_reverse]
   rfl
 rw [e1]
 refine ⟨gr.nd, become_o_ok gr ⟨hk, ?_⟩⟩
 refine forD_inv (λ i s => (∀ k ∈ ks m, ∃ x, lk s k = some x /\ x.length <= 48 + i) /\ s.length <= 8 + i) (n := 0) ⟨λ k hk => ?_, by have := gr.ln; omega⟩ (λ i x s kk hx hi hkk => ?_) λ s hi => ?_
 · obtain ⟨y, hy⟩ := lk_some hk
   refine ⟨y, by rw [ar, hy], ?_⟩
   have := (g.nm _ (lk_mem hy)).2.1
   omega
 · have hi8 : i < 8 := by
     have := (List.getElem?_eq_some_iff.mp hx).1
     rw [srt_len, ks_len] at this
     omega
   obtain ⟨y, hy, hyl⟩ := hi.1 x (srt_mem (List.mem_of_getElem? hx))
   refine ⟨y, hy, by omega, hkk _ ⟨λ k hk => ?_, ?_⟩⟩
   · rw [lk_pk]
     split
     · refine ⟨_, rfl, ?_⟩
       show (y ++ [3]).length <= _
       rw [List.length_append, List.length_singleton]
       omega
     · obtain ⟨z, hz, hzl⟩ := hi.1 k hk
       exact ⟨z, hz, by omega⟩
   · have := pk_len s x (sno y 3)
     have := hi.2
     omega
 have hsl : (srtS' (ks m)).length <= 8 := by rw [srt_len, ks_len]; exact hl
 refine ⟨by have := hi.2; omega, ?_⟩
 refine jn_ok (λ b => b = true) (λ k1 hk1 => equals_ok g rfl ?_) λ b1 hb1 => ?_
 · rw [if_pos rfl]
   exact same2_ok g g (Al.refl m) (hk1 _ rfl)
 subst hb1
 refine jn_ok (λ b => b = true) (λ k1 hk1 => equal_ok (eq_t gc g ac) (eq_t g gc ac.symm) ?_) λ b1 hb1 => ?_
 · rw [if_pos rfl]
   exact same2_ok gc g ac (hk1 _ rfl)
 subst hb1
 refine jn_ok (λ b => b = true) (λ k1 hk1 => equal_ok (eq_t gr g ar) (eq_t g gr ar.symm) ?_) λ b1 hb1 => ?_
 · rw [if_pos rfl]
   exact same2_ok gr g ar (hk1 _ rfl)
 subst hb1
 rw [if_neg (by decide)]
 refine ⟨hk, forD_inv (λ _ _ => True) (n := 0) trivial (λ i x s kk hx _ hkk => ?_) λ _ _ => ?_⟩
 · unfold p_House___eq___a
   exact ⟨⟨rfl, bools_alk _ (by simp)⟩, hkk () trivial⟩
 refine jn_ok (λ b => b = false -> m ≠ [] /\ lk m ("zzzzzzzz" : Str) = none) (λ k1 hk1 => ?_) λ b hb => ?_
 · cases m with
   | nil =>
     rw [if_pos (by rfl)]
     exact hk1 _ λ z => nomatch z
   | cons q r =>
     rw [if_neg (by show ¬ false = true; decide)]
     refine hk1 _ λ z => ⟨List.cons_ne_nil _ _, ?_⟩
     cases e : lk (q :: r) ("zzzzzzzz" : Str) with
     | none => rfl
     | some v => rw [e] at z; cases z
 cases b with
 | true =>
   rw [if_pos rfl]
   cases m with
   | nil => exact equal_ok (by rfl) (by rfl) rfl
   | cons q r => exact equal_ok (by simp [dEq]) (by simp [dEq]) rfl
 | false =>
   obtain ⟨hne, hzn⟩ := hb rfl
   rw [if_neg (by decide)]
   refine tk (by decide) λ n ln un => ⟨λ hn => ?_, λ hn => ?_, λ hn => ?_⟩
   · refine spoil_ok g g (Al.refl m) hne hzn λ h gh nh => block_s gh (by decide) ?_
     rw [if_neg (by decide)]
     refine block_o gc gh g ac nh (by decide) ?_
     rw [if_neg (by decide)]
     refine block_o gr gh g ar nh (by decide) ?_
     rw [if_neg (by decide)]
     exact fin_ok gc g ac rfl
   · refine spoil_ok gc g ac hne hzn λ h gh nh => block_o g gh g (Al.refl m) nh (by decide) ?_
     rw [if_neg (by decide)]
     refine block_s gh (by decide) ?_
     rw [if_neg (by decide)]
     refine block_o gr gh g ar nh (by decide) ?_
     rw [if_neg (by decide)]
     exact fin_ok gr g ar rfl
   · refine spoil_ok gr g ar hne hzn λ h gh nh => block_o g gh g (Al.refl m) nh (by decide) ?_
     rw [if_neg (by decide)]
     refine block_o gc gh g ac nh (by decide) ?_
     rw [if_neg (by decide)]
     refine block_s gh (by decide) ?_
     rw [if_neg (by decide)]
     exact fin_ok g g (Al.refl m) rfl
abbrev t_law_6 (K : Fr) : TS := (tIfS (tNot (tB (tCall (sp_l_step K) [] E0 (tCons (tVar 3) (tCons (tVar 4) (tCons (tCall (sp_l_deed K) [] E0 (tCons (tVar 1) (tCons (tVar 2) tNil))) tNil)))))) (tRet (tC (.bl false))) tNext)
abbrev t_law_19 (K : Fr) : TS := (tIfS (tNot (tB (tCall (sp_l_alike K) [] E0 (tCons (tLst (tCons (tOp (uEqI K (He.ga K "House") (sp_House___eq__ K)) (tVar 3) (tVar 11)) (tCons (tOp (uNeI K (He.ga K "House") (sp_House___eq__ K)) (tVar 3) (tVar 11)) (tCons (tOp (uEqI K (He.ga K "House") (sp_House___eq__ K)) (tMakeW W0 (He.ga K "House") (sp_House___init__ K) [] tNil) (tVar 11)) tNil)))) (tCons (tLst (tCons (tC (.bl false)) (tCons (tC (.bl true)) (tCons (tC (.bl false)) tNil)))) tNil))))) (tRet (tC (.bl false))) tNext)
abbrev t_law_26 (K : Fr) : TS := (tIfS (tOr (tNot (tB (tCall (sp_l_equal K) [] E0 (tCons (tOp (uIx K) (tVar 10) (tVar 5)) (tCons (tOp (uIx K) (tVar 10) (tVar 12)) (tCons (tOp (uEq K) (tVar 5) (tVar 12)) tNil)))))) (tAnd (tTest (tOp (uNe K) (tVar 5) (tVar 12))) (tNot (tB (tCall (sp_l_same K) [] E0 (tCons (tOp (uIx K) (tVar 10) (tVar 5)) (tCons (tVar 4) tNil))))))) (tRet (tC (.bl false))) tNext)
abbrev t_law_28 (K : Fr) : TS := (tSeq (tDrop (tMethW W0 (He.ga K "House") "become" (sp_House_become K) [] (tOp (uIx K) (tVar 10) (tVar 12)) (tCons (tVar 4) tNil)))
 (tRet (tAndV (tCall (sp_l_equal K) [] E0 (tCons (tOp (uIx K) (tVar 10) (tVar 12)) (tCons (tOp (uIx K) (tVar 10) (tOp uMod (tOp (uAdd K) (tVar 12) (tC (.int 1))) (tC (.int 3)))) (tCons (tC (.bl true)) tNil)))) (tCall (sp_l_same K) [] E0 (tCons (tOp (uIx K) (tVar 10) (tVar 12)) (tCons (tVar 4) tNil))))))
abbrev t_law_25 (K : Fr) : TS := (tSeq (tFor (iRng1 (tCons (tC (.int 3)) tNil)) (gName 5) (t_law_26 K))
 (t_law_28 K))
abbrev t_law_24 (K : Fr) : TS := (tSeq (tDrop (tCallW W0 (sp_l_spoil_one K) [] (tCons (tVar 1) (tCons (tOp (uIx K) (tVar 10) (tVar 12)) (tCons (tVar 4) tNil)))))
 (t_law_25 K))
abbrev t_law_23 (K : Fr) : TS := (tSeq (tAsg (tCall (sp_l_take K) [] E0 (tCons (tVar 1) (tCons (tC (.int 3)) tNil))) (gName 12))
 (t_law_24 K))
abbrev t_law_21 (K : Fr) : TS := (tSeq (tIfS (tOr (tTest (tOp rEqE (tVar 4) tDNewK)) (tTest (tOp (uIn K) (tC (.str "zzzzzzzz")) (tVar 4)))) (tRet (tCall (sp_l_equal K) [] E0 (tCons (tMakeW W0 (He.ga K "House") (sp_House___init__ K) [] tNil) (tCons (tVar 3) (tCons (tOp rEqE (tVar 4) tDNewK) tNil))))) tNext)
 (t_law_23 K))
abbrev t_law_18 (K : Fr) : TS := (tSeq (tFor (iList K (tLst (tCons (tC .non) (tCons (tC (.int 5)) (tCons (tFzE (tVar 4)) (tCons (tCB rSortDS (tCons (tVar 4) tNil)) (tCons (tC (.str "a")) (tCons (tC (.bl true)) (tCons (tTup tNil) tNil))))))))) (gName 11) (t_law_19 K))
 (t_law_21 K))
abbrev t_law_16 (K : Fr) : TS := (tSeq (tIfS (tNot (tB (tCB (rAll K) (tCons (tLc (iList K (tVar 10)) (gName 13) tYes (tAndV (tCall (sp_l_equal K) [] E0 (tCons (tVar 13) (tCons (tVar 3) (tCons (tC (.bl true)) tNil)))) (tCall (sp_l_same K) [] E0 (tCons (tVar 13) (tCons (tVar 4) tNil)))) [13]) tNil)))) (tRet (tC (.bl false))) tNext)
 (t_law_18 K))
abbrev t_law_15 (K : Fr) : TS := (tSeq (tAsg (tLst (tCons (tVar 3) (tCons (tVar 6) (tCons (tVar 7) tNil)))) (gName 10))
 (t_law_16 K))
abbrev t_law_14 (K : Fr) : TS := (tSeq (tAsg (tLst (tCons (tC (.int 4)) tNil)) (gSub (tVar 8) (tC (.str "b")) uSet))
 (t_law_15 K))
abbrev t_law_12 (K : Fr) : TS := (tSeq (tFor (iList K (tCB rSortDS (tCons (tVar 4) tNil))) (gName 9) (tDrop (tBM K "list" rAppend (tOp rIxK (tVar 8) (tVar 9)) (tCons (tC (.int 3)) tNil))))
 (t_law_14 K))
abbrev t_law_11 (K : Fr) : TS := (tSeq (tDrop (tMethW W0 (He.ga K "House") "become" (sp_House_become K) [] (tVar 7) (tCons (tVar 8) tNil)))
 (t_law_12 K))
abbrev t_law_10 (K : Fr) : TS := (tSeq (tAsg (tCB (rDictP K) (tCons (tLc (iList K (tRevL K (tCB rSortDS (tCons (tVar 4) tNil)))) (gName 9) tYes (tTup (tCons (tVar 9) (tCons (tCB (rListOf K) (tCons (tOp rIxK (tVar 4) (tVar 9)) tNil)) tNil))) [9]) tNil)) (gName 8))
 (t_law_11 K))
abbrev t_law_9 (K : Fr) : TS := (tSeq (tAsg (tMakeW W0 (He.ga K "House") (sp_House___init__ K) [] tNil) (gName 7))
 (t_law_10 K))
abbrev t_law_8 (K : Fr) : TS := (tSeq (tAsg (tMethW W0 (He.ga K "House") "copied" (sp_House_copied K) [] (tVar 3) tNil) (gName 6))
 (t_law_9 K))
abbrev t_law_5 (K : Fr) : TS := (tSeq (tFor (iRng1 (tCons (tOp (uAdd K) (tC (.int 1)) (tCall (sp_l_take K) [] E0 (tCons (tVar 1) (tCons (tC (.int 10)) tNil)))) tNil)) (gName 5) (t_law_6 K))
 (t_law_8 K))
abbrev t_law_4 (K : Fr) : TS := (tSeq (tAsg tDNewK (gName 4))
 (t_law_5 K))
abbrev t_law_3 (K : Fr) : TS := (tSeq (tAsg (tMakeW W0 (He.ga K "House") (sp_House___init__ K) [] tNil) (gName 3))
 (t_law_4 K))
abbrev t_law_2 (K : Fr) : TS := (tSeq (tAsg (tCall (sp_l_names K) [] E0 (tCons (tVar 1) (tCons (tC (.int 8)) tNil))) (gName 2))
 (t_law_3 K))
abbrev t_law_1 (K : Fr) : TS := (tSeq (tAsg (tCall (sp_l_bag K) [] E0 (tCons (tVar 0) tNil)) (gName 1))
 (t_law_2 K))
abbrev t_law (K : Fr) : TS := (t_law_1 K)
theorem pure_law {K : Fr} (T : TxC K) (vs : List V) (H : Hp) (Q : VK) (E : XK) (h : sp_law K vs H Q E) : t_law K { nx := λ _ H' => Q .non H', rt := Q } (L2.start ["_law_script", "_law_bag_here", "_law_names_here", "_law_house", "_law_files", "_law_k", "_law_copied", "_law_other", "_law_handed", "_law_name", "_law_trio", "_law_thing", "_law_at", "_law_one"] vs) H := by
 obtain ⟨sc, sn, rfl, hS, hl, k⟩ := h
 have hf := law_plain
 show t_law K _ [some (V.ref sc), none, none, none, none, none, none, none, none, none, none, none, none, none] H
 refine g_seq (g_asg (g_call (g_cons (g_var rfl (g_nil (u_bag (M.start hS) (λ H S => S.gotR 0 rfl) hl λ bag H1 S1 => ?_))))))
 generalize [rdL K sc (sn.map V.int)] = Rs at S1
 refine g_nx (g_seq (g_asg (g_call (g_cons (g_var rfl (g_cons (g_c (g_nil (⟨_, _, _, _, rfl, (M.at S1 0 rfl), hf, λ x1 u4 H3 hf (S2 : M (da K u4 ((eL eS) x1) :: _ :: Rs) H3) => ?_⟩)))))))))
 refine g_nx ?_
 show (_ : TS) _ [some (V.ref sc), some (V.ref bag), some u4, none, none, none, none, none, none, none, none, none, none, none] _
 refine g_seq (g_asg (g_make (g_nil (v_make S2 λ a6 dx7 H9 (S8 : M (pt a6 (.ins (He.ga K "House") dx7 []) :: pt dx7 (.own a6) :: oo2 Rs) H9) => ?_))))
 refine ⟨_, _, _, _, rfl, (M.at (M.at S8 1 rfl) 1 rfl), hf, λ m12 H14 hf (S13 : M (R_House K a6 m12 :: oo2 Rs) H14) => ?_⟩
 refine And.intro rfl (g_nx ?_)
 show (_ : TS) _ [some (V.ref sc), some (V.ref bag), some u4, some (V.ref a6), none, none, none, none, none, none, none, none, none, none] _
 refine g_seq (g_asg (v_dnewo S13 λ p17 H19 (S18 : M (adR K iS (eL eI) p17 ([] : (List (Str × (List Int)))) :: oo3 Rs) H19) => ?_))
 refine g_nx ?_
 show (_ : TS) _ [some (V.ref sc), some (V.ref bag), some u4, some (V.ref a6), some (V.ref p17), none, none, none, none, none, none, none, none, none] _
 refine g_seq (g_for (g_iRng1 (g_cons (g_op (g_c (g_call (g_cons (g_var rfl (g_cons (g_c (g_nil ?_)))))))))))
 obtain ⟨h21, hf⟩ := hf
 refine u_take (S18.at 3 rfl) h21 λ n22 H24 n22l n22u (S23 : M (oo4 Rs) H24) => ?_
 replace hf := hf n22 n22l n22u
 obtain ⟨h25, hf⟩ := hf
 refine v_add (g_nil (v_itR h25 ?_))
 refine for_rng (β := ((List (Str × (List Int)))) × (List (Str × (List Int)))) hf (λ (s26 : ((List (Str × (List Int)))) × (List (Str × (List Int)))) σ H' => ∃ (o32 : Option V), σ = [some (V.ref sc), some (V.ref bag), some u4, some (V.ref a6), some (V.ref p17), o32, none, none, none, none, none, none, none, none] /\ M (R_House K a6 s26.1 :: adR K iS (eL eI) p17 s26.2 :: bagR bag :: da K u4 ((eL eS) x1) :: Rs) H') ⟨_, rfl, (M.pk S23 4 [2, 1, 0, 3] rfl)⟩ ?_ ?_
 ·
  rintro x29 s26 _ H34 kk28 ⟨o32, rfl, S33⟩ hf
  refine g_name (g_if (g_not (g_B (g_call (g_cons (g_var rfl (g_cons (g_var rfl (g_cons (g_call (g_cons (g_var rfl (g_cons (g_var rfl (g_nil (⟨_, _, _, _, _, rfl, (M.at (M.addA S33 (EnF.at 3 rfl)) 3 rfl), hf, λ x36 u39 H38 hf (S37 : M (da K u39 (eA x36) :: oo4 Rs) H38) => ?_⟩))))))))))))))))
  refine g_nil (⟨_, _, _, _, _, _, _, _, rfl, (M.at (M.at (M.addA S37 (EnF.at 0 rfl)) 4 rfl) 4 rfl), hf, λ x42 m43 m44 H46 hf (S45 : M (R_House K a6 m43 :: adR K iS (eL eI) p17 m44 :: oo3 Rs) H46) => ?_⟩)
  refine g_bl (v_iff hf (λ _ hf => ?_) (λ _ hf => ?_))
  ·
   refine g_ret (g_c ?_)
   rw [show false = true from hf]
   exact k _
  ·
   refine g_next ?_
   exact ⟨_, hf, _, rfl, (M.pk S45 5 [0, 1, 3, 4] rfl)⟩
 rintro s26 _ H49 hf ⟨o32, rfl, S48⟩
 refine g_nx ?_
 show (_ : TS) _ [some (V.ref sc), some (V.ref bag), some u4, some (V.ref a6), some (V.ref p17), o32, none, none, none, none, none, none, none, none] _
 refine g_seq (g_asg (g_meth (g_var rfl (v_R_House S48 0 rfl (λ _ _ => rfl) (g_nil (⟨_, _, _, _, _, rfl, (M.at S48 0 rfl), hf, λ x55 d56 v57 H59 hf (S58 : M (pt d56 (.xd [(x55.fld, v57)]) :: da K v57 x55.val :: oo4 Rs) H59) => ?_, λ x50 u53 H52 hf (S51 : M (R_House K u53 x50 :: oo4 Rs) H52) => ?_⟩))))))
 ·
  exact hf.elim
 refine g_nx ?_
 show (_ : TS) _ [some (V.ref sc), some (V.ref bag), some u4, some (V.ref a6), some (V.ref p17), o32, some (V.ref u53), none, none, none, none, none, none, none] _
 refine g_seq (g_asg (g_make (g_nil (v_make S51 λ a62 dx63 H65 (S64 : M (pt a62 (.ins (He.ga K "House") dx63 []) :: pt dx63 (.own a62) :: oo5 Rs) H65) => ?_))))
 refine ⟨_, _, _, _, rfl, (M.at (M.at S64 1 rfl) 1 rfl), hf, λ m68 H70 hf (S69 : M (R_House K a62 m68 :: oo5 Rs) H70) => ?_⟩
 refine And.intro rfl (g_nx ?_)
 show (_ : TS) _ [some (V.ref sc), some (V.ref bag), some u4, some (V.ref a6), some (V.ref p17), o32, some (V.ref u53), some (V.ref a62), none, none, none, none, none, none] _
 refine g_seq (g_asg (g_cb (g_cons (g_lc (g_iList (g_rev (g_cb (g_cons (g_var rfl (g_nil ?_))))))))))
 obtain ⟨h75, hf⟩ := hf
 refine d_srtS (M.dvO S69 3 rfl) h75 λ p76 H78 (S77 : M (acR K p76 ((srtS' (ks s26.2)).map eS) :: oo6 Rs) H78) => ?_
 have S80 : M (da K (V.ref p76) ((eL eS) (srtS' (ks s26.2))) :: oo6 Rs) H78 := acR_fixL S77
 refine v_revN flS S80 (M.gotA S80 0 rfl) λ p82 H84 (S83 : M (acR K p82 (((srtS' (ks s26.2)).reverse).map eS) :: oo7 Rs) H84) => ?_
 refine lo_N flS (K := K) (B := (vr (tuR (qcR (vrD K eS) (q1R (vr (acI K))))))) hf S83 (λ _ S => S.gotO 0 rfl) (λ x89 acc86 E87 H96 kk88 N90 hl91 S95 hf hp92 hn93 => ?_) (λ E87 acc86 H123 hf S122 => ?_)
 ·
  refine g_name (g_wipe rfl (g_yes (v_ifT (g_tup (g_cons (g_var rfl (g_cons (g_cb (g_cons (g_op (g_var rfl (g_var rfl ?_))))))))))))
  obtain ⟨x97, h98, hf⟩ := hf
  refine d_ixS (M.dvO S95 6 rfl) h98 λ u99 S100 => ?_
  refine g_nil (v_liN flI S100 (M.gotA S100 0 rfl) λ p102 H104 (S103 : M (acR K p102 (x97.map eI) :: da K u99 ((eL eI) x97) :: lsR (vr (tuR (qcR (vrD K eS) (q1R (vr (acI K)))))) E87 acc86 :: oo8 Rs) H104) => ?_)
  refine g_nil (v_tup S103 (len_ok rfl) λ p106 H108 (S107 : M (pt p106 (.tup [(V.str x89), (V.ref p102)]) :: oo11 Rs) H108) => ?_)
  have S111 : M (vr (acI K) (V.ref p102) x97 :: oo11 Rs) H108 := M.vrC (M.at S107 1 rfl)
  have S113 : M (vrD K eS (V.str x89) x89 :: oo12 Rs) H108 := M.addA S111 (EnF.all λ _ => .str _)
  have S115 : M (qcR (vrD K eS) (q1R (vr (acI K))) [(V.str x89), (V.ref p102)] (x89, x97) :: oo11 Rs) H108 := M.hq2C S113
  have S117 : M (tuR (qcR (vrD K eS) (q1R (vr (acI K)))) p106 (x89, x97) :: oo10 Rs) H108 := M.tuC (M.pk S115 12 [0, 1, 2, 3, 4, 5, 6, 7, 8, 9, 10, 11] rfl)
  have S119 : M (vr (tuR (qcR (vrD K eS) (q1R (vr (acI K))))) (V.ref p106) (x89, x97) :: oo10 Rs) H108 := M.vrC (M.at S117 0 rfl)
  refine lsR_put (M.pk S119 11 [0, 2, 1, 3, 4, 5, 6, 7, 8, 9, 10] rfl) hl91 λ H121 (S120 : M (lsR (vr (tuR (qcR (vrD K eS) (q1R (vr (acI K)))))) E87 (acc86 ++ [(x89, x97)]) :: oo9 Rs) H121) => ?_
  exact hp92 _ _ hf (M.pk S120 10 [0, 2, 3, 4, 5, 6, 7, 8, 9] rfl)
 refine g_nil ?_
 obtain ⟨h125, hf⟩ := hf
 refine v_dictDV (M.sub (.cons 0 rfl (.refl _)) S122) h125 λ p126 H128 (S127 : M (dvR iS (vr (acI K)) p126 acc86 :: oo8 Rs) H128) => ?_
 refine g_nx ?_
 show (_ : TS) _ [some (V.ref sc), some (V.ref bag), some u4, some (V.ref a6), some (V.ref p17), o32, some (V.ref u53), some (V.ref a62), some (V.ref p126), none, none, none, none, none] _
 have S130 : M (oo8 Rs) H128 := (M.drp S127 2)
 refine g_seq (g_drop (g_meth (g_var rfl (v_R_House S130 2 rfl (λ _ _ => rfl) (g_cons (g_var rfl (g_nil (.inr (⟨_, _, _, _, _, _, _, rfl, (M.at (M.at S130 0 rfl) 2 rfl), hf, λ x136 m135 d137 v138 H140 hf (S139 : M (pt d137 (.xd [(x136.fld, v138)]) :: da K v138 x136.val :: R_House K a62 m135 :: oo7 Rs) H140) => ?_, λ m131 H133 hf (S132 : M (R_House K a62 m131 :: oo7 Rs) H133) => ?_⟩)))))))))
 ·
  exact hf.elim
 refine g_nx ?_
 show (_ : TS) _ [some (V.ref sc), some (V.ref bag), some u4, some (V.ref a6), some (V.ref p17), o32, some (V.ref u53), some (V.ref a62), some (V.ref p126), none, none, none, none, none] _
 refine g_seq (g_for (g_iList (g_cb (g_cons (g_var rfl (g_nil ?_))))))
 obtain ⟨h143, hf⟩ := hf
 refine d_srtS (M.dvO S132 5 rfl) h143 λ p144 H146 (S145 : M (acR K p144 ((srtS' (ks s26.2)).map eS) :: oo8 Rs) H146) => ?_
 refine for_N flS (K := K) (β := (List (Str × (List Int)))) hf (λ (s148 : (List (Str × (List Int)))) σ H' => ∃ (o153 : Option V), σ = [some (V.ref sc), some (V.ref bag), some u4, some (V.ref a6), some (V.ref p17), o32, some (V.ref u53), some (V.ref a62), some (V.ref p126), o153, none, none, none, none] /\ M (dvR iS (vr (acI K)) p126 s148 :: acR K p144 ((srtS' (ks s26.2)).map eS) :: R_House K a62 m131 :: acR K p82 (((srtS' (ks s26.2)).reverse).map eS) :: R_House K u53 x50 :: R_House K a6 s26.1 :: adR K iS (eL eI) p17 s26.2 :: bagR bag :: da K u4 ((eL eS) x1) :: Rs) H') ⟨_, rfl, (M.pk S145 9 [2, 0, 1, 3, 4, 5, 6, 7, 8] rfl)⟩ (λ _ _ _ h => by obtain ⟨_, _, S⟩ := h; exact S.gotO 1 rfl) ?_ ?_
 ·
  rintro x151 s148 _ H155 kk150 ⟨o153, rfl, S154⟩ hf
  refine g_name (g_drop (g_bm (g_op (g_var rfl (g_var rfl ?_)))))
  obtain ⟨x156, h157, hf⟩ := hf
  refine v_ixDV (k := x151) injS S154 0 rfl h157 λ u158 kvs159 n160 hu161 hn162 nd163 (S164 : M (vr (acI K) u158 x156 :: pt p126 (.dK kvs159) :: starK iS (vr (acI K)) (kvs159.eraseIdx n160) (s148.eraseIdx n160) :: oo8 Rs) H155) => ?_
  obtain ⟨p168, rfl, S169⟩ := M.vrO S164
  have S171 : M (acR K p168 (x156.map eI) :: oo10 Rs) H155 := S169
  refine M.tyO S171 0 rfl (g_cons (g_c (g_nil ?_)))
  obtain ⟨h172, hf⟩ := hf
  refine v_apl (e := eI) (x := 3) S171 0 rfl (EnF.all λ _ => .int _) h172 λ H174 (S173 : M (acR K p168 ((sno x156 3).map eI) :: oo10 Rs) H174) => ?_
  have S177 : M (vr (acI K) (V.ref p168) (sno x156 3) :: oo10 Rs) H174 := M.vrC (M.at S173 0 rfl)
  have S178 : M (dvR iS (vr (acI K)) p126 (pk s148 x151 (sno x156 3)) :: oo8 Rs) H174 := dvR_close hu161 hn162 nd163 (M.pk S177 11 [0, 1, 2, 3, 4, 5, 6, 7, 8, 9, 10] rfl)
  exact ⟨_, hf, _, rfl, (M.pk S178 9 [0, 1, 2, 3, 4, 5, 6, 7, 8] rfl)⟩
 rintro s148 _ H180 hf ⟨o153, rfl, S179⟩
 refine g_nx ?_
 show (_ : TS) _ [some (V.ref sc), some (V.ref bag), some u4, some (V.ref a6), some (V.ref p17), o32, some (V.ref u53), some (V.ref a62), some (V.ref p126), o153, none, none, none, none] _
 refine g_seq (g_asgX (g_lst (g_cons (g_c (g_nil (v_lsto (ds := ([4] : List Int).map eI) S179 (EnF.consA (EnF.all λ _ => .int _) EnF.nilA) (len_ok rfl) λ p181 H183 (S182 : M (acR K p181 (([4] : List Int).map eI) :: oo9 Rs) H183) => ?_))))))
 refine g_sub (g_var rfl (g_c ?_))
 have S186 : M (vr (acI K) (V.ref p181) ([4] : List Int) :: oo9 Rs) H183 := M.vrC (M.at S182 0 rfl)
 obtain ⟨h187, hf⟩ := hf
 refine v_putDV (k := ("b" : Str)) injS (M.pk S186 10 [0, 1, 2, 3, 4, 5, 6, 7, 8, 9] rfl) h187 λ H189 (S188 : M (dvR iS (vr (acI K)) p126 (pk s148 ("b" : Str) ([4] : List Int)) :: oo8 Rs) H189) => ?_
 refine g_nx ?_
 show (_ : TS) _ [some (V.ref sc), some (V.ref bag), some u4, some (V.ref a6), some (V.ref p17), o32, some (V.ref u53), some (V.ref a62), some (V.ref p126), o153, none, none, none, none] _
 refine g_seq (g_asg (g_lst (g_cons (g_var rfl (g_cons (g_var rfl (g_cons (g_var rfl (g_nil ?_)))))))))
 refine v_lst S188 (len_ok rfl) λ p191 H193 (S192 : M (pt p191 (.lst [(V.ref a6), (V.ref u53), (V.ref a62)]) :: oo9 Rs) H193) => ?_
 refine g_nx ?_
 show (_ : TS) _ [some (V.ref sc), some (V.ref bag), some u4, some (V.ref a6), some (V.ref p17), o32, some (V.ref u53), some (V.ref a62), some (V.ref p126), o153, some (V.ref p191), none, none, none] _
 refine g_seq (g_if (g_not (g_B (g_cb (g_cons ?_)))))
 refine g_lc (g_iList (g_var rfl (v_itL (.inl (.inl (S192.got 0 rfl))) (lc_U (vs := [(V.ref a6), (V.ref u53), (V.ref a62)]) λ E195 hE196 => ?_))))
 have S198 : M (pt E195 (.lst []) :: oo10 Rs) (upd H193 E195 (.lst [])) := S192.new hE196
 refine ⟨.inl (.inl (S198.got 1 rfl)), ?_⟩
 refine g_name (g_wipe rfl (g_yes (v_ifT ?_)))
 refine te_cut hf (λ H => M (pt E195 (.lst []) :: pt p191 (.lst [(V.ref a6), (V.ref u53), (V.ref a62)]) :: dvR iS (vr (acI K)) p126 (pk s148 ("b" : Str) ([4] : List Int)) :: acR K p144 ((srtS' (ks s26.2)).map eS) :: R_House K a62 m131 :: acR K p82 (((srtS' (ks s26.2)).reverse).map eS) :: R_House K u53 x50 :: R_House K a6 s26.1 :: adR K iS (eL eI) p17 s26.2 :: bagR bag :: da K u4 ((eL eS) x1) :: Rs) H) (λ kk200 P201 hP202 hf => ?_) ?_
 ·
  refine g_andV (g_call (g_cons (g_var rfl (g_cons (g_var rfl (g_cons (g_c (g_nil (.inr (⟨_, _, _, _, _, rfl, (M.at S198 7 rfl), hf, λ x205 H207 hf (S206 : M (oo11 Rs) H207) => ?_⟩))))))))))
  refine g_bl (v_iff hf (λ _ hf => ?_) (λ _ hf => ?_))
  ·
   refine g_call (g_cons (g_var rfl (g_cons (g_var rfl (g_nil (⟨_, _, _, _, _, DF.own, _, rfl, (M.at (bd_open (M.at S206 8 rfl)) 1 rfl), hf, λ x209 H211 hf (S210 : M (_ :: bdR K iS (eL eI) (V.ref p17) s26.2 DF.own :: oo9 Rs) H211) => ?_⟩))))))
   have S213 : M (adR K iS (eL eI) p17 s26.2 :: oo10 Rs) H211 := bd_close (M.at S210 1 rfl)
   exact hP202 _ _ hf (M.pk S213 11 [2, 3, 4, 5, 6, 7, 8, 1, 0, 9, 10] rfl)
  ·
   exact hP202 _ _ hf (M.pk S206 11 [1, 2, 3, 4, 5, 6, 7, 0, 8, 9, 10] rfl)
 intro c199 H215 hf S214
 have S216 : M (acR K E195 (([] : List Bool).map eB) :: pt p191 (.lst [(V.ref a6), (V.ref u53), (V.ref a62)]) :: dvR iS (vr (acI K)) p126 (pk s148 ("b" : Str) ([4] : List Int)) :: acR K p144 ((srtS' (ks s26.2)).map eS) :: R_House K a62 m131 :: acR K p82 (((srtS' (ks s26.2)).reverse).map eS) :: R_House K u53 x50 :: R_House K a6 s26.1 :: adR K iS (eL eI) p17 s26.2 :: bagR bag :: da K u4 ((eL eS) x1) :: Rs) H215 := acR_nil (M.at S214 0 rfl)
 refine acR_put (ds := ([] : List Bool).map eB) S216 0 rfl (EnF.all λ _ => .bl _) (show (0 : Nat) < 100000 from by omega) λ H218 (S217 : M (acR K E195 (([c199] : List Bool).map eB) :: oo10 Rs) H218) => ?_
 refine ⟨.inl (.inl (S217.got 1 rfl)), ?_⟩
 refine g_name (g_wipe rfl (g_yes (v_ifT ?_)))
 refine te_cut hf (λ H => M (acR K E195 (([c199] : List Bool).map eB) :: pt p191 (.lst [(V.ref a6), (V.ref u53), (V.ref a62)]) :: dvR iS (vr (acI K)) p126 (pk s148 ("b" : Str) ([4] : List Int)) :: acR K p144 ((srtS' (ks s26.2)).map eS) :: R_House K a62 m131 :: acR K p82 (((srtS' (ks s26.2)).reverse).map eS) :: R_House K u53 x50 :: R_House K a6 s26.1 :: adR K iS (eL eI) p17 s26.2 :: bagR bag :: da K u4 ((eL eS) x1) :: Rs) H) (λ kk220 P221 hP222 hf => ?_) ?_
 ·
  refine g_andV (g_call (g_cons (g_var rfl (g_cons (g_var rfl (g_cons (g_c (g_nil (.inl (⟨_, _, _, _, _, _, _, rfl, (M.at (M.at S217 7 rfl) 7 rfl), hf, λ x225 H227 hf (S226 : M (oo11 Rs) H227) => ?_⟩))))))))))
  refine g_bl (v_iff hf (λ _ hf => ?_) (λ _ hf => ?_))
  ·
   refine g_call (g_cons (g_var rfl (g_cons (g_var rfl (g_nil (⟨_, _, _, _, _, DF.own, _, rfl, (M.at (bd_open (M.at S226 8 rfl)) 1 rfl), hf, λ x229 H231 hf (S230 : M (_ :: bdR K iS (eL eI) (V.ref p17) s26.2 DF.own :: oo9 Rs) H231) => ?_⟩))))))
   have S233 : M (adR K iS (eL eI) p17 s26.2 :: oo10 Rs) H231 := bd_close (M.at S230 1 rfl)
   exact hP222 _ _ hf (M.pk S233 11 [3, 4, 5, 6, 7, 8, 1, 2, 0, 9, 10] rfl)
  ·
   exact hP222 _ _ hf (M.pk S226 11 [2, 3, 4, 5, 6, 7, 0, 1, 8, 9, 10] rfl)
 intro c219 H235 hf S234
 refine acR_put (ds := ([c199] : List Bool).map eB) S234 0 rfl (EnF.all λ _ => .bl _) (show (1 : Nat) < 100000 from by omega) λ H237 (S236 : M (acR K E195 (([c199, c219] : List Bool).map eB) :: pt p191 (.lst [(V.ref a6), (V.ref u53), (V.ref a62)]) :: dvR iS (vr (acI K)) p126 (pk s148 ("b" : Str) ([4] : List Int)) :: acR K p144 ((srtS' (ks s26.2)).map eS) :: R_House K a62 m131 :: acR K p82 (((srtS' (ks s26.2)).reverse).map eS) :: R_House K u53 x50 :: R_House K a6 s26.1 :: adR K iS (eL eI) p17 s26.2 :: bagR bag :: da K u4 ((eL eS) x1) :: Rs) H237) => ?_
 refine ⟨.inl (.inl (S236.got 1 rfl)), ?_⟩
 refine g_name (g_wipe rfl (g_yes (v_ifT ?_)))
 refine te_cut hf (λ H => M (acR K E195 (([c199, c219] : List Bool).map eB) :: pt p191 (.lst [(V.ref a6), (V.ref u53), (V.ref a62)]) :: dvR iS (vr (acI K)) p126 (pk s148 ("b" : Str) ([4] : List Int)) :: acR K p144 ((srtS' (ks s26.2)).map eS) :: R_House K a62 m131 :: acR K p82 (((srtS' (ks s26.2)).reverse).map eS) :: R_House K u53 x50 :: R_House K a6 s26.1 :: adR K iS (eL eI) p17 s26.2 :: bagR bag :: da K u4 ((eL eS) x1) :: Rs) H) (λ kk239 P240 hP241 hf => ?_) ?_
 ·
  refine g_andV (g_call (g_cons (g_var rfl (g_cons (g_var rfl (g_cons (g_c (g_nil (.inl (⟨_, _, _, _, _, _, _, rfl, (M.at (M.at S236 7 rfl) 5 rfl), hf, λ x244 H246 hf (S245 : M (oo11 Rs) H246) => ?_⟩))))))))))
  refine g_bl (v_iff hf (λ _ hf => ?_) (λ _ hf => ?_))
  ·
   refine g_call (g_cons (g_var rfl (g_cons (g_var rfl (g_nil (⟨_, _, _, _, _, DF.own, _, rfl, (M.at (bd_open (M.at S245 8 rfl)) 1 rfl), hf, λ x248 H250 hf (S249 : M (_ :: bdR K iS (eL eI) (V.ref p17) s26.2 DF.own :: oo9 Rs) H250) => ?_⟩))))))
   have S252 : M (adR K iS (eL eI) p17 s26.2 :: oo10 Rs) H250 := bd_close (M.at S249 1 rfl)
   exact hP241 _ _ hf (M.pk S252 11 [3, 4, 5, 6, 1, 7, 8, 2, 0, 9, 10] rfl)
  ·
   exact hP241 _ _ hf (M.pk S245 11 [2, 3, 4, 5, 0, 6, 7, 1, 8, 9, 10] rfl)
 intro c238 H254 hf S253
 refine acR_put (ds := ([c199, c219] : List Bool).map eB) S253 0 rfl (EnF.all λ _ => .bl _) (show (2 : Nat) < 100000 from by omega) λ H256 (S255 : M (acR K E195 (([c199, c219, c238] : List Bool).map eB) :: pt p191 (.lst [(V.ref a6), (V.ref u53), (V.ref a62)]) :: dvR iS (vr (acI K)) p126 (pk s148 ("b" : Str) ([4] : List Int)) :: acR K p144 ((srtS' (ks s26.2)).map eS) :: R_House K a62 m131 :: acR K p82 (((srtS' (ks s26.2)).reverse).map eS) :: R_House K u53 x50 :: R_House K a6 s26.1 :: adR K iS (eL eI) p17 s26.2 :: bagR bag :: da K u4 ((eL eS) x1) :: Rs) H256) => ?_
 refine ⟨.inl (.inl (S255.got 1 rfl)), ?_⟩
 have S257 : M (da K (V.ref E195) ((eL eB) ([c199, c219, c238] : List Bool)) :: oo10 Rs) H256 := acR_fixL S255
 refine g_nil (v_all (M.gotA S257 0 rfl) (g_bl (v_iff hf (λ _ hf => ?_) (λ _ hf => ?_))))
 ·
  refine g_ret (g_c ?_)
  rw [show false = true from hf]
  exact k _
 ·
  refine g_next (g_nx (g_seq (g_for (g_iList (g_lst (g_cons (g_c (g_cons (g_c (g_cons (g_var rfl (v_fzD S257 8 rfl λ H260 (S259 : M (da K (V.ref p17) ((eD iS (eL eI)) s26.2) :: oo10 Rs) H260) => ?_))))))))))))
  refine g_cons (g_cb (g_cons (g_var rfl (g_nil ?_))))
  obtain ⟨h262, hf⟩ := hf
  refine d_srtS (M.dvA S259 0 rfl) h262 λ p263 H265 (S264 : M (acR K p263 ((srtS' (ks s26.2)).map eS) :: oo11 Rs) H265) => ?_
  have S267 : M (da K (V.ref p263) ((eL eS) (srtS' (ks s26.2))) :: oo11 Rs) H265 := acR_fixL S264
  refine g_cons (g_c (g_cons (g_c (g_cons (g_tup (g_nil (v_tupq S267 EnF.nilA (len_ok rfl) λ p269 H271 (S270 : M (da K (V.ref p269) (eV eA []) :: oo12 Rs) H271) => ?_)))))))
  refine g_nil (v_lsto (ds := ([eN (), eI 5, (eD iS (eL eI)) s26.2, (eL eS) (srtS' (ks s26.2)), eS ("a" : Str), eB true, (eV eA) ([] : List PyData)] : List PyData).map eA) S270 (EnF.consA (EnF.all λ _ => .non) (EnF.consA (EnF.all λ _ => .int _) (EnF.consA (EnF.at 2 rfl) (EnF.consA (EnF.at 1 rfl) (EnF.consA (EnF.all λ _ => .str _) (EnF.consA (EnF.all λ _ => .bl _) (EnF.consA (EnF.at 0 rfl) EnF.nilA))))))) (len_ok rfl) λ p273 H275 (S274 : M (acR K p273 (([eN (), eI 5, (eD iS (eL eI)) s26.2, (eL eS) (srtS' (ks s26.2)), eS ("a" : Str), eB true, (eV eA) ([] : List PyData)] : List PyData).map eA) :: oo13 Rs) H275) => ?_)
  have S277 : M (da K (V.ref p273) ((eL eA) ([eN (), eI 5, (eD iS (eL eI)) s26.2, (eL eS) (srtS' (ks s26.2)), eS ("a" : Str), eB true, (eV eA) ([] : List PyData)] : List PyData)) :: oo13 Rs) H275 := acR_fixL S274
  obtain ⟨a279, vs280, e_a279, S281⟩ := (S277.at 0 rfl).openQ
  refine v_itLe e_a279 (S281.gotR 0 rfl) ?_
  refine for_lst (K := K) (β := Unit) (e := eA) hf (λ (s289 : Unit) σ H' => ∃ (o293 : Option V), σ = [some (V.ref sc), some (V.ref bag), some u4, some (V.ref a6), some (V.ref p17), o32, some (V.ref u53), some (V.ref a62), some (V.ref p126), o153, some (V.ref p191), o293, none, none] /\ M (rdL K a279 vs280 :: daA K vs280 (([eN (), eI 5, (eD iS (eL eI)) s26.2, (eL eS) (srtS' (ks s26.2)), eS ("a" : Str), eB true, (eV eA) ([] : List PyData)] : List PyData).map eA) :: da K (V.ref p269) (eV eA []) :: da K (V.ref p263) ((eL eS) (srtS' (ks s26.2))) :: da K (V.ref p17) ((eD iS (eL eI)) s26.2) :: da K (V.ref E195) ((eL eB) ([c199, c219, c238] : List Bool)) :: pt p191 (.lst [(V.ref a6), (V.ref u53), (V.ref a62)]) :: dvR iS (vr (acI K)) p126 (pk s148 ("b" : Str) ([4] : List Int)) :: acR K p144 ((srtS' (ks s26.2)).map eS) :: R_House K a62 m131 :: acR K p82 (((srtS' (ks s26.2)).reverse).map eS) :: R_House K u53 x50 :: R_House K a6 s26.1 :: bagR bag :: da K u4 ((eL eS) x1) :: Rs) H') ⟨_, rfl, (M.sub (.cons 0 rfl (.cons 0 rfl (.cons 0 rfl (.cons 0 rfl (.cons 0 rfl (.cons 0 rfl (.cons 0 rfl (.cons 0 rfl (.cons 0 rfl (.cons 0 rfl (.cons 0 rfl (.cons 0 rfl (.cons 0 rfl (.cons 0 rfl (.cons 0 rfl (.refl _)))))))))))))))) S281)⟩ (λ _ _ _ h => by obtain ⟨_, _, S⟩ := h; exact ⟨S.gotR 0 rfl, S.gotAA 1 rfl⟩) ?_ ?_
  ·
   rintro i285 u286 x292 s289 _ H295 kk291 ⟨o293, rfl, S294⟩ hv287 hx288 hf
   have S296 := S294.elA 1 rfl hv287 hx288
   refine g_name (g_if (g_not (g_B (g_call (g_cons (g_lst (g_cons (g_op (g_var rfl (g_var rfl ?_))))))))))
   obtain ⟨_, _, Z298⟩ := i_R_House (M.at S296 13 rfl)
   refine .inr ⟨_, _, _, _, rfl, Z298, (Dq.dn ((M.gotA S296 0 rfl))), ?_⟩
   refine .inr (.inr (⟨_, _, _, _, _, _, rfl, (M.at (M.addA S296 (EnF.at 0 rfl)) 14 rfl), hf, λ x301 H303 hf (S302 : M (_ :: da K u286 (eA x292) :: oo14 Rs) H303) => ?_⟩))
   refine ⟨_, rfl, ?_⟩
   refine g_cons (g_op (g_var rfl (g_var rfl ?_)))
   obtain ⟨_, _, Z305⟩ := i_R_House (M.at S302 0 rfl)
   refine .inr ⟨_, _, _, _, rfl, Z305, (Dq.dn ((M.gotA S302 1 rfl))), ?_⟩
   refine .inr (.inr (⟨_, _, _, _, _, _, rfl, (M.at (M.addA S302 (EnF.at 1 rfl)) 1 rfl), hf, λ x308 H310 hf (S309 : M (oo2 (oo14 Rs)) H310) => ?_⟩))
   refine ⟨_, rfl, ?_⟩
   refine g_cons (g_op (g_make (g_nil (v_make S309 λ a312 dx313 H315 (S314 : M (pt a312 (.ins (He.ga K "House") dx313 []) :: pt dx313 (.own a312) :: oo2 (oo14 Rs)) H315) => ?_))))
   refine ⟨_, _, _, _, rfl, (M.at (M.at S314 1 rfl) 1 rfl), hf, λ m318 H320 hf (S319 : M (R_House K a312 m318 :: oo2 (oo14 Rs)) H320) => ?_⟩
   refine And.intro rfl (g_var rfl ?_)
   obtain ⟨_, _, Z323⟩ := i_R_House (M.at S319 0 rfl)
   refine .inr ⟨_, _, _, _, rfl, Z323, (Dq.dn ((M.gotA S319 2 rfl))), ?_⟩
   refine .inr (.inr (⟨_, _, _, _, _, _, rfl, (M.at (M.addA S319 (EnF.at 2 rfl)) 1 rfl), hf, λ x326 H328 hf (S327 : M (oo3 (oo14 Rs)) H328) => ?_⟩))
   refine ⟨_, rfl, ?_⟩
   refine g_nil (v_lsto (ds := ([x301, (!x308), x326]).map eB) S327 (EnF.consA (EnF.all λ _ => .bl _) (EnF.consA (EnF.all λ _ => .bl _) (EnF.consA (EnF.all λ _ => .bl _) EnF.nilA))) (len_ok rfl) λ p330 H332 (S331 : M (acR K p330 (([x301, (!x308), x326]).map eB) :: oo3 (oo14 Rs)) H332) => ?_)
   refine g_cons (g_lst (g_cons (g_c (g_cons (g_c (g_cons (g_c (g_nil (v_lsto (ds := ([false, true, false]).map eB) S331 (EnF.consA (EnF.all λ _ => .bl _) (EnF.consA (EnF.all λ _ => .bl _) (EnF.consA (EnF.all λ _ => .bl _) EnF.nilA))) (len_ok rfl) λ p334 H336 (S335 : M (acR K p334 (([false, true, false]).map eB) :: oo4 (oo14 Rs)) H336) => ?_)))))))))
   refine g_nil ?_
   obtain ⟨h338, hf⟩ := hf
   refine ⟨_, _, _, rfl, (Dq.dn (M.gotO S335 1 rfl)), (Dn.by_ h338.1 (Dq.dn (M.gotO S335 0 rfl))), h338.2, ?_⟩
   refine g_bl (v_ifcF (by decide) (g_next ?_))
   exact ⟨_, hf, _, rfl, (M.pk S335 19 [5, 6, 7, 8, 9, 10, 11, 12, 13, 14, 15, 16, 3, 17, 18] rfl)⟩
  rintro s289 _ H340 hf ⟨o293, rfl, S339⟩
  refine g_nx ?_
  show (_ : TS) _ [some (V.ref sc), some (V.ref bag), some u4, some (V.ref a6), some (V.ref p17), o32, some (V.ref u53), some (V.ref a62), some (V.ref p126), o153, some (V.ref p191), o293, none, none] _
  have S341 : M (oo12 Rs) H340 := (M.drp (M.drp (M.drp S339 5) 3) 2)
  refine g_seq (g_if ?_)
  refine tt_cut hf (λ H => M (rdL K a279 vs280 :: daA K vs280 (([eN (), eI 5, (eD iS (eL eI)) s26.2, (eL eS) (srtS' (ks s26.2)), eS ("a" : Str), eB true, (eV eA) ([] : List PyData)] : List PyData).map eA) :: da K (V.ref p17) ((eD iS (eL eI)) s26.2) :: pt p191 (.lst [(V.ref a6), (V.ref u53), (V.ref a62)]) :: dvR iS (vr (acI K)) p126 (pk s148 ("b" : Str) ([4] : List Int)) :: acR K p144 ((srtS' (ks s26.2)).map eS) :: R_House K a62 m131 :: acR K p82 (((srtS' (ks s26.2)).reverse).map eS) :: R_House K u53 x50 :: R_House K a6 s26.1 :: bagR bag :: da K u4 ((eL eS) x1) :: Rs) H) (λ kk343 P344 hP345 hf => ?_) ?_
  ·
   refine g_or (g_test (g_op (g_var rfl (v_dnewo S341 λ p348 H350 (S349 : M (adR K iS (eL eI) p348 ([] : (List (Str × (List Int)))) :: oo12 Rs) H350) => ?_))))
   refine v_eqE (M.dvA S349 3 rfl) S349 0 rfl (g_bl (v_iff hf (λ _ hf => ?_) (λ _ hf => ?_)))
   ·
    exact hP345 _ _ hf (M.pk S349 13 [1, 2, 3, 4, 5, 6, 7, 8, 9, 10, 11, 12] rfl)
   ·
    refine g_test (g_op (g_c (g_var rfl (d_inS (M.dvA S349 3 rfl) (g_bl ?_)))))
    exact hP345 _ _ hf (M.pk S349 13 [1, 2, 3, 4, 5, 6, 7, 8, 9, 10, 11, 12] rfl)
  intro c342 H353 hf S352
  refine v_iff hf (λ _ hf => ?_) (λ _ hf => ?_)
  ·
   refine g_ret (g_call (g_cons (g_make (g_nil (v_make S352 λ a354 dx355 H357 (S356 : M (pt a354 (.ins (He.ga K "House") dx355 []) :: pt dx355 (.own a354) :: rdL K a279 vs280 :: daA K vs280 (([eN (), eI 5, (eD iS (eL eI)) s26.2, (eL eS) (srtS' (ks s26.2)), eS ("a" : Str), eB true, (eV eA) ([] : List PyData)] : List PyData).map eA) :: da K (V.ref p17) ((eD iS (eL eI)) s26.2) :: pt p191 (.lst [(V.ref a6), (V.ref u53), (V.ref a62)]) :: dvR iS (vr (acI K)) p126 (pk s148 ("b" : Str) ([4] : List Int)) :: acR K p144 ((srtS' (ks s26.2)).map eS) :: R_House K a62 m131 :: acR K p82 (((srtS' (ks s26.2)).reverse).map eS) :: R_House K u53 x50 :: R_House K a6 s26.1 :: bagR bag :: da K u4 ((eL eS) x1) :: Rs) H357) => ?_)))))
   refine ⟨_, _, _, _, rfl, (M.at (M.at S356 1 rfl) 1 rfl), hf, λ m360 H362 hf (S361 : M (R_House K a354 m360 :: oo12 Rs) H362) => ?_⟩
   refine And.intro rfl (g_cons (g_var rfl (g_cons (g_op (g_var rfl (v_dnewo S361 λ p365 H367 (S366 : M (adR K iS (eL eI) p365 ([] : (List (Str × (List Int)))) :: oo13 Rs) H367) => ?_))))))
   refine v_eqE (M.dvA S366 4 rfl) S366 0 rfl (g_nil (.inl (⟨_, _, _, _, _, _, _, rfl, (M.at (M.at S366 11 rfl) 2 rfl), hf, λ x369 H371 hf (S370 : M (oo14 Rs) H371) => ?_⟩)))
   rw [show x369 = true from hf]
   exact k _
  ·
   refine g_next (g_nx (g_seq (g_asg (g_call (g_cons (g_var rfl (g_cons (g_c (g_nil ?_)))))))))
   obtain ⟨h373, hf⟩ := hf
   refine u_take (S352.at 10 rfl) h373 λ n374 H376 n374l n374u (S375 : M (bagR bag :: rdL K a279 vs280 :: daA K vs280 (([eN (), eI 5, (eD iS (eL eI)) s26.2, (eL eS) (srtS' (ks s26.2)), eS ("a" : Str), eB true, (eV eA) ([] : List PyData)] : List PyData).map eA) :: da K (V.ref p17) ((eD iS (eL eI)) s26.2) :: pt p191 (.lst [(V.ref a6), (V.ref u53), (V.ref a62)]) :: dvR iS (vr (acI K)) p126 (pk s148 ("b" : Str) ([4] : List Int)) :: acR K p144 ((srtS' (ks s26.2)).map eS) :: R_House K a62 m131 :: acR K p82 (((srtS' (ks s26.2)).reverse).map eS) :: R_House K u53 x50 :: R_House K a6 s26.1 :: da K u4 ((eL eS) x1) :: Rs) H376) => ?_
   replace hf := hf n374 n374l n374u
   refine g_nx ?_
   show (_ : TS) _ [some (V.ref sc), some (V.ref bag), some u4, some (V.ref a6), some (V.ref p17), o32, some (V.ref u53), some (V.ref a62), some (V.ref p126), o153, some (V.ref p191), o293, some (V.int n374), none] _
   rcases (show n374 = 0 \/ n374 = 1 \/ n374 = 2 by omega) with rfl | rfl | rfl
   ·
    replace hf := hf.1 rfl
    refine g_seq (g_drop (g_callW (g_cons (g_var rfl (g_cons (g_op (g_var rfl (g_var rfl (v_ixL (SqL.of (S375.got 4 rfl)) (i := 0) rfl (g_cons (g_var rfl (g_nil (⟨_, _, _, _, _, _, DF.dat, _, _, rfl, (M.at (M.at (M.addA S375 (EnF.at 3 rfl)) 11 rfl) 2 rfl), hf, λ x383 m382 d384 v385 H387 hf (S386 : M (pt d384 (.xd [(x383.fld, v385)]) :: da K v385 x383.val :: _ :: R_House K a6 m382 :: bdR K iS (eL eI) (V.ref p17) s26.2 DF.dat :: oo10 Rs) H387) => ?_, λ m378 H380 hf (S379 : M (_ :: R_House K a6 m378 :: oo11 Rs) H380) => ?_⟩)))))))))))))
    ·
     exact hf.elim
    refine g_nx ?_
    show (_ : TS) _ [some (V.ref sc), some (V.ref bag), some u4, some (V.ref a6), some (V.ref p17), o32, some (V.ref u53), some (V.ref a62), some (V.ref p126), o153, some (V.ref p191), o293, some (V.int 0), none] _
    refine g_seq ?_
    refine g_for (g_iRng1 (g_cons (g_c (g_nil (v_itR ⟨by decide, by decide⟩ (for_UR [V.int 0, V.int 1, V.int 2] (by rfl) ?_))))))
    refine ⟨trivial, ?_⟩
    refine g_name (g_if ?_)
    refine tt_cut hf (λ H => M (bagR bag :: R_House K a6 m378 :: bdR K iS (eL eI) (V.ref p17) s26.2 DF.dat :: rdL K a279 vs280 :: daA K vs280 (([eN (), eI 5, (eD iS (eL eI)) s26.2, (eL eS) (srtS' (ks s26.2)), eS ("a" : Str), eB true, (eV eA) ([] : List PyData)] : List PyData).map eA) :: da K (V.ref p17) ((eD iS (eL eI)) s26.2) :: pt p191 (.lst [(V.ref a6), (V.ref u53), (V.ref a62)]) :: dvR iS (vr (acI K)) p126 (pk s148 ("b" : Str) ([4] : List Int)) :: acR K p144 ((srtS' (ks s26.2)).map eS) :: R_House K a62 m131 :: acR K p82 (((srtS' (ks s26.2)).reverse).map eS) :: R_House K u53 x50 :: da K u4 ((eL eS) x1) :: Rs) H) (λ kk391 P392 hP393 hf => ?_) ?_
    ·
     refine g_or (g_not (g_B (g_call (g_cons (g_op (g_var rfl (g_var rfl (v_ixL (SqL.of (S379.got 6 rfl)) (i := 0) rfl (g_cons (g_op (g_var rfl (g_var rfl (v_ixL (SqL.of (S379.got 6 rfl)) (i := 0) rfl (g_cons (g_op (g_var rfl (g_var rfl (v_eqI (g_nil (.inr (⟨_, _, _, _, _, rfl, (M.at S379 1 rfl), hf, λ x396 H398 hf (S397 : M (oo13 Rs) H398) => ?_⟩)))))))))))))))))))))
     refine g_bl (v_iff hf (λ _ hf => ?_) (λ _ hf => ?_))
     ·
      exact hP393 _ _ hf (M.pk S397 13 [1, 0, 2, 3, 4, 5, 6, 7, 8, 9, 10, 11, 12] rfl)
     ·
      refine tt_cut hf (λ H => M (R_House K a6 m378 :: bagR bag :: bdR K iS (eL eI) (V.ref p17) s26.2 DF.dat :: rdL K a279 vs280 :: daA K vs280 (([eN (), eI 5, (eD iS (eL eI)) s26.2, (eL eS) (srtS' (ks s26.2)), eS ("a" : Str), eB true, (eV eA) ([] : List PyData)] : List PyData).map eA) :: da K (V.ref p17) ((eD iS (eL eI)) s26.2) :: pt p191 (.lst [(V.ref a6), (V.ref u53), (V.ref a62)]) :: dvR iS (vr (acI K)) p126 (pk s148 ("b" : Str) ([4] : List Int)) :: acR K p144 ((srtS' (ks s26.2)).map eS) :: R_House K a62 m131 :: acR K p82 (((srtS' (ks s26.2)).reverse).map eS) :: R_House K u53 x50 :: da K u4 ((eL eS) x1) :: Rs) H) (λ kk401 P402 hP403 hf => ?_) ?_
      ·
       refine g_and (g_test (g_op (g_var rfl (g_var rfl (v_neI (g_bl (v_ifcF (by decide) ?_)))))))
       exact hP403 _ _ hf (M.pk S397 13 [0, 1, 2, 3, 4, 5, 6, 7, 8, 9, 10, 11, 12] rfl)
      intro c400 H407 hf S406
      exact hP393 _ _ hf (M.sub (.cons 1 rfl (.cons 0 rfl (.cons 0 rfl (.cons 0 rfl (.cons 0 rfl (.cons 0 rfl (.cons 0 rfl (.cons 0 rfl (.cons 0 rfl (.cons 0 rfl (.cons 0 rfl (.cons 0 rfl (.cons 0 rfl (.refl _)))))))))))))) S406)
    intro c390 H409 hf S408
    refine v_iff hf (λ _ hf => ?_) (λ _ hf => ?_)
    ·
     refine g_ret (g_c ?_)
     rw [show false = true from hf]
     exact k _
    ·
     refine g_next ?_
     refine ⟨trivial, ?_⟩
     refine g_name (g_if ?_)
     refine tt_cut hf (λ H => M (bagR bag :: R_House K a6 m378 :: bdR K iS (eL eI) (V.ref p17) s26.2 DF.dat :: rdL K a279 vs280 :: daA K vs280 (([eN (), eI 5, (eD iS (eL eI)) s26.2, (eL eS) (srtS' (ks s26.2)), eS ("a" : Str), eB true, (eV eA) ([] : List PyData)] : List PyData).map eA) :: da K (V.ref p17) ((eD iS (eL eI)) s26.2) :: pt p191 (.lst [(V.ref a6), (V.ref u53), (V.ref a62)]) :: dvR iS (vr (acI K)) p126 (pk s148 ("b" : Str) ([4] : List Int)) :: acR K p144 ((srtS' (ks s26.2)).map eS) :: R_House K a62 m131 :: acR K p82 (((srtS' (ks s26.2)).reverse).map eS) :: R_House K u53 x50 :: da K u4 ((eL eS) x1) :: Rs) H) (λ kk411 P412 hP413 hf => ?_) ?_
     ·
      refine g_or (g_not (g_B (g_call (g_cons (g_op (g_var rfl (g_var rfl (v_ixL (SqL.of (S408.got 6 rfl)) (i := 1) rfl (g_cons (g_op (g_var rfl (g_var rfl (v_ixL (SqL.of (S408.got 6 rfl)) (i := 0) rfl (g_cons (g_op (g_var rfl (g_var rfl (v_eqI (g_nil (.inl (⟨_, _, _, _, _, _, _, rfl, (M.at (M.at S408 1 rfl) 11 rfl), hf, λ x416 H418 hf (S417 : M (R_House K u53 x50 :: R_House K a6 m378 :: bagR bag :: bdR K iS (eL eI) (V.ref p17) s26.2 DF.dat :: rdL K a279 vs280 :: daA K vs280 (([eN (), eI 5, (eD iS (eL eI)) s26.2, (eL eS) (srtS' (ks s26.2)), eS ("a" : Str), eB true, (eV eA) ([] : List PyData)] : List PyData).map eA) :: da K (V.ref p17) ((eD iS (eL eI)) s26.2) :: pt p191 (.lst [(V.ref a6), (V.ref u53), (V.ref a62)]) :: dvR iS (vr (acI K)) p126 (pk s148 ("b" : Str) ([4] : List Int)) :: acR K p144 ((srtS' (ks s26.2)).map eS) :: R_House K a62 m131 :: acR K p82 (((srtS' (ks s26.2)).reverse).map eS) :: da K u4 ((eL eS) x1) :: Rs) H418) => ?_⟩)))))))))))))))))))))
      refine g_bl (v_iff hf (λ _ hf => ?_) (λ _ hf => ?_))
      ·
       exact hP413 _ _ hf (M.pk S417 13 [2, 1, 3, 4, 5, 6, 7, 8, 9, 10, 11, 0, 12] rfl)
      ·
       refine tt_cut hf (λ H => M (R_House K u53 x50 :: R_House K a6 m378 :: bagR bag :: bdR K iS (eL eI) (V.ref p17) s26.2 DF.dat :: rdL K a279 vs280 :: daA K vs280 (([eN (), eI 5, (eD iS (eL eI)) s26.2, (eL eS) (srtS' (ks s26.2)), eS ("a" : Str), eB true, (eV eA) ([] : List PyData)] : List PyData).map eA) :: da K (V.ref p17) ((eD iS (eL eI)) s26.2) :: pt p191 (.lst [(V.ref a6), (V.ref u53), (V.ref a62)]) :: dvR iS (vr (acI K)) p126 (pk s148 ("b" : Str) ([4] : List Int)) :: acR K p144 ((srtS' (ks s26.2)).map eS) :: R_House K a62 m131 :: acR K p82 (((srtS' (ks s26.2)).reverse).map eS) :: da K u4 ((eL eS) x1) :: Rs) H) (λ kk421 P422 hP423 hf => ?_) ?_
       ·
        refine g_and (g_test (g_op (g_var rfl (g_var rfl (v_neI (g_bl (v_ifcT (by decide) (g_not (g_B (g_call (g_cons (g_op (g_var rfl (g_var rfl (v_ixL (SqL.of (S417.got 7 rfl)) (i := 1) rfl (g_cons (g_var rfl (g_nil (⟨_, _, _, _, _, DF.dat, _, rfl, (M.at (M.addA S417 (EnF.at 6 rfl)) 1 rfl), hf, λ x427 H429 hf (S428 : M (oo14 Rs) H429) => ?_⟩)))))))))))))))))))
        refine g_bl ?_
        exact hP423 _ _ hf (M.pk S428 14 [0, 2, 3, 4, 5, 6, 7, 8, 9, 10, 11, 12, 13] rfl)
       intro c420 H432 hf S431
       exact hP413 _ _ hf (M.sub (.cons 2 rfl (.cons 1 rfl (.cons 1 rfl (.cons 1 rfl (.cons 1 rfl (.cons 1 rfl (.cons 1 rfl (.cons 1 rfl (.cons 1 rfl (.cons 1 rfl (.cons 1 rfl (.cons 0 rfl (.cons 0 rfl (.refl _)))))))))))))) S431)
     intro c410 H434 hf S433
     refine v_iff hf (λ _ hf => ?_) (λ _ hf => ?_)
     ·
      refine g_ret (g_c ?_)
      rw [show false = true from hf]
      exact k _
     ·
      refine g_next ?_
      refine ⟨trivial, ?_⟩
      refine g_name (g_if ?_)
      refine tt_cut hf (λ H => M (bagR bag :: R_House K a6 m378 :: bdR K iS (eL eI) (V.ref p17) s26.2 DF.dat :: rdL K a279 vs280 :: daA K vs280 (([eN (), eI 5, (eD iS (eL eI)) s26.2, (eL eS) (srtS' (ks s26.2)), eS ("a" : Str), eB true, (eV eA) ([] : List PyData)] : List PyData).map eA) :: da K (V.ref p17) ((eD iS (eL eI)) s26.2) :: pt p191 (.lst [(V.ref a6), (V.ref u53), (V.ref a62)]) :: dvR iS (vr (acI K)) p126 (pk s148 ("b" : Str) ([4] : List Int)) :: acR K p144 ((srtS' (ks s26.2)).map eS) :: R_House K a62 m131 :: acR K p82 (((srtS' (ks s26.2)).reverse).map eS) :: R_House K u53 x50 :: da K u4 ((eL eS) x1) :: Rs) H) (λ kk436 P437 hP438 hf => ?_) ?_
      ·
       refine g_or (g_not (g_B (g_call (g_cons (g_op (g_var rfl (g_var rfl (v_ixL (SqL.of (S433.got 6 rfl)) (i := 2) rfl (g_cons (g_op (g_var rfl (g_var rfl (v_ixL (SqL.of (S433.got 6 rfl)) (i := 0) rfl (g_cons (g_op (g_var rfl (g_var rfl (v_eqI (g_nil (.inl (⟨_, _, _, _, _, _, _, rfl, (M.at (M.at S433 1 rfl) 9 rfl), hf, λ x441 H443 hf (S442 : M (R_House K a62 m131 :: R_House K a6 m378 :: bagR bag :: bdR K iS (eL eI) (V.ref p17) s26.2 DF.dat :: rdL K a279 vs280 :: daA K vs280 (([eN (), eI 5, (eD iS (eL eI)) s26.2, (eL eS) (srtS' (ks s26.2)), eS ("a" : Str), eB true, (eV eA) ([] : List PyData)] : List PyData).map eA) :: da K (V.ref p17) ((eD iS (eL eI)) s26.2) :: pt p191 (.lst [(V.ref a6), (V.ref u53), (V.ref a62)]) :: dvR iS (vr (acI K)) p126 (pk s148 ("b" : Str) ([4] : List Int)) :: acR K p144 ((srtS' (ks s26.2)).map eS) :: acR K p82 (((srtS' (ks s26.2)).reverse).map eS) :: R_House K u53 x50 :: da K u4 ((eL eS) x1) :: Rs) H443) => ?_⟩)))))))))))))))))))))
       refine g_bl (v_iff hf (λ _ hf => ?_) (λ _ hf => ?_))
       ·
        exact hP438 _ _ hf (M.pk S442 13 [2, 1, 3, 4, 5, 6, 7, 8, 9, 0, 10, 11, 12] rfl)
       ·
        refine tt_cut hf (λ H => M (R_House K a62 m131 :: R_House K a6 m378 :: bagR bag :: bdR K iS (eL eI) (V.ref p17) s26.2 DF.dat :: rdL K a279 vs280 :: daA K vs280 (([eN (), eI 5, (eD iS (eL eI)) s26.2, (eL eS) (srtS' (ks s26.2)), eS ("a" : Str), eB true, (eV eA) ([] : List PyData)] : List PyData).map eA) :: da K (V.ref p17) ((eD iS (eL eI)) s26.2) :: pt p191 (.lst [(V.ref a6), (V.ref u53), (V.ref a62)]) :: dvR iS (vr (acI K)) p126 (pk s148 ("b" : Str) ([4] : List Int)) :: acR K p144 ((srtS' (ks s26.2)).map eS) :: acR K p82 (((srtS' (ks s26.2)).reverse).map eS) :: R_House K u53 x50 :: da K u4 ((eL eS) x1) :: Rs) H) (λ kk446 P447 hP448 hf => ?_) ?_
        ·
         refine g_and (g_test (g_op (g_var rfl (g_var rfl (v_neI (g_bl (v_ifcT (by decide) (g_not (g_B (g_call (g_cons (g_op (g_var rfl (g_var rfl (v_ixL (SqL.of (S442.got 7 rfl)) (i := 2) rfl (g_cons (g_var rfl (g_nil (⟨_, _, _, _, _, DF.dat, _, rfl, (M.at (M.addA S442 (EnF.at 6 rfl)) 1 rfl), hf, λ x452 H454 hf (S453 : M (oo14 Rs) H454) => ?_⟩)))))))))))))))))))
         refine g_bl ?_
         exact hP448 _ _ hf (M.pk S453 14 [0, 2, 3, 4, 5, 6, 7, 8, 9, 10, 11, 12, 13] rfl)
        intro c445 H457 hf S456
        exact hP438 _ _ hf (M.sub (.cons 2 rfl (.cons 1 rfl (.cons 1 rfl (.cons 1 rfl (.cons 1 rfl (.cons 1 rfl (.cons 1 rfl (.cons 1 rfl (.cons 1 rfl (.cons 0 rfl (.cons 0 rfl (.cons 0 rfl (.cons 0 rfl (.refl _)))))))))))))) S456)
      intro c435 H459 hf S458
      refine v_iff hf (λ _ hf => ?_) (λ _ hf => ?_)
      ·
       refine g_ret (g_c ?_)
       rw [show false = true from hf]
       exact k _
      ·
       refine g_next ?_
       refine ⟨trivial, ?_⟩
       refine g_nx ?_
       show (_ : TS) _ [some (V.ref sc), some (V.ref bag), some u4, some (V.ref a6), some (V.ref p17), some (V.int 2), some (V.ref u53), some (V.ref a62), some (V.ref p126), o153, some (V.ref p191), o293, some (V.int 0), none] _
       refine g_seq (g_drop (g_meth (g_op (g_var rfl (g_var rfl (v_ixL (SqL.of (S458.got 6 rfl)) (i := 0) rfl (v_R_House S458 1 rfl (λ _ _ => rfl) (g_cons (g_var rfl (g_nil (.inl (⟨_, _, _, _, _, _, _, rfl, (M.at (M.addA S458 (EnF.at 5 rfl)) 2 rfl), hf, λ x466 m465 d467 v468 H470 hf (S469 : M (pt d467 (.xd [(x466.fld, v468)]) :: da K v468 x466.val :: R_House K a6 m465 :: bagR bag :: bdR K iS (eL eI) (V.ref p17) s26.2 DF.dat :: rdL K a279 vs280 :: daA K vs280 (([eN (), eI 5, (eD iS (eL eI)) s26.2, (eL eS) (srtS' (ks s26.2)), eS ("a" : Str), eB true, (eV eA) ([] : List PyData)] : List PyData).map eA) :: da K (V.ref p17) ((eD iS (eL eI)) s26.2) :: pt p191 (.lst [(V.ref a6), (V.ref u53), (V.ref a62)]) :: dvR iS (vr (acI K)) p126 (pk s148 ("b" : Str) ([4] : List Int)) :: acR K p144 ((srtS' (ks s26.2)).map eS) :: R_House K a62 m131 :: acR K p82 (((srtS' (ks s26.2)).reverse).map eS) :: R_House K u53 x50 :: da K u4 ((eL eS) x1) :: Rs) H470) => ?_, λ m461 H463 hf (S462 : M (R_House K a6 m461 :: oo12 Rs) H463) => ?_⟩))))))))))))
       ·
        exact hf.elim
       refine g_nx ?_
       show (_ : TS) _ [some (V.ref sc), some (V.ref bag), some u4, some (V.ref a6), some (V.ref p17), some (V.int 2), some (V.ref u53), some (V.ref a62), some (V.ref p126), o153, some (V.ref p191), o293, some (V.int 0), none] _
       refine g_ret ?_
       refine te_cut hf (λ H => M (R_House K a6 m461 :: bagR bag :: bdR K iS (eL eI) (V.ref p17) s26.2 DF.dat :: rdL K a279 vs280 :: daA K vs280 (([eN (), eI 5, (eD iS (eL eI)) s26.2, (eL eS) (srtS' (ks s26.2)), eS ("a" : Str), eB true, (eV eA) ([] : List PyData)] : List PyData).map eA) :: da K (V.ref p17) ((eD iS (eL eI)) s26.2) :: pt p191 (.lst [(V.ref a6), (V.ref u53), (V.ref a62)]) :: dvR iS (vr (acI K)) p126 (pk s148 ("b" : Str) ([4] : List Int)) :: acR K p144 ((srtS' (ks s26.2)).map eS) :: R_House K a62 m131 :: acR K p82 (((srtS' (ks s26.2)).reverse).map eS) :: R_House K u53 x50 :: da K u4 ((eL eS) x1) :: Rs) H) (λ kk474 P475 hP476 hf => ?_) ?_
       ·
        obtain ⟨h479, hf⟩ := hf
        refine g_andV (g_call (g_cons (g_op (g_var rfl (g_var rfl (v_ixL (SqL.of (S462.got 6 rfl)) (i := 0) rfl (g_cons (g_op (g_var rfl (g_op (g_op (g_var rfl (g_c (v_add (g_c (v_mod h479 (v_ixL (SqL.of (S462.got 6 rfl)) (i := ((0 + 1) % 3)) rfl (g_cons (g_c (g_nil (.inl (⟨_, _, _, _, _, _, _, rfl, (M.at (M.at S462 11 rfl) 1 rfl), hf, λ x480 H482 hf (S481 : M (oo13 Rs) H482) => ?_⟩))))))))))))))))))))))
        refine g_bl (v_iff hf (λ _ hf => ?_) (λ _ hf => ?_))
        ·
         refine g_call (g_cons (g_op (g_var rfl (g_var rfl (v_ixL (SqL.of (S481.got 7 rfl)) (i := 0) rfl (g_cons (g_var rfl (g_nil (⟨_, _, _, _, _, DF.dat, _, rfl, (M.at (M.addA S481 (EnF.at 6 rfl)) 1 rfl), hf, λ x485 H487 hf (S486 : M (oo14 Rs) H487) => ?_⟩)))))))))
         exact hP476 _ _ hf (M.pk S486 14 [0, 3, 4, 5, 6, 7, 8, 9, 10, 11, 12, 2, 13] rfl)
        ·
         exact hP476 _ _ hf (M.pk S481 13 [0, 2, 3, 4, 5, 6, 7, 8, 9, 10, 11, 1, 12] rfl)
       intro c473 H490 hf S489
       rw [show c473 = true from hf]
       exact k _
   ·
    replace hf := hf.2.1 rfl
    refine g_seq (g_drop (g_callW (g_cons (g_var rfl (g_cons (g_op (g_var rfl (g_var rfl (v_ixL (SqL.of (S375.got 4 rfl)) (i := 1) rfl (g_cons (g_var rfl (g_nil (⟨_, _, _, _, _, _, DF.dat, _, _, rfl, (M.at (M.at (M.addA S375 (EnF.at 3 rfl)) 10 rfl) 2 rfl), hf, λ x497 m496 d498 v499 H501 hf (S500 : M (pt d498 (.xd [(x497.fld, v499)]) :: da K v499 x497.val :: _ :: R_House K u53 m496 :: bdR K iS (eL eI) (V.ref p17) s26.2 DF.dat :: oo10 Rs) H501) => ?_, λ m492 H494 hf (S493 : M (_ :: R_House K u53 m492 :: oo11 Rs) H494) => ?_⟩)))))))))))))
    ·
     exact hf.elim
    refine g_nx ?_
    show (_ : TS) _ [some (V.ref sc), some (V.ref bag), some u4, some (V.ref a6), some (V.ref p17), o32, some (V.ref u53), some (V.ref a62), some (V.ref p126), o153, some (V.ref p191), o293, some (V.int 1), none] _
    refine g_seq ?_
    refine g_for (g_iRng1 (g_cons (g_c (g_nil (v_itR ⟨by decide, by decide⟩ (for_UR [V.int 0, V.int 1, V.int 2] (by rfl) ?_))))))
    refine ⟨trivial, ?_⟩
    refine g_name (g_if ?_)
    refine tt_cut hf (λ H => M (bagR bag :: R_House K u53 m492 :: bdR K iS (eL eI) (V.ref p17) s26.2 DF.dat :: rdL K a279 vs280 :: daA K vs280 (([eN (), eI 5, (eD iS (eL eI)) s26.2, (eL eS) (srtS' (ks s26.2)), eS ("a" : Str), eB true, (eV eA) ([] : List PyData)] : List PyData).map eA) :: da K (V.ref p17) ((eD iS (eL eI)) s26.2) :: pt p191 (.lst [(V.ref a6), (V.ref u53), (V.ref a62)]) :: dvR iS (vr (acI K)) p126 (pk s148 ("b" : Str) ([4] : List Int)) :: acR K p144 ((srtS' (ks s26.2)).map eS) :: R_House K a62 m131 :: acR K p82 (((srtS' (ks s26.2)).reverse).map eS) :: R_House K a6 s26.1 :: da K u4 ((eL eS) x1) :: Rs) H) (λ kk505 P506 hP507 hf => ?_) ?_
    ·
     refine g_or (g_not (g_B (g_call (g_cons (g_op (g_var rfl (g_var rfl (v_ixL (SqL.of (S493.got 6 rfl)) (i := 0) rfl (g_cons (g_op (g_var rfl (g_var rfl (v_ixL (SqL.of (S493.got 6 rfl)) (i := 1) rfl (g_cons (g_op (g_var rfl (g_var rfl (v_eqI (g_nil (.inl (⟨_, _, _, _, _, _, _, rfl, (M.at (M.at S493 1 rfl) 11 rfl), hf, λ x510 H512 hf (S511 : M (oo13 Rs) H512) => ?_⟩)))))))))))))))))))))
     refine g_bl (v_iff hf (λ _ hf => ?_) (λ _ hf => ?_))
     ·
      exact hP507 _ _ hf (M.pk S511 13 [2, 1, 3, 4, 5, 6, 7, 8, 9, 10, 11, 0, 12] rfl)
     ·
      refine tt_cut hf (λ H => M (R_House K a6 s26.1 :: R_House K u53 m492 :: bagR bag :: bdR K iS (eL eI) (V.ref p17) s26.2 DF.dat :: rdL K a279 vs280 :: daA K vs280 (([eN (), eI 5, (eD iS (eL eI)) s26.2, (eL eS) (srtS' (ks s26.2)), eS ("a" : Str), eB true, (eV eA) ([] : List PyData)] : List PyData).map eA) :: da K (V.ref p17) ((eD iS (eL eI)) s26.2) :: pt p191 (.lst [(V.ref a6), (V.ref u53), (V.ref a62)]) :: dvR iS (vr (acI K)) p126 (pk s148 ("b" : Str) ([4] : List Int)) :: acR K p144 ((srtS' (ks s26.2)).map eS) :: R_House K a62 m131 :: acR K p82 (((srtS' (ks s26.2)).reverse).map eS) :: da K u4 ((eL eS) x1) :: Rs) H) (λ kk515 P516 hP517 hf => ?_) ?_
      ·
       refine g_and (g_test (g_op (g_var rfl (g_var rfl (v_neI (g_bl (v_ifcT (by decide) (g_not (g_B (g_call (g_cons (g_op (g_var rfl (g_var rfl (v_ixL (SqL.of (S511.got 7 rfl)) (i := 0) rfl (g_cons (g_var rfl (g_nil (⟨_, _, _, _, _, DF.dat, _, rfl, (M.at (M.addA S511 (EnF.at 6 rfl)) 1 rfl), hf, λ x521 H523 hf (S522 : M (oo14 Rs) H523) => ?_⟩)))))))))))))))))))
       refine g_bl ?_
       exact hP517 _ _ hf (M.pk S522 14 [0, 2, 3, 4, 5, 6, 7, 8, 9, 10, 11, 12, 13] rfl)
      intro c514 H526 hf S525
      exact hP507 _ _ hf (M.sub (.cons 2 rfl (.cons 1 rfl (.cons 1 rfl (.cons 1 rfl (.cons 1 rfl (.cons 1 rfl (.cons 1 rfl (.cons 1 rfl (.cons 1 rfl (.cons 1 rfl (.cons 1 rfl (.cons 0 rfl (.cons 0 rfl (.refl _)))))))))))))) S525)
    intro c504 H528 hf S527
    refine v_iff hf (λ _ hf => ?_) (λ _ hf => ?_)
    ·
     refine g_ret (g_c ?_)
     rw [show false = true from hf]
     exact k _
    ·
     refine g_next ?_
     refine ⟨trivial, ?_⟩
     refine g_name (g_if ?_)
     refine tt_cut hf (λ H => M (bagR bag :: R_House K u53 m492 :: bdR K iS (eL eI) (V.ref p17) s26.2 DF.dat :: rdL K a279 vs280 :: daA K vs280 (([eN (), eI 5, (eD iS (eL eI)) s26.2, (eL eS) (srtS' (ks s26.2)), eS ("a" : Str), eB true, (eV eA) ([] : List PyData)] : List PyData).map eA) :: da K (V.ref p17) ((eD iS (eL eI)) s26.2) :: pt p191 (.lst [(V.ref a6), (V.ref u53), (V.ref a62)]) :: dvR iS (vr (acI K)) p126 (pk s148 ("b" : Str) ([4] : List Int)) :: acR K p144 ((srtS' (ks s26.2)).map eS) :: R_House K a62 m131 :: acR K p82 (((srtS' (ks s26.2)).reverse).map eS) :: R_House K a6 s26.1 :: da K u4 ((eL eS) x1) :: Rs) H) (λ kk530 P531 hP532 hf => ?_) ?_
     ·
      refine g_or (g_not (g_B (g_call (g_cons (g_op (g_var rfl (g_var rfl (v_ixL (SqL.of (S527.got 6 rfl)) (i := 1) rfl (g_cons (g_op (g_var rfl (g_var rfl (v_ixL (SqL.of (S527.got 6 rfl)) (i := 1) rfl (g_cons (g_op (g_var rfl (g_var rfl (v_eqI (g_nil (.inr (⟨_, _, _, _, _, rfl, (M.at S527 1 rfl), hf, λ x535 H537 hf (S536 : M (R_House K u53 m492 :: bagR bag :: bdR K iS (eL eI) (V.ref p17) s26.2 DF.dat :: rdL K a279 vs280 :: daA K vs280 (([eN (), eI 5, (eD iS (eL eI)) s26.2, (eL eS) (srtS' (ks s26.2)), eS ("a" : Str), eB true, (eV eA) ([] : List PyData)] : List PyData).map eA) :: da K (V.ref p17) ((eD iS (eL eI)) s26.2) :: pt p191 (.lst [(V.ref a6), (V.ref u53), (V.ref a62)]) :: dvR iS (vr (acI K)) p126 (pk s148 ("b" : Str) ([4] : List Int)) :: acR K p144 ((srtS' (ks s26.2)).map eS) :: R_House K a62 m131 :: acR K p82 (((srtS' (ks s26.2)).reverse).map eS) :: R_House K a6 s26.1 :: da K u4 ((eL eS) x1) :: Rs) H537) => ?_⟩)))))))))))))))))))))
      refine g_bl (v_iff hf (λ _ hf => ?_) (λ _ hf => ?_))
      ·
       exact hP532 _ _ hf (M.pk S536 13 [1, 0, 2, 3, 4, 5, 6, 7, 8, 9, 10, 11, 12] rfl)
      ·
       refine tt_cut hf (λ H => M (R_House K u53 m492 :: bagR bag :: bdR K iS (eL eI) (V.ref p17) s26.2 DF.dat :: rdL K a279 vs280 :: daA K vs280 (([eN (), eI 5, (eD iS (eL eI)) s26.2, (eL eS) (srtS' (ks s26.2)), eS ("a" : Str), eB true, (eV eA) ([] : List PyData)] : List PyData).map eA) :: da K (V.ref p17) ((eD iS (eL eI)) s26.2) :: pt p191 (.lst [(V.ref a6), (V.ref u53), (V.ref a62)]) :: dvR iS (vr (acI K)) p126 (pk s148 ("b" : Str) ([4] : List Int)) :: acR K p144 ((srtS' (ks s26.2)).map eS) :: R_House K a62 m131 :: acR K p82 (((srtS' (ks s26.2)).reverse).map eS) :: R_House K a6 s26.1 :: da K u4 ((eL eS) x1) :: Rs) H) (λ kk540 P541 hP542 hf => ?_) ?_
       ·
        refine g_and (g_test (g_op (g_var rfl (g_var rfl (v_neI (g_bl (v_ifcF (by decide) ?_)))))))
        exact hP542 _ _ hf (M.pk S536 13 [0, 1, 2, 3, 4, 5, 6, 7, 8, 9, 10, 11, 12] rfl)
       intro c539 H546 hf S545
       exact hP532 _ _ hf (M.sub (.cons 1 rfl (.cons 0 rfl (.cons 0 rfl (.cons 0 rfl (.cons 0 rfl (.cons 0 rfl (.cons 0 rfl (.cons 0 rfl (.cons 0 rfl (.cons 0 rfl (.cons 0 rfl (.cons 0 rfl (.cons 0 rfl (.refl _)))))))))))))) S545)
     intro c529 H548 hf S547
     refine v_iff hf (λ _ hf => ?_) (λ _ hf => ?_)
     ·
      refine g_ret (g_c ?_)
      rw [show false = true from hf]
      exact k _
     ·
      refine g_next ?_
      refine ⟨trivial, ?_⟩
      refine g_name (g_if ?_)
      refine tt_cut hf (λ H => M (bagR bag :: R_House K u53 m492 :: bdR K iS (eL eI) (V.ref p17) s26.2 DF.dat :: rdL K a279 vs280 :: daA K vs280 (([eN (), eI 5, (eD iS (eL eI)) s26.2, (eL eS) (srtS' (ks s26.2)), eS ("a" : Str), eB true, (eV eA) ([] : List PyData)] : List PyData).map eA) :: da K (V.ref p17) ((eD iS (eL eI)) s26.2) :: pt p191 (.lst [(V.ref a6), (V.ref u53), (V.ref a62)]) :: dvR iS (vr (acI K)) p126 (pk s148 ("b" : Str) ([4] : List Int)) :: acR K p144 ((srtS' (ks s26.2)).map eS) :: R_House K a62 m131 :: acR K p82 (((srtS' (ks s26.2)).reverse).map eS) :: R_House K a6 s26.1 :: da K u4 ((eL eS) x1) :: Rs) H) (λ kk550 P551 hP552 hf => ?_) ?_
      ·
       refine g_or (g_not (g_B (g_call (g_cons (g_op (g_var rfl (g_var rfl (v_ixL (SqL.of (S547.got 6 rfl)) (i := 2) rfl (g_cons (g_op (g_var rfl (g_var rfl (v_ixL (SqL.of (S547.got 6 rfl)) (i := 1) rfl (g_cons (g_op (g_var rfl (g_var rfl (v_eqI (g_nil (.inl (⟨_, _, _, _, _, _, _, rfl, (M.at (M.at S547 1 rfl) 9 rfl), hf, λ x555 H557 hf (S556 : M (R_House K a62 m131 :: R_House K u53 m492 :: bagR bag :: bdR K iS (eL eI) (V.ref p17) s26.2 DF.dat :: rdL K a279 vs280 :: daA K vs280 (([eN (), eI 5, (eD iS (eL eI)) s26.2, (eL eS) (srtS' (ks s26.2)), eS ("a" : Str), eB true, (eV eA) ([] : List PyData)] : List PyData).map eA) :: da K (V.ref p17) ((eD iS (eL eI)) s26.2) :: pt p191 (.lst [(V.ref a6), (V.ref u53), (V.ref a62)]) :: dvR iS (vr (acI K)) p126 (pk s148 ("b" : Str) ([4] : List Int)) :: acR K p144 ((srtS' (ks s26.2)).map eS) :: acR K p82 (((srtS' (ks s26.2)).reverse).map eS) :: R_House K a6 s26.1 :: da K u4 ((eL eS) x1) :: Rs) H557) => ?_⟩)))))))))))))))))))))
       refine g_bl (v_iff hf (λ _ hf => ?_) (λ _ hf => ?_))
       ·
        exact hP552 _ _ hf (M.pk S556 13 [2, 1, 3, 4, 5, 6, 7, 8, 9, 0, 10, 11, 12] rfl)
       ·
        refine tt_cut hf (λ H => M (R_House K a62 m131 :: R_House K u53 m492 :: bagR bag :: bdR K iS (eL eI) (V.ref p17) s26.2 DF.dat :: rdL K a279 vs280 :: daA K vs280 (([eN (), eI 5, (eD iS (eL eI)) s26.2, (eL eS) (srtS' (ks s26.2)), eS ("a" : Str), eB true, (eV eA) ([] : List PyData)] : List PyData).map eA) :: da K (V.ref p17) ((eD iS (eL eI)) s26.2) :: pt p191 (.lst [(V.ref a6), (V.ref u53), (V.ref a62)]) :: dvR iS (vr (acI K)) p126 (pk s148 ("b" : Str) ([4] : List Int)) :: acR K p144 ((srtS' (ks s26.2)).map eS) :: acR K p82 (((srtS' (ks s26.2)).reverse).map eS) :: R_House K a6 s26.1 :: da K u4 ((eL eS) x1) :: Rs) H) (λ kk560 P561 hP562 hf => ?_) ?_
        ·
         refine g_and (g_test (g_op (g_var rfl (g_var rfl (v_neI (g_bl (v_ifcT (by decide) (g_not (g_B (g_call (g_cons (g_op (g_var rfl (g_var rfl (v_ixL (SqL.of (S556.got 7 rfl)) (i := 2) rfl (g_cons (g_var rfl (g_nil (⟨_, _, _, _, _, DF.dat, _, rfl, (M.at (M.addA S556 (EnF.at 6 rfl)) 1 rfl), hf, λ x566 H568 hf (S567 : M (oo14 Rs) H568) => ?_⟩)))))))))))))))))))
         refine g_bl ?_
         exact hP562 _ _ hf (M.pk S567 14 [0, 2, 3, 4, 5, 6, 7, 8, 9, 10, 11, 12, 13] rfl)
        intro c559 H571 hf S570
        exact hP552 _ _ hf (M.sub (.cons 2 rfl (.cons 1 rfl (.cons 1 rfl (.cons 1 rfl (.cons 1 rfl (.cons 1 rfl (.cons 1 rfl (.cons 1 rfl (.cons 1 rfl (.cons 0 rfl (.cons 0 rfl (.cons 0 rfl (.cons 0 rfl (.refl _)))))))))))))) S570)
      intro c549 H573 hf S572
      refine v_iff hf (λ _ hf => ?_) (λ _ hf => ?_)
      ·
       refine g_ret (g_c ?_)
       rw [show false = true from hf]
       exact k _
      ·
       refine g_next ?_
       refine ⟨trivial, ?_⟩
       refine g_nx ?_
       show (_ : TS) _ [some (V.ref sc), some (V.ref bag), some u4, some (V.ref a6), some (V.ref p17), some (V.int 2), some (V.ref u53), some (V.ref a62), some (V.ref p126), o153, some (V.ref p191), o293, some (V.int 1), none] _
       refine g_seq (g_drop (g_meth (g_op (g_var rfl (g_var rfl (v_ixL (SqL.of (S572.got 6 rfl)) (i := 1) rfl (v_R_House S572 1 rfl (λ _ _ => rfl) (g_cons (g_var rfl (g_nil (.inl (⟨_, _, _, _, _, _, _, rfl, (M.at (M.addA S572 (EnF.at 5 rfl)) 2 rfl), hf, λ x580 m579 d581 v582 H584 hf (S583 : M (pt d581 (.xd [(x580.fld, v582)]) :: da K v582 x580.val :: R_House K u53 m579 :: bagR bag :: bdR K iS (eL eI) (V.ref p17) s26.2 DF.dat :: rdL K a279 vs280 :: daA K vs280 (([eN (), eI 5, (eD iS (eL eI)) s26.2, (eL eS) (srtS' (ks s26.2)), eS ("a" : Str), eB true, (eV eA) ([] : List PyData)] : List PyData).map eA) :: da K (V.ref p17) ((eD iS (eL eI)) s26.2) :: pt p191 (.lst [(V.ref a6), (V.ref u53), (V.ref a62)]) :: dvR iS (vr (acI K)) p126 (pk s148 ("b" : Str) ([4] : List Int)) :: acR K p144 ((srtS' (ks s26.2)).map eS) :: R_House K a62 m131 :: acR K p82 (((srtS' (ks s26.2)).reverse).map eS) :: R_House K a6 s26.1 :: da K u4 ((eL eS) x1) :: Rs) H584) => ?_, λ m575 H577 hf (S576 : M (R_House K u53 m575 :: oo12 Rs) H577) => ?_⟩))))))))))))
       ·
        exact hf.elim
       refine g_nx ?_
       show (_ : TS) _ [some (V.ref sc), some (V.ref bag), some u4, some (V.ref a6), some (V.ref p17), some (V.int 2), some (V.ref u53), some (V.ref a62), some (V.ref p126), o153, some (V.ref p191), o293, some (V.int 1), none] _
       refine g_ret ?_
       refine te_cut hf (λ H => M (R_House K u53 m575 :: bagR bag :: bdR K iS (eL eI) (V.ref p17) s26.2 DF.dat :: rdL K a279 vs280 :: daA K vs280 (([eN (), eI 5, (eD iS (eL eI)) s26.2, (eL eS) (srtS' (ks s26.2)), eS ("a" : Str), eB true, (eV eA) ([] : List PyData)] : List PyData).map eA) :: da K (V.ref p17) ((eD iS (eL eI)) s26.2) :: pt p191 (.lst [(V.ref a6), (V.ref u53), (V.ref a62)]) :: dvR iS (vr (acI K)) p126 (pk s148 ("b" : Str) ([4] : List Int)) :: acR K p144 ((srtS' (ks s26.2)).map eS) :: R_House K a62 m131 :: acR K p82 (((srtS' (ks s26.2)).reverse).map eS) :: R_House K a6 s26.1 :: da K u4 ((eL eS) x1) :: Rs) H) (λ kk588 P589 hP590 hf => ?_) ?_
       ·
        obtain ⟨h593, hf⟩ := hf
        refine g_andV (g_call (g_cons (g_op (g_var rfl (g_var rfl (v_ixL (SqL.of (S576.got 6 rfl)) (i := 1) rfl (g_cons (g_op (g_var rfl (g_op (g_op (g_var rfl (g_c (v_add (g_c (v_mod h593 (v_ixL (SqL.of (S576.got 6 rfl)) (i := ((1 + 1) % 3)) rfl (g_cons (g_c (g_nil (.inl (⟨_, _, _, _, _, _, _, rfl, (M.at (M.at S576 9 rfl) 1 rfl), hf, λ x594 H596 hf (S595 : M (oo13 Rs) H596) => ?_⟩))))))))))))))))))))))
        refine g_bl (v_iff hf (λ _ hf => ?_) (λ _ hf => ?_))
        ·
         refine g_call (g_cons (g_op (g_var rfl (g_var rfl (v_ixL (SqL.of (S595.got 7 rfl)) (i := 1) rfl (g_cons (g_var rfl (g_nil (⟨_, _, _, _, _, DF.dat, _, rfl, (M.at (M.addA S595 (EnF.at 6 rfl)) 1 rfl), hf, λ x599 H601 hf (S600 : M (oo14 Rs) H601) => ?_⟩)))))))))
         exact hP590 _ _ hf (M.pk S600 14 [0, 3, 4, 5, 6, 7, 8, 9, 10, 2, 11, 12, 13] rfl)
        ·
         exact hP590 _ _ hf (M.pk S595 13 [0, 2, 3, 4, 5, 6, 7, 8, 9, 1, 10, 11, 12] rfl)
       intro c587 H604 hf S603
       rw [show c587 = true from hf]
       exact k _
   ·
    replace hf := hf.2.2 rfl
    refine g_seq (g_drop (g_callW (g_cons (g_var rfl (g_cons (g_op (g_var rfl (g_var rfl (v_ixL (SqL.of (S375.got 4 rfl)) (i := 2) rfl (g_cons (g_var rfl (g_nil (⟨_, _, _, _, _, _, DF.dat, _, _, rfl, (M.at (M.at (M.addA S375 (EnF.at 3 rfl)) 8 rfl) 2 rfl), hf, λ x611 m610 d612 v613 H615 hf (S614 : M (pt d612 (.xd [(x611.fld, v613)]) :: da K v613 x611.val :: _ :: R_House K a62 m610 :: bdR K iS (eL eI) (V.ref p17) s26.2 DF.dat :: oo10 Rs) H615) => ?_, λ m606 H608 hf (S607 : M (_ :: R_House K a62 m606 :: oo11 Rs) H608) => ?_⟩)))))))))))))
    ·
     exact hf.elim
    refine g_nx ?_
    show (_ : TS) _ [some (V.ref sc), some (V.ref bag), some u4, some (V.ref a6), some (V.ref p17), o32, some (V.ref u53), some (V.ref a62), some (V.ref p126), o153, some (V.ref p191), o293, some (V.int 2), none] _
    refine g_seq ?_
    refine g_for (g_iRng1 (g_cons (g_c (g_nil (v_itR ⟨by decide, by decide⟩ (for_UR [V.int 0, V.int 1, V.int 2] (by rfl) ?_))))))
    refine ⟨trivial, ?_⟩
    refine g_name (g_if ?_)
    refine tt_cut hf (λ H => M (bagR bag :: R_House K a62 m606 :: bdR K iS (eL eI) (V.ref p17) s26.2 DF.dat :: rdL K a279 vs280 :: daA K vs280 (([eN (), eI 5, (eD iS (eL eI)) s26.2, (eL eS) (srtS' (ks s26.2)), eS ("a" : Str), eB true, (eV eA) ([] : List PyData)] : List PyData).map eA) :: da K (V.ref p17) ((eD iS (eL eI)) s26.2) :: pt p191 (.lst [(V.ref a6), (V.ref u53), (V.ref a62)]) :: dvR iS (vr (acI K)) p126 (pk s148 ("b" : Str) ([4] : List Int)) :: acR K p144 ((srtS' (ks s26.2)).map eS) :: acR K p82 (((srtS' (ks s26.2)).reverse).map eS) :: R_House K u53 x50 :: R_House K a6 s26.1 :: da K u4 ((eL eS) x1) :: Rs) H) (λ kk619 P620 hP621 hf => ?_) ?_
    ·
     refine g_or (g_not (g_B (g_call (g_cons (g_op (g_var rfl (g_var rfl (v_ixL (SqL.of (S607.got 6 rfl)) (i := 0) rfl (g_cons (g_op (g_var rfl (g_var rfl (v_ixL (SqL.of (S607.got 6 rfl)) (i := 2) rfl (g_cons (g_op (g_var rfl (g_var rfl (v_eqI (g_nil (.inl (⟨_, _, _, _, _, _, _, rfl, (M.at (M.at S607 1 rfl) 11 rfl), hf, λ x624 H626 hf (S625 : M (oo13 Rs) H626) => ?_⟩)))))))))))))))))))))
     refine g_bl (v_iff hf (λ _ hf => ?_) (λ _ hf => ?_))
     ·
      exact hP621 _ _ hf (M.pk S625 13 [2, 1, 3, 4, 5, 6, 7, 8, 9, 10, 11, 0, 12] rfl)
     ·
      refine tt_cut hf (λ H => M (R_House K a6 s26.1 :: R_House K a62 m606 :: bagR bag :: bdR K iS (eL eI) (V.ref p17) s26.2 DF.dat :: rdL K a279 vs280 :: daA K vs280 (([eN (), eI 5, (eD iS (eL eI)) s26.2, (eL eS) (srtS' (ks s26.2)), eS ("a" : Str), eB true, (eV eA) ([] : List PyData)] : List PyData).map eA) :: da K (V.ref p17) ((eD iS (eL eI)) s26.2) :: pt p191 (.lst [(V.ref a6), (V.ref u53), (V.ref a62)]) :: dvR iS (vr (acI K)) p126 (pk s148 ("b" : Str) ([4] : List Int)) :: acR K p144 ((srtS' (ks s26.2)).map eS) :: acR K p82 (((srtS' (ks s26.2)).reverse).map eS) :: R_House K u53 x50 :: da K u4 ((eL eS) x1) :: Rs) H) (λ kk629 P630 hP631 hf => ?_) ?_
      ·
       refine g_and (g_test (g_op (g_var rfl (g_var rfl (v_neI (g_bl (v_ifcT (by decide) (g_not (g_B (g_call (g_cons (g_op (g_var rfl (g_var rfl (v_ixL (SqL.of (S625.got 7 rfl)) (i := 0) rfl (g_cons (g_var rfl (g_nil (⟨_, _, _, _, _, DF.dat, _, rfl, (M.at (M.addA S625 (EnF.at 6 rfl)) 1 rfl), hf, λ x635 H637 hf (S636 : M (oo14 Rs) H637) => ?_⟩)))))))))))))))))))
       refine g_bl ?_
       exact hP631 _ _ hf (M.pk S636 14 [0, 2, 3, 4, 5, 6, 7, 8, 9, 10, 11, 12, 13] rfl)
      intro c628 H640 hf S639
      exact hP621 _ _ hf (M.sub (.cons 2 rfl (.cons 1 rfl (.cons 1 rfl (.cons 1 rfl (.cons 1 rfl (.cons 1 rfl (.cons 1 rfl (.cons 1 rfl (.cons 1 rfl (.cons 1 rfl (.cons 1 rfl (.cons 0 rfl (.cons 0 rfl (.refl _)))))))))))))) S639)
    intro c618 H642 hf S641
    refine v_iff hf (λ _ hf => ?_) (λ _ hf => ?_)
    ·
     refine g_ret (g_c ?_)
     rw [show false = true from hf]
     exact k _
    ·
     refine g_next ?_
     refine ⟨trivial, ?_⟩
     refine g_name (g_if ?_)
     refine tt_cut hf (λ H => M (bagR bag :: R_House K a62 m606 :: bdR K iS (eL eI) (V.ref p17) s26.2 DF.dat :: rdL K a279 vs280 :: daA K vs280 (([eN (), eI 5, (eD iS (eL eI)) s26.2, (eL eS) (srtS' (ks s26.2)), eS ("a" : Str), eB true, (eV eA) ([] : List PyData)] : List PyData).map eA) :: da K (V.ref p17) ((eD iS (eL eI)) s26.2) :: pt p191 (.lst [(V.ref a6), (V.ref u53), (V.ref a62)]) :: dvR iS (vr (acI K)) p126 (pk s148 ("b" : Str) ([4] : List Int)) :: acR K p144 ((srtS' (ks s26.2)).map eS) :: acR K p82 (((srtS' (ks s26.2)).reverse).map eS) :: R_House K u53 x50 :: R_House K a6 s26.1 :: da K u4 ((eL eS) x1) :: Rs) H) (λ kk644 P645 hP646 hf => ?_) ?_
     ·
      refine g_or (g_not (g_B (g_call (g_cons (g_op (g_var rfl (g_var rfl (v_ixL (SqL.of (S641.got 6 rfl)) (i := 1) rfl (g_cons (g_op (g_var rfl (g_var rfl (v_ixL (SqL.of (S641.got 6 rfl)) (i := 2) rfl (g_cons (g_op (g_var rfl (g_var rfl (v_eqI (g_nil (.inl (⟨_, _, _, _, _, _, _, rfl, (M.at (M.at S641 1 rfl) 10 rfl), hf, λ x649 H651 hf (S650 : M (R_House K u53 x50 :: R_House K a62 m606 :: bagR bag :: bdR K iS (eL eI) (V.ref p17) s26.2 DF.dat :: rdL K a279 vs280 :: daA K vs280 (([eN (), eI 5, (eD iS (eL eI)) s26.2, (eL eS) (srtS' (ks s26.2)), eS ("a" : Str), eB true, (eV eA) ([] : List PyData)] : List PyData).map eA) :: da K (V.ref p17) ((eD iS (eL eI)) s26.2) :: pt p191 (.lst [(V.ref a6), (V.ref u53), (V.ref a62)]) :: dvR iS (vr (acI K)) p126 (pk s148 ("b" : Str) ([4] : List Int)) :: acR K p144 ((srtS' (ks s26.2)).map eS) :: acR K p82 (((srtS' (ks s26.2)).reverse).map eS) :: R_House K a6 s26.1 :: da K u4 ((eL eS) x1) :: Rs) H651) => ?_⟩)))))))))))))))))))))
      refine g_bl (v_iff hf (λ _ hf => ?_) (λ _ hf => ?_))
      ·
       exact hP646 _ _ hf (M.pk S650 13 [2, 1, 3, 4, 5, 6, 7, 8, 9, 10, 0, 11, 12] rfl)
      ·
       refine tt_cut hf (λ H => M (R_House K u53 x50 :: R_House K a62 m606 :: bagR bag :: bdR K iS (eL eI) (V.ref p17) s26.2 DF.dat :: rdL K a279 vs280 :: daA K vs280 (([eN (), eI 5, (eD iS (eL eI)) s26.2, (eL eS) (srtS' (ks s26.2)), eS ("a" : Str), eB true, (eV eA) ([] : List PyData)] : List PyData).map eA) :: da K (V.ref p17) ((eD iS (eL eI)) s26.2) :: pt p191 (.lst [(V.ref a6), (V.ref u53), (V.ref a62)]) :: dvR iS (vr (acI K)) p126 (pk s148 ("b" : Str) ([4] : List Int)) :: acR K p144 ((srtS' (ks s26.2)).map eS) :: acR K p82 (((srtS' (ks s26.2)).reverse).map eS) :: R_House K a6 s26.1 :: da K u4 ((eL eS) x1) :: Rs) H) (λ kk654 P655 hP656 hf => ?_) ?_
       ·
        refine g_and (g_test (g_op (g_var rfl (g_var rfl (v_neI (g_bl (v_ifcT (by decide) (g_not (g_B (g_call (g_cons (g_op (g_var rfl (g_var rfl (v_ixL (SqL.of (S650.got 7 rfl)) (i := 1) rfl (g_cons (g_var rfl (g_nil (⟨_, _, _, _, _, DF.dat, _, rfl, (M.at (M.addA S650 (EnF.at 6 rfl)) 1 rfl), hf, λ x660 H662 hf (S661 : M (oo14 Rs) H662) => ?_⟩)))))))))))))))))))
        refine g_bl ?_
        exact hP656 _ _ hf (M.pk S661 14 [0, 2, 3, 4, 5, 6, 7, 8, 9, 10, 11, 12, 13] rfl)
       intro c653 H665 hf S664
       exact hP646 _ _ hf (M.sub (.cons 2 rfl (.cons 1 rfl (.cons 1 rfl (.cons 1 rfl (.cons 1 rfl (.cons 1 rfl (.cons 1 rfl (.cons 1 rfl (.cons 1 rfl (.cons 1 rfl (.cons 0 rfl (.cons 0 rfl (.cons 0 rfl (.refl _)))))))))))))) S664)
     intro c643 H667 hf S666
     refine v_iff hf (λ _ hf => ?_) (λ _ hf => ?_)
     ·
      refine g_ret (g_c ?_)
      rw [show false = true from hf]
      exact k _
     ·
      refine g_next ?_
      refine ⟨trivial, ?_⟩
      refine g_name (g_if ?_)
      refine tt_cut hf (λ H => M (bagR bag :: R_House K a62 m606 :: bdR K iS (eL eI) (V.ref p17) s26.2 DF.dat :: rdL K a279 vs280 :: daA K vs280 (([eN (), eI 5, (eD iS (eL eI)) s26.2, (eL eS) (srtS' (ks s26.2)), eS ("a" : Str), eB true, (eV eA) ([] : List PyData)] : List PyData).map eA) :: da K (V.ref p17) ((eD iS (eL eI)) s26.2) :: pt p191 (.lst [(V.ref a6), (V.ref u53), (V.ref a62)]) :: dvR iS (vr (acI K)) p126 (pk s148 ("b" : Str) ([4] : List Int)) :: acR K p144 ((srtS' (ks s26.2)).map eS) :: acR K p82 (((srtS' (ks s26.2)).reverse).map eS) :: R_House K u53 x50 :: R_House K a6 s26.1 :: da K u4 ((eL eS) x1) :: Rs) H) (λ kk669 P670 hP671 hf => ?_) ?_
      ·
       refine g_or (g_not (g_B (g_call (g_cons (g_op (g_var rfl (g_var rfl (v_ixL (SqL.of (S666.got 6 rfl)) (i := 2) rfl (g_cons (g_op (g_var rfl (g_var rfl (v_ixL (SqL.of (S666.got 6 rfl)) (i := 2) rfl (g_cons (g_op (g_var rfl (g_var rfl (v_eqI (g_nil (.inr (⟨_, _, _, _, _, rfl, (M.at S666 1 rfl), hf, λ x674 H676 hf (S675 : M (R_House K a62 m606 :: bagR bag :: bdR K iS (eL eI) (V.ref p17) s26.2 DF.dat :: rdL K a279 vs280 :: daA K vs280 (([eN (), eI 5, (eD iS (eL eI)) s26.2, (eL eS) (srtS' (ks s26.2)), eS ("a" : Str), eB true, (eV eA) ([] : List PyData)] : List PyData).map eA) :: da K (V.ref p17) ((eD iS (eL eI)) s26.2) :: pt p191 (.lst [(V.ref a6), (V.ref u53), (V.ref a62)]) :: dvR iS (vr (acI K)) p126 (pk s148 ("b" : Str) ([4] : List Int)) :: acR K p144 ((srtS' (ks s26.2)).map eS) :: acR K p82 (((srtS' (ks s26.2)).reverse).map eS) :: R_House K u53 x50 :: R_House K a6 s26.1 :: da K u4 ((eL eS) x1) :: Rs) H676) => ?_⟩)))))))))))))))))))))
       refine g_bl (v_iff hf (λ _ hf => ?_) (λ _ hf => ?_))
       ·
        exact hP671 _ _ hf (M.pk S675 13 [1, 0, 2, 3, 4, 5, 6, 7, 8, 9, 10, 11, 12] rfl)
       ·
        refine tt_cut hf (λ H => M (R_House K a62 m606 :: bagR bag :: bdR K iS (eL eI) (V.ref p17) s26.2 DF.dat :: rdL K a279 vs280 :: daA K vs280 (([eN (), eI 5, (eD iS (eL eI)) s26.2, (eL eS) (srtS' (ks s26.2)), eS ("a" : Str), eB true, (eV eA) ([] : List PyData)] : List PyData).map eA) :: da K (V.ref p17) ((eD iS (eL eI)) s26.2) :: pt p191 (.lst [(V.ref a6), (V.ref u53), (V.ref a62)]) :: dvR iS (vr (acI K)) p126 (pk s148 ("b" : Str) ([4] : List Int)) :: acR K p144 ((srtS' (ks s26.2)).map eS) :: acR K p82 (((srtS' (ks s26.2)).reverse).map eS) :: R_House K u53 x50 :: R_House K a6 s26.1 :: da K u4 ((eL eS) x1) :: Rs) H) (λ kk679 P680 hP681 hf => ?_) ?_
        ·
         refine g_and (g_test (g_op (g_var rfl (g_var rfl (v_neI (g_bl (v_ifcF (by decide) ?_)))))))
         exact hP681 _ _ hf (M.pk S675 13 [0, 1, 2, 3, 4, 5, 6, 7, 8, 9, 10, 11, 12] rfl)
        intro c678 H685 hf S684
        exact hP671 _ _ hf (M.sub (.cons 1 rfl (.cons 0 rfl (.cons 0 rfl (.cons 0 rfl (.cons 0 rfl (.cons 0 rfl (.cons 0 rfl (.cons 0 rfl (.cons 0 rfl (.cons 0 rfl (.cons 0 rfl (.cons 0 rfl (.cons 0 rfl (.refl _)))))))))))))) S684)
      intro c668 H687 hf S686
      refine v_iff hf (λ _ hf => ?_) (λ _ hf => ?_)
      ·
       refine g_ret (g_c ?_)
       rw [show false = true from hf]
       exact k _
      ·
       refine g_next ?_
       refine ⟨trivial, ?_⟩
       refine g_nx ?_
       show (_ : TS) _ [some (V.ref sc), some (V.ref bag), some u4, some (V.ref a6), some (V.ref p17), some (V.int 2), some (V.ref u53), some (V.ref a62), some (V.ref p126), o153, some (V.ref p191), o293, some (V.int 2), none] _
       refine g_seq (g_drop (g_meth (g_op (g_var rfl (g_var rfl (v_ixL (SqL.of (S686.got 6 rfl)) (i := 2) rfl (v_R_House S686 1 rfl (λ _ _ => rfl) (g_cons (g_var rfl (g_nil (.inl (⟨_, _, _, _, _, _, _, rfl, (M.at (M.addA S686 (EnF.at 5 rfl)) 2 rfl), hf, λ x694 m693 d695 v696 H698 hf (S697 : M (pt d695 (.xd [(x694.fld, v696)]) :: da K v696 x694.val :: R_House K a62 m693 :: bagR bag :: bdR K iS (eL eI) (V.ref p17) s26.2 DF.dat :: rdL K a279 vs280 :: daA K vs280 (([eN (), eI 5, (eD iS (eL eI)) s26.2, (eL eS) (srtS' (ks s26.2)), eS ("a" : Str), eB true, (eV eA) ([] : List PyData)] : List PyData).map eA) :: da K (V.ref p17) ((eD iS (eL eI)) s26.2) :: pt p191 (.lst [(V.ref a6), (V.ref u53), (V.ref a62)]) :: dvR iS (vr (acI K)) p126 (pk s148 ("b" : Str) ([4] : List Int)) :: acR K p144 ((srtS' (ks s26.2)).map eS) :: acR K p82 (((srtS' (ks s26.2)).reverse).map eS) :: R_House K u53 x50 :: R_House K a6 s26.1 :: da K u4 ((eL eS) x1) :: Rs) H698) => ?_, λ m689 H691 hf (S690 : M (R_House K a62 m689 :: oo12 Rs) H691) => ?_⟩))))))))))))
       ·
        exact hf.elim
       refine g_nx ?_
       show (_ : TS) _ [some (V.ref sc), some (V.ref bag), some u4, some (V.ref a6), some (V.ref p17), some (V.int 2), some (V.ref u53), some (V.ref a62), some (V.ref p126), o153, some (V.ref p191), o293, some (V.int 2), none] _
       refine g_ret ?_
       refine te_cut hf (λ H => M (R_House K a62 m689 :: bagR bag :: bdR K iS (eL eI) (V.ref p17) s26.2 DF.dat :: rdL K a279 vs280 :: daA K vs280 (([eN (), eI 5, (eD iS (eL eI)) s26.2, (eL eS) (srtS' (ks s26.2)), eS ("a" : Str), eB true, (eV eA) ([] : List PyData)] : List PyData).map eA) :: da K (V.ref p17) ((eD iS (eL eI)) s26.2) :: pt p191 (.lst [(V.ref a6), (V.ref u53), (V.ref a62)]) :: dvR iS (vr (acI K)) p126 (pk s148 ("b" : Str) ([4] : List Int)) :: acR K p144 ((srtS' (ks s26.2)).map eS) :: acR K p82 (((srtS' (ks s26.2)).reverse).map eS) :: R_House K u53 x50 :: R_House K a6 s26.1 :: da K u4 ((eL eS) x1) :: Rs) H) (λ kk702 P703 hP704 hf => ?_) ?_
       ·
        obtain ⟨h707, hf⟩ := hf
        refine g_andV (g_call (g_cons (g_op (g_var rfl (g_var rfl (v_ixL (SqL.of (S690.got 6 rfl)) (i := 2) rfl (g_cons (g_op (g_var rfl (g_op (g_op (g_var rfl (g_c (v_add (g_c (v_mod h707 (v_ixL (SqL.of (S690.got 6 rfl)) (i := ((2 + 1) % 3)) rfl (g_cons (g_c (g_nil (.inl (⟨_, _, _, _, _, _, _, rfl, (M.at (M.at S690 11 rfl) 1 rfl), hf, λ x708 H710 hf (S709 : M (oo13 Rs) H710) => ?_⟩))))))))))))))))))))))
        refine g_bl (v_iff hf (λ _ hf => ?_) (λ _ hf => ?_))
        ·
         refine g_call (g_cons (g_op (g_var rfl (g_var rfl (v_ixL (SqL.of (S709.got 7 rfl)) (i := 2) rfl (g_cons (g_var rfl (g_nil (⟨_, _, _, _, _, DF.dat, _, rfl, (M.at (M.addA S709 (EnF.at 6 rfl)) 1 rfl), hf, λ x713 H715 hf (S714 : M (oo14 Rs) H715) => ?_⟩)))))))))
         exact hP704 _ _ hf (M.pk S714 14 [0, 3, 4, 5, 6, 7, 8, 9, 10, 11, 12, 2, 13] rfl)
        ·
         exact hP704 _ _ hf (M.pk S709 13 [0, 2, 3, 4, 5, 6, 7, 8, 9, 10, 11, 1, 12] rfl)
       intro c701 H718 hf S717
       rw [show c701 = true from hf]
       exact k _
abbrev FunE (K : Fr) (n q : Str) (s : Stmt) (kw : List (Str × V)) (ad : Addr) : Prop := FunD K n q (defArgs s) (defBody s) (defScope s) [] kw ad (fdOf K ad)
structure Txt (K : Fr) (mg : Str -> Option Value) : Prop where
 F_l_bag : FunE K "_law_bag" "_law_bag" s_l_bag [] (He.ga K "_law_bag")
 F_l_take : FunE K "_law_take" "_law_take" s_l_take [] (He.ga K "_law_take")
 F_l_names : FunE K "_law_names" "_law_names" s_l_names [] (He.ga K "_law_names")
 F_House___init__ : FunE K "__init__" "House.__init__" s_House___init__ [] (mA K "House" "__init__")
 F_l_due : FunE K "_law_due" "_law_due" s_l_due [] (He.ga K "_law_due")
 F_l_do : FunE K "_law_do" "_law_do" s_l_do [] (He.ga K "_law_do")
 F_l_alike : FunE K "_law_alike" "_law_alike" s_l_alike [] (He.ga K "_law_alike")
 F_wanted : FunE K "wanted" "wanted" s_wanted [] (He.ga K "wanted")
 F_is_name : FunE K "is_name" "is_name" s_is_name [] (He.ga K "is_name")
 F_is_whole : FunE K "is_whole" "is_whole" s_is_whole [] (He.ga K "is_whole")
 F_is_sign : FunE K "is_sign" "is_sign" s_is_sign [] (He.ga K "is_sign")
 F_are_signs : FunE K "are_signs" "are_signs" s_are_signs [] (He.ga K "are_signs")
 F_is_content : FunE K "is_content" "is_content" s_is_content [] (He.ga K "is_content")
 F_House_write : FunE K "write" "House.write" s_House_write [] (mA K "House" "write")
 F_House_need_file : FunE K "need_file" "House.need_file" s_House_need_file [] (mA K "House" "need_file")
 F_House_drop : FunE K "drop" "House.drop" s_House_drop [] (mA K "House" "drop")
 F_House_move : FunE K "move" "House.move" s_House_move [] (mA K "House" "move")
 F_are_contents : FunE K "are_contents" "are_contents" s_are_contents [] (He.ga K "are_contents")
 F_House_become : FunE K "become" "House.become" s_House_become [] (mA K "House" "become")
 F_House_content : FunE K "content" "House.content" s_House_content [] (mA K "House" "content")
 F_l_call : FunE K "_law_call" "_law_call" s_l_call [] (He.ga K "_law_call")
 F_l_refused : FunE K "_law_refused" "_law_refused" s_l_refused [] (He.ga K "_law_refused")
 F_l_said : FunE K "_law_said" "_law_said" s_l_said [] (He.ga K "_law_said")
 F_l_step : FunE K "_law_step" "_law_step" s_l_step [] (He.ga K "_law_step")
 F_l_any : FunE K "_law_any" "_law_any" s_l_any [] (He.ga K "_law_any")
 F_l_content : FunE K "_law_content" "_law_content" s_l_content [] (He.ga K "_law_content")
 F_l_deed : FunE K "_law_deed" "_law_deed" s_l_deed [] (He.ga K "_law_deed")
 F_House_contents : FunE K "contents" "House.contents" s_House_contents [] (mA K "House" "contents")
 F_House_copied : FunE K "copied" "House.copied" s_House_copied [] (mA K "House" "copied")
 F_House___eq__ : FunE K "__eq__" "House.__eq__" s_House___eq__ [] (mA K "House" "__eq__")
 F_l_equal : FunE K "_law_equal" "_law_equal" s_l_equal [] (He.ga K "_law_equal")
 F_House_names_of : FunE K "names_of" "House.names_of" s_House_names_of [] (mA K "House" "names_of")
 F_House___len__ : FunE K "__len__" "House.__len__" s_House___len__ [] (mA K "House" "__len__")
 F_l_same : FunE K "_law_same" "_law_same" s_l_same [] (He.ga K "_law_same")
 F_l_spoil_one : FunE K "_law_spoil_one" "_law_spoil_one" s_l_spoil_one [] (He.ga K "_law_spoil_one")
 F_law : FunE K "law" "law" s_law [] (He.ga K "law")
 F_Wrong___init__ : FunE K "__init__" "Wrong.__init__" s_Wrong___init__ [] (mA K "Wrong" "__init__")
 F_TooMany___init__ : FunE K "__init__" "TooMany.__init__" s_TooMany___init__ [] (mA K "TooMany" "__init__")
 F_NoFile___init__ : FunE K "__init__" "NoFile.__init__" s_NoFile___init__ [] (mA K "NoFile" "__init__")
 F_There___init__ : FunE K "__init__" "There.__init__" s_There___init__ [] (mA K "There" "__init__")
 c_LETTERS : ∃ t, mg "LETTERS" = some (.str "abcdefghijklmnopqrstuvwxyz" t)
 c_LONGEST : ∃ t, mg "LONGEST" = some (.int 8 t)
 c_MOST_SIGN : ∃ t, mg "MOST_SIGN" = some (.int 999 t)
 c_MOST_CONTENT : ∃ t, mg "MOST_CONTENT" = some (.int 48 t)
 c_MOST_KEPT : ∃ t, mg "MOST_KEPT" = some (.int 8 t)
 g_l_bag : mg "_law_bag" = some (.ref (He.ga K "_law_bag"))
 g_l_take : mg "_law_take" = some (.ref (He.ga K "_law_take"))
 g_l_names : mg "_law_names" = some (.ref (He.ga K "_law_names"))
 g_l_due : mg "_law_due" = some (.ref (He.ga K "_law_due"))
 g_l_do : mg "_law_do" = some (.ref (He.ga K "_law_do"))
 g_l_alike : mg "_law_alike" = some (.ref (He.ga K "_law_alike"))
 g_wanted : mg "wanted" = some (.ref (He.ga K "wanted"))
 g_is_name : mg "is_name" = some (.ref (He.ga K "is_name"))
 g_is_whole : mg "is_whole" = some (.ref (He.ga K "is_whole"))
 g_is_sign : mg "is_sign" = some (.ref (He.ga K "is_sign"))
 g_are_signs : mg "are_signs" = some (.ref (He.ga K "are_signs"))
 g_is_content : mg "is_content" = some (.ref (He.ga K "is_content"))
 g_are_contents : mg "are_contents" = some (.ref (He.ga K "are_contents"))
 g_l_call : mg "_law_call" = some (.ref (He.ga K "_law_call"))
 g_l_refused : mg "_law_refused" = some (.ref (He.ga K "_law_refused"))
 g_l_said : mg "_law_said" = some (.ref (He.ga K "_law_said"))
 g_l_step : mg "_law_step" = some (.ref (He.ga K "_law_step"))
 g_l_any : mg "_law_any" = some (.ref (He.ga K "_law_any"))
 g_l_content : mg "_law_content" = some (.ref (He.ga K "_law_content"))
 g_l_deed : mg "_law_deed" = some (.ref (He.ga K "_law_deed"))
 g_l_equal : mg "_law_equal" = some (.ref (He.ga K "_law_equal"))
 g_l_same : mg "_law_same" = some (.ref (He.ga K "_law_same"))
 g_l_spoil_one : mg "_law_spoil_one" = some (.ref (He.ga K "_law_spoil_one"))
 g_law : mg "law" = some (.ref (He.ga K "law"))
 cg_Wrong : mg "Wrong" = some (.ref (He.ga K "Wrong"))
 cg_TooMany : mg "TooMany" = some (.ref (He.ga K "TooMany"))
 cg_NoFile : mg "NoFile" = some (.ref (He.ga K "NoFile"))
 cg_There : mg "There" = some (.ref (He.ga K "There"))
 cg_StoreError : mg "StoreError" = some (.ref (He.ga K "StoreError"))
 cg_Missing : mg "Missing" = some (.ref (He.ga K "Missing"))
 cg_House : mg "House" = some (.ref (He.ga K "House"))
 cl_House : Cls K (He.ga K "House")
 mk_House : Mk K (He.ga K "House") (mA K "House" "__init__")
 na_House_signs_by : NoAttr K (He.ga K "House") "signs_by"
 me_House_write : Meth K (He.ga K "House") "write" (mA K "House" "write")
 me_House_need_file : Meth K (He.ga K "House") "need_file" (mA K "House" "need_file")
 me_House_drop : Meth K (He.ga K "House") "drop" (mA K "House" "drop")
 me_House_move : Meth K (He.ga K "House") "move" (mA K "House" "move")
 me_House_become : Meth K (He.ga K "House") "become" (mA K "House" "become")
 me_House_content : Meth K (He.ga K "House") "content" (mA K "House" "content")
 me_House_contents : Meth K (He.ga K "House") "contents" (mA K "House" "contents")
 me_House_copied : Meth K (He.ga K "House") "copied" (mA K "House" "copied")
 me_House___eq__ : Meth K (He.ga K "House") "__eq__" (mA K "House" "__eq__")
 me_House_names_of : Meth K (He.ga K "House") "names_of" (mA K "House" "names_of")
 me_House___len__ : Meth K (He.ga K "House") "__len__" (mA K "House" "__len__")
 xb_Wrong : XcB K (He.ga K "Wrong") "ValueError" "ValueError.__new__" "ValueError.__init__" (tlB "ValueError")
 xf_Wrong : PySem.W.findIn K (.ref (He.ga K "Wrong")) "__init__" = some (some (.ref (mA K "Wrong" "__init__"))) /\ PySem.W.typeIn K (.ref (mA K "Wrong" "__init__")) = some (.type "function")
 xc_Wrong : ExcC K (He.ga K "Wrong")
 xn_Wrong_at : chN K "Wrong" "at" = true
 xi_StoreError : XcI K (He.ga K "StoreError") "ValueError.__init__"
 xm_Wrong_StoreError : PySem.W.exmOne K (.ref (He.ga K "Wrong")) (.ref (He.ga K "StoreError")) = some true
 xm_Wrong_Missing : PySem.W.exmOne K (.ref (He.ga K "Wrong")) (.ref (He.ga K "Missing")) = some false
 xk_Wrong_NoFile : PySem.W.kitOne K (.ref (He.ga K "Wrong")) (.ref (He.ga K "NoFile")) = some false
 xk_Wrong_There : PySem.W.kitOne K (.ref (He.ga K "Wrong")) (.ref (He.ga K "There")) = some false
 xk_Wrong_TooMany : PySem.W.kitOne K (.ref (He.ga K "Wrong")) (.ref (He.ga K "TooMany")) = some false
 xb_TooMany : XcB K (He.ga K "TooMany") "ValueError" "ValueError.__new__" "ValueError.__init__" (tlB "ValueError")
 xf_TooMany : PySem.W.findIn K (.ref (He.ga K "TooMany")) "__init__" = some (some (.ref (mA K "TooMany" "__init__"))) /\ PySem.W.typeIn K (.ref (mA K "TooMany" "__init__")) = some (.type "function")
 xc_TooMany : ExcC K (He.ga K "TooMany")
 xn_TooMany_most : chN K "TooMany" "most" = true
 xm_TooMany_StoreError : PySem.W.exmOne K (.ref (He.ga K "TooMany")) (.ref (He.ga K "StoreError")) = some true
 xm_TooMany_Missing : PySem.W.exmOne K (.ref (He.ga K "TooMany")) (.ref (He.ga K "Missing")) = some false
 xk_TooMany_NoFile : PySem.W.kitOne K (.ref (He.ga K "TooMany")) (.ref (He.ga K "NoFile")) = some false
 xk_TooMany_There : PySem.W.kitOne K (.ref (He.ga K "TooMany")) (.ref (He.ga K "There")) = some false
 xk_TooMany_TooMany : PySem.W.kitOne K (.ref (He.ga K "TooMany")) (.ref (He.ga K "TooMany")) = some true
 xb_NoFile : XcB K (He.ga K "NoFile") "LookupError" "LookupError.__new__" "LookupError.__init__" (tlB "LookupError")
 xf_NoFile : PySem.W.findIn K (.ref (He.ga K "NoFile")) "__init__" = some (some (.ref (mA K "NoFile" "__init__"))) /\ PySem.W.typeIn K (.ref (mA K "NoFile" "__init__")) = some (.type "function")
 xc_NoFile : ExcC K (He.ga K "NoFile")
 xn_NoFile_name : chN K "NoFile" "name" = true
 xi_Missing : XcI K (He.ga K "Missing") "LookupError.__init__"
 xm_NoFile_StoreError : PySem.W.exmOne K (.ref (He.ga K "NoFile")) (.ref (He.ga K "StoreError")) = some false
 xm_NoFile_Missing : PySem.W.exmOne K (.ref (He.ga K "NoFile")) (.ref (He.ga K "Missing")) = some true
 xk_NoFile_NoFile : PySem.W.kitOne K (.ref (He.ga K "NoFile")) (.ref (He.ga K "NoFile")) = some true
 xk_NoFile_There : PySem.W.kitOne K (.ref (He.ga K "NoFile")) (.ref (He.ga K "There")) = some false
 xk_NoFile_TooMany : PySem.W.kitOne K (.ref (He.ga K "NoFile")) (.ref (He.ga K "TooMany")) = some false
 xb_There : XcB K (He.ga K "There") "ValueError" "ValueError.__new__" "ValueError.__init__" (tlB "ValueError")
 xf_There : PySem.W.findIn K (.ref (He.ga K "There")) "__init__" = some (some (.ref (mA K "There" "__init__"))) /\ PySem.W.typeIn K (.ref (mA K "There" "__init__")) = some (.type "function")
 xc_There : ExcC K (He.ga K "There")
 xn_There_thing : chN K "There" "thing" = true
 xm_There_StoreError : PySem.W.exmOne K (.ref (He.ga K "There")) (.ref (He.ga K "StoreError")) = some true
 xm_There_Missing : PySem.W.exmOne K (.ref (He.ga K "There")) (.ref (He.ga K "Missing")) = some false
 xk_There_NoFile : PySem.W.kitOne K (.ref (He.ga K "There")) (.ref (He.ga K "NoFile")) = some false
 xk_There_There : PySem.W.kitOne K (.ref (He.ga K "There")) (.ref (He.ga K "There")) = some true
 xk_There_TooMany : PySem.W.kitOne K (.ref (He.ga K "There")) (.ref (He.ga K "TooMany")) = some false
 iy_House : InsY K (He.ga K "House")
 ik_House_House : PySem.W.kitOne K (.ref (He.ga K "House")) (.ref (He.ga K "House")) = some true
 in_House : DatN K (He.ga K "House")
 mo_House : PySem.W.mroIn K (He.ga K "House") (.type "object") = some true
 ne_House : PySem.W.findIn K (.ref (He.ga K "House")) "__ne__" = some (some (.builtin "object.__ne__"))
 b_abs : mg "abs" = none
 b_len : mg "len" = none
 b_range : mg "range" = none
 b_list : mg "list" = none
 b_dict : mg "dict" = none
 b_repr : mg "repr" = none
 b_isinstance : mg "isinstance" = none
 b_str : mg "str" = none
 b_int : mg "int" = none
 b_bool : mg "bool" = none
 b_all : mg "all" = none
 b_sorted : mg "sorted" = none
 b_max : mg "max" = none
theorem Txt.c {K : Fr} {mg : Str -> Option Value} (T : Txt K mg) : TxC K := ⟨T.cl_House, T.na_House_signs_by, T.xc_Wrong, T.xn_Wrong_at, T.xm_Wrong_StoreError, T.xm_Wrong_Missing, T.xk_Wrong_NoFile, T.xk_Wrong_There, T.xk_Wrong_TooMany, T.xc_TooMany, T.xn_TooMany_most, T.xm_TooMany_StoreError, T.xm_TooMany_Missing, T.xk_TooMany_NoFile, T.xk_TooMany_There, T.xk_TooMany_TooMany, T.xc_NoFile, T.xn_NoFile_name, T.xm_NoFile_StoreError, T.xm_NoFile_Missing, T.xk_NoFile_NoFile, T.xk_NoFile_There, T.xk_NoFile_TooMany, T.xc_There, T.xn_There_thing, T.xm_There_StoreError, T.xm_There_Missing, T.xk_There_NoFile, T.xk_There_There, T.xk_There_TooMany, T.iy_House, T.ik_House_House, T.in_House⟩
local macro_rules | `(tactic| walk_at "oz") => `(tactic| first | exact Or.inl rfl | exact Or.inr rfl)
local macro_rules | `(tactic| walk_at "fs") => `(tactic| exact ⟨rfl, rfl, rfl, by decide +kernel, rfl, by decide +kernel, by decide +kernel⟩)
theorem nz {p : Prop} (h : false = true) : p := nomatch h
section
variable {P : Program} {w : World} {K : Fr} {mg : Str -> Option Value} {base : Heap}
theorem sc_Wrong___init__ : FnScope ["self", "at"] ["self", "at"] (defScope s_Wrong___init__) := (by walk_at "fs")
theorem bd_Wrong___init__ (T : Txt K mg) : Binds K (fdOf K (mA K "Wrong" "__init__")) ["self", "at"] [] := T.F_Wrong___init__.bindsN λ _ _ _ _ _ _ us hl => match us, hl with | [_, _], _ => rfl
theorem ok_Wrong___init__ (T : Txt K mg) : FnX false P w K mg base CX0 1 (mA K "Wrong" "__init__") (fdOf K (mA K "Wrong" "__init__")) ["self", "at"] (spX (He.ga K "Wrong") "at") := by
 refine okX T.F_Wrong___init__ sc_Wrong___init__ lenX (λ cdv A outer s H vs Q E hgu0 hr h => ⟨_, PSs.nox ?_, pureX (msg := "not what is wanted here") rfl T.xb_Wrong (chN_ok T.xn_Wrong_at) vs H Q E h⟩)
 exact (pss_cons (ps_expr (pe_xi rfl T.cg_StoreError T.xi_StoreError (pa_cons (pv 0) (pa_cons pe_str pa_nil)))) (pss_one (ps_xs (pv 0) (pv 1))))
theorem sc_TooMany___init__ : FnScope ["self", "most"] ["self", "most"] (defScope s_TooMany___init__) := (by walk_at "fs")
theorem bd_TooMany___init__ (T : Txt K mg) : Binds K (fdOf K (mA K "TooMany" "__init__")) ["self", "most"] [] := T.F_TooMany___init__.bindsN λ _ _ _ _ _ _ us hl => match us, hl with | [_, _], _ => rfl
theorem ok_TooMany___init__ (T : Txt K mg) : FnX false P w K mg base CX0 1 (mA K "TooMany" "__init__") (fdOf K (mA K "TooMany" "__init__")) ["self", "most"] (spX (He.ga K "TooMany") "most") := by
 refine okX T.F_TooMany___init__ sc_TooMany___init__ lenX (λ cdv A outer s H vs Q E hgu0 hr h => ⟨_, PSs.nox ?_, pureX (msg := "too many") rfl T.xb_TooMany (chN_ok T.xn_TooMany_most) vs H Q E h⟩)
 exact (pss_cons (ps_expr (pe_xi rfl T.cg_StoreError T.xi_StoreError (pa_cons (pv 0) (pa_cons pe_str pa_nil)))) (pss_one (ps_xs (pv 0) (pv 1))))
theorem sc_NoFile___init__ : FnScope ["self", "name"] ["self", "name"] (defScope s_NoFile___init__) := (by walk_at "fs")
theorem bd_NoFile___init__ (T : Txt K mg) : Binds K (fdOf K (mA K "NoFile" "__init__")) ["self", "name"] [] := T.F_NoFile___init__.bindsN λ _ _ _ _ _ _ us hl => match us, hl with | [_, _], _ => rfl
theorem ok_NoFile___init__ (T : Txt K mg) : FnX false P w K mg base CX0 1 (mA K "NoFile" "__init__") (fdOf K (mA K "NoFile" "__init__")) ["self", "name"] (spX (He.ga K "NoFile") "name") := by
 refine okX T.F_NoFile___init__ sc_NoFile___init__ lenX (λ cdv A outer s H vs Q E hgu0 hr h => ⟨_, PSs.nox ?_, pureX (msg := "no such file") rfl T.xb_NoFile (chN_ok T.xn_NoFile_name) vs H Q E h⟩)
 exact (pss_cons (ps_expr (pe_xi rfl T.cg_Missing T.xi_Missing (pa_cons (pv 0) (pa_cons pe_str pa_nil)))) (pss_one (ps_xs (pv 0) (pv 1))))
theorem sc_There___init__ : FnScope ["self", "thing"] ["self", "thing"] (defScope s_There___init__) := (by walk_at "fs")
theorem bd_There___init__ (T : Txt K mg) : Binds K (fdOf K (mA K "There" "__init__")) ["self", "thing"] [] := T.F_There___init__.bindsN λ _ _ _ _ _ _ us hl => match us, hl with | [_, _], _ => rfl
theorem ok_There___init__ (T : Txt K mg) : FnX false P w K mg base CX0 1 (mA K "There" "__init__") (fdOf K (mA K "There" "__init__")) ["self", "thing"] (spX (He.ga K "There") "thing") := by
 refine okX T.F_There___init__ sc_There___init__ lenX (λ cdv A outer s H vs Q E hgu0 hr h => ⟨_, PSs.nox ?_, pureX (msg := "it is there already") rfl T.xb_There (chN_ok T.xn_There_thing) vs H Q E h⟩)
 exact (pss_cons (ps_expr (pe_xi rfl T.cg_StoreError T.xi_StoreError (pa_cons (pv 0) (pa_cons pe_str pa_nil)))) (pss_one (ps_xs (pv 0) (pv 1))))
theorem sc_l_bag : FnScope ["_law_script", "_law_cell"] ["_law_script"] (defScope s_l_bag) := (by walk_at "fs")
theorem bd_l_bag (T : Txt K mg) : Binds K (fdOf K (He.ga K "_law_bag")) ["_law_script"] [] := T.F_l_bag.bindsN λ _ _ _ _ _ _ us hl => match us, hl with | [_], _ => rfl
theorem ok_l_bag (T : Txt K mg) (nd : NDX base) : FnX false P w K mg base CX0 1 (He.ga K "_law_bag") (fdOf K (He.ga K "_law_bag")) ["_law_script"] (sp_l_bag K) := by
 refine okX T.F_l_bag sc_l_bag len_l_bag (λ cdv A outer s H vs Q E hgu0 hr h => ⟨t_l_bag K, PSs.nox ?_, pure_l_bag vs H Q E h⟩)
 exact (pss_one (ps_ret (pe_lst (pa_cons pe_int (pa_cons pe_int (pa_cons pe_int (pa_cons (pe_lc (own := [("_law_cell", 1)]) (g := (gName 1)) (tt := tYes) rfl sc_l_bag.nd (pi_list (pe_slice sl_any (pv 0) po_none (po_some pe_int))) (blkOk_by (own := [("_law_cell", 1)]) (N := ["_law_script", "_law_cell"]) (sc := defScope s_l_bag) (by decide +kernel)) (λ _ _ _ _ _ => (pg_name (i := 1) sc_l_bag.nd rfl (by walk_at "oz"))) (λ _ _ _ _ _ => pts_nil) (λ _ _ _ _ _ => (pe_callB cr_abs (by rfl) T.b_abs (by decide +kernel) (pa_cons (pv 1) pa_nil)))) pa_nil)))))))
theorem sc_l_take : FnScope ["_law_bag_here", "_law_many", "_law_first", "_law_second", "_law_cell", "_law_value"] ["_law_bag_here", "_law_many"] (defScope s_l_take) := (by walk_at "fs")
theorem bd_l_take (T : Txt K mg) : Binds K (fdOf K (He.ga K "_law_take")) ["_law_bag_here", "_law_many"] [] := T.F_l_take.bindsN λ _ _ _ _ _ _ us hl => match us, hl with | [_, _], _ => rfl
theorem ok_l_take (T : Txt K mg) (nd : NDX base) : FnX false P w K mg base CX0 1 (He.ga K "_law_take") (fdOf K (He.ga K "_law_take")) ["_law_bag_here", "_law_many"] (sp_l_take K) := by
 refine okX T.F_l_take sc_l_take len_l_take (λ cdv A outer s H vs Q E hgu0 hr h => ⟨t_l_take K, PSs.nox ?_, pure_l_take vs H Q E h⟩)
 exact (pss_cons (ps_if (pt_cmpR (uo_eq hr.units) (pe_ix ix_any (pv 0) pe_int (λ _ _ => rfl)) pe_int (nomark _)) (pss_cons (ps_set (i := 4) sc_l_take.nd rfl (by walk_at "oz") pe_int)
     (pss_cons (ps_if (pt_cmpR uo_lt (pe_ix ix_any (pv 0) pe_int (λ _ _ => rfl)) (pe_callB cr_len (by rfl) T.b_len (by decide +kernel) (pa_cons (pe_ix ix_any (pv 0) pe_int (λ _ _ => rfl)) pa_nil)) (nomark _)) (pss_one (ps_set (i := 4) sc_l_take.nd rfl (by walk_at "oz") (pe_ix ix_any (pe_ix ix_any (pv 0) pe_int (λ _ _ => rfl)) (pe_ix ix_any (pv 0) pe_int (λ _ _ => rfl)) (λ _ _ => rfl)))) pss_nil)
     (pss_cons (ps_augS (pv 0) pe_int (get_any hr.u1) pe_int (ip_of io_add) (set_any hr.u1))
     (pss_cons (ps_if (pt_cmpR uo_ge (pv 4) pe_int (nomark _)) (pss_one (ps_asg (pv 4) (pg_sub (pv 0) pe_int (set_any hr.u1)))) pss_nil)
     (pss_one (ps_asg (pe_op uo_mod (pe_op uo_add (pe_op uo_add (pe_op uo_mul (pe_ix ix_any (pv 0) pe_int (λ _ _ => rfl)) pe_int) (pe_op uo_mod (pv 4) pe_int)) (pe_op uo_mul pe_int (pe_ix ix_any (pv 0) pe_int (λ _ _ => rfl)))) pe_int) (pg_sub (pv 0) pe_int (set_any hr.u1)))))))) pss_nil)
     (pss_cons (ps_if (pt_cmpR uo_gt (pe_ix ix_any (pv 0) pe_int (λ _ _ => rfl)) pe_int (nomark _)) (pss_cons (ps_set (i := 5) sc_l_take.nd rfl (by walk_at "oz") (pe_op uo_mod (pe_ix ix_any (pv 0) pe_int (λ _ _ => rfl)) (pv 1)))
     (pss_cons (ps_asg (pe_op uo_div (pe_ix ix_any (pv 0) pe_int (λ _ _ => rfl)) (pv 1)) (pg_sub (pv 0) pe_int (set_any hr.u1)))
     (pss_one (ps_ret (pv 5))))) pss_nil)
     (pss_cons (ps_set (i := 2) sc_l_take.nd rfl (by walk_at "oz") (pe_op uo_mod (pe_op uo_mul (pe_op uo_add (pe_ix ix_any (pv 0) pe_int (λ _ _ => rfl)) pe_int) pe_int) pe_int))
     (pss_cons (ps_set (i := 3) sc_l_take.nd rfl (by walk_at "oz") (pe_op uo_mod (pe_op uo_mul (pe_op uo_mod (pe_op uo_mul (pv 2) (pv 2)) pe_int) pe_int) pe_int))
     (pss_cons (ps_if (pt_cmpR uo_gt (pv 1) pe_int (nomark _)) (pss_one (ps_ret (pe_op uo_mod (pe_op uo_add (pe_op uo_mul (pv 3) pe_int) (pv 2)) (pv 1)))) pss_nil)
     (pss_one (ps_ret (pe_op uo_mod (pe_op uo_div (pv 3) pe_int) (pv 1)))))))))
theorem sc_l_names : FnScope ["_law_bag_here", "_law_many", "_law_letters", "_law_words", "_law_pick", "_law_turn", "_law_size", "_law_at", "_law_base", "_law_k"] ["_law_bag_here", "_law_many"] (defScope s_l_names) := (by walk_at "fs")
theorem bd_l_names (T : Txt K mg) : Binds K (fdOf K (He.ga K "_law_names")) ["_law_bag_here", "_law_many"] [] := T.F_l_names.bindsN λ _ _ _ _ _ _ us hl => match us, hl with | [_, _], _ => rfl
theorem ok_l_names (T : Txt K mg) (nd : NDX base) : FnX false P w K mg base CX0 2 (He.ga K "_law_names") (fdOf K (He.ga K "_law_names")) ["_law_bag_here", "_law_many"] (sp_l_names K) := by
 refine okX T.F_l_names sc_l_names len_l_names (λ cdv A outer s H vs Q E hgu0 hr h => ⟨t_l_names K, PSs.nox ?_, pure_l_names vs H Q E h⟩)
 exact (pss_cons (ps_set (i := 2) sc_l_names.nd rfl (by walk_at "oz") pe_str)
     (pss_cons (ps_set (i := 3) sc_l_names.nd rfl (by walk_at "oz") (pe_lst (pa_cons pe_str (pa_cons pe_str (pa_cons pe_str (pa_cons pe_str (pa_cons pe_str (pa_cons pe_str (pa_cons pe_str (pa_cons pe_str (pa_cons pe_str (pa_cons pe_str (pa_cons pe_str (pa_cons pe_str pa_nil))))))))))))))
     (pss_cons (ps_set (i := 4) sc_l_names.nd rfl (by walk_at "oz") (pe_callX (ok_l_take T nd) nz hr rfl T.g_l_take T.F_l_take.kp (bd_l_take T) .nil pass0 (pa_cons (pv 0) (pa_cons pe_int pa_nil))))
     (pss_cons (ps_set (i := 5) sc_l_names.nd rfl (by walk_at "oz") (pe_callX (ok_l_take T nd) nz hr rfl T.g_l_take T.F_l_take.kp (bd_l_take T) .nil pass0 (pa_cons (pv 0) (pa_cons pe_int pa_nil))))
     (pss_cons (ps_set (i := 6) sc_l_names.nd rfl (by walk_at "oz") (pe_op uo_add pe_int (pe_callX (ok_l_take T nd) nz hr rfl T.g_l_take T.F_l_take.kp (bd_l_take T) .nil pass0 (pa_cons (pv 0) (pa_cons pe_int pa_nil)))))
     (pss_cons (ps_set (i := 7) sc_l_names.nd rfl (by walk_at "oz") (pe_callX (ok_l_take T nd) nz hr rfl T.g_l_take T.F_l_take.kp (bd_l_take T) .nil pass0 (pa_cons (pv 0) (pa_cons (pv 6) pa_nil))))
     (pss_cons (ps_set (i := 8) sc_l_names.nd rfl (by walk_at "oz") (pe_lc (own := [("_law_k", 9)]) (g := (gName 9)) (tt := tYes) rfl sc_l_names.nd (pi_range1 (by rfl) T.b_range (pa_cons (pv 6) pa_nil)) (blkOk_by (own := [("_law_k", 9)]) (N := ["_law_bag_here", "_law_many", "_law_letters", "_law_words", "_law_pick", "_law_turn", "_law_size", "_law_at", "_law_base", "_law_k"]) (sc := defScope s_l_names) (by decide +kernel)) (λ _ _ _ _ _ => (pg_name (i := 9) sc_l_names.nd rfl (by walk_at "oz"))) (λ _ _ _ _ _ => pts_nil) (λ _ _ _ _ _ => (pe_ix ix_any (pv 2) (pe_callX (ok_l_take T nd) nz hr rfl T.g_l_take T.F_l_take.kp (bd_l_take T) .nil pass0 (pa_cons (pv 0) (pa_cons pe_int pa_nil))) (λ _ _ => rfl)))))
     (pss_cons (ps_if (pt_cmpR (uo_eq hr.units) (pv 4) pe_int (nomark _)) (pss_one (ps_ret (pe_slice sl_any (pe_slice sl_any (pe_op uo_add (pv 3) (pv 3)) (po_some (pe_op uo_mod (pv 5) pe_int)) po_none) po_none (po_some (pv 1))))) pss_nil)
     (pss_one (ps_ret (pe_lc (own := [("_law_k", 9)]) (g := (gName 9)) (tt := tYes) rfl sc_l_names.nd (pi_range1 (by rfl) T.b_range (pa_cons (pv 1) pa_nil)) (blkOk_by (own := [("_law_k", 9)]) (N := ["_law_bag_here", "_law_many", "_law_letters", "_law_words", "_law_pick", "_law_turn", "_law_size", "_law_at", "_law_base", "_law_k"]) (sc := defScope s_l_names) (by decide +kernel)) (λ _ _ _ _ _ => (pg_name (i := 9) sc_l_names.nd rfl (by walk_at "oz"))) (λ _ _ _ _ _ => pts_nil) (λ _ _ _ _ _ => (pe_join pe_str (pe_op uo_add (pe_op uo_add (pe_slice sl_any (pv 8) po_none (po_some (pv 7))) (pe_lst (pa_cons (pe_ix ix_any (pv 2) (pe_op uo_mod (pe_op uo_add (pv 5) (pv 9)) pe_int) (λ _ _ => rfl)) pa_nil))) (pe_slice sl_any (pv 8) (po_some (pe_op uo_add (pv 7) pe_int)) po_none)))))))))))))))
theorem sc_House___init__ : FnScope ["self"] ["self"] (defScope s_House___init__) := (by walk_at "fs")
theorem bd_House___init__ (T : Txt K mg) : Binds K (fdOf K (mA K "House" "__init__")) ["self"] [] := T.F_House___init__.bindsN λ _ _ _ _ _ _ us hl => match us, hl with | [_], _ => rfl
theorem ok_House___init__ (T : Txt K mg) (nd : NDX base) : FnX false P w K mg base CX0 1 (mA K "House" "__init__") (fdOf K (mA K "House" "__init__")) ["self"] (sp_House___init__ K) := by
 refine okX T.F_House___init__ sc_House___init__ len_House___init__ (λ cdv A outer s H vs Q E hgu0 hr h => ⟨t_House___init__ K, PSs.nox ?_, pure_House___init__ T.c vs H Q E h⟩)
 exact (pss_one (ps_fld (pv 0) pe_dnewK (by rfl)))
theorem sc_l_due : FnScope ["_law_files", "_law_deed_here", "_law_word", "_law_name"] ["_law_files", "_law_deed_here"] (defScope s_l_due) := (by walk_at "fs")
theorem bd_l_due (T : Txt K mg) : Binds K (fdOf K (He.ga K "_law_due")) ["_law_files", "_law_deed_here"] [] := T.F_l_due.bindsN λ _ _ _ _ _ _ us hl => match us, hl with | [_, _], _ => rfl
theorem ok_l_due (T : Txt K mg) (nd : NDX base) : FnX false P w K mg base CX0 1 (He.ga K "_law_due") (fdOf K (He.ga K "_law_due")) ["_law_files", "_law_deed_here"] (sp_l_due K) := by
 refine okX T.F_l_due sc_l_due len_l_due (λ cdv A outer s H vs Q E hgu0 hr h => ⟨t_l_due K, PSs.nox ?_, pure_l_due vs H Q E h⟩)
 exact (pss_cons (ps_asg (pe_slice sl_tupA (pv 1) po_none (po_some pe_int)) (pg_tup rfl (pgs_cons (pg_name (i := 2) sc_l_due.nd rfl (by walk_at "oz")) (pgs_cons (pg_name (i := 3) sc_l_due.nd rfl (by walk_at "oz")) pgs_nil))))
     (pss_cons (ps_if (PW.pt (pw_and (pt_cmpR (uo_eq hr.units) (pv 2) pe_str (nomark _)) (pw_and (pt_cmpR (uo_notinU hr.u65) (pv 3) (pv 0) (by rfl)) (pw_and1 (pt_cmpR (uo_eq hr.units) (pe_callB cr_len (by rfl) T.b_len (by decide +kernel) (pa_cons (pv 0) pa_nil)) pe_int (nomark _)))))) (pss_one (ps_ret (pe_tup (pa_cons pe_str (pa_cons pe_int pa_nil))))) pss_nil)
     (pss_cons (ps_if (PW.pt (pw_and (pt_cmpR (uo_inU hr.u65) (pv 2) (pe_tup (pa_cons pe_str (pa_cons pe_str (pa_cons pe_str pa_nil)))) (by rfl)) (pw_and1 (pt_cmpR (uo_notinU hr.u65) (pv 3) (pv 0) (by rfl))))) (pss_one (ps_ret (pe_tup (pa_cons pe_str (pa_cons (pv 3) pa_nil))))) pss_nil)
     (pss_cons (ps_if (PW.pt (pw_and (pt_cmpR (uo_eq hr.units) (pv 2) pe_str (nomark _)) (pw_and1 (pt_cmpR (uo_inU hr.u65) (pe_ix ix_any (pv 1) pe_int (λ _ _ => rfl)) (pv 0) (by rfl))))) (pss_one (ps_ret (pe_tup (pa_cons pe_str (pa_cons (pe_ix ix_any (pv 1) pe_int (λ _ _ => rfl)) pa_nil))))) pss_nil)
     (pss_one (ps_ret pe_non))))))
theorem sc_l_do : FnScope ["_law_files", "_law_deed_here", "_law_word", "_law_name", "_law_one"] ["_law_files", "_law_deed_here"] (defScope s_l_do) := (by walk_at "fs")
theorem bd_l_do (T : Txt K mg) : Binds K (fdOf K (He.ga K "_law_do")) ["_law_files", "_law_deed_here"] [] := T.F_l_do.bindsN λ _ _ _ _ _ _ us hl => match us, hl with | [_, _], _ => rfl
theorem ok_l_do (T : Txt K mg) (nd : NDX base) : FnX false P w K mg base CX0 1 (He.ga K "_law_do") (fdOf K (He.ga K "_law_do")) ["_law_files", "_law_deed_here"] (sp_l_do K) := by
 refine okX T.F_l_do sc_l_do len_l_do (λ cdv A outer s H vs Q E hgu0 hr h => ⟨t_l_do K, PSs.nox ?_, pure_l_do vs H Q E h⟩)
 exact (pss_cons (ps_asg (pe_slice sl_tupA (pv 1) po_none (po_some pe_int)) (pg_tup rfl (pgs_cons (pg_name (i := 2) sc_l_do.nd rfl (by walk_at "oz")) (pgs_cons (pg_name (i := 3) sc_l_do.nd rfl (by walk_at "oz")) pgs_nil))))
     (pss_cons (ps_if (pt_cmpR (uo_eq hr.units) (pv 2) pe_str (nomark _)) (pss_one (ps_ret (pe_callTy cr_list (by rfl) T.b_list (by decide +kernel) (pa_cons (pe_ix (ix_dk hr.u1) (pv 0) (pv 3) (λ _ _ => rfl)) pa_nil)))) pss_nil)
     (pss_cons (ps_if (pt_cmpR (uo_eq hr.units) (pv 2) pe_str (nomark _)) (pss_one (ps_asg (pe_callTy cr_list (by rfl) T.b_list (by decide +kernel) (pa_cons (pe_ix ix_any (pv 1) pe_int (λ _ _ => rfl)) pa_nil)) (pg_sub (pv 0) (pv 3) (set_any hr.u1)))) pss_nil)
     (pss_cons (ps_if (pt_cmpR (uo_eq hr.units) (pv 2) pe_str (nomark _)) (pss_one (ps_expr (pe_dpop1 (pv 0) (pv 3) ⟨by rfl, by rfl, by rfl, by rfl⟩))) pss_nil)
     (pss_cons (ps_if (pt_cmpR (uo_eq hr.units) (pv 2) pe_str (nomark _)) (pss_one (ps_asg (pe_dpop1 (pv 0) (pv 3) ⟨by rfl, by rfl, by rfl, by rfl⟩) (pg_sub (pv 0) (pe_ix ix_any (pv 1) pe_int (λ _ _ => rfl)) (set_any hr.u1)))) pss_nil)
     (pss_cons (ps_if (pt_cmpR (uo_eq hr.units) (pv 2) pe_str (nomark _)) (pss_cons (ps_expr (pe_dclear (pv 0)))
     (pss_one (ps_expr (pe_bm PySem.F.plainAttrs_dict PySem.F.slot_dict_update PySem.F.type_dict_update mtd_update (pv 0) (pa_cons (pe_fz (pe_callTy (cr_dictP rfl) (by rfl) T.b_dict (by decide +kernel) (pa_cons (pe_lk (pe_lc (own := [("_law_one", 4)]) (g := (gName 4)) (tt := tYes) rfl sc_l_do.nd (pi_keys (pv 3)) (blkOk_by (own := [("_law_one", 4)]) (N := ["_law_files", "_law_deed_here", "_law_word", "_law_name", "_law_one"]) (sc := defScope s_l_do) (by decide +kernel)) (λ _ _ _ _ _ => (pg_name (i := 4) sc_l_do.nd rfl (by walk_at "oz"))) (λ _ _ _ _ _ => pts_nil) (λ _ _ _ _ _ => (pe_tup (pa_cons (pv 4) (pa_cons (pe_callTy cr_list (by rfl) T.b_list (by decide +kernel) (pa_cons (pe_ix (ix_dk hr.u1) (pv 3) (pv 4) (λ _ _ => rfl)) pa_nil)) pa_nil)))))) pa_nil))) pa_nil))))) pss_nil)
     (pss_one (ps_ret pe_non))))))))
theorem sc_l_alike : FnScope ["_law_found", "_law_due_here"] ["_law_found", "_law_due_here"] (defScope s_l_alike) := (by walk_at "fs")
theorem bd_l_alike (T : Txt K mg) : Binds K (fdOf K (He.ga K "_law_alike")) ["_law_found", "_law_due_here"] [] := T.F_l_alike.bindsN λ _ _ _ _ _ _ us hl => match us, hl with | [_, _], _ => rfl
theorem ok_l_alike (T : Txt K mg) (nd : NDX base) : FnX true P w K mg base CX0 1 (He.ga K "_law_alike") (fdOf K (He.ga K "_law_alike")) ["_law_found", "_law_due_here"] (sp_l_alike K) := by
 refine okX T.F_l_alike sc_l_alike len_l_alike (λ cdv A outer s H vs Q E hgu0 hr h => ⟨t_l_alike K, PSs.nox ?_, pure_l_alike vs H Q E h⟩)
 have hgu : (A.deeper (envOfC "_law_alike" (defScope s_l_alike) s.heap.objs.size (He.ga K "_law_alike") cdv)).guards = some [] := hgu0 rfl
 exact (pss_one (ps_ret (pe_and (pe_cmpR (uo_eqQ (units128 hr)) (pv 0) (pv 1) (nomark _)) (pe_one (pe_cmpR (uo_eqQ (units128 hr)) (pe_callB (cr_reprQ nd.2 hgu hr.units) (by rfl) T.b_repr (by decide +kernel) (pa_cons (pv 0) pa_nil)) (pe_callB (cr_reprQ nd.2 hgu hr.units) (by rfl) T.b_repr (by decide +kernel) (pa_cons (pv 1) pa_nil)) (nomark _))))))
theorem sc_wanted : FnScope ["at", "fits"] ["at", "fits"] (defScope s_wanted) := (by walk_at "fs")
theorem bd_wanted (T : Txt K mg) : Binds K (fdOf K (He.ga K "wanted")) ["at", "fits"] [] := T.F_wanted.bindsN λ _ _ _ _ _ _ us hl => match us, hl with | [_, _], _ => rfl
theorem ok_wanted (T : Txt K mg) (nd : NDX base) : FnX false P w K mg base (L2.CX P w) 3 (He.ga K "wanted") (fdOf K (He.ga K "wanted")) ["at", "fits"] (sp_wanted K) := by
 refine okW T.F_wanted sc_wanted len_wanted (λ cdv A outer s H vs Q E hgu0 hr h tk pw => ⟨t_wanted K (WT E), ?_, pure_wanted T.c vs H Q E h⟩)
 exact (pss_one (ps_if (pt_not (pt_val (pv 1))) (pss_one (ps_rz rfl tk T.xb_Wrong T.xf_Wrong.1 T.xf_Wrong.2 (ok_Wrong___init__ T) (hr.mono (by decide)) (bd_Wrong___init__ T) (λ _ _ _ _ _ _ _ z => z.elim) rfl T.cg_Wrong (pv 0))) pss_nil))
theorem sc_is_name : FnScope ["thing", "letter"] ["thing"] (defScope s_is_name) := (by walk_at "fs")
theorem bd_is_name (T : Txt K mg) : Binds K (fdOf K (He.ga K "is_name")) ["thing"] [] := T.F_is_name.bindsN λ _ _ _ _ _ _ us hl => match us, hl with | [_], _ => rfl
theorem ok_is_name (T : Txt K mg) (nd : NDX base) : FnX false P w K mg base CX0 1 (He.ga K "is_name") (fdOf K (He.ga K "is_name")) ["thing"] (sp_is_name K) := by
 refine okX T.F_is_name sc_is_name len_is_name (λ cdv A outer s H vs Q E hgu0 hr h => ⟨t_is_name K, PSs.nox ?_, pure_is_name vs H Q E h⟩)
 exact (pss_cons (ps_if (PW.pt (pw_or (pt_not (pt_val (pe_callB cr_isiQ (by rfl) T.b_isinstance (by decide +kernel) (pa_cons (pv 0) (pa_cons (pe_bltn (by rfl) T.b_str (by decide +kernel) rfl) pa_nil))))) (pw_or1 (pt_not (pt_chain uo_le uo_le pe_int (pe_callB cr_len (by rfl) T.b_len (by decide +kernel) (pa_cons (pv 0) pa_nil)) (pe_globI rfl T.c_LONGEST)))))) (pss_one (ps_ret pe_bl)) pss_nil)
     (pss_cons (ps_for PassesOwn.never rfl (pi_str (pv 0)) (pg_name (i := 1) sc_is_name.nd rfl (by walk_at "oz")) (pss_one (ps_if (pt_cmpR (uo_notinU hr.u65) (pv 1) (pe_globS rfl T.c_LETTERS) (by rfl)) (pss_one (ps_ret pe_bl)) pss_nil)))
     (pss_one (ps_ret pe_bl))))
theorem sc_is_whole : FnScope ["thing"] ["thing"] (defScope s_is_whole) := (by walk_at "fs")
theorem bd_is_whole (T : Txt K mg) : Binds K (fdOf K (He.ga K "is_whole")) ["thing"] [] := T.F_is_whole.bindsN λ _ _ _ _ _ _ us hl => match us, hl with | [_], _ => rfl
theorem ok_is_whole (T : Txt K mg) (nd : NDX base) : FnX false P w K mg base CX0 1 (He.ga K "is_whole") (fdOf K (He.ga K "is_whole")) ["thing"] (sp_is_whole K) := by
 refine okX T.F_is_whole sc_is_whole len_is_whole (λ cdv A outer s H vs Q E hgu0 hr h => ⟨t_is_whole K, PSs.nox ?_, pure_is_whole vs H Q E h⟩)
 exact (pss_one (ps_ret (pe_and (pe_callB cr_isiQ (by rfl) T.b_isinstance (by decide +kernel) (pa_cons (pv 0) (pa_cons (pe_bltn (by rfl) T.b_int (by decide +kernel) rfl) pa_nil))) (pe_one (pe_not (pe_callB cr_isiQ (by rfl) T.b_isinstance (by decide +kernel) (pa_cons (pv 0) (pa_cons (pe_bltn (by rfl) T.b_bool (by decide +kernel) rfl) pa_nil))))))))
theorem sc_is_sign : FnScope ["thing"] ["thing"] (defScope s_is_sign) := (by walk_at "fs")
theorem bd_is_sign (T : Txt K mg) : Binds K (fdOf K (He.ga K "is_sign")) ["thing"] [] := T.F_is_sign.bindsN λ _ _ _ _ _ _ us hl => match us, hl with | [_], _ => rfl
theorem ok_is_sign (T : Txt K mg) (nd : NDX base) : FnX false P w K mg base CX0 2 (He.ga K "is_sign") (fdOf K (He.ga K "is_sign")) ["thing"] (sp_is_sign K) := by
 refine okX T.F_is_sign sc_is_sign len_is_sign (λ cdv A outer s H vs Q E hgu0 hr h => ⟨t_is_sign K, PSs.nox ?_, pure_is_sign vs H Q E h⟩)
 exact (pss_one (ps_ret (pe_and (pe_callX (ok_is_whole T nd) nz hr rfl T.g_is_whole T.F_is_whole.kp (bd_is_whole T) .nil pass0 (pa_cons (pv 0) pa_nil)) (pe_one (pe_chain uo_le uo_le pe_int (pv 0) (pe_globI rfl T.c_MOST_SIGN))))))
theorem sc_are_signs : FnScope ["thing", "fewest", "most", "sign"] ["thing", "fewest", "most"] (defScope s_are_signs) := (by walk_at "fs")
theorem bd_are_signs (T : Txt K mg) : Binds K (fdOf K (He.ga K "are_signs")) ["thing", "fewest", "most"] [] := T.F_are_signs.bindsN λ _ _ _ _ _ _ us hl => match us, hl with | [_, _, _], _ => rfl
theorem ok_are_signs (T : Txt K mg) (nd : NDX base) : FnX false P w K mg base CX0 3 (He.ga K "are_signs") (fdOf K (He.ga K "are_signs")) ["thing", "fewest", "most"] (sp_are_signs K) := by
 refine okX T.F_are_signs sc_are_signs len_are_signs (λ cdv A outer s H vs Q E hgu0 hr h => ⟨t_are_signs K, PSs.nox ?_, pure_are_signs vs H Q E h⟩)
 exact (pss_cons (ps_if (PW.pt (pw_or (pt_not (pt_val (pe_callB cr_isiQ (by rfl) T.b_isinstance (by decide +kernel) (pa_cons (pv 0) (pa_cons (pe_bltn (by rfl) T.b_list (by decide +kernel) rfl) pa_nil))))) (pw_or1 (pt_not (pt_chain uo_le uo_le (pv 1) (pe_callB cr_len (by rfl) T.b_len (by decide +kernel) (pa_cons (pv 0) pa_nil)) (pv 2)))))) (pss_one (ps_ret pe_bl)) pss_nil)
     (pss_cons (ps_for PassesOwn.never rfl (pi_list (pv 0)) (pg_name (i := 3) sc_are_signs.nd rfl (by walk_at "oz")) (pss_one (ps_if (pt_not (pt_val (pe_callX (ok_is_sign T nd) nz hr rfl T.g_is_sign T.F_is_sign.kp (bd_is_sign T) .nil pass0 (pa_cons (pv 3) pa_nil)))) (pss_one (ps_ret pe_bl)) pss_nil)))
     (pss_one (ps_ret pe_bl))))
theorem sc_is_content : FnScope ["thing"] ["thing"] (defScope s_is_content) := (by walk_at "fs")
theorem bd_is_content (T : Txt K mg) : Binds K (fdOf K (He.ga K "is_content")) ["thing"] [] := T.F_is_content.bindsN λ _ _ _ _ _ _ us hl => match us, hl with | [_], _ => rfl
theorem ok_is_content (T : Txt K mg) (nd : NDX base) : FnX false P w K mg base CX0 4 (He.ga K "is_content") (fdOf K (He.ga K "is_content")) ["thing"] (sp_is_content K) := by
 refine okX T.F_is_content sc_is_content len_is_content (λ cdv A outer s H vs Q E hgu0 hr h => ⟨t_is_content K, PSs.nox ?_, pure_is_content vs H Q E h⟩)
 exact (pss_one (ps_ret (pe_callX (ok_are_signs T nd) nz hr rfl T.g_are_signs T.F_are_signs.kp (bd_are_signs T) .nil pass0 (pa_cons (pv 0) (pa_cons pe_int (pa_cons (pe_globI rfl T.c_MOST_CONTENT) pa_nil))))))
theorem sc_House_write : FnScope ["self", "name", "content"] ["self", "name", "content"] (defScope s_House_write) := (by walk_at "fs")
theorem bd_House_write (T : Txt K mg) : Binds K (fdOf K (mA K "House" "write")) ["self", "name", "content"] [] := T.F_House_write.bindsN λ _ _ _ _ _ _ us hl => match us, hl with | [_, _, _], _ => rfl
theorem ok_House_write (T : Txt K mg) (nd : NDX base) : FnX false P w K mg base (L2.CX P w) 5 (mA K "House" "write") (fdOf K (mA K "House" "write")) ["self", "name", "content"] (sp_House_write K) := by
 refine okW T.F_House_write sc_House_write len_House_write (λ cdv A outer s H vs Q E hgu0 hr h tk pw => ⟨t_House_write K (WT E), ?_, pure_House_write T.c vs H Q E h⟩)
 exact (pss_cons (ps_expr (pe_callW (ok_wanted T nd) nz (hr.mono (by decide)) rfl T.g_wanted T.F_wanted.kp (bd_wanted T) .nil (λ σ => passAt tk σ) (pa_cons pe_int (pa_cons (pe_callX (ok_is_name T nd) nz (hr.mono (by decide)) rfl T.g_is_name T.F_is_name.kp (bd_is_name T) .nil pass0 (pa_cons (pv 1) pa_nil)) pa_nil))))
     (pss_cons (ps_expr (pe_callW (ok_wanted T nd) nz (hr.mono (by decide)) rfl T.g_wanted T.F_wanted.kp (bd_wanted T) .nil (λ σ => passAt tk σ) (pa_cons pe_int (pa_cons (pe_callX (ok_is_content T nd) nz hr rfl T.g_is_content T.F_is_content.kp (bd_is_content T) .nil pass0 (pa_cons (pv 2) pa_nil)) pa_nil))))
     (pss_cons (ps_if (PW.pt (pw_and (pt_cmpR (uo_notinU hr.u65) (pv 1) (pe_fld (pv 0) rfl) (by rfl)) (pw_and1 (pt_cmpR (uo_eq hr.units) (pe_callB cr_len (by rfl) T.b_len (by decide +kernel) (pa_cons (pe_fld (pv 0) rfl) pa_nil)) (pe_globI rfl T.c_MOST_KEPT) (nomark _))))) (pss_one (ps_rz rfl tk T.xb_TooMany T.xf_TooMany.1 T.xf_TooMany.2 (ok_TooMany___init__ T) (hr.mono (by decide)) (bd_TooMany___init__ T) (λ _ _ _ _ _ _ _ z => z.elim) rfl T.cg_TooMany (pe_globI rfl T.c_MOST_KEPT))) pss_nil)
     (pss_one (ps_asg (pe_callTy cr_list (by rfl) T.b_list (by decide +kernel) (pa_cons (pv 2) pa_nil)) (pg_sub (pe_fld (pv 0) rfl) (pv 1) (set_any hr.u1)))))))
theorem sc_House_need_file : FnScope ["self", "name"] ["self", "name"] (defScope s_House_need_file) := (by walk_at "fs")
theorem bd_House_need_file (T : Txt K mg) : Binds K (fdOf K (mA K "House" "need_file")) ["self", "name"] [] := T.F_House_need_file.bindsN λ _ _ _ _ _ _ us hl => match us, hl with | [_, _], _ => rfl
theorem ok_House_need_file (T : Txt K mg) (nd : NDX base) : FnX false P w K mg base (L2.CX P w) 3 (mA K "House" "need_file") (fdOf K (mA K "House" "need_file")) ["self", "name"] (sp_House_need_file K) := by
 refine okW T.F_House_need_file sc_House_need_file len_House_need_file (λ cdv A outer s H vs Q E hgu0 hr h tk pw => ⟨t_House_need_file K (WT E), ?_, pure_House_need_file T.c vs H Q E h⟩)
 exact (pss_one (ps_if (pt_cmpR (uo_notinU hr.u65) (pv 1) (pe_fld (pv 0) rfl) (by rfl)) (pss_one (ps_rz rfl tk T.xb_NoFile T.xf_NoFile.1 T.xf_NoFile.2 (ok_NoFile___init__ T) (hr.mono (by decide)) (bd_NoFile___init__ T) (λ _ _ _ _ _ _ _ z => z.elim) rfl T.cg_NoFile (pv 1))) pss_nil))
theorem sc_House_drop : FnScope ["self", "name"] ["self", "name"] (defScope s_House_drop) := (by walk_at "fs")
theorem bd_House_drop (T : Txt K mg) : Binds K (fdOf K (mA K "House" "drop")) ["self", "name"] [] := T.F_House_drop.bindsN λ _ _ _ _ _ _ us hl => match us, hl with | [_, _], _ => rfl
theorem ok_House_drop (T : Txt K mg) (nd : NDX base) : FnX false P w K mg base (L2.CX P w) 4 (mA K "House" "drop") (fdOf K (mA K "House" "drop")) ["self", "name"] (sp_House_drop K) := by
 refine okW T.F_House_drop sc_House_drop len_House_drop (λ cdv A outer s H vs Q E hgu0 hr h tk pw => ⟨t_House_drop K (WT E), ?_, pure_House_drop T.c vs H Q E h⟩)
 exact (pss_cons (ps_expr (pe_callW (ok_wanted T nd) nz hr rfl T.g_wanted T.F_wanted.kp (bd_wanted T) .nil (λ σ => passAt tk σ) (pa_cons pe_int (pa_cons (pe_callX (ok_is_name T nd) nz (hr.mono (by decide)) rfl T.g_is_name T.F_is_name.kp (bd_is_name T) .nil pass0 (pa_cons (pv 1) pa_nil)) pa_nil))))
     (pss_cons (ps_expr (pe_methW (pv 0) T.cl_House T.me_House_need_file (ok_House_need_file T nd) nz hr (bd_House_need_file T) .nil (λ σ => passAt tk σ) (pa_cons (pv 1) pa_nil)))
     (pss_one (ps_expr (pe_dpop1 (pe_fld (pv 0) rfl) (pv 1) ⟨by rfl, by rfl, by rfl, by rfl⟩)))))
theorem sc_House_move : FnScope ["self", "name", "new"] ["self", "name", "new"] (defScope s_House_move) := (by walk_at "fs")
theorem bd_House_move (T : Txt K mg) : Binds K (fdOf K (mA K "House" "move")) ["self", "name", "new"] [] := T.F_House_move.bindsN λ _ _ _ _ _ _ us hl => match us, hl with | [_, _, _], _ => rfl
theorem ok_House_move (T : Txt K mg) (nd : NDX base) : FnX false P w K mg base (L2.CX P w) 4 (mA K "House" "move") (fdOf K (mA K "House" "move")) ["self", "name", "new"] (sp_House_move K) := by
 refine okW T.F_House_move sc_House_move len_House_move (λ cdv A outer s H vs Q E hgu0 hr h tk pw => ⟨t_House_move K (WT E), ?_, pure_House_move T.c vs H Q E h⟩)
 exact (pss_cons (ps_expr (pe_callW (ok_wanted T nd) nz hr rfl T.g_wanted T.F_wanted.kp (bd_wanted T) .nil (λ σ => passAt tk σ) (pa_cons pe_int (pa_cons (pe_callX (ok_is_name T nd) nz (hr.mono (by decide)) rfl T.g_is_name T.F_is_name.kp (bd_is_name T) .nil pass0 (pa_cons (pv 1) pa_nil)) pa_nil))))
     (pss_cons (ps_expr (pe_callW (ok_wanted T nd) nz hr rfl T.g_wanted T.F_wanted.kp (bd_wanted T) .nil (λ σ => passAt tk σ) (pa_cons pe_int (pa_cons (pe_callX (ok_is_name T nd) nz (hr.mono (by decide)) rfl T.g_is_name T.F_is_name.kp (bd_is_name T) .nil pass0 (pa_cons (pv 2) pa_nil)) pa_nil))))
     (pss_cons (ps_expr (pe_methW (pv 0) T.cl_House T.me_House_need_file (ok_House_need_file T nd) nz hr (bd_House_need_file T) .nil (λ σ => passAt tk σ) (pa_cons (pv 1) pa_nil)))
     (pss_cons (ps_if (pt_cmpR (uo_inU hr.u65) (pv 2) (pe_fld (pv 0) rfl) (by rfl)) (pss_one (ps_rz rfl tk T.xb_There T.xf_There.1 T.xf_There.2 (ok_There___init__ T) (hr.mono (by decide)) (bd_There___init__ T) (λ _ _ _ _ _ _ _ z => z.elim) rfl T.cg_There (pv 2))) pss_nil)
     (pss_one (ps_asg (pe_dpop1 (pe_fld (pv 0) rfl) (pv 1) ⟨by rfl, by rfl, by rfl, by rfl⟩) (pg_sub (pe_fld (pv 0) rfl) (pv 2) (set_any hr.u1))))))))
theorem sc_are_contents : FnScope ["thing", "name"] ["thing"] (defScope s_are_contents) := (by walk_at "fs")
theorem bd_are_contents (T : Txt K mg) : Binds K (fdOf K (He.ga K "are_contents")) ["thing"] [] := T.F_are_contents.bindsN λ _ _ _ _ _ _ us hl => match us, hl with | [_], _ => rfl
theorem ok_are_contents (T : Txt K mg) (nd : NDX base) : FnX false P w K mg base CX0 5 (He.ga K "are_contents") (fdOf K (He.ga K "are_contents")) ["thing"] (sp_are_contents K) := by
 refine okX T.F_are_contents sc_are_contents len_are_contents (λ cdv A outer s H vs Q E hgu0 hr h => ⟨t_are_contents K, PSs.nox ?_, pure_are_contents vs H Q E h⟩)
 exact (pss_cons (ps_if (PW.pt (pw_or (pt_not (pt_val (pe_callB cr_isiQ (by rfl) T.b_isinstance (by decide +kernel) (pa_cons (pv 0) (pa_cons (pe_bltn (by rfl) T.b_dict (by decide +kernel) rfl) pa_nil))))) (pw_or1 (pt_cmpR uo_gt (pe_callB cr_len (by rfl) T.b_len (by decide +kernel) (pa_cons (pv 0) pa_nil)) (pe_globI rfl T.c_MOST_KEPT) (nomark _))))) (pss_one (ps_ret pe_bl)) pss_nil)
     (pss_cons (ps_lk (ps_for PassesOwn.never rfl (pi_keys (pv 0)) (pg_name (i := 1) sc_are_contents.nd rfl (by walk_at "oz")) (pss_one (ps_if (PW.pt (pw_or (pt_not (pt_val (pe_callX (ok_is_name T nd) nz (hr.mono (by decide)) rfl T.g_is_name T.F_is_name.kp (bd_is_name T) .nil pass0 (pa_cons (pv 1) pa_nil)))) (pw_or1 (pt_not (pt_val (pe_callX (ok_is_content T nd) nz hr rfl T.g_is_content T.F_is_content.kp (bd_is_content T) .nil pass0 (pa_cons (pe_ix (ix_dk hr.u1) (pv 0) (pv 1) (λ _ _ => rfl)) pa_nil))))))) (pss_one (ps_ret pe_bl)) pss_nil))))
     (pss_one (ps_ret pe_bl))))
theorem sc_House_become : FnScope ["self", "contents", "name"] ["self", "contents"] (defScope s_House_become) := (by walk_at "fs")
theorem bd_House_become (T : Txt K mg) : Binds K (fdOf K (mA K "House" "become")) ["self", "contents"] [] := T.F_House_become.bindsN λ _ _ _ _ _ _ us hl => match us, hl with | [_, _], _ => rfl
theorem ok_House_become (T : Txt K mg) (nd : NDX base) : FnX false P w K mg base (L2.CX P w) 6 (mA K "House" "become") (fdOf K (mA K "House" "become")) ["self", "contents"] (sp_House_become K) := by
 refine okW T.F_House_become sc_House_become len_House_become (λ cdv A outer s H vs Q E hgu0 hr h tk pw => ⟨t_House_become K (WT E), ?_, pure_House_become T.c vs H Q E h⟩)
 exact (pss_cons (ps_expr (pe_callW (ok_wanted T nd) nz (hr.mono (by decide)) rfl T.g_wanted T.F_wanted.kp (bd_wanted T) .nil (λ σ => passAt tk σ) (pa_cons pe_int (pa_cons (pe_callX (ok_are_contents T nd) nz hr rfl T.g_are_contents T.F_are_contents.kp (bd_are_contents T) .nil pass0 (pa_cons (pv 1) pa_nil)) pa_nil))))
     (pss_one (ps_fld (pv 0) (pe_lk (pe_dc (own := [("name", 2)]) (g := (gName 2)) (tt := tYes) rfl sc_House_become.nd (pi_keys (pv 1)) (blkOk_by (own := [("name", 2)]) (N := ["self", "contents", "name"]) (sc := defScope s_House_become) (by decide +kernel)) (λ _ _ _ _ _ => (pg_name (i := 2) sc_House_become.nd rfl (by walk_at "oz"))) (λ _ _ _ _ _ => pts_nil) (λ _ _ _ _ _ => (pv 2)) (λ _ _ _ _ _ => (pe_callTy cr_list (by rfl) T.b_list (by decide +kernel) (pa_cons (pe_ix (ix_dk hr.u1) (pv 1) (pv 2) (λ _ _ => rfl)) pa_nil))))) (by rfl))))
theorem sc_House_content : FnScope ["self", "name"] ["self", "name"] (defScope s_House_content) := (by walk_at "fs")
theorem bd_House_content (T : Txt K mg) : Binds K (fdOf K (mA K "House" "content")) ["self", "name"] [] := T.F_House_content.bindsN λ _ _ _ _ _ _ us hl => match us, hl with | [_, _], _ => rfl
theorem ok_House_content (T : Txt K mg) (nd : NDX base) : FnX false P w K mg base (L2.CX P w) 4 (mA K "House" "content") (fdOf K (mA K "House" "content")) ["self", "name"] (sp_House_content K) := by
 refine okW T.F_House_content sc_House_content len_House_content (λ cdv A outer s H vs Q E hgu0 hr h tk pw => ⟨t_House_content K (WT E), ?_, pure_House_content T.c vs H Q E h⟩)
 exact (pss_cons (ps_expr (pe_callW (ok_wanted T nd) nz hr rfl T.g_wanted T.F_wanted.kp (bd_wanted T) .nil (λ σ => passAt tk σ) (pa_cons pe_int (pa_cons (pe_callX (ok_is_name T nd) nz (hr.mono (by decide)) rfl T.g_is_name T.F_is_name.kp (bd_is_name T) .nil pass0 (pa_cons (pv 1) pa_nil)) pa_nil))))
     (pss_cons (ps_expr (pe_methW (pv 0) T.cl_House T.me_House_need_file (ok_House_need_file T nd) nz hr (bd_House_need_file T) .nil (λ σ => passAt tk σ) (pa_cons (pv 1) pa_nil)))
     (pss_one (ps_ret (pe_callTy cr_list (by rfl) T.b_list (by decide +kernel) (pa_cons (pe_ix (ix_dk hr.u1) (pe_fld (pv 0) rfl) (pv 1) (λ _ _ => rfl)) pa_nil))))))
theorem sc_l_call : FnScope ["_law_house", "_law_deed_here"] ["_law_house", "_law_deed_here"] (defScope s_l_call) := (by walk_at "fs")
theorem bd_l_call (T : Txt K mg) : Binds K (fdOf K (He.ga K "_law_call")) ["_law_house", "_law_deed_here"] [] := T.F_l_call.bindsN λ _ _ _ _ _ _ us hl => match us, hl with | [_, _], _ => rfl
theorem ok_l_call (T : Txt K mg) (nd : NDX base) : FnX false P w K mg base (L2.CX P w) 7 (He.ga K "_law_call") (fdOf K (He.ga K "_law_call")) ["_law_house", "_law_deed_here"] (sp_l_call K) := by
 refine okW T.F_l_call sc_l_call len_l_call (λ cdv A outer s H vs Q E hgu0 hr h tk pw => ⟨t_l_call K (WT E), ?_, pure_l_call T.c vs H Q E h⟩)
 exact (pss_cons (ps_if (pt_cmpR (uo_eq hr.units) (pe_ix ix_any (pv 1) pe_int (λ _ _ => rfl)) pe_str (nomark _)) (pss_one (ps_ret (pe_methW (pv 0) T.cl_House T.me_House_write (ok_House_write T nd) nz (hr.mono (by decide)) (bd_House_write T) .nil (λ σ => passAt tk σ) (pa_cons (pe_ix ix_any (pv 1) pe_int (λ _ _ => rfl)) (pa_cons (pe_ix ix_any (pv 1) pe_int (λ _ _ => rfl)) pa_nil))))) pss_nil)
     (pss_cons (ps_if (pt_cmpR (uo_eq hr.units) (pe_ix ix_any (pv 1) pe_int (λ _ _ => rfl)) pe_str (nomark _)) (pss_one (ps_ret (pe_methW (pv 0) T.cl_House T.me_House_drop (ok_House_drop T nd) nz (hr.mono (by decide)) (bd_House_drop T) .nil (λ σ => passAt tk σ) (pa_cons (pe_ix ix_any (pv 1) pe_int (λ _ _ => rfl)) pa_nil)))) pss_nil)
     (pss_cons (ps_if (pt_cmpR (uo_eq hr.units) (pe_ix ix_any (pv 1) pe_int (λ _ _ => rfl)) pe_str (nomark _)) (pss_one (ps_ret (pe_methW (pv 0) T.cl_House T.me_House_move (ok_House_move T nd) nz (hr.mono (by decide)) (bd_House_move T) .nil (λ σ => passAt tk σ) (pa_cons (pe_ix ix_any (pv 1) pe_int (λ _ _ => rfl)) (pa_cons (pe_ix ix_any (pv 1) pe_int (λ _ _ => rfl)) pa_nil))))) pss_nil)
     (pss_cons (ps_if (pt_cmpR (uo_eq hr.units) (pe_ix ix_any (pv 1) pe_int (λ _ _ => rfl)) pe_str (nomark _)) (pss_one (ps_ret (pe_methW (pv 0) T.cl_House T.me_House_become (ok_House_become T nd) nz hr (bd_House_become T) .nil (λ σ => passAt tk σ) (pa_cons (pe_ix ix_any (pv 1) pe_int (λ _ _ => rfl)) pa_nil)))) pss_nil)
     (pss_one (ps_ret (pe_methW (pv 0) T.cl_House T.me_House_content (ok_House_content T nd) nz (hr.mono (by decide)) (bd_House_content T) .nil (λ σ => passAt tk σ) (pa_cons (pe_ix ix_any (pv 1) pe_int (λ _ _ => rfl)) pa_nil))))))))
theorem sc_l_refused : FnScope ["_law_e"] ["_law_e"] (defScope s_l_refused) := (by walk_at "fs")
theorem bd_l_refused (T : Txt K mg) : Binds K (fdOf K (He.ga K "_law_refused")) ["_law_e"] [] := T.F_l_refused.bindsN λ _ _ _ _ _ _ us hl => match us, hl with | [_], _ => rfl
theorem ok_l_refused (T : Txt K mg) : FnE P w K mg base 1 (He.ga K "_law_refused") (fdOf K (He.ga K "_law_refused")) "_law_e" (sp_l_refused K) := by
 refine okE T.F_l_refused sc_l_refused (λ cdv A outer s H Q a oe cls d hr hz hf h => ⟨t_l_refused K a cls d, PSs.nox ?_, pure_l_refused T.c a cls d H Q h⟩)
 exact (pss_cons (ps_if (pt_val (pe_callB (cr_isX List.mem_cons_self hz hf) (by rfl) T.b_isinstance (by decide +kernel) (pa_cons (pv 0) (pa_cons (pe_glob rfl T.cg_NoFile rfl) pa_nil)))) (pss_one (ps_ret (pe_tup (pa_cons pe_str (pa_cons (pe_xg List.mem_cons_self hz hf (pv 0)) pa_nil))))) pss_nil)
     (pss_cons (ps_if (pt_val (pe_callB (cr_isX List.mem_cons_self hz hf) (by rfl) T.b_isinstance (by decide +kernel) (pa_cons (pv 0) (pa_cons (pe_glob rfl T.cg_There rfl) pa_nil)))) (pss_one (ps_ret (pe_tup (pa_cons pe_str (pa_cons (pe_xg List.mem_cons_self hz hf (pv 0)) pa_nil))))) pss_nil)
     (pss_cons (ps_if (pt_val (pe_callB (cr_isX List.mem_cons_self hz hf) (by rfl) T.b_isinstance (by decide +kernel) (pa_cons (pv 0) (pa_cons (pe_glob rfl T.cg_TooMany rfl) pa_nil)))) (pss_one (ps_ret (pe_tup (pa_cons pe_str (pa_cons (pe_xg List.mem_cons_self hz hf (pv 0)) pa_nil))))) pss_nil)
     (pss_one (ps_ret (pe_tup (pa_cons pe_str (pa_cons (pe_xg List.mem_cons_self hz hf (pv 0)) pa_nil))))))))
theorem sc_l_said : FnScope ["_law_house", "_law_deed_here", "_law_found", "_law_e"] ["_law_house", "_law_deed_here"] (defScope s_l_said) := (by walk_at "fs")
theorem bd_l_said (T : Txt K mg) : Binds K (fdOf K (He.ga K "_law_said")) ["_law_house", "_law_deed_here"] [] := T.F_l_said.bindsN λ _ _ _ _ _ _ us hl => match us, hl with | [_, _], _ => rfl
theorem ok_l_said (T : Txt K mg) (nd : NDX base) : FnX false P w K mg base CX0 8 (He.ga K "_law_said") (fdOf K (He.ga K "_law_said")) ["_law_house", "_law_deed_here"] (sp_l_said K) := by
 refine okX T.F_l_said sc_l_said len_l_said (λ cdv A outer s H vs Q E hgu0 hr h => ⟨t_l_said K, PSs.nox ?_, pure_l_said T.c vs H Q E h⟩)
 exact (pss_cons (ps_set (i := 2) sc_l_said.nd rfl (by walk_at "oz") pe_non)
     (pss_cons (ps_tryT rfl rfl sc_l_said.nd tk0 (λ W pn xe tk pw => by exact (pss_one (ps_set (i := 2) sc_l_said.nd rfl (by walk_at "oz") (pe_tup (pa_cons pe_str (pa_cons (pe_callW (ok_l_call T nd) nz hr rfl T.g_l_call T.F_l_call.kp (bd_l_call T) .nil (λ σ => passAt tk σ) (pa_cons (pv 0) (pa_cons (pv 1) pa_nil))) pa_nil)))))) (HdOk.named (i := 3) (test2 ⟨rfl, by decide, .inl T.cg_StoreError⟩ ⟨rfl, by decide, .inl T.cg_Missing⟩) rfl rfl (λ a oe cls d pn hz hf => by exact (pss_one (ps_set (i := 2) sc_l_said.nd rfl (by walk_at "oz") (pe_callE (ok_l_refused T) List.mem_cons_self hz hf ((roomMark hr).mono (by decide)) rfl T.g_l_refused T.F_l_refused.kp (bd_l_refused T) (pv 3))))) HdOk.nil))
     (pss_one (ps_ret (pv 2)))))
theorem sc_l_step : FnScope ["_law_house", "_law_files", "_law_deed_here", "_law_due_here", "_law_turns", "_law_k"] ["_law_house", "_law_files", "_law_deed_here"] (defScope s_l_step) := (by walk_at "fs")
theorem bd_l_step (T : Txt K mg) : Binds K (fdOf K (He.ga K "_law_step")) ["_law_house", "_law_files", "_law_deed_here"] [] := T.F_l_step.bindsN λ _ _ _ _ _ _ us hl => match us, hl with | [_, _, _], _ => rfl
theorem ok_l_step (T : Txt K mg) (nd : NDX base) : FnX true P w K mg base CX0 9 (He.ga K "_law_step") (fdOf K (He.ga K "_law_step")) ["_law_house", "_law_files", "_law_deed_here"] (sp_l_step K) := by
 refine okX T.F_l_step sc_l_step len_l_step (λ cdv A outer s H vs Q E hgu0 hr h => ⟨t_l_step K, PSs.nox ?_, pure_l_step vs H Q E h⟩)
 have hgu : (A.deeper (envOfC "_law_step" (defScope s_l_step) s.heap.objs.size (He.ga K "_law_step") cdv)).guards = some [] := hgu0 rfl
 exact (pss_cons (ps_set (i := 3) sc_l_step.nd rfl (by walk_at "oz") (pe_callX (ok_l_due T nd) nz (hr.mono (by decide)) rfl T.g_l_due T.F_l_due.kp (bd_l_due T) .nil pass0 (pa_cons (pv 1) (pa_cons (pv 2) pa_nil))))
     (pss_cons (ps_set (i := 4) sc_l_step.nd rfl (by walk_at "oz") (pe_op uo_add pe_int (pe_callTy cr_intB (by rfl) T.b_int (by decide +kernel) (pa_cons (pe_and (pe_cmpR op_notN' (pv 3) pe_non (nomark _)) (pe_one (pe_cmpR (uo_eq hr.units) (pe_op uo_mod (pe_callB cr_len (by rfl) T.b_len (by decide +kernel) (pa_cons (pe_ix ix_any (pv 2) pe_int (λ _ _ => rfl)) pa_nil)) pe_int) pe_int (nomark _)))) pa_nil))))
     (pss_cons (ps_if (pt_cmpR op_isN' (pv 3) pe_non (nomark _)) (pss_one (ps_set (i := 3) sc_l_step.nd rfl (by walk_at "oz") (pe_tup (pa_cons pe_str (pa_cons (pe_callX (ok_l_do T nd) nz (hr.mono (by decide)) rfl T.g_l_do T.F_l_do.kp (bd_l_do T) .nil pass0 (pa_cons (pv 1) (pa_cons (pv 2) pa_nil))) pa_nil))))) pss_nil)
     (pss_one (ps_ret (pe_callB (cr_all rfl) (by rfl) T.b_all (by decide +kernel) (pa_cons (pe_lc (own := [("_law_k", 5)]) (g := (gName 5)) (tt := tYes) rfl sc_l_step.nd (pi_range1 (by rfl) T.b_range (pa_cons (pv 4) pa_nil)) (blkOk_by (own := [("_law_k", 5)]) (N := ["_law_house", "_law_files", "_law_deed_here", "_law_due_here", "_law_turns", "_law_k"]) (sc := defScope s_l_step) (by decide +kernel)) (λ _ _ _ _ _ => (pg_name (i := 5) sc_l_step.nd rfl (by walk_at "oz"))) (λ _ _ _ _ _ => pts_nil) (λ _ _ _ _ _ => (pe_callX (ok_l_alike T nd) (λ _ => hgu) (hr.mono (by decide)) rfl T.g_l_alike T.F_l_alike.kp (bd_l_alike T) .nil pass0 (pa_cons (pe_callX (ok_l_said T nd) nz hr rfl T.g_l_said T.F_l_said.kp (bd_l_said T) .nil pass0 (pa_cons (pv 0) (pa_cons (pv 2) pa_nil))) (pa_cons (pv 3) pa_nil))))) pa_nil)))))))
theorem sc_l_any : FnScope ["_law_bag_here", "_law_some"] ["_law_bag_here", "_law_some"] (defScope s_l_any) := (by walk_at "fs")
theorem bd_l_any (T : Txt K mg) : Binds K (fdOf K (He.ga K "_law_any")) ["_law_bag_here", "_law_some"] [] := T.F_l_any.bindsN λ _ _ _ _ _ _ us hl => match us, hl with | [_, _], _ => rfl
theorem ok_l_any (T : Txt K mg) (nd : NDX base) : FnX false P w K mg base CX0 2 (He.ga K "_law_any") (fdOf K (He.ga K "_law_any")) ["_law_bag_here", "_law_some"] (sp_l_any K) := by
 refine okX T.F_l_any sc_l_any len_l_any (λ cdv A outer s H vs Q E hgu0 hr h => ⟨t_l_any K, PSs.nox ?_, pure_l_any vs H Q E h⟩)
 exact (pss_one (ps_ret (pe_ix ix_any (pv 1) (pe_callX (ok_l_take T nd) nz hr rfl T.g_l_take T.F_l_take.kp (bd_l_take T) .nil pass0 (pa_cons (pv 0) (pa_cons (pe_callB cr_len (by rfl) T.b_len (by decide +kernel) (pa_cons (pv 1) pa_nil)) pa_nil))) (λ _ _ => rfl))))
theorem sc_l_content : FnScope ["_law_bag_here", "_law_pick", "_law_long", "_law_k"] ["_law_bag_here"] (defScope s_l_content) := (by walk_at "fs")
theorem bd_l_content (T : Txt K mg) : Binds K (fdOf K (He.ga K "_law_content")) ["_law_bag_here"] [] := T.F_l_content.bindsN λ _ _ _ _ _ _ us hl => match us, hl with | [_], _ => rfl
theorem ok_l_content (T : Txt K mg) (nd : NDX base) : FnX false P w K mg base CX0 2 (He.ga K "_law_content") (fdOf K (He.ga K "_law_content")) ["_law_bag_here"] (sp_l_content K) := by
 refine okX T.F_l_content sc_l_content len_l_content (λ cdv A outer s H vs Q E hgu0 hr h => ⟨t_l_content K, PSs.nox ?_, pure_l_content vs H Q E h⟩)
 exact (pss_cons (ps_set (i := 1) sc_l_content.nd rfl (by walk_at "oz") (pe_callX (ok_l_take T nd) nz hr rfl T.g_l_take T.F_l_take.kp (bd_l_take T) .nil pass0 (pa_cons (pv 0) (pa_cons pe_int pa_nil))))
     (pss_cons (ps_set (i := 2) sc_l_content.nd rfl (by walk_at "oz") (pe_ix ix_any (pe_lst (pa_cons (pe_callX (ok_l_take T nd) nz hr rfl T.g_l_take T.F_l_take.kp (bd_l_take T) .nil pass0 (pa_cons (pv 0) (pa_cons pe_int pa_nil))) (pa_cons (pe_callX (ok_l_take T nd) nz hr rfl T.g_l_take T.F_l_take.kp (bd_l_take T) .nil pass0 (pa_cons (pv 0) (pa_cons pe_int pa_nil))) (pa_cons (pe_callX (ok_l_take T nd) nz hr rfl T.g_l_take T.F_l_take.kp (bd_l_take T) .nil pass0 (pa_cons (pv 0) (pa_cons pe_int pa_nil))) pa_nil)))) (pe_callX (ok_l_take T nd) nz hr rfl T.g_l_take T.F_l_take.kp (bd_l_take T) .nil pass0 (pa_cons (pv 0) (pa_cons pe_int pa_nil))) (λ _ _ => rfl)))
     (pss_cons (ps_if (pt_cmpR (uo_eq hr.units) (pv 1) pe_int (nomark _)) (pss_one (ps_ret (pe_lc (own := [("_law_k", 3)]) (g := (gName 3)) (tt := tYes) rfl sc_l_content.nd (pi_range1 (by rfl) T.b_range (pa_cons (pv 2) pa_nil)) (blkOk_by (own := [("_law_k", 3)]) (N := ["_law_bag_here", "_law_pick", "_law_long", "_law_k"]) (sc := defScope s_l_content) (by decide +kernel)) (λ _ _ _ _ _ => (pg_name (i := 3) sc_l_content.nd rfl (by walk_at "oz"))) (λ _ _ _ _ _ => pts_nil) (λ _ _ _ _ _ => (pe_ix ix_any (pe_lst (pa_cons pe_int (pa_cons pe_int (pa_cons pe_int pa_nil)))) (pe_callX (ok_l_take T nd) nz hr rfl T.g_l_take T.F_l_take.kp (bd_l_take T) .nil pass0 (pa_cons (pv 0) (pa_cons pe_int pa_nil))) (λ _ _ => rfl)))))) pss_nil)
     (pss_cons (ps_if (pt_cmpR (uo_eq hr.units) (pv 1) pe_int (nomark _)) (pss_one (ps_ret (pe_lc (own := [("_law_k", 3)]) (g := (gName 3)) (tt := tYes) rfl sc_l_content.nd (pi_range1 (by rfl) T.b_range (pa_cons (pv 2) pa_nil)) (blkOk_by (own := [("_law_k", 3)]) (N := ["_law_bag_here", "_law_pick", "_law_long", "_law_k"]) (sc := defScope s_l_content) (by decide +kernel)) (λ _ _ _ _ _ => (pg_name (i := 3) sc_l_content.nd rfl (by walk_at "oz"))) (λ _ _ _ _ _ => pts_nil) (λ _ _ _ _ _ => (pe_op uo_add pe_int (pe_op uo_mul pe_int (pe_callX (ok_l_take T nd) nz hr rfl T.g_l_take T.F_l_take.kp (bd_l_take T) .nil pass0 (pa_cons (pv 0) (pa_cons pe_int pa_nil))))))))) pss_nil)
     (pss_cons (ps_if (pt_cmpR (uo_eq hr.units) (pv 1) pe_int (nomark _)) (pss_one (ps_ret (pe_lc (own := [("_law_k", 3)]) (g := (gName 3)) (tt := tYes) rfl sc_l_content.nd (pi_range1 (by rfl) T.b_range (pa_cons (pv 2) pa_nil)) (blkOk_by (own := [("_law_k", 3)]) (N := ["_law_bag_here", "_law_pick", "_law_long", "_law_k"]) (sc := defScope s_l_content) (by decide +kernel)) (λ _ _ _ _ _ => (pg_name (i := 3) sc_l_content.nd rfl (by walk_at "oz"))) (λ _ _ _ _ _ => pts_nil) (λ _ _ _ _ _ => (pe_op uo_mul pe_int (pe_callX (ok_l_take T nd) nz hr rfl T.g_l_take T.F_l_take.kp (bd_l_take T) .nil pass0 (pa_cons (pv 0) (pa_cons pe_int pa_nil)))))))) pss_nil)
     (pss_cons (ps_if (pt_cmpR (uo_eq hr.units) (pv 1) pe_int (nomark _)) (pss_one (ps_ret (pe_lc (own := [("_law_k", 3)]) (g := (gName 3)) (tt := tYes) rfl sc_l_content.nd (pi_range1 (by rfl) T.b_range (pa_cons (pv 2) pa_nil)) (blkOk_by (own := [("_law_k", 3)]) (N := ["_law_bag_here", "_law_pick", "_law_long", "_law_k"]) (sc := defScope s_l_content) (by decide +kernel)) (λ _ _ _ _ _ => (pg_name (i := 3) sc_l_content.nd rfl (by walk_at "oz"))) (λ _ _ _ _ _ => pts_nil) (λ _ _ _ _ _ => (pe_ix ix_any (pe_lst (pa_cons pe_int (pa_cons pe_int pa_nil))) (pe_callX (ok_l_take T nd) nz hr rfl T.g_l_take T.F_l_take.kp (bd_l_take T) .nil pass0 (pa_cons (pv 0) (pa_cons pe_int pa_nil))) (λ _ _ => rfl)))))) pss_nil)
     (pss_one (ps_ret (pe_lc (own := [("_law_k", 3)]) (g := (gName 3)) (tt := tYes) rfl sc_l_content.nd (pi_range1 (by rfl) T.b_range (pa_cons (pv 2) pa_nil)) (blkOk_by (own := [("_law_k", 3)]) (N := ["_law_bag_here", "_law_pick", "_law_long", "_law_k"]) (sc := defScope s_l_content) (by decide +kernel)) (λ _ _ _ _ _ => (pg_name (i := 3) sc_l_content.nd rfl (by walk_at "oz"))) (λ _ _ _ _ _ => pts_nil) (λ _ _ _ _ _ => (pe_callX (ok_l_take T nd) nz hr rfl T.g_l_take T.F_l_take.kp (bd_l_take T) .nil pass0 (pa_cons (pv 0) (pa_cons pe_int pa_nil)))))))))))))
theorem sc_l_deed : FnScope ["_law_bag_here", "_law_names_here", "_law_word", "_law_name", "_law_some", "_law_one"] ["_law_bag_here", "_law_names_here"] (defScope s_l_deed) := (by walk_at "fs")
theorem bd_l_deed (T : Txt K mg) : Binds K (fdOf K (He.ga K "_law_deed")) ["_law_bag_here", "_law_names_here"] [] := T.F_l_deed.bindsN λ _ _ _ _ _ _ us hl => match us, hl with | [_, _], _ => rfl
theorem ok_l_deed (T : Txt K mg) (nd : NDX base) : FnX false P w K mg base CX0 3 (He.ga K "_law_deed") (fdOf K (He.ga K "_law_deed")) ["_law_bag_here", "_law_names_here"] (sp_l_deed K) := by
 refine okX T.F_l_deed sc_l_deed len_l_deed (λ cdv A outer s H vs Q E hgu0 hr h => ⟨t_l_deed K, PSs.nox ?_, pure_l_deed vs H Q E h⟩)
 exact (pss_cons (ps_set (i := 2) sc_l_deed.nd rfl (by walk_at "oz") (pe_callX (ok_l_any T nd) nz hr rfl T.g_l_any T.F_l_any.kp (bd_l_any T) .nil pass0 (pa_cons (pv 0) (pa_cons (pe_lst (pa_cons pe_str (pa_cons pe_str (pa_cons pe_str (pa_cons pe_str (pa_cons pe_str (pa_cons pe_str (pa_cons pe_str (pa_cons pe_str pa_nil))))))))) pa_nil))))
     (pss_cons (ps_set (i := 3) sc_l_deed.nd rfl (by walk_at "oz") (pe_callX (ok_l_any T nd) nz hr rfl T.g_l_any T.F_l_any.kp (bd_l_any T) .nil pass0 (pa_cons (pv 0) (pa_cons (pv 1) pa_nil))))
     (pss_cons (ps_if (pt_cmpR (uo_eq hr.units) (pv 2) pe_str (nomark _)) (pss_one (ps_ret (pe_tup (pa_cons (pv 2) (pa_cons (pv 3) (pa_cons (pe_callX (ok_l_content T nd) nz hr rfl T.g_l_content T.F_l_content.kp (bd_l_content T) .nil pass0 (pa_cons (pv 0) pa_nil)) pa_nil)))))) pss_nil)
     (pss_cons (ps_if (pt_cmpR (uo_eq hr.units) (pv 2) pe_str (nomark _)) (pss_one (ps_ret (pe_tup (pa_cons (pv 2) (pa_cons (pv 3) (pa_cons (pe_callX (ok_l_any T nd) nz hr rfl T.g_l_any T.F_l_any.kp (bd_l_any T) .nil pass0 (pa_cons (pv 0) (pa_cons (pv 1) pa_nil))) pa_nil)))))) pss_nil)
     (pss_cons (ps_if (pt_cmpR (uo_eq hr.units) (pv 2) pe_str (nomark _)) (pss_cons (ps_set (i := 4) sc_l_deed.nd rfl (by walk_at "oz") (pe_slice sl_any (pe_slice sl_any (pv 1) (po_some (pe_callX (ok_l_take T nd) nz (hr.mono (by decide)) rfl T.g_l_take T.F_l_take.kp (bd_l_take T) .nil pass0 (pa_cons (pv 0) (pa_cons (pe_callB cr_len (by rfl) T.b_len (by decide +kernel) (pa_cons (pv 1) pa_nil)) pa_nil)))) po_none) po_none (po_some (pe_callX (ok_l_take T nd) nz (hr.mono (by decide)) rfl T.g_l_take T.F_l_take.kp (bd_l_take T) .nil pass0 (pa_cons (pv 0) (pa_cons pe_int pa_nil))))))
     (pss_one (ps_ret (pe_tup (pa_cons (pv 2) (pa_cons (pe_fz (pe_callTy (cr_dictP rfl) (by rfl) T.b_dict (by decide +kernel) (pa_cons (pe_lc (own := [("_law_one", 5)]) (g := (gName 5)) (tt := tYes) rfl sc_l_deed.nd (pi_list (pe_stepL (pv 4) (po_some (pe_ix ix_any (pe_lst (pa_cons pe_int (pa_cons (pe_un un_neg pe_int) pa_nil))) (pe_callX (ok_l_take T nd) nz (hr.mono (by decide)) rfl T.g_l_take T.F_l_take.kp (bd_l_take T) .nil pass0 (pa_cons (pv 0) (pa_cons pe_int pa_nil))) (λ _ _ => rfl))))) (blkOk_by (own := [("_law_one", 5)]) (N := ["_law_bag_here", "_law_names_here", "_law_word", "_law_name", "_law_some", "_law_one"]) (sc := defScope s_l_deed) (by decide +kernel)) (λ _ _ _ _ _ => (pg_name (i := 5) sc_l_deed.nd rfl (by walk_at "oz"))) (λ _ _ _ _ _ => pts_nil) (λ _ _ _ _ _ => (pe_tup (pa_cons (pv 5) (pa_cons (pe_callX (ok_l_content T nd) nz hr rfl T.g_l_content T.F_l_content.kp (bd_l_content T) .nil pass0 (pa_cons (pv 0) pa_nil)) pa_nil))))) pa_nil))) pa_nil)))))) pss_nil)
     (pss_one (ps_ret (pe_tup (pa_cons (pv 2) (pa_cons (pv 3) pa_nil))))))))))
theorem sc_House_contents : FnScope ["self", "name"] ["self"] (defScope s_House_contents) := (by walk_at "fs")
theorem bd_House_contents (T : Txt K mg) : Binds K (fdOf K (mA K "House" "contents")) ["self"] [] := T.F_House_contents.bindsN λ _ _ _ _ _ _ us hl => match us, hl with | [_], _ => rfl
theorem ok_House_contents (T : Txt K mg) (nd : NDX base) : FnX false P w K mg base CX0 1 (mA K "House" "contents") (fdOf K (mA K "House" "contents")) ["self"] (sp_House_contents K) := by
 refine okX T.F_House_contents sc_House_contents len_House_contents (λ cdv A outer s H vs Q E hgu0 hr h => ⟨t_House_contents K, PSs.nox ?_, pure_House_contents T.c vs H Q E h⟩)
 exact (pss_one (ps_ret (pe_dc (own := [("name", 1)]) (g := (gName 1)) (tt := tYes) rfl sc_House_contents.nd (pi_list (pe_callB (cr_sortedDS rfl) (by rfl) T.b_sorted (by decide +kernel) (pa_cons (pe_fld (pv 0) rfl) pa_nil))) (blkOk_by (own := [("name", 1)]) (N := ["self", "name"]) (sc := defScope s_House_contents) (by decide +kernel)) (λ _ _ _ _ _ => (pg_name (i := 1) sc_House_contents.nd rfl (by walk_at "oz"))) (λ _ _ _ _ _ => pts_nil) (λ _ _ _ _ _ => (pv 1)) (λ _ _ _ _ _ => (pe_callTy cr_list (by rfl) T.b_list (by decide +kernel) (pa_cons (pe_ix (ix_dk hr.u1) (pe_fld (pv 0) rfl) (pv 1) (λ _ _ => rfl)) pa_nil))))))
theorem sc_House_copied : FnScope ["self", "other"] ["self"] (defScope s_House_copied) := (by walk_at "fs")
theorem bd_House_copied (T : Txt K mg) : Binds K (fdOf K (mA K "House" "copied")) ["self"] [] := T.F_House_copied.bindsN λ _ _ _ _ _ _ us hl => match us, hl with | [_], _ => rfl
theorem ok_House_copied (T : Txt K mg) (nd : NDX base) : FnX false P w K mg base (L2.CX P w) 7 (mA K "House" "copied") (fdOf K (mA K "House" "copied")) ["self"] (sp_House_copied K) := by
 refine okW T.F_House_copied sc_House_copied len_House_copied (λ cdv A outer s H vs Q E hgu0 hr h tk pw => ⟨t_House_copied K (WT E), ?_, pure_House_copied T.c vs H Q E h⟩)
 exact (pss_cons (ps_set (i := 1) sc_House_copied.nd rfl (by walk_at "oz") (pe_makeW0 T.mk_House (ok_House___init__ T nd) (hr.mono (by decide)) rfl T.cg_House (bd_House___init__ T) .nil (λ _ => pas0)))
     (pss_cons (ps_expr (pe_methW (pv 1) T.cl_House T.me_House_become (ok_House_become T nd) nz hr (bd_House_become T) .nil (λ σ => passAt tk σ) (pa_cons (pe_fz (pe_methW0 (pv 0) T.cl_House T.me_House_contents (ok_House_contents T nd) nz (hr.mono (by decide)) (bd_House_contents T) .nil (λ _ => pas0))) pa_nil)))
     (pss_one (ps_ret (pv 1)))))
theorem sc_House___eq__ : FnScope ["self", "other"] ["self", "other"] (defScope s_House___eq__) := (by walk_at "fs")
theorem bd_House___eq__ (T : Txt K mg) : Binds K (fdOf K (mA K "House" "__eq__")) ["self", "other"] [] := T.F_House___eq__.bindsN λ _ _ _ _ _ _ us hl => match us, hl with | [_, _], _ => rfl
theorem ok_House___eq__ (T : Txt K mg) (nd : NDX base) : FnX false P w K mg base CX0 1 (mA K "House" "__eq__") (fdOf K (mA K "House" "__eq__")) ["self", "other"] (sp_House___eq__ K) := by
 refine okX T.F_House___eq__ sc_House___eq__ len_House___eq__ (λ cdv A outer s H vs Q E hgu0 hr h => ⟨t_House___eq__ K, PSs.nox ?_, pure_House___eq__ T.c vs H Q E h⟩)
 exact (pss_one (ps_ret (pe_and (pe_callB cr_isiQ (by rfl) T.b_isinstance (by decide +kernel) (pa_cons (pv 1) (pa_cons (pe_glob rfl T.cg_House rfl) pa_nil))) (pe_one (pe_cmpR (uo_eqV (units128 hr)) (pe_fld (pv 0) rfl) (pe_fld (pv 1) rfl) (nomark _))))))
theorem sc_l_equal : FnScope ["_law_one", "_law_other", "_law_due_here", "_law_told"] ["_law_one", "_law_other", "_law_due_here"] (defScope s_l_equal) := (by walk_at "fs")
theorem bd_l_equal (T : Txt K mg) : Binds K (fdOf K (He.ga K "_law_equal")) ["_law_one", "_law_other", "_law_due_here"] [] := T.F_l_equal.bindsN λ _ _ _ _ _ _ us hl => match us, hl with | [_, _, _], _ => rfl
theorem ok_l_equal (T : Txt K mg) (nd : NDX base) : FnX true P w K mg base CX0 4 (He.ga K "_law_equal") (fdOf K (He.ga K "_law_equal")) ["_law_one", "_law_other", "_law_due_here"] (sp_l_equal K) := by
 refine okX T.F_l_equal sc_l_equal len_l_equal (λ cdv A outer s H vs Q E hgu0 hr h => ⟨t_l_equal K, PSs.nox ?_, pure_l_equal vs H Q E h⟩)
 have hgu : (A.deeper (envOfC "_law_equal" (defScope s_l_equal) s.heap.objs.size (He.ga K "_law_equal") cdv)).guards = some [] := hgu0 rfl
 exact (pss_cons (ps_set (i := 3) sc_l_equal.nd rfl (by walk_at "oz") (pe_lst (pa_cons (pe_cmpR (op_eqI T.me_House___eq__ (ok_House___eq__ T nd) nz (hr.mono (by decide)) (bd_House___eq__ T)) (pv 0) (pv 1) (nomark _)) (pa_cons (pe_cmpR (op_eqI T.me_House___eq__ (ok_House___eq__ T nd) nz (hr.mono (by decide)) (bd_House___eq__ T)) (pv 1) (pv 0) (nomark _)) (pa_cons (pe_cmpR (op_neI T.me_House___eq__ T.mo_House T.ne_House (ok_House___eq__ T nd) nz (hr.mono (by decide)) (bd_House___eq__ T)) (pv 0) (pv 1) (nomark _)) (pa_cons (pe_cmpR (op_neI T.me_House___eq__ T.mo_House T.ne_House (ok_House___eq__ T nd) nz (hr.mono (by decide)) (bd_House___eq__ T)) (pv 1) (pv 0) (nomark _)) pa_nil))))))
     (pss_one (ps_ret (pe_callX (ok_l_alike T nd) (λ _ => hgu) (hr.mono (by decide)) rfl T.g_l_alike T.F_l_alike.kp (bd_l_alike T) .nil pass0 (pa_cons (pv 3) (pa_cons (pe_lst (pa_cons (pv 2) (pa_cons (pv 2) (pa_cons (pe_not (pv 2)) (pa_cons (pe_not (pv 2)) pa_nil))))) pa_nil))))))
theorem sc_House_names_of : FnScope ["self"] ["self"] (defScope s_House_names_of) := (by walk_at "fs")
theorem bd_House_names_of (T : Txt K mg) : Binds K (fdOf K (mA K "House" "names_of")) ["self"] [] := T.F_House_names_of.bindsN λ _ _ _ _ _ _ us hl => match us, hl with | [_], _ => rfl
theorem ok_House_names_of (T : Txt K mg) (nd : NDX base) : FnX false P w K mg base CX0 1 (mA K "House" "names_of") (fdOf K (mA K "House" "names_of")) ["self"] (sp_House_names_of K) := by
 refine okX T.F_House_names_of sc_House_names_of len_House_names_of (λ cdv A outer s H vs Q E hgu0 hr h => ⟨t_House_names_of K, PSs.nox ?_, pure_House_names_of T.c vs H Q E h⟩)
 exact (pss_one (ps_ret (pe_callB (cr_sortedDS rfl) (by rfl) T.b_sorted (by decide +kernel) (pa_cons (pe_fld (pv 0) rfl) pa_nil))))
theorem sc_House___len__ : FnScope ["self"] ["self"] (defScope s_House___len__) := (by walk_at "fs")
theorem bd_House___len__ (T : Txt K mg) : Binds K (fdOf K (mA K "House" "__len__")) ["self"] [] := T.F_House___len__.bindsN λ _ _ _ _ _ _ us hl => match us, hl with | [_], _ => rfl
theorem ok_House___len__ (T : Txt K mg) (nd : NDX base) : FnX false P w K mg base CX0 1 (mA K "House" "__len__") (fdOf K (mA K "House" "__len__")) ["self"] (sp_House___len__ K) := by
 refine okX T.F_House___len__ sc_House___len__ len_House___len__ (λ cdv A outer s H vs Q E hgu0 hr h => ⟨t_House___len__ K, PSs.nox ?_, pure_House___len__ T.c vs H Q E h⟩)
 exact (pss_one (ps_ret (pe_callB cr_len (by rfl) T.b_len (by decide +kernel) (pa_cons (pe_fld (pv 0) rfl) pa_nil))))
theorem sc_l_same : FnScope ["_law_house", "_law_files", "_law_told", "_law_due_here", "_law_name"] ["_law_house", "_law_files"] (defScope s_l_same) := (by walk_at "fs")
theorem bd_l_same (T : Txt K mg) : Binds K (fdOf K (He.ga K "_law_same")) ["_law_house", "_law_files"] [] := T.F_l_same.bindsN λ _ _ _ _ _ _ us hl => match us, hl with | [_, _], _ => rfl
theorem ok_l_same (T : Txt K mg) (nd : NDX base) : FnX true P w K mg base CX0 3 (He.ga K "_law_same") (fdOf K (He.ga K "_law_same")) ["_law_house", "_law_files"] (sp_l_same K) := by
 refine okX T.F_l_same sc_l_same len_l_same (λ cdv A outer s H vs Q E hgu0 hr h => ⟨t_l_same K, PSs.nox ?_, pure_l_same T.c vs H Q E h⟩)
 have hgu : (A.deeper (envOfC "_law_same" (defScope s_l_same) s.heap.objs.size (He.ga K "_law_same") cdv)).guards = some [] := hgu0 rfl
 exact (pss_cons (ps_set (i := 2) sc_l_same.nd rfl (by walk_at "oz") (pe_lst (pa_cons (pe_methW0 (pv 0) T.cl_House T.me_House_names_of (ok_House_names_of T nd) nz (hr.mono (by decide)) (bd_House_names_of T) .nil (λ _ => pas0)) (pa_cons (pe_fz (pe_methW0 (pv 0) T.cl_House T.me_House_contents (ok_House_contents T nd) nz (hr.mono (by decide)) (bd_House_contents T) .nil (λ _ => pas0))) (pa_cons (pe_callB (cr_lenI T.me_House___len__ (ok_House___len__ T nd) hr (bd_House___len__ T)) (by rfl) T.b_len (by decide +kernel) (pa_cons (pv 0) pa_nil)) pa_nil)))))
     (pss_cons (ps_set (i := 3) sc_l_same.nd rfl (by walk_at "oz") (pe_lst (pa_cons (pe_callB (cr_sortedDS rfl) (by rfl) T.b_sorted (by decide +kernel) (pa_cons (pv 1) pa_nil)) (pa_cons (pe_fz (pe_callTy (cr_dictP rfl) (by rfl) T.b_dict (by decide +kernel) (pa_cons (pe_lc (own := [("_law_name", 4)]) (g := (gName 4)) (tt := tYes) rfl sc_l_same.nd (pi_list (pe_callB (cr_sortedDS rfl) (by rfl) T.b_sorted (by decide +kernel) (pa_cons (pv 1) pa_nil))) (blkOk_by (own := [("_law_name", 4)]) (N := ["_law_house", "_law_files", "_law_told", "_law_due_here", "_law_name"]) (sc := defScope s_l_same) (by decide +kernel)) (λ _ _ _ _ _ => (pg_name (i := 4) sc_l_same.nd rfl (by walk_at "oz"))) (λ _ _ _ _ _ => pts_nil) (λ _ _ _ _ _ => (pe_tup (pa_cons (pv 4) (pa_cons (pe_ix (ix_dk hr.u1) (pv 1) (pv 4) (λ _ _ => rfl)) pa_nil))))) pa_nil))) (pa_cons (pe_callB cr_len (by rfl) T.b_len (by decide +kernel) (pa_cons (pv 1) pa_nil)) pa_nil)))))
     (pss_one (ps_ret (pe_callX (ok_l_alike T nd) (λ _ => hgu) (hr.mono (by decide)) rfl T.g_l_alike T.F_l_alike.kp (bd_l_alike T) .nil pass0 (pa_cons (pv 2) (pa_cons (pv 3) pa_nil)))))))
theorem sc_l_spoil_one : FnScope ["_law_bag_here", "_law_house", "_law_files", "_law_pick", "_law_name", "_law_other", "_law_at", "_law_sign"] ["_law_bag_here", "_law_house", "_law_files"] (defScope s_l_spoil_one) := (by walk_at "fs")
theorem bd_l_spoil_one (T : Txt K mg) : Binds K (fdOf K (He.ga K "_law_spoil_one")) ["_law_bag_here", "_law_house", "_law_files"] [] := T.F_l_spoil_one.bindsN λ _ _ _ _ _ _ us hl => match us, hl with | [_, _, _], _ => rfl
theorem ok_l_spoil_one (T : Txt K mg) (nd : NDX base) : FnX false P w K mg base (L2.CX P w) 6 (He.ga K "_law_spoil_one") (fdOf K (He.ga K "_law_spoil_one")) ["_law_bag_here", "_law_house", "_law_files"] (sp_l_spoil_one K) := by
 refine okW T.F_l_spoil_one sc_l_spoil_one len_l_spoil_one (λ cdv A outer s H vs Q E hgu0 hr h tk pw => ⟨t_l_spoil_one K (WT E), ?_, pure_l_spoil_one T.c vs H Q E h⟩)
 exact (pss_cons (ps_par (by rfl) sc_l_spoil_one.nd rfl rfl (by decide) rfl rfl (pa_cons (pe_callX (ok_l_any T nd) nz (hr.mono (by decide)) rfl T.g_l_any T.F_l_any.kp (bd_l_any T) .nil pass0 (pa_cons (pv 0) (pa_cons (pe_callB (cr_sortedDS rfl) (by rfl) T.b_sorted (by decide +kernel) (pa_cons (pv 2) pa_nil)) pa_nil))) (pa_cons (pe_callX (ok_l_any T nd) nz (hr.mono (by decide)) rfl T.g_l_any T.F_l_any.kp (bd_l_any T) .nil pass0 (pa_cons (pv 0) (pa_cons (pe_callB (cr_sortedDS rfl) (by rfl) T.b_sorted (by decide +kernel) (pa_cons (pv 2) pa_nil)) pa_nil))) pa_nil)) (by rfl))
     (pss_cons (ps_set (i := 3) sc_l_spoil_one.nd rfl (by walk_at "oz") (pe_callX (ok_l_take T nd) nz (hr.mono (by decide)) rfl T.g_l_take T.F_l_take.kp (bd_l_take T) .nil pass0 (pa_cons (pv 0) (pa_cons pe_int pa_nil))))
     (pss_cons (ps_if (pt_cmpR (uo_eq hr.units) (pv 3) pe_int (nomark _)) (pss_cons (ps_set (i := 6) sc_l_spoil_one.nd rfl (by walk_at "oz") (pe_callX (ok_l_take T nd) nz (hr.mono (by decide)) rfl T.g_l_take T.F_l_take.kp (bd_l_take T) .nil pass0 (pa_cons (pv 0) (pa_cons (pe_callB (cr_max2 rfl) (by rfl) T.b_max (by decide +kernel) (pa_cons pe_int (pa_cons (pe_callB cr_len (by rfl) T.b_len (by decide +kernel) (pa_cons (pe_ix (ix_dk hr.u1) (pv 2) (pv 4) (λ _ _ => rfl)) pa_nil)) pa_nil))) pa_nil))))
     (pss_cons (ps_set (i := 7) sc_l_spoil_one.nd rfl (by walk_at "oz") (pe_op uo_add pe_int (pe_op uo_mod (pe_ix ix_any (pe_op uo_add (pe_ix (ix_dk hr.u1) (pv 2) (pv 4) (λ _ _ => rfl)) (pe_lst (pa_cons pe_int pa_nil))) (pv 6) (λ _ _ => rfl)) pe_int)))
     (pss_one (ps_expr (pe_methW (pv 1) T.cl_House T.me_House_write (ok_House_write T nd) nz hr (bd_House_write T) .nil (λ σ => passAt tk σ) (pa_cons (pv 4) (pa_cons (pe_op uo_add (pe_op uo_add (pe_slice sl_any (pe_ix (ix_dk hr.u1) (pv 2) (pv 4) (λ _ _ => rfl)) po_none (po_some (pv 6))) (pe_lst (pa_cons (pv 7) pa_nil))) (pe_slice sl_any (pe_ix (ix_dk hr.u1) (pv 2) (pv 4) (λ _ _ => rfl)) (po_some (pe_op uo_add (pv 6) pe_int)) po_none)) pa_nil))))))) pss_nil)
     (pss_cons (ps_if (pt_cmpR (uo_eq hr.units) (pv 3) pe_int (nomark _)) (pss_one (ps_expr (pe_methW (pv 1) T.cl_House T.me_House_drop (ok_House_drop T nd) nz (hr.mono (by decide)) (bd_House_drop T) .nil (λ σ => passAt tk σ) (pa_cons (pv 4) pa_nil)))) pss_nil)
     (pss_one (ps_if (PW.pt (pw_and (pt_cmpR (uo_eq hr.units) (pv 3) pe_int (nomark _)) (pw_and1 (pt_cmpR (uo_ne hr.units) (pe_ix (ix_dk hr.u1) (pv 2) (pv 4) (λ _ _ => rfl)) (pe_ix (ix_dk hr.u1) (pv 2) (pv 5) (λ _ _ => rfl)) (nomark _))))) (pss_cons (ps_expr (pe_methW (pv 1) T.cl_House T.me_House_write (ok_House_write T nd) nz hr (bd_House_write T) .nil (λ σ => passAt tk σ) (pa_cons (pv 4) (pa_cons (pe_callTy cr_list (by rfl) T.b_list (by decide +kernel) (pa_cons (pe_ix (ix_dk hr.u1) (pv 2) (pv 5) (λ _ _ => rfl)) pa_nil)) pa_nil))))
     (pss_one (ps_expr (pe_methW (pv 1) T.cl_House T.me_House_write (ok_House_write T nd) nz hr (bd_House_write T) .nil (λ σ => passAt tk σ) (pa_cons (pv 5) (pa_cons (pe_callTy cr_list (by rfl) T.b_list (by decide +kernel) (pa_cons (pe_ix (ix_dk hr.u1) (pv 2) (pv 4) (λ _ _ => rfl)) pa_nil)) pa_nil)))))) (pss_one (ps_if (pt_cmpR uo_gt (pv 3) pe_int (nomark _)) (pss_one (ps_expr (pe_methW (pv 1) T.cl_House T.me_House_move (ok_House_move T nd) nz (hr.mono (by decide)) (bd_House_move T) .nil (λ σ => passAt tk σ) (pa_cons (pv 4) (pa_cons pe_str pa_nil))))) pss_nil))))))))
theorem sc_law : FnScope ["_law_script", "_law_bag_here", "_law_names_here", "_law_house", "_law_files", "_law_k", "_law_copied", "_law_other", "_law_handed", "_law_name", "_law_trio", "_law_thing", "_law_at", "_law_one"] ["_law_script"] (defScope s_law) := (by walk_at "fs")
theorem ok_law (T : Txt K mg) (nd : NDX base) : FnX true P w K mg base CX0 10 (He.ga K "law") (fdOf K (He.ga K "law")) ["_law_script"] (sp_law K) := by
 refine okX T.F_law sc_law len_law (λ cdv A outer s H vs Q E hgu0 hr h => ⟨t_law K, PSs.nox ?_, pure_law T.c vs H Q E h⟩)
 have hgu : (A.deeper (envOfC "law" (defScope s_law) s.heap.objs.size (He.ga K "law") cdv)).guards = some [] := hgu0 rfl
 exact (pss_cons (ps_set (i := 1) sc_law.nd rfl (by walk_at "oz") (pe_callX (ok_l_bag T nd) nz (hr.mono (by decide)) rfl T.g_l_bag T.F_l_bag.kp (bd_l_bag T) .nil pass0 (pa_cons (pv 0) pa_nil)))
     (pss_cons (ps_set (i := 2) sc_law.nd rfl (by walk_at "oz") (pe_callX (ok_l_names T nd) nz (hr.mono (by decide)) rfl T.g_l_names T.F_l_names.kp (bd_l_names T) .nil pass0 (pa_cons (pv 1) (pa_cons pe_int pa_nil))))
     (pss_cons (ps_set (i := 3) sc_law.nd rfl (by walk_at "oz") (pe_makeW0 T.mk_House (ok_House___init__ T nd) (hr.mono (by decide)) rfl T.cg_House (bd_House___init__ T) .nil (λ _ => pas0)))
     (pss_cons (ps_set (i := 4) sc_law.nd rfl (by walk_at "oz") pe_dnewK)
     (pss_cons (ps_for PassesOwn.never rfl (pi_range1 (by rfl) T.b_range (pa_cons (pe_op uo_add pe_int (pe_callX (ok_l_take T nd) nz (hr.mono (by decide)) rfl T.g_l_take T.F_l_take.kp (bd_l_take T) .nil pass0 (pa_cons (pv 1) (pa_cons pe_int pa_nil)))) pa_nil)) (pg_name (i := 5) sc_law.nd rfl (by walk_at "oz")) (pss_one (ps_if (pt_not (pt_val (pe_callX (ok_l_step T nd) (λ _ => hgu) hr rfl T.g_l_step T.F_l_step.kp (bd_l_step T) .nil pass0 (pa_cons (pv 3) (pa_cons (pv 4) (pa_cons (pe_callX (ok_l_deed T nd) nz (hr.mono (by decide)) rfl T.g_l_deed T.F_l_deed.kp (bd_l_deed T) .nil pass0 (pa_cons (pv 1) (pa_cons (pv 2) pa_nil))) pa_nil)))))) (pss_one (ps_ret pe_bl)) pss_nil)))
     (pss_cons (ps_set (i := 6) sc_law.nd rfl (by walk_at "oz") (pe_methW0 (pv 3) T.cl_House T.me_House_copied (ok_House_copied T nd) nz (hr.mono (by decide)) (bd_House_copied T) .nil (λ _ => pasF)))
     (pss_cons (ps_set (i := 7) sc_law.nd rfl (by walk_at "oz") (pe_makeW0 T.mk_House (ok_House___init__ T nd) (hr.mono (by decide)) rfl T.cg_House (bd_House___init__ T) .nil (λ _ => pas0)))
     (pss_cons (ps_set (i := 8) sc_law.nd rfl (by walk_at "oz") (pe_callTy (cr_dictP rfl) (by rfl) T.b_dict (by decide +kernel) (pa_cons (pe_lc (own := [("_law_name", 9)]) (g := (gName 9)) (tt := tYes) rfl sc_law.nd (pi_list (pe_revL (pe_callB (cr_sortedDS rfl) (by rfl) T.b_sorted (by decide +kernel) (pa_cons (pv 4) pa_nil)))) (blkOk_by (own := [("_law_name", 9)]) (N := ["_law_script", "_law_bag_here", "_law_names_here", "_law_house", "_law_files", "_law_k", "_law_copied", "_law_other", "_law_handed", "_law_name", "_law_trio", "_law_thing", "_law_at", "_law_one"]) (sc := defScope s_law) (by decide +kernel)) (λ _ _ _ _ _ => (pg_name (i := 9) sc_law.nd rfl (by walk_at "oz"))) (λ _ _ _ _ _ => pts_nil) (λ _ _ _ _ _ => (pe_tup (pa_cons (pv 9) (pa_cons (pe_callTy cr_list (by rfl) T.b_list (by decide +kernel) (pa_cons (pe_ix (ix_dk hr.u1) (pv 4) (pv 9) (λ _ _ => rfl)) pa_nil)) pa_nil))))) pa_nil)))
     (pss_cons (ps_expr (pe_methW (pv 7) T.cl_House T.me_House_become (ok_House_become T nd) nz (hr.mono (by decide)) (bd_House_become T) .nil (λ _ => pasF) (pa_cons (pv 8) pa_nil)))
     (pss_cons (ps_for PassesOwn.never rfl (pi_list (pe_callB (cr_sortedDS rfl) (by rfl) T.b_sorted (by decide +kernel) (pa_cons (pv 4) pa_nil))) (pg_name (i := 9) sc_law.nd rfl (by walk_at "oz")) (pss_one (ps_expr (pe_bm PySem.F.plainAttrs_list PySem.F.slot_list_append PySem.F.type_list_append mt_append (pe_ix (ix_dk hr.u1) (pv 8) (pv 9) (λ _ _ => rfl)) (pa_cons pe_int pa_nil)))))
     (pss_cons (ps_asg (pe_lst (pa_cons pe_int pa_nil)) (pg_sub (pv 8) pe_str (set_any hr.u1)))
     (pss_cons (ps_set (i := 10) sc_law.nd rfl (by walk_at "oz") (pe_lst (pa_cons (pv 3) (pa_cons (pv 6) (pa_cons (pv 7) pa_nil)))))
     (pss_cons (ps_if (pt_not (pt_val (pe_callB (cr_all rfl) (by rfl) T.b_all (by decide +kernel) (pa_cons (pe_lc (own := [("_law_one", 13)]) (g := (gName 13)) (tt := tYes) rfl sc_law.nd (pi_list (pv 10)) (blkOk_by (own := [("_law_one", 13)]) (N := ["_law_script", "_law_bag_here", "_law_names_here", "_law_house", "_law_files", "_law_k", "_law_copied", "_law_other", "_law_handed", "_law_name", "_law_trio", "_law_thing", "_law_at", "_law_one"]) (sc := defScope s_law) (by decide +kernel)) (λ _ _ _ _ _ => (pg_name (i := 13) sc_law.nd rfl (by walk_at "oz"))) (λ _ _ _ _ _ => pts_nil) (λ _ _ _ _ _ => (pe_and (pe_callX (ok_l_equal T nd) (λ _ => hgu) (hr.mono (by decide)) rfl T.g_l_equal T.F_l_equal.kp (bd_l_equal T) .nil pass0 (pa_cons (pv 13) (pa_cons (pv 3) (pa_cons pe_bl pa_nil)))) (pe_one (pe_callX (ok_l_same T nd) (λ _ => hgu) (hr.mono (by decide)) rfl T.g_l_same T.F_l_same.kp (bd_l_same T) .nil pass0 (pa_cons (pv 13) (pa_cons (pv 4) pa_nil))))))) pa_nil)))) (pss_one (ps_ret pe_bl)) pss_nil)
     (pss_cons (ps_for PassesOwn.never rfl (pi_list (pe_lst (pa_cons pe_non (pa_cons pe_int (pa_cons (pe_fz (pv 4)) (pa_cons (pe_callB (cr_sortedDS rfl) (by rfl) T.b_sorted (by decide +kernel) (pa_cons (pv 4) pa_nil)) (pa_cons pe_str (pa_cons pe_bl (pa_cons (pe_tup pa_nil) pa_nil))))))))) (pg_name (i := 11) sc_law.nd rfl (by walk_at "oz")) (pss_one (ps_if (pt_not (pt_val (pe_callX (ok_l_alike T nd) (λ _ => hgu) (hr.mono (by decide)) rfl T.g_l_alike T.F_l_alike.kp (bd_l_alike T) .nil pass0 (pa_cons (pe_lst (pa_cons (pe_cmpR (op_eqI T.me_House___eq__ (ok_House___eq__ T nd) nz (hr.mono (by decide)) (bd_House___eq__ T)) (pv 3) (pv 11) (nomark _)) (pa_cons (pe_cmpR (op_neI T.me_House___eq__ T.mo_House T.ne_House (ok_House___eq__ T nd) nz (hr.mono (by decide)) (bd_House___eq__ T)) (pv 3) (pv 11) (nomark _)) (pa_cons (pe_cmpR (op_eqI T.me_House___eq__ (ok_House___eq__ T nd) nz (hr.mono (by decide)) (bd_House___eq__ T)) (pe_makeW0 T.mk_House (ok_House___init__ T nd) (hr.mono (by decide)) rfl T.cg_House (bd_House___init__ T) .nil (λ _ => pas0)) (pv 11) (nomark _)) pa_nil)))) (pa_cons (pe_lst (pa_cons pe_bl (pa_cons pe_bl (pa_cons pe_bl pa_nil)))) pa_nil))))) (pss_one (ps_ret pe_bl)) pss_nil)))
     (pss_cons (ps_if (PW.pt (pw_or (pt_cmpR (op_eqE (Nat.lt_of_succ_lt hr.u1)) (pv 4) pe_dnewK (nomark _)) (pw_or1 (pt_cmpR (uo_inU hr.u65) pe_str (pv 4) (by rfl))))) (pss_one (ps_ret (pe_callX (ok_l_equal T nd) (λ _ => hgu) (hr.mono (by decide)) rfl T.g_l_equal T.F_l_equal.kp (bd_l_equal T) .nil pass0 (pa_cons (pe_makeW0 T.mk_House (ok_House___init__ T nd) (hr.mono (by decide)) rfl T.cg_House (bd_House___init__ T) .nil (λ _ => pas0)) (pa_cons (pv 3) (pa_cons (pe_cmpR (op_eqE (Nat.lt_of_succ_lt hr.u1)) (pv 4) pe_dnewK (nomark _)) pa_nil)))))) pss_nil)
     (pss_cons (ps_set (i := 12) sc_law.nd rfl (by walk_at "oz") (pe_callX (ok_l_take T nd) nz (hr.mono (by decide)) rfl T.g_l_take T.F_l_take.kp (bd_l_take T) .nil pass0 (pa_cons (pv 1) (pa_cons pe_int pa_nil))))
     (pss_cons (ps_expr (pe_callW (ok_l_spoil_one T nd) nz (hr.mono (by decide)) rfl T.g_l_spoil_one T.F_l_spoil_one.kp (bd_l_spoil_one T) .nil (λ _ => pasF) (pa_cons (pv 1) (pa_cons (pe_ix ix_any (pv 10) (pv 12) (λ _ _ => rfl)) (pa_cons (pv 4) pa_nil)))))
     (pss_cons (ps_for PassesOwn.never rfl (pi_range1 (by rfl) T.b_range (pa_cons pe_int pa_nil)) (pg_name (i := 5) sc_law.nd rfl (by walk_at "oz")) (pss_one (ps_if (PW.pt (pw_or (pt_not (pt_val (pe_callX (ok_l_equal T nd) (λ _ => hgu) (hr.mono (by decide)) rfl T.g_l_equal T.F_l_equal.kp (bd_l_equal T) .nil pass0 (pa_cons (pe_ix ix_any (pv 10) (pv 5) (λ _ _ => rfl)) (pa_cons (pe_ix ix_any (pv 10) (pv 12) (λ _ _ => rfl)) (pa_cons (pe_cmpR (uo_eq hr.units) (pv 5) (pv 12) (nomark _)) pa_nil)))))) (pw_or1 (PW.pt (pw_and (pt_cmpR (uo_ne hr.units) (pv 5) (pv 12) (nomark _)) (pw_and1 (pt_not (pt_val (pe_callX (ok_l_same T nd) (λ _ => hgu) (hr.mono (by decide)) rfl T.g_l_same T.F_l_same.kp (bd_l_same T) .nil pass0 (pa_cons (pe_ix ix_any (pv 10) (pv 5) (λ _ _ => rfl)) (pa_cons (pv 4) pa_nil))))))))))) (pss_one (ps_ret pe_bl)) pss_nil)))
     (pss_cons (ps_expr (pe_methW (pe_ix ix_any (pv 10) (pv 12) (λ _ _ => rfl)) T.cl_House T.me_House_become (ok_House_become T nd) nz (hr.mono (by decide)) (bd_House_become T) .nil (λ _ => pasF) (pa_cons (pv 4) pa_nil)))
     (pss_one (ps_ret (pe_and (pe_callX (ok_l_equal T nd) (λ _ => hgu) (hr.mono (by decide)) rfl T.g_l_equal T.F_l_equal.kp (bd_l_equal T) .nil pass0 (pa_cons (pe_ix ix_any (pv 10) (pv 12) (λ _ _ => rfl)) (pa_cons (pe_ix ix_any (pv 10) (pe_op uo_mod (pe_op uo_add (pv 12) pe_int) pe_int) (λ _ _ => rfl)) (pa_cons pe_bl pa_nil)))) (pe_one (pe_callX (ok_l_same T nd) (λ _ => hgu) (hr.mono (by decide)) rfl T.g_l_same T.F_l_same.kp (bd_l_same T) .nil pass0 (pa_cons (pe_ix ix_any (pv 10) (pv 12) (λ _ _ => rfl)) (pa_cons (pv 4) pa_nil))))))))))))))))))))))))))
end
theorem txt {K : Fr} {h : Heap} {mg : Str -> Option Value} (X : K.In h) (G : h.Ns mainGlobals mg) (c : SaysF fa fn K) : Txt K mg where
 F_l_bag := fd_of (c.def_ 0 (d := d_l_bag) rfl)
 F_l_take := fd_of (c.def_ 1 (d := d_l_take) rfl)
 F_l_names := fd_of (c.def_ 2 (d := d_l_names) rfl)
 F_House___init__ := fd_of (c.def_ 3 (d := d_House___init__) rfl)
 F_l_due := fd_of (c.def_ 4 (d := d_l_due) rfl)
 F_l_do := fd_of (c.def_ 5 (d := d_l_do) rfl)
 F_l_alike := fd_of (c.def_ 6 (d := d_l_alike) rfl)
 F_wanted := fd_of (c.def_ 7 (d := d_wanted) rfl)
 F_is_name := fd_of (c.def_ 8 (d := d_is_name) rfl)
 F_is_whole := fd_of (c.def_ 9 (d := d_is_whole) rfl)
 F_is_sign := fd_of (c.def_ 10 (d := d_is_sign) rfl)
 F_are_signs := fd_of (c.def_ 11 (d := d_are_signs) rfl)
 F_is_content := fd_of (c.def_ 12 (d := d_is_content) rfl)
 F_House_write := fd_of (c.def_ 13 (d := d_House_write) rfl)
 F_House_need_file := fd_of (c.def_ 14 (d := d_House_need_file) rfl)
 F_House_drop := fd_of (c.def_ 15 (d := d_House_drop) rfl)
 F_House_move := fd_of (c.def_ 16 (d := d_House_move) rfl)
 F_are_contents := fd_of (c.def_ 17 (d := d_are_contents) rfl)
 F_House_become := fd_of (c.def_ 18 (d := d_House_become) rfl)
 F_House_content := fd_of (c.def_ 19 (d := d_House_content) rfl)
 F_l_call := fd_of (c.def_ 20 (d := d_l_call) rfl)
 F_l_refused := fd_of (c.def_ 21 (d := d_l_refused) rfl)
 F_l_said := fd_of (c.def_ 22 (d := d_l_said) rfl)
 F_l_step := fd_of (c.def_ 23 (d := d_l_step) rfl)
 F_l_any := fd_of (c.def_ 24 (d := d_l_any) rfl)
 F_l_content := fd_of (c.def_ 25 (d := d_l_content) rfl)
 F_l_deed := fd_of (c.def_ 26 (d := d_l_deed) rfl)
 F_House_contents := fd_of (c.def_ 27 (d := d_House_contents) rfl)
 F_House_copied := fd_of (c.def_ 28 (d := d_House_copied) rfl)
 F_House___eq__ := fd_of (c.def_ 29 (d := d_House___eq__) rfl)
 F_l_equal := fd_of (c.def_ 30 (d := d_l_equal) rfl)
 F_House_names_of := fd_of (c.def_ 31 (d := d_House_names_of) rfl)
 F_House___len__ := fd_of (c.def_ 32 (d := d_House___len__) rfl)
 F_l_same := fd_of (c.def_ 33 (d := d_l_same) rfl)
 F_l_spoil_one := fd_of (c.def_ 34 (d := d_l_spoil_one) rfl)
 F_law := fd_of (c.def_ 35 (d := d_law) rfl)
 F_Wrong___init__ := fd_of (c.def_ 36 (d := d_Wrong___init__) rfl)
 F_TooMany___init__ := fd_of (c.def_ 37 (d := d_TooMany___init__) rfl)
 F_NoFile___init__ := fd_of (c.def_ 38 (d := d_NoFile___init__) rfl)
 F_There___init__ := fd_of (c.def_ 39 (d := d_There___init__) rfl)
 c_LETTERS := He.str_ok X G (c.fact 0 (f := (λ K => (He.Fa.str "LETTERS" "abcdefghijklmnopqrstuvwxyz").ok K)) rfl)
 c_LONGEST := He.int_ok X G (c.fact 1 (f := (λ K => (He.Fa.int "LONGEST" 8).ok K)) rfl)
 c_MOST_SIGN := He.int_ok X G (c.fact 2 (f := (λ K => (He.Fa.int "MOST_SIGN" 999).ok K)) rfl)
 c_MOST_CONTENT := He.int_ok X G (c.fact 3 (f := (λ K => (He.Fa.int "MOST_CONTENT" 48).ok K)) rfl)
 c_MOST_KEPT := He.int_ok X G (c.fact 4 (f := (λ K => (He.Fa.int "MOST_KEPT" 8).ok K)) rfl)
 g_l_bag := He.glo_ok X G (c.fact 5 (f := (λ K => (He.Fa.glo "_law_bag").ok K)) rfl)
 g_l_take := He.glo_ok X G (c.fact 6 (f := (λ K => (He.Fa.glo "_law_take").ok K)) rfl)
 g_l_names := He.glo_ok X G (c.fact 7 (f := (λ K => (He.Fa.glo "_law_names").ok K)) rfl)
 g_l_due := He.glo_ok X G (c.fact 8 (f := (λ K => (He.Fa.glo "_law_due").ok K)) rfl)
 g_l_do := He.glo_ok X G (c.fact 9 (f := (λ K => (He.Fa.glo "_law_do").ok K)) rfl)
 g_l_alike := He.glo_ok X G (c.fact 10 (f := (λ K => (He.Fa.glo "_law_alike").ok K)) rfl)
 g_wanted := He.glo_ok X G (c.fact 11 (f := (λ K => (He.Fa.glo "wanted").ok K)) rfl)
 g_is_name := He.glo_ok X G (c.fact 12 (f := (λ K => (He.Fa.glo "is_name").ok K)) rfl)
 g_is_whole := He.glo_ok X G (c.fact 13 (f := (λ K => (He.Fa.glo "is_whole").ok K)) rfl)
 g_is_sign := He.glo_ok X G (c.fact 14 (f := (λ K => (He.Fa.glo "is_sign").ok K)) rfl)
 g_are_signs := He.glo_ok X G (c.fact 15 (f := (λ K => (He.Fa.glo "are_signs").ok K)) rfl)
 g_is_content := He.glo_ok X G (c.fact 16 (f := (λ K => (He.Fa.glo "is_content").ok K)) rfl)
 g_are_contents := He.glo_ok X G (c.fact 17 (f := (λ K => (He.Fa.glo "are_contents").ok K)) rfl)
 g_l_call := He.glo_ok X G (c.fact 18 (f := (λ K => (He.Fa.glo "_law_call").ok K)) rfl)
 g_l_refused := He.glo_ok X G (c.fact 19 (f := (λ K => (He.Fa.glo "_law_refused").ok K)) rfl)
 g_l_said := He.glo_ok X G (c.fact 20 (f := (λ K => (He.Fa.glo "_law_said").ok K)) rfl)
 g_l_step := He.glo_ok X G (c.fact 21 (f := (λ K => (He.Fa.glo "_law_step").ok K)) rfl)
 g_l_any := He.glo_ok X G (c.fact 22 (f := (λ K => (He.Fa.glo "_law_any").ok K)) rfl)
 g_l_content := He.glo_ok X G (c.fact 23 (f := (λ K => (He.Fa.glo "_law_content").ok K)) rfl)
 g_l_deed := He.glo_ok X G (c.fact 24 (f := (λ K => (He.Fa.glo "_law_deed").ok K)) rfl)
 g_l_equal := He.glo_ok X G (c.fact 25 (f := (λ K => (He.Fa.glo "_law_equal").ok K)) rfl)
 g_l_same := He.glo_ok X G (c.fact 26 (f := (λ K => (He.Fa.glo "_law_same").ok K)) rfl)
 g_l_spoil_one := He.glo_ok X G (c.fact 27 (f := (λ K => (He.Fa.glo "_law_spoil_one").ok K)) rfl)
 g_law := He.glo_ok X G (c.fact 28 (f := (λ K => (He.Fa.glo "law").ok K)) rfl)
 cg_Wrong := He.glo_ok X G (c.fact 29 (f := (λ K => (He.Fa.glo "Wrong").ok K)) rfl)
 cg_TooMany := He.glo_ok X G (c.fact 30 (f := (λ K => (He.Fa.glo "TooMany").ok K)) rfl)
 cg_NoFile := He.glo_ok X G (c.fact 31 (f := (λ K => (He.Fa.glo "NoFile").ok K)) rfl)
 cg_There := He.glo_ok X G (c.fact 32 (f := (λ K => (He.Fa.glo "There").ok K)) rfl)
 cg_StoreError := He.glo_ok X G (c.fact 33 (f := (λ K => (He.Fa.glo "StoreError").ok K)) rfl)
 cg_Missing := He.glo_ok X G (c.fact 34 (f := (λ K => (He.Fa.glo "Missing").ok K)) rfl)
 cg_House := He.glo_ok X G (c.fact 35 (f := (λ K => (He.Fa.glo "House").ok K)) rfl)
 cl_House := He.cls_ok (c.fact 36 (f := (λ K => (He.Fa.cls "House").ok K)) rfl)
 mk_House := He.mkr_ok (c.fact 37 (f := (λ K => (He.Fa.mkr "House").ok K)) rfl)
 na_House_signs_by := He.noat_ok (c.fact 38 (f := (λ K => (He.Fa.noat "House" "signs_by").ok K)) rfl)
 me_House_write := He.meth_ok (c.fact 39 (f := (λ K => (He.Fa.meth "House" "write").ok K)) rfl)
 me_House_need_file := He.meth_ok (c.fact 40 (f := (λ K => (He.Fa.meth "House" "need_file").ok K)) rfl)
 me_House_drop := He.meth_ok (c.fact 41 (f := (λ K => (He.Fa.meth "House" "drop").ok K)) rfl)
 me_House_move := He.meth_ok (c.fact 42 (f := (λ K => (He.Fa.meth "House" "move").ok K)) rfl)
 me_House_become := He.meth_ok (c.fact 43 (f := (λ K => (He.Fa.meth "House" "become").ok K)) rfl)
 me_House_content := He.meth_ok (c.fact 44 (f := (λ K => (He.Fa.meth "House" "content").ok K)) rfl)
 me_House_contents := He.meth_ok (c.fact 45 (f := (λ K => (He.Fa.meth "House" "contents").ok K)) rfl)
 me_House_copied := He.meth_ok (c.fact 46 (f := (λ K => (He.Fa.meth "House" "copied").ok K)) rfl)
 me_House___eq__ := He.meth_ok (c.fact 47 (f := (λ K => (He.Fa.meth "House" "__eq__").ok K)) rfl)
 me_House_names_of := He.meth_ok (c.fact 48 (f := (λ K => (He.Fa.meth "House" "names_of").ok K)) rfl)
 me_House___len__ := He.meth_ok (c.fact 49 (f := (λ K => (He.Fa.meth "House" "__len__").ok K)) rfl)
 xb_Wrong := chB_VE (c.fact 50 (f := (λ K => chB K "Wrong" (tlB "ValueError") "ValueError.__new__")) rfl)
 xf_Wrong := chF_ok (c.fact 51 (f := (λ K => chF K "Wrong")) rfl)
 xc_Wrong := chC_ok (c.fact 52 (f := (λ K => chC K "Wrong")) rfl)
 xn_Wrong_at := id (c.fact 53 (f := (λ K => chN K "Wrong" "at")) rfl)
 xi_StoreError := chI_ok (c.fact 54 (f := (λ K => chI K "StoreError" "ValueError.__init__")) rfl)
 xm_Wrong_StoreError := chM_ok (c.fact 55 (f := (λ K => chM K "Wrong" "StoreError" true)) rfl)
 xm_Wrong_Missing := chM_ok (c.fact 56 (f := (λ K => chM K "Wrong" "Missing" false)) rfl)
 xk_Wrong_NoFile := chK_ok (c.fact 57 (f := (λ K => chK K "Wrong" "NoFile" false)) rfl)
 xk_Wrong_There := chK_ok (c.fact 58 (f := (λ K => chK K "Wrong" "There" false)) rfl)
 xk_Wrong_TooMany := chK_ok (c.fact 59 (f := (λ K => chK K "Wrong" "TooMany" false)) rfl)
 xb_TooMany := chB_VE (c.fact 60 (f := (λ K => chB K "TooMany" (tlB "ValueError") "ValueError.__new__")) rfl)
 xf_TooMany := chF_ok (c.fact 61 (f := (λ K => chF K "TooMany")) rfl)
 xc_TooMany := chC_ok (c.fact 62 (f := (λ K => chC K "TooMany")) rfl)
 xn_TooMany_most := id (c.fact 63 (f := (λ K => chN K "TooMany" "most")) rfl)
 xm_TooMany_StoreError := chM_ok (c.fact 64 (f := (λ K => chM K "TooMany" "StoreError" true)) rfl)
 xm_TooMany_Missing := chM_ok (c.fact 65 (f := (λ K => chM K "TooMany" "Missing" false)) rfl)
 xk_TooMany_NoFile := chK_ok (c.fact 66 (f := (λ K => chK K "TooMany" "NoFile" false)) rfl)
 xk_TooMany_There := chK_ok (c.fact 67 (f := (λ K => chK K "TooMany" "There" false)) rfl)
 xk_TooMany_TooMany := chK_ok (c.fact 68 (f := (λ K => chK K "TooMany" "TooMany" true)) rfl)
 xb_NoFile := chB_LE (c.fact 69 (f := (λ K => chB K "NoFile" (tlB "LookupError") "LookupError.__new__")) rfl)
 xf_NoFile := chF_ok (c.fact 70 (f := (λ K => chF K "NoFile")) rfl)
 xc_NoFile := chC_ok (c.fact 71 (f := (λ K => chC K "NoFile")) rfl)
 xn_NoFile_name := id (c.fact 72 (f := (λ K => chN K "NoFile" "name")) rfl)
 xi_Missing := chI_ok (c.fact 73 (f := (λ K => chI K "Missing" "LookupError.__init__")) rfl)
 xm_NoFile_StoreError := chM_ok (c.fact 74 (f := (λ K => chM K "NoFile" "StoreError" false)) rfl)
 xm_NoFile_Missing := chM_ok (c.fact 75 (f := (λ K => chM K "NoFile" "Missing" true)) rfl)
 xk_NoFile_NoFile := chK_ok (c.fact 76 (f := (λ K => chK K "NoFile" "NoFile" true)) rfl)
 xk_NoFile_There := chK_ok (c.fact 77 (f := (λ K => chK K "NoFile" "There" false)) rfl)
 xk_NoFile_TooMany := chK_ok (c.fact 78 (f := (λ K => chK K "NoFile" "TooMany" false)) rfl)
 xb_There := chB_VE (c.fact 79 (f := (λ K => chB K "There" (tlB "ValueError") "ValueError.__new__")) rfl)
 xf_There := chF_ok (c.fact 80 (f := (λ K => chF K "There")) rfl)
 xc_There := chC_ok (c.fact 81 (f := (λ K => chC K "There")) rfl)
 xn_There_thing := id (c.fact 82 (f := (λ K => chN K "There" "thing")) rfl)
 xm_There_StoreError := chM_ok (c.fact 83 (f := (λ K => chM K "There" "StoreError" true)) rfl)
 xm_There_Missing := chM_ok (c.fact 84 (f := (λ K => chM K "There" "Missing" false)) rfl)
 xk_There_NoFile := chK_ok (c.fact 85 (f := (λ K => chK K "There" "NoFile" false)) rfl)
 xk_There_There := chK_ok (c.fact 86 (f := (λ K => chK K "There" "There" true)) rfl)
 xk_There_TooMany := chK_ok (c.fact 87 (f := (λ K => chK K "There" "TooMany" false)) rfl)
 iy_House := chY_ok (c.fact 88 (f := (λ K => chY K "House")) rfl)
 ik_House_House := chK_ok (c.fact 89 (f := (λ K => chK K "House" "House" true)) rfl)
 in_House := chDN_ok (c.fact 90 (f := (λ K => chDN K "House")) rfl)
 mo_House := chMo_ok (c.fact 91 (f := (λ K => chMo K "House")) rfl)
 ne_House := chNe_ok (c.fact 92 (f := (λ K => chNe K "House")) rfl)
 b_abs := He.free_ok X G (c.fact 93 (f := (λ K => (He.Fa.free "abs").ok K)) rfl)
 b_len := He.free_ok X G (c.fact 94 (f := (λ K => (He.Fa.free "len").ok K)) rfl)
 b_range := He.free_ok X G (c.fact 95 (f := (λ K => (He.Fa.free "range").ok K)) rfl)
 b_list := He.free_ok X G (c.fact 96 (f := (λ K => (He.Fa.free "list").ok K)) rfl)
 b_dict := He.free_ok X G (c.fact 97 (f := (λ K => (He.Fa.free "dict").ok K)) rfl)
 b_repr := He.free_ok X G (c.fact 98 (f := (λ K => (He.Fa.free "repr").ok K)) rfl)
 b_isinstance := He.free_ok X G (c.fact 99 (f := (λ K => (He.Fa.free "isinstance").ok K)) rfl)
 b_str := He.free_ok X G (c.fact 100 (f := (λ K => (He.Fa.free "str").ok K)) rfl)
 b_int := He.free_ok X G (c.fact 101 (f := (λ K => (He.Fa.free "int").ok K)) rfl)
 b_bool := He.free_ok X G (c.fact 102 (f := (λ K => (He.Fa.free "bool").ok K)) rfl)
 b_all := He.free_ok X G (c.fact 103 (f := (λ K => (He.Fa.free "all").ok K)) rfl)
 b_sorted := He.free_ok X G (c.fact 104 (f := (λ K => (He.Fa.free "sorted").ok K)) rfl)
 b_max := He.free_ok X G (c.fact 105 (f := (λ K => (He.Fa.free "max").ok K)) rfl)
end RC
open PySem PySem.W PySem.Calls PyProof.Rows
set_option maxRecDepth 100000 in
set_option maxHeartbeats 0 in
theorem PySem.Challenge.cw_restorechain_k34_equal_len_copied_holds : PySem.Challenge.rw_restorechain_k34_equal_len_copied.Holds := by
  w_on; o_law
  refine HandSHeadRun.head_any (r := OpenLaw.row PySem.Challenge.rw_restorechain_k34_equal_len_copied) (q := view (OpenLaw.row PySem.Challenge.rw_restorechain_k34_equal_len_copied).prog [39]) (H := RC.hk) (ob := RC.ob) (M := 4000) (loose := RC.names)
    (d := HandSHeadRun.topDef (OpenLaw.row PySem.Challenge.rw_restorechain_k34_equal_len_copied).prog 39) (kwd := []) RC.ob_eq (by kernel_rfl) (fun s => by kernel_rfl) RC.run
    (by kernel_rfl) (by kernel_rfl) (by kernel_rfl) (by rfl) (by first | assumption | decide +kernel) (by decide +kernel) ⟨rfl, rfl, rfl, rfl, rfl, by decide +kernel⟩ ?hw ?hc
  case hw => w_witness2
  case hc =>
    refine RC.walk_S (hi := by kernel_rfl) (l := PySem.Challenge.rw_restorechain_k34_equal_len_copied) (n := 63) (k := 10) (x := "_law_script") (CX := fun _ => L2.CX0) rfl (by decide) (by kernel_rfl) ⟨rfl, by decide, by decide⟩ ?F (fun _ _ _ _ _ z => z)
    intro w mg fa h Y G hmg0
    obtain ⟨K, KX, c⟩ := Y
    have hmg : mg ("law" : PySem.Str) = some (.ref fa) := by
      have e : (HandSHeadRun.topDef (OpenLaw.row PySem.Challenge.rw_restorechain_k34_equal_len_copied).prog 39).name = ("law" : PySem.Str) := by kernel_rfl
      rw [← e]
      exact hmg0
    have T := RC.txt KX G c
    have e := hmg.symm.trans T.g_law
    cases e
    exact ⟨K, _, RC.sp_law K, KX, fun s v => L2.FunD.bindsA (ps := ["_law_script"]) T.F_law (fun _ _ _ _ _ _ us hl => match us, hl with | [_], _ => rfl) s [v] rfl,
      RC.law_start K, fun base _ _ nd => RC.ok_law T nd⟩
