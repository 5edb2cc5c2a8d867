import PyProof.Rows.All
import Wide.All
import OpenK.AllK
import Wide.FinOn
import KE.KStateDown
import HandS.ForMost
import HandS.More
import HandS.Walk
import HandS.Wide
import HandS.IsInst
import HandS.RaiseMore
import HandS.Style
import HandS.Deep
import HandS.MakeKwOnly
import HandS.WordsExc
import HandS.Defaults
import HandS.Head0
import HandS.Head1
import HandS.Head2
import HandS.HeadEnd
import HandS.HeadHook1
import HandS.HeadHook2
import HandS.Codes
import HandS.WideMore
import KE.KIntText
import HandS.ExcInit
import HandS.ExcField
import HandS.ExcIs
import HandS.ExcOwn
import HandS.TryMany
import HandS.HotCalls
import HandS.Flow
import KE.KTryMore
import KE.KExcInit
import KE.KExcIs
import PyProof.Conv_int_bool
import HandS.DictComp
import HandS.DeepEq
import HandS.TupAny
import HandS.Conv
import HandS.TupSets
import PyProof.SeqIndex
import PyProof.Rows.SortShellAny
import HandS.DictTup
import HandS.SortOrd
import KE.KSortTupAny
import HandS.NoneIn
import PyProof.FString5
import HandS.DictEq
import PyProof.CollectIter
import PyProof.WalksMore
import HandS.Finally
import PyProof.SliceMore
import HandS.Zip
import HandS.SetBool
import HandS.Comp
import KE.KDictList
import PyProof.SetRoads
import PyProof.EqAt
import PyProof.EqKinds
import KE.KDictPairs
import HandS.FStr
import KE.KTab
import KE.KTabLook
import HandS.IntHex
import KE.GoesEnum
import PySem.Challenge.RW_restorechain_k92_deeds_written_and_read
set_option Elab.async false
set_option linter.all false
set_option maxRecDepth 100000
set_option maxHeartbeats 0
namespace RC
abbrev Fr := PySem.W.Frag
end RC
namespace RC
open PySem PySem.Spec PyProof.Rows L2
abbrev Cell := Addr × HO
def Ext (F F' : Hp) : Prop := ∀ a o, F a = some o -> F' a = some o
theorem Ext.refl (F : Hp) : Ext F F := λ _ _ h => h
theorem Ext.trans {F G H : Hp} (a : Ext F G) (b : Ext G H) : Ext F H := λ x o h => b x o (a x o h)
theorem Ext.new {H : Hp} {p : Addr} {o : HO} (h : H p = none) : Ext H (upd H p o) := λ a u e => by
 rw [upd_ne (ne_of_none e h)]
 exact e
theorem Ext.rd {H H' : Hp} {a : Addr} {u : HO} (e : Ext H H') (h : Rd H a u) : Rd H' a u := by
 rcases h with h | ⟨o, h⟩
 · exact Or.inl (e a _ h)
 · exact Or.inr ⟨o, e a _ h⟩
theorem Ext.sqL {K : Fr} {H H' : Hp} {a : Addr} {xs : List V} (e : Ext H H') (h : SqL K H a xs) : SqL K H' a xs := by
 rcases h with h | h
 · exact Or.inl (e.rd h)
 · exact Or.inr h
theorem Ext.sqT {K : Fr} {H H' : Hp} {a : Addr} {xs : List V} (e : Ext H H') (h : SqT K H a xs) : SqT K H' a xs := by
 rcases h with h | h
 · exact Or.inl (e.rd h)
 · exact Or.inr h
mutual
theorem Dp_ext {K : Fr} {H H' : Hp} (e : Ext H H') : ∀ {v : V} {d : PyData}, Dp K H v d -> Dp K H' v d
 | _, _, .non => .non
 | _, _, .bl b => .bl b
 | _, _, .int i => .int i
 | _, _, .str x => .str x
 | _, _, .lst h ds => .lst (e.sqL h) (DpAll_ext e ds)
 | _, _, .tup h ds => .tup (e.sqT h) (DpAll_ext e ds)
theorem DpAll_ext {K : Fr} {H H' : Hp} (e : Ext H H') : ∀ {vs : List V} {ds : List PyData}, DpAll K H vs ds -> DpAll K H' vs ds
 | _, _, .nil => .nil
 | _, _, .cons h r => .cons (Dp_ext e h) (DpAll_ext e r)
end
structure Res where
 on : Hp -> List Cell -> Prop
 mono : ∀ F F' l, Ext F F' -> on F l -> on F' l
def pt (p : Addr) (o : HO) : Res := ⟨λ _ l => l = [(p, o)], λ _ _ _ _ h => h⟩
def fz (p : Addr) (o : HO) : Res := ⟨λ F l => l = [] /\ F p = some o, λ _ _ _ e h => ⟨h.1, e _ _ h.2⟩⟩
def dt (K : Fr) (v : V) (d : PyData) : Res := ⟨λ F l => l = [] /\ Dp K F v d, λ _ _ _ e h => ⟨h.1, Dp_ext e h.2⟩⟩
def sp2 (R S : Res) : Res := ⟨λ F l => ∃ l1 l2, l = l1 ++ l2 /\ R.on F l1 /\ S.on F l2, λ _ _ _ e ⟨l1, l2, h, a, b⟩ => ⟨l1, l2, h, R.mono _ _ _ e a, S.mono _ _ _ e b⟩⟩
def exi {α : Type} (R : α -> Res) : Res := ⟨λ F l => ∃ x, (R x).on F l, λ _ _ _ e ⟨x, h⟩ => ⟨x, (R x).mono _ _ _ e h⟩⟩
def prp (φ : Prop) (R : Res) : Res := ⟨λ F l => φ /\ R.on F l, λ _ _ _ e h => ⟨h.1, R.mono _ _ _ e h.2⟩⟩
def Sat (F : Hp) : List Res -> List Cell -> Prop
 | [], l => l = []
 | R :: Rs, l => ∃ l1 l2, l = l1 ++ l2 /\ R.on F l1 /\ Sat F Rs l2
theorem Sat.mono {F F' : Hp} (e : Ext F F') : ∀ {Rs : List Res} {l : List Cell}, Sat F Rs l -> Sat F' Rs l
 | [], _, h => h
 | R :: _, _, ⟨l1, l2, h, a, b⟩ => ⟨l1, l2, h, R.mono _ _ _ e a, Sat.mono e b⟩
theorem Sat.perm {F : Hp} {Rs Rs' : List Res} (p : Rs.Perm Rs') : ∀ {l : List Cell}, Sat F Rs l -> ∃ l', l.Perm l' /\ Sat F Rs' l' := by
 induction p with
 | nil => exact λ h => ⟨_, .refl _, h⟩
 | cons R _ ih =>
   rintro l ⟨l1, l2, rfl, a, b⟩
   obtain ⟨l3, q, c⟩ := ih b
   exact ⟨l1 ++ l3, .append_left _ q, l1, l3, rfl, a, c⟩
 | swap R S Rs =>
   rintro l ⟨l1, l2, rfl, a, l3, l4, rfl, b, c⟩
   refine ⟨l3 ++ (l1 ++ l4), ?_, l3, l1 ++ l4, rfl, b, l1, l4, rfl, a, c⟩
   rw [<- List.append_assoc, <- List.append_assoc]
   exact List.Perm.append_right _ List.perm_append_comm
 | trans _ _ ih1 ih2 =>
   intro l h
   obtain ⟨l1, p1, h1⟩ := ih1 h
   obtain ⟨l2, p2, h2⟩ := ih2 h1
   exact ⟨l2, p1.trans p2, h2⟩
structure MemC (F : Hp) (L : List Cell) (H : Hp) : Prop where
 ex : Ext F H
 own : ∀ c ∈ L, H c.1 = some c.2 /\ F c.1 = none
 nd : (L.map (·.1)).Nodup
theorem MemC.perm {F : Hp} {L L' : List Cell} {H : Hp} (h : MemC F L H) (p : L.Perm L') : MemC F L' H :=
 ⟨h.ex, λ c hc => h.own c (p.mem_iff.mpr hc), (p.map _).nodup_iff.mp h.nd⟩
def M (Rs : List Res) (H : Hp) : Prop := ∃ F L, Sat F Rs L /\ MemC F L H
section
variable {Rs Rs' : List Res} {R S : Res} {H : Hp} {p : Addr} {o o' : HO}
theorem M.perm (h : M Rs H) (q : Rs.Perm Rs') : M Rs' H := by
 obtain ⟨F, L, a, b⟩ := h
 obtain ⟨L', q', a'⟩ := a.perm q
 exact ⟨F, L', a', b.perm q'⟩
theorem M.nil : M [] H := ⟨λ _ => none, [], rfl, ⟨(λ _ _ h => nomatch h), (λ _ h => nomatch h), List.nodup_nil⟩⟩
theorem M.tl (h : M (R :: Rs) H) : M Rs H := by
 obtain ⟨F, L, ⟨l1, l2, rfl, a, b⟩, m⟩ := h
 refine ⟨F, l2, b, m.ex, λ c hc => m.own c (List.mem_append_right _ hc), ?_⟩
 have := m.nd
 rw [List.map_append] at this
 exact (List.nodup_append.mp this).2.1
theorem perm_at : ∀ {Rs : List Res} (i : Nat) {R : Res}, Rs[i]? = some R -> Rs.Perm (R :: Rs.eraseIdx i)
 | [], i, R, h => by simp at h
 | S :: Rs, 0, R, h => by
   have e : S = R := Option.some.inj h
   subst e
   exact .refl _
 | S :: Rs, i + 1, R, h => by
   have ih := perm_at (Rs := Rs) i (R := R) (by simpa using h)
   exact (List.Perm.cons S ih).trans (List.Perm.swap R S _)
theorem M.at (h : M Rs H) (i : Nat) (e : Rs[i]? = some R) : M (R :: Rs.eraseIdx i) H := h.perm (perm_at i e)
theorem M.hd (h : M (pt p o :: Rs) H) : H p = some o := by
 obtain ⟨F, L, ⟨l1, l2, rfl, rfl, b⟩, m⟩ := h
 exact (m.own (p, o) (by simp)).1
theorem M.hdF (h : M (fz p o :: Rs) H) : H p = some o := by
 obtain ⟨F, L, ⟨l1, l2, rfl, ⟨_, e⟩, b⟩, m⟩ := h
 exact m.ex _ _ e
theorem M.got (h : M Rs H) (i : Nat) (e : Rs[i]? = some (pt p o)) : H p = some o := (h.at i e).hd
theorem M.gotF (h : M Rs H) (i : Nat) (e : Rs[i]? = some (fz p o)) : H p = some o := (h.at i e).hdF
theorem M.new (h : M Rs H) (hp : H p = none) : M (pt p o :: Rs) (upd H p o) := by
 obtain ⟨F, L, a, m⟩ := h
 have fp : F p = none := by
   cases q : F p with
   | none => rfl
   | some u => rw [m.ex _ _ q] at hp; cases hp
 refine ⟨F, (p, o) :: L, ⟨[(p, o)], L, rfl, rfl, a⟩, ⟨m.ex.trans (Ext.new hp), λ c hc => ?_, ?_⟩⟩
 · rcases List.mem_cons.mp hc with rfl | hc
   · exact ⟨upd_same, fp⟩
   · have q := m.own c hc
     refine ⟨?_, q.2⟩
     rw [upd_ne (ne_of_none q.1 hp)]
     exact q.1
 · rw [List.map_cons, List.nodup_cons]
   refine ⟨λ hm => ?_, m.nd⟩
   obtain ⟨c, hc, e⟩ := List.mem_map.mp hm
   have q := (m.own c hc).1
   rw [e, hp] at q
   cases q
theorem M.put (h : M (pt p o :: Rs) H) : M (pt p o' :: Rs) (upd H p o') := by
 obtain ⟨F, L, ⟨l1, l2, rfl, rfl, b⟩, m⟩ := h
 have fp : F p = none := (m.own (p, o) (by simp)).2
 have nd := m.nd
 rw [List.map_append] at nd
 have nd2 : ((p :: l2.map (·.1)) : List Addr).Nodup := nd
 have np := (List.nodup_cons.mp nd2).1
 refine ⟨F, (p, o') :: l2, ⟨[(p, o')], l2, rfl, rfl, b⟩, ⟨λ a u e => ?_, λ c hc => ?_, nd2⟩⟩
 · have : a ≠ p := λ z => by rw [z, fp] at e; cases e
   rw [upd_ne this]
   exact m.ex _ _ e
 · rcases List.mem_cons.mp hc with rfl | hc
   · exact ⟨upd_same, fp⟩
   · have q := m.own c (List.mem_append_right _ hc)
     refine ⟨?_, q.2⟩
     have : c.1 ≠ p := λ z => np (List.mem_map.mpr ⟨c, hc, z⟩)
     rw [upd_ne this]
     exact q.1
theorem M.fix (h : M (pt p o :: Rs) H) : M (fz p o :: Rs) H := by
 obtain ⟨F, L, ⟨l1, l2, rfl, rfl, b⟩, m⟩ := h
 have hp := m.own (p, o) (by simp)
 have nd := m.nd
 rw [List.map_append] at nd
 have nd2 : ((p :: l2.map (·.1)) : List Addr).Nodup := nd
 have np := (List.nodup_cons.mp nd2).1
 have ex : Ext F (upd F p o) := Ext.new hp.2
 refine ⟨upd F p o, l2, ⟨[], l2, rfl, ⟨rfl, upd_same⟩, b.mono ex⟩, ⟨λ a u e => ?_, λ c hc => ?_, (List.nodup_cons.mp nd2).2⟩⟩
 · by_cases z : a = p
   · subst z
     rw [upd_same] at e
     cases e
     exact hp.1
   · rw [upd_ne z] at e
     exact m.ex _ _ e
 · have q := m.own c (List.mem_append_right _ hc)
   refine ⟨q.1, ?_⟩
   have : c.1 ≠ p := λ z => np (List.mem_map.mpr ⟨c, hc, z⟩)
   rw [upd_ne this]
   exact q.2
theorem M.sp (h : M (sp2 R S :: Rs) H) : M (R :: S :: Rs) H := by
 obtain ⟨F, L, ⟨l1, l2, rfl, ⟨l3, l4, rfl, a, b⟩, c⟩, m⟩ := h
 exact ⟨F, _, ⟨l3, l4 ++ l2, by rw [List.append_assoc], a, l4, l2, rfl, b, c⟩, m⟩
theorem M.sp' (h : M (R :: S :: Rs) H) : M (sp2 R S :: Rs) H := by
 obtain ⟨F, L, ⟨l1, l2, rfl, a, l3, l4, rfl, b, c⟩, m⟩ := h
 exact ⟨F, _, ⟨l1 ++ l3, l4, by rw [List.append_assoc], ⟨l1, l3, rfl, a, b⟩, c⟩, m⟩
theorem M.ex {α : Type} {T : α -> Res} (h : M (exi T :: Rs) H) : ∃ x, M (T x :: Rs) H := by
 obtain ⟨F, L, ⟨l1, l2, rfl, ⟨x, a⟩, c⟩, m⟩ := h
 exact ⟨x, F, _, ⟨l1, l2, rfl, a, c⟩, m⟩
theorem M.ex' {α : Type} {T : α -> Res} (x : α) (h : M (T x :: Rs) H) : M (exi T :: Rs) H := by
 obtain ⟨F, L, ⟨l1, l2, rfl, a, c⟩, m⟩ := h
 exact ⟨F, _, ⟨l1, l2, rfl, ⟨x, a⟩, c⟩, m⟩
theorem M.pr {φ : Prop} (h : M (prp φ R :: Rs) H) : φ /\ M (R :: Rs) H := by
 obtain ⟨F, L, ⟨l1, l2, rfl, ⟨x, a⟩, c⟩, m⟩ := h
 exact ⟨x, F, _, ⟨l1, l2, rfl, a, c⟩, m⟩
theorem M.pr' {φ : Prop} (x : φ) (h : M (R :: Rs) H) : M (prp φ R :: Rs) H := by
 obtain ⟨F, L, ⟨l1, l2, rfl, a, c⟩, m⟩ := h
 exact ⟨F, _, ⟨l1, l2, rfl, ⟨x, a⟩, c⟩, m⟩
theorem perm_set : ∀ {Rs : List Res} (i : Nat) {R S : Res}, Rs[i]? = some R -> (S :: Rs.eraseIdx i).Perm (Rs.set i S)
 | [], i, R, S, h => by simp at h
 | T :: Rs, 0, R, S, h => .refl _
 | T :: Rs, i + 1, R, S, h => by
   have ih := perm_set (Rs := Rs) i (R := R) (S := S) (by simpa using h)
   exact (List.Perm.swap T S _).trans (List.Perm.cons T ih)
theorem M.putAt (h : M Rs H) (i : Nat) (e : Rs[i]? = some (pt p o)) : M (Rs.set i (pt p o')) (upd H p o') := ((h.at i e).put (o' := o')).perm (perm_set i e)
end
end RC

namespace RC
open PySem PySem.Spec PyProof.Rows L2
structure FnX (g : Bool) (P : Program) (w : World) (K : Fr) (mg : Str -> Option Value) (base : Heap) (CX : CXT) (k : Nat) (f : Addr) (fd : FuncData) (ps : List Str) (sp : Sp) : Prop where
 lenG : ∀ vs H Q E, sp vs H Q E -> vs.length = ps.length
 runG : ∀ (B : Around) (out : List Env) (t : Shared) (H : Hp) (args : Args) (bs : List (Str × Value)) (us : List Value) (vs : List V) (Q : VK) (E : XK), (g = true -> B.guards = some []) -> Room k B -> Env0 P w K mg base B out t H ->
   BindsTo t fd args bs -> bs.Perm (ps.zip us) -> Vals vs us -> sp vs H Q E -> codeAny (model P w) B (.call (.ref f) args) (CR CX out P w H t Q E) t
theorem zip_names {α β : Type} : ∀ (as : List α) (bs : List β), (as.zip bs).map (·.1) = as.take bs.length
 | [], _ => by simp
 | _ :: _, [] => rfl
 | a :: as, b :: bs => by
   show a :: (as.zip bs).map (·.1) = a :: as.take bs.length
   rw [zip_names as bs]
theorem bindL_perm {kd : Str -> Option NameKind} {l l' : List (Str × Value)} (p : l.Perm l') : (l.map (·.1)).Nodup -> ∀ m, bindL kd l m = bindL kd l' m := by
 induction p with
 | nil => exact λ _ _ => rfl
 | cons x _ ih =>
   intro nd m
   obtain ⟨n, v⟩ := x
   have nd2 := (List.nodup_cons.mp nd).2
   unfold bindL
   split <;> exact ih nd2 _
 | swap x y l =>
   intro nd m
   obtain ⟨n, v⟩ := x
   obtain ⟨n', v'⟩ := y
   have ne : n' ≠ n := λ e => (List.nodup_cons.mp nd).1 (by rw [e]; exact List.mem_cons_self)
   show bindL kd ((n', v') :: (n, v) :: l) m = bindL kd ((n, v) :: (n', v') :: l) m
   unfold bindL
   unfold bindL
   by_cases h1 : kd n' = some .local <;> by_cases h2 : kd n = some .local <;> simp only [h1, h2, if_true, if_false]
   all_goals try rfl
   congr 1
   funext z
   by_cases e1 : z = n
   · subst e1
     simp [Ne.symm ne]
   · simp [e1]
 | trans p q ih1 ih2 =>
   intro nd m
   rw [ih1 nd m, ih2 ((p.map _).nodup_iff.mp nd) m]
theorem bindC_perm {kd : Str -> Option NameKind} {l l' : List (Str × Value)} (p : l.Perm l') : (l.map (·.1)).Nodup -> ∀ m, bindC kd l m = bindC kd l' m := by
 induction p with
 | nil => exact λ _ _ => rfl
 | cons x _ ih =>
   intro nd m
   obtain ⟨n, v⟩ := x
   have nd2 := (List.nodup_cons.mp nd).2
   unfold bindC
   split <;> exact ih nd2 _
 | swap x y l =>
   intro nd m
   obtain ⟨n, v⟩ := x
   obtain ⟨n', v'⟩ := y
   have ne : n' ≠ n := λ e => (List.nodup_cons.mp nd).1 (by rw [e]; exact List.mem_cons_self)
   show bindC kd ((n', v') :: (n, v) :: l) m = bindC kd ((n, v) :: (n', v') :: l) m
   unfold bindC
   unfold bindC
   by_cases h1 : kd n' = some .local <;> by_cases h2 : kd n = some .local <;> simp only [h1, h2, if_true, if_false]
   all_goals try rfl
   congr 1
   funext z
   by_cases e1 : z = n
   · subst e1
     simp [Ne.symm ne]
   · simp [e1]
 | trans p q ih1 ih2 =>
   intro nd m
   rw [ih1 nd m, ih2 ((p.map _).nodup_iff.mp nd) m]
section
variable {g : Bool} {P : Program} {w : World} {K : Fr} {mg : Str -> Option Value} {base : Heap} {CX : CXT} {k : Nat} {f : Addr} {fd : FuncData} {ps : List Str} {sp : Sp}
theorem FnX.ok (F : FnX false P w K mg base CX k f fd ps sp) : FnOk P w K mg base CX k f fd ps sp :=
 ⟨F.lenG, λ B out t H args us vs Q E hr e b r h => F.runG B out t H args _ us vs Q E (λ z => nomatch z) hr e b (.refl _) r h⟩
theorem FnX.up {g' : Bool} (F : FnX g P w K mg base CX k f fd ps sp) (h : g = true -> g' = true) : FnX g' P w K mg base CX k f fd ps sp :=
 ⟨F.lenG, λ B out t H args bs us vs Q E gu hr e b p r hs => F.runG B out t H args bs us vs Q E (λ z => gu (h z)) hr e b p r hs⟩
theorem FnX.mono {j : Nat} (F : FnX g P w K mg base CX j f fd ps sp) (h : j <= k) : FnX g P w K mg base CX k f fd ps sp :=
 ⟨F.lenG, λ B out t H args bs us vs Q E gu hr e b p r hs => F.runG B out t H args bs us vs Q E gu (hr.mono h) e b p r hs⟩
theorem okX {x qual : Str} {params : Arguments} {body : List Stmt} {scope : Scope} {dvs : List V} {kws : List (Str × V)} {N : List Str} (D : FunD K x qual params body scope dvs kws f fd) (S : FnScope N ps scope)
   (hlen : ∀ vs H Q E, sp vs H Q E -> vs.length = ps.length)
   (hbody : ∀ (cdv : Value) (B : Around) (out : List Env) (t : Shared) (H : Hp) (vs : List V) (Q : VK) (E : XK), (g = true -> B.guards = some []) -> Room k (B.deeper (envOfC qual scope t.heap.objs.size f cdv)) -> sp vs H Q E ->
     ∃ tr, PSs (cxOf CX P w K mg base N qual scope f cdv B out t H E) body tr /\ tr { nx := λ _ H' => Q .non H', rt := Q } (start N vs) H) :
   FnX g P w K mg base CX (k + 1) f fd ps sp := by
 obtain ⟨⟨oc, od, dV, kV, doc, pm, an, cdv, ct, osl, rfl, lk, hcd, _, _⟩, _⟩ := D
 constructor
 · exact hlen
 intro B out t H args bs us vs Q E hg hr env hb hperm rel hsp
 have hin : K.In t.heap := env.mod.kin.keeps λ b o q => (env.bs b o q).1
 have hno : t.heap.NoLimit := env.mod.nolimit.keeps λ b o q => (env.bs b o q).1
 have hll := hlen _ _ _ _ hsp
 have nd : (bs.map (·.1)).Nodup := by
   refine (hperm.map _).nodup_iff.mpr ?_
   rw [zip_names, List.take_of_length_le (by rw [<- rel.length, hll]; exact Nat.le_refl _), <- S.pre]
   exact S.nd.sublist (List.take_sublist _ _)
 have hk : ∀ y ∈ bs, scope.names.lookup y.1 = some .local \/
     (scope.names.lookup y.1 = some .cell /\ ((cellsFrom (t.heap.objs.size + 1) scope.names []).lookup y.1).isSome = true) := by
   rintro ⟨n, v⟩ hy
   cases S.par n (List.of_mem_zip (hperm.mem_iff.mp hy)).1 with
   | inl q => exact .inl q
   | inr q => exact .inr ⟨q, PySem.W.cellsFrom_some _ _ _ (.inl q)⟩
 refine codeAny_call_function hr.depth (hin _ _ lk) rfl S.co S.gen rfl
   (PySem.W.codeRec_of hin hcd) (hb _ _ _ _ ?_)
 refine wpAny_newFunctionEnv_cells S.kind hk λ ev hev t1 ic => ?_
 subst hev
 rw [bindL_perm hperm nd, bindC_perm hperm nd] at ic
 refine ⟨hno.keeps ic.toInCall.keep, codeAny_func ?_⟩
 obtain ⟨tr, htr, hq⟩ := hbody cdv B out t H vs Q E hg (hr.deeper _) hsp
 have J : Inv (cxOf CX P w K mg base N qual scope f cdv B out t H E) [] (start N vs) H t1 :=
   inv_start S hr.hd env hll rel ic
 refine wpAny_mono (htr.run [] t1 (start N vs) H _ J hq) (λ fl t2 z => ?_) λ _ _ z => z
 cases fl with
 | next =>
   obtain ⟨s2, H2, J2, q2⟩ := z
   exact ⟨V.non, H2, J2.os, J2.bare, J2.base, J2.hok, rfl, q2⟩
 | ret u =>
   obtain ⟨v2, s2, H2, J2, r2, q2⟩ := z
   exact ⟨v2, H2, J2.os, J2.bare, J2.base, J2.hok, r2, q2⟩
 | brk =>
   obtain ⟨_, _, _, q2⟩ := z
   cases q2
 | cont =>
   obtain ⟨_, _, _, q2⟩ := z
   cases q2
end
section
variable {X : Cx} {g : Bool} {CX : CXT} {k n : Nat} {f : Addr} {fd : FuncData} {ps ps' ks : List Str} {sp : Sp} {ds : List Value} {dvs : List V} {E : XK}
theorem runX_fn {pins : List (Addr × Obj)} {σ : L2.St} {H : Hp} {s : Shared} {Q : VK} {us : List Value} {vs : List V} (F : FnX g X.prog X.w X.K X.mg X.base CX k f fd ps sp) (hg : g = true -> X.A.guards = some []) (hr : Room k X.A)
   (hb : Binds X.K fd ps ds) (hd : Vals dvs ds) (hx : Passes CX X E) (I : Inv X pins σ H s) (r : Vals vs us) (h : sp (vs ++ dvs) H Q E) :
   wpAny (model X.prog X.w) X.A (call (.ref f) us) (EP X pins σ Q) X.xe s := by
 have rr : Vals (vs ++ dvs) (us ++ ds) := r.append hd
 have ll : (us ++ ds).length = ps.length := rr.length.symm.trans (F.lenG _ _ _ _ h)
 have go := F.runG X.A X.stack s H ⟨us, []⟩ _ (us ++ ds) (vs ++ dvs) Q E hg hr I.env0 (hb s us I.kIn ll) (.refl _) rr h
 refine wpAny_call (codeAny_mono go λ res s' hq => ?_)
 match res, hq with
 | .error e, hq => exact hx pins σ H s e s' I hq
 | .ok (.ret u), hq => exact I.after hq
 | .ok .next, hq => cases hq
 | .ok .brk, hq => cases hq
 | .ok .cont, hq => cases hq
theorem pe_callX {x : Str} {e : Expr} {es : List Expr} {t : TA} {p pos : Pos} (F : FnX g X.prog X.w X.K X.mg X.base CX k f fd ps sp) (hgu : g = true -> X.A.guards = some []) (hr : Room k X.A) (hg : Gl X x) (hm : X.mg x = some (.ref f))
   (hk : PySem.W.keepIn X.K (.ref f) = true) (hb : Binds X.K fd ps ds) (hd : Vals dvs ds) (hx : Passes CX X E)
   (ha : PA X (e :: es) t) (hdb : (x == ("__debug__" : Str)) = false := by decide) (he : starEach (e :: es) X.env = (false, eval e X.env) :: starEach es X.env := by rfl)
   (hpl : (backTo pos (starEach es X.env)).any (·.1) = false := by rfl) : PE X (.Call (.Name x p) (e :: es) [] pos) (tCall sp dvs E t) := by
 constructor
 intro pins s σ H Q I h
 refine wpAny_Call_Name_kw (ld_glob I hg hm ?_ hdb)
 have body := thn (ha.run pos pins s σ H _ I h) (Q' := λ us s1 => X.K.In s1.heap /\ wpAny (model X.prog X.w) X.A (call (.ref f) us) (EP X pins σ Q) X.xe s1)
   λ us s1 ⟨vs, H1, I1, r1, q1⟩ => ⟨I1.kIn, runX_fn F hgu hr hb hd hx I1 r1 q1⟩
 exact PySem.W.callWith_K (h₀ := X.base) I.ok.mod.kin hk body he hpl
end
theorem law_callN {ND : Heap -> Prop} {P : Program} {w : World} {K : Fr} {mg mb : Str -> Option Value} {CX : CXT} {k : Nat} {fa a : Addr} {fd : FuncData} {x : Str} {sp : Sp} {s1 : Shared} {vs : List Value} {ns : List Int}
   (KX : K.In s1.heap) (hns : s1.heap.Ns mainGlobals mg) (hb : s1.heap.Ns builtinsNs mb) (hbb : ∀ x : Str, x ≠ "__name__" -> mb x = bootBuiltins x) (hlim : s1.heap.NoLimit) (hdig : ∀ h' : Heap, (∀ b o es ep, s1.heap.get? b = some o -> o.data = .dict es ep -> h'.get? b = some o) -> ND h') (hg : s1.gens = #[])
   (ha : s1.heap.get? a = some { cls := .type "list", data := .seq vs.toArray }) (hi : IntsAre vs ns) (hl : ns.length <= sizeLine) (hr : Room k callerA)
   (F : ∀ base : Heap, K.In base -> base.Ns mainGlobals mg -> ND base -> FnX true P w K mg base CX k fa fd [x] sp)
   (hbind : ∀ (s : Shared) (u : Value), BindsTo s fd ⟨[u], []⟩ [(x, u)])
   (hsp : ∀ H : Hp, SqL K H a (ns.map V.int) -> sp [.ref a] H (λ v _ => v = .bl true) λ _ _ _ => False)
   (hCX : ∀ H e s', CX [] H s1 (λ _ _ _ => False) e s' -> False) :
   codeAny (model P w) callerA (.call (.ref fa) ⟨[.ref a], []⟩) (λ r s' => r = .ok (.ret (.bool true)) /\ OldK s1.heap s'.heap /\ s'.os = s1.os /\ AllBare s'.gens) s1 := by
 have rv := vals_ints hi
 -- the abstract heap: the script alone, locked, unless it is one of the module's own objects
 obtain ⟨H, hS, hok, hA, hK, hO⟩ : ∃ H : Hp, SqL K H a (ns.map V.int) /\ HOk P w H s1.heap /\ (∀ b, H b ≠ none -> b = a) /\ (H a ≠ none -> K.lookup a = none) /\
     ∀ b u, H b = some u -> ∃ o v, u = .frz o v := by
   cases hk : K.lookup a with
   | some o =>
     have e := KX a o hk
     rw [ha] at e
     cases e
     refine ⟨λ _ => none, .inr ⟨_, vs.toArray, _, hk, rfl, rfl, rfl, ?_, by simpa using rv⟩, ?_, ?_, ?_, ?_⟩
     · rw [List.size_toArray, hi.length]
       exact hl
     · intro b u z
       cases (show (none : Option HO) = some u from z)
     · intro b z
       exact absurd rfl z
     · intro z
       exact absurd rfl z
     · intro b u z
       cases (show (none : Option HO) = some u from z)
   | none =>
     have at1 : upd (λ _ => none) a (.frz { cls := .type "list", data := .seq vs.toArray } (.lst (ns.map V.int))) a = some (HO.frz { cls := .type "list", data := .seq vs.toArray } (.lst (ns.map V.int))) := upd_same
     have at2 : ∀ b u, upd (λ _ => none) a (.frz { cls := .type "list", data := .seq vs.toArray } (.lst (ns.map V.int))) b = some u -> b = a /\ u = HO.frz { cls := .type "list", data := .seq vs.toArray } (.lst (ns.map V.int)) := by
       intro b u z
       by_cases q : b = a
       · subst q
         rw [upd_same] at z
         exact ⟨rfl, (Option.some.inj z).symm⟩
       · rw [upd_ne q] at z
         cases z
     refine ⟨_, .inl (.inr ⟨_, at1⟩), ?_, ?_, λ _ => rfl, ?_⟩
     · intro b u z
       obtain ⟨rfl, rfl⟩ := at2 b u z
       refine ⟨ha, ?_, vs, _, rv, ha⟩
       rw [List.length_map]
       exact hl
     · intro b z
       cases q : upd (λ _ => none) a (.frz { cls := .type "list", data := .seq vs.toArray } (.lst (ns.map V.int))) b with
       | none => exact absurd q z
       | some u => exact (at2 b u q).1
     · intro b u z
       exact ⟨_, _, (at2 b u z).2⟩
 have off : ∀ {b : Addr} {o : Obj} {es : Array DictEntry} {ep : Nat}, s1.heap.get? b = some o -> o.data = .dict es ep -> H b = none := by
   intro b o es ep e d
   cases q : H b with
   | none => rfl
   | some u =>
     have z : b = a := hA b (by rw [q]; simp)
     subst z
     rw [ha] at e
     cases e
     cases (show Data.seq vs.toArray _ = Data.dict es ep from d)
 have nsH : ∀ {b : Addr} {m : Str -> Option Value}, s1.heap.Ns b m -> (hidT s1.heap H).Ns b m := by
   rintro b m ⟨o, es, ep, e, d, r⟩
   exact ⟨o, es, ep, hidT_get e (off e d), d, r⟩
 have hKb : K.In (hidT s1.heap H) := by
   intro b o e
   refine hidT_get (KX b o e) ?_
   cases q : H b with
   | none => rfl
   | some u =>
     have z : b = a := hA b (by rw [q]; simp)
     subst z
     rw [hK (by rw [q]; simp)] at e
     cases e
 have hM : Mod K mg (hidT s1.heap H) := by
   obtain ⟨mc, h1, h2⟩ := hlim
   exact ⟨hKb, nsH hns, ⟨mb, nsH hb, hbb⟩, ⟨mc, nsH h1, h2⟩⟩
 have e0 : Env0 P w K mg (hidT s1.heap H) callerA [] s1 H := by
   refine ⟨rfl, hM, λ b o e => of_hidT e, Nat.le_of_eq (hidT_size _ _), trivial, λ b hb => ?_, hok, .of_eq hg⟩
   cases (show b ∈ ([] : List Addr) from hb)
 have go := (F _ hKb (nsH hns) (hdig _ λ b o es ep e d => hidT_get e (off e d))).runG callerA [] s1 H ⟨[.ref a], []⟩ _ [.ref a] [.ref a] _ _ (λ _ => rfl) hr e0 (hbind s1 (.ref a)) (.refl _) (.cons rfl .nil) (hsp H hS)
 refine codeAny_mono go λ res s' h => ?_
 match res, h with
 | .error e, h => exact (hCX H e s' h).elim
 | .ok .next, h => cases h
 | .ok .brk, h => cases h
 | .ok .cont, h => cases h
 | .ok (.ret u), h =>
   obtain ⟨v, H', os, bare, un, hok', r', q⟩ := h
   cases (show v = .bl true from q)
   cases (show u = Value.bool true from r')
   refine ⟨rfl, OldK.of_keep λ b o e => ?_, os, bare⟩
   cases q : H b with
   | none =>
     refine un.keep b o e q (λ z => ?_) (by simp)
     cases (show b ∈ ([] : List Addr) from z)
   | some u =>
     obtain ⟨ob, v2, rfl⟩ := hO b u q
     have z2 := un.frzs b ob _ q
     obtain ⟨e1, _⟩ := hok b _ q
     obtain ⟨e2, _⟩ := hok' b _ z2
     rw [e] at e1
     cases e1
     exact e2
theorem nd_keep {h h' : Heap} (x : h.NoDigits) (k : ∀ b o es ep, h.get? b = some o -> o.data = .dict es ep -> h'.get? b = some o) : h'.NoDigits := by
 obtain ⟨mc, ⟨o, es, ep, e, d, r⟩, q⟩ := x
 exact ⟨mc, ⟨o, es, ep, k _ _ _ _ e d, d, r⟩, q⟩
end RC

namespace RC
open PySem PySem.Spec PySem.Calls PySem.NumText PyProof.Rows L2
theorem wp_maxDigits {M : Model} {A : Around} {E : Value -> Shared -> Prop} {s : Shared} {Q : Nat -> Shared -> Prop} (hn : s.heap.NoDigits) (h : Q 4300 s) : wpAny M A Builtin.intMaxStrDigits Q E s := by
 obtain ⟨mc, hns, hnone⟩ := hn
 unfold Builtin.intMaxStrDigits
 refine wpAny_bind (wpAny_nsGet hns ?_)
 rw [hnone]
 exact wpAny_pure h
theorem wp_textL {M : Model} {A : Around} {E : Value -> Shared -> Prop} {s : Shared} {Q : Value -> Shared -> Prop} {v : Value} {text : List Nat} {n : Int} (hd : s.heap.NoDigits)
   (hs : ¬ (text.takeWhile (· != 0)).length <= 640) (hr : (int_private% "readNumeral") 4300 10 (text.takeWhile (· != 0)) = (int_private% "Numeral.value") n)
   (ha : ((text.takeWhile (· != 0)).length == text.length) = true) (h : Q (.int n s.toks) { s with toks := s.toks + 1 }) :
   wpAny M A ((int_private% "intFromText") v text 10) Q E s := by
 obtain ⟨hp, g, d, tk, os⟩ := s
 repeat (any_goals (first
   | assumption
   | (with_reducible refine wpAny_ite_false (decide_eq_false hs) ?_)
   | (with_reducible refine wpAny_ite_true (decide_eq_true ha) ?_)
   | (with_reducible refine wp_maxDigits hd ?_)
   | wp_step))
 all_goals (try rw [hr])
 all_goals (try dsimp only)
 repeat (any_goals (first
   | assumption
   | (with_reducible refine wpAny_ite_true (decide_eq_true ha) ?_)
   | wp_step))
structure HidL (p : Prop) : Prop where
 out : p
theorem meets_textL {x : PySem.Str} {u : Tok} {n : Int} (hl : ¬ (numSeenOf x).length <= 640) (hz : x.length <= sizeLine) (hn : PySem.intText? x = some n) :
   Meets (Builtin.«int.__new__» ⟨[.type "int", .str x u], []⟩) (λ _ R s => s.heap.NoDigits /\ R (.ok (.ret (.int n s.toks))) { s with toks := s.toks + 1 }) := by
 intro prog w A R s h
 obtain ⟨hd, h⟩ := h
 refine wpAny_mono (Q := λ fin s' => ∃ v, fin = .done (.ret v) /\ R (.ok (.ret v)) s') ?_ (λ fin s' h' => by obtain ⟨v, rfl, hv⟩ := h'; exact hv) λ _ _ x => x
 obtain ⟨hp, g, d, tk, os⟩ := s
 have f1 := F.conv_sub_int
 have f2 := F.madeHere_int
 have f3 := PySem.W.KIN.str_int
 have f4 := PySem.W.KIN.str_idx
 have f5 := PySem.W.KIN.str_trunc
 have f6 : typeOf (.str x u) = pure (.type "str") := rfl
 have hr : (int_private% "readNumeral") 4300 10 (numSeenOf x) = (int_private% "Numeral.value") n /\ ((numSeenOf x).length == (numTextOf x).length) = true := by
   rcases read4300 x hz with ⟨m, h1, h2, h3⟩ | ⟨h1, _⟩
   · rw [hn] at h1
     injection h1 with h1
     subst h1
     exact ⟨h3, h2⟩
   · rw [hn] at h1
     cases h1
 have hk := HidL.mk (And.intro hl hr)
 have hh := HidL.mk hd
 clear hl hr hn hz hd
 repeat (any_goals (first
   | assumption
   | ((with_reducible show wpAny _ _ ((int_private% "intFromText") _ _ _) _ _ _); refine wp_textL hh.out hk.out.1 hk.out.2.1 hk.out.2.2 ?_)
   | wp_step))
 all_goals first | exact ⟨_, rfl, h⟩ | skip
def rIntT : List V -> Hp -> VK -> Prop := λ xs H Q => ∃ a n, xs = [.str a] /\ PySem.intText? a = some n /\ a.cps.all (· < 128) = true /\ a.length <= sizeLine /\ Q (.int n) H
theorem cr_intT {X : Cx} (nd : X.base.NoDigits) : CallR X (.type "int") rIntT := by
 intro pins s σ H xs us Q I rs h
 obtain ⟨a, n, rfl, hn, ha, hz, h⟩ := h
 cases rs with
 | cons r1 rs =>
   cases rs
   obtain ⟨t, rfl⟩ := r1
   by_cases hl : a.length <= 640
   · exact PySem.W.KIN.call_text hn hl ⟨.int n, H, I.tok _, ⟨_, rfl⟩, h⟩
   · have e : numTextOf a = a.cps.toList := if_pos ha
     have hs : ¬ (numSeenOf a).length <= 640 := by
       rcases read4300 a hz with ⟨m, h1, h2, h3⟩ | ⟨h1, _⟩
       · have z := eq_of_beq h2
         rw [z, e, Array.length_toList]
         exact hl
       · rw [hn] at h1
         cases h1
     exact call_int_1 (meets_textL hs hz hn) ⟨nd.keeps λ b o q => (I.env0.bs b o q).1, rfl, ⟨.int n, H, I.tok _, ⟨_, rfl⟩, h⟩⟩
def rRepS : R2 := λ x y H Q => ∃ (c : Nat) (n : Int), x = .str (SX.S [c]) /\ y = .int n /\ 1 <= n /\ n <= 100000 /\ Q (.str (SX.S (List.replicate n.toNat c))) H
theorem rep_one (c : Nat) : ∀ (k : Nat) (acc : Array Nat), (List.replicate k #[c]).foldl (· ++ ·) acc = acc ++ (List.replicate k c).toArray
 | 0, acc => by simp
 | k + 1, acc => by
   rw [List.replicate_succ, List.foldl_cons, rep_one c k, List.replicate_succ]
   refine Array.toList_inj.mp ?_
   simp only [Array.toList_append, List.toList_toArray, List.append_assoc]
   rfl
theorem op_repS {X : Cx} : OpR X (binaryOp .Mult) rRepS := by
 intro pins s σ H x y v u Q I rx ry h
 obtain ⟨c, n, rfl, rfl, h1, h2, q⟩ := h
 obtain ⟨t, rfl⟩ := rx
 obtain ⟨t2, rfl⟩ := ry
 have hl : (SX.S [c]).length = 1 := SX.S_len [c]
 refine PySem.P.mul_str (by rw [decide_eq_false (by omega), decide_eq_false (by omega)]; rfl) (λ _ _ => ?_) (λ _ _ => ?_) ?_
 · rw [hl]
   have : (1 : Int) <= (2 ^ 63 - 1) / n := (Int.le_ediv_iff_mul_le (by omega)).mpr (by omega)
   omega
 · rw [hl]
   unfold Builtin.Str.tooLong
   rw [decide_eq_false]
   have := sizeLine_eq
   omega
 · rw [if_neg (by omega)]
   by_cases e : n = 1
   · subst e
     rw [if_pos (by rfl)]
     exact ⟨.str _, H, I, ⟨_, rfl⟩, q⟩
   · rw [if_neg (by rw [hl]; simp [e])]
     have e2 : (⟨(List.replicate n.toNat (SX.S [c]).cps).foldl (· ++ ·) #[]⟩ : Str) = SX.S (List.replicate n.toNat c) := by
       show (⟨(List.replicate n.toNat #[c]).foldl (· ++ ·) #[]⟩ : Str) = _
       rw [rep_one]
       simp
     rw [e2]
     refine ⟨?_, ⟨.str _, H, I.tok _, ⟨_, rfl⟩, q⟩⟩
     rw [SX.S_len, List.length_replicate]
     have := sizeLine_eq
     omega
end RC

namespace RC
open PySem PySem.Spec PyProof.Rows L2
section
variable {X : Cx}
def rCatS (K : Fr) : R2 := λ x y H Q => ∃ l b xs zs, x = .ref l /\ y = .ref b /\ SqL K H l xs /\ SqL K H b zs /\ xs.length + zs.length <= sizeLine /\ ∀ p, H p = none -> Q (.ref p) (upd H p (.lst (xs ++ zs)))
theorem op_catS : OpR X (binaryOp .Add) (rCatS X.K) := by
 intro pins s σ H x y v u Q I rx ry h
 obtain ⟨l, b, xs, zs, rfl, rfl, hH, hB, hz, q⟩ := h
 cases rx
 cases ry
 obtain ⟨its, r, ⟨⟨cls, dd, data, sl⟩, n, ho, hc, _, hd⟩, _⟩ := I.list hH
 obtain ⟨its2, r2, ⟨⟨cls2, dd2, data2, sl2⟩, n2, ho2, hc2, _, hd2⟩, _⟩ := I.list hB
 simp only at hc hd hc2 hd2
 subst hc hd hc2 hd2
 have ea : its.toArray ++ its2.toArray = (its ++ its2).toArray := by simp
 have l1 := r.length
 have l2 := r2.length
 refine concat_meets ⟨_, ho, rfl⟩ ⟨_, ho2, rfl⟩ noFill_list_add seq_list_add PySem.F.slot_list_add PySem.F.entry_list_add (PySem.F.args_list_add_2 _ _) (list_addW l b its.toArray its2.toArray n n2 dd dd2 sl sl2 (by rw [List.size_toArray, List.size_toArray]; omega)) ⟨ho, ho2, ?_⟩
 rw [ea]
 exact ⟨.ref _, _, I.lnew (t' := s.toks) (r.append r2) (by rw [List.length_append]; omega), rfl, q _ I.fresh⟩
def uAdd (K : Fr) : R2 := λ x y H Q => rI0 (λ i j => .int (i + j)) x y H Q \/ (∃ i j, x = .str i /\ y = .str j /\ i.length + j.length <= sizeLine /\ Q (.str (i ++ j)) H) \/ rCatS K x y H Q \/ rCatT K x y H Q
theorem uo_add : OpR X (binaryOp .Add) (uAdd X.K) := op_add.or (op_add_str.or (op_catS.or op_catT))
def uSub : R2 := rI0 λ i j => .int (i - j)
theorem uo_sub : OpR X (binaryOp .Sub) uSub := op_sub
def uMul : R2 := λ x y H Q => rI CMul (λ i j => .int (i * j)) x y H Q \/ rI CMulW (λ i j => .int (i * j)) x y H Q \/ rRep x y H Q \/ rRepS x y H Q
theorem uo_mul : OpR X (binaryOp .Mult) uMul := op_mul.or (op_mulW.or (op_rep.or op_repS))
def uMod : R2 := rI (λ _ j => 0 < j) λ i j => .int (i % j)
theorem uo_mod : OpR X (binaryOp .Mod) uMod := op_mod
def uDiv : R2 := rI CDivW λ i j => .int (i / j)
theorem uo_div : OpR X (binaryOp .FloorDiv) uDiv := op_fdivW
def uPow : R2 := rI CPow λ i j => .int (i ^ j.toNat)
def iAdd : R2 := λ x y H Q => rI0 (λ i j => .int (i + j)) x y H Q \/ rExt2 x y H Q
theorem io_add : OpR X (inplaceOp .Add) iAdd := iop_add.or iop_ext
def iSub : R2 := rI0 λ i j => .int (i - j)
def iMul : R2 := rI CMul λ i j => .int (i * j)
def iDiv : R2 := rI CDiv λ i j => .int (i / j)
theorem io_div : OpR X (inplaceOp .FloorDiv) iDiv := iop_fdiv
def uEq (K : Fr) : R2 := λ x y H Q => rEq x y H Q \/ rEqD K x y H Q
theorem uo_eq (hu : X.A.units + 64 < cLine) : OpR X (compareOp .Eq) (uEq X.K) := op_eq.or (op_eqD hu)
def uNe (K : Fr) : R2 := λ x y H Q => rNe x y H Q \/ rNeD K x y H Q
theorem uo_ne (hu : X.A.units + 64 < cLine) : OpR X (compareOp .NotEq) (uNe X.K) := op_ne.or (op_neD hu)
def uLt : R2 := rI0 λ i j => .bl (decide (i < j))
def uLe : R2 := rI0 λ i j => .bl (decide (i <= j))
def uGt : R2 := rI0 λ i j => .bl (decide (j < i))
def uGe : R2 := rI0 λ i j => .bl (decide (j <= i))
theorem uo_lt : OpR X (compareOp .Lt) uLt := op_lt
theorem uo_le : OpR X (compareOp .LtE) uLe := op_le
theorem uo_gt : OpR X (compareOp .Gt) uGt := op_gt
theorem uo_ge : OpR X (compareOp .GtE) uGe := op_ge
def gIx (K : Fr) : V -> V -> Hp -> VK -> Prop := λ o i H Q => (∃ (p : Addr) (xs : List V) (n : Int) (v : V), o = .ref p /\ i = .int n /\ SqL K H p xs /\ 0 <= n /\ xs[n.toNat]? = some v /\ Q v H) \/ ∃ p v, o = .ref p /\ DGet H p i (some v) /\ Q v H
theorem get_any (hu : X.A.units + 1 < cLine) : PGet X (gIx X.K) := by
 intro pins s σ H o i ov iv Q I r1 r2 h
 rcases h with ⟨p, xs, n, v, rfl, rfl, hs, h0, hx, q⟩ | ⟨p, v, rfl, hd, q⟩
 · cases (show ov = Value.ref p from r1)
   obtain ⟨tk, rfl⟩ := r2
   obtain ⟨its, rv, pl, hz⟩ := I.list hs
   obtain ⟨u, hu, ru⟩ := rv.get hx
   have hlt : n.toNat < xs.length := (List.getElem?_eq_some_iff.mp hx).1
   have hle : n < 2 ^ 63 := by
     have := line63
     omega
   exact wpAny_getItem_list pl.isList h0 hle (by simpa using hu) ⟨v, H, I, ru, q⟩
 · cases (show ov = Value.ref p from r1)
   exact d_getItem hu I hd r2 λ w' s' I' rw' => ⟨v, H, I', rw', q⟩
def uSet : V -> V -> V -> Hp -> (Hp -> Prop) -> Prop := λ o i v H Q => rSetL o i v H Q \/ ∃ p H', o = .ref p /\ DPut H p i v H' /\ Q H'
theorem set_any (hu : X.A.units + 1 < cLine) : PSet X uSet := by
 intro pins s σ H o i v ov iv u Q I r1 r2 r3 h
 rcases h with h | ⟨p, H', rfl, hd, q⟩
 · exact set_list pins s σ H o i v ov iv u Q I r1 r2 r3 h
 · cases (show ov = Value.ref p from r1)
   exact d_setItem hu I hd r2 r3 λ s' I' => ⟨H', I', q⟩
theorem ip_of {op : Operator} {r : R2} (h : OpR X (inplaceOp op) r) : PIp X op r := λ pins s σ H x y v u Q I a b q => h pins s σ H x y v u Q I a b q
def uLen (K : Fr) : List V -> Hp -> VK -> Prop := λ xs H Q => (∃ x n, xs = [x] /\ LenV K x H n /\ Q (.int n) H) \/ ∃ d kvs, xs = [.ref d] /\ Rd H d (.dK kvs) /\ Q (.int (kvs.length : Nat)) H
theorem call_lenRd : CallR X (.builtin "len") (λ xs H Q => ∃ a kvs, xs = [V.ref a] /\ Rd H a (.dK kvs) /\ Q (.int (kvs.length : Nat)) H) := by
 intro pins s σ H xs us Q I r h
 obtain ⟨a, kvs, rfl, ha, q⟩ := h
 obtain ⟨u, rfl, ru⟩ := vals1 r
 cases ru
 exact d_len I ha λ t s' I' => ⟨.int kvs.length, H, I', ⟨t, rfl⟩, q⟩
theorem cr_len : CallR X (.builtin "len") (uLen X.K) := call_len.or call_lenRd
theorem pe_globI {x : Str} {i : Int} {pos : Pos} (hg : Gl X x) (hm : ∃ t, X.mg x = some (.int i t)) (hd : (x == ("__debug__" : Str)) = false := by decide) : PE X (.Name x pos) (tC (.int i)) := by
 obtain ⟨t, hm⟩ := hm
 exact pe_glob hg hm ⟨t, rfl⟩ hd
theorem pe_globS {x z : Str} {pos : Pos} (hg : Gl X x) (hm : ∃ t, X.mg x = some (.str z t)) (hd : (x == ("__debug__" : Str)) = false := by decide) : PE X (.Name x pos) (tC (.str z)) := by
 obtain ⟨t, hm⟩ := hm
 exact pe_glob hg hm ⟨t, rfl⟩ hd
def uIx (K : Fr) : R2 := rIx K
theorem ix_any : IxR X (uIx X.K) := ix_seq
def uSl (K : Fr) : V -> Option Int -> Option Int -> Hp -> VK -> Prop := λ x lo hi H Q => rSlL K x lo hi H Q \/ rSlT K x lo hi H Q
theorem sl_any : SlR X (uSl X.K) := sl_list.or sl_tup
end
section
variable {K : Fr} {σ : L2.St} {H : Hp} {Q : VK} {D : Ends} {t u : TS} {te ta tb tc : TE} {tt : TT} {Rs : List Res} {E : XK}
theorem g_seq (k : t { D with nx := u D } σ H) : tSeq t u D σ H := k
theorem g_next (k : D.nx σ H) : tNext D σ H := k
theorem g_asg {i : Nat} (k : te σ H λ x H1 => D.nx (σ.set i (some x)) H1) : tAsg te (gName i) D σ H := k
theorem g_asgX {g : TG} (k : te σ H λ x H1 => g x σ H1 D.nx) : tAsg te g D σ H := k
theorem g_drop (k : te σ H λ _ H1 => D.nx σ H1) : tDrop te D σ H := k
theorem g_ret (k : te σ H D.rt) : tRet te D σ H := k
theorem g_retN (k : D.rt .non H) : tRetN D σ H := k
theorem g_if (k : tt σ H λ b H1 => if b = true then t D σ H1 else u D σ H1) : tIfS tt t u D σ H := k
theorem g_nx {f r b c} (k : f σ H) : (Ends.mk f r b c).nx σ H := k
theorem g_rt {f b c} {r : VK} {v : V} (k : r v H) : (Ends.mk f r b c).rt v H := k
theorem g_bk {f b c} {r : VK} (k : b σ H) : (Ends.mk f r b c).bk σ H := k
theorem g_ct {f b c} {r : VK} (k : c σ H) : (Ends.mk f r b c).ct σ H := k
theorem g_var {i : Nat} {v : V} (h : σ[i]? = some (some v)) (k : Q v H) : tVar i σ H Q := ⟨v, h, k⟩
theorem g_c {v : V} (k : Q v H) : tC v σ H Q := k
theorem g_op {r : R2} (k : ta σ H λ x H1 => tb σ H1 λ y H2 => r x y H2 Q) : tOp r ta tb σ H Q := k
theorem g_un {r : V -> Hp -> VK -> Prop} (k : ta σ H λ x H1 => r x H1 Q) : tUn r ta σ H Q := k
theorem g_nil {Q : List V -> Hp -> Prop} (k : Q [] H) : tNil σ H Q := k
theorem g_cons {tr : TA} {Q : List V -> Hp -> Prop} (k : ta σ H λ x H1 => tr σ H1 λ xs H2 => Q (x :: xs) H2) : tCons ta tr σ H Q := k
theorem g_cb {r : List V -> Hp -> VK -> Prop} {t : TA} (k : t σ H λ vs H1 => r vs H1 Q) : tCB r t σ H Q := k
theorem g_call {sp : Sp} {dvs : List V} {t : TA} (k : t σ H λ vs H1 => sp (vs ++ dvs) H1 Q E) : tCall sp dvs E t σ H Q := k
def LstK (Q : VK) : List V -> Hp -> Prop := λ xs H1 => xs.length <= sizeLine /\ ∀ p, H1 p = none -> Q (.ref p) (upd H1 p (.lst xs))
def TupK (Q : VK) : List V -> Hp -> Prop := λ xs H1 => xs.length <= sizeLine /\ ∀ p, H1 p = none -> Q (.ref p) (upd H1 p (.tup xs))
theorem g_lst {t : TA} (k : t σ H (LstK Q)) : tLst t σ H Q := k
theorem g_tup {t : TA} (k : t σ H (TupK Q)) : tTup t σ H Q := k
theorem v_lst {xs : List V} (S : M Rs H) (hn : xs.length <= 100000) (k : ∀ p H', M (pt p (.lst xs) :: Rs) H' -> Q (.ref p) H') : LstK Q xs H :=
 ⟨Nat.le_trans hn (by decide), λ p hp => k p _ (S.new hp)⟩
theorem v_tup {xs : List V} (S : M Rs H) (hn : xs.length <= 100000) (k : ∀ p H', M (pt p (.tup xs) :: Rs) H' -> Q (.ref p) H') : TupK Q xs H :=
 ⟨Nat.le_trans hn (by decide), λ p hp => k p _ (S.new hp)⟩
theorem g_test {Q : Bool -> Hp -> Prop} (k : te σ H λ x H' => ∃ b, x = .bl b /\ Q b H') : tTest te σ H Q := k
theorem g_B {Q : Bool -> Hp -> Prop} (k : te σ H λ x H' => ∃ b, x = .bl b /\ Q b H') : tB te σ H Q := k
theorem g_bl {b : Bool} {Q : Bool -> Prop} (k : Q b) : ∃ c, V.bl b = .bl c /\ Q c := ⟨b, rfl, k⟩
theorem g_and {s : TT} {Q : Bool -> Hp -> Prop} (k : tt σ H λ c H1 => if c = true then s σ H1 Q else Q false H1) : tAnd tt s σ H Q := k
theorem g_or {s : TT} {Q : Bool -> Hp -> Prop} (k : tt σ H λ c H1 => if c = true then Q true H1 else s σ H1 Q) : tOr tt s σ H Q := k
theorem g_not {Q : Bool -> Hp -> Prop} (k : tt σ H λ c H1 => Q (!c) H1) : tNot tt σ H Q := k
theorem g_andV (k : ta σ H λ x H1 => ∃ c, x = .bl c /\ if c = true then tb σ H1 Q else Q (.bl false) H1) : tAndV ta tb σ H Q := k
theorem g_orV (k : ta σ H λ x H1 => ∃ c, x = .bl c /\ if c = true then Q (.bl true) H1 else tb σ H1 Q) : tOrV ta tb σ H Q := k
theorem g_notV (k : ta σ H λ x H1 => ∃ c, x = .bl c /\ Q (.bl (!c)) H1) : tNotV ta σ H Q := k
theorem g_ifE (k : tt σ H λ c H1 => if c = true then ta σ H1 Q else tb σ H1 Q) : tIf tt ta tb σ H Q := k
theorem g_chain {r r' : R2} (k : ta σ H λ x H1 => tb σ H1 λ y H2 => r x y H2 λ z H3 => ∃ k, z = .bl k /\ (if k = true then tc σ H3 λ w' H4 => r' y w' H4 Q else Q (.bl false) H3)) : tChain r r' ta tb tc σ H Q := k
theorem g_aug {i : Nat} {ti : TIp} {v : V} (h : σ[i]? = some (some v)) (k : te σ H λ y H1 => ti v y H1 λ z H2 => D.nx (σ.set i (some z)) H2) : tAug i te ti D σ H := ⟨v, h, k⟩
theorem g_augS {tget : V -> V -> Hp -> VK -> Prop} {tip : TIp} {tset : TSet} (k : ta σ H λ o H1 => tb σ H1 λ i H2 => tget o i H2 λ x H3 => te σ H3 λ y H4 => tip x y H4 λ z H5 => tset o i z H5 λ H6 => D.nx σ H6) :
   tAugS ta tb te tget tip tset D σ H := k
theorem g_sub {t3 : TSet} {v : V} {Q : L2.St -> Hp -> Prop} (k : ta σ H λ o H1 => tb σ H1 λ i H2 => t3 o i v H2 λ H3 => Q σ H3) : gSub ta tb t3 v σ H Q := k
theorem g_sl {r : V -> Option Int -> Option Int -> Hp -> VK -> Prop} {tl th : TO} (k : te σ H λ x H1 => tl σ H1 λ l H2 => th σ H2 λ u H3 => r x l u H3 Q) : tSl r te tl th σ H Q := k
theorem g_noPart {Q : Option Int -> Hp -> Prop} (k : Q none H) : tNoPart σ H Q := k
theorem g_part {Q : Option Int -> Hp -> Prop} (k : te σ H λ x H1 => ∃ i, x = .int i /\ Q (some i) H1) : tPart te σ H Q := k
theorem g_int {i : Int} {Q : Int -> Prop} (k : Q i) : ∃ j, V.int i = .int j /\ Q j := ⟨i, rfl, k⟩
theorem v_add {i j : Int} (k : Q (.int (i + j)) H) : uAdd K (.int i) (.int j) H Q := .inl ⟨i, j, rfl, rfl, k⟩
theorem v_sub {i j : Int} (k : Q (.int (i - j)) H) : uSub (.int i) (.int j) H Q := ⟨i, j, rfl, rfl, k⟩
theorem v_mul {i j : Int} (h : CMul i j \/ CMulW i j) (k : Q (.int (i * j)) H) : uMul (.int i) (.int j) H Q := h.elim (λ h => .inl ⟨i, j, rfl, rfl, h, k⟩) λ h => .inr (.inl ⟨i, j, rfl, rfl, h, k⟩)
theorem v_mod {i j : Int} (h : 0 < j) (k : Q (.int (i % j)) H) : uMod (.int i) (.int j) H Q := ⟨i, j, rfl, rfl, h, k⟩
theorem div_ok {i j : Int} (h : 0 < j /\ j < 2 ^ 64) : CDivW i j := wide_div (b := 64) h.1 (by omega) (by decide) (by decide)
theorem v_div {i j : Int} (h : 0 < j /\ j < 2 ^ 64) (k : Q (.int (i / j)) H) : uDiv (.int i) (.int j) H Q := ⟨i, j, rfl, rfl, div_ok h, k⟩
theorem v_iadd {i j : Int} (k : Q (.int (i + j)) H) : iAdd (.int i) (.int j) H Q := .inl ⟨i, j, rfl, rfl, k⟩
theorem v_isub {i j : Int} (k : Q (.int (i - j)) H) : iSub (.int i) (.int j) H Q := ⟨i, j, rfl, rfl, k⟩
theorem v_imul {i j : Int} (h : CMul i j) (k : Q (.int (i * j)) H) : iMul (.int i) (.int j) H Q := ⟨i, j, rfl, rfl, h, k⟩
theorem v_idiv {i j : Int} (h : CDiv i j) (k : Q (.int (i / j)) H) : iDiv (.int i) (.int j) H Q := ⟨i, j, rfl, rfl, h, k⟩
theorem v_lt {i j : Int} (k : Q (.bl (decide (i < j))) H) : uLt (.int i) (.int j) H Q := ⟨i, j, rfl, rfl, k⟩
theorem v_le {i j : Int} (k : Q (.bl (decide (i <= j))) H) : uLe (.int i) (.int j) H Q := ⟨i, j, rfl, rfl, k⟩
theorem v_gt {i j : Int} (k : Q (.bl (decide (j < i))) H) : uGt (.int i) (.int j) H Q := ⟨i, j, rfl, rfl, k⟩
theorem v_ge {i j : Int} (k : Q (.bl (decide (j <= i))) H) : uGe (.int i) (.int j) H Q := ⟨i, j, rfl, rfl, k⟩
theorem v_eqI {i j : Int} (k : Q (.bl (decide (i = j))) H) : uEq K (.int i) (.int j) H Q := .inl ⟨rfl, by
 have e : decide (V.int i = V.int j) = decide (i = j) := decide_eq_decide.mpr ⟨λ h => V.int.inj h, λ h => by rw [h]⟩
 rw [e]
 exact k⟩
theorem v_neI {i j : Int} (k : Q (.bl (!decide (i = j))) H) : uNe K (.int i) (.int j) H Q := .inl ⟨rfl, by
 have e : decide (V.int i = V.int j) = decide (i = j) := decide_eq_decide.mpr ⟨λ h => V.int.inj h, λ h => by rw [h]⟩
 rw [e]
 exact k⟩
theorem v_eqS {i j : Str} (k : Q (.bl (decide (i = j))) H) : uEq K (.str i) (.str j) H Q := .inl ⟨rfl, by
 have e : decide (V.str i = V.str j) = decide (i = j) := decide_eq_decide.mpr ⟨λ h => V.str.inj h, λ h => by rw [h]⟩
 rw [e]
 exact k⟩
theorem v_eqB {i j : Bool} (k : Q (.bl (decide (i = j))) H) : uEq K (.bl i) (.bl j) H Q := .inl ⟨rfl, by
 have e : decide (V.bl i = V.bl j) = decide (i = j) := decide_eq_decide.mpr ⟨λ h => V.bl.inj h, λ h => by rw [h]⟩
 rw [e]
 exact k⟩
theorem v_neB {i j : Bool} (k : Q (.bl (!decide (i = j))) H) : uNe K (.bl i) (.bl j) H Q := .inl ⟨rfl, by
 have e : decide (V.bl i = V.bl j) = decide (i = j) := decide_eq_decide.mpr ⟨λ h => V.bl.inj h, λ h => by rw [h]⟩
 rw [e]
 exact k⟩
theorem v_eqD {x y : V} {d e : PyData} (h1 : Dp K H x d) (h2 : Dp K H y e) (s1 : SeqAt.shaped d = true) (s2 : SeqAt.shaped e = true) (k : Q (.bl (PyData.eqv d e)) H) : uEq K x y H Q := .inr ⟨d, e, h1, h2, s1, s2, k⟩
theorem v_neD {x y : V} {d e : PyData} (h1 : Dp K H x d) (h2 : Dp K H y e) (s1 : SeqAt.shaped d = true) (s2 : SeqAt.shaped e = true) (k : Q (.bl (!PyData.eqv d e)) H) : uNe K x y H Q := .inr ⟨d, e, h1, h2, s1, s2, k⟩
theorem v_ixL {p : Addr} {xs : List V} {i : Int} {v : V} (h : SqL K H p xs) (ha : atI xs i = some v) (k : Q v H) : uIx K (.ref p) (.int i) H Q := .inl ⟨p, xs, i, v, rfl, rfl, h, ha, k⟩
theorem v_ixT {p : Addr} {xs : List V} {i : Int} {v : V} (h : SqT K H p xs) (ha : atI xs i = some v) (k : Q v H) : uIx K (.ref p) (.int i) H Q := .inr (.inl ⟨p, xs, i, v, rfl, rfl, h, ha, k⟩)
theorem v_get {p : Addr} {xs : List V} {n : Int} {v : V} (h : SqL K H p xs) (h0 : 0 <= n) (ha : xs[n.toNat]? = some v) (k : Q v H) : gIx K (.ref p) (.int n) H Q := .inl ⟨p, xs, n, v, rfl, rfl, h, h0, ha, k⟩
theorem ixN_int {n : Nat} {i : Int} (h0 : 0 <= i) (h1 : i < n) : ixN n i = some i.toNat := by
 unfold ixN
 rw [if_pos h0, if_pos h1]
theorem atI_int {α : Type} {xs : List α} {i : Int} {v : α} (h0 : 0 <= i) (h : xs[i.toNat]? = some v) : atI xs i = some v := by
 have hl := (List.getElem?_eq_some_iff.mp h).1
 unfold atI
 rw [ixN_int h0 (by omega)]
 exact h
theorem atI_ints {ns : List Int} {i : Int} (h0 : 0 <= i) (h1 : i < ns.length) : atI (ns.map V.int) i = some (.int (ns.getD i.toNat 0)) := by
 refine atI_int h0 ?_
 have hl : i.toNat < ns.length := by omega
 rw [List.getElem?_map, List.getElem?_eq_getElem hl, List.getD_eq_getElem?_getD, List.getElem?_eq_getElem hl]
 rfl
theorem v_set {p : Addr} {xs : List V} {n : Int} {j : Nat} {v : V} {Q : Hp -> Prop} (S : M Rs H) (i : Nat) (e : Rs[i]? = some (pt p (.lst xs))) (hj : ixN xs.length n = some j) (k : ∀ H', M (Rs.set i (pt p (.lst (xs.set j v)))) H' -> Q H') :
   uSet (.ref p) (.int n) v H Q := .inl ⟨p, xs, n, j, rfl, rfl, S.got i e, hj, k _ (S.putAt i e)⟩
theorem v_catS {a b : Addr} {xs ys : List V} (S : M Rs H) (h1 : SqL K H a xs) (h2 : SqL K H b ys) (hz : xs.length + ys.length <= 100000) (k : ∀ p H', M (pt p (.lst (xs ++ ys)) :: Rs) H' -> Q (.ref p) H') : uAdd K (.ref a) (.ref b) H Q :=
 .inr (.inr (.inl ⟨a, b, xs, ys, rfl, rfl, h1, h2, Nat.le_trans hz (by decide), λ p hp => k p _ (S.new hp)⟩))
theorem v_slL {a : Addr} {xs : List V} {lo hi : Option Int} (S : M Rs H) (h : SqL K H a xs) (k : ∀ p H', M (pt p (.lst (cutV xs lo hi)) :: Rs) H' -> Q (.ref p) H') : uSl K (.ref a) lo hi H Q :=
 .inl ⟨a, xs, rfl, h, λ p hp => k p _ (S.new hp)⟩
def RevK (K : Fr) (Q : VK) : VK := λ x H1 => ∃ a xs, x = .ref a /\ SqL K H1 a xs /\ ∀ p, H1 p = none -> Q (.ref p) (upd H1 p (.lst xs.reverse))
theorem g_rev (k : te σ H (RevK K Q)) : tRevL K te σ H Q := k
theorem v_rev {a : Addr} {xs : List V} (S : M Rs H) (h : SqL K H a xs) (k : ∀ p H', M (pt p (.lst xs.reverse) :: Rs) H' -> Q (.ref p) H') : RevK K Q (.ref a) H :=
 ⟨a, xs, rfl, h, λ p hp => k p _ (S.new hp)⟩
theorem v_lenL {a : Addr} {xs : List V} (h : SqL K H a xs) (k : Q (.int (xs.length : Nat)) H) : uLen K [.ref a] H Q := .inl ⟨_, _, rfl, .inl ⟨xs, h, rfl⟩, k⟩
theorem g_bm {T : String} {r : V -> List V -> Hp -> VK -> Prop} {t : TA} (k : te σ H λ x H1 => tyV K T x H1 /\ t σ H1 λ xs H2 => r x xs H2 Q) : tBM K T r te t σ H Q := k
theorem g_bm0 {T : String} {r : V -> List V -> Hp -> VK -> Prop} (k : te σ H λ x H1 => tyV K T x H1 /\ r x [] H1 Q) : tBM0 K T r te σ H Q := k
theorem v_tyL {a : Addr} {xs : List V} {φ : Prop} (h : SqL K H a xs) (k : φ) : tyV K "list" (.ref a) H /\ φ := ⟨.inl ⟨rfl, xs, h⟩, k⟩
theorem v_app {p : Addr} {xs : List V} {v : V} (S : M Rs H) (i : Nat) (e : Rs[i]? = some (pt p (.lst xs))) (hz : xs.length < 100000) (k : ∀ H', M (Rs.set i (pt p (.lst (xs ++ [v])))) H' -> Q .non H') : rAppend (.ref p) [v] H Q :=
 ⟨p, xs, v, rfl, rfl, S.got i e, Nat.lt_of_lt_of_le hz (by decide), k _ (S.putAt i e)⟩
theorem v_ifD {c : Prop} [Decidable c] {A B : Prop} (h1 : c -> A) (h2 : ¬ c -> B) : if decide c = true then A else B := by
 by_cases h : c
 · rw [decide_eq_true h]
   exact h1 h
 · rw [decide_eq_false h]
   exact h2 h
theorem v_ifT {A B : Prop} (k : A) : if true = true then A else B := k
theorem v_ifF {A B : Prop} (k : B) : if false = true then A else B := k
end
end RC
namespace RC
open PySem PySem.Spec PyProof.Rows L2
def fdOf (K : Fr) (f : Addr) : FuncData := match K.lookup f with
 | some ⟨_, _, .func fd, _⟩ => fd
 | _ => PySem.W.fnOf "" "" ⟨[], [], none, [], [], none, []⟩ [] ⟨.function, [], false, false, []⟩ .none .none .none .none none .none .none
theorem fd_of {K : Fr} {x q : Str} {ar : Arguments} {bd : List Stmt} {sc : Scope} {dvs : List V} {kws : List (Str × V)} {f : Addr} (h : ∃ fd, FunD K x q ar bd sc dvs kws f fd) : FunD K x q ar bd sc dvs kws f (fdOf K f) := by
 obtain ⟨fd, F⟩ := h
 have e : fdOf K f = fd := by
   obtain ⟨⟨oc, od, dV, kV, doc, pm, an, cdv, ct, osl, rfl, lk, _, _, _⟩, _⟩ := F
   unfold fdOf
   rw [lk]
 rw [e]
 exact F
def rdL (K : Fr) (a : Addr) (xs : List V) : Res := ⟨λ F l => l = [] /\ SqL K F a xs, λ _ _ _ e h => ⟨h.1, e.sqL h.2⟩⟩
theorem M.start {K : Fr} {H : Hp} {a : Addr} {xs : List V} (h : SqL K H a xs) : M [rdL K a xs] H :=
 ⟨H, [], ⟨[], [], rfl, ⟨rfl, h⟩, rfl⟩, ⟨Ext.refl H, (λ _ h => nomatch h), List.nodup_nil⟩⟩
theorem M.gotR {K : Fr} {Rs : List Res} {H : Hp} {a : Addr} {xs : List V} (h : M Rs H) (i : Nat) (e : Rs[i]? = some (rdL K a xs)) : SqL K H a xs := by
 obtain ⟨F, L, ⟨l1, l2, rfl, ⟨_, q⟩, b⟩, m⟩ := h.at i e
 exact m.ex.sqL q
def Ent (Rs : List Res) (φ : Hp -> Prop) : Prop := ∀ H, M Rs H -> φ H
def rAbs : List V -> Hp -> VK -> Prop := λ xs H Q => ∃ i, xs = [.int i] /\ Q (.int (if i < 0 then -i else i)) H
theorem cr_abs {X : Cx} : CallR X (.builtin "abs") rAbs := call_abs
def rListOf (K : Fr) : List V -> Hp -> VK -> Prop := λ xs H Q => ∃ p ys, xs = [.ref p] /\ (SqL K H p ys \/ SqT K H p ys) /\ ∀ l, H l = none -> Q (.ref l) (upd H l (.lst ys))
theorem cr_list {X : Cx} : CallR X (.type "list") (rListOf X.K) := call_list_of
theorem v_abs {i : Int} {H : Hp} {Q : VK} (k : Q (.int (if i < 0 then -i else i)) H) : rAbs [.int i] H Q := ⟨i, rfl, k⟩
theorem v_list {K : Fr} {Rs : List Res} {H : Hp} {Q : VK} {a : Addr} {xs : List V} (S : M Rs H) (h : SqL K H a xs \/ SqT K H a xs) (k : ∀ p H', M (pt p (.lst xs) :: Rs) H' -> Q (.ref p) H') : rListOf K [.ref a] H Q :=
 ⟨a, xs, rfl, h, λ p hp => k p _ (S.new hp)⟩
def rIsN : R2 := λ x y H Q => y = .non /\ Q (.bl (decide (x = .non))) H
def rNotN : R2 := λ x y H Q => y = .non /\ Q (.bl (!decide (x = .non))) H
end RC
namespace RC
open PySem PySem.Spec PyProof.Rows L2
def ForW (J : It) (g : TG) (tb : TS) (D : Ends) (σ : L2.St) (H1 : Hp) : Prop := ∃ W : Nat -> Nat -> L2.St -> Hp -> Prop, (∃ m, W 0 m σ H1) /\ ∀ i m σ H, W i m σ H ->
 (J.stop i H /\ D.nx σ H) \/ (J.go i H /\ ∃ N : L2.St -> Hp -> Prop, (∀ σ' H', N σ' H' -> ∃ m', m' < m /\ W (i + 1) m' σ' H') /\ ∀ x H', J.yld i H x H' -> g x σ H' λ σ2 H2 => tb { D with nx := N, ct := N, bk := D.nx } σ2 H2)
def LcW (J : It) (g : TG) (tt : TT) (te : TE) (vs : List Nat) (σ : L2.St) (Q : VK) (H1 : Hp) : Prop := ∀ D, H1 D = none -> ∃ W : Nat -> Nat -> Hp -> Prop, (∃ m, W 0 m (upd H1 D (.lst []))) /\ ∀ i m H, W i m H ->
 (J.stop i H /\ Q (.ref D) H) \/ (J.go i H /\ ∃ Nx : Hp -> Prop, (∀ H', Nx H' -> ∃ m', m' < m /\ W (i + 1) m' H') /\ ∀ x H', J.yld i H x H' -> g x (wipe σ vs) H' λ σ2 H2 => wipe σ2 vs = wipe σ vs /\ tt σ2 H2 λ b H3 =>
   if b = true then te σ2 H3 λ y H4 => ∃ acc, H4 D = some (.lst acc) /\ acc.length < sizeLine /\ Nx (upd H4 D (.lst (acc ++ [y]))) else Nx H3)
section
variable {K : Fr} {σ : L2.St} {H : Hp} {Q : VK} {D : Ends} {tb : TS} {te tl : TE} {ta : TA} {tt : TT} {g : TG} {vs : List Nat} {wi : TI} {J : It} {R : It -> Hp -> Prop} {a : Addr} {xs : List V} {Rs : List Res}
theorem g_for (k : wi σ H λ J H1 => ForW J g tb D σ H1) : tFor wi g tb D σ H := k
theorem g_lc (k : wi σ H λ J H1 => LcW J g tt te vs σ Q H1) : tLc wi g tt te vs σ H Q := k
def ItL (K : Fr) (R : It -> Hp -> Prop) : VK := λ x H1 => ∃ a, x = .ref a /\ (∃ xs, SqL K H1 a xs) /\ R (Itl K a) H1
def ItR (R : It -> Hp -> Prop) : List V -> Hp -> Prop := λ vs H1 => ∃ j : Int, vs = [.int j] /\ -(2 ^ 62) <= j /\ j < 2 ^ 62 /\ R (Itr 0 j.toNat) H1
def ItV (K : Fr) (R : It -> Hp -> Prop) : List V -> Hp -> Prop := λ vs H1 => ∃ (a : Addr) (xs : List V), vs = [.ref a] /\ SqL K H1 a xs /\ R (Itv K a xs.length) H1
theorem g_iList (k : tl σ H (ItL K R)) : iList K tl σ H R := k
theorem v_itL (h : SqL K H a xs) (k : R (Itl K a) H) : ItL K R (.ref a) H := ⟨a, rfl, ⟨xs, h⟩, k⟩
theorem g_iRng1 (k : ta σ H (ItR R)) : iRng1 ta σ H R := k
theorem v_itR {j : Int} (h : -(2 ^ 62) <= j /\ j < 2 ^ 62) (k : R (Itr 0 j.toNat) H) : ItR R [V.int j] H := ⟨j, rfl, h.1, h.2, k⟩
theorem g_iRev (k : ta σ H (ItV K R)) : iRev K ta σ H R := k
theorem for_W {n : Nat} {G : Hp -> Prop} {Y : Nat -> Hp -> V -> Hp -> Prop} (w : Walk J n G Y) (Pv : Nat -> L2.St -> Hp -> Prop) (h0 : Pv 0 σ H) (hG : ∀ i σ H, i <= n -> Pv i σ H -> G H)
   (hs : ∀ i x σ H H', i < n -> Pv i σ H -> Y i H x H' -> g x σ H' λ σ2 H2 => tb { D with nx := Pv (i + 1), ct := Pv (i + 1), bk := D.nx } σ2 H2) (hd : ∀ σ H, Pv n σ H -> D.nx σ H) : ForW J g tb D σ H := for_it w Pv h0 hG hs hd
def PvM (P : Nat -> List V -> Prop) (E : Addr) (Rs : List Res) (i : Nat) (H : Hp) : Prop := ∃ acc, P i acc /\ M (pt E (.lst acc) :: Rs) H
def LcK (N : Hp -> Prop) (E : Addr) : VK := λ y H4 => ∃ acc, H4 E = some (.lst acc) /\ acc.length < sizeLine /\ N (upd H4 E (.lst (acc ++ [y])))
theorem lc_W {n : Nat} {G : Hp -> Prop} {Y : Nat -> Hp -> V -> Hp -> Prop} (w : Walk J n G Y) (S : M Rs H) (P : Nat -> List V -> Prop) (h0 : P 0 []) (hG : ∀ H, M Rs H -> G H)
   (hs : ∀ i x acc E H H', i < n -> P i acc -> M (pt E (.lst acc) :: Rs) H -> Y i H x H' -> g x (wipe σ vs) H' λ σ2 H2 => wipe σ2 vs = wipe σ vs /\ tt σ2 H2 λ b H3 => if b = true then te σ2 H3 (LcK (PvM P E Rs (i + 1)) E) else PvM P E Rs (i + 1) H3)
   (hd : ∀ E acc H, P n acc -> M (pt E (.lst acc) :: Rs) H -> Q (.ref E) H) : LcW J g tt te vs σ Q H := by
 intro E hE
 refine lc_it w (PvM P E Rs) ⟨[], h0, S.new hE⟩ (λ i H _ ⟨acc, _, S⟩ => hG H S.tl) (λ i x H H' hi ⟨acc, hp, S⟩ y => hs i x acc E H H' hi hp S y) λ H ⟨acc, hp, S⟩ => hd E acc H hp S
theorem lc_next {N : Hp -> Prop} {E : Addr} {y : V} {acc : List V} (S : M Rs H) (i : Nat) (e : Rs[i]? = some (pt E (.lst acc))) (hz : acc.length < 100000) (k : ∀ H', M (Rs.set i (pt E (.lst (acc ++ [y])))) H' -> N H') : LcK N E y H :=
 ⟨acc, S.got i e, Nat.lt_of_lt_of_le hz (by decide), k _ (S.putAt i e)⟩
theorem g_yes {Q : Bool -> Hp -> Prop} (k : Q true H) : tYes σ H Q := k
theorem g_name {i : Nat} {v : V} {Q : L2.St -> Hp -> Prop} (k : Q (σ.set i (some v)) H) : gName i v σ H Q := k
end
theorem ints_get {ns : List Int} {i : Nat} {x : V} (h : (ns.map V.int)[i]? = some x) : ∃ n, ns[i]? = some n /\ x = .int n := by
 rw [List.getElem?_map] at h
 cases e : ns[i]? with
 | none =>
   rw [e] at h
   cases h
 | some n =>
   rw [e] at h
   exact ⟨n, rfl, (Option.some.inj h).symm⟩
end RC
namespace RC
open PySem PySem.Spec PyProof.Rows L2
theorem cut_to (xs : List V) (k : Nat) : cutV xs none (some (k : Int)) = xs.take k := by
 unfold cutV
 rw [HT.sIx_none, HT.sIx_nat, List.drop_zero, Nat.sub_zero]
 rcases Nat.le_total k xs.length with h | h
 · rw [Nat.min_eq_left h]
 · rw [Nat.min_eq_right h, List.take_of_length_le (Nat.le_refl _), List.take_of_length_le h]
theorem g_wipe {a b : L2.St} {φ : Prop} (h : a = b) (k : φ) : a = b /\ φ := ⟨h, k⟩
end RC
namespace RC
open PySem PySem.Spec PyProof.Rows L2
def AllI (P : Int -> Prop) : List V -> Prop
 | [] => True
 | .int n :: r => P n /\ AllI P r
 | _ => False
theorem AllI.get {P : Int -> Prop} : ∀ {xs : List V}, AllI P xs -> ∀ {j : Nat}, j < xs.length -> ∃ n, P n /\ xs[j]? = some (.int n)
 | [], _, j, h => absurd h (Nat.not_lt_zero _)
 | .int n :: r, h, 0, _ => ⟨n, h.1, rfl⟩
 | .int n :: r, h, j + 1, hj => by
   obtain ⟨m, a, b⟩ := AllI.get h.2 (Nat.lt_of_succ_lt_succ hj)
   exact ⟨m, a, by simpa using b⟩
 | .non :: _, h, _, _ => h.elim
 | .bl _ :: _, h, _, _ => h.elim
 | .str _ :: _, h, _, _ => h.elim
 | .byt _ :: _, h, _, _ => h.elim
 | .flt _ :: _, h, _, _ => h.elim
 | .ref _ :: _, h, _, _ => h.elim
 | .ty _ :: _, h, _, _ => h.elim
end RC
namespace RC
theorem v_ifNT {A B : Prop} (k : B) : if (!true) = true then A else B := k
theorem v_ifNF {A B : Prop} (k : A) : if (!false) = true then A else B := k
end RC
namespace RC
open PySem PySem.Spec PyProof.Rows L2
def Sub (Rs' Rs : List Res) : Prop := ∀ F L, Sat F Rs L -> ∃ L1 L2, L.Perm (L1 ++ L2) /\ Sat F Rs' L1
theorem Sub.refl (Rs : List Res) : Sub Rs Rs := λ _ L h => ⟨L, [], by rw [List.append_nil], h⟩
theorem Sub.nil (Rs : List Res) : Sub [] Rs := λ _ L _ => ⟨[], L, .refl _, rfl⟩
theorem Sub.cons {Rs Rs' : List Res} {R : Res} (i : Nat) (e : Rs[i]? = some R) (h : Sub Rs' (Rs.eraseIdx i)) : Sub (R :: Rs') Rs := by
 intro F L s
 obtain ⟨L0, p0, l1, l2, rfl, a, b⟩ := s.perm (perm_at i e)
 obtain ⟨L1, L2, p1, c⟩ := h F l2 b
 refine ⟨l1 ++ L1, L2, p0.trans ?_, l1, L1, rfl, a, c⟩
 rw [List.append_assoc]
 exact p1.append_left l1
theorem Sub.tl {Rs Rs' : List Res} {R : Res} (h : Sub Rs' Rs) : Sub Rs' (R :: Rs) := by
 rintro F L ⟨l1, l2, rfl, a, b⟩
 obtain ⟨L1, L2, p1, c⟩ := h F l2 b
 refine ⟨L1, l1 ++ L2, (p1.append_left l1).trans ?_, c⟩
 rw [<- List.append_assoc, <- List.append_assoc]
 exact List.Perm.append_right _ List.perm_append_comm
theorem M.sub {Rs Rs' : List Res} {H : Hp} (q : Sub Rs' Rs) (h : M Rs H) : M Rs' H := by
 obtain ⟨F, L, a, m⟩ := h
 obtain ⟨L1, L2, p, b⟩ := q F L a
 have m2 := m.perm p
 refine ⟨F, L1, b, m2.ex, λ c hc => m2.own c (List.mem_append_left _ hc), ?_⟩
 have nd := m2.nd
 rw [List.map_append] at nd
 exact (List.nodup_append.mp nd).1
end RC
namespace RC
open PySem PySem.Spec PyProof.Rows L2
section
variable {X : Cx}
def rDIn : R2 := λ x y H Q => ∃ a o, y = .ref a /\ DGet H a x o /\ Q (.bl o.isSome) H
def rDNotIn : R2 := λ x y H Q => ∃ a o, y = .ref a /\ DGet H a x o /\ Q (.bl (!o.isSome)) H
theorem op_din (hu : X.A.units + 1 < cLine) : OpR X (compareOp .In) rDIn := by
 intro pins s σ H x y v u Q I rx ry h
 obtain ⟨a, o, rfl, g, q⟩ := h
 cases (show u = Value.ref a from ry)
 exact d_in hu I g rx λ s' I' => ⟨.bl o.isSome, H, I', rfl, q⟩
theorem op_dnotin (hu : X.A.units + 1 < cLine) : OpR X (compareOp .NotIn) rDNotIn := by
 intro pins s σ H x y v u Q I rx ry h
 obtain ⟨a, o, rfl, g, q⟩ := h
 cases (show u = Value.ref a from ry)
 exact d_notIn hu I g rx λ s' I' => ⟨.bl (!o.isSome), H, I', rfl, q⟩
def rInS : R2 := λ x y H Q => ∃ i j, x = .str i /\ y = .str j /\ Q (.bl (!(Builtin.Str.occurrences j i 0 j.length 1).isEmpty)) H
def rNotInS : R2 := λ x y H Q => ∃ i j, x = .str i /\ y = .str j /\ Q (.bl (!(!(Builtin.Str.occurrences j i 0 j.length 1).isEmpty))) H
def uIn (K : Fr) : R2 := λ x y H Q => rIn K false x y H Q \/ rInD K x y H Q \/ rDIn x y H Q \/ rInS x y H Q
def uNotIn (K : Fr) : R2 := λ x y H Q => rIn K true x y H Q \/ rNotInD K x y H Q \/ rDNotIn x y H Q \/ rNotInS x y H Q
theorem op_isN' : OpR X (compareOp .Is) rIsN := op_isN
end
section
variable {K : Fr} {σ : L2.St} {H : Hp} {Q : VK} {D : Ends} {Rs : List Res} {E : XK}
theorem v_neg {i : Int} (k : Q (.int (-i)) H) : rU (λ i => .int (-i)) (.int i) H Q := ⟨i, rfl, k⟩
theorem v_isN {x : V} (k : Q (.bl (decide (x = .non))) H) : rIsN x .non H Q := ⟨rfl, k⟩
theorem v_notN {x : V} (k : Q (.bl (!decide (x = .non))) H) : rNotN x .non H Q := ⟨rfl, k⟩
theorem g_par {i j : Nat} {ta : TA} (k : ta σ H λ vs H1 => ∃ v w, vs = [v, w] /\ D.nx ((σ.set i (some v)).set j (some w)) H1) : tPar i j ta D σ H := k
theorem v_two {x y : V} {P : V -> V -> Prop} (k : P x y) : ∃ v w, [x, y] = [v, w] /\ P v w := ⟨x, y, rfl, k⟩
theorem g_callN {n m : Nat} {sp : Sp} {gV : List V -> List V -> List V} {t tk : TA} (k : t σ H λ vs H1 => tk σ H1 λ zs H2 => vs.length = n /\ zs.length = m /\ sp (gV vs zs) H2 Q E) : tCallN n m sp gV E t tk σ H Q := k
theorem v_lens {a b : List V} {n m : Nat} {P : Prop} (h1 : a.length = n) (h2 : b.length = m) (k : P) : a.length = n /\ b.length = m /\ P := ⟨h1, h2, k⟩
theorem g_gtup {n : Nat} {t : TGs} {a : Addr} {xs : List V} {Q : L2.St -> Hp -> Prop} (h : SqT K H a xs) (hn : xs.length = n) (k : t xs σ H Q) : gTup K n t (.ref a) σ H Q := ⟨a, xs, rfl, h, hn, k⟩
theorem g_gnil {Q : L2.St -> Hp -> Prop} (k : Q σ H) : gNil [] σ H Q := ⟨rfl, k⟩
theorem g_gcons {t : TG} {u : TGs} {v : V} {r : List V} {Q : L2.St -> Hp -> Prop} (k : t v σ H λ σ' H' => u r σ' H' Q) : gCons t u (v :: r) σ H Q := ⟨v, r, rfl, k⟩
end
end RC
namespace RC
open PySem PySem.Spec PyProof.Rows L2
theorem lc_X {H : Hp} {σ : L2.St} {Q : VK} {te : TE} {tt : TT} {g : TG} {vs : List Nat} {J : It} {n : Nat} {G : Hp -> Prop} {Y : Nat -> Hp -> V -> Hp -> Prop} (w : Walk J n G Y) (Pv : Addr -> Nat -> Hp -> Prop) (h0 : ∀ E, H E = none -> Pv E 0 (upd H E (.lst [])))
   (hG : ∀ E i H, i <= n -> Pv E i H -> G H)
   (hs : ∀ E i x H H', i < n -> Pv E i H -> Y i H x H' -> g x (wipe σ vs) H' λ σ2 H2 => wipe σ2 vs = wipe σ vs /\ tt σ2 H2 λ b H3 => if b = true then te σ2 H3 (LcK (Pv E (i + 1)) E) else Pv E (i + 1) H3)
   (hd : ∀ E H, Pv E n H -> Q (.ref E) H) : LcW J g tt te vs σ Q H := by
 intro E hE
 exact lc_it w (Pv E) (h0 E hE) (hG E) (hs E) (hd E)
end RC
namespace RC
open PySem PySem.Spec PyProof.Rows L2
section
variable {K : Fr} {σ : L2.St} {H : Hp} {Q : VK} {D : Ends} {Rs : List Res}
theorem v_pow {i j : Int} (h : 0 <= j /\ j <= 1000000 /\ i.natAbs < 2 ^ 64) (k : Q (.int (i ^ j.toNat)) H) : uPow (.int i) (.int j) H Q := ⟨i, j, rfl, rfl, h, k⟩
def WhW (c : TT) (tb : TS) (D : Ends) (σ : L2.St) (H : Hp) : Prop := ∃ W : Nat -> L2.St -> Hp -> Prop, (∃ m, W m σ H) /\ ∀ m σ H, W m σ H ->
 c σ H λ b H1 => if b = true then ∃ N : L2.St -> Hp -> Prop, (∀ σ' H', N σ' H' -> ∃ m', m' < m /\ W m' σ' H') /\ tb { D with nx := N, ct := N, bk := D.nx } σ H1 else D.nx σ H1
theorem g_while {c : TT} {tb : TS} (k : WhW c tb D σ H) : tWhile c tb D σ H := k
end
end RC

namespace RC
open PySem PySem.Spec PyProof.Rows L2
theorem pas0 {X : Cx} {σ : L2.St} {E : XK} : PassesAt CX0 X σ E := λ _ _ _ _ _ _ z => z.elim
section
variable {X : Cx} {g : Bool} {CX : CXT} {k n : Nat} {f C : Addr} {fd : FuncData} {ps ps' ks : List Str} {sp : Sp} {ds : List Value} {dvs : List V} {W : WX} {x m : Str} {p pos apos : Pos} {e o : Expr} {es : List Expr} {ta : TE} {t : TA}
theorem ended {pins : List (Addr × Obj)} {σ : L2.St} {H : Hp} {s : Shared} {Q : VK} {E : XK} {c : Code} (I : Inv X pins σ H s) (hx : PassesAt CX X σ E) (h : codeAny (model X.prog X.w) X.A c (CR CX X.stack X.prog X.w H s Q E) s) :
   codeAny (model X.prog X.w) X.A c (λ r s' => match r with | .ok (.ret u) => EP X pins σ Q u s' | .ok _ => False | .error u => X.xe u s') s := by
 refine codeAny_mono h λ res s' hq => ?_
 match res, hq with
 | .error u, hq => exact hx pins H s u s' I hq
 | .ok (.ret u), hq => exact I.after hq
 | .ok .next, hq => cases hq
 | .ok .brk, hq => cases hq
 | .ok .cont, hq => cases hq
theorem runW {pins : List (Addr × Obj)} {σ : L2.St} {H : Hp} {s : Shared} {Q : VK} {E : XK} {us : List Value} {vs : List V} (F : FnX g X.prog X.w X.K X.mg X.base CX k f fd ps sp) (hg : g = true -> X.A.guards = some []) (hr : Room k X.A)
   (hb : Binds X.K fd ps ds) (hd : Vals dvs ds) (hx : PassesAt CX X σ E) (I : Inv X pins σ H s) (r : Vals vs us) (h : sp (vs ++ dvs) H Q E) :
   wpAny (model X.prog X.w) X.A (call (.ref f) us) (EP X pins σ Q) X.xe s := by
 have rr : Vals (vs ++ dvs) (us ++ ds) := r.append hd
 have ll : (us ++ ds).length = ps.length := rr.length.symm.trans (F.lenG _ _ _ _ h)
 have go := ended I hx (F.runG X.A X.stack s H ⟨us, []⟩ _ (us ++ ds) (vs ++ dvs) Q E hg hr I.env0 (hb s us I.kIn ll) (.refl _) rr h)
 refine wpAny_call (codeAny_mono go λ res s' hq => ?_)
 match res, hq with
 | .error _, hq => exact hq
 | .ok (.ret _), hq => exact hq
def tCallW (W : WX) (sp : Sp) (dvs : List V) (t : TA) : TE := λ σ H Q => t σ H λ vs H1 => sp (vs ++ dvs) H1 Q (WE W σ)
def tMethW (W : WX) (C : Addr) (m : Str) (sp : Sp) (dvs : List V) (ta : TE) (t : TA) : TE := λ σ H Q => ta σ H λ x H1 => ∃ a dx fs, x = .ref a /\ H1 a = some (.ins C dx fs) /\ fs.lookup m = none /\ t σ H1 λ vs H2 => sp (x :: (vs ++ dvs)) H2 Q (WE W σ)
def tMakeW (W : WX) (C : Addr) (sp : Sp) (dvs : List V) (t : TA) : TE := λ σ H Q => t σ H λ vs H1 => ∀ x dx, H1 x = none -> H1 dx = none -> dx ≠ x ->
 sp (.ref x :: (vs ++ dvs)) (upd (upd H1 dx (.own x)) x (.ins C dx [])) (λ v H2 => v = .non /\ Q (.ref x) H2) (WE W σ)
end
end RC

namespace RC
open PySem PySem.Spec PyProof.Rows L2
structure XcB (K : Fr) (C : Addr) (B newId initId : String) (bmB : List Value) : Prop where
 fb : ExcBaseFacts B newId initId bmB
 sf : StoreFacts B bmB "object.__setattr__" "object"
 ini : PySem.W.excInitIn K C bmB newId = true
 ovr : PySem.W.excOver K C bmB = true
 hd : PySem.W.hasDictIn K C = true
 sa : PySem.W.findIn K (.ref C) "__setattr__" = some (some (.builtin "object.__setattr__"))
 exC : PySem.W.subIn K (.ref C) (.type "BaseException") = some true
 tyC : PySem.W.typeIn K (.ref C) = some (.type "type")
 kC : PySem.W.keepIn K (.ref C) = true
section
variable {X : Cx} {pins : List (Addr × Obj)} {σ : L2.St} {H : Hp} {s : Shared} {a C : Addr} {f : Str} {y : V} {u : Value} {A : Around} {E : Value -> Shared -> Prop} {B newId initId : String} {bmB : List Value}
end
structure XcI (K : Fr) (D : Addr) (initId : String) : Prop where
 ga : PySem.W.specialIn K (.ref D) "__getattribute__" = some (some (.builtin "type.__getattribute__"))
 ty : PySem.W.typeIn K (.ref D) = some (.type "type")
 rd : PySem.W.readsIn K D (.type "type") = true
 fi : PySem.W.findCls K (.ref D) (.type "type") "__init__" = some (.val (.builtin initId))
section
variable {X : Cx} {o e : Expr} {es : List Expr} {to te : TE} {ta : TA} {f P : Str} {p p' p1 p2 pos : Pos} {C D : Addr} {initId : String}
end
end RC

namespace RC
open PySem PySem.Spec PyProof.Rows L2
def tRz (W : WX) (C : Addr) (f : Str) (te : TE) : TS := λ _ σ H => te σ H λ v H1 => ∀ d, H1 d = none -> W (.ref C) (some d) σ (upd H1 d (.xd [(f, v)]))
def TestOk (X : Cx) (t : Expr) (cs : List Value) : Prop := ∀ (a : Addr) (oe : Obj) (pn pins : List (Addr × Obj)) (σ : L2.St) (H : Hp) (s : Shared) (cls : Value) (b : Bool) (Q : Bool -> Shared -> Prop) (E : Value -> Shared -> Prop),
 Inv (X.suite a ((a, oe) :: pn)) pins σ H s -> PySem.W.Looks (model X.prog X.w) s.heap (typeOf (.ref a)) cls -> PySem.W.exmAny X.K cls cs = some b ->
   (∀ h', (∀ q o, s.heap.get? q = some o -> h'.get? q = some o) -> Q b { s with heap := h' }) ->
     wpAny (model X.prog X.w) (X.A.mark (some (.ref a))) (eval t X.env) (λ c s1 => wpAny (model X.prog X.w) (X.A.mark (some (.ref a))) (excMatches (.ref a) c) Q E s1) E s
section
variable {X : Cx} {x1 x2 x3 : Str} {c1 c2 c3 : Value} {p1 p2 p3 tp : Pos} {kk : Nat}
end
structure Hd where
 cs : List Value
 sl : Option Nat
 ts : Addr -> Value -> Option Addr -> TS
def Hd.put (σ : L2.St) (a : Addr) : Option Nat -> L2.St
 | none => σ
 | some i => σ.set i (some (.ref a))
def Hd.ends (D : Ends) : Option Nat -> Ends
 | none => D
 | some i => { nx := λ σ' H' => D.nx (σ'.set i none) H', rt := D.rt, bk := λ σ' H' => D.bk (σ'.set i none) H', ct := λ σ' H' => D.ct (σ'.set i none) H' }
def wTry (K : Fr) (W : WX) (D : Ends) : List Hd -> WX
 | [] => W
 | h :: r => λ cls d σ H => ∃ b, PySem.W.exmAny K cls h.cs = some b /\ (b = true -> ∀ a, H a = none -> h.ts a cls d (Hd.ends D h.sl) (Hd.put σ a h.sl) H) /\ (b = false -> wTry K W D r cls d σ H)
inductive HdOk (X : Cx) : List ExceptHandler -> List Hd -> Prop
 | nil : HdOk X [] []
 | plain {t : Expr} {cs : List Value} {ts : Addr -> Value -> Option Addr -> TS} {b₀ : Stmt} {suite : List Stmt} {pos : Pos} {hds : List ExceptHandler} {l : List Hd} (ht : TestOk X t cs)
     (hsu : ∀ (a : Addr) (oe : Obj) (cls : Value) (d : Option Addr) (pn : List (Addr × Obj)), Zc cls d oe -> (∃ vs, oe.data = .fields vs) -> PSs (X.suite a ((a, oe) :: pn)) (b₀ :: suite) (ts a cls d)) (r : HdOk X hds l) :
     HdOk X (.ExceptHandler (some t) none (b₀ :: suite) pos :: hds) (⟨cs, none, ts⟩ :: l)
 | named {t : Expr} {cs : List Value} {n : Str} {i : Nat} {ts : Addr -> Value -> Option Addr -> TS} {b₀ : Stmt} {suite : List Stmt} {pos : Pos} {hds : List ExceptHandler} {l : List Hd} (ht : TestOk X t cs) (hi : X.N[i]? = some n) (hln : X.env.kindOf n = some .local)
     (hsu : ∀ (a : Addr) (oe : Obj) (cls : Value) (d : Option Addr) (pn : List (Addr × Obj)), Zc cls d oe -> (∃ vs, oe.data = .fields vs) -> PSs (X.suite a ((a, oe) :: pn)) (b₀ :: suite) (ts a cls d)) (r : HdOk X hds l) :
     HdOk X (.ExceptHandler (some t) (some n) (b₀ :: suite) pos :: hds) (⟨cs, some i, ts⟩ :: l)
section
variable {X : Cx} {body : List Stmt} {h₀ : ExceptHandler} {hds : List ExceptHandler} {l : List Hd} {pos : Pos} {tb : WX -> TS} {W : WX}
end
end RC

namespace RC
open PySem PySem.Spec PyProof.Rows L2
def tXg (K : Fr) (a : Addr) (cls : Value) (d : Option Addr) (n : Str) (te : TE) : TE := λ σ H Q => te σ H λ x H1 => x = .ref a /\ ∃ D dd fs v, cls = .ref D /\ ExcC K D /\ PySem.W.findIn K (.ref D) n = some none /\ d = some dd /\ H1 dd = some (.xd fs) /\ fs.lookup n = some v /\ Q v H1
section
variable {X : Cx} {a D : Addr} {oe : Obj} {cls : Value} {d : Option Addr}
end
structure FnE (P : Program) (w : World) (K : Fr) (mg : Str -> Option Value) (base : Heap) (k : Nat) (f : Addr) (fd : FuncData) (x : Str) (sp : Addr -> Value -> Option Addr -> Hp -> VK -> Prop) : Prop where
 run : ∀ (A : Around) (outer : List Env) (s : Shared) (H : Hp) (args : Args) (Q : VK) (a : Addr) (oe : Obj) (cls : Value) (d : Option Addr), L2H.RoomH k A -> Zc cls d oe -> (∃ vs, oe.data = .fields vs) -> L2H.PinOk outer H s (a, oe) -> Env0 P w K mg base A outer s H ->
   BindsTo s fd args [(x, .ref a)] -> sp a cls d H Q -> codeAny (model P w) A (.call (.ref f) args) (CR CX0 outer P w H s Q E0) s
def tCallE (a : Addr) (cls : Value) (d : Option Addr) (sp : Addr -> Value -> Option Addr -> Hp -> VK -> Prop) (te : TE) : TE := λ σ H Q => te σ H λ x H1 => x = .ref a /\ sp a cls d H1 Q
def obsF (fa : List (Fr -> Bool)) (fn : List He.DefD) (K : Fr) : He.AlD := ((fa.all λ f => f K) && fn.all λ d => d.ok K, fn.map λ d => He.fnW K d.at_)
def SaysF (fa : List (Fr -> Bool)) (fn : List He.DefD) (K : Fr) : Prop := obsF fa fn K = He.valD fn
section
variable {fa : List (Fr -> Bool)} {fn : List He.DefD} {K : Fr}
theorem SaysF.fact (c : SaysF fa fn K) (i : Nat) {f : Fr -> Bool} (h : fa[i]? = some f := by rfl) : f K = true := by
 have c1 : ((fa.all λ f => f K) && fn.all λ d => d.ok K) = true := congrArg (λ z : He.AlD => z.1) c
 exact List.all_eq_true.mp (Bool.and_eq_true_iff.mp c1).1 f (List.mem_of_getElem? h)
theorem SaysF.def_ (c : SaysF fa fn K) (i : Nat) {d : He.DefD} (h : fn[i]? = some d := by rfl) : ∃ fd, FunD K d.name d.qual d.params d.body d.scope (d.dvs K) (d.kws K) (He.fAd K d.at_) fd := by
 have c1 : ((fa.all λ f => f K) && fn.all λ d => d.ok K) = true := congrArg (λ z : He.AlD => z.1) c
 have e : fn.map (λ d => He.fnW K d.at_) = fn.map He.DefD.val := congrArg (λ z : He.AlD => z.2) c
 have e2 : (fn.map λ d => He.fnW K d.at_)[i]? = (fn.map He.DefD.val)[i]? := by rw [e]
 rw [List.getElem?_map, List.getElem?_map, h] at e2
 exact He.DefD.funD (Option.some.inj e2) (List.all_eq_true.mp (Bool.and_eq_true_iff.mp c1).2 d (List.mem_of_getElem? h))
end
end RC

theorem L2H.RoomH.units {k : Nat} {A : PySem.Around} (r : L2H.RoomH k A) : A.units + 64 < PySem.cLine := by
 have := r.un
 omega
theorem L2H.RoomH.u65 {k : Nat} {A : PySem.Around} (r : L2H.RoomH k A) : A.units + 65 < PySem.cLine := by
 have := r.un
 omega
theorem L2H.RoomH.u1 {k : Nat} {A : PySem.Around} (r : L2H.RoomH k A) : A.units + 1 < PySem.cLine := by
 have := r.un
 omega
theorem L2.Room.u65 {k : Nat} {A : PySem.Around} (r : L2.Room k A) : A.units + 65 < PySem.cLine := by
 have := r.un
 omega
theorem L2.Room.u1 {k : Nat} {A : PySem.Around} (r : L2.Room k A) : A.units + 1 < PySem.cLine := by
 have := r.un
 omega
namespace RC
open PySem PySem.Spec PyProof.Rows L2
section
variable {X : Cx}
theorem uo_inU (hu : X.A.units + 65 < cLine) : OpR X (compareOp .In) (uIn X.K) := op_in_seq.or ((op_inD hu).or ((op_din (by omega)).or op_in_str))
theorem uo_notinU (hu : X.A.units + 65 < cLine) : OpR X (compareOp .NotIn) (uNotIn X.K) := op_notIn_seq.or ((op_notInD hu).or ((op_dnotin (by omega)).or op_notin_str))
def rIxK : R2 := λ x y H Q => ∃ a v, x = .ref a /\ DGet H a y (some v) /\ Q v H
end
abbrev mA (K : Fr) (c m : Str) : Addr := He.ma K (He.ga K c) m
def tTry (K : Fr) (W : WX) (tb : WX -> TS) (l : List Hd) : TS := λ D σ H => tb (wTry K W D l) D σ H
end RC

namespace RC
open PySem PySem.Spec PyProof.Rows L2
def setF (w : World) (b : Bool) : World := { w with params := { w.params with followText := λ s => if s = "special-get-raises" then b else w.params.followText s } }
theorem setF_eq (w : World) : setF w (w.params.followText "special-get-raises") = w := by
 obtain ⟨⟩ := w
 unfold setF
 congr
 dsimp only
 congr
 funext s
 split
 · rename_i e
   rw [e]
 · rfl
theorem bySetF {φ : World -> Prop} (hf : ∀ w, φ (setF w false)) (ht : ∀ w, φ (setF w true)) (w : World) : φ w := by
 have k : ∀ b, φ (setF w b) := λ b => by
   cases b
   · exact hf w
   · exact ht w
 have := k (w.params.followText "special-get-raises")
 rwa [setF_eq] at this
def seenB (m a : Nat) : Bool := Nat.beq (Nat.land (Nat.shiftRight m a) 1) 1
def addNew {β : Type} : List Addr -> Nat -> List Addr -> (Nat -> List Addr -> β) -> β
 | [], m, acc, k => k m acc
 | a :: as, m, acc, k => match seenB m a with
   | true => addNew as m acc k
   | false => HandSHeadRun.frNat (Nat.lor m (Nat.shiftLeft 1 a)) λ m => addNew as m (a :: acc) k
def growB {β : Type} (g : Addr -> Option Obj) : List Addr -> Nat -> List Addr -> (Nat -> List Addr -> β) -> β
 | [], m, acc, k => k m acc
 | a :: as, m, acc, k => match g a with
   | some o => addNew (He.refsD o) m acc λ m acc => growB g as m acc k
   | none => growB g as m acc k
def levB (g : Addr -> Option Obj) : Nat -> List Addr -> Nat -> List Addr -> List Addr
 | 0, fr, _, all => all ++ fr
 | n + 1, fr, m, all => growB g fr m [] λ m f2 => levB g n f2 m (all ++ fr)
def startsB (g : Addr -> Option Obj) (n : Nat) : List Addr := levB g n [mainGlobals, cStatics] 0 []
def obsB (n : Nat) (fa : List (Fr -> Bool)) (fn : List He.DefD) (g : Addr -> Option Obj) : He.AlD := obsF fa fn (He.frG g (startsB g n))
def hookB (n : Nat) (fa : List (Fr -> Bool)) (fn : List He.DefD) : PySem.W.Hook where
 α := He.AlD
 obs := λ s => obsB n fa fn s.heap.get?
 val := λ _ => He.valD fn
 says := λ _ h => ∃ K : Fr, K.In h /\ SaysF fa fn K
 of := λ _ _ e => ⟨_, He.frG_in, e⟩
 keeps := λ _ _ _ ⟨K, hK, c⟩ k => ⟨K, PySem.W.Frag.In.keeps hK k, c⟩
theorem obsB_eq {n : Nat} {fa : List (Fr -> Bool)} {fn : List He.DefD} {g : Addr -> Option Obj} {s : Shared} (h : ∀ a, g a = s.heap.get? a) : obsB n fa fn g = (hookB n fa fn).obs s := by
 have e : g = s.heap.get? := funext h
 rw [e] <;> rfl
theorem mp3 {α β γ δ : Type} {x : Option α} {f : α -> β} {g : α -> γ} {h : α -> δ} {a : β} {b : γ} {c : δ} (h1 : x.map (λ s => (f s, g s)) = some (a, b)) (h2 : x.map h = some c) : x.map (λ s => (f s, g s, h s)) = some (a, b, c) := by
 cases x with
 | none => cases h1
 | some s =>
   cases h1
   cases h2
   rfl
section
open PySem.W PySem.Calls HandSHeadRun
theorem runEq {r : OpenRow} {q : Program} {H : Hook} {ob : SharedT -> H.α} {M : Nat} {loose : List PySem.Str} {w : World}
   (h1 : ∀ os, (endF (stepQ (denQ tabQ) r.prog w) M r.prog w os).map (λ s => (looksF r.prog (boot_heap w.params) s.abs, seenQ q loose (importedModules r.prog.main.body) (λ s => xlAt q [] s && recOk r.toRowW.records s) s.abs)) = some (true, openGood q loose))
   (h3 : ∀ os, (endF (stepQ (denQ tabQ) r.prog w) M r.prog w os).map (λ s => ob s) = some (H.val w)) : RunEq r q H ob M loose w := λ os => mp3 (h1 os) (h3 os)
end
end RC


namespace RC
open PySem PySem.Spec PyProof.Rows L2
open PyProof.Rows.KTD (tabLook)
def gtabB {δ : Type} (K : Fr) (x : Str) (L : δ -> Value -> Bool) (D : List (Str × δ)) : Bool := tabLook L (λ a => K.lookup a) (He.ga K x) D

def lTxts (K : Fr) (ss : List Str) : Value -> Bool
 | .ref b => (match K.lookup b with
   | some ⟨.type c, _, .seq its _, _⟩ => decide (c = "tuple") && (decide (its.size <= sizeLine) && He.relAll (ss.map V.str) its.toList)
   | _ => false)
 | _ => false

def lFun (K : Fr) (f : Str) : Value -> Bool
 | .ref b => Nat.beq b (He.ga K f)
 | _ => false
end RC
namespace RC
open PySem PySem.Spec PyProof.Rows L2
def top (i : Nat) : Stmt := PySem.Challenge.pw_restorechain_k92_deeds_written_and_read.main.body.getD i (.Pass ⟨0, 0, 0, 0⟩)
abbrev s_l_bag : Stmt := top 41
abbrev s_l_take : Stmt := top 42
abbrev s_l_names : Stmt := top 45
abbrev s_l_seal_of : Stmt := top 48
abbrev s_l_any : Stmt := top 44
abbrev s_l_signs : Stmt := top 47
abbrev s_l_words : Stmt := top 50
abbrev s_l_content : Stmt := top 46
abbrev s_l_shaped : Stmt := top 49
abbrev s_l_listed : Stmt := top 52
abbrev s_l_hex : Stmt := top 51
abbrev s_l_written : Stmt := top 53
abbrev s_l_own : Stmt := top 54
abbrev s_l_alike : Stmt := top 43
abbrev s_show_seal : Stmt := top 32
abbrev s_show_signs : Stmt := top 33
abbrev s_show_deed : Stmt := top 34
abbrev s_seal_of_word : Stmt := top 36
abbrev s_whole_of : Stmt := top 35
abbrev s_signs_of_word : Stmt := top 37
abbrev s_thing_of : Stmt := top 38
abbrev s_is_name : Stmt := top 15
abbrev s_is_whole : Stmt := top 11
abbrev s_is_sign : Stmt := top 12
abbrev s_are_signs : Stmt := top 13
abbrev s_is_content : Stmt := top 14
abbrev s_is_time : Stmt := top 16
abbrev s_is_kind : Stmt := top 27
abbrev s_is_seal : Stmt := top 17
abbrev s_is_body : Stmt := top 28
abbrev s_is_piece : Stmt := top 29
abbrev s_is_blocks : Stmt := top 26
abbrev s_is_deed : Stmt := top 31
abbrev s_read_deed : Stmt := top 39
abbrev s_law : Stmt := top 55
def d_l_bag : He.DefD := ⟨("_law_bag", none), "_law_bag", "_law_bag", defArgs s_l_bag, defBody s_l_bag, defScope s_l_bag, [], []⟩
def d_l_take : He.DefD := ⟨("_law_take", none), "_law_take", "_law_take", defArgs s_l_take, defBody s_l_take, defScope s_l_take, [], []⟩
def d_l_names : He.DefD := ⟨("_law_names", none), "_law_names", "_law_names", defArgs s_l_names, defBody s_l_names, defScope s_l_names, [], []⟩
def d_l_seal_of : He.DefD := ⟨("_law_seal_of", none), "_law_seal_of", "_law_seal_of", defArgs s_l_seal_of, defBody s_l_seal_of, defScope s_l_seal_of, [], []⟩
def d_l_any : He.DefD := ⟨("_law_any", none), "_law_any", "_law_any", defArgs s_l_any, defBody s_l_any, defScope s_l_any, [], []⟩
def d_l_signs : He.DefD := ⟨("_law_signs", none), "_law_signs", "_law_signs", defArgs s_l_signs, defBody s_l_signs, defScope s_l_signs, [], []⟩
def d_l_words : He.DefD := ⟨("_law_words", none), "_law_words", "_law_words", defArgs s_l_words, defBody s_l_words, defScope s_l_words, [], []⟩
def d_l_content : He.DefD := ⟨("_law_content", none), "_law_content", "_law_content", defArgs s_l_content, defBody s_l_content, defScope s_l_content, [], []⟩
def d_l_shaped : He.DefD := ⟨("_law_shaped", none), "_law_shaped", "_law_shaped", defArgs s_l_shaped, defBody s_l_shaped, defScope s_l_shaped, [], []⟩
def d_l_listed : He.DefD := ⟨("_law_listed", none), "_law_listed", "_law_listed", defArgs s_l_listed, defBody s_l_listed, defScope s_l_listed, [], []⟩
def d_l_hex : He.DefD := ⟨("_law_hex", none), "_law_hex", "_law_hex", defArgs s_l_hex, defBody s_l_hex, defScope s_l_hex, [], []⟩
def d_l_written : He.DefD := ⟨("_law_written", none), "_law_written", "_law_written", defArgs s_l_written, defBody s_l_written, defScope s_l_written, [], []⟩
def d_l_own : He.DefD := ⟨("_law_own", none), "_law_own", "_law_own", defArgs s_l_own, defBody s_l_own, defScope s_l_own, [], []⟩
def d_l_alike : He.DefD := ⟨("_law_alike", none), "_law_alike", "_law_alike", defArgs s_l_alike, defBody s_l_alike, defScope s_l_alike, [], []⟩
def d_show_seal : He.DefD := ⟨("show_seal", none), "show_seal", "show_seal", defArgs s_show_seal, defBody s_show_seal, defScope s_show_seal, [], []⟩
def d_show_signs : He.DefD := ⟨("show_signs", none), "show_signs", "show_signs", defArgs s_show_signs, defBody s_show_signs, defScope s_show_signs, [], []⟩
def d_show_deed : He.DefD := ⟨("show_deed", none), "show_deed", "show_deed", defArgs s_show_deed, defBody s_show_deed, defScope s_show_deed, [], []⟩
def d_seal_of_word : He.DefD := ⟨("seal_of_word", none), "seal_of_word", "seal_of_word", defArgs s_seal_of_word, defBody s_seal_of_word, defScope s_seal_of_word, [], []⟩
def d_whole_of : He.DefD := ⟨("whole_of", none), "whole_of", "whole_of", defArgs s_whole_of, defBody s_whole_of, defScope s_whole_of, [], []⟩
def d_signs_of_word : He.DefD := ⟨("signs_of_word", none), "signs_of_word", "signs_of_word", defArgs s_signs_of_word, defBody s_signs_of_word, defScope s_signs_of_word, [], []⟩
def d_thing_of : He.DefD := ⟨("thing_of", none), "thing_of", "thing_of", defArgs s_thing_of, defBody s_thing_of, defScope s_thing_of, [], []⟩
def d_is_name : He.DefD := ⟨("is_name", none), "is_name", "is_name", defArgs s_is_name, defBody s_is_name, defScope s_is_name, [], []⟩
def d_is_whole : He.DefD := ⟨("is_whole", none), "is_whole", "is_whole", defArgs s_is_whole, defBody s_is_whole, defScope s_is_whole, [], []⟩
def d_is_sign : He.DefD := ⟨("is_sign", none), "is_sign", "is_sign", defArgs s_is_sign, defBody s_is_sign, defScope s_is_sign, [], []⟩
def d_are_signs : He.DefD := ⟨("are_signs", none), "are_signs", "are_signs", defArgs s_are_signs, defBody s_are_signs, defScope s_are_signs, [], []⟩
def d_is_content : He.DefD := ⟨("is_content", none), "is_content", "is_content", defArgs s_is_content, defBody s_is_content, defScope s_is_content, [], []⟩
def d_is_time : He.DefD := ⟨("is_time", none), "is_time", "is_time", defArgs s_is_time, defBody s_is_time, defScope s_is_time, [], []⟩
def d_is_kind : He.DefD := ⟨("is_kind", none), "is_kind", "is_kind", defArgs s_is_kind, defBody s_is_kind, defScope s_is_kind, [], []⟩
def d_is_seal : He.DefD := ⟨("is_seal", none), "is_seal", "is_seal", defArgs s_is_seal, defBody s_is_seal, defScope s_is_seal, [], []⟩
def d_is_body : He.DefD := ⟨("is_body", none), "is_body", "is_body", defArgs s_is_body, defBody s_is_body, defScope s_is_body, [], []⟩
def d_is_piece : He.DefD := ⟨("is_piece", none), "is_piece", "is_piece", defArgs s_is_piece, defBody s_is_piece, defScope s_is_piece, [], []⟩
def d_is_blocks : He.DefD := ⟨("is_blocks", none), "is_blocks", "is_blocks", defArgs s_is_blocks, defBody s_is_blocks, defScope s_is_blocks, [], []⟩
def d_is_deed : He.DefD := ⟨("is_deed", none), "is_deed", "is_deed", defArgs s_is_deed, defBody s_is_deed, defScope s_is_deed, [], []⟩
def d_read_deed : He.DefD := ⟨("read_deed", none), "read_deed", "read_deed", defArgs s_read_deed, defBody s_read_deed, defScope s_read_deed, [], []⟩
def d_law : He.DefD := ⟨("law", none), "law", "law", defArgs s_law, defBody s_law, defScope s_law, [], []⟩
def fn0 : List He.DefD := ([d_l_bag, d_l_take, d_l_names, d_l_seal_of, d_l_any, d_l_signs, d_l_words, d_l_content, d_l_shaped, d_l_listed, d_l_hex, d_l_written, d_l_own, d_l_alike, d_show_seal, d_show_signs, d_show_deed, d_seal_of_word, d_whole_of, d_signs_of_word, d_thing_of, d_is_name, d_is_whole, d_is_sign, d_are_signs, d_is_content, d_is_time, d_is_kind, d_is_seal, d_is_body] : List He.DefD) ++ ([d_is_piece, d_is_blocks, d_is_deed, d_read_deed, d_law] : List He.DefD)
def fa0 : List (Fr -> Bool) := ([(λ K => (He.Fa.str "SEAL_FIGURES" "0123456789abcdef").ok K), (λ K => (He.Fa.int "MOST_SEAL_FIGURES" 48).ok K), (λ K => (He.Fa.int "MOST_FIGURES" 8).ok K), (λ K => (He.Fa.str "FIGURES" "0123456789").ok K), (λ K => (He.Fa.str "LETTERS" "abcdefghijklmnopqrstuvwxyz").ok K), (λ K => (He.Fa.int "LONGEST" 8).ok K), (λ K => (He.Fa.int "MOST_SIGN" 999).ok K), (λ K => (He.Fa.int "MOST_CONTENT" 48).ok K), (λ K => (He.Fa.int "MOST_TIME" 1000000).ok K), (λ K => (He.Fa.glo "DEED_KINDS").ok K), (λ K => He.tupB K "DEED_KINDS" [.str "full", .str "step", .str "wide"]), (λ K => (He.Fa.int "MOST_PIECE" 16).ok K), (λ K => (He.Fa.int "BASE" 1001).ok K), (λ K => (He.Fa.int "MOST_BLOCKS" 60).ok K), (λ K => (He.Fa.glo "MADE_OF").ok K), (λ K => gtabB K "MADE_OF" (lTxts K) ([("write", ["name", "content"]), ("drop", ["name"]), ("move", ["name", "name"]), ("begin", ["time", "kind"]), ("step", []), ("close", []), ("give_up", []), ("take", ["time", "kind"]), ("forget", ["time"]), ("merge", ["time"]), ("hold", ["time", "name"]), ("release", ["time", "name"]), ("harm", ["seal", "body"]), ("lose", ["seal"]), ("heal", ["seal", "signs"]), ("prune", ["blocks", "blocks", "blocks", "blocks"]), ("put_back", ["time"])] : List (Str × List Str))), (λ K => (He.Fa.glo "LOOKS").ok K), (λ K => gtabB K "LOOKS" (lFun K) ([("name", "is_name"), ("content", "is_content"), ("time", "is_time"), ("kind", "is_kind"), ("seal", "is_seal"), ("body", "is_body"), ("signs", "is_piece"), ("blocks", "is_blocks")] : List (Str × Str))), (λ K => (He.Fa.glo "_law_bag").ok K), (λ K => (He.Fa.glo "_law_take").ok K), (λ K => (He.Fa.glo "_law_names").ok K), (λ K => (He.Fa.glo "_law_seal_of").ok K), (λ K => (He.Fa.glo "_law_any").ok K), (λ K => (He.Fa.glo "_law_signs").ok K), (λ K => (He.Fa.glo "_law_words").ok K), (λ K => (He.Fa.glo "_law_content").ok K), (λ K => (He.Fa.glo "_law_shaped").ok K), (λ K => (He.Fa.glo "_law_listed").ok K), (λ K => (He.Fa.glo "_law_hex").ok K), (λ K => (He.Fa.glo "_law_written").ok K)] : List (Fr -> Bool)) ++ ([(λ K => (He.Fa.glo "_law_own").ok K), (λ K => (He.Fa.glo "_law_alike").ok K), (λ K => (He.Fa.glo "show_seal").ok K), (λ K => (He.Fa.glo "show_signs").ok K), (λ K => (He.Fa.glo "show_deed").ok K), (λ K => (He.Fa.glo "seal_of_word").ok K), (λ K => (He.Fa.glo "whole_of").ok K), (λ K => (He.Fa.glo "signs_of_word").ok K), (λ K => (He.Fa.glo "thing_of").ok K), (λ K => (He.Fa.glo "is_name").ok K), (λ K => (He.Fa.glo "is_whole").ok K), (λ K => (He.Fa.glo "is_sign").ok K), (λ K => (He.Fa.glo "are_signs").ok K), (λ K => (He.Fa.glo "is_content").ok K), (λ K => (He.Fa.glo "is_time").ok K), (λ K => (He.Fa.glo "is_kind").ok K), (λ K => (He.Fa.glo "is_seal").ok K), (λ K => (He.Fa.glo "is_body").ok K), (λ K => (He.Fa.glo "is_piece").ok K), (λ K => (He.Fa.glo "is_blocks").ok K), (λ K => (He.Fa.glo "is_deed").ok K), (λ K => (He.Fa.glo "read_deed").ok K), (λ K => (He.Fa.glo "law").ok K), (λ K => (He.Fa.glo "NoText").ok K), (λ K => (He.Fa.free "abs").ok K), (λ K => (He.Fa.free "len").ok K), (λ K => (He.Fa.free "range").ok K), (λ K => (He.Fa.free "tuple").ok K), (λ K => (He.Fa.free "int").ok K), (λ K => (He.Fa.free "str").ok K)] : List (Fr -> Bool)) ++ ([(λ K => (He.Fa.free "enumerate").ok K), (λ K => (He.Fa.free "isinstance").ok K), (λ K => (He.Fa.free "list").ok K), (λ K => (He.Fa.free "repr").ok K), (λ K => (He.Fa.free "zip").ok K), (λ K => (He.Fa.free "all").ok K), (λ K => (He.Fa.free "bool").ok K)] : List (Fr -> Bool))
def fn : List He.DefD := fn0
def fa : List (Fr -> Bool) := fa0
def names : List Str := (["StoreError", "NoText", "MOST_SIGN", "MOST_CONTENT", "MOST_TIME", "LONGEST", "LETTERS", "BASE", "MOST_PIECE", "is_whole", "is_sign", "are_signs", "is_content", "is_name", "is_time", "is_seal", "FIGURES", "SEAL_FIGURES", "MOST_FIGURES", "MOST_SEAL_FIGURES", "MOST_BLOCKS", "DEED_KINDS", "MADE_OF", "is_blocks", "is_kind", "is_body", "is_piece", "LOOKS", "is_deed", "show_seal"] : List Str) ++ (["show_signs", "show_deed", "whole_of", "seal_of_word", "signs_of_word", "thing_of", "read_deed", "_law_bag", "_law_take", "_law_alike", "_law_any", "_law_names", "_law_content", "_law_signs", "_law_seal_of", "_law_shaped", "_law_words", "_law_hex", "_law_listed", "_law_written", "_law_own"] : List Str)
abbrev R : PySem.W.OpenRow := PySem.W.OpenLaw.row PySem.Challenge.rw_restorechain_k92_deeds_written_and_read
abbrev hk : PySem.W.Hook := hookB 5 fa fn
def ob (s : PySem.W.SharedT) : He.AlD := obsB 5 fa fn (HandSHeadRun.getT s)
theorem ob_eq (s : PySem.W.SharedT) : ob s = hk.obs s.abs := obsB_eq (HandSHeadRun.getT_eq s)
section
open PySem.W PySem.Calls HandSHeadRun
theorem runLf (w0 : World) (os : OsState) : (λ w => (endF (stepQ (denQ tabQ) R.prog w) 20000 R.prog w os).map (λ s => (looksF R.prog (boot_heap w.params) s.abs, seenQ (view R.prog [55]) names (importedModules R.prog.main.body) (λ s => xlAt (view R.prog [55]) [] s && recOk R.toRowW.records s) s.abs)) = some (true, openGood (view R.prog [55]) names)) (setF w0 false) := by kernel_rfl
theorem runLt (w0 : World) (os : OsState) : (λ w => (endF (stepQ (denQ tabQ) R.prog w) 20000 R.prog w os).map (λ s => (looksF R.prog (boot_heap w.params) s.abs, seenQ (view R.prog [55]) names (importedModules R.prog.main.body) (λ s => xlAt (view R.prog [55]) [] s && recOk R.toRowW.records s) s.abs)) = some (true, openGood (view R.prog [55]) names)) (setF w0 true) := by kernel_rfl
theorem runL (w : World) (os : OsState) : (endF (stepQ (denQ tabQ) R.prog w) 20000 R.prog w os).map (λ s => (looksF R.prog (boot_heap w.params) s.abs, seenQ (view R.prog [55]) names (importedModules R.prog.main.body) (λ s => xlAt (view R.prog [55]) [] s && recOk R.toRowW.records s) s.abs)) = some (true, openGood (view R.prog [55]) names) := bySetF (φ := λ w => (endF (stepQ (denQ tabQ) R.prog w) 20000 R.prog w os).map (λ s => (looksF R.prog (boot_heap w.params) s.abs, seenQ (view R.prog [55]) names (importedModules R.prog.main.body) (λ s => xlAt (view R.prog [55]) [] s && recOk R.toRowW.records s) s.abs)) = some (true, openGood (view R.prog [55]) names)) (λ w => runLf w os) (λ w => runLt w os) w
theorem runO0f (w0 : World) (os : OsState) : (λ w => (endF (stepQ (denQ tabQ) R.prog w) 20000 R.prog w os).map (λ s => obsB 5 fa0 fn0 (getT s)) = some (He.valD fn0)) (setF w0 false) := by kernel_rfl
theorem runO0t (w0 : World) (os : OsState) : (λ w => (endF (stepQ (denQ tabQ) R.prog w) 20000 R.prog w os).map (λ s => obsB 5 fa0 fn0 (getT s)) = some (He.valD fn0)) (setF w0 true) := by kernel_rfl
theorem runO0 (w : World) (os : OsState) : (endF (stepQ (denQ tabQ) R.prog w) 20000 R.prog w os).map (λ s => obsB 5 fa0 fn0 (getT s)) = some (He.valD fn0) := bySetF (φ := λ w => (endF (stepQ (denQ tabQ) R.prog w) 20000 R.prog w os).map (λ s => obsB 5 fa0 fn0 (getT s)) = some (He.valD fn0)) (λ w => runO0f w os) (λ w => runO0t w os) w
theorem runO (w : World) (os : OsState) : (endF (stepQ (denQ tabQ) R.prog w) 20000 R.prog w os).map (λ s => ob s) = some (hk.val w) := runO0 w os
theorem run (w : World) : RunEq R (view R.prog [55]) hk ob 20000 names w := runEq (runL w) (runO w)
end
end RC
namespace RC
open PySem PySem.Spec PyProof.Rows L2
section
variable {K : Fr} {σ : L2.St} {H : Hp} {Q : VK} {D : Ends} {Rs : List Res} {E : XK} {W : WX} {sp : Sp} {dvs : List V} {t : TA} {ta te tb tc : TE} {C a : Addr} {m f : Str} {v : V}
theorem g_callW (k : t σ H λ vs H1 => sp (vs ++ dvs) H1 Q (WE W σ)) : tCallW W sp dvs t σ H Q := k
def MethK (W : WX) (C : Addr) (m : Str) (sp : Sp) (dvs : List V) (t : TA) (σ : L2.St) (Q : VK) : VK := λ x H1 => ∃ a dx fs, x = .ref a /\ H1 a = some (.ins C dx fs) /\ fs.lookup m = none /\ t σ H1 λ vs H2 => sp (x :: (vs ++ dvs)) H2 Q (WE W σ)
theorem g_meth (k : ta σ H (MethK W C m sp dvs t σ Q)) : tMethW W C m sp dvs ta t σ H Q := k
def MakeK (W : WX) (C : Addr) (sp : Sp) (dvs : List V) (σ : L2.St) (Q : VK) : List V -> Hp -> Prop := λ vs H1 => ∀ x dx, H1 x = none -> H1 dx = none -> dx ≠ x -> sp (.ref x :: (vs ++ dvs)) (upd (upd H1 dx (.own x)) x (.ins C dx [])) (λ v H2 => v = .non /\ Q (.ref x) H2) (WE W σ)
theorem g_make (k : t σ H (MakeK W C sp dvs σ Q)) : tMakeW W C sp dvs t σ H Q := k
def FldK (K : Fr) (f : Str) (Q : VK) : VK := λ x H1 => ∃ a C dx fs v, x = .ref a /\ H1 a = some (.ins C dx fs) /\ Cls K C /\ NoAttr K C f /\ fs.lookup f = some v /\ Q v H1
theorem g_fld (k : ta σ H (FldK K f Q)) : tFld K ta f σ H Q := k
def SFldK (K : Fr) (f : Str) (y : V) (σ : L2.St) (D : Ends) : VK := λ x H2 => ∃ a C dx fs, x = .ref a /\ H2 a = some (.ins C dx fs) /\ Cls K C /\ NoAttr K C f /\ fs.length < 1000 /\ D.nx σ (upd H2 a (.ins C dx (putF f y fs)))
theorem g_sfld (k : te σ H λ y H1 => ta σ H1 (SFldK K f y σ D)) : sFld K ta te f D σ H := k
def RzK (W : WX) (C : Addr) (f : Str) (σ : L2.St) : VK := λ v H1 => ∀ d, H1 d = none -> W (.ref C) (some d) σ (upd H1 d (.xd [(f, v)]))
theorem g_rz (k : te σ H (RzK W C f σ)) : tRz W C f te D σ H := k
theorem v_dnew (S : M Rs H) (k : ∀ d H', M (pt d (.dK []) :: Rs) H' -> Q (.ref d) H') : tDNewK σ H Q := λ d hd => k d _ (S.new hd)
def Pop1K (ty : TE) (σ : L2.St) (Q : VK) : VK := λ x H1 => ∃ a, x = .ref a /\ IsD H1 a /\ ty σ H1 λ y H2 => ∃ kvs k v, H2 a = some (.dK kvs) /\ y = kV k /\ valV kvs k = some v /\ Q v (upd H2 a (.dK (dropK kvs k)))
theorem g_dpop (k : ta σ H (Pop1K tb σ Q)) : tDPop1 ta tb σ H Q := k
theorem v_isi {x : V} {ty : Value} {c : String} {b : Bool} (h : TyX K H x ty) (e : PySem.W.kitOne K ty (.type c) = some b) (k : Q (.bl b) H) : rIsi K [x, .ty c] H Q := ⟨x, .ty c, ty, _, b, rfl, .ty c, h, e, k⟩
theorem g_callE {cls : Value} {d : Option Addr} {sp : Addr -> Value -> Option Addr -> Hp -> VK -> Prop} (k : te σ H λ x H1 => x = .ref a /\ sp a cls d H1 Q) : tCallE a cls d sp te σ H Q := k
theorem g_xg {cls : Value} {d : Option Addr} {n : Str} (k : te σ H λ x H1 => x = .ref a /\ ∃ D dd fs v, cls = .ref D /\ ExcC K D /\ PySem.W.findIn K (.ref D) n = some none /\ d = some dd /\ H1 dd = some (.xd fs) /\ fs.lookup n = some v /\ Q v H1) : tXg K a cls d n te σ H Q := k
theorem g_try {tb : WX -> TS} {l : List Hd} (k : tb (wTry K W D l) D σ H) : tTry K W tb l D σ H := k
end
theorem Ent.tl {Rs : List Res} {R : Res} {φ : Hp -> Prop} (h : Ent Rs φ) : Ent (R :: Rs) φ := λ H S => h H S.tl
theorem Ent.imp {Rs : List Res} {φ ψ : Hp -> Prop} (h : Ent Rs φ) (i : ∀ H, φ H -> ψ H) : Ent Rs ψ := λ H S => i H (h H S)
end RC

namespace RC
open PySem PySem.Spec PyProof.Rows L2
def rIntB : List V -> Hp -> VK -> Prop := λ xs H Q => ∃ b : Bool, xs = [.bl b] /\ Q (.int (if b then 1 else 0)) H
theorem cr_intB {X : Cx} : CallR X (.type "int") rIntB := by
 intro pins s σ H xs us Q I rs h
 obtain ⟨b, rfl, h⟩ := h
 cases rs with
 | cons r1 rs =>
   cases rs
   cases r1
   exact call_int_1 (meets_int_new_bool b) (show (Made.int _).post _ s from ⟨rfl, ⟨.int _, H, I.tok _, ⟨_, rfl⟩, h⟩⟩)
theorem v_intB {b : Bool} {H : Hp} {Q : VK} (k : Q (.int (if b then 1 else 0)) H) : rIntB [.bl b] H Q := ⟨b, rfl, k⟩
end RC

namespace RC
open PySem PySem.Spec PyProof.Rows L2
def kD : Key -> PyData
 | .inl i => .int i
 | .inr x => .str x
mutual
inductive Dq (K : Fr) (H : Hp) : V -> PyData -> Prop
 | non : Dq K H .non .none
 | bl (b : Bool) : Dq K H (.bl b) (.bool b)
 | int (i : Int) : Dq K H (.int i) (.int i)
 | str (x : Str) : Dq K H (.str x) (.str x)
 | lst {a : Addr} {vs : List V} {ds : List PyData} (h : SqL K H a vs) (q : DqAll K H vs ds) : Dq K H (.ref a) (.list ds)
 | tup {a : Addr} {vs : List V} {ds : List PyData} (h : SqT K H a vs) (q : DqAll K H vs ds) : Dq K H (.ref a) (.tuple ds)
 | dct {a : Addr} {od : Obj} {kvs : List (Key × V)} {ds : List (PyData × PyData)} (h : H a = some (.frz od (.dK kvs))) (q : DqKv K H kvs ds) : Dq K H (.ref a) (.dict ds)
inductive DqAll (K : Fr) (H : Hp) : List V -> List PyData -> Prop
 | nil : DqAll K H [] []
 | cons {v : V} {vs : List V} {d : PyData} {ds : List PyData} (h : Dq K H v d) (r : DqAll K H vs ds) : DqAll K H (v :: vs) (d :: ds)
inductive DqKv (K : Fr) (H : Hp) : List (Key × V) -> List (PyData × PyData) -> Prop
 | nil : DqKv K H [] []
 | cons {k : Key} {v : V} {vs : List (Key × V)} {d : PyData} {ds : List (PyData × PyData)} (h : Dq K H v d) (r : DqKv K H vs ds) : DqKv K H ((k, v) :: vs) ((kD k, d) :: ds)
end
mutual
theorem Dq_ext {K : Fr} {H H' : Hp} (e : Ext H H') : ∀ {v : V} {d : PyData}, Dq K H v d -> Dq K H' v d
 | _, _, .non => .non
 | _, _, .bl b => .bl b
 | _, _, .int i => .int i
 | _, _, .str x => .str x
 | _, _, .lst h q => .lst (e.sqL h) (DqAll_ext e q)
 | _, _, .tup h q => .tup (e.sqT h) (DqAll_ext e q)
 | _, _, .dct h q => .dct (e _ _ h) (DqKv_ext e q)
theorem DqAll_ext {K : Fr} {H H' : Hp} (e : Ext H H') : ∀ {vs : List V} {ds : List PyData}, DqAll K H vs ds -> DqAll K H' vs ds
 | _, _, .nil => .nil
 | _, _, .cons h r => .cons (Dq_ext e h) (DqAll_ext e r)
theorem DqKv_ext {K : Fr} {H H' : Hp} (e : Ext H H') : ∀ {vs : List (Key × V)} {ds : List (PyData × PyData)}, DqKv K H vs ds -> DqKv K H' vs ds
 | _, _, .nil => .nil
 | _, _, .cons h r => .cons (Dq_ext e h) (DqKv_ext e r)
end
mutual
theorem Dq.dp {K : Fr} {H : Hp} : ∀ {v : V} {d : PyData}, Dq K H v d -> d.hasDict = false -> Dp K H v d
 | _, _, .non, _ => .non
 | _, _, .bl b, _ => .bl b
 | _, _, .int i, _ => .int i
 | _, _, .str x, _ => .str x
 | _, _, .lst h q, n => .lst h (DqAll.dp q (by simpa only [PyData.hasDict] using n))
 | _, _, .tup h q, n => .tup h (DqAll.dp q (by simpa only [PyData.hasDict] using n))
 | _, _, .dct h q, n => by simp [PyData.hasDict] at n
theorem DqAll.dp {K : Fr} {H : Hp} : ∀ {vs : List V} {ds : List PyData}, DqAll K H vs ds -> PyData.hasDictAll ds = false -> DpAll K H vs ds
 | _, _, .nil, _ => .nil
 | _, _, .cons h r, n => by
   simp only [PyData.hasDictAll, Bool.or_eq_false_iff] at n
   exact .cons (Dq.dp h n.1) (DqAll.dp r n.2)
end
mutual
theorem Dp.dq {K : Fr} {H : Hp} : ∀ {v : V} {d : PyData}, Dp K H v d -> Dq K H v d
 | _, _, .non => .non
 | _, _, .bl b => .bl b
 | _, _, .int i => .int i
 | _, _, .str x => .str x
 | _, _, .lst h q => .lst h (DpAll.dq q)
 | _, _, .tup h q => .tup h (DpAll.dq q)
theorem DpAll.dq {K : Fr} {H : Hp} : ∀ {vs : List V} {ds : List PyData}, DpAll K H vs ds -> DqAll K H vs ds
 | _, _, .nil => .nil
 | _, _, .cons h r => .cons (Dp.dq h) (DpAll.dq r)
end
mutual
inductive Dn (K : Fr) (H : Hp) : V -> PyData -> Prop
 | non : Dn K H .non .none
 | bl (b : Bool) : Dn K H (.bl b) (.bool b)
 | int (i : Int) : Dn K H (.int i) (.int i)
 | str (x : Str) : Dn K H (.str x) (.str x)
 | lst {a : Addr} {vs : List V} {ds : List PyData} (h : SqL K H a vs) (q : DnAll K H vs ds) : Dn K H (.ref a) (.list ds)
 | tup {a : Addr} {vs : List V} {ds : List PyData} (h : SqT K H a vs) (q : DnAll K H vs ds) : Dn K H (.ref a) (.tuple ds)
 | dct {a : Addr} {kvs : List (Key × V)} {ds : List (PyData × PyData)} (h : Rd H a (.dK kvs)) (q : DnKv K H kvs ds) : Dn K H (.ref a) (.dict ds)
inductive DnAll (K : Fr) (H : Hp) : List V -> List PyData -> Prop
 | nil : DnAll K H [] []
 | cons {v : V} {vs : List V} {d : PyData} {ds : List PyData} (h : Dn K H v d) (r : DnAll K H vs ds) : DnAll K H (v :: vs) (d :: ds)
inductive DnKv (K : Fr) (H : Hp) : List (Key × V) -> List (PyData × PyData) -> Prop
 | nil : DnKv K H [] []
 | cons {k : Key} {v : V} {vs : List (Key × V)} {d : PyData} {ds : List (PyData × PyData)} (h : Dn K H v d) (r : DnKv K H vs ds) : DnKv K H ((k, v) :: vs) ((kD k, d) :: ds)
end
mutual
theorem Dq.dn {K : Fr} {H : Hp} : ∀ {v : V} {d : PyData}, Dq K H v d -> Dn K H v d
 | _, _, .non => .non
 | _, _, .bl b => .bl b
 | _, _, .int i => .int i
 | _, _, .str x => .str x
 | _, _, .lst h q => .lst h (DqAll.dn q)
 | _, _, .tup h q => .tup h (DqAll.dn q)
 | _, _, .dct h q => .dct (.inr ⟨_, h⟩) (DqKv.dn q)
theorem DqAll.dn {K : Fr} {H : Hp} : ∀ {vs : List V} {ds : List PyData}, DqAll K H vs ds -> DnAll K H vs ds
 | _, _, .nil => .nil
 | _, _, .cons h r => .cons (Dq.dn h) (DqAll.dn r)
theorem DqKv.dn {K : Fr} {H : Hp} : ∀ {vs : List (Key × V)} {ds : List (PyData × PyData)}, DqKv K H vs ds -> DnKv K H vs ds
 | _, _, .nil => .nil
 | _, _, .cons h r => .cons (Dq.dn h) (DqKv.dn r)
end
mutual
theorem Dn.dp {K : Fr} {H : Hp} : ∀ {v : V} {d : PyData}, Dn K H v d -> d.hasDict = false -> Dp K H v d
 | _, _, .non, _ => .non
 | _, _, .bl b, _ => .bl b
 | _, _, .int i, _ => .int i
 | _, _, .str x, _ => .str x
 | _, _, .lst h q, n => .lst h (DnAll.dp q (by simpa only [PyData.hasDict] using n))
 | _, _, .tup h q, n => .tup h (DnAll.dp q (by simpa only [PyData.hasDict] using n))
 | _, _, .dct h q, n => by simp [PyData.hasDict] at n
theorem DnAll.dp {K : Fr} {H : Hp} : ∀ {vs : List V} {ds : List PyData}, DnAll K H vs ds -> PyData.hasDictAll ds = false -> DpAll K H vs ds
 | _, _, .nil, _ => .nil
 | _, _, .cons h r, n => by
   simp only [PyData.hasDictAll, Bool.or_eq_false_iff] at n
   exact .cons (Dn.dp h n.1) (DnAll.dp r n.2)
end
abbrev eI : Int -> PyData := PyData.int
abbrev eB : Bool -> PyData := PyData.bool
abbrev eS : Str -> PyData := PyData.str
abbrev eA : PyData -> PyData := id
def eL {α : Type} (e : α -> PyData) (xs : List α) : PyData := .list (xs.map e)
def eV {α : Type} (e : α -> PyData) (xs : List α) : PyData := .tuple (xs.map e)
def eP {α β : Type} (e : α -> PyData) (f : β -> PyData) (x : α × β) : PyData := .tuple [e x.1, f x.2]
def eT3 {α β γ : Type} (e : α -> PyData) (f : β -> PyData) (g : γ -> PyData) (x : α × β × γ) : PyData := .tuple [e x.1, f x.2.1, g x.2.2]
def eO {α : Type} (e : α -> PyData) : Option α -> PyData
 | none => .none
 | some x => e x
abbrev iS : Str -> Key := Sum.inr
def eD {κ α : Type} (ik : κ -> Key) (e : α -> PyData) (m : List (κ × α)) : PyData := .dict (m.map λ p => (kD (ik p.1), e p.2))
def da (K : Fr) (v : V) (d : PyData) : Res := ⟨λ F l => l = [] /\ Dq K F v d, λ _ _ _ e h => ⟨h.1, Dq_ext e h.2⟩⟩
def daA (K : Fr) (vs : List V) (ds : List PyData) : Res := ⟨λ F l => l = [] /\ DqAll K F vs ds, λ _ _ _ e h => ⟨h.1, DqAll_ext e h.2⟩⟩
def EnF (Rs : List Res) (φ : Hp -> Prop) : Prop := ∀ F L, Sat F Rs L -> φ F
theorem Sat.get {F : Hp} : ∀ {Rs : List Res} {L : List Cell} (i : Nat) {R : Res}, Sat F Rs L -> Rs[i]? = some R -> ∃ l, R.on F l
 | [], L, i, R, _, e => by simp at e
 | S :: Rs, L, 0, R, ⟨l1, l2, _, a, _⟩, e => by
   have e : S = R := Option.some.inj e
   subst e
   exact ⟨l1, a⟩
 | S :: Rs, L, i + 1, R, ⟨l1, l2, _, _, b⟩, e => Sat.get i b (by simpa using e)
section
variable {K : Fr} {Rs R0 : List Res} {H : Hp} {v : V} {d : PyData} {vs : List V} {ds : List PyData} {φ ψ : Hp -> Prop}
theorem M.gotA (S : M Rs H) (i : Nat) (e : Rs[i]? = some (da K v d)) : Dq K H v d := by
 obtain ⟨F, L, s, m⟩ := S
 obtain ⟨l, h⟩ := s.get i e
 exact Dq_ext m.ex h.2
theorem EnF.at (i : Nat) (e : Rs[i]? = some (da K v d)) : EnF Rs (λ F => Dq K F v d) := λ F L s => by
 obtain ⟨l, h⟩ := s.get i e
 exact h.2
theorem EnF.all (h : ∀ F, φ F) : EnF Rs φ := λ F _ _ => h F
theorem EnF.imp (h : EnF Rs φ) (k : ∀ F, φ F -> ψ F) : EnF Rs ψ := λ F L s => k F (h F L s)
theorem EnF.tl {R : Res} (h : EnF Rs φ) : EnF (R :: Rs) φ := λ F L ⟨_, l2, _, _, b⟩ => h F l2 b
theorem EnF.nilA : EnF Rs (λ F => DqAll K F [] []) := λ _ _ _ => .nil
theorem EnF.consA (h : EnF Rs (λ F => Dq K F v d)) (r : EnF Rs (λ F => DqAll K F vs ds)) : EnF Rs (λ F => DqAll K F (v :: vs) (d :: ds)) := λ F L s => .cons (h F L s) (r F L s)
theorem M.of (S : M Rs H) (h : EnF Rs φ) (mono : ∀ F, Ext F H -> φ F -> ψ H) : ψ H := by
 obtain ⟨F, L, s, m⟩ := S
 exact mono F m.ex (h F L s)
theorem M.dq (S : M Rs H) (h : EnF Rs (λ F => Dq K F v d)) : Dq K H v d := by
 obtain ⟨F, L, s, m⟩ := S
 exact Dq_ext m.ex (h F L s)
theorem M.addA (S : M Rs H) (h : EnF Rs (λ F => Dq K F v d)) : M (da K v d :: Rs) H := by
 obtain ⟨F, L, s, m⟩ := S
 exact ⟨F, L, ⟨[], L, rfl, ⟨rfl, h F L s⟩, s⟩, m⟩
end
end RC

namespace RC
open PySem PySem.Spec PyProof.Rows L2
def forD {α β : Type} (f : α -> β -> (β -> Prop) -> Prop) : List α -> β -> (β -> Prop) -> Prop
 | [], s, k => k s
 | x :: xs, s, k => f x s λ s' => forD f xs s' k
def lcD {α β : Type} (f : α -> (Option β -> Prop) -> Prop) : List α -> List β -> (List β -> Prop) -> Prop
 | [], acc, k => k acc
 | x :: xs, acc, k => f x λ y => lcD f xs (acc ++ y.toList) k
def jn {β : Type} (m : (β -> Prop) -> Prop) (k : β -> Prop) : Prop := m k
abbrev sno {α : Type} (xs : List α) (x : α) : List α := xs ++ [x]
abbrev cat {α : Type} (xs ys : List α) : List α := xs ++ ys
def takeD (n : Int) (k : Int -> Prop) : Prop := (0 < n /\ n < 2 ^ 62) /\ ∀ v, 0 <= v -> v < n -> k v
def rng (n : Int) : List Int := (List.range n.toNat).map λ i => (0 : Int) + (i : Nat)
def cutL {α : Type} (xs : List α) (lo hi : Option Int) : List α := (xs.drop (HT.sIx xs.length 0 lo)).take (HT.sIx xs.length xs.length hi - HT.sIx xs.length 0 lo)
section
variable {K : Fr} {σ : L2.St} {H : Hp} {Q : VK} {D : Ends} {Rs : List Res} {E : XK} {t u : TS} {α β : Type}
theorem v_iff {b : Bool} {A B X Y : Prop} (hf : if b = true then X else Y) (h1 : b = true -> X -> A) (h2 : b = false -> Y -> B) : if b = true then A else B := by
 cases b with
 | true => exact h1 rfl (by simpa using hf)
 | false => exact h2 rfl (by simpa using hf)
theorem M.openQ {v : V} {ds : List PyData} (S : M (da K v (.list ds) :: Rs) H) : ∃ a vs, v = .ref a /\ M (rdL K a vs :: daA K vs ds :: Rs) H := by
 obtain ⟨F, L, ⟨l1, l2, rfl, ⟨rfl, e⟩, b⟩, m⟩ := S
 cases e with
 | lst h1 h2 => exact ⟨_, _, rfl, F, l2, ⟨[], l2, rfl, ⟨rfl, h1⟩, [], l2, rfl, ⟨rfl, h2⟩, b⟩, m⟩
theorem DqAll.len : ∀ {vs : List V} {ds : List PyData}, DqAll K H vs ds -> vs.length = ds.length
 | _, _, .nil => rfl
 | _, _, .cons _ r => by rw [List.length_cons, List.length_cons, DqAll.len r]
theorem DqAll.at : ∀ {vs : List V} {ds : List PyData}, DqAll K H vs ds -> ∀ {i : Nat} {v : V} {d : PyData}, vs[i]? = some v -> ds[i]? = some d -> Dq K H v d
 | _, _, .nil, i, v, d, h, _ => by simp at h
 | _, _, .cons a r, 0, v, d, h, g => by
   cases (Option.some.inj (show some _ = some v from h))
   cases (Option.some.inj (show some _ = some d from g))
   exact a
 | _, _, .cons a r, i + 1, v, d, h, g => DqAll.at r (by simpa using h) (by simpa using g)
theorem M.gotAA {vs : List V} {ds : List PyData} (S : M Rs H) (i : Nat) (e : Rs[i]? = some (daA K vs ds)) : DqAll K H vs ds := by
 obtain ⟨F, L, s, m⟩ := S
 obtain ⟨l, h⟩ := s.get i e
 exact DqAll_ext m.ex h.2
theorem M.elA {e : α -> PyData} {vs : List V} {xs : List α} {i : Nat} {v : V} {x : α} (S : M Rs H) (j : Nat) (hj : Rs[j]? = some (daA K vs (xs.map e))) (hv : vs[i]? = some v) (hx : xs[i]? = some x) : M (da K v (e x) :: Rs) H :=
 S.addA λ F L s => by
   obtain ⟨l, h⟩ := s.get j hj
   exact h.2.at hv (by rw [List.getElem?_map, hx]; rfl)
theorem for_lst {F : α -> β -> (β -> Prop) -> Prop} {e : α -> PyData} {xs : List α} {vs : List V} {s0 : β} {KK : β -> Prop} {a : Addr} {g : TG} {tb : TS} (hf : forD F xs s0 KK) (Inv : β -> L2.St -> Hp -> Prop) (h0 : Inv s0 σ H)
   (hrd : ∀ s σ H, Inv s σ H -> SqL K H a vs /\ DqAll K H vs (xs.map e))
   (hs : ∀ (i : Nat) v x s σ H (kk : β -> Prop), Inv s σ H -> vs[i]? = some v -> xs[i]? = some x -> F x s kk -> g v σ H λ σ2 H2 => tb ⟨λ σ H => ∃ s', kk s' /\ Inv s' σ H, D.rt, D.nx, λ σ H => ∃ s', kk s' /\ Inv s' σ H⟩ σ2 H2)
   (hd : ∀ s σ H, KK s -> Inv s σ H -> D.nx σ H) : ForW (Itl K a) g tb D σ H := by
 have hl : vs.length = xs.length := by
   have := (hrd s0 σ H h0).2.len
   rwa [List.length_map] at this
 refine for_W walk_list (λ i σ H => ∃ s, forD F (xs.drop i) s KK /\ Inv s σ H) ⟨s0, by simpa using hf, h0⟩ (λ i σ H _ ⟨s, _, h⟩ => (hrd s σ H h).1) ?_ ?_
 · rintro i v σ H H' hi ⟨s, hf, h⟩ ⟨rfl, hv⟩
   have hi2 : i < xs.length := by omega
   rw [List.drop_eq_getElem_cons hi2] at hf
   exact hs i v _ s σ H' _ h hv (List.getElem?_eq_getElem hi2) hf
 · rintro σ H ⟨s, hf, h⟩
   rw [hl, List.drop_length] at hf
   exact hd s σ H hf h
theorem rng_len (n : Int) : (rng n).length = n.toNat := by simp [rng]
theorem rng_get {n : Int} {i : Nat} (h : i < n.toNat) : (rng n)[i]? = some ((0 : Int) + (i : Nat)) := by
 unfold rng
 rw [List.getElem?_map, List.getElem?_range h]
 rfl
theorem for_rng {F : Int -> β -> (β -> Prop) -> Prop} {n : Int} {s0 : β} {KK : β -> Prop} {g : TG} {tb : TS} (hf : forD F (rng n) s0 KK) (Inv : β -> L2.St -> Hp -> Prop) (h0 : Inv s0 σ H)
   (hs : ∀ x s σ H (kk : β -> Prop), Inv s σ H -> F x s kk -> g (.int x) σ H λ σ2 H2 => tb ⟨λ σ H => ∃ s', kk s' /\ Inv s' σ H, D.rt, D.nx, λ σ H => ∃ s', kk s' /\ Inv s' σ H⟩ σ2 H2)
   (hd : ∀ s σ H, KK s -> Inv s σ H -> D.nx σ H) : ForW (Itr 0 n.toNat) g tb D σ H := by
 refine for_W walk_range (λ i σ H => ∃ s, forD F ((rng n).drop i) s KK /\ Inv s σ H) ⟨s0, by simpa using hf, h0⟩ (λ _ _ _ _ _ => trivial) ?_ ?_
 · rintro i v σ H H' hi ⟨s, hf, h⟩ ⟨rfl, rfl⟩
   have hi2 : i < (rng n).length := by rw [rng_len]; exact hi
   rw [List.drop_eq_getElem_cons hi2] at hf
   have e : (rng n)[i] = (0 : Int) + (i : Nat) := Option.some.inj ((List.getElem?_eq_getElem hi2).symm.trans (rng_get hi))
   rw [e] at hf
   exact hs _ s σ H' _ h hf
 · rintro σ H ⟨s, hf, h⟩
   rw [<- rng_len, List.drop_length] at hf
   exact hd s σ H hf h
def acR (K : Fr) (E : Addr) (ds : List PyData) : Res := exi λ vs => sp2 (pt E (.lst vs)) (daA K vs ds)
theorem acR_nil {E : Addr} (S : M (pt E (.lst []) :: Rs) H) : M (acR K E [] :: Rs) H := by
 obtain ⟨F, L, ⟨l1, l2, rfl, a, b⟩, m⟩ := S
 exact ⟨F, _, ⟨l1, l2, rfl, ⟨[], l1, [], by simp, a, rfl, .nil⟩, b⟩, m⟩
theorem acR_fix {E : Addr} {ds : List PyData} (S : M (acR K E ds :: Rs) H) : M (da K (.ref E) (.list ds) :: Rs) H := by
 obtain ⟨vs, S⟩ := S.ex
 obtain ⟨F, L, ⟨l1, l2, rfl, ⟨rfl, fp⟩, l3, l4, rfl, ⟨rfl, q⟩, b⟩, m⟩ := S.sp.fix
 exact ⟨F, l4, ⟨[], l4, rfl, ⟨rfl, .lst (.inl (.inl fp)) q⟩, b⟩, m⟩
theorem DqAll.snoc {v : V} {d : PyData} (h : Dq K H v d) : ∀ {vs : List V} {ds : List PyData}, DqAll K H vs ds -> DqAll K H (vs ++ [v]) (ds ++ [d])
 | _, _, .nil => .cons h .nil
 | _, _, .cons a r => .cons a (DqAll.snoc h r)
theorem acR_put {N : Hp -> Prop} {E : Addr} {ds : List PyData} {y : V} {d : PyData} (S : M Rs H) (j : Nat) (hj : Rs[j]? = some (acR K E ds)) (h : EnF Rs (λ F => Dq K F y d)) (hz : ds.length < 100000) (k : ∀ H', M (acR K E (ds ++ [d]) :: Rs.eraseIdx j) H' -> N H') : LcK N E y H := by
 have S0 : M (da K y d :: Rs) H := S.addA h
 have S1 : M (acR K E ds :: da K y d :: Rs.eraseIdx j) H := (S0.at (j + 1) (by simpa using hj))
 obtain ⟨vs, S2⟩ := S1.ex
 have S3 := S2.sp
 have hl : vs.length = ds.length := (S3.gotAA 1 rfl).len
 refine ⟨vs, S3.got 0 rfl, Nat.lt_of_lt_of_le (by rw [hl]; exact hz) (by decide), k _ ?_⟩
 have S4 := S3.putAt (o' := .lst (vs ++ [y])) 0 rfl
 obtain ⟨F, L, ⟨l1, l2, rfl, a, l3, l4, rfl, ⟨rfl, q⟩, l5, l6, rfl, ⟨rfl, q2⟩, b⟩, m⟩ := S4
 exact ⟨F, _, ⟨l1, l6, by simp, ⟨vs ++ [y], l1, [], by simp, a, rfl, DqAll.snoc q2 q⟩, b⟩, m⟩
theorem lc_lst {te : TE} {tt : TT} {g : TG} {ws : List Nat} {F : α -> (Option β -> Prop) -> Prop} {e : α -> PyData} {e' : β -> PyData} {xs : List α} {vs : List V} {KK : List β -> Prop} {a : Addr} (hf : xs.length <= 100000 /\ lcD F xs [] KK) (S : M Rs H)
   (hrd : ∀ H, M Rs H -> SqL K H a vs /\ DqAll K H vs (xs.map e))
   (hs : ∀ (i : Nat) v x (acc : List β) E H (kk : Option β -> Prop) (N : Hp -> Prop), (acc.map e').length < 100000 -> M (acR K E (acc.map e') :: Rs) H -> vs[i]? = some v -> xs[i]? = some x -> F x kk ->
     (∀ y H, kk (some y) -> M (acR K E (acc.map e' ++ [e' y]) :: Rs) H -> N H) -> (∀ H, kk none -> M (acR K E (acc.map e') :: Rs) H -> N H) -> g v (wipe σ ws) H λ σ2 H2 => wipe σ2 ws = wipe σ ws /\ tt σ2 H2 λ b H3 =>
     if b = true then te σ2 H3 (LcK N E) else N H3)
   (hd : ∀ E (acc : List β) H, KK acc -> M (acR K E (acc.map e') :: Rs) H -> Q (.ref E) H) : LcW (Itl K a) g tt te ws σ Q H := by
 obtain ⟨hz, hf⟩ := hf
 have hl : vs.length = xs.length := by
   have := (hrd H S).2.len
   rwa [List.length_map] at this
 refine lc_X walk_list (λ E i H => ∃ acc, lcD F (xs.drop i) acc KK /\ acc.length <= i /\ M (acR K E (acc.map e') :: Rs) H) (λ E hE => ⟨[], by simpa using hf, Nat.le_refl _, acR_nil (S.new hE)⟩) (λ E i H _ ⟨acc, _, _, S⟩ => (hrd H S.tl).1) ?_ ?_
 · rintro E i v H H' hi ⟨acc, hf, ha, S⟩ ⟨rfl, hv⟩
   have hi2 : i < xs.length := by omega
   rw [List.drop_eq_getElem_cons hi2] at hf
   refine hs i v _ acc E H' _ _ (by rw [List.length_map]; omega) S hv (List.getElem?_eq_getElem hi2) hf (λ y H hk S => ⟨acc ++ [y], hk, by rw [List.length_append]; simpa using ha, by rw [List.map_append]; exact S⟩) (λ H hk S => ⟨acc, ?_, by omega, S⟩)
   simpa using hk
 · rintro E H ⟨acc, hf, ha, S⟩
   rw [hl, List.drop_length] at hf
   exact hd E acc H hf S
theorem lc_rng {te : TE} {tt : TT} {g : TG} {ws : List Nat} {F : Int -> (Option β -> Prop) -> Prop} {e' : β -> PyData} {n : Int} {KK : List β -> Prop} (hf : (rng n).length <= 100000 /\ lcD F (rng n) [] KK) (S : M Rs H)
   (hs : ∀ x (acc : List β) E H (kk : Option β -> Prop) (N : Hp -> Prop), (acc.map e').length < 100000 -> M (acR K E (acc.map e') :: Rs) H -> F x kk ->
     (∀ y H, kk (some y) -> M (acR K E (acc.map e' ++ [e' y]) :: Rs) H -> N H) -> (∀ H, kk none -> M (acR K E (acc.map e') :: Rs) H -> N H) -> g (.int x) (wipe σ ws) H λ σ2 H2 => wipe σ2 ws = wipe σ ws /\ tt σ2 H2 λ b H3 =>
     if b = true then te σ2 H3 (LcK N E) else N H3)
   (hd : ∀ E (acc : List β) H, KK acc -> M (acR K E (acc.map e') :: Rs) H -> Q (.ref E) H) : LcW (Itr 0 n.toNat) g tt te ws σ Q H := by
 obtain ⟨hz, hf⟩ := hf
 rw [rng_len] at hz
 refine lc_X walk_range (λ E i H => ∃ acc, lcD F ((rng n).drop i) acc KK /\ acc.length <= i /\ M (acR K E (acc.map e') :: Rs) H) (λ E hE => ⟨[], by simpa using hf, Nat.le_refl _, acR_nil (S.new hE)⟩) (λ E i H _ _ => trivial) ?_ ?_
 · rintro E i v H H' hi ⟨acc, hf, ha, S⟩ ⟨rfl, rfl⟩
   have hi2 : i < (rng n).length := by rw [rng_len]; exact hi
   rw [List.drop_eq_getElem_cons hi2] at hf
   have e : (rng n)[i] = (0 : Int) + (i : Nat) := Option.some.inj ((List.getElem?_eq_getElem hi2).symm.trans (rng_get hi))
   rw [e] at hf
   refine hs _ acc E H' _ _ (by rw [List.length_map]; omega) S hf (λ y H hk S => ⟨acc ++ [y], hk, by rw [List.length_append]; simpa using ha, by rw [List.map_append]; exact S⟩) (λ H hk S => ⟨acc, ?_, by omega, S⟩)
   simpa using hk
 · rintro E H ⟨acc, hf, ha, S⟩
   rw [<- rng_len, List.drop_length] at hf
   exact hd E acc H hf S
theorem M.fixG {p : Addr} {o : HO} {R : Res} {φ : Hp -> Prop} (S : M (pt p o :: Rs) H) (h : EnF Rs φ) (k : ∀ F, φ F -> F p = some o -> R.on F []) : M (R :: Rs) H := by
 obtain ⟨F, L, ⟨l1, l2, rfl, ⟨rfl, fp⟩, s⟩, m⟩ := S.fix
 exact ⟨F, l2, ⟨[], l2, rfl, k F (h F l2 s) fp, s⟩, m⟩
theorem M.own {p : Addr} {vs : List V} {ds : List PyData} (S : M (pt p (.lst vs) :: Rs) H) (h : EnF Rs (λ F => DqAll K F vs ds)) : M (acR K p ds :: Rs) H := by
 obtain ⟨F, L, ⟨l1, l2, rfl, a, b⟩, m⟩ := S
 exact ⟨F, _, ⟨l1, l2, rfl, ⟨vs, l1, [], by simp, a, rfl, h F l2 b⟩, b⟩, m⟩
theorem v_lsto {vs : List V} {ds : List PyData} (S : M Rs H) (h : EnF Rs (λ F => DqAll K F vs ds)) (hn : vs.length <= 100000) (k : ∀ p H', M (acR K p ds :: Rs) H' -> Q (.ref p) H') : LstK Q vs H :=
 v_lst S hn λ p H' S' => k p H' (S'.own h)
theorem v_tupq {vs : List V} {ds : List PyData} (S : M Rs H) (h : EnF Rs (λ F => DqAll K F vs ds)) (hn : vs.length <= 100000) (k : ∀ p H', M (da K (.ref p) (.tuple ds) :: Rs) H' -> Q (.ref p) H') : TupK Q vs H :=
 v_tup S hn λ p H' S' => k p H' (S'.fixG h λ F q fp => ⟨rfl, .tup (.inl (.inl fp)) q⟩)
theorem atI_get {γ : Type} {xs : List γ} {i : Int} {x : γ} (h : atI xs i = some x) : ∃ j, ixN xs.length i = some j /\ xs[j]? = some x := by
 unfold atI at h
 cases e : ixN xs.length i with
 | none => rw [e] at h; cases h
 | some j => rw [e] at h; exact ⟨j, rfl, h⟩
theorem atI_of {γ : Type} {xs : List γ} {i : Int} {x : γ} {j : Nat} (h1 : ixN xs.length i = some j) (h2 : xs[j]? = some x) : atI xs i = some x := by
 unfold atI
 rw [h1]
 exact h2
theorem DqAll.get {vs : List V} {ds : List PyData} {j : Nat} {d : PyData} (q : DqAll K H vs ds) (h : ds[j]? = some d) : ∃ v, vs[j]? = some v /\ Dq K H v d := by
 have hj : j < vs.length := by rw [q.len]; exact (List.getElem?_eq_some_iff.mp h).1
 exact ⟨_, List.getElem?_eq_getElem hj, q.at (List.getElem?_eq_getElem hj) h⟩
theorem v_ixq {v : V} {ds : List PyData} {i : Int} {d : PyData} (S : M Rs H) (hj : EnF Rs (λ F => Dq K F v (.list ds)) \/ EnF Rs (λ F => Dq K F v (.tuple ds))) (hx : atI ds i = some d) (k : ∀ u, M (da K u d :: Rs) H -> Q u H) : uIx K v (.int i) H Q := by
 obtain ⟨j, h1, h2⟩ := atI_get hx
 obtain ⟨F, L, s, m⟩ := S
 rcases hj with hj | hj
 · cases hj F L s with
   | lst a q =>
     obtain ⟨u, h3, h4⟩ := q.get h2
     exact v_ixL (m.ex.sqL a) (atI_of (by rw [q.len]; exact h1) h3) (k u ⟨F, L, ⟨[], L, rfl, ⟨rfl, h4⟩, s⟩, m⟩)
 · cases hj F L s with
   | tup a q =>
     obtain ⟨u, h3, h4⟩ := q.get h2
     exact v_ixT (m.ex.sqT a) (atI_of (by rw [q.len]; exact h1) h3) (k u ⟨F, L, ⟨[], L, rfl, ⟨rfl, h4⟩, s⟩, m⟩)
theorem atI_map {γ δ : Type} {f : γ -> δ} {xs : List γ} {i : Int} {x : γ} (h : atI xs i = some x) : atI (xs.map f) i = some (f x) := by
 obtain ⟨j, h1, h2⟩ := atI_get h
 exact atI_of (by rw [List.length_map]; exact h1) (by rw [List.getElem?_map, h2]; rfl)
theorem v_ixl {e : α -> PyData} {v : V} {xs : List α} {i : Int} {x : α} (S : M Rs H) (j : Nat) (hj : Rs[j]? = some (da K v (eL e xs))) (hx : atI xs i = some x) (k : ∀ u, M (da K u (e x) :: Rs) H -> Q u H) : uIx K v (.int i) H Q :=
 v_ixq S (.inl (EnF.at j hj)) (atI_map hx) k
theorem v_ixv {e : α -> PyData} {v : V} {xs : List α} {i : Int} {x : α} (S : M Rs H) (j : Nat) (hj : Rs[j]? = some (da K v (eV e xs))) (hx : atI xs i = some x) (k : ∀ u, M (da K u (e x) :: Rs) H -> Q u H) : uIx K v (.int i) H Q :=
 v_ixq S (.inr (EnF.at j hj)) (atI_map hx) k
theorem Dq.intV {v : V} {i : Int} (h : Dq K H v (.int i)) : v = .int i := by cases h; rfl
theorem Dq.strV {v : V} {i : Str} (h : Dq K H v (.str i)) : v = .str i := by cases h; rfl
theorem Dq.blV {v : V} {i : Bool} (h : Dq K H v (.bool i)) : v = .bl i := by cases h; rfl
theorem DqAll.takeA : ∀ {vs : List V} {ds : List PyData}, DqAll K H vs ds -> ∀ n, DqAll K H (vs.take n) (ds.take n)
 | _, _, .nil, n => by
   rw [List.take_nil, List.take_nil]
   exact .nil
 | _, _, .cons a r, 0 => .nil
 | _, _, .cons a r, n + 1 => .cons a (DqAll.takeA r n)
theorem DqAll.dropA : ∀ {vs : List V} {ds : List PyData}, DqAll K H vs ds -> ∀ n, DqAll K H (vs.drop n) (ds.drop n)
 | _, _, .nil, n => by
   rw [List.drop_nil, List.drop_nil]
   exact .nil
 | _, _, .cons a r, 0 => .cons a r
 | _, _, .cons a r, n + 1 => DqAll.dropA r n
theorem DqAll.app : ∀ {vs ws : List V} {ds es : List PyData}, DqAll K H vs ds -> DqAll K H ws es -> DqAll K H (vs ++ ws) (ds ++ es)
 | _, _, _, _, .nil, h => h
 | _, _, _, _, .cons a r, h => .cons a (DqAll.app r h)
theorem DqAll.cut {vs : List V} {ds : List PyData} (q : DqAll K H vs ds) (lo hi : Option Int) : DqAll K H (cutV vs lo hi) (cutL ds lo hi) := by
 unfold cutV cutL
 rw [q.len]
 exact (q.dropA _).takeA _
theorem cutL_map {γ δ : Type} (f : γ -> δ) (xs : List γ) (lo hi : Option Int) : cutL (xs.map f) lo hi = (cutL xs lo hi).map f := by
 unfold cutL
 rw [List.length_map, List.map_take, List.map_drop]
theorem len_ok {n : Nat} (h : Nat.ble n 100000 = true) : n <= 100000 := Nat.le_of_ble_eq_true h
theorem acR_fixL {e : α -> PyData} {E : Addr} {xs : List α} (S : M (acR K E (xs.map e) :: Rs) H) : M (da K (.ref E) (eL e xs) :: Rs) H := acR_fix S
theorem v_liq {e : α -> PyData} {v : V} {xs : List α} (S : M Rs H) (h : EnF Rs (λ F => Dq K F v (eL e xs)) \/ EnF Rs (λ F => Dq K F v (eV e xs))) (k : ∀ p H', M (acR K p (xs.map e) :: Rs) H' -> Q (.ref p) H') : rListOf K [v] H Q := by
 obtain ⟨F, L, s, m⟩ := S
 obtain ⟨a, vs, rfl, hs, q⟩ : ∃ a vs, v = .ref a /\ (SqL K F a vs \/ SqT K F a vs) /\ DqAll K F vs (xs.map e) := by
   rcases h with h | h
   · cases h F L s with
     | lst a q => exact ⟨_, _, rfl, .inl a, q⟩
   · cases h F L s with
     | tup a q => exact ⟨_, _, rfl, .inr a, q⟩
 refine v_list (⟨F, L, ⟨[], L, rfl, ⟨rfl, q⟩, s⟩, m⟩ : M (daA K _ (xs.map e) :: Rs) H) (hs.imp (λ z => m.ex.sqL z) (λ z => m.ex.sqT z)) λ p H' S' => k p H' ?_
 obtain ⟨F, L, ⟨l1, l2, rfl, a1, l3, l4, rfl, ⟨rfl, q1⟩, b⟩, m⟩ := S'
 exact ⟨F, _, ⟨l1, l4, rfl, ⟨_, l1, [], by simp, a1, rfl, q1⟩, b⟩, m⟩
theorem v_lenq {v : V} {ds : List PyData} (S : M Rs H) (h : EnF Rs (λ F => Dq K F v (.list ds)) \/ EnF Rs (λ F => Dq K F v (.tuple ds))) (k : Q (.int (ds.length : Nat)) H) : uLen K [v] H Q := by
 obtain ⟨F, L, s, m⟩ := S
 rcases h with h | h
 · cases h F L s with
   | lst a q => exact .inl ⟨_, _, rfl, .inl ⟨_, m.ex.sqL a, q.len.symm⟩, k⟩
 · cases h F L s with
   | tup a q => exact .inl ⟨_, _, rfl, .inr ⟨_, m.ex.sqT a, q.len.symm⟩, k⟩
theorem v_lenl {e : α -> PyData} {v : V} {xs : List α} (S : M Rs H) (j : Nat) (hj : Rs[j]? = some (da K v (eL e xs))) (k : Q (.int (xs.length : Nat)) H) : uLen K [v] H Q :=
 v_lenq S (.inl (EnF.at j hj)) (by rw [List.length_map]; exact k)
theorem v_lenv {e : α -> PyData} {v : V} {xs : List α} (S : M Rs H) (j : Nat) (hj : Rs[j]? = some (da K v (eV e xs))) (k : Q (.int (xs.length : Nat)) H) : uLen K [v] H Q :=
 v_lenq S (.inr (EnF.at j hj)) (by rw [List.length_map]; exact k)
theorem M.tyO {p : Addr} {ds : List PyData} {φ : Prop} (S : M Rs H) (j : Nat) (hj : Rs[j]? = some (acR K p ds)) (k : φ) : tyV K "list" (.ref p) H /\ φ := by
 obtain ⟨vs, S1⟩ := (S.at j hj).ex
 exact v_tyL (SqL.of (S1.sp.got 0 rfl)) k
theorem v_apo {p : Addr} {ds : List PyData} {y : V} {d : PyData} (S : M Rs H) (j : Nat) (hj : Rs[j]? = some (acR K p ds)) (h : EnF Rs (λ F => Dq K F y d)) (hz : ds.length < 100000) (k : ∀ H', M (acR K p (ds ++ [d]) :: Rs.eraseIdx j) H' -> Q .non H') : rAppend (.ref p) [y] H Q := by
 have S0 : M (da K y d :: Rs) H := S.addA h
 have S1 : M (acR K p ds :: da K y d :: Rs.eraseIdx j) H := (S0.at (j + 1) (by simpa using hj))
 obtain ⟨vs, S2⟩ := S1.ex
 have S3 := S2.sp
 have hl : vs.length = ds.length := (S3.gotAA 1 rfl).len
 refine v_app S3 0 rfl (by rw [hl]; exact hz) λ H' S4 => k H' ?_
 obtain ⟨F, L, ⟨l1, l2, rfl, a, l3, l4, rfl, ⟨rfl, q⟩, l5, l6, rfl, ⟨rfl, q2⟩, b⟩, m⟩ := S4
 exact ⟨F, _, ⟨l1, l6, by simp, ⟨vs ++ [y], l1, [], by simp, a, rfl, DqAll.snoc q2 q⟩, b⟩, m⟩
theorem v_apl {e : α -> PyData} {p : Addr} {xs : List α} {y : V} {x : α} (S : M Rs H) (j : Nat) (hj : Rs[j]? = some (acR K p (xs.map e))) (h : EnF Rs (λ F => Dq K F y (e x))) (hz : xs.length < 100000) (k : ∀ H', M (acR K p ((xs ++ [x]).map e) :: Rs.eraseIdx j) H' -> Q .non H') : rAppend (.ref p) [y] H Q :=
 v_apo S j hj h (by rw [List.length_map]; exact hz) λ H' S' => k H' (by rw [List.map_append]; exact S')
end
end RC

namespace RC
open PySem PySem.Spec PyProof.Rows L2
section
variable {κ α : Type} [DecidableEq κ]
def lk (m : List (κ × α)) (k : κ) : Option α := (m.find? λ p => decide (p.1 = k)).map (·.2)
def pk (m : List (κ × α)) (k : κ) (x : α) : List (κ × α) := if (m.any λ p => decide (p.1 = k)) = true then m.map (λ p => if p.1 = k then (p.1, x) else p) else m ++ [(k, x)]
def dk (m : List (κ × α)) (k : κ) : List (κ × α) := m.filter λ p => decide (p.1 ≠ k)
def ks (m : List (κ × α)) : List κ := m.map (·.1)
theorem lk_cons (p : κ × α) (m : List (κ × α)) (k : κ) : lk (p :: m) k = if p.1 = k then some p.2 else lk m k := by
 unfold lk
 rw [List.find?_cons]
 by_cases h : p.1 = k
 · simp [h]
 · simp [h]
theorem any_lk (m : List (κ × α)) (k : κ) : (m.any λ p => decide (p.1 = k)) = (lk m k).isSome := by
 induction m with
 | nil => rfl
 | cons p m ih =>
   rw [List.any_cons, ih, lk_cons]
   by_cases h : p.1 = k
   · simp [h]
   · simp [h]
end
inductive TKv {κ α : Type} (K : Fr) (H : Hp) (ik : κ -> Key) (e : α -> PyData) : List (Key × V) -> List (κ × α) -> Prop
 | nil : TKv K H ik e [] []
 | cons {k : κ} {v : V} {x : α} {r : List (Key × V)} {m : List (κ × α)} (h : Dq K H v (e x)) (t : TKv K H ik e r m) : TKv K H ik e ((ik k, v) :: r) ((k, x) :: m)
section
variable {κ α : Type} {K : Fr} {H H' : Hp} {ik : κ -> Key} {e : α -> PyData} {kvs : List (Key × V)} {m : List (κ × α)}
theorem TKv.ext (x : Ext H H') : ∀ {kvs : List (Key × V)} {m : List (κ × α)}, TKv K H ik e kvs m -> TKv K H' ik e kvs m
 | _, _, .nil => .nil
 | _, _, .cons h t => .cons (Dq_ext x h) (TKv.ext x t)
theorem TKv.kv : ∀ {kvs : List (Key × V)} {m : List (κ × α)}, TKv K H ik e kvs m -> DqKv K H kvs (m.map λ p => (kD (ik p.1), e p.2))
 | _, _, .nil => .nil
 | _, _, .cons h t => .cons h (TKv.kv t)
theorem TKv.len : ∀ {kvs : List (Key × V)} {m : List (κ × α)}, TKv K H ik e kvs m -> kvs.length = m.length
 | _, _, .nil => rfl
 | _, _, .cons h t => by rw [List.length_cons, List.length_cons, TKv.len t]
variable [DecidableEq κ]
theorem TKv.some (inj : ∀ a b, ik a = ik b -> a = b) {k : κ} {x : α} : ∀ {kvs : List (Key × V)} {m : List (κ × α)}, TKv K H ik e kvs m -> lk m k = some x -> ∃ v, valV kvs (ik k) = Option.some v /\ Dq K H v (e x)
 | _, _, .nil, h => by cases h
 | _, _, .cons (k := k') h t, g => by
   rw [lk_cons] at g
   by_cases z : k' = k
   · subst z
     rw [if_pos rfl] at g
     cases g
     exact ⟨_, valV_pos rfl, h⟩
   · rw [if_neg z] at g
     obtain ⟨v, a, b⟩ := TKv.some inj t g
     exact ⟨v, by rw [valV_neg (λ q => z (inj _ _ q))]; exact a, b⟩
theorem TKv.none (inj : ∀ a b, ik a = ik b -> a = b) {k : κ} : ∀ {kvs : List (Key × V)} {m : List (κ × α)}, TKv K H ik e kvs m -> lk m k = none -> valV kvs (ik k) = Option.none
 | _, _, .nil, h => rfl
 | _, _, .cons (k := k') h t, g => by
   rw [lk_cons] at g
   by_cases z : k' = k
   · subst z
     rw [if_pos rfl] at g
     cases g
   · rw [if_neg z] at g
     rw [valV_neg (λ q => z (inj _ _ q))]
     exact TKv.none inj t g
theorem TKv.isSome (inj : ∀ a b, ik a = ik b -> a = b) (t : TKv K H ik e kvs m) (k : κ) : (valV kvs (ik k)).isSome = (lk m k).isSome := by
 cases h : lk m k with
 | none =>
   rw [t.none inj h]
   rfl
 | some x =>
   obtain ⟨v, a, _⟩ := t.some inj h
   rw [a]
   rfl
theorem TKv.app {r : List (Key × V)} {n : List (κ × α)} (b : TKv K H ik e r n) : ∀ {kvs : List (Key × V)} {m : List (κ × α)}, TKv K H ik e kvs m -> TKv K H ik e (kvs ++ r) (m ++ n)
 | _, _, .nil => b
 | _, _, .cons h t => .cons h (TKv.app b t)
theorem TKv.upd (inj : ∀ a b, ik a = ik b -> a = b) {k : κ} {x : α} {v : V} (d : Dq K H v (e x)) : ∀ {kvs : List (Key × V)} {m : List (κ × α)}, TKv K H ik e kvs m ->
   TKv K H ik e (kvs.map λ kv => if kv.1 = ik k then (kv.1, v) else kv) (m.map λ p => if p.1 = k then (p.1, x) else p)
 | _, _, .nil => .nil
 | _, _, .cons (k := k') h t => by
   rw [List.map_cons, List.map_cons]
   by_cases z : k' = k
   · subst z
     rw [if_pos rfl, if_pos rfl]
     exact .cons d (TKv.upd inj d t)
   · rw [if_neg (λ q => z (inj _ _ q)), if_neg z]
     exact .cons h (TKv.upd inj d t)
theorem TKv.put (inj : ∀ a b, ik a = ik b -> a = b) {k : κ} {x : α} {v : V} (t : TKv K H ik e kvs m) (d : Dq K H v (e x)) : TKv K H ik e (putK kvs (ik k) v) (pk m k x) := by
 unfold putK pk
 rw [any_lk m k, valV_any (ik k) kvs, t.isSome inj]
 cases lk m k with
 | none =>
   rw [if_neg (by simp), if_neg (by simp)]
   exact TKv.app (.cons d .nil) t
 | some y =>
   rw [if_pos (by rfl), if_pos (by rfl)]
   exact TKv.upd inj d t
theorem TKv.drop (inj : ∀ a b, ik a = ik b -> a = b) {k : κ} : ∀ {kvs : List (Key × V)} {m : List (κ × α)}, TKv K H ik e kvs m -> TKv K H ik e (dropK kvs (ik k)) (dk m k)
 | _, _, .nil => .nil
 | _, _, .cons (k := k') h t => by
   have ih := TKv.drop (k := k) inj t
   unfold dropK dk at ih ⊢
   by_cases z : k' = k
   · subst z
     rw [List.filter_cons_of_neg (by simp), List.filter_cons_of_neg (by simp)]
     exact ih
   · rw [List.filter_cons_of_pos (by simpa using λ q => z (inj _ _ q)), List.filter_cons_of_pos (by simpa using z)]
     exact .cons h ih
end
theorem injS (a b : Str) (h : iS a = iS b) : a = b := Sum.inr.inj h
section
variable {κ α : Type} {K : Fr} {ik : κ -> Key} {e : α -> PyData} {m : List (κ × α)} {Rs : List Res} {H : Hp} {Q : VK} {σ : L2.St} {D : Ends} {p : Addr}
def tkR (K : Fr) (ik : κ -> Key) (e : α -> PyData) (kvs : List (Key × V)) (m : List (κ × α)) : Res := ⟨λ F l => l = [] /\ TKv K F ik e kvs m, λ _ _ _ x h => ⟨h.1, TKv.ext x h.2⟩⟩
def adR (K : Fr) (ik : κ -> Key) (e : α -> PyData) (p : Addr) (m : List (κ × α)) : Res := exi λ kvs => sp2 (pt p (.dK kvs)) (tkR K ik e kvs m)
theorem M.gotT {kvs : List (Key × V)} (S : M Rs H) (i : Nat) (h : Rs[i]? = some (tkR K ik e kvs m)) : TKv K H ik e kvs m := by
 obtain ⟨F, L, s, mm⟩ := S
 obtain ⟨l, h⟩ := s.get i h
 exact TKv.ext mm.ex h.2
theorem adR_open (S : M Rs H) (j : Nat) (hj : Rs[j]? = some (adR K ik e p m)) : ∃ kvs, M (pt p (.dK kvs) :: tkR K ik e kvs m :: Rs.eraseIdx j) H := by
 obtain ⟨kvs, S1⟩ := (S.at j hj).ex
 exact ⟨kvs, S1.sp⟩
theorem v_dnewo (S : M Rs H) (k : ∀ p H', M (adR K ik e p ([] : List (κ × α)) :: Rs) H' -> Q (.ref p) H') : tDNewK σ H Q := v_dnew S λ p H' S' => k p H' (by
 obtain ⟨F, L, ⟨l1, l2, rfl, a, b⟩, mm⟩ := S'
 exact ⟨F, _, ⟨l1, l2, rfl, ⟨[], l1, [], by simp, a, rfl, .nil⟩, b⟩, mm⟩)
variable [DecidableEq κ]
theorem putd_core {k : κ} {x : α} {y : V} (inj : ∀ a b, ik a = ik b -> a = b) (S : M Rs H) (j : Nat) (hj : Rs[j]? = some (adR K ik e p m)) (h : EnF Rs (λ F => Dq K F y (e x))) :
   ∃ kvs, H p = some (.dK kvs) /\ kvs.length = m.length /\ M (adR K ik e p (pk m k x) :: Rs.eraseIdx j) (upd H p (.dK (putK kvs (ik k) y))) := by
 have S0 : M (da K y (e x) :: Rs) H := S.addA h
 obtain ⟨kvs, S1⟩ := adR_open S0 (j + 1) (by simpa using hj)
 have hl := (S1.gotT 1 rfl).len
 refine ⟨kvs, S1.got 0 rfl, hl, ?_⟩
 have S2 := S1.putAt (o' := .dK (putK kvs (ik k) y)) 0 rfl
 obtain ⟨F, L, ⟨l1, l2, rfl, a, l3, l4, rfl, ⟨rfl, t⟩, l5, l6, rfl, ⟨rfl, d⟩, b⟩, mm⟩ := S2
 exact ⟨F, _, ⟨l1, l6, by simp, ⟨_, l1, [], by simp, a, rfl, t.put inj d⟩, b⟩, mm⟩
theorem v_putdS {e : α -> PyData} {m : List (Str × α)} {n : Str} {x : α} {y : V} {Q : Hp -> Prop} (S : M Rs H) (j : Nat) (hj : Rs[j]? = some (adR K iS e p m)) (h : EnF Rs (λ F => Dq K F y (e x))) (hz : m.length < 100000)
   (k : ∀ H', M (adR K iS e p (pk m n x) :: Rs.eraseIdx j) H' -> Q H') : uSet (.ref p) (.str n) y H Q := by
 obtain ⟨kvs, h1, h2, S2⟩ := putd_core (k := n) injS S j hj h
 exact .inr ⟨p, _, rfl, DPut.k (k := Sum.inr n) h1 (Nat.lt_of_lt_of_le (by rw [h2]; exact hz) (by decide)), k _ S2⟩
end
end RC
namespace RC
open PySem PySem.Spec PyProof.Rows L2
def leS (a b : Str) : Bool := !ltCps b.cps.toList a.cps.toList
def srtS' (xs : List Str) : List Str := xs.mergeSort leS
section
variable {α : Type} {K : Fr} {e : α -> PyData} {Rs : List Res} {H : Hp} {Q : VK} {p : Addr}
theorem dqAll_strs : ∀ xs : List Str, DqAll K H (xs.map V.str) (xs.map eS)
 | [] => .nil
 | x :: r => .cons (.str x) (dqAll_strs r)
theorem M.ownS {q : Addr} {xs : List Str} (S : M (pt q (.lst (xs.map V.str)) :: Rs) H) : M (acR K q (xs.map eS) :: Rs) H := S.own (EnF.all λ F => dqAll_strs xs)
def atS (s : Str) (i : Int) : Option Str := if s.length <= 100000 then (atI s.cps.toList i).map λ c => ⟨#[c]⟩ else none
theorem v_ixs {s : Str} {i : Int} {c : Str} (h : atS s i = some c) (k : Q (.str c) H) : uIx K (.str s) (.int i) H Q := by
 unfold atS at h
 split at h
 · rename_i hz
   cases e : atI s.cps.toList i with
   | none => rw [e] at h; cases h
   | some n =>
     rw [e] at h
     cases h
     exact .inr (.inr ⟨s, i, n, rfl, rfl, Nat.le_trans hz (by decide), e, k⟩)
 · cases h
def rJoin (K : Fr) : V -> List V -> Hp -> VK -> Prop := λ x xs H Q => ∃ a p, ∃ ys : List Str, x = .str a /\ xs = [.ref p] /\ (SqL K H p (ys.map V.str) \/ SqT K H p (ys.map V.str)) /\ (ys.map (·.length)).sum + ys.length * a.length <= 16777216 /\ Q (.str (Txt.join a ys)) H
theorem g_m1 {r : V -> List V -> Hp -> VK -> Prop} {to te : TE} {σ : L2.St} (k : to σ H λ x H1 => (∃ a, x = .str a) /\ te σ H1 λ y H2 => r x [y] H2 Q) : tM1 r to te σ H Q := k
theorem v_isS {s : Str} {φ : Prop} (k : φ) : (∃ a, V.str s = .str a) /\ φ := ⟨⟨s, rfl⟩, k⟩
theorem DqAll.strs : ∀ {xs : List Str} {vs : List V}, DqAll K H vs (xs.map eS) -> vs = xs.map V.str
 | [], _, h => by cases h; rfl
 | x :: r, _, h => by
   cases h with
   | cons a t => rw [a.strV, DqAll.strs t]; rfl
theorem Dq.lstS {v : V} {xs : List Str} (d : Dq K H v (eL eS xs)) : ∃ a, v = .ref a /\ SqL K H a (xs.map V.str) := by
 cases d with
 | lst h q => exact ⟨_, rfl, by rw [<- q.strs]; exact h⟩
theorem v_join {s : Str} {v : V} {xs : List Str} (d : Dq K H v (eL eS xs)) (hz : (xs.map (·.length)).sum + xs.length * s.length <= 16777216) (k : Q (.str (Txt.join s xs)) H) : rJoin K (.str s) [v] H Q := by
 obtain ⟨a, rfl, h⟩ := d.lstS
 exact ⟨s, a, xs, rfl, rfl, .inl h, hz, k⟩
theorem v_addS {s t : Str} (h : s.length + t.length <= 100000) (k : Q (.str (s ++ t)) H) : uAdd K (.str s) (.str t) H Q := .inr (.inl ⟨s, t, rfl, rfl, Nat.le_trans h (by decide), k⟩)
theorem v_lenS {s : Str} (h : s.length <= 100000) (k : Q (.int (s.length : Nat)) H) : uLen K [.str s] H Q := .inl ⟨_, _, rfl, ⟨Nat.le_trans h (by decide), rfl⟩, k⟩
def inSt (c s : Str) : Option Bool := match c.cps.toList with
 | [n] => some (decide (n ∈ s.cps.toList))
 | _ => none
theorem v_inSt {c s : Str} {b : Bool} (h : inSt c s = some b) (k : Q (.bl b) H) : uIn K (.str c) (.str s) H Q := by
 obtain ⟨⟨l⟩⟩ := c
 unfold inSt at h
 match l, h with
 | [n], h =>
   cases h
   exact .inr (.inr (.inr ⟨_, _, rfl, rfl, by rw [show (⟨⟨[n]⟩⟩ : Str) = ⟨#[n]⟩ from rfl, PySem.StrLaws.found_one s n]; exact k⟩))
theorem v_ninSt {c s : Str} {b : Bool} (h : inSt c s = some b) (k : Q (.bl (!b)) H) : uNotIn K (.str c) (.str s) H Q := by
 obtain ⟨⟨l⟩⟩ := c
 unfold inSt at h
 match l, h with
 | [n], h =>
   cases h
   exact .inr (.inr (.inr ⟨_, _, rfl, rfl, by rw [show (⟨⟨[n]⟩⟩ : Str) = ⟨#[n]⟩ from rfl, PySem.StrLaws.found_one s n]; exact k⟩))
end
end RC

namespace RC
open PySem PySem.Spec PyProof.Rows L2
section
variable {α β : Type} {K : Fr} {σ : L2.St} {H : Hp} {Q : VK} {D : Ends} {Rs : List Res} {ta tb tc te : TE} {tt s : TT} {c1 c2 : Bool} {x y z : V} {p : Addr}
def Pu (te : TE) (σ : L2.St) (H : Hp) (x : V) : Prop := ∀ P : VK, P x H -> te σ H P
theorem g_andVP (h1 : Pu ta σ H (.bl c1)) (h2 : Pu tb σ H (.bl c2)) (k : Q (.bl (c1 && c2)) H) : tAndV ta tb σ H Q := h1 _ ⟨c1, rfl, by
 cases c1 with
 | true => exact h2 _ k
 | false => exact k⟩
theorem g_chainP {r r' : R2} (ha : Pu ta σ H x) (hb : Pu tb σ H y) (h1 : ∀ P : VK, P (.bl c1) H -> r x y H P) (hc : Pu tc σ H z) (h2 : ∀ P : VK, P (.bl c2) H -> r' y z H P) (k : Q (.bl (c1 && c2)) H) : tChain r r' ta tb tc σ H Q :=
 ha _ (hb _ (h1 _ ⟨c1, rfl, by
   cases c1 with
   | true => exact hc _ (h2 _ k)
   | false => exact k⟩))
theorem tt_cut {P : Bool -> Hp -> Prop} {m : (Bool -> Prop) -> Prop} {KK : Bool -> Prop} (hf : jn m KK) (Inv : Hp -> Prop) (h1 : ∀ (kk : Bool -> Prop) (P' : Bool -> Hp -> Prop), (∀ c H, kk c -> Inv H -> P' c H) -> m kk -> tt σ H P')
   (h2 : ∀ c H, KK c -> Inv H -> P c H) : tt σ H P := h1 KK P h2 hf
theorem te_cut {m : (Bool -> Prop) -> Prop} {KK : Bool -> Prop} (hf : jn m KK) (Inv : Hp -> Prop) (h1 : ∀ (kk : Bool -> Prop) (P' : VK), (∀ c H, kk c -> Inv H -> P' (.bl c) H) -> m kk -> te σ H P')
   (h2 : ∀ c H, KK c -> Inv H -> Q (.bl c) H) : te σ H Q := h1 KK Q h2 hf
theorem M.gotO {ds : List PyData} (S : M Rs H) (j : Nat) (hj : Rs[j]? = some (acR K p ds)) : Dq K H (.ref p) (.list ds) := by
 obtain ⟨vs, S1⟩ := (S.at j hj).ex
 exact .lst (SqL.of (S1.sp.got 0 rfl)) (S1.sp.gotAA 1 rfl)
abbrev EqOk (d : PyData) : Prop := SeqAt.shaped d = true
theorem EqOk.nodict {d : PyData} (h : EqOk d) : d.hasDict = false := PyData.hasDict_of_canLay d (SeqAt.canLay_of_shaped h)
theorem v_eqq {d e : PyData} (h1 : Dq K H x d) (h2 : Dq K H y e) (s1 : EqOk d) (s2 : EqOk e) (k : Q (.bl (PyData.eqv d e)) H) : uEq K x y H Q := v_eqD (h1.dp s1.nodict) (h2.dp s2.nodict) s1 s2 k
theorem v_neq {d e : PyData} (h1 : Dq K H x d) (h2 : Dq K H y e) (s1 : EqOk d) (s2 : EqOk e) (k : Q (.bl (!PyData.eqv d e)) H) : uNe K x y H Q := v_neD (h1.dp s1.nodict) (h2.dp s2.nodict) s1 s2 k
theorem v_itLe {a : Addr} {xs : List V} {v : V} {R : It -> Hp -> Prop} (e : v = .ref a) (h : SqL K H a xs) (k : R (Itl K a) H) : ItL K R v H := ⟨a, e, ⟨xs, h⟩, k⟩
def strL (s : Str) : List Str := s.cps.toList.map λ c => ⟨#[c]⟩
theorem g_iStr {R : It -> Hp -> Prop} (k : te σ H λ v H1 => ∃ x, v = .str x /\ R (Its x) H1) : iStr te σ H R := k
theorem for_str {F : Str -> β -> (β -> Prop) -> Prop} {z : Str} {s0 : β} {KK : β -> Prop} {g : TG} {tb : TS} (hf : forD F (strL z) s0 KK) (Inv : β -> L2.St -> Hp -> Prop) (h0 : Inv s0 σ H)
   (hs : ∀ x s σ H (kk : β -> Prop), Inv s σ H -> F x s kk -> g (.str x) σ H λ σ2 H2 => tb ⟨λ σ H => ∃ s', kk s' /\ Inv s' σ H, D.rt, D.nx, λ σ H => ∃ s', kk s' /\ Inv s' σ H⟩ σ2 H2)
   (hd : ∀ s σ H, KK s -> Inv s σ H -> D.nx σ H) : ForW (Its z) g tb D σ H := by
 have hl : (strL z).length = z.cps.size := by simp [strL]
 refine for_W walk_str (λ i σ H => ∃ s, forD F ((strL z).drop i) s KK /\ Inv s σ H) ⟨s0, by simpa using hf, h0⟩ (λ _ _ _ _ _ => trivial) ?_ ?_
 · rintro i v σ H H' hi ⟨s, hf, h⟩ ⟨rfl, c, hc, rfl⟩
   have hi2 : i < (strL z).length := by rw [hl]; exact hi
   rw [List.drop_eq_getElem_cons hi2] at hf
   have e : (strL z)[i] = ⟨#[c]⟩ := by
     have : (strL z)[i]? = some ⟨#[c]⟩ := by
       unfold strL
       rw [List.getElem?_map, Array.getElem?_toList, hc]
       rfl
     exact Option.some.inj ((List.getElem?_eq_getElem hi2).symm.trans this)
   rw [e] at hf
   exact hs _ s σ H' _ h hf
 · rintro σ H ⟨s, hf, h⟩
   rw [<- hl, List.drop_length] at hf
   exact hd s σ H hf h
theorem sqL_ty {a : Addr} {xs : List V} (h : SqL K H a xs) : TyX K H (.ref a) (.type "list") := by
 rcases h with (h | ⟨o, h⟩) | ⟨o, its, n, h, hc, _⟩
 · exact .base (.lst h)
 · exact .base (.frz h)
 · exact .kList h hc
theorem sqT_ty {a : Addr} {xs : List V} (h : SqT K H a xs) : TyX K H (.ref a) (.type "tuple") := by
 rcases h with (h | ⟨o, h⟩) | ⟨o, its, n, h, hc, _⟩
 · exact .base (.tup h)
 · exact .fTuple h
 · exact .kTuple h hc
def tyN : PyData -> String
 | .none => "NoneType"
 | .bool _ => "bool"
 | .int _ => "int"
 | .str _ => "str"
 | .list _ => "list"
 | .tuple _ => "tuple"
 | .dict _ => "dict"
def isA (c : String) (d : PyData) : Bool := decide (tyN d = c) || (decide (tyN d = "bool") && decide (c = "int"))
def rIsiD (K : Fr) : List V -> Hp -> VK -> Prop := λ xs H Q => ∃ (a : Addr) (kvs : List (Key × V)) (c : V) (u : Value) (b : Bool), xs = [.ref a, c] /\ ClsV c u /\ Rd H a (.dK kvs) /\ PySem.W.kitOne K (.type "dict") u = some b /\ Q (.bl b) H
theorem cr_isiD {X : Cx} : CallR X (.builtin "isinstance") (rIsiD X.K) := by
 intro pins s σ H xs us Q I r h
 obtain ⟨a, kvs, c, u, b, rfl, hc, hr, e, q⟩ := h
 obtain ⟨u1, u2, rfl, r1, r2⟩ := vals2 r
 cases (show u1 = Value.ref a from r1)
 have e2 := hc.eq r2
 subst e2
 obtain ⟨_, _, vs, _, o, es, ep, h1, h2, _⟩ := dk_rd I.hok hr
 exact PySem.W.kia_one PySem.W.kitx_dict I.kIn ⟨o, h1, h2.1⟩ e (λ z => nomatch z) λ tk => ⟨.bl b, H, I.tok tk, rfl, q⟩
def uIsi (K : Fr) : List V -> Hp -> VK -> Prop := λ xs H Q => rIsi K xs H Q \/ rIsiD K xs H Q
theorem cr_isiQ {X : Cx} : CallR X (.builtin "isinstance") (uIsi X.K) := call_isi.or cr_isiD
theorem Dn.ty {v : V} {d : PyData} (h : Dn K H v d) : TyX K H v (.type (tyN d)) \/ (∃ a kvs, v = .ref a /\ Rd H a (.dK kvs) /\ tyN d = "dict") := by
 cases h with
 | non => exact .inl (.base .non)
 | bl b => exact .inl (.base (.bl b))
 | int i => exact .inl (.base (.int i))
 | str x => exact .inl (.base (.str x))
 | lst h _ => exact .inl (sqL_ty h)
 | tup h _ => exact .inl (sqT_ty h)
 | dct h _ => exact .inr ⟨_, _, rfl, h, rfl⟩
theorem kit_all : ∀ t ∈ ["NoneType", "bool", "int", "str", "list", "tuple", "dict"], ∀ c ∈ ["int", "bool", "str", "list", "tuple", "dict"], kitB t c = some (decide (t = c) || (decide (t = "bool") && decide (c = "int"))) := by decide +kernel
theorem v_isq {v : V} {d : PyData} {c : String} {b : Bool} (h : Dn K H v d) (hc : c ∈ ["int", "bool", "str", "list", "tuple", "dict"]) (hb : isA c d = b) (k : Q (.bl b) H) : uIsi K [v, .ty c] H Q := by
 subst hb
 have kk := kit_ty (K := K) (kit_all (tyN d) (by cases d <;> simp [tyN]) c hc)
 rcases h.ty with z | ⟨a, kvs, rfl, hr, e⟩
 · exact .inl (v_isi z kk k)
 · rw [e] at kk
   refine .inr ⟨a, kvs, .ty c, _, _, rfl, .ty c, hr, kk, ?_⟩
   unfold isA at k
   rw [e] at k
   exact k
end
end RC

namespace RC
open PySem PySem.Spec PyProof.Rows L2
structure Fl {α : Type} (e : α -> PyData) (sv : α -> V) : Prop where
 to : ∀ {K : Fr} {H : Hp} {v : V} {x : α}, Dq K H v (e x) -> v = sv x
 of : ∀ (K : Fr) (H : Hp) (x : α), Dq K H (sv x) (e x)
theorem flI : Fl eI V.int := ⟨Dq.intV, λ _ _ x => .int x⟩
theorem flS : Fl eS V.str := ⟨Dq.strV, λ _ _ x => .str x⟩
theorem flB : Fl eB V.bl := ⟨Dq.blV, λ _ _ x => .bl x⟩
section
variable {α β : Type} {e : α -> PyData} {sv : α -> V} {K : Fr} {σ : L2.St} {H : Hp} {Q : VK} {D : Ends} {Rs : List Res} {v w : V} {xs ys : List α} {p : Addr}
theorem Fl.all (f : Fl e sv) : ∀ {vs : List V} {xs : List α}, DqAll K H vs (xs.map e) -> vs = xs.map sv
 | _, [], h => by cases h; rfl
 | _, x :: r, h => by
   cases h with
   | cons a t => rw [f.to a, Fl.all f t]; rfl
theorem Fl.ofA (f : Fl e sv) : ∀ xs : List α, DqAll K H (xs.map sv) (xs.map e)
 | [] => .nil
 | x :: r => .cons (f.of K H x) (Fl.ofA f r)
theorem Fl.lst (f : Fl e sv) (d : Dq K H v (eL e xs)) : ∃ a, v = .ref a /\ SqL K H a (xs.map sv) := by
 cases d with
 | lst h q => exact ⟨_, rfl, by rw [<- f.all q]; exact h⟩
theorem v_ixN (f : Fl e sv) (d : Dq K H v (eL e xs)) {i : Int} {x : α} (hx : atI xs i = some x) (k : Q (sv x) H) : uIx K v (.int i) H Q := by
 obtain ⟨a, rfl, h⟩ := f.lst d
 exact v_ixL h (atI_map hx) k
theorem v_lenN (d : Dq K H v (eL e xs)) (k : Q (.int (xs.length : Nat)) H) : uLen K [v] H Q := by
 cases d with
 | lst h q =>
   have := q.len
   rw [List.length_map] at this
   exact v_lenL h (by rw [this]; exact k)
theorem M.ownF (f : Fl e sv) {q : Addr} (S : M (pt q (.lst (xs.map sv)) :: Rs) H) : M (acR K q (xs.map e) :: Rs) H := S.own (EnF.all λ F => f.ofA xs)
theorem cutV_map (f : α -> V) (xs : List α) (lo hi : Option Int) : cutV (xs.map f) lo hi = (cutL xs lo hi).map f := cutL_map f xs lo hi
theorem v_slN (f : Fl e sv) (S : M Rs H) (d : Dq K H v (eL e xs)) {lo hi : Option Int} (k : ∀ p H', M (acR K p ((cutL xs lo hi).map e) :: Rs) H' -> Q (.ref p) H') : uSl K v lo hi H Q := by
 obtain ⟨a, rfl, h⟩ := f.lst d
 refine v_slL S h λ p H' S' => k p H' ?_
 rw [cutV_map] at S'
 exact S'.ownF f
theorem v_catN (f : Fl e sv) (S : M Rs H) (d : Dq K H v (eL e xs)) (d2 : Dq K H w (eL e ys)) (hz : xs.length + ys.length <= 100000) (k : ∀ p H', M (acR K p ((xs ++ ys).map e) :: Rs) H' -> Q (.ref p) H') : uAdd K v w H Q := by
 obtain ⟨a, rfl, h⟩ := f.lst d
 obtain ⟨b, rfl, h2⟩ := f.lst d2
 refine v_catS S h h2 (by rw [List.length_map, List.length_map]; exact hz) λ p H' S' => k p H' ?_
 rw [<- List.map_append] at S'
 exact S'.ownF f
theorem v_revN (f : Fl e sv) (S : M Rs H) (d : Dq K H v (eL e xs)) (k : ∀ p H', M (acR K p (xs.reverse.map e) :: Rs) H' -> Q (.ref p) H') : RevK K Q v H := by
 obtain ⟨a, rfl, h⟩ := f.lst d
 refine v_rev S h λ p H' S' => k p H' ?_
 rw [<- List.map_reverse] at S'
 exact S'.ownF f
theorem for_N (f : Fl e sv) {F : α -> β -> (β -> Prop) -> Prop} {s0 : β} {KK : β -> Prop} {g : TG} {tb : TS} (hf : forD F xs s0 KK) (Inv : β -> L2.St -> Hp -> Prop) (h0 : Inv s0 σ H)
   (hrd : ∀ s σ H, Inv s σ H -> Dq K H v (eL e xs))
   (hs : ∀ x s σ H (kk : β -> Prop), Inv s σ H -> F x s kk -> g (sv x) σ H λ σ2 H2 => tb ⟨λ σ H => ∃ s', kk s' /\ Inv s' σ H, D.rt, D.nx, λ σ H => ∃ s', kk s' /\ Inv s' σ H⟩ σ2 H2)
   (hd : ∀ s σ H, KK s -> Inv s σ H -> D.nx σ H) : ItL K (λ J H1 => ForW J g tb D σ H1) v H := by
 obtain ⟨a, rfl, h⟩ := f.lst (hrd s0 σ H h0)
 have hrd' : ∀ s σ H, Inv s σ H -> SqL K H a (xs.map sv) := λ s σ H h => by
   obtain ⟨b, eb, q⟩ := f.lst (hrd s σ H h)
   cases eb
   exact q
 refine v_itL h (for_lst (e := e) hf Inv h0 (λ s σ H h => ⟨hrd' s σ H h, f.ofA xs⟩) (λ i v x s σ H kk h hv hx hF => ?_) hd)
 rw [List.getElem?_map, hx] at hv
 cases hv
 exact hs x s σ H kk h hF
theorem lc_N (f : Fl e sv) {te : TE} {tt : TT} {g : TG} {ws : List Nat} {F : α -> (Option β -> Prop) -> Prop} {e' : β -> PyData} {KK : List β -> Prop} (hf : xs.length <= 100000 /\ lcD F xs [] KK) (S : M Rs H) (hrd : ∀ H, M Rs H -> Dq K H v (eL e xs))
   (hs : ∀ x (acc : List β) E H (kk : Option β -> Prop) (N : Hp -> Prop), (acc.map e').length < 100000 -> M (acR K E (acc.map e') :: Rs) H -> F x kk ->
     (∀ y H, kk (some y) -> M (acR K E (acc.map e' ++ [e' y]) :: Rs) H -> N H) -> (∀ H, kk none -> M (acR K E (acc.map e') :: Rs) H -> N H) -> g (sv x) (wipe σ ws) H λ σ2 H2 => wipe σ2 ws = wipe σ ws /\ tt σ2 H2 λ b H3 =>
     if b = true then te σ2 H3 (LcK N E) else N H3)
   (hd : ∀ E (acc : List β) H, KK acc -> M (acR K E (acc.map e') :: Rs) H -> Q (.ref E) H) : ItL K (λ J H1 => LcW J g tt te ws σ Q H1) v H := by
 obtain ⟨a, rfl, h⟩ := f.lst (hrd H S)
 refine v_itL h (lc_lst (e := e) hf S (λ H S => ⟨?_, f.ofA xs⟩) (λ i v x acc E H kk N hl S hv hx hF k1 k2 => ?_) hd)
 · obtain ⟨b, eb, q⟩ := f.lst (hrd H S)
   cases eb
   exact q
 · rw [List.getElem?_map, hx] at hv
   cases hv
   exact hs x acc E H kk N hl S hF k1 k2
theorem pk_len {κ γ : Type} [DecidableEq κ] (m : List (κ × γ)) (k : κ) (x : γ) : (pk m k x).length <= m.length + 1 := by
 unfold pk
 split
 · rw [List.length_map]; omega
 · rw [List.length_append]; exact Nat.le_refl _
end
end RC

namespace RC
open PySem PySem.Spec PyProof.Rows L2 SeqAt
section
variable {prog : Program} {w : World}
theorem tupEq (p q : Addr) (xs ys : Array Value) (m k : Nat) (dp dq : Option Addr) (tp tq : Array (Option Value)) (hz : xs.size = ys.size) : MeetsIn prog w (Builtin.«tuple.__eq__» ⟨[.ref p, .ref q], []⟩) (λ A R s => s.heap.get? p = some ⟨.type "tuple", dp, .seq xs m, tp⟩ /\ s.heap.get? q = some ⟨.type "tuple", dq, .seq ys k, tq⟩ /\
   (∀ j (i1 : j < xs.size) (i2 : j < ys.size), EqP prog w A.in1 s xs[j] ys[j] true) /\ R (.ok (.ret (.bool true))) s) := by
 intro A R s hh
 obtain ⟨h0, g0, d0, t0, o0⟩ := s
 obtain ⟨e1, e2, he, hR⟩ := hh
 have sb := AutoSeq1.sub_tuple_tuple
 have hl : (xs.toList.zip ys.toList).length = xs.size := by simp [hz]
 wp_walk using wpAny_loadPart' e1, wpAny_loadPart' e2, wpAny_forIn_list _ (λ r b s' => b.1 = none /\ s' = ⟨h0, g0, d0, t0, o0⟩ /\ ∃ i, r = (xs.toList.zip ys.toList).drop i) _
 case turn =>
   rintro ⟨x, y⟩ r b s' ⟨hb, rfl, i, hi⟩
   have lt : i < (xs.toList.zip ys.toList).length := by
     rcases Nat.lt_or_ge i (xs.toList.zip ys.toList).length with z | z
     · exact z
     · rw [List.drop_of_length_le z] at hi
       cases hi
   rw [List.drop_eq_getElem_cons lt] at hi
   obtain ⟨hxy, hr⟩ := List.cons.inj hi
   have i1 : i < xs.size := by omega
   have i2 : i < ys.size := by omega
   have ex : x = xs[i] := by simpa using congrArg Prod.fst hxy
   have ey : y = ys[i] := by simpa using congrArg Prod.snd hxy
   subst ex ey
   refine wpAny_bind (he i i1 i2 _ _ ?_)
   wp_walk
   exact ⟨rfl, rfl, i + 1, hr⟩
 case fin =>
   rintro ⟨b1, b2⟩ s' ⟨hb, rfl, i, hi⟩
   simp only at hb
   subst hb
   wp_walk
   show R (.ok (.ret (.bool (xs.size == ys.size)))) _
   rw [hz]
   simpa using hR
 case h => exact ⟨rfl, rfl, 0, rfl⟩
variable {A : Around} {s : Shared} {p q : Addr} {xs ys : Array Value}
theorem rc_tupEq (hp : s.heap.IsTuple p xs) (hq : s.heap.IsTuple q ys) (hz : xs.size = ys.size) (hu : A.units < cLine) (he : ∀ j (i1 : j < xs.size) (i2 : j < ys.size), EqP prog w A.in1 s xs[j] ys[j] true) (E Q : Value -> Shared -> Prop) (h : Q (.bool true) s) :
   wpAny (model prog w) A (richCompare .Eq (.ref p) (.ref q)) Q E s := by
 obtain ⟨⟨c1, d1, a1, b1⟩, o1, k1, n1, z1⟩ := id hp
 obtain ⟨⟨c2, d2, a2, b2⟩, o2, k2, n2, z2⟩ := id hq
 simp only at k1 z1 k2 z2
 subst k1 z1 k2 z2
 have t1 : s.TypeIs (.ref p) "tuple" := ⟨_, o1, rfl⟩
 have t2 : s.TypeIs (.ref q) "tuple" := ⟨_, o2, rfl⟩
 exact wpAny_richCompare_same_room (op := .Eq) t1 t2 F.slot_tuple_eq (call_meetsIn F.slot_tuple_eq t1 F.entry_tuple_eq (F.args_tuple_eq_2 _ _) (tupEq p q xs ys n1 n2 d1 d2 b1 b2 hz) ⟨o1, o2, he, (λ x => nomatch x), h⟩) hu
end
section
variable {prog : Program} {w : World} {A : Around} {s : Shared} {K : Type} [DecidableEq K] {knd : KeyKind prog w K}
end
end RC

namespace RC
open PySem PySem.Spec PyProof.Rows L2
def SysD (h : Heap) : Prop := ∃ o es ep, h.get? sysModules = some o /\ o.data = .dict es ep
def NDX (h : Heap) : Prop := h.NoDigits /\ SysD h
theorem SysD.keep {h h' : Heap} (x : SysD h) (k : ∀ b o, h.get? b = some o -> h'.get? b = some o) : SysD h' := by
 obtain ⟨o, es, ep, a, b⟩ := x
 exact ⟨o, es, ep, k _ _ a, b⟩
theorem SysD.ne {h : Heap} (x : SysD h) {a : Addr} {o : Obj} {vs : Array Value} {n : Nat} (e : h.get? a = some o) (d : o.data = .seq vs n) : a ≠ sysModules := by
 rintro rfl
 obtain ⟨o', es, ep, a1, b1⟩ := x
 rw [e] at a1
 cases a1
 rw [d] at b1
 cases b1
section
variable {X : Cx} {pins : List (Addr × Obj)} {σ : L2.St} {H : Hp} {s : Shared}
theorem key_reads {k : Key} {u : Value} {h : Heap} (hk : keyIs k u = true) : Reads h u (kD k) [] := by
 rcases keyIs_shape hk with ⟨i, t, rfl, rfl⟩ | ⟨x, t, rfl, rfl⟩
 · exact .int i t
 · exact .str x t
mutual
theorem Dn.reads (I : Inv X pins σ H s) (sy : SysD s.heap) : ∀ {v : V} {d : PyData}, Dn X.K H v d -> ∀ {u : Value}, RelV v u -> ∃ as, Reads s.heap u d as /\ sysModules ∉ as
 | _, _, .non, _, r => by cases r; exact ⟨_, .none, by simp⟩
 | _, _, .bl b, _, r => by cases r; exact ⟨_, .bool b, by simp⟩
 | _, _, .int i, _, r => by obtain ⟨t, rfl⟩ := r; exact ⟨_, .int i t, by simp⟩
 | _, _, .str x, _, r => by obtain ⟨t, rfl⟩ := r; exact ⟨_, .str x t, by simp⟩
 | _, _, .lst h q, _, r => by
   cases r
   obtain ⟨its, rv, ⟨o, n, ho, hc, _, hd⟩, _⟩ := I.list h
   obtain ⟨as, hr, hn⟩ := DnAll.reads I sy q rv
   refine ⟨_, .list ho hc hd hr, ?_⟩
   intro z
   rcases List.mem_cons.mp z with z | z
   · exact sy.ne ho hd z.symm
   · exact hn z
 | _, _, .tup h q, _, r => by
   cases r
   obtain ⟨its, rv, ⟨o, ho, hc, n, hd⟩, _⟩ := I.tuple h
   obtain ⟨as, hr, hn⟩ := DnAll.reads I sy q rv
   exact ⟨_, .tuple ho hc hd hr, hn⟩
 | _, _, .dct h q, _, r => by
   cases r
   obtain ⟨_, hm, vs, rv, o, es, ep, ho, hx, hd, hk, hp, _⟩ := dk_rd I.hok h
   obtain ⟨as, bs, h1, h2, n1, n2⟩ := DnKv.reads I sy q rv hp
   refine ⟨_, .dict ho hx.1 hd h1 h2, ?_⟩
   intro z
   rcases List.mem_cons.mp z with z | z
   · rw [<- z] at hm
     simp at hm
   · rcases List.mem_append.mp z with z | z
     · exact n1 z
     · exact n2 z
theorem DnAll.reads (I : Inv X pins σ H s) (sy : SysD s.heap) : ∀ {vs : List V} {ds : List PyData}, DnAll X.K H vs ds -> ∀ {us : List Value}, Vals vs us -> ∃ as, ReadsAll s.heap us ds as /\ sysModules ∉ as
 | _, _, .nil, _, r => by cases r; exact ⟨_, .nil, by simp⟩
 | _, _, .cons h t, _, r => by
   cases r with
   | cons r1 r2 =>
     obtain ⟨as, h1, n1⟩ := Dn.reads I sy h r1
     obtain ⟨bs, h2, n2⟩ := DnAll.reads I sy t r2
     exact ⟨_, .cons h1 h2, by simp [n1, n2]⟩
theorem DnKv.reads (I : Inv X pins σ H s) (sy : SysD s.heap) : ∀ {kvs : List (Key × V)} {ds : List (PyData × PyData)}, DnKv X.K H kvs ds -> ∀ {vs : List (Key × Value)} {es : List DictEntry}, KV kvs vs -> Pairs (mixKind X.prog X.w) es vs ->
   ∃ as bs, ReadsAll s.heap (es.map (·.key)) (ds.map (·.1)) as /\ ReadsAll s.heap (es.map (·.val)) (ds.map (·.2)) bs /\ sysModules ∉ as /\ sysModules ∉ bs
 | _, _, .nil, _, _, r, p => by
   cases r
   cases p
   exact ⟨_, _, .nil, .nil, by simp, by simp⟩
 | _, _, .cons h t, _, _, r, p => by
   cases r with
   | cons r1 r2 =>
     cases p with
     | cons k1 v1 p2 =>
       obtain ⟨e1, e2⟩ := r1
       obtain ⟨as, bs, h1, h2, n1, n2⟩ := DnKv.reads I sy t r2 p2
       rw [<- v1] at e2
       obtain ⟨cs, h3, n3⟩ := Dn.reads I sy h e2
       rw [<- e1] at k1
       exact ⟨_, _, .cons (key_reads k1) h1, .cons h3 h2, by simpa using n1, by simp [n3, n2]⟩
end
end
section
variable {X : Cx}
theorem SysD.now {pins : List (Addr × Obj)} {σ : L2.St} {H : Hp} {s : Shared} (x : SysD X.base) (I : Inv X pins σ H s) : SysD s.heap := x.keep λ b o e => (I.env0.bs b o e).1
def rReprQ (K : Fr) : List V -> Hp -> VK -> Prop := λ xs H Q => ∃ v d, xs = [v] /\ Dn K H v d /\ d.showable = true /\ d.depth <= 60 /\ d.shown.length <= sizeLine /\ Q (.str d.shown) H
theorem cr_reprQ (hy : SysD X.base) (hg : X.A.guards = some []) (hu : X.A.units + 64 < cLine) : CallR X (.builtin "repr") (rReprQ X.K) := by
 intro pins s σ H xs us Q I r h
 obtain ⟨v, d, rfl, hd, hs, hp, hz, q⟩ := h
 obtain ⟨u, rfl, ru⟩ := vals1 r
 obtain ⟨as, rd, ns⟩ := hd.reads I (hy.now I) ru
 cases hd with
 | non =>
   cases (show u = Value.none from ru)
   refine PySem.P.repr_of_none ⟨.str _, H, I.tok _, ⟨_, rfl⟩, ?_⟩
   simpa only [PyData.shown] using q
 | bl b =>
   cases (show u = Value.bool b from ru)
   refine PySem.P.repr_of_bool ⟨.str _, H, I.tok _, ⟨_, rfl⟩, ?_⟩
   simpa only [PyData.shown] using q
 | int i =>
   obtain ⟨t, rfl⟩ := ru
   refine PySem.P.repr_of_int (by simpa [PyData.showable] using hs) ⟨.str _, H, I.tok _, ⟨_, rfl⟩, ?_⟩
   simpa only [PyData.shown] using q
 | str x =>
   obtain ⟨t, rfl⟩ := ru
   refine PySem.P.repr_of_str ⟨.str _, H, I.tok _, ⟨_, rfl⟩, ?_⟩ (by simpa only [PyData.shown] using hz)
   simpa only [PyData.shown] using q
 | lst h1 h2 =>
   cases ru
   exact repr_of_reads' rd hs (λ _ => ns) hg (by omega) (λ _ _ e => e) (λ h' u tk k => ⟨.str _, H, I.kept k, ⟨_, rfl⟩, q⟩) hz
 | tup h1 h2 =>
   cases ru
   exact repr_of_reads' rd hs (λ _ => ns) hg (by omega) (λ _ _ e => e) (λ h' u tk k => ⟨.str _, H, I.kept k, ⟨_, rfl⟩, q⟩) hz
 | dct h1 h2 =>
   cases ru
   exact repr_of_reads' rd hs (λ _ => ns) hg (by omega) (λ _ _ e => e) (λ h' u tk k => ⟨.str _, H, I.kept k, ⟨_, rfl⟩, q⟩) hz
end
def EqQ (K : Fr) (H : Hp) (E : V -> V -> Prop) (x y : V) : Prop := EqR K H E x y \/
 (∃ a b ks ls, x = .ref a /\ y = .ref b /\ Rd H a (.dK ks) /\ Rd H b (.dK ls) /\ ks.length = ls.length /\ ∀ p ∈ ks, ∃ u, valV ls p.1 = some u /\ E p.2 u) \/
 ∃ a b xs ys, x = .ref a /\ y = .ref b /\ SqT K H a xs /\ SqT K H b ys /\ Paired E xs ys
theorem eqQ_run {X : Cx} {pins : List (Addr × Obj)} {σ : L2.St} {H : Hp} {s : Shared} (I : Inv X pins σ H s) {A : Around} {F : V -> V -> Prop} (hu : A.units < cLine)
   (ih : ∀ x y v u, F x y -> RelV x v -> RelV y u -> SeqAt.EqP X.prog X.w A.in1 s v u true) {x y : V} {v u : Value} (h : EqQ X.K H F x y) (rx : RelV x v) (ry : RelV y u) (E Q : Value -> Shared -> Prop) (q : Q (.bool true) s) :
   wpAny (model X.prog X.w) A (richCompare .Eq v u) Q E s := by
 rcases h with h | ⟨a, b, ks, ls, rfl, rfl, ha, hb, hl, hp⟩ | ⟨a, b, xs, ys, rfl, rfl, ha, hb, hp⟩
 · exact eqR_run I hu ih h rx ry E Q q
 · obtain rfl : v = Value.ref a := rx
   obtain rfl : u = Value.ref b := ry
   obtain ⟨_, na, wa, ka, oa⟩ := dk_rd I.hok ha
   obtain ⟨_, nb, wb, kb, ob⟩ := dk_rd I.hok hb
   have hz : wa.length = wb.length := by rw [<- ka.length, <- kb.length]; exact hl
   refine PySem.W.rcP_dicts na nb oa ob hu (λ _ => hits_run ih kb ka hp) E Q ?_
   simpa [hz] using q
 · obtain rfl : v = Value.ref a := rx
   obtain rfl : u = Value.ref b := ry
   obtain ⟨us, r1, p1, _⟩ := I.tuple ha
   obtain ⟨ws, r2, p2, _⟩ := I.tuple hb
   have hsz : us.toArray.size = ws.toArray.size := by
     rw [List.size_toArray, List.size_toArray, <- r1.length, <- r2.length]
     exact Paired.length hp
   refine rc_tupEq p1 p2 hsz hu (λ j h1 h2 => ?_) E Q q
   simpa using items_run ih hp r1 r2 j (by simpa using h1) (by simpa using h2)
def EqW (K : Fr) (H : Hp) : Nat -> V -> V -> Prop
 | 0 => λ _ _ => False
 | n + 1 => λ x y => (∃ d, Dp K H x d /\ Dp K H y d /\ SeqAt.shaped d = true) \/ EqQ K H (EqW K H n) x y
theorem shaped_depth {d : PyData} (h : SeqAt.shaped d = true) : d.canLay0 = true /\ d.depth <= 64 := by
 unfold SeqAt.shaped at h
 rw [Bool.and_eq_true] at h
 exact ⟨h.1, of_decide_eq_true h.2⟩
section
variable {X : Cx} {pins : List (Addr × Obj)} {σ : L2.St} {H : Hp} {s : Shared}
theorem eqW_run (I : Inv X pins σ H s) : ∀ (n : Nat) (A : Around), A.units + n + 65 < cLine -> ∀ (x y : V) (v u : Value), EqW X.K H n x y -> RelV x v -> RelV y u -> SeqAt.EqP X.prog X.w A s v u true
 | 0, _, _, _, _, _, _, h, _, _ => (show False from h).elim
 | n + 1, A, hu, x, y, v, u, h, rx, ry => by
   rcases h with ⟨d, d1, d2, sh⟩ | h
   · obtain ⟨as, r1⟩ := Dp.reads I d x v d1 rx
     obtain ⟨bs, r2⟩ := Dp.reads I d y u d2 ry
     have hd := shaped_depth sh
     have := SeqAt.eqAt_reads d d A s v u as bs r1 r2 hd.1 hd.1 (by omega)
     rw [SeqAt.eqv_refl d hd.1] at this
     exact this.eqP
   · have step := eqQ_run I (A := A) (by omega) (eqW_run I n A.in1 (by show A.units + 1 + n + 65 < cLine; omega)) h rx ry
     obtain ⟨a, b, rfl, rfl⟩ : ∃ a b, x = .ref a /\ y = .ref b := by
       rcases h with (⟨a, b, _, _, e1, e2, _⟩ | ⟨a, b, _, _, e1, e2, _⟩) | ⟨a, b, _, _, e1, e2, _⟩ | ⟨a, b, _, _, e1, e2, _⟩
       · exact ⟨a, b, e1, e2⟩
       · exact ⟨a, b, e1, e2⟩
       · exact ⟨a, b, e1, e2⟩
       · exact ⟨a, b, e1, e2⟩
     cases (show v = Value.ref a from rx)
     cases (show u = Value.ref b from ry)
     by_cases e : a = b
     · subst e
       exact (SeqAt.EqAt.same _).eqP
     · exact SeqAt.eqP_refs e step
end
mutual
def dOk : PyData -> Prop
 | .list ds => dOkA ds
 | .dict kvs => (kvs.map (·.1)).Nodup /\ dOkK kvs
 | .tuple ds => dOkA ds
 | .none => True
 | .bool _ => True
 | .int _ => True
 | .str x => SeqAt.shaped (.str x) = true
def dOkA : List PyData -> Prop
 | [] => True
 | d :: r => dOk d /\ dOkA r
def dOkK : List (PyData × PyData) -> Prop
 | [] => True
 | p :: r => dOk p.2 /\ dOkK r
end
section
variable {K : Fr} {H : Hp}
theorem kD_inj {a b : Key} (h : kD a = kD b) : a = b := by
 cases a <;> cases b <;> simp [kD] at h <;> rw [h]
theorem DnKv.key : ∀ {kvs : List (Key × V)} {ds : List (PyData × PyData)}, DnKv K H kvs ds -> ds.map (·.1) = (kvs.map (·.1)).map kD
 | _, _, .nil => rfl
 | _, _, .cons h t => by
   have := DnKv.key t
   simp only [List.map_cons] at this ⊢
   rw [this]
theorem nd_of_map {γ δ : Type} (f : γ -> δ) : ∀ {l : List γ}, (l.map f).Nodup -> l.Nodup
 | [], _ => List.nodup_nil
 | x :: r, h => by
   rw [List.map_cons, List.nodup_cons] at h
   exact List.nodup_cons.mpr ⟨λ z => h.1 (List.mem_map.mpr ⟨x, z, rfl⟩), nd_of_map f h.2⟩
theorem valV_nd : ∀ {ls : List (Key × V)} {i : Nat} {k : Key} {u : V}, (ls.map (·.1)).Nodup -> ls[i]? = some (k, u) -> valV ls k = some u
 | [], i, k, u, _, h => by simp at h
 | q :: r, 0, k, u, _, h => by
   cases (Option.some.inj (show some q = some (k, u) from h))
   exact valV_pos rfl
 | q :: r, i + 1, k, u, nd, h => by
   have nd' := List.nodup_cons.mp nd
   have h' : r[i]? = some (k, u) := by simpa using h
   rw [valV_neg]
   · exact valV_nd nd'.2 h'
   · intro e
     exact nd'.1 (List.mem_map.mpr ⟨(k, u), List.mem_of_getElem? h', e.symm⟩)
mutual
theorem Dn.eqW : ∀ {x y : V} {d : PyData} {n : Nat}, Dn K H x d -> Dn K H y d -> dOk d -> d.depth < n -> EqW K H n x y
 | _, _, _, 0, _, _, _, hn => absurd hn (Nat.not_lt_zero _)
 | _, _, _, n + 1, .non, h, _, _ => by cases h; exact .inl ⟨_, .non, .non, by decide⟩
 | _, _, _, n + 1, .bl b, h, _, _ => by cases h; exact .inl ⟨_, .bl b, .bl b, by cases b <;> decide⟩
 | _, _, _, n + 1, .int i, h, _, _ => by cases h; exact .inl ⟨_, .int i, .int i, rfl⟩
 | _, _, _, n + 1, .str z, h, ok, _ => by cases h; exact .inl ⟨_, .str z, .str z, ok⟩
 | _, _, _, n + 1, .tup a q, h, ok, hn => by
   cases h with
   | tup b q2 => exact .inr (.inr (.inr ⟨_, _, _, _, rfl, rfl, a, b, DnAll.eqW q q2 ok (by simpa [PyData.depth] using hn)⟩))
 | _, _, _, n + 1, .lst a q, h, ok, hn => by
   cases h with
   | lst b q2 => exact .inr (.inl (.inl ⟨_, _, _, _, rfl, rfl, a, b, DnAll.eqW q q2 ok (by simpa [PyData.depth] using hn)⟩))
 | _, _, _, n + 1, .dct (ds := ds) a q, h, ok, hn => by
   cases h with
   | @dct _ kvs2 _ b q2 =>
     have ok' : (ds.map (·.1)).Nodup /\ dOkK ds := ok
     have hl : PyData.depthKv ds < n := by simpa [PyData.depth] using hn
     obtain ⟨h1, h2⟩ := DnKv.eqW q q2 ok'.2 hl
     refine .inr (.inr (.inl ⟨_, _, _, _, rfl, rfl, a, b, h1, λ p hp => ?_⟩))
     obtain ⟨i, hi⟩ := List.getElem?_of_mem hp
     obtain ⟨u, hu, hw⟩ := h2 i p hi
     refine ⟨u, ?_, hw⟩
     have nd : (kvs2.map (·.1)).Nodup := by
       have := ok'.1
       rw [q2.key] at this
       exact nd_of_map _ this
     exact valV_nd nd hu
theorem DnKv.eqW : ∀ {xs ys : List (Key × V)} {ds : List (PyData × PyData)} {n : Nat}, DnKv K H xs ds -> DnKv K H ys ds -> dOkK ds -> PyData.depthKv ds < n ->
   xs.length = ys.length /\ ∀ (i : Nat) (p : Key × V), xs[i]? = some p -> ∃ u, ys[i]? = some (p.1, u) /\ EqW K H n p.2 u
 | _, _, _, _, .nil, h, _, _ => by
   cases h
   exact ⟨rfl, λ i p h => by simp at h⟩
 | _, _, _, n, .cons (k := k) (d := d) a t, h, ok, hn => by
   generalize hds : ((kD k, d) :: _ : List (PyData × PyData)) = dd at h
   cases h with
   | nil => cases hds
   | cons a2 t2 =>
     injection hds with e1 e2
     injection e1 with e3 e4
     have e5 := kD_inj e3
     subst e5
     subst e4
     subst e2
     have hn' := hn
     simp only [PyData.depthKv] at hn'
     obtain ⟨h1, h2⟩ := DnKv.eqW (n := n) t t2 ok.2 (by omega)
     refine ⟨by rw [List.length_cons, List.length_cons, h1], λ i p hp => ?_⟩
     cases i with
     | zero =>
       cases hp
       exact ⟨_, rfl, Dn.eqW a a2 ok.1 (show d.depth < n by omega)⟩
     | succ i =>
       obtain ⟨u, hu, hw⟩ := h2 i p (by simpa using hp)
       exact ⟨u, by simpa using hu, hw⟩
theorem DnAll.eqW : ∀ {xs ys : List V} {ds : List PyData} {n : Nat}, DnAll K H xs ds -> DnAll K H ys ds -> dOkA ds -> PyData.depthAll ds < n -> Paired (EqW K H n) xs ys
 | _, _, _, _, .nil, h, _, _ => by cases h; exact .nil
 | _, _, _, _, .cons a t, h, ok, hn => by
   cases h with
   | cons a2 t2 =>
     have hn' := hn
     simp only [PyData.depthAll] at hn'
     exact .cons (Dn.eqW a a2 ok.1 (by omega)) (DnAll.eqW t t2 ok.2 (by omega))
end
end
section
variable {X : Cx}
def rEqW (K : Fr) : R2 := λ x y H Q => ∃ d, Dn K H x d /\ Dn K H y d /\ dOk d /\ d.depth <= 60 /\ Q (.bl true) H
theorem op_eqW (hu : X.A.units + 128 < cLine) : OpR X (compareOp .Eq) (rEqW X.K) := by
 intro pins s σ H x y v u Q I rx ry h
 obtain ⟨d, d1, d2, ok, hd, q⟩ := h
 have w := Dn.eqW (n := 61) d1 d2 ok (by omega)
 rcases w with ⟨d', e1, e2, sh⟩ | w
 · refine op_eqD (X := X) (by omega) pins s σ H x y v u Q I rx ry ⟨d', d', e1, e2, sh, sh, ?_⟩
   rw [SeqAt.eqv_refl d' (shaped_depth sh).1]
   exact q
 · exact eqQ_run I (A := X.A) (by omega) (eqW_run I 60 X.A.in1 (by show X.A.units + 1 + 60 + 65 < cLine; omega)) w rx ry _ _ ⟨.bl true, H, I, rfl, q⟩
def uEqQ (K : Fr) : R2 := λ x y H Q => uEq K x y H Q \/ rEqW K x y H Q
theorem uo_eqQ (hu : X.A.units + 128 < cLine) : OpR X (compareOp .Eq) (uEqQ X.K) := (uo_eq (by omega)).or (op_eqW hu)
theorem units128 {k : Nat} {A : Around} (hr : Room k A) : A.units + 128 < cLine := by
 have := hr.un
 have := hr.dp
 omega
end
end RC

namespace RC
open PySem PySem.Spec PyProof.Rows L2
section
variable {κ α : Type} {K : Fr} {ik : κ -> Key} {e : α -> PyData} {m : List (κ × α)} {Rs : List Res} {H : Hp} {Q : VK} {σ : L2.St} {D : Ends} {p : Addr}
abbrev OE := Str × Addr × List Int
variable {es : List OE} {om : List (Str × List Int)}
end
section
variable {α β : Type} {K : Fr} {e : α -> PyData} {Rs : List Res} {H : Hp} {Q : VK} {σ : L2.St} {D : Ends} {p : Addr}
end
theorem Dn.by_ {K : Fr} {H : Hp} {v : V} {d e : PyData} (h : d = e) (q : Dn K H v e) : Dn K H v d := h ▸ q
structure AlkOk (d : PyData) : Prop where
 ok : dOk d
 sh : d.showable = true
 dp : d.depth <= 60
 ln : d.shown.length <= sizeLine
structure ShQ (dp bk : Nat) (d : PyData) : Prop where
 ok : dOk d
 sh : d.showable = true
 lf : d.leavesShort 400 = true
 dp : d.depth <= dp
 bk : d.bulk <= bk
theorem ShQ.alk {dp bk : Nat} {d : PyData} (h : ShQ dp bk d) (h1 : dp <= 60) (h2 : bk <= 40000) : AlkOk d := by
 refine ⟨h.ok, h.sh, Nat.le_trans h.dp h1, ?_⟩
 have z := PyData.shown_le_bulk 400 (by decide) d h.lf
 have b := h.bk
 rw [sizeLine_eq]
 omega
theorem ShQ.up {dp bk dp' bk' : Nat} {d : PyData} (h : ShQ dp bk d) (h1 : dp <= dp') (h2 : bk <= bk') : ShQ dp' bk' d := ⟨h.ok, h.sh, h.lf, Nat.le_trans h.dp h1, Nat.le_trans h.bk h2⟩
theorem log2_lt {n : Int} (h : n.natAbs < 2 ^ 1000) : n.natAbs.log2 < 1920 := by
 rcases Nat.eq_zero_or_pos n.natAbs with e | e
 · rw [e]
   decide
 · have := (Nat.log2_lt (by omega)).mpr h
   omega
theorem ShQ.int {n : Int} (h : n.natAbs < 2 ^ 1000) : ShQ 0 0 (.int n) := by
 have l := log2_lt h
 refine ⟨trivial, by simpa [PyData.showable] using l, ?_, by simp [PyData.depth], by simp [PyData.bulk]⟩
 have q : (2 : Nat) ^ 1000 < 10 ^ 310 := by decide +kernel
 have z : (PySem.Str.ofString (toString n)).length <= 311 := by
   have := int_text_length_le10 (a := n) (k := 310) (by decide) (by omega)
   rw [PySem.ofString_length]
   exact this
 simp only [PyData.leavesShort, PyData.shown]
 exact decide_eq_true (Nat.le_trans z (show 311 <= 400 by decide))
theorem ShQ.all {dp bk : Nat} : ∀ {ds : List PyData}, (∀ d ∈ ds, ShQ dp bk d) -> dOkA ds /\ PyData.showableAll ds = true /\ PyData.leavesShortAll 400 ds = true /\ PyData.depthAll ds <= dp /\ PyData.bulkAll ds <= ds.length * (bk + 1)
 | [], _ => ⟨trivial, rfl, rfl, Nat.zero_le _, by simp [PyData.bulkAll]⟩
 | d :: ds, h => by
   have a := h d List.mem_cons_self
   obtain ⟨h0, h1, h2, h3, h4⟩ := ShQ.all λ x hx => h x (List.mem_cons_of_mem _ hx)
   refine ⟨⟨a.ok, h0⟩, by simp [PyData.showableAll, a.sh, h1], by simp [PyData.leavesShortAll, a.lf, h2], ?_, ?_⟩
   · simp only [PyData.depthAll]
     have := a.dp
     omega
   · simp only [PyData.bulkAll, List.length_cons]
     have := a.bk
     rw [Nat.add_mul]
     omega
theorem ShQ.list {dp bk : Nat} {ds : List PyData} (h : ∀ d ∈ ds, ShQ dp bk d) : ShQ (dp + 1) (ds.length * (bk + 1)) (.list ds) := by
 obtain ⟨h0, h1, h2, h3, h4⟩ := ShQ.all h
 refine ⟨h0, by simpa [PyData.showable] using h1, by simpa [PyData.leavesShort] using h2, ?_, by simpa [PyData.bulk] using h4⟩
 simp only [PyData.depth]
 omega
end RC

namespace RC
open PySem PySem.Spec PyProof.Rows L2
theorem walk_S {l : PySem.W.OpenLaw} {n k : Nat} {q : Program} {loose : List Str} {XP : (Str -> Option Value) -> Heap -> Prop} {YP : World -> Heap -> Prop} {d : DefRec} {CX : World -> CXT} {x : Str}
   (hi : importsNone q = true) (hn : l.most = some n) (hn2 : n <= sizeLine) (hdf : d.params.defaults = []) (hr : Room k callerA)
   (F : ∀ (w : World) (mg : Str -> Option Value) (fa : Addr) (h : Heap), YP w h -> h.Ns mainGlobals mg -> mg d.name = some (.ref fa) ->
     ∃ (K : Fr) (fd : FuncData) (sp : Sp), K.In h /\ (∀ (s : Shared) (u : Value), BindsTo s fd ⟨[u], []⟩ [(x, u)]) /\
       (∀ (H : Hp) (a : Addr) (ns : List Int), ns.length <= n -> SqL K H a (ns.map V.int) -> sp [.ref a] H (λ v _ => v = .bl true) λ _ _ _ => False) /\
       ∀ base : Heap, K.In base -> base.Ns mainGlobals mg -> NDX base -> FnX true l.prog w K mg base (CX w) k fa fd [x] sp)
   (hCX : ∀ (w : World) (H : Hp) (s : Shared) (e : Value) (s' : Shared), CX w [] H s (λ _ _ _ => False) e s' -> False) :
   PySem.W.WalkO q loose XP YP l.row.toRowW d [] (λ f vs => PySem.call f vs) := by
 refine Att.attach_call hn hdf ?_
 intro w s0 s1 mg mb fa o pm cd doc a vs ns G Y ho hd hcd hmg hobj hints hlen hgen
 obtain ⟨K, fd, sp, KX, hb, hsp, hF⟩ := F w mg fa _ Y G.T.g hmg
 exact law_callN KX G.T.g G.T.b G.T.builtins G.T.nolimit (λ h' kp => ⟨nd_keep G.T.nodigits kp, by
     obtain ⟨mm, ⟨o, es, ep, e, d, _⟩, _⟩ := (G.T.seer hi).mods
     exact ⟨o, es, ep, kp _ _ _ _ e d, d⟩⟩) hgen hobj hints
   (Nat.le_trans hlen hn2) hr hF hb (λ H hS => hsp H a ns hlen hS) (λ H e s' => hCX w H s1 e s')
end RC

namespace RC
open PySem PySem.Spec PyProof.Rows L2
def isNo : PyData -> Bool
 | .none => true
 | _ => false
def anyAt : PyData -> Int -> Option PyData
 | .list ds, i => atI ds i
 | .tuple ds, i => atI ds i
 | _, _ => none
section
variable {α β γ : Type} {K : Fr} {Rs : List Res} {H : Hp} {σ : L2.St} {Q : VK} {D : Ends} {v w : V} {d d' : PyData} {p : Addr} {e : α -> PyData} {xs ys : List α}
theorem M.cstA (S : M Rs H) (i : Nat) (h0 : Rs[i]? = some (da K v d)) (h : d = d') : M (da K v d' :: Rs) H := h ▸ M.addA S (EnF.at i h0)
theorem v_ixa {i : Int} {x : PyData} (S : M Rs H) (j : Nat) (hj : Rs[j]? = some (da K v d)) (hx : anyAt d i = some x) (k : ∀ u, M (da K u x :: Rs) H -> Q u H) : uIx K v (.int i) H Q := by
 cases d with
 | list ds => exact v_ixq S (.inl (EnF.at j hj)) hx k
 | tuple ds => exact v_ixq S (.inr (EnF.at j hj)) hx k
 | _ => cases hx
theorem DqAll.fixT {F : Hp} {L : List Cell} {vs : List V} {ds : List PyData} (s : Sat F Rs L) (m : MemC F L H) (q : DqAll K F vs ds) (k : ∀ p H', M (da K (.ref p) (.tuple ds) :: Rs) H' -> Q (.ref p) H') : ∀ p, H p = none -> Q (.ref p) (upd H p (.tup vs)) := by
 intro p hp
 have S1 : M (daA K vs ds :: Rs) H := ⟨F, L, ⟨[], L, rfl, ⟨rfl, q⟩, s⟩, m⟩
 refine k p _ ?_
 have S2 : M (pt p (.tup vs) :: daA K vs ds :: Rs) (upd H p (.tup vs)) := S1.new hp
 have S3 : M (da K (.ref p) (.tuple ds) :: daA K vs ds :: Rs) (upd H p (.tup vs)) := S2.fixG (R := da K (.ref p) (.tuple ds)) (φ := λ F => DqAll K F vs ds) (λ F L ⟨_, _, _, a, _⟩ => a.2) λ F q e => ⟨rfl, .tup (.inl (.inl e)) q⟩
 exact M.sub (.cons 0 rfl (.tl (.refl _))) S3
theorem v_slA {lo hi : Option Int} (S : M Rs H) (j : Nat) (hj : Rs[j]? = some (da K v (eV e xs))) (k : ∀ u H', M (da K u (eV e (cutL xs lo hi)) :: Rs) H' -> Q u H') : rSlA K v lo hi H Q := by
 obtain ⟨F, L, s, m⟩ := id S
 have d0 := EnF.at j hj F L s
 cases d0 with
 | tup a q =>
   rename_i vs
   refine ⟨_, _, rfl, m.ex.sqT a, λ hw => ?_, λ _ => ?_⟩
   · have hl : vs.length = xs.length := by have := q.len; rwa [List.length_map] at this
     have e1 : cutL xs lo hi = xs := by
       unfold cutL
       rw [<- hl, hw.1, hw.2]
       simp [hl]
     refine k _ H ?_
     rw [e1]
     exact S.addA (EnF.at j hj)
   · refine DqAll.fixT s m (q.cut lo hi) λ p H' S' => k _ H' ?_
     unfold eV
     rw [<- cutL_map]
     exact S'
theorem v_catA (S : M Rs H) (i j : Nat) (hi : Rs[i]? = some (da K v (eV e xs))) (hj : Rs[j]? = some (da K w (eV e ys))) (hz : xs.length + ys.length <= 100000) (k : ∀ u H', M (da K u (eV e (xs ++ ys)) :: Rs) H' -> Q u H') : rCatA K v w H Q := by
 obtain ⟨F, L, s, m⟩ := id S
 have d0 := EnF.at i hi F L s
 have d1 := EnF.at j hj F L s
 cases d0 with
 | tup a q =>
   cases d1 with
   | tup a' q' =>
     rename_i vs _ ws
     have l1 := q.len
     have l2 := q'.len
     rw [List.length_map] at l1 l2
     refine ⟨_, _, _, _, rfl, rfl, m.ex.sqT a, m.ex.sqT a', Nat.le_trans (by rw [l1, l2]; exact hz) (by decide), λ z => ?_, λ _ z => ?_, λ _ _ => ?_⟩
     · subst z
       have : xs = [] := List.length_eq_zero_iff.mp l1.symm
       subst this
       exact k _ H (S.addA (EnF.at j hj))
     · subst z
       have : ys = [] := List.length_eq_zero_iff.mp l2.symm
       subst this
       refine k _ H ?_
       rw [List.append_nil]
       exact S.addA (EnF.at i hi)
     · refine DqAll.fixT s m (q.app q') λ p H' S' => k _ H' ?_
       unfold eV
       rw [List.map_append]
       exact S'
theorem isNo_eq (h : Dq K H v d) : isNo d = decide (v = .non) := by
 cases h <;> simp [isNo]
theorem v_isNa (h : Dq K H v d) (k : Q (.bl (isNo d)) H) : rIsN v .non H Q := ⟨rfl, by rw [<- isNo_eq h]; exact k⟩
theorem v_all {bs : List Bool} (h : Dq K H v (eL eB bs)) (k : Q (.bl (bs.all id)) H) : rAll K [v] H Q := by
 obtain ⟨a, rfl, hs⟩ := flB.lst h
 exact ⟨a, bs, rfl, hs, k⟩
theorem inV_str {s : Str} : ∀ xs : List Str, inV (.str s) (xs.map V.str) = xs.any λ y => decide (y = s)
 | [] => rfl
 | x :: xs => by
   have h := inV_str (s := s) xs
   unfold inV at h ⊢
   rw [List.map_cons, List.any_cons, List.any_cons, h]
   congr 1
theorem flat_strs : ∀ xs : List Str, (xs.map V.str).all flatV = true
 | [] => rfl
 | x :: xs => by rw [List.map_cons, List.all_cons, flat_strs xs]; rfl
theorem v_inT {s : Str} {xs : List Str} (h : SqL K H p (xs.map V.str) \/ SqT K H p (xs.map V.str)) (k : Q (.bl (xs.any λ y => decide (y = s))) H) : uIn K (.str s) (.ref p) H Q :=
 .inl ⟨p, _, rfl, h, rfl, flat_strs xs, by rw [inV_str]; exact k⟩
theorem Dq.sqTS {xs : List Str} (h : Dq K H v (eV eS xs)) : ∃ a, v = .ref a /\ SqT K H a (xs.map V.str) := by
 cases h with
 | tup a q => exact ⟨_, rfl, (flS.all q) ▸ a⟩
theorem v_inV {s : Str} {xs : List Str} (h : Dq K H v (eV eS xs)) (k : Q (.bl (xs.any λ y => decide (y = s))) H) : uIn K (.str s) v H Q := by
 obtain ⟨a, rfl, hs⟩ := h.sqTS
 exact v_inT (.inr hs) k
theorem eV_any (e : α -> PyData) (xs : List α) : eV e xs = eV eA (xs.map e) := by
 unfold eV
 rw [List.map_map]
 rfl
end
end RC

namespace RC
open PySem PySem.Spec PyProof.Rows L2
section
variable {X : Cx} {CX : CXT} {g : Bool} {k n : Nat} {f C : Addr} {fd : FuncData} {ps ks : List Str} {sp : Sp} {W : WX} {x m : Str} {p pos apos : Pos} {o e : Expr} {es : List Expr} {kws : List Keyword} {t tk : TA} {ta : TE} {gg : List Value -> List Value -> List Value} {gV : List V -> List V -> List V}
end
theorem Sat.got {F : Hp} : ∀ {Rs : List Res} {L : List Cell} (i : Nat) {R : Res}, Sat F Rs L -> Rs[i]? = some R -> ∃ l, R.on F l /\ ∀ c ∈ l, c ∈ L
 | [], L, i, R, _, e => by simp at e
 | S :: Rs, L, 0, R, ⟨l1, l2, h, a, _⟩, e => by
   have e : S = R := Option.some.inj e
   subst e
   exact ⟨l1, a, λ c hc => h ▸ List.mem_append_left _ hc⟩
 | S :: Rs, L, i + 1, R, ⟨l1, l2, h, _, b⟩, e => by
   obtain ⟨l, h1, h2⟩ := Sat.got i b (by simpa using e)
   exact ⟨l, h1, λ c hc => h ▸ List.mem_append_right _ (h2 c hc)⟩
section
variable {K : Fr} {κ α β : Type} {ik : κ -> Key} {e : α -> PyData} {Rs : List Res} {H : Hp} {Q : VK} {v : V} {p : Addr} {m : List (κ × α)} {σ : L2.St}
def DVs (K : Fr) (Rs : List Res) (H : Hp) (ik : κ -> Key) (e : α -> PyData) (v : V) (m : List (κ × α)) : Prop :=
 ∃ p kvs F L, v = .ref p /\ Rd H p (.dK kvs) /\ Sat F Rs L /\ MemC F L H /\ TKv K F ik e kvs m
theorem M.dvO (S : M Rs H) (j : Nat) (hj : Rs[j]? = some (adR K ik e p m)) : DVs K Rs H ik e (.ref p) m := by
 obtain ⟨F, L, s, mm⟩ := S
 obtain ⟨l, ⟨kvs, l1, l2, rfl, rfl, rfl, t⟩, hl⟩ := s.got j hj
 exact ⟨p, kvs, F, L, rfl, .inl (mm.own (p, .dK kvs) (hl _ (by simp))).1, s, mm, t⟩
inductive DF where
 | own
 | lck (p : Addr) (od : Obj) (kvs : List (Key × V))
 | dat
 | fzd (p : Addr) (od : Obj) (kvs : List (Key × V))
theorem DVs.len (D : DVs K Rs H ik e v m) (k : Q (.int (m.length : Nat)) H) : uLen K [v] H Q := by
 obtain ⟨p, kvs, F, L, rfl, h, _, _, t⟩ := D
 exact .inr ⟨p, kvs, rfl, h, by rw [t.len]; exact k⟩
variable [DecidableEq κ]
theorem DVs.at (inj : ∀ a b, ik a = ik b -> a = b) {k : κ} {x : α} (D : DVs K Rs H ik e v m) (hx : lk m k = some x) : ∃ p kvs u, v = .ref p /\ Rd H p (.dK kvs) /\ valV kvs (ik k) = some u /\ M (da K u (e x) :: Rs) H := by
 obtain ⟨p, kvs, F, L, rfl, h, s, mm, t⟩ := D
 obtain ⟨u, h1, h2⟩ := t.some inj hx
 exact ⟨p, kvs, u, rfl, h, h1, F, L, ⟨[], L, rfl, ⟨rfl, h2⟩, s⟩, mm⟩
end
section
variable {K : Fr} {α β : Type} {e : α -> PyData} {Rs : List Res} {H : Hp} {Q : VK} {v : V} {p : Addr} {σ : L2.St}
end
section
variable {K : Fr} {κ α β : Type} {ik : κ -> Key} {e : α -> PyData} {Rs : List Res} {H : Hp} {Q : VK} {v : V} {p : Addr} {m : List (κ × α)} {σ : L2.St} {od : Obj} {kvs : List (Key × V)}
end
end RC

namespace RC
open PySem PySem.Spec PyProof.Rows L2
section
variable {K : Fr} {α β : Type} {e : α -> PyData} {Rs : List Res} {H : Hp} {Q : VK} {v w : V} {p : Addr} {σ : L2.St}
theorem eqvA_ints : ∀ xs ys : List Int, PyData.eqvAll (xs.map eI) (ys.map eI) = decide (xs = ys)
 | [], [] => rfl
 | [], y :: ys => by simp [PyData.eqvAll]
 | x :: xs, [] => by simp [PyData.eqvAll]
 | x :: xs, y :: ys => by
   have ih := eqvA_ints xs ys
   simp only [List.map_cons, PyData.eqvAll, ih]
   by_cases z : x = y
   · subst z
     simp [PyData.eqv]
   · simp [PyData.eqv, z]
theorem eqv_LI (xs ys : List Int) : PyData.eqv (eL eI xs) (eL eI ys) = decide (xs = ys) := eqvA_ints xs ys
theorem canL_ints : ∀ xs : List Int, PyData.canLayAll0 (xs.map eI) = true
 | [] => rfl
 | x :: xs => by
   simp only [List.map_cons, PyData.canLayAll0, canL_ints xs, Bool.and_true]
   rfl
theorem depA_ints : ∀ xs : List Int, PyData.depthAll (xs.map eI) = 0
 | [] => rfl
 | x :: xs => by
   simp only [List.map_cons, PyData.depthAll, depA_ints xs]
   rfl
theorem shaped_LI (xs : List Int) : EqOk (eL eI xs) := by
 show SeqAt.shaped (.list (xs.map eI)) = true
 unfold SeqAt.shaped
 rw [Bool.and_eq_true]
 refine ⟨?_, decide_eq_true ?_⟩
 · simp only [PyData.canLay0]
   exact canL_ints xs
 · simp only [PyData.depth, depA_ints]
   omega
theorem v_eqLI {xs ys : List Int} (h1 : Dq K H v (eL eI xs)) (h2 : Dq K H w (eL eI ys)) (k : Q (.bl (decide (xs = ys))) H) : uEq K v w H Q := v_eqq h1 h2 (shaped_LI xs) (shaped_LI ys) (by rw [eqv_LI]; exact k)
theorem lc_str {te : TE} {tt : TT} {g : TG} {ws : List Nat} {F : Str -> (Option β -> Prop) -> Prop} {e' : β -> PyData} {z : Str} {KK : List β -> Prop} (hf : (strL z).length <= 100000 /\ lcD F (strL z) [] KK) (S : M Rs H)
   (hs : ∀ x (acc : List β) E H (kk : Option β -> Prop) (N : Hp -> Prop), (acc.map e').length < 100000 -> M (acR K E (acc.map e') :: Rs) H -> F x kk ->
     (∀ y H, kk (some y) -> M (acR K E (acc.map e' ++ [e' y]) :: Rs) H -> N H) -> (∀ H, kk none -> M (acR K E (acc.map e') :: Rs) H -> N H) -> g (.str x) (wipe σ ws) H λ σ2 H2 => wipe σ2 ws = wipe σ ws /\ tt σ2 H2 λ b H3 =>
     if b = true then te σ2 H3 (LcK N E) else N H3)
   (hd : ∀ E (acc : List β) H, KK acc -> M (acR K E (acc.map e') :: Rs) H -> Q (.ref E) H) : LcW (Its z) g tt te ws σ Q H := by
 obtain ⟨hz, hf⟩ := hf
 have hl : (strL z).length = z.cps.size := by simp [strL]
 refine lc_X walk_str (λ E i H => ∃ acc, lcD F ((strL z).drop i) acc KK /\ acc.length <= i /\ M (acR K E (acc.map e') :: Rs) H) (λ E hE => ⟨[], by simpa using hf, Nat.le_refl _, acR_nil (S.new hE)⟩) (λ E i H _ _ => trivial) ?_ ?_
 · rintro E i v H H' hi ⟨acc, hf, ha, S⟩ ⟨rfl, c, hc, rfl⟩
   have hi2 : i < (strL z).length := by rw [hl]; exact hi
   rw [List.drop_eq_getElem_cons hi2] at hf
   have e : (strL z)[i] = ⟨#[c]⟩ := by
     have : (strL z)[i]? = some ⟨#[c]⟩ := by
       unfold strL
       rw [List.getElem?_map, Array.getElem?_toList, hc]
       rfl
     exact Option.some.inj ((List.getElem?_eq_getElem hi2).symm.trans this)
   rw [e] at hf
   refine hs _ acc E H' _ _ (by rw [List.length_map]; omega) S hf (λ y H hk S => ⟨acc ++ [y], hk, by rw [List.length_append]; simpa using ha, by rw [List.map_append]; exact S⟩) (λ H hk S => ⟨acc, ?_, by omega, S⟩)
   simpa using hk
 · rintro E H ⟨acc, hf, ha, S⟩
   rw [<- hl, List.drop_length] at hf
   exact hd E acc H hf S
theorem v_ifcF {A B : Prop} {b : Bool} (h : b = false) (k : B) : if b = true then A else B := by rw [h]; exact k
theorem M.drp (S : M Rs H) (i : Nat) : M (Rs.eraseIdx i) H := by
 cases h : Rs[i]? with
 | none =>
   rw [List.eraseIdx_of_length_le (by simpa using h)]
   exact S
 | some R => exact (S.at i h).tl
end
end RC

namespace RC
open PySem PySem.Spec PyProof.Rows L2
theorem forD_inv {α β : Type} {f : α -> β -> (β -> Prop) -> Prop} (Inv : Nat -> β -> Prop) : ∀ {xs : List α} {s : β} {k : β -> Prop} {n : Nat}, Inv n s ->
   (∀ (i : Nat) x s (kk : β -> Prop), xs[i]? = some x -> Inv (n + i) s -> (∀ s', Inv (n + i + 1) s' -> kk s') -> f x s kk) -> (∀ s, Inv (n + xs.length) s -> k s) -> forD f xs s k
 | [], s, k, n, h0, _, hd => hd s h0
 | x :: xs, s, k, n, h0, hs, hd => by
   refine hs 0 x s _ rfl h0 λ s' h' => ?_
   refine forD_inv Inv (n := n + 1) h' (λ i y s kk hy hi hk => ?_) (λ s hi => hd s ?_)
   · refine hs (i + 1) y s kk (by simpa using hy) ?_ λ s' hs' => hk s' ?_
     · rw [show n + (i + 1) = n + 1 + i by omega]
       exact hi
     · rw [show n + 1 + i + 1 = n + (i + 1) + 1 by omega]
       exact hs'
   · rw [List.length_cons, show n + (xs.length + 1) = n + 1 + xs.length by omega]
     exact hi
theorem lcD_map {α β : Type} {f : α -> (Option β -> Prop) -> Prop} {k : List β -> Prop} (g : α -> β) : ∀ {xs : List α} {acc : List β}, (∀ x ∈ xs, ∀ kk : Option β -> Prop, kk (some (g x)) -> f x kk) -> k (acc ++ xs.map g) -> lcD f xs acc k
 | [], acc, _, h => by simpa [lcD] using h
 | x :: xs, acc, hs, h => by
   refine hs x List.mem_cons_self _ ?_
   refine lcD_map g (λ y hy => hs y (List.mem_cons_of_mem _ hy)) ?_
   simpa using h
theorem lcD_all {α β : Type} {f : α -> (Option β -> Prop) -> Prop} {k : List β -> Prop} (G : β -> Prop) : ∀ {xs : List α} {acc : List β}, (∀ x ∈ xs, ∀ kk : Option β -> Prop, (∀ y, G y -> kk (some y)) -> f x kk) -> (∀ y ∈ acc, G y) ->
   (∀ ys, (∀ y ∈ ys, G y) -> ys.length = acc.length + xs.length -> k ys) -> lcD f xs acc k
 | [], acc, _, ha, h => h acc ha rfl
 | x :: xs, acc, hs, ha, h => by
   refine hs x List.mem_cons_self _ λ y hy => ?_
   refine lcD_all G (λ z hz => hs z (List.mem_cons_of_mem _ hz)) (λ z hz => ?_) λ ys hys hl => h ys hys ?_
   · rcases List.mem_append.mp hz with hz | hz
     · exact ha z hz
     · have : z = y := by simpa using hz
       rw [this]
       exact hy
   · rw [hl]
     simp
     omega
def GN (s : Str) : Prop := 1 <= s.length /\ s.length <= 8 /\ ∀ c ∈ s.cps.toList, 97 <= c /\ c <= 122
def GC (ns : List Int) : Prop := ns.length <= 48 /\ ∀ n ∈ ns, 0 <= n /\ n <= 999
theorem letters_mem {c : Nat} (h : 97 <= c /\ c <= 122) : c ∈ ("abcdefghijklmnopqrstuvwxyz" : Str).cps.toList := by
 have key : ∀ i : Fin 26, (97 + i.val) ∈ ("abcdefghijklmnopqrstuvwxyz" : Str).cps.toList := by decide +kernel
 have := key ⟨c - 97, by omega⟩
 rwa [show 97 + (c - 97) = c by omega] at this
theorem tk {n : Int} {k : Int -> Prop} (h : 0 < n /\ n < 2 ^ 62) (g : ∀ v, 0 <= v -> v < n -> k v) : takeD n k := ⟨h, g⟩
theorem atI_ex {α : Type} {xs : List α} {i : Int} (h0 : 0 <= i) (h1 : i < xs.length) : ∃ x ∈ xs, atI xs i = some x := by
 have hl : i.toNat < xs.length := by omega
 exact ⟨xs[i.toNat], List.getElem_mem hl, atI_int h0 (List.getElem?_eq_getElem hl)⟩
theorem cmul {a b : Int} (h : 0 <= b /\ b < 2 ^ 62) (ha : 0 <= a /\ a < 2 ^ 62) : CMul a b \/ CMulW a b := .inl (.inl ⟨by omega, by omega⟩)
theorem join_cps' : ∀ ys : List Str, (Str.join ("" : Str) ys).cps.toList = (ys.map (·.cps.toList)).flatten
 | [] => rfl
 | [x] => by
   show x.cps.toList = _
   simp
 | x :: y :: r => by
   have ih := join_cps' (y :: r)
   show ((x.cps ++ (#[] : Array Nat)) ++ (Str.join ("" : Str) (y :: r)).cps).toList = _
   rw [Array.toList_append, ih]
   simp
theorem join_cps (ys : List Str) : (Txt.join ("" : Str) ys).cps.toList = (ys.map (·.cps.toList)).flatten := by
 rw [<- join_cps', <- StrLaws.glued_eq_join]
 rfl
def G1 (c : Str) : Prop := ∃ n, c = ⟨#[n]⟩ /\ 97 <= n /\ n <= 122
theorem letter_at {i : Int} (h0 : 0 <= i) (h1 : i < 26) : ∃ c, atS ("abcdefghijklmnopqrstuvwxyz" : Str) i = some c /\ G1 c := by
 have key : ∀ k : Fin 26, atS ("abcdefghijklmnopqrstuvwxyz" : Str) (k.val : Int) = some ⟨#[97 + k.val]⟩ := by decide +kernel
 have z := key ⟨i.toNat, by omega⟩
 have e : ((i.toNat : Nat) : Int) = i := by omega
 simp only [e] at z
 exact ⟨_, z, _, rfl, by omega, by omega⟩
theorem flat_len {ys : List Str} (h : ∀ y ∈ ys, G1 y) : ((ys.map (·.cps.toList)).flatten).length = ys.length /\ ∀ c ∈ (ys.map (·.cps.toList)).flatten, 97 <= c /\ c <= 122 := by
 induction ys with
 | nil => exact ⟨rfl, λ _ h => nomatch h⟩
 | cons y r ih =>
   obtain ⟨n, rfl, h1, h2⟩ := h y List.mem_cons_self
   obtain ⟨a, b⟩ := ih λ z hz => h z (List.mem_cons_of_mem _ hz)
   refine ⟨by simpa using a, λ c hc => ?_⟩
   rw [List.map_cons, List.flatten_cons] at hc
   rcases List.mem_append.mp hc with hc | hc
   · have : c = n := by simpa using hc
     omega
   · exact b c hc
theorem join_GN {ys : List Str} (h : ∀ y ∈ ys, G1 y) (h1 : 1 <= ys.length) (h2 : ys.length <= 8) : GN (Txt.join ("" : Str) ys) := by
 have e := join_cps ys
 obtain ⟨a, b⟩ := flat_len h
 have hl : (Txt.join ("" : Str) ys).length = ys.length := by
   show (Txt.join ("" : Str) ys).cps.size = _
   rw [<- Array.length_toList, e, a]
 exact ⟨by omega, by omega, λ c hc => b c (by rw [<- e]; exact hc)⟩
theorem sIx_int {n d : Nat} {i : Int} (h : 0 <= i) : HT.sIx n d (some i) = min i.toNat n := by
 have := HT.sIx_nat n d i.toNat
 rwa [show ((i.toNat : Nat) : Int) = i by omega] at this
theorem cut_hi {α : Type} {xs : List α} {i : Int} (h : 0 <= i) : cutL xs none (some i) = xs.take i.toNat := by
 unfold cutL
 rw [sIx_int h, HT.sIx_none, List.drop_zero, Nat.sub_zero]
 rcases Nat.le_total i.toNat xs.length with z | z
 · rw [Nat.min_eq_left z]
 · rw [Nat.min_eq_right z, List.take_of_length_le (Nat.le_refl _), List.take_of_length_le z]
theorem cut_lo {α : Type} {xs : List α} {i : Int} (h : 0 <= i) : cutL xs (some i) none = xs.drop i.toNat := by
 unfold cutL
 rw [sIx_int h, HT.sIx_none]
 rcases Nat.le_total i.toNat xs.length with z | z
 · rw [Nat.min_eq_left z, List.take_of_length_le]
   rw [List.length_drop]
   exact Nat.le_refl _
 · rw [Nat.min_eq_right z, List.drop_of_length_le z, List.drop_of_length_le (Nat.le_refl _), List.take_nil]
def GNb (s : Str) : Bool := decide (1 <= s.length) && (decide (s.length <= 8) && s.cps.toList.all λ c => decide (97 <= c) && decide (c <= 122))
theorem GNb_ok {s : Str} (h : GNb s = true) : GN s := by
 unfold GNb at h
 simp only [Bool.and_eq_true, decide_eq_true_eq, List.all_eq_true] at h
 exact ⟨h.1, h.2.1, h.2.2⟩
def words31 : List Str := [("none" : Str), ("log" : Str), ("full" : Str), ("step" : Str), ("wide" : Str), ("a" : Str), ("ab" : Str), ("files" : Str), ("run" : Str), ("put" : Str), ("gone" : Str), ("moments" : Str)]
theorem words_ok : ∀ w ∈ words31, GN w := by
 have key : (words31.all GNb) = true := by decide +kernel
 intro w hw
 exact GNb_ok (List.all_eq_true.mp key w hw)
structure GF (m : List (Str × List Int)) : Prop where
 nd : (ks m).Nodup
 nm : ∀ q ∈ m, GN q.1 /\ GC q.2
 ln : m.length <= 8
theorem canLay_ints' : ∀ ns : List Int, PyData.canLayAll0 (ns.map PyData.int) = true
 | [] => rfl
 | n :: r => by simp [PyData.canLayAll0, PyData.canLay0, canLay_ints' r]
theorem depth_ints' : ∀ ns : List Int, PyData.depthAll (ns.map PyData.int) = 0
 | [] => rfl
 | n :: r => by simp [PyData.depthAll, PyData.depth, depth_ints' r]
theorem shaped_ints' (ns : List Int) : SeqAt.shaped (eL eI ns) = true := by
 unfold SeqAt.shaped eL
 rw [Bool.and_eq_true]
 refine ⟨by simpa [PyData.canLay0] using canLay_ints' ns, decide_eq_true ?_⟩
 simp only [PyData.depth]
 rw [depth_ints']
 decide
theorem GF.nil : GF [] := ⟨List.nodup_nil, (λ _ h => nomatch h), by decide⟩
theorem lk_mem {κ γ : Type} [DecidableEq κ] {m : List (κ × γ)} {n : κ} {x : γ} (h : lk m n = some x) : (n, x) ∈ m := by
 unfold lk at h
 cases e : m.find? λ p => decide (p.1 = n) with
 | none => rw [e] at h; cases h
 | some q =>
   rw [e] at h
   have h1 := List.mem_of_find?_eq_some e
   have h2 : q.1 = n := by simpa using List.find?_some e
   cases h
   rw [<- h2]
   exact h1
theorem lk_some {κ γ : Type} [DecidableEq κ] {m : List (κ × γ)} {n : κ} (h : n ∈ ks m) : ∃ x, lk m n = some x := by
 induction m with
 | nil => cases h
 | cons q m ih =>
   rw [lk_cons]
   by_cases z : q.1 = n
   · exact ⟨_, if_pos z⟩
   · rw [if_neg z]
     exact ih ((List.mem_cons.mp h).resolve_left λ e => z e.symm)
theorem pk_keys {κ γ : Type} [DecidableEq κ] {m : List (κ × γ)} {n : κ} {x : γ} : ks (pk m n x) = if (lk m n).isSome then ks m else ks m ++ [n] := by
 unfold pk
 rw [any_lk]
 split
 · unfold ks
   rw [List.map_map]
   refine List.map_congr_left λ q _ => ?_
   show (if q.1 = n then (q.1, x) else q).1 = q.1
   split <;> rfl
 · simp [ks]
theorem not_mem_of_lk {κ γ : Type} [DecidableEq κ] {m : List (κ × γ)} {n : κ} (h : lk m n = none) : n ∉ ks m := λ z => by
 obtain ⟨x, e⟩ := lk_some z
 rw [h] at e
 cases e
theorem GF.put {m : List (Str × List Int)} {n : Str} {ns : List Int} (g : GF m) (hn : GN n) (hc : GC ns) (hl : (lk m n).isSome = true \/ m.length < 8) : GF (pk m n ns) := by
 refine ⟨?_, λ q hq => ?_, ?_⟩
 · rw [pk_keys]
   cases e : lk m n with
   | none =>
     simp only [Option.isSome, Bool.false_eq_true, if_false]
     exact List.nodup_append.mpr ⟨g.nd, by simp, λ a ha b hb z => not_mem_of_lk e (by rw [<- show b = n by simpa using hb, <- z]; exact ha)⟩
   | some x => exact g.nd
 · unfold pk at hq
   split at hq
   · obtain ⟨p, hp, rfl⟩ := List.mem_map.mp hq
     have := g.nm p hp
     split
     · exact ⟨this.1, hc⟩
     · exact this
   · rcases List.mem_append.mp hq with hq | hq
     · exact g.nm q hq
     · rw [show q = (n, ns) by simpa using hq]
       exact ⟨hn, hc⟩
 · unfold pk
   rw [any_lk]
   have := g.ln
   split
   · rw [List.length_map]
     exact this
   · rename_i z
     rw [List.length_append]
     simp
     rcases hl with h | h
     · exact absurd h z
     · omega
def cont (m : List (Str × List Int)) : List (Str × List Int) := (srtS' (ks m)).map λ n => (n, (lk m n).getD [])
theorem GN.shq {s : Str} (g : GN s) : ShQ 0 8 (.str s) := by
 refine ⟨?_, rfl, ?_, by simp [PyData.depth], ?_⟩
 · show SeqAt.shaped (.str s) = true
   unfold SeqAt.shaped
   rw [Bool.and_eq_true]
   refine ⟨?_, by simp [PyData.depth]⟩
   simp only [PyData.canLay0, PyData.strOk]
   rw [Array.all_eq_true']
   intro c hc
   have := g.2.2 c (by simpa using hc)
   exact decide_eq_true (by omega)
 · simp only [PyData.leavesShort, List.all_eq_true]
   intro c hc
   have := g.2.2 c hc
   exact decide_eq_true (by omega)
 · exact g.2.1
theorem GC.shq {ns : List Int} (g : GC ns) : ShQ 1 48 (eL eI ns) := by
 have h := ShQ.list (dp := 0) (bk := 0) (ds := ns.map eI) λ d hd => by
   obtain ⟨n, hn, rfl⟩ := List.mem_map.mp hd
   have := g.2 n hn
   exact ShQ.int (Nat.lt_of_lt_of_le (show n.natAbs < 2 ^ 10 by omega) (by decide))
 rw [List.length_map] at h
 exact h.up (Nat.le_refl _) (by have := g.1; omega)
theorem nd_map {α β : Type} {f : α -> β} (inj : ∀ a b, f a = f b -> a = b) : ∀ {l : List α}, l.Nodup -> (l.map f).Nodup
 | [], _ => List.nodup_nil
 | x :: r, h => by
   obtain ⟨h1, h2⟩ := List.nodup_cons.mp h
   rw [List.map_cons]
   refine List.nodup_cons.mpr ⟨λ z => ?_, nd_map inj h2⟩
   obtain ⟨y, hy, e⟩ := List.mem_map.mp z
   rw [inj _ _ e] at hy
   exact h1 hy
end RC

namespace RC
open PySem PySem.Spec PyProof.Rows L2
section
variable {κ α β γ : Type} [DecidableEq κ]
def tr (f : α -> β) (m : List (κ × α)) : List (κ × β) := m.map λ p => (p.1, f p.2)
@[simp] theorem ks_tr (f : α -> β) (m : List (κ × α)) : ks (tr f m) = ks m := by simp [ks, tr]
@[simp] theorem len_tr (f : α -> β) (m : List (κ × α)) : (tr f m).length = m.length := by simp [tr]
@[simp] theorem lk_nil (k : κ) : lk ([] : List (κ × α)) k = none := rfl
theorem lk_pk (m : List (κ × α)) (k j : κ) (x : α) : lk (pk m k x) j = if j = k then some x else lk m j := by
 unfold pk
 split
 · rename_i h
   induction m with
   | nil => simp at h
   | cons p m ih =>
     rw [List.map_cons, lk_cons, lk_cons]
     by_cases z : p.1 = k
     · rw [if_pos z]
       by_cases y : j = k
       · subst y
         simp [z]
       · rw [if_neg (by rw [z]; exact λ q => y q.symm), if_neg y, if_neg (by rw [z]; exact λ q => y q.symm)]
         by_cases hh : (m.any λ p => decide (p.1 = k)) = true
         · rw [ih hh, if_neg y]
         · have : m.map (λ p => if p.1 = k then (p.1, x) else p) = m := by
             rw [List.map_congr_left (g := id), List.map_id]
             intro q hq
             have : ¬ q.1 = k := λ z => hh (List.any_eq_true.mpr ⟨q, hq, by simpa using z⟩)
             simp [this]
           rw [this]
     · rw [if_neg z]
       have hh : (m.any λ p => decide (p.1 = k)) = true := by simpa [z] using h
       by_cases y : p.1 = j
       · rw [if_pos y, if_pos y, if_neg (λ q => z (y.trans q))]
       · rw [if_neg y, if_neg y, ih hh]
 · rename_i h
   induction m with
   | nil =>
     show lk ([] ++ [(k, x)]) j = _
     rw [List.nil_append, lk_cons]
     by_cases y : j = k
     · subst y; simp
     · rw [if_neg (λ q => y q.symm), if_neg y]
   | cons p m ih =>
     have hp : ¬ p.1 = k := λ z => h (by simp [z])
     have hm : ¬ (m.any λ p => decide (p.1 = k)) = true := λ z => h (by rw [List.any_cons, z]; simp)
     rw [List.cons_append, lk_cons, lk_cons, ih hm]
     by_cases y : p.1 = j
     · rw [if_pos y, if_pos y, if_neg (λ q => hp (y.trans q))]
     · rw [if_neg y, if_neg y]
end
theorem ShQ.tup {dp bk : Nat} {ds : List PyData} (h : ∀ d ∈ ds, ShQ dp bk d) : ShQ (dp + 1) (ds.length * (bk + 1)) (.tuple ds) := by
 obtain ⟨h0, h1, h2, h3, h4⟩ := ShQ.all h
 refine ⟨h0, by simpa [PyData.showable] using h1, by simpa [PyData.leavesShort] using h2, ?_, by simpa [PyData.bulk] using h4⟩
 simp only [PyData.depth]
 omega
theorem ShQ.non : ShQ 0 0 .none := ⟨trivial, rfl, rfl, by simp [PyData.depth], by simp [PyData.bulk]⟩
theorem ShQ.bl (b : Bool) : ShQ 0 0 (.bool b) := ⟨trivial, rfl, rfl, by simp [PyData.depth], by simp [PyData.bulk]⟩
def wdb (s : Str) : Bool := SeqAt.shaped (.str s) && ((PyData.str s).showable && ((PyData.str s).leavesShort 400 && decide (s.length <= 16)))
theorem ShQ.wd {s : Str} (h : wdb s = true) : ShQ 0 16 (.str s) := by
 simp only [wdb, Bool.and_eq_true, decide_eq_true_eq] at h
 exact ⟨h.1, h.2.1, h.2.2.1, by simp [PyData.depth], h.2.2.2⟩
end RC

namespace RC
open PySem PySem.Spec PyProof.Rows L2
structure Shn (dp sz : Nat) (d : PyData) : Prop where
 ok : dOk d
 sh : d.showable = true
 dp : d.depth <= dp
 ln : d.shown.length <= sz
structure ShnA (dp sz : Nat) (ds : List PyData) : Prop where
 ok : dOkA ds
 sh : PyData.showableAll ds = true
 dp : PyData.depthAll ds <= dp
 ln : ((PyData.shownAll ds).map (·.length)).sum + 2 * ds.length <= sz
theorem Shn.up {dp sz dp' sz' : Nat} {d : PyData} (h : Shn dp sz d) (h1 : dp <= dp') (h2 : sz <= sz') : Shn dp' sz' d := ⟨h.ok, h.sh, Nat.le_trans h.dp h1, Nat.le_trans h.ln h2⟩
theorem Shn.alk {dp sz : Nat} {d : PyData} (h : Shn dp sz d) (h1 : dp <= 60) (h2 : sz <= 16000000) : AlkOk d := ⟨h.ok, h.sh, Nat.le_trans h.dp h1, Nat.le_trans h.ln (Nat.le_trans h2 (by rw [sizeLine_eq]; decide))⟩
theorem ShQ.shn {dp bk : Nat} {d : PyData} (h : ShQ dp bk d) : Shn dp (402 * bk + 400) d := by
 refine ⟨h.ok, h.sh, h.dp, ?_⟩
 have z := PyData.shown_le_bulk 400 (by decide) d h.lf
 have b := h.bk
 omega
theorem ShnA.nil : ShnA 0 0 [] := ⟨trivial, rfl, Nat.le_refl _, Nat.le_refl _⟩
theorem ShnA.up {dp sz dp' sz' : Nat} {d : List PyData} (h : ShnA dp sz d) (h1 : dp <= dp') (h2 : sz <= sz') : ShnA dp' sz' d := ⟨h.ok, h.sh, Nat.le_trans h.dp h1, Nat.le_trans h.ln h2⟩
theorem ShnA.cons {dp s s' : Nat} {d : PyData} {ds : List PyData} (a : Shn dp s d) (b : ShnA dp s' ds) : ShnA dp (s + 2 + s') (d :: ds) := by
 have h1 := a.dp
 have h2 := b.dp
 have h3 := a.ln
 have h4 := b.ln
 refine ⟨⟨a.ok, b.ok⟩, by simp [PyData.showableAll, a.sh, b.sh], ?_, ?_⟩
 · simp only [PyData.depthAll]
   omega
 · simp only [PyData.shownAll, List.map_cons, List.sum_cons, List.length_cons]
   omega
theorem ShnA.all {dp s : Nat} : ∀ {ds : List PyData}, (∀ d ∈ ds, Shn dp s d) -> ShnA dp (ds.length * (s + 2)) ds
 | [], _ => ShnA.nil.up (Nat.zero_le _) (Nat.zero_le _)
 | d :: ds, h => by
   have a := h d List.mem_cons_self
   have b := ShnA.all λ x hx => h x (List.mem_cons_of_mem _ hx)
   refine (ShnA.cons a b).up (Nat.le_refl _) ?_
   rw [List.length_cons, Nat.add_mul]
   omega
theorem ShnA.app {dp s s' : Nat} : ∀ {ds es : List PyData}, ShnA dp s ds -> ShnA dp s' es -> ShnA dp (s + s') (ds ++ es)
 | [], es, a, b => b.up (Nat.le_refl _) (by omega)
 | d :: ds, es, a, b => by
   have h1 := a.dp
   have h4 := a.ln
   have h0 := a.ok
   have hs := a.sh
   simp only [PyData.depthAll] at h1
   simp only [PyData.shownAll, List.map_cons, List.sum_cons, List.length_cons] at h4
   simp only [PyData.showableAll, Bool.and_eq_true] at hs
   have c : ShnA dp (((PyData.shownAll ds).map (·.length)).sum + 2 * ds.length) ds := ⟨h0.2, hs.2, by omega, Nat.le_refl _⟩
   have e : Shn dp d.shown.length d := ⟨h0.1, hs.1, by omega, Nat.le_refl _⟩
   exact (ShnA.cons e (ShnA.app c b)).up (Nat.le_refl _) (by omega)
theorem Shn.list {dp s : Nat} {ds : List PyData} (h : ShnA dp s ds) : Shn (dp + 1) (s + 3) (.list ds) := by
 have h1 := h.dp
 have h2 := listText_len_le (PyData.shownAll ds)
 have h3 := PyData.shownAll_length ds
 have h4 := h.ln
 refine ⟨h.ok, by simpa [PyData.showable] using h.sh, ?_, ?_⟩
 · simp only [PyData.depth]
   omega
 · simp only [PyData.shown]
   omega
theorem Shn.tup {dp s : Nat} {ds : List PyData} (h : ShnA dp s ds) : Shn (dp + 1) (s + 3) (.tuple ds) := by
 have h1 := h.dp
 have h2 := tupleText_len_le (PyData.shownAll ds)
 have h3 := PyData.shownAll_length ds
 have h4 := h.ln
 refine ⟨h.ok, by simpa [PyData.showable] using h.sh, ?_, ?_⟩
 · simp only [PyData.depth]
   omega
 · simp only [PyData.shown]
   omega
theorem Shn.listE {α : Type} {e : α -> PyData} {dp s n : Nat} {xs : List α} (h : ∀ x ∈ xs, Shn dp s (e x)) (hl : xs.length <= n) : Shn (dp + 1) (n * (s + 2) + 3) (eL e xs) := by
 have := Shn.list (ShnA.all (ds := xs.map e) (dp := dp) (s := s) λ d hd => by
   obtain ⟨x, hx, rfl⟩ := List.mem_map.mp hd
   exact h x hx)
 rw [List.length_map] at this
 exact this.up (Nat.le_refl _) (Nat.add_le_add_right (Nat.mul_le_mul_right _ hl) _)
theorem Shn.int {n : Int} (k : Nat) (h0 : 0 < k) (hk : k <= 500) (h : n.natAbs < 10 ^ k) : Shn 0 (k + 1) (.int n) := by
 have l : n.natAbs.log2 < 1920 := by
   rcases Nat.eq_zero_or_pos n.natAbs with e | e
   · rw [e]
     decide
   · refine (Nat.log2_lt (by omega)).mpr (Nat.lt_of_lt_of_le h ?_)
     exact Nat.le_trans (Nat.pow_le_pow_right (by decide) hk) (by decide +kernel)
 refine ⟨trivial, by simpa [PyData.showable] using l, by simp [PyData.depth], ?_⟩
 have := int_text_length_le10 (a := n) (k := k) h0 h
 simp only [PyData.shown]
 rw [PySem.ofString_length]
 exact this
theorem Shn.non : Shn 0 4 .none := ⟨trivial, rfl, by simp [PyData.depth], by decide⟩
theorem Shn.bl (b : Bool) : Shn 0 5 (.bool b) := ⟨trivial, rfl, by simp [PyData.depth], by cases b <;> decide⟩
theorem Shn.wd {s : Str} (h : wdb s = true) : Shn 0 200 (.str s) := by
 simp only [wdb, Bool.and_eq_true, decide_eq_true_eq] at h
 refine ⟨h.1, h.2.1, by simp [PyData.depth], ?_⟩
 have hx : ∀ c ∈ s.cps.toList, c < 16 ^ 8 := by simpa only [PyData.leavesShort, List.all_eq_true, decide_eq_true_eq] using h.2.2.1
 have e := PySem.StrLaws.reprText_len s hx
 have l : s.length <= 16 := h.2.2.2
 simp only [PyData.shown]
 omega
theorem GN.shn {s : Str} (g : GN s) : Shn 0 100 (.str s) := by
 have q := g.shq
 refine ⟨q.ok, q.sh, q.dp, ?_⟩
 have hx : ∀ c ∈ s.cps.toList, c < 16 ^ 8 := λ c hc => by
   have := (g.2.2 c hc).2
   omega
 have e := PySem.StrLaws.reprText_len s hx
 have l : s.length <= 8 := g.2.1
 simp only [PyData.shown]
 omega
theorem Shn.dict {α : Type} {e : α -> PyData} {dp s n : Nat} {m : List (Str × α)} (nd : (ks m).Nodup) (h : ∀ q ∈ m, GN q.1 /\ Shn dp s (e q.2)) (hl : m.length <= n) : Shn (dp + 1) (n * (s + 104) + 3) (eD iS e m) := by
 have key : ∀ {m : List (Str × α)}, (∀ q ∈ m, GN q.1 /\ Shn dp s (e q.2)) -> dOkK (m.map λ p => (kD (iS p.1), e p.2)) /\ PyData.showableKv (m.map λ p => (kD (iS p.1), e p.2)) = true /\
     PyData.depthKv (m.map λ p => (kD (iS p.1), e p.2)) <= dp /\ ((PyData.shownKv (m.map λ p => (kD (iS p.1), e p.2))).map (·.length)).sum + 2 * m.length <= m.length * (s + 104) := by
   intro m
   induction m with
   | nil => exact λ _ => ⟨trivial, rfl, Nat.zero_le _, Nat.zero_le _⟩
   | cons q m ih =>
     intro h
     obtain ⟨h0, h1, h3, h4⟩ := ih λ z hz => h z (List.mem_cons_of_mem _ hz)
     obtain ⟨a, b⟩ := h q List.mem_cons_self
     have sa : Shn 0 100 (kD (iS q.1)) := a.shn
     have b1 := b.ln
     have b2 := sa.ln
     have b3 := b.dp
     have b4 := sa.dp
     refine ⟨⟨b.ok, h0⟩, ?_, ?_, ?_⟩
     · simp [PyData.showableKv, sa.sh, b.sh, h1]
     · simp only [List.map_cons, PyData.depthKv]
       omega
     · have e2 : ((kD (iS q.1)).shown ++ ": " ++ (e q.2).shown).length = (kD (iS q.1)).shown.length + 2 + (e q.2).shown.length := by
         rw [PySem.strLen_append, PySem.strLen_append]
         rfl
       simp only [List.map_cons, PyData.shownKv, List.sum_cons, List.length_cons]
       rw [Nat.add_mul]
       omega
 obtain ⟨h0, h1, h3, h4⟩ := key h
 have h5 := dictText_len_le (PyData.shownKv (m.map λ p => (kD (iS p.1), e p.2)))
 have h6 := PyData.shownKv_length (m.map λ p => (kD (iS p.1), e p.2))
 rw [List.length_map] at h6
 have h7 := Nat.mul_le_mul_right (s + 104) hl
 refine ⟨⟨?_, h0⟩, by simpa [PyData.showable, eD] using h1, ?_, ?_⟩
 · rw [List.map_map]
   have e : ((λ x : PyData × PyData => x.1) ∘ λ p : Str × α => (kD (iS p.1), e p.2)) = (λ n : Str => kD (iS n)) ∘ (λ p : Str × α => p.1) := rfl
   rw [e, <- List.map_map]
   exact nd_map (λ a b z => injS _ _ (kD_inj z)) nd
 · simp only [eD, PyData.depth]
   omega
 · simp only [eD, PyData.shown]
   omega
end RC

namespace RC
open PySem PySem.Spec PyProof.Rows L2
def stp (m : Nat) : Nat -> Nat -> Nat
 | 0, i => i
 | n + 1, i => stp m n ((i * 5 + 1) % (m + 1))
structure MOk (m : Nat) : Prop where
 get : ∀ j, j <= m -> ∃ b, b < m + 1 /\ stp m b 0 = j
 back : stp m (m + 1) 0 = 0
def occ (m : Nat) (ow : Array (Option Nat)) : List Nat := (List.range (m + 1)).filterMap λ j => ow.getD j none
structure OwI (m : Nat) (ow : Array (Option Nat)) (k : Nat) : Prop where
 sz : ow.size = m + 1
 pm : (occ m ow).Perm (List.range k)
theorem fm_congr {α β : Type} {f g : α -> Option β} : ∀ {l : List α}, (∀ x ∈ l, f x = g x) -> l.filterMap f = l.filterMap g
 | [], _ => rfl
 | x :: l, h => by
   rw [List.filterMap_cons, List.filterMap_cons, h x List.mem_cons_self, fm_congr λ y hy => h y (List.mem_cons_of_mem _ hy)]
theorem OwI.put {m k q : Nat} {ow : Array (Option Nat)} (h : OwI m ow k) (hq : (ow.getD q (some 0)).isNone = true) : OwI m (ow.setIfInBounds q (some k)) (k + 1) := by
 have hlt : q < ow.size := by
   rcases Nat.lt_or_ge q ow.size with z | z
   · exact z
   · simp [Array.getD, Nat.not_lt.mpr z] at hq
 have hn : ow.getD q none = none := by
   have e : ow.getD q none = ow.getD q (some 0) := by simp [Array.getD, hlt]
   rw [e]
   simpa using hq
 refine ⟨by simp [h.sz], ?_⟩
 have hs := h.sz
 have sp : List.range (m + 1) = List.range q ++ q :: (List.range' (q + 1) (m - q)) := by
   rw [List.range_eq_range', show m + 1 = q + (1 + (m - q)) by omega, <- List.range'_append_1, <- List.range'_append_1, List.range_eq_range']
   simp
 have ne : ∀ j, j ≠ q -> (ow.setIfInBounds q (some k)).getD j none = ow.getD j none := λ j hj => by
   simp only [Array.getD_eq_getD_getElem?]
   rw [Array.getElem?_setIfInBounds_ne (λ z => hj z.symm)]
 have same : (ow.setIfInBounds q (some k)).getD q none = some k := by
   simp only [Array.getD_eq_getD_getElem?]
   rw [Array.getElem?_setIfInBounds_self_of_lt hlt]
   rfl
 have a : occ m (ow.setIfInBounds q (some k)) = (List.range q).filterMap (λ j => ow.getD j none) ++ k :: (List.range' (q + 1) (m - q)).filterMap (λ j => ow.getD j none) := by
   unfold occ
   rw [sp, List.filterMap_append, List.filterMap_cons_some (f := λ j => (ow.setIfInBounds q (some k)).getD j none) same]
   congr 1
   · exact fm_congr λ j hj => ne j (by have := List.mem_range.mp hj; omega)
   · congr 1
     exact fm_congr λ j hj => ne j (by have := List.mem_range'_1.mp hj; omega)
 have b : occ m ow = (List.range q).filterMap (λ j => ow.getD j none) ++ (List.range' (q + 1) (m - q)).filterMap (λ j => ow.getD j none) := by
   unfold occ
   rw [sp, List.filterMap_append, List.filterMap_cons_none (f := λ j => ow.getD j none) hn]
 rw [a, List.range_succ]
 have p := h.pm
 rw [b] at p
 exact (List.perm_middle.trans (p.cons k)).trans (List.perm_append_singleton _ _).symm
end RC

namespace RC
open PySem PySem.Spec PyProof.Rows L2
def kyM : Value -> Key
 | .int i _ => .inl i
 | .str x _ => .inr x
 | _ => .inl 0
def GdM (w : World) (e : Int × Value) : Prop := keyIs (kyM e.2) e.2 = true /\ e.1 = keyH w (kyM e.2)
def kys (es : Array (Int × Value)) : List Key := es.toList.map λ e => kyM e.2
def SM (w : World) (h : Heap) (a : Addr) (L : List Key) : Prop :=
 ∃ o es ep t, h.get? a = some o /\ o.ExactSet /\ o.data = .set es ep t /\ (∀ e ∈ es.toList, GdM w e) /\ kys es = L /\ L.Nodup /\ es.size < scanBound /\ t.fits es.size = true /\ Ris t.place.toList /\ (w.params.followText "set-order" = true \/ t.led = true)
section
variable {P : Program} {w : World} {h h' : Heap} {a : Addr} {L : List Key}
theorem SM.keep (R : SM w h a L) (k : ∀ o, h.get? a = some o -> h'.get? a = some o) : SM w h' a L := by
 obtain ⟨o, es, ep, t, ho, r⟩ := R
 exact ⟨o, es, ep, t, k o ho, r⟩
end
section
variable {P : Program} {w : World} {A : Around} {E : Value -> Shared -> Prop} {s : Shared} {a : Addr} {L : List Key}
end
end RC

namespace RC
open PySem PySem.Spec PyProof.Rows L2
structure SX (w : World) (h : Heap) (a : Addr) (es : Array (Int × Value)) (ep : Nat) (t : SetTable) : Prop where
 ob : ∃ o, h.get? a = some o /\ o.ExactSet /\ o.data = .set es ep t
 gd : ∀ e ∈ es.toList, GdM w e
 nd : (kys es).Nodup
 sz : es.size < scanBound
 ft : t.fits es.size = true
 rs : Ris t.place.toList
 ld : w.params.followText "set-order" = true \/ t.led = true
theorem SX.keep {w : World} {h h' : Heap} {a : Addr} {es : Array (Int × Value)} {ep : Nat} {t : SetTable} (R : SX w h a es ep t) (k : ∀ o, h.get? a = some o -> h'.get? a = some o) : SX w h' a es ep t := by
 obtain ⟨o, a1, a2, a3⟩ := R.ob
 exact ⟨⟨o, k o a1, a2, a3⟩, R.gd, R.nd, R.sz, R.ft, R.rs, R.ld⟩
section
variable {P : Program} {w : World} {A : Around} {E : Value -> Shared -> Prop} {s : Shared} {a : Addr} {es : Array (Int × Value)} {ep : Nat} {t : SetTable}
end
section
variable {P : Program} {w : World} {A : Around} {E : Value -> Shared -> Prop} {s : Shared} {a b : Addr} {es eo : Array (Int × Value)} {ep eq : Nat} {t to : SetTable}
end
end RC

namespace RC
open PySem PySem.Spec PyProof.Rows L2
theorem nodup_le {α : Type} : ∀ {l m : List α}, l.Nodup -> (∀ x ∈ l, x ∈ m) -> l.length <= m.length
 | [], m, _, _ => Nat.zero_le _
 | x :: l, m, nd, h => by
   obtain ⟨n1, n2⟩ := List.nodup_cons.mp nd
   obtain ⟨a, b, rfl⟩ := List.append_of_mem (h x List.mem_cons_self)
   have := nodup_le (m := a ++ b) n2 λ y hy => by
     have := h y (List.mem_cons_of_mem _ hy)
     rcases List.mem_append.mp this with z | z
     · exact List.mem_append_left _ z
     · rcases List.mem_cons.mp z with z | z
       · exact absurd (z ▸ hy) n1
       · exact List.mem_append_right _ z
   rw [List.length_append] at this
   rw [List.length_cons, List.length_append, List.length_cons]
   omega
section
variable {P : Program} {w : World} {A : Around} {E : Value -> Shared -> Prop} {s : Shared} {a b : Addr} {es eo : Array (Int × Value)} {ep eq : Nat} {t to : SetTable}
structure Got (L0 : List Key) (ks L : List Key) : Prop where
 nd : L.Nodup
 mem : ∀ k, k ∈ L ↔ k ∈ L0 \/ k ∈ ks
theorem Got.nil {L0 : List Key} (h : L0.Nodup) : Got L0 [] L0 := ⟨h, λ k => by simp⟩
theorem Got.len {L0 ks L : List Key} (g : Got L0 ks L) : L.length <= L0.length + ks.length := by
 have := nodup_le g.nd λ k hk => List.mem_append.mpr ((g.mem k).mp hk)
 rwa [List.length_append] at this
end
end RC

namespace RC
open PySem PySem.Spec PyProof.Rows L2
section
variable {P : Program} {w : World} {A : Around} {E : Value -> Shared -> Prop} {s : Shared}
variable {a d : Addr} {es : Array (Int × Value)} {ep : Nat} {t : SetTable} {vs : List (Key × Value)}
end
end RC

namespace RC
open PySem PySem.Spec PyProof.Rows L2
section
variable {P : Program} {w : World} {A : Around} {E : Value -> Shared -> Prop} {s : Shared} {a b : Addr} {ea eb : Array (Int × Value)} {pa pb : Nat} {ta tb : SetTable}
end
end RC

namespace RC
open PySem PySem.Spec PyProof.Rows L2
section
variable {P : Program} {w : World} {A : Around} {E : Value -> Shared -> Prop} {s : Shared} {a : Addr} {es : Array (Int × Value)} {ep : Nat} {t : SetTable}
end
section
variable {P : Program} {w : World} {A : Around} {E : Value -> Shared -> Prop} {s : Shared}
end
def SetH (w : World) (a : Addr) (L : List Key) : HO := .ext λ h => SM w h a L
section
variable {X : Cx}
def rSetL (K : Fr) (w : World) : List V -> Hp -> VK -> Prop := λ xs H Q => ∃ (l : Addr) (ks : List Key), xs = [.ref l] /\ SqL K H l (ks.map kV) /\ ks.length < 4000 /\ ∀ p L, H p = none -> Got [] ks L -> Q (.ref p) (upd H p (SetH w p L))
end
end RC

namespace RC
open PySem PySem.Spec PyProof.Rows L2
section
variable {P : Program} {w : World} {A : Around} {E : Value -> Shared -> Prop} {s : Shared} {a b : Addr} {ea eb : Array (Int × Value)} {pa pb : Nat} {ta tb : SetTable} {es : Array (Int × Value)} {ep : Nat} {t : SetTable}
end
section
variable {P : Program} {w : World} {A : Around} {E : Value -> Shared -> Prop} {s : Shared} {a b : Addr} {ea eb : Array (Int × Value)} {pa pb : Nat} {ta tb : SetTable} {es : Array (Int × Value)} {ep : Nat} {t : SetTable}
structure Left (L0 ks L : List Key) : Prop where
 nd : L.Nodup
 mem : ∀ k, k ∈ L ↔ k ∈ L0 /\ k ∉ ks
end
section
variable {P : Program} {w : World} {A : Around} {E : Value -> Shared -> Prop} {s : Shared} {a b : Addr} {ea eb : Array (Int × Value)} {pa pb : Nat} {ta tb : SetTable}
end
end RC

namespace RC
open PySem PySem.Spec PyProof.Rows L2
def dd {α : Type} [DecidableEq α] : List α -> List α
 | [] => []
 | x :: xs => x :: (dd xs).filter λ y => decide (y ≠ x)
structure SIs {κ : Type} (ik : κ -> Key) (L : List Key) (xs : List κ) : Prop where
 nd : L.Nodup
 mem : ∀ q, q ∈ L ↔ q ∈ xs.map ik
theorem SIs.len {κ : Type} {ik : κ -> Key} {L : List Key} {xs : List κ} (h : SIs ik L xs) : L.length <= xs.length := by
 have := nodup_le h.nd λ q hq => (h.mem q).mp hq
 rwa [List.length_map] at this
theorem perm_of {α : Type} {l m : List α} (h1 : l.Nodup) (h2 : m.Nodup) (h : ∀ x, x ∈ l ↔ x ∈ m) : l.Perm m := by
 induction l generalizing m with
 | nil =>
   have : m = [] := List.eq_nil_iff_forall_not_mem.mpr λ x hx => nomatch (h x).mpr hx
   rw [this]
 | cons x l ih =>
   obtain ⟨n1, n2⟩ := List.nodup_cons.mp h1
   obtain ⟨a, b, rfl⟩ := List.append_of_mem ((h x).mp List.mem_cons_self)
   have nd2 : (x :: (a ++ b)).Nodup := List.perm_middle.nodup_iff.mp h2
   obtain ⟨n3, n4⟩ := List.nodup_cons.mp nd2
   refine (List.Perm.cons x (ih n2 n4 λ y => ?_)).trans List.perm_middle.symm
   constructor
   · intro hy
     have := (h y).mp (List.mem_cons_of_mem _ hy)
     rcases List.mem_append.mp this with z | z
     · exact List.mem_append_left _ z
     · rcases List.mem_cons.mp z with z | z
       · exact absurd (z ▸ hy) n1
       · exact List.mem_append_right _ z
   · intro hy
     have : y ∈ a ++ x :: b := by
       rcases List.mem_append.mp hy with z | z
       · exact List.mem_append_left _ z
       · exact List.mem_append_right _ (List.mem_cons_of_mem _ z)
     rcases List.mem_cons.mp ((h y).mpr this) with z | z
     · exact absurd (z ▸ hy) n3
     · exact z
section
variable {K : Fr} {α : Type} {e : α -> PyData} {Rs : List Res} {H : Hp} {Q : VK} {v : V} {a b : Addr} {σ : L2.St} {w : World}
end
end RC

namespace RC
open PySem PySem.Spec PyProof.Rows L2
def tkey (h : Heap) : Value -> Str
 | .ref a => match h.get? a with
   | some o => match o.data with
     | .seq xs _ => match (xs[0]? : Option Value) with
       | some (Value.str y _) => y
       | _ => ""
     | _ => ""
   | none => ""
 | _ => ""
def TxP (h : Heap) (v : Value) (y : Str) (u : Value) : Prop := ∃ a o t n, v = .ref a /\ h.get? a = some o /\ o.cls = .type "tuple" /\ o.data = .seq #[.str y t, u] n
theorem TxP.key {h : Heap} {v : Value} {y : Str} {u : Value} (p : TxP h v y u) : tkey h v = y := by
 obtain ⟨a, o, t, n, rfl, ho, hc, hd⟩ := p
 unfold tkey
 simp only [ho, hd]
 rfl
theorem TxP.keeps {h h' : Heap} {v : Value} {y : Str} {u : Value} (p : TxP h v y u) (k : ∀ b o, v = .ref b -> h.get? b = some o -> h'.get? b = some o) : TxP h' v y u := by
 obtain ⟨a, o, t, n, rfl, ho, hc, hd⟩ := p
 exact ⟨a, o, t, n, rfl, k _ _ rfl ho, hc, hd⟩
section
variable {prog : Program} {w : World} {A : Around} {s : Shared}
end
section
variable {X : Cx}
end
end RC

namespace RC
open PySem PySem.Spec PyProof.Rows L2
section
variable {K : Fr} {α : Type} {e : α -> PyData} {Rs : List Res} {H H' : Hp} {Q : VK} {v : V} {p : Addr}
end
section
variable {K : Fr} {α : Type} {e : α -> PyData} {Rs : List Res} {H H' : Hp} {Q : VK} {v : V} {p : Addr} {σ : L2.St}
end
section
variable {K : Fr} {α β γ : Type} {ea : α -> PyData} {eb : β -> PyData} {ec : γ -> PyData} {Rs : List Res} {H H' : Hp} {Q : VK} {v : V} {p : Addr} {σ : L2.St}
end
section
variable {K : Fr} {Rs : List Res} {H : Hp} {Q : VK} {v : V} {d : PyData} {ta tb : TE} {σ : L2.St}
def OrK (K : Fr) (tb : TE) (σ : L2.St) (Q : VK) : VK := λ x H1 => ∃ k, TruV K x H1 k /\ if k = true then Q x H1 else tb σ H1 Q
theorem g_orT (h : ta σ H (OrK K tb σ Q)) : tOrT K ta tb σ H Q := h
end
section
variable {K : Fr} {α κ : Type} {ik ik' : κ -> Key} {e e' : α -> PyData} {Rs : List Res} {H : Hp} {Q : VK} {v : V} {p : Addr} {m : List (κ × α)}
end
def wlN {β : Type} (F : β -> (β -> Prop) -> (β -> Prop) -> Prop) : Nat -> β -> (β -> Prop) -> Prop
 | 0, _, _ => False
 | n + 1, s, k => F s (λ s' => wlN F n s' k) k
def wlD {β : Type} (F : β -> (β -> Prop) -> (β -> Prop) -> Prop) (s : β) (k : β -> Prop) : Prop := ∃ n, wlN F n s k
def WhT (P : L2.St -> Hp -> Prop) (tb : TS) (D : Ends) (σ : L2.St) (H : Hp) : Prop := ∃ N : L2.St -> Hp -> Prop, (∀ σ' H', N σ' H' -> P σ' H') /\ tb { D with nx := N, ct := N, bk := D.nx } σ H
section
variable {β : Type} {F : β -> (β -> Prop) -> (β -> Prop) -> Prop} {s0 : β} {KK : β -> Prop} {tc : TT} {tb : TS} {D : Ends} {σ : L2.St} {H : Hp}
theorem wh_D (hf : wlD F s0 KK) (Inv : β -> L2.St -> Hp -> Prop) (h0 : Inv s0 σ H)
   (hs : ∀ s σ H (kk ke : β -> Prop) (P N : L2.St -> Hp -> Prop), Inv s σ H -> (∀ s σ H, kk s -> Inv s σ H -> P σ H) -> (∀ s σ H, ke s -> Inv s σ H -> N σ H) -> F s kk ke -> tc σ H λ b H1 => if b = true then WhT P tb ⟨N, D.rt, D.bk, D.ct⟩ σ H1 else N σ H1)
   (hd : ∀ s σ H, KK s -> Inv s σ H -> D.nx σ H) : WhW tc tb D σ H := by
 obtain ⟨n, hn⟩ := hf
 refine ⟨λ m σ H => ∃ s, wlN F m s KK /\ Inv s σ H, ⟨n, s0, hn, h0⟩, ?_⟩
 rintro m σ H ⟨s, hm, hI⟩
 cases m with
 | zero => exact hm.elim
 | succ m => exact hs s σ H (λ s' => wlN F m s' KK) KK (λ σ' H' => ∃ m', m' < m + 1 /\ ∃ s, wlN F m' s KK /\ Inv s σ' H') D.nx hI (λ s σ H h1 h2 => ⟨m, Nat.lt_succ_self _, s, h1, h2⟩) hd hm
theorem wh_yes {P : L2.St -> Hp -> Prop} {kk : β -> Prop} {Inv : β -> L2.St -> Hp -> Prop} (hP : ∀ s σ H, kk s -> Inv s σ H -> P σ H) (k : tb ⟨λ σ H => ∃ s', kk s' /\ Inv s' σ H, D.rt, D.nx, λ σ H => ∃ s', kk s' /\ Inv s' σ H⟩ σ H) : WhT P tb D σ H :=
 ⟨λ σ H => ∃ s', kk s' /\ Inv s' σ H, λ σ' H' ⟨s', h1, h2⟩ => hP s' σ' H' h1 h2, k⟩
end
section
variable {K : Fr} {κ α β : Type} {ik : κ -> Key} {e : α -> PyData} {Rs : List Res} {H : Hp} {v : V} {m : List (κ × α)} {σ : L2.St} {f : DF}
end
end RC

namespace RC
open PySem PySem.Spec PyProof.Rows L2
section
variable {X : Cx}
end
section
variable {α β : Type} {K : Fr} {Rs : List Res} {H : Hp} {σ : L2.St} {Q : VK} {v : V} {p : Addr} {e : α -> PyData}
end
end RC

namespace RC
open PySem PySem.Spec PyProof.Rows L2
def dEq {κ α : Type} [DecidableEq κ] [DecidableEq α] (m n : List (κ × α)) : Bool := (m.length == n.length) && m.all λ p => decide (lk n p.1 = some p.2)
inductive HitsV (K : Fr) (H : Hp) (ls : List (Key × V)) : List (Key × V) -> Bool -> Prop
 | nil : HitsV K H ls [] true
 | miss {k : Key} {v : V} {r : List (Key × V)} (h : valV ls k = none) : HitsV K H ls ((k, v) :: r) false
 | hit {k : Key} {v u : V} {r : List (Key × V)} {d e : PyData} {b : Bool} (h : valV ls k = some u) (h1 : Dp K H v d) (h2 : Dp K H u e) (s1 : SeqAt.shaped d = true) (s2 : SeqAt.shaped e = true) (t : HitsV K H ls r b) : HitsV K H ls ((k, v) :: r) (PyData.eqv d e && b)
section
variable {X : Cx} {pins : List (Addr × Obj)} {σ : L2.St} {H : Hp} {s : Shared}
end
section
variable {X : Cx}
end
structure EqT {α : Type} [DecidableEq α] (e : α -> PyData) : Prop where
 sh : ∀ x, EqOk (e x)
 ev : ∀ x y, PyData.eqv (e x) (e y) = decide (x = y)
section
variable {κ α β : Type} [DecidableEq κ] [DecidableEq α] {K : Fr} {Rs : List Res} {H F : Hp} {σ : L2.St} {Q : VK} {v w : V} {p : Addr} {e : α -> PyData} {ik : κ -> Key} {m n : List (κ × α)}
def GetK2 (ty tx : TE) (σ : L2.St) (Q : VK) : VK := λ x H1 => ∃ a, x = .ref a /\ IsD H1 a /\ ty σ H1 λ y H2 => tx σ H2 λ z H3 => ∃ o, DGet H3 a y o /\ Q (o.getD z) H3
theorem g_dget2 {td ty tx : TE} (k : td σ H (GetK2 ty tx σ Q)) : tDGet2 td ty tx σ H Q := k
def GetA (a : Addr) (y z : V) (Q : VK) : Hp -> Prop := λ H => ∃ o, DGet H a y o /\ Q (o.getD z) H
theorem v_dget2 {ty tx : TE} (D : DVs K Rs H ik e v m) (k : ∀ a, v = .ref a -> ty σ H λ y H2 => tx σ H2 λ z H3 => GetA a y z Q H3) : GetK2 ty tx σ Q v H := by
 obtain ⟨p, kvs, F, L, rfl, h1, _⟩ := D
 exact ⟨p, rfl, .inl ⟨kvs, h1⟩, k p rfl⟩
theorem DVs.get {a : Addr} {k : κ} (inj : ∀ a b, ik a = ik b -> a = b) (D : DVs K Rs H ik e (.ref a) m) : ∃ o, DGet H a (kV (ik k)) o /\ ((lk m k = none /\ o = none) \/ ∃ x u, lk m k = some x /\ o = some u /\ M (da K u (e x) :: Rs) H) := by
 obtain ⟨p, kvs, F, L, e0, h1, s1, m1, t1⟩ := D
 cases e0
 refine ⟨valV kvs (ik k), .inl ⟨kvs, ik k, h1, rfl, rfl⟩, ?_⟩
 cases z : lk m k with
 | none => exact .inl ⟨rfl, t1.none inj z⟩
 | some x =>
   obtain ⟨u, hu, hd⟩ := t1.some inj z
   exact .inr ⟨x, u, rfl, hu, F, L, ⟨[], L, rfl, ⟨rfl, hd⟩, s1⟩, m1⟩
theorem isNo_Oe {e : α -> PyData} (hn : ∀ x, isNo (e x) = false) (x : Option α) : isNo (eO e x) = x.isNone := by
 cases x with
 | none => rfl
 | some x => exact hn x
theorem v_isOe {x : Option α} (hn : ∀ x, isNo (e x) = false) (h : Dq K H v (eO e x)) (k : Q (.bl x.isNone) H) : rIsN v .non H Q := v_isNa h (by rw [isNo_Oe hn]; exact k)
end
section
variable {κ α : Type} [DecidableEq κ] {K : Fr} {Rs : List Res} {H : Hp} {Q : VK}
end
end RC

namespace RC
open PySem PySem.Spec PyProof.Rows L2
end RC

namespace RC
open PySem PySem.Spec PyProof.Rows L2
section
variable {prog : Program} {w : World} {A : Around} {I : Addr} {fp wr : List Addr} {n : Nat} {P : Nat -> Value -> Prop} {St : Nat -> Heap -> Prop}
theorem walks_from (W : Walks prog w A I fp wr n P St) (k : Nat) (hk : k <= n) : Walks prog w A I fp wr (n - k) (λ i v => P (k + i) v) (λ i h => St (k + i) h) := by
 refine ⟨W.sub, λ i h h' st e => W.frame _ h h' st e, λ i s Q E hi st q => ?_, λ s Q E st q => ?_, λ i s Q E st q => W.self _ s Q E st q⟩
 · exact W.item (k + i) s Q E (by omega) st λ v h' tk hp hs hq => q v h' tk hp (by rw [Nat.add_assoc] at hs; exact hs) hq
 · rw [Nat.add_sub_of_le hk] at st
   exact W.done s Q E st q
theorem draw_walk (W : Walks prog w A I fp wr n P St) : ∀ (j i : Nat) (s : Shared) (Q : List Value -> Shared -> Prop) (E : Value -> Shared -> Prop), i + j <= n -> St i s.heap ->
   (∀ vs h' tk, vs.length = j -> (∀ t v, vs[t]? = some v -> P (i + t) v) -> St (i + j) h' -> (∀ b o, b ∉ wr -> s.heap.get? b = some o -> h'.get? b = some o) -> Q vs { s with heap := h', toks := tk }) -> wpAny (model prog w) A (draw (.ref I) j) Q E s
 | 0, i, s, Q, E, _, st, hq => by
   show wpAny _ _ (pure []) Q E s
   exact wpAny_pure (hq [] s.heap s.toks rfl (λ t v e => by simp at e) st λ _ _ _ e => e)
 | j + 1, i, s, Q, E, hl, st, hq => by
   show wpAny _ _ (pyNext (.ref I) >>= _) Q E s
   refine wpAny_bind (W.item i s _ _ (by omega) st λ v h1 tk1 hp st1 k1 => ?_)
   refine wpAny_bind (wpAny_holding (draw_walk W j (i + 1) _ _ _ (by omega) st1 λ vs h2 tk2 hv hpv st2 k2 => wpAny_pure ?_))
   refine hq (v :: vs) h2 tk2 (by rw [List.length_cons, hv]) (λ t u e => ?_) (by rw [show i + (j + 1) = i + 1 + j by omega]; exact st2) λ b o hb e => k2 b o hb (k1 b o hb e)
   cases t with
   | zero =>
     cases e
     exact hp
   | succ t =>
     have := hpv t u (by simpa using e)
     rw [show i + (t + 1) = i + 1 + t by omega]
     exact this
end
section
variable {prog : Program} {w : World} {A : Around} {E : Value -> Shared -> Prop} {s : Shared}
theorem items_list {items : Array Value} {k m : Nat} {vs : List Value} (hm : k + m <= items.size) (hl : vs.length = m) (h : ∀ t v, vs[t]? = some v -> items[k + t]? = some v) : vs = (items.toList.drop k).take m := by
 refine List.ext_getElem? λ t => ?_
 by_cases z : t < m
 · have hz : t < vs.length := by omega
   rw [List.getElem?_eq_getElem hz, List.getElem?_take, if_pos z, List.getElem?_drop]
   have := h t _ (List.getElem?_eq_getElem hz)
   rw [<- this]
   exact (Array.getElem?_toList ..).symm
 · rw [List.getElem?_eq_none (by omega), List.getElem?_take, if_neg z]
theorem coll_more {J : Addr} {ff ww : List Addr} {GG : Array GenState -> Array GenState -> Prop} {m : Nat} {PP : Nat -> Value -> Prop} {SS : Nat -> Shared -> Prop} {R : List Value -> Shared -> Prop} {T : String} (hh : T = "list_iterator" \/ T = "tuple_iterator")
   (Wk : WalksS prog w A.in1 J ff ww GG m PP SS) (ty : ∀ i s, SS i s -> s.TypeIs (.ref J) T) (s0 : SS 0 s) (small : ∀ b ∈ ff, b < s.heap.objs.size) (mem : J ∈ ff) (hm : m <= sizeLine)
   (fin : ∀ s' acc, Moved ww GG s s' -> s.heap.objs.size < s'.heap.objs.size -> ItemsOf PP acc m -> R acc.toList s') : wpAny (model prog w) A (collect (.ref J)) R E s := by
 have nin : s.heap.objs.size ∉ ff := λ z => absurd (small _ z) (Nat.lt_irrefl _)
 have ne : s.heap.objs.size ≠ J := λ z => nin (z ▸ mem)
 have same : Builtin.List.listSameRef (.ref s.heap.objs.size) (.ref J) = false := by
   simp [Builtin.List.listSameRef, ne]
 have get1 : (s.heap.push ⟨.type "list", none, .seq ([] : List Value).toArray 0, #[]⟩).get? s.heap.objs.size = some ⟨.type "list", none, .seq ([] : List Value).toArray 0, #[]⟩ :=
   Heap.get?_push_size _ rfl
 have s1 := Wk.frame 0 s (s.heap.push ⟨.type "list", none, .seq ([] : List Value).toArray 0, #[]⟩) s.toks s0 (Nat.le_refl _)
   (λ b _ o z => Heap.get?_push_of_some _ z)
 have ty1 := ty 0 _ s1
 unfold collect
 refine wpAny_bind (wpAny_runValue (codeAny_builtin F.entry_proto_collect ?_))
 rw [Around.under_plainId F.plain_proto_collect _]
 refine wpAny_bind (m := newList []) (wpAny_newObj_type ?_)
 refine wpAny_pure ⟨plainId_quiet F.plain_list_iadd _, codeAny_builtin F.entry_list_iadd ?_⟩
 rw [Around.under_plainId F.plain_list_iadd _]
 show wpAny _ A.in1 (Builtin.List.listExtendWith (.ref s.heap.objs.size) (.ref J) (.ref s.heap.objs.size)) _ _ _
 unfold Builtin.List.listExtendWith
 refine wpAny_bind (wpAny_typeOf ty1 ?_)
 rcases hh with rfl | rfl
 · rw [if_neg (by rw [same]; decide)]
   refine wpAny_bind (Wk.self 0 _ _ _ s1 ?_)
   refine wpAny_bind (wpAny_holding ?_)
   unfold Builtin.List.listLengthHint
   refine wpAny_bind (wpAny_specialOf ty1 F.nolen_li ?_)
   show wpAny _ A.in1 (specialOf (Value.ref J) (Str.ofString "__length_hint__") >>= _) _ _ _
   refine wpAny_bind (wpAny_specialOf ty1 F.hint_li ?_)
   generalize hid : ("list_iterator.__length_hint__" : String) = id0
   wp_delta
   rw [show splitId id0 = some ("list_iterator", "__length_hint__") from by subst hid; decide +kernel]
   subst hid
   refine wpAny_bind (wpAny_isInstance (b := true) ty1 (by rw [isSubtype_type]; kernel_rfl) ?_)
   refine wpAny_pure ?_
   rw [if_neg (by decide)]
   refine wpAny_pure ⟨plainId_quiet F.plain_extend_loop _, codeAny_extend_loopS Wk hm _ nin _ m 0 _ _ _ rfl (Nat.zero_le _) s1 get1 (ItemsOf.nil PP) λ s' acc c' mv g' its => ?_⟩
   show wpAny _ A (load s.heap.objs.size >>= _) _ _ s'
   exact wpAny_bind (wpAny_load g' (wpAny_pure (fin s' acc (Moved.drop_new mv (Nat.le_refl _)) (Heap.lt_size g') its)))
 · rw [if_neg (by rw [same]; decide)]
   refine wpAny_bind (Wk.self 0 _ _ _ s1 ?_)
   refine wpAny_bind (wpAny_holding ?_)
   unfold Builtin.List.listLengthHint
   refine wpAny_bind (wpAny_specialOf ty1 F.nolen_tu ?_)
   show wpAny _ A.in1 (specialOf (Value.ref J) (Str.ofString "__length_hint__") >>= _) _ _ _
   refine wpAny_bind (wpAny_specialOf ty1 F.hint_tu ?_)
   generalize hid : ("tuple_iterator.__length_hint__" : String) = id0
   wp_delta
   rw [show splitId id0 = some ("tuple_iterator", "__length_hint__") from by subst hid; decide +kernel]
   subst hid
   refine wpAny_bind (wpAny_isInstance (b := true) ty1 (by rw [isSubtype_type]; kernel_rfl) ?_)
   refine wpAny_pure ?_
   rw [if_neg (by decide)]
   refine wpAny_pure ⟨plainId_quiet F.plain_extend_loop _, codeAny_extend_loopS Wk hm _ nin _ m 0 _ _ _ rfl (Nat.zero_le _) s1 get1 (ItemsOf.nil PP) λ s' acc c' mv g' its => ?_⟩
   show wpAny _ A (load s.heap.objs.size >>= _) _ _ s'
   exact wpAny_bind (wpAny_load g' (wpAny_pure (fin s' acc (Moved.drop_new mv (Nat.le_refl _)) (Heap.lt_size g') its)))
theorem star_items {T : String} {t : Addr} {items : Array Value} {k : Nat} {Is : Nat -> Heap -> Prop} {Q : List Value -> Shared -> Prop} (hT : T = "list_iterator" \/ T = "tuple_iterator") (hlt : t < s.heap.objs.size) (hk : k <= items.size) (hz : items.size <= sizeLine)
   (hni : ∀ Q', Q' false s -> wpAny (model prog w) A (notIterableAtAll (.ref t)) Q' E s)
   (hit : ∀ Q', Q' (.ref s.heap.objs.size) { s with heap := s.heap.push { cls := .type T, data := .fields #[.ref t, .int 0 0] } } -> wpAny (model prog w) A (pyIter (.ref t)) Q' E s)
   (W : ∀ A' : Around, A'.handled = A.handled -> Walks prog w A' s.heap.objs.size [s.heap.objs.size, t] [s.heap.objs.size] items.size (λ i v => items[i]? = some v) Is) (h0 : Is 0 (s.heap.push { cls := .type T, data := .fields #[.ref t, .int 0 0] }))
   (hty : ∀ i h, Is i h -> ∀ s' : Shared, s'.heap = h -> s'.TypeIs (.ref s.heap.objs.size) T)
   (hQ : ∀ h' tk p, (∀ b o, s.heap.get? b = some o -> h'.get? b = some o) -> s.heap.objs.size <= p -> h'.get? p = some (seqObj "list" (items.toList.drop k).toArray 0) -> Q ((items.toList.take k) ++ [.ref p]) { s with heap := h', toks := tk }) :
   wpAny (model prog w) A (unpackItems (.ref t) (k + 1) (some k)) Q E s := by
 unfold unpackItems
 refine wpAny_bind (hni _ ?_)
 rw [if_neg (by decide)]
 refine wpAny_bind (wpAny_holding (hit _ ?_))
 have keep : ∀ {h' : Heap}, (∀ b o, b ∉ [s.heap.objs.size] -> (s.heap.push { cls := .type T, data := .fields #[.ref t, .int 0 0] }).get? b = some o -> h'.get? b = some o) -> ∀ b o, s.heap.get? b = some o -> h'.get? b = some o :=
   λ q b o e => q b o (by simp only [List.mem_cons, List.not_mem_nil, or_false]; exact Nat.ne_of_lt (Heap.lt_size e)) (Heap.get?_push_of_some _ e)
 refine wpAny_bind (wpAny_holding (draw_walk (W A rfl) k 0 _ _ _ (by omega) h0 λ vs h1 tk1 hv hp st k1 => ?_))
 have ev : vs = items.toList.take k := by
   have := items_list (items := items) (k := 0) (m := k) (by omega) hv hp
   simpa using this
 rw [if_neg (by omega)]
 rw [Nat.zero_add] at st
 have hh1 : s.heap.objs.size < h1.objs.size := by
   obtain ⟨o, ho, _⟩ := hty k h1 st ⟨h1, s.gens, s.drawn, tk1, s.os⟩ rfl
   exact Heap.lt_size ho
 have hh2 : t < h1.objs.size := Nat.lt_trans hlt hh1
 refine wpAny_bind (wpAny_holding (coll_more (T := T) (m := items.size - k) hT (walks_from (W A.in1 rfl) k hk).toS (λ i s' st' => hty _ _ st' s' rfl) st ?_ (by simp) (by omega) λ s2 acc mv hgr hi => ?_))
 · intro b hb
   simp only [List.mem_cons, List.not_mem_nil, or_false] at hb
   rcases hb with rfl | rfl
   · exact hh1
   · exact hh2
 · obtain ⟨mk, mg, md, mo, mt⟩ := mv
   have ea : acc.toList = items.toList.drop k := by
     have := items_list (items := items) (k := k) (m := items.size - k) (vs := acc.toList) (by omega) (by rw [Array.length_toList]; exact hi.1) λ t v e => hi.2 t v (by rw [<- Array.getElem?_toList]; exact e)
     rw [List.take_of_length_le (by simp)] at this
     exact this
   have hln : acc.toList.length = items.size - k := by rw [Array.length_toList]; exact hi.1
   rw [if_neg (by omega)]
   have e1 : acc.toList.take (acc.toList.length - (k + 1 - 1 - k)) = acc.toList := List.take_of_length_le (by omega)
   have e2 : acc.toList.drop (acc.toList.length - (k + 1 - 1 - k)) = [] := List.drop_eq_nil_of_le (by omega)
   show wpAny _ _ (newList (acc.toList.take (acc.toList.length - (k + 1 - 1 - k))) >>= λ l => pure (vs ++ [l] ++ acc.toList.drop (acc.toList.length - (k + 1 - 1 - k)))) _ _ _
   rw [e1, e2]
   refine wpAny_bind (wpAny_newList ?_ (by rw [hln]; omega))
   refine wpAny_pure ?_
   obtain ⟨h2, g2, d2, t2, o2⟩ := s2
   have mg : g2 = s.gens := mg
   have md : d2 = s.drawn := md
   have mo : o2 = s.os := mo
   subst mg md mo
   rw [List.append_nil, ev]
   have kk : ∀ b o, s.heap.get? b = some o -> h2.get? b = some o := λ b o e => mk b o (by simp only [List.mem_cons, List.not_mem_nil, or_false]; exact Nat.ne_of_lt (Heap.lt_size e)) (keep k1 b o e)
   refine hQ (h2.push (seqObj "list" acc.toList.toArray 0)) t2 h2.objs.size (λ b o e => Heap.get?_push_of_some _ (kk b o e)) ?_ ?_
   · exact Nat.le_of_lt (Nat.lt_trans hh1 hgr)
   · rw [ea]
     exact Heap.get?_push_size _ rfl
theorem star_tuple {t : Addr} {items : Array Value} {k : Nat} {Q : List Value -> Shared -> Prop} (hh : A.handled = none) (ht : s.heap.IsTuple t items) (hk : k <= items.size) (hz : items.size <= sizeLine)
   (hQ : ∀ h' tk p, (∀ b o, s.heap.get? b = some o -> h'.get? b = some o) -> s.heap.objs.size <= p -> h'.get? p = some (seqObj "list" (items.toList.drop k).toArray 0) -> Q ((items.toList.take k) ++ [.ref p]) { s with heap := h', toks := tk }) :
   wpAny (model prog w) A (unpackItems (.ref t) (k + 1) (some k)) Q E s := by
 have hlt : t < s.heap.objs.size := by obtain ⟨o, ho, _⟩ := ht; exact Heap.lt_size ho
 refine star_items (T := "tuple_iterator") (.inr rfl) hlt hk hz (λ Q' q => ?_) (λ Q' q => PyProof.Rows.iter_tuple (t := t) (items := items) ht q) (λ A' e => Walks.tuple (e.trans hh) _ _ (Nat.ne_of_lt hlt) items) ⟨⟨_, Heap.get?_push_size _ rfl, rfl, rfl⟩, ht.push _⟩ ?_ hQ
 · unfold notIterableAtAll
   refine wpAny_bind (wpAny_specialOf ht.typeIs PyProof.Rows.slot_tuple_iter.lookup ?_)
   exact wpAny_pure q
 · rintro i h ⟨⟨o, ho, hc, hd⟩, _⟩ s' rfl
   exact ⟨o, ho, hc⟩
theorem star_list {t : Addr} {items : Array Value} {k : Nat} {Q : List Value -> Shared -> Prop} (hh : A.handled = none) (ht : s.heap.IsList t items) (hk : k <= items.size) (hz : items.size <= sizeLine)
   (hQ : ∀ h' tk p, (∀ b o, s.heap.get? b = some o -> h'.get? b = some o) -> s.heap.objs.size <= p -> h'.get? p = some (seqObj "list" (items.toList.drop k).toArray 0) -> Q ((items.toList.take k) ++ [.ref p]) { s with heap := h', toks := tk }) :
   wpAny (model prog w) A (unpackItems (.ref t) (k + 1) (some k)) Q E s := by
 have hlt : t < s.heap.objs.size := by obtain ⟨o, ho, _⟩ := ht; exact Heap.lt_size ho
 refine star_items (T := "list_iterator") (.inl rfl) hlt hk hz (λ Q' q => ?_) (λ Q' q => wpAny_pyIter_list (l := t) (items := items) ht q) (λ A' e => Walks.list (e.trans hh) _ _ (Nat.ne_of_lt hlt) items) ⟨⟨_, Heap.get?_push_size _ rfl, rfl, rfl⟩, ht.push _⟩ ?_ hQ
 · unfold notIterableAtAll
   refine wpAny_bind (wpAny_specialOf ht.typeIs slot_list_iter.lookup ?_)
   exact wpAny_pure q
 · rintro i h ⟨⟨o, ho, hc, hd⟩, _⟩ s' rfl
   exact ⟨o, ho, hc⟩
end
def gStar (K : Fr) (k : Nat) (t : TGs) : TG := λ v σ H Q => ∃ a xs, v = .ref a /\ (SqT K H a xs \/ SqL K H a xs) /\ k <= xs.length /\ ∀ p, H p = none -> t (xs.take k ++ [.ref p]) σ (upd H p (.lst (xs.drop k))) Q
theorem pgs_star {X : Cx} {e : Expr} {es : List Expr} {t : TG} {u : TGs} {p : Pos} (h1 : PG X e t) (h2 : PGs X es u)
   (hs : (assignEach (.Starred e p :: es) X.env).map (·.2) = assign e X.env :: (assignEach es X.env).map (·.2) := by rfl) : PGs X (.Starred e p :: es) (gCons t u) := by
 refine ⟨λ pins s σ H vs us Q I r h => ?_⟩
 obtain ⟨v, vr, e1, h⟩ := h
 subst e1
 cases r with
 | cons r rr =>
   rw [hs]
   refine assignInOrder_cons (thn (h1.run pins s σ H _ _ _ I r h) λ _ s1 ⟨σ1, H1, I1, q1⟩ => ?_)
   exact h2.run pins s1 σ1 H1 _ _ Q I1 rr q1
theorem pg_star {X : Cx} {es : List Expr} {kk k : Nat} {t : TGs} {pos : Pos} (hc : X.calm = true) (h : PGs X es t) (hn : (assignEach es X.env).length = k + 1 := by rfl) (hst : (assignEach es X.env).findIdx? (·.1) = some k := by rfl) : PG X (.Tuple es kk pos) (gStar X.K k t) := by
 refine ⟨λ pins s σ H v u Q I r hw => ?_⟩
 obtain ⟨a, xs, e1, hq, hk, hw⟩ := hw
 subst e1
 cases r
 have fin : ∀ {its : List Value}, Vals xs its -> ∀ h' tk p, (∀ b o, s.heap.get? b = some o -> h'.get? b = some o) -> s.heap.objs.size <= p -> h'.get? p = some (seqObj "list" (its.toArray.toList.drop k).toArray 0) -> its.length <= sizeLine ->
     wpAny (model X.prog X.w) X.A (assignInOrder ((assignEach es X.env).map (·.2)) (its.toArray.toList.take k ++ [.ref p])) (λ _ s1 => ∃ σ1 H1, Inv X pins σ1 H1 s1 /\ Q σ1 H1) X.xe { s with heap := h', toks := tk } := by
   intro its rv h' tk p keep hp hnew hlen
   have hHp : H p = none := I.hok.fresh hp
   have rd : Vals (xs.drop k) (its.drop k) := by
     exact Vals.drop k rv
   have rt : Vals (xs.take k ++ [V.ref p]) (its.toArray.toList.take k ++ [Value.ref p]) := by
     exact (Vals.take k rv).append (.cons rfl .nil)
   have I1 : Inv X pins σ (upd H p (.lst (xs.drop k))) { s with heap := h', toks := tk } := I.laid (t' := tk) keep hp ⟨by rw [List.length_drop, rv.length]; omega, its.drop k, 0, rd, hnew⟩
   exact h.run pins _ σ _ _ _ Q I1 rt (hw p hHp)
 rw [PyProof.Rows.assign_Tuple]
 refine wpAny_bind (wpAny_standAt ?_)
 unfold unpack
 rw [hn, hst]
 rcases hq with hq | hq
 · obtain ⟨its, rv, pl, hz⟩ := I.tuple hq
   refine wpAny_bind (wpAny_holding (star_tuple (I.ok.hd hc) pl ?_ ?_ λ h' tk p keep hp hnew => fin rv h' tk p keep hp hnew ?_))
   · rw [List.size_toArray, <- rv.length]; exact hk
   · rw [rv.length] at hz; simpa using hz
   · rw [rv.length] at hz; simpa using hz
 · obtain ⟨its, rv, pl, hz⟩ := I.list hq
   refine wpAny_bind (wpAny_holding (star_list (I.ok.hd hc) pl.isList ?_ ?_ λ h' tk p keep hp hnew => fin rv h' tk p keep hp hnew ?_))
   · rw [List.size_toArray, <- rv.length]; exact hk
   · rw [rv.length] at hz; simpa using hz
   · rw [rv.length] at hz; simpa using hz
end RC

namespace RC
open PySem PySem.Spec PyProof.Rows L2
section
variable {X : Cx}
end
section
variable {κ α : Type} {K : Fr} {Rs : List Res} {H : Hp} {Q : VK} {v : V} {e : α -> PyData}
end
end RC

namespace RC
open PySem PySem.Spec PyProof.Rows L2
def repL {α : Type} (xs : List α) (n : Int) : List α := (List.replicate n.toNat xs).flatten
def enumF {α : Type} : Nat -> List α -> List (Int × α)
 | _, [] => []
 | n, x :: xs => ((n : Int), x) :: enumF (n + 1) xs
theorem enumF_len {α : Type} : ∀ (n : Nat) (xs : List α), (enumF n xs).length = xs.length
 | _, [] => rfl
 | n, x :: xs => by rw [enumF, List.length_cons, enumF_len, List.length_cons]
theorem enumF_get {α : Type} : ∀ (n : Nat) (xs : List α) (i : Nat), (enumF n xs)[i]? = xs[i]?.map λ x => (((n + i : Nat) : Int), x)
 | n, [], i => by simp [enumF]
 | n, x :: xs, 0 => by simp [enumF]
 | n, x :: xs, i + 1 => by
   rw [enumF, List.getElem?_cons_succ, List.getElem?_cons_succ, enumF_get (n + 1) xs i]
   congr 1
   funext y
   rw [show n + 1 + i = n + (i + 1) by omega]
section
variable {α β γ : Type} {e : α -> PyData} {sv : α -> V} {K : Fr} {σ : L2.St} {H : Hp} {Q : VK} {D : Ends} {Rs : List Res} {v w : V} {xs ys : List α} {p : Addr}
theorem DqAll.rep {F : Hp} {vs : List V} {ds : List PyData} (q : DqAll K F vs ds) : ∀ n : Nat, DqAll K F (List.replicate n vs).flatten (List.replicate n ds).flatten
 | 0 => .nil
 | n + 1 => by
   rw [List.replicate_succ, List.replicate_succ, List.flatten_cons, List.flatten_cons]
   exact q.app (DqAll.rep q n)
theorem rep_map {f : α -> β} (n : Nat) : ((List.replicate n xs).flatten).map f = (List.replicate n (xs.map f)).flatten := by
 rw [List.map_flatten, List.map_replicate]
theorem v_repO {n : Int} (S : M Rs H) (j : Nat) (hj : Rs[j]? = some (acR K p (xs.map e))) (hk : -(2 ^ 63) <= n /\ n < 2 ^ 63 /\ xs.length * n.toNat <= 100000) (k : ∀ q H', M (acR K q ((repL xs n).map e) :: Rs) H' -> Q (.ref q) H') : rRep (.ref p) (.int n) H Q := by
 obtain ⟨vs, S2⟩ := (S.at j hj).ex
 have S3 := S2.sp
 have hl : vs.length = xs.length := by
   have := (S3.gotAA 1 rfl).len
   simpa using this
 refine ⟨p, n, vs, rfl, rfl, S3.got 0 rfl, hk.1, hk.2.1, Nat.le_trans (by rw [hl]; exact hk.2.2) (by decide), λ q hq => k q _ ?_⟩
 have S4 : M (pt q (.lst (List.replicate n.toNat vs).flatten) :: pt p (.lst vs) :: daA K vs (xs.map e) :: Rs.eraseIdx j) (upd H q (.lst (List.replicate n.toNat vs).flatten)) := S3.new hq
 obtain ⟨F, L, ⟨l1, l2, rfl, a1, l3, l4, rfl, a2, l5, l6, rfl, ⟨rfl, dq⟩, b⟩, mm⟩ := S4
 have dq2 : DqAll K F (List.replicate n.toNat vs).flatten ((repL xs n).map e) := by
   unfold repL
   rw [rep_map]
   exact dq.rep _
 have b2 : Sat F (acR K p (xs.map e) :: Rs.eraseIdx j) (l3 ++ l6) := ⟨l3, l6, rfl, ⟨vs, l3, [], by simp, a2, rfl, dq⟩, b⟩
 obtain ⟨L', pp, sat⟩ := b2.perm (perm_at j hj).symm
 exact ⟨F, l1 ++ L', ⟨l1, L', rfl, ⟨_, l1, [], by simp, a1, rfl, dq2⟩, sat⟩, mm.perm (by simpa using List.Perm.append_left l1 pp)⟩
end
end RC

namespace RC
open PySem PySem.Spec PyProof.Rows L2
section
variable {K : Fr} {H : Hp} {v w : V} {Q : VK} {Rs : List Res} {σ : L2.St} {D : Ends} {α β : Type} {e : α -> PyData} {xs : List α}
theorem div_okB {i j : Int} (h : 0 < j /\ j < 2 ^ 200) : CDivW i j := wide_div (b := 200) h.1 (by omega) (by decide) (by decide)
theorem v_divB {i j : Int} (h : 0 < j /\ j < 2 ^ 200) (k : Q (.int (i / j)) H) : uDiv (.int i) (.int j) H Q := ⟨i, j, rfl, rfl, div_okB h, k⟩
theorem v_star1 {t : TGs} {x : α} {r : List α} {QQ : L2.St -> Hp -> Prop} (S : M Rs H) (i : Nat) (hi : Rs[i]? = some (da K v (eL e (x :: r)))) (k : ∀ u0 p H', M (acR K p (r.map e) :: da K u0 (e x) :: Rs) H' -> t [u0, .ref p] σ H' QQ) : gStar K 1 t v σ H QQ := by
 obtain ⟨F, L, s, m⟩ := S
 have dd := EnF.at i hi F L s
 unfold eL at dd
 rw [List.map_cons] at dd
 cases dd with
 | lst h q =>
   cases q with
   | @cons u0 rest _ _ a q =>
     refine ⟨_, _, rfl, .inr (m.ex.sqL h), by simp, λ p hp => ?_⟩
     have S1 : M (da K u0 (e x) :: daA K rest (r.map e) :: Rs) H := ⟨F, L, ⟨[], L, rfl, ⟨rfl, a⟩, [], L, rfl, ⟨rfl, q⟩, s⟩, m⟩
     have S2 := S1.new (o := .lst rest) hp
     have S3 : M (acR K p (r.map e) :: da K u0 (e x) :: daA K rest (r.map e) :: Rs) _ := S2.own λ F L s => by
       obtain ⟨l, h⟩ := s.get 1 rfl
       exact h.2
     exact k _ p _ (M.sub (.cons 0 rfl (.cons 0 rfl (.tl (.refl _)))) S3)
end
end RC

namespace RC
open PySem PySem.Spec PyProof.Rows L2
def rTupL (K : Fr) : List V -> Hp -> VK -> Prop := λ xs H Q => ∃ p ys, xs = [.ref p] /\ ((SqL K H p ys /\ ∀ l, H l = none -> Q (.ref l) (upd H l (.tup ys))) \/ (SqT K H p ys /\ Q (.ref p) H))
theorem cr_tupL {X : Cx} : CallR X (.type "tuple") (rTupL X.K) := call_tuple_of
section
variable {K : Fr} {H : Hp} {v w : V} {Q : VK} {Rs : List Res} {σ : L2.St} {α β : Type}
theorem lc_tup {te : TE} {tt : TT} {g : TG} {ws : List Nat} {F : α -> (Option β -> Prop) -> Prop} {e : α -> PyData} {e' : β -> PyData} {xs : List α} {vs : List V} {KK : List β -> Prop} {a : Addr} (hf : xs.length <= 100000 /\ lcD F xs [] KK) (S : M Rs H)
   (hrd : ∀ H, M Rs H -> SqT K H a vs /\ DqAll K H vs (xs.map e))
   (hs : ∀ (i : Nat) v x (acc : List β) E H (kk : Option β -> Prop) (N : Hp -> Prop), (acc.map e').length < 100000 -> M (acR K E (acc.map e') :: Rs) H -> vs[i]? = some v -> xs[i]? = some x -> F x kk ->
     (∀ y H, kk (some y) -> M (acR K E (acc.map e' ++ [e' y]) :: Rs) H -> N H) -> (∀ H, kk none -> M (acR K E (acc.map e') :: Rs) H -> N H) -> g v (wipe σ ws) H λ σ2 H2 => wipe σ2 ws = wipe σ ws /\ tt σ2 H2 λ b H3 =>
     if b = true then te σ2 H3 (LcK N E) else N H3)
   (hd : ∀ E (acc : List β) H, KK acc -> M (acR K E (acc.map e') :: Rs) H -> Q (.ref E) H) : LcW (Itt K a) g tt te ws σ Q H := by
 obtain ⟨hz, hf⟩ := hf
 have hl : vs.length = xs.length := by
   have := (hrd H S).2.len
   rwa [List.length_map] at this
 refine lc_X walk_tup (λ E i H => ∃ acc, lcD F (xs.drop i) acc KK /\ acc.length <= i /\ M (acR K E (acc.map e') :: Rs) H) (λ E hE => ⟨[], by simpa using hf, Nat.le_refl _, acR_nil (S.new hE)⟩) (λ E i H _ ⟨acc, _, _, S⟩ => (hrd H S.tl).1) ?_ ?_
 · rintro E i v H H' hi ⟨acc, hf, ha, S⟩ ⟨rfl, hv⟩
   have hi2 : i < xs.length := by omega
   rw [List.drop_eq_getElem_cons hi2] at hf
   refine hs i v _ acc E H' _ _ (by rw [List.length_map]; omega) S hv (List.getElem?_eq_getElem hi2) hf (λ y H hk S => ⟨acc ++ [y], hk, by rw [List.length_append]; simpa using ha, by rw [List.map_append]; exact S⟩) (λ H hk S => ⟨acc, ?_, by omega, S⟩)
   simpa using hk
 · rintro E H ⟨acc, hf, ha, S⟩
   rw [hl, List.drop_length] at hf
   exact hd E acc H hf S
theorem map_eA (ds : List PyData) : ds.map eA = ds := List.map_id _
def rdT (K : Fr) (a : Addr) (vs : List V) : Res := ⟨λ F l => l = [] /\ SqT K F a vs, λ _ _ _ e h => ⟨h.1, e.sqT h.2⟩⟩
theorem M.gotTu {a : Addr} {vs : List V} (S : M Rs H) (i : Nat) (e : Rs[i]? = some (rdT K a vs)) : SqT K H a vs := by
 obtain ⟨F, L, s, m⟩ := S
 obtain ⟨l, h⟩ := s.get i e
 exact m.ex.sqT h.2
theorem M.openT {ds : List PyData} (S : M (da K v (.tuple ds) :: Rs) H) : ∃ a vs, v = .ref a /\ M (rdT K a vs :: daA K vs ds :: Rs) H := by
 obtain ⟨F, L, ⟨l1, l2, rfl, ⟨rfl, e⟩, b⟩, m⟩ := S
 cases e with
 | tup h1 h2 => exact ⟨_, _, rfl, F, l2, ⟨[], l2, rfl, ⟨rfl, h1⟩, [], l2, rfl, ⟨rfl, h2⟩, b⟩, m⟩
end
end RC

namespace RC
open PySem PySem.Spec PyProof.Rows L2
section
variable {X : Cx} {x : Str} {C fI : Addr} {k : Nat} {fd : FuncData} {ps : List Str} {B newId initId : String} {bmB : List Value} {p pos pos' : Pos}
end
def emR : Res := ⟨λ _ l => l = [], λ _ _ _ _ h => h⟩
theorem M.addE {Rs : List Res} {H : Hp} (S : M Rs H) : M (emR :: Rs) H := by
 obtain ⟨F, L, s, m⟩ := S
 exact ⟨F, L, ⟨[], L, rfl, rfl, s⟩, m⟩
section
variable {K : Fr} {H : Hp} {Q : VK} {a D : Addr} {b : Bool}
end
end RC

namespace RC
open PySem PySem.Spec PyProof.Rows L2
section
variable {K : Fr} {H : Hp} {Q : VK} {Rs : List Res} {σ : L2.St} {κ α : Type} [DecidableEq κ] {ik : κ -> Key} {e : α -> PyData} {p : Addr}
inductive Prs (K : Fr) (F : Hp) (ik : κ -> Key) (e : α -> PyData) : List (V × V) -> List (κ × α) -> Prop
 | nil : Prs K F ik e [] []
 | cons {k : κ} {x : α} {v : V} {r : List (V × V)} {m : List (κ × α)} (h : Dq K F v (e x)) (t : Prs K F ik e r m) : Prs K F ik e ((kV (ik k), v) :: r) ((k, x) :: m)
end
end RC

namespace RC
open PySem PySem.Spec PyProof.Rows L2
section
variable {X : Cx} {CX : CXT} {g : Bool} {k n : Nat} {f C : Addr} {fd : FuncData} {ps ks : List Str} {sp : Sp} {W : WX} {x m : Str} {p pos apos : Pos} {o e : Expr} {es : List Expr} {kws : List Keyword} {t tk : TA} {gg : List Value -> List Value -> List Value} {gV : List V -> List V -> List V}
variable {σ : L2.St} {H : Hp} {Q : VK} {Rs : List Res} {l : Nat}
end
end RC

namespace RC
open PySem PySem.Spec PyProof.Rows L2
def vr {α : Type} (T : Addr -> α -> Res) (v : V) (x : α) : Res := exi λ p => prp (v = .ref p) (T p x)
def starR {α : Type} (A : V -> α -> Res) : List V -> List α -> Res
 | [], [] => emR
 | v :: vs, x :: xs => sp2 (A v x) (starR A vs xs)
 | _, _ => prp False emR
def lsR {α : Type} (A : V -> α -> Res) (p : Addr) (xs : List α) : Res := exi λ vs => sp2 (pt p (.lst vs)) (starR A vs xs)
section
variable {K : Fr} {α β γ δ : Type} {Rs : List Res} {H : Hp} {A : V -> α -> Res} {B : V -> β -> Res} {C : V -> γ -> Res} {D : V -> δ -> Res} {T : Addr -> α -> Res} {p : Addr} {Q : VK}
theorem M.vrC {x : α} (S : M (T p x :: Rs) H) : M (vr T (.ref p) x :: Rs) H := M.ex' p (M.pr' rfl S)
theorem M.vrO {x : α} {v : V} (S : M (vr T v x :: Rs) H) : ∃ p, v = .ref p /\ M (T p x :: Rs) H := by
 obtain ⟨p, S⟩ := S.ex
 exact ⟨p, S.pr⟩
theorem starR_len : ∀ {vs : List V} {xs : List α} {Rs : List Res}, M (starR A vs xs :: Rs) H -> vs.length = xs.length
 | [], [], _, _ => rfl
 | v :: vs, x :: xs, _, S => by
   have := starR_len (S.sp.at 1 rfl)
   simp [this]
 | [], _ :: _, _, S => (S.pr).1.elim
 | _ :: _, [], _, S => (S.pr).1.elim
theorem starR_open : ∀ {vs : List V} {xs : List α} {Rs : List Res} {n : Nat} {x : α}, M (starR A vs xs :: Rs) H -> xs[n]? = some x -> ∃ u, vs[n]? = some u /\ M (A u x :: starR A (vs.eraseIdx n) (xs.eraseIdx n) :: Rs) H
 | [], [], _, n, x, _, h => by simp at h
 | [], _ :: _, _, _, _, S, _ => (S.pr).1.elim
 | _ :: _, [], _, _, _, S, _ => (S.pr).1.elim
 | v :: vs, y :: xs, Rs, 0, x, S, h => by
   cases (Option.some.inj (show some y = some x from h))
   exact ⟨v, rfl, S.sp⟩
 | v :: vs, y :: xs, Rs, n + 1, x, S, h => by
   obtain ⟨u, hu, S2⟩ := starR_open (n := n) (x := x) (S.sp.at 1 rfl) (by simpa using h)
   refine ⟨u, by simpa using hu, ?_⟩
   have S3 : M (sp2 (A v y) (starR A (vs.eraseIdx n) (xs.eraseIdx n)) :: A u x :: Rs) H := M.sp' (M.sub (.cons 2 rfl (.cons 1 rfl (.refl _))) S2)
   exact M.sub (.cons 1 rfl (.refl _)) S3
theorem starR_close : ∀ {vs : List V} {xs : List α} {Rs : List Res} {n : Nat} {u : V} {y : α}, vs[n]? = some u -> n < xs.length -> M (A u y :: starR A (vs.eraseIdx n) (xs.eraseIdx n) :: Rs) H -> M (starR A vs (xs.set n y) :: Rs) H
 | [], _, _, n, u, y, h, _, _ => by simp at h
 | _ :: _, [], _, _, _, _, _, h, _ => by simp at h
 | v :: vs, x :: xs, Rs, 0, u, y, h, hl, S => by
   cases (Option.some.inj (show some v = some u from h))
   exact S.sp'
 | v :: vs, x :: xs, Rs, n + 1, u, y, h, hl, S => by
   have S2 : M (sp2 (A v x) (starR A (vs.eraseIdx n) (xs.eraseIdx n)) :: A u y :: Rs) H := M.sub (.cons 1 rfl (.refl _)) S
   have S3 := starR_close (vs := vs) (xs := xs) (n := n) (u := u) (y := y) (Rs := A v x :: Rs) (by simpa using h) (by simpa using hl) (M.sub (.cons 2 rfl (.cons 1 rfl (.refl _))) S2.sp)
   exact M.sp' (M.sub (.cons 1 rfl (.refl _)) S3)
theorem starR_put : ∀ {vs : List V} {xs : List α} {Rs : List Res} {u : V} {y : α}, M (A u y :: starR A vs xs :: Rs) H -> M (starR A (vs ++ [u]) (xs ++ [y]) :: Rs) H
 | [], [], _, u, y, S => M.sp' S
 | [], _ :: _, _, _, _, S => ((S.at 1 rfl).pr).1.elim
 | _ :: _, [], _, _, _, S => ((S.at 1 rfl).pr).1.elim
 | v :: vs, x :: xs, Rs, u, y, S => by
   have S2 := (S.at 1 rfl).sp
   have S3 := starR_put (vs := vs) (xs := xs) (u := u) (y := y) (Rs := A v x :: Rs) (M.sub (.cons 2 rfl (.cons 1 rfl (.cons 0 rfl (.refl _)))) S2)
   exact M.sp' (M.sub (.cons 1 rfl (.refl _)) S3)
theorem M.tyLs {xs : List α} {φ : Prop} (S : M Rs H) (j : Nat) (hj : Rs[j]? = some (lsR A p xs)) (k : φ) : tyV K "list" (.ref p) H /\ φ := by
 obtain ⟨vs, S1⟩ := (S.at j hj).ex
 exact v_tyL (SqL.of (S1.sp.got 0 rfl)) k
theorem v_apLs {xs : List α} {u : V} {y : α} (S : M (A u y :: lsR A p xs :: Rs) H) (hz : xs.length < 100000) (k : ∀ H', M (lsR A p (xs ++ [y]) :: Rs) H' -> Q .non H') : rAppend (.ref p) [u] H Q := by
 obtain ⟨vs, S1⟩ := (S.at 1 rfl).ex
 have S2 := S1.sp
 have hl := starR_len (S2.at 1 rfl)
 refine v_app S2 0 rfl (by rw [hl]; exact hz) λ H' S4 => k H' ?_
 have S5 : M (A u y :: starR A vs xs :: pt p (.lst (vs ++ [u])) :: Rs) H' := M.sub (.cons 2 rfl (.cons 1 rfl (.refl _))) S4
 exact M.ex' _ (M.sp' (M.sub (.cons 1 rfl (.refl _)) (starR_put S5)))
theorem lsR_nil (S : M (pt p (.lst []) :: Rs) H) : M (lsR A p [] :: Rs) H := M.ex' [] (M.sp' (M.sub (.cons 1 rfl (.refl _)) S.addE))
end
end RC

namespace RC
open PySem PySem.Spec PyProof.Rows L2
section
variable {κ α : Type} [DecidableEq κ]
end
section
variable {K : Fr} {κ α : Type} {Rs : List Res} {H : Hp} {A : V -> α -> Res} {ik : κ -> Key} {p : Addr} {Q : VK}
variable [DecidableEq κ]
end
section
variable {K : Fr} {α : Type} {Rs : List Res} {H : Hp} {A : V -> α -> Res} {p : Addr} {Q : VK}
end
section
variable {K : Fr} {κ α : Type} [DecidableEq κ] {Rs : List Res} {H : Hp} {A : V -> α -> Res} {ik : κ -> Key} {p : Addr} {Q : VK}
end
end RC
namespace RC
open PySem PySem.Spec PyProof.Rows L2
section
variable {K : Fr} {κ α : Type} {Rs : List Res} {H : Hp} {A : V -> α -> Res} {ik : κ -> Key} {p : Addr} {Q : VK}
end
theorem tx_cut {β : Type} {te : TE} {σ : L2.St} {H : Hp} {Q : VK} {m : (β -> Prop) -> Prop} {KK : β -> Prop} (hf : jn m KK) (Inv : β -> V -> Hp -> Prop)
   (h1 : ∀ (kk : β -> Prop) (P' : VK), (∀ x v H, kk x -> Inv x v H -> P' v H) -> m kk -> te σ H P') (h2 : ∀ x v H, KK x -> Inv x v H -> Q v H) : te σ H Q := h1 KK Q h2 hf
section
variable {K : Fr} {Rs : List Res} {H : Hp} {Q : VK} {v : V} {α : Type} {σ : L2.St} {tb : TE}
theorem v_tupL {e : α -> PyData} {xs : List α} (S : M Rs H) (j : Nat) (hj : Rs[j]? = some (da K v (eL e xs))) (k : ∀ p H', M (da K (.ref p) (eV e xs) :: Rs) H' -> Q (.ref p) H') : rTupL K [v] H Q := by
 obtain ⟨F, L, s, m⟩ := id S
 cases EnF.at j hj F L s with
 | lst a q =>
   refine ⟨_, _, rfl, .inl ⟨m.ex.sqL a, λ l hl => ?_⟩⟩
   have hn : F l = none := by
     cases e : F l with
     | none => rfl
     | some o => rw [m.ex _ _ e] at hl; cases hl
   rename_i vs
   have S9 : M (daA K vs (xs.map e) :: Rs) H := ⟨F, L, ⟨[], L, rfl, ⟨rfl, q⟩, s⟩, m⟩
   have S10 := S9.new (o := .tup vs) hl
   have S11 : M (da K (.ref l) (.tuple (xs.map e)) :: _) _ := S10.fixG (φ := λ F => DqAll K F vs (xs.map e)) (R := da K (.ref l) (.tuple (xs.map e))) (λ F L s => by
     obtain ⟨l, h⟩ := s.get 0 rfl
     exact h.2) λ F q fp => ⟨rfl, .tup (.inl (.inl fp)) q⟩
   exact k l _ (M.sub (.cons 0 rfl (.tl (.refl _))) S11)
end
theorem eL_any {α : Type} (e : α -> PyData) (xs : List α) : eL e xs = eL eA (xs.map e) := by unfold eL; rw [map_eA]
end RC

namespace RC
open PySem PySem.Spec PyProof.Rows L2
inductive OD where
 | fz (d : PyData)
 | ol (l : List OD)
 | ot (l : List OD)
mutual
def OD.fgt : OD -> PyData
 | .fz d => d
 | .ol l => .list (OD.fgtAll l)
 | .ot l => .tuple (OD.fgtAll l)
def OD.fgtAll : List OD -> List PyData
 | [] => []
 | x :: xs => x.fgt :: OD.fgtAll xs
end
theorem OD.fgtAll_map : ∀ l : List OD, OD.fgtAll l = l.map OD.fgt
 | [] => rfl
 | x :: xs => by rw [List.map_cons, <- OD.fgtAll_map xs]; rfl
def OD.fzs {α : Type} (e : α -> PyData) (xs : List α) : List OD := xs.map λ x => .fz (e x)
theorem OD.fgt_fzs {α : Type} (e : α -> PyData) (xs : List α) : (OD.fzs e xs).map OD.fgt = xs.map e := by
 unfold OD.fzs
 rw [List.map_map]
 rfl
theorem OD.fgt_ol {α : Type} (e : α -> PyData) (xs : List α) : (OD.ol (OD.fzs e xs)).fgt = eL e xs := by
 show PyData.list (OD.fgtAll _) = _
 rw [OD.fgtAll_map, OD.fgt_fzs]
 rfl
mutual
def odR (K : Fr) : V -> OD -> Res
 | v, .fz d => da K v d
 | v, .ol l => exi λ p => prp (v = .ref p) (exi λ vs => sp2 (pt p (.lst vs)) (odRs K vs l))
 | v, .ot l => exi λ p => prp (v = .ref p) (exi λ vs => sp2 (pt p (.tup vs)) (odRs K vs l))
def odRs (K : Fr) : List V -> List OD -> Res
 | [], [] => emR
 | v :: vs, x :: xs => sp2 (odR K v x) (odRs K vs xs)
 | [], _ :: _ => prp False emR
 | _ :: _, [] => prp False emR
end
def tlR {α : Type} (A : V -> α -> Res) (p : Addr) (xs : List α) : Res := exi λ vs => sp2 (pt p (.tup vs)) (starR A vs xs)
section
variable {K : Fr} {Rs : List Res} {H : Hp} {Q : VK} {v : V} {p : Addr}
theorem odRs_star : ∀ (vs : List V) (l : List OD), odRs K vs l = starR (odR K) vs l
 | [], [] => rfl
 | v :: vs, x :: xs => by
   show sp2 (odR K v x) (odRs K vs xs) = sp2 (odR K v x) (starR (odR K) vs xs)
   rw [odRs_star vs xs]
 | [], _ :: _ => rfl
 | _ :: _, [] => rfl
theorem odR_ol (v : V) (l : List OD) : odR K v (.ol l) = vr (lsR (odR K)) v l := by
 show (exi λ p => prp (v = .ref p) (exi λ vs => sp2 (pt p (.lst vs)) (odRs K vs l))) = exi λ p => prp (v = .ref p) (exi λ vs => sp2 (pt p (.lst vs)) (starR (odR K) vs l))
 simp only [odRs_star]
theorem odR_ot (v : V) (l : List OD) : odR K v (.ot l) = vr (tlR (odR K)) v l := by
 show (exi λ p => prp (v = .ref p) (exi λ vs => sp2 (pt p (.tup vs)) (odRs K vs l))) = exi λ p => prp (v = .ref p) (exi λ vs => sp2 (pt p (.tup vs)) (starR (odR K) vs l))
 simp only [odRs_star]
theorem M.odO {x : OD} {l : List OD} (S : M (odR K v x :: Rs) H) (h : x = .ol l) : ∃ p, v = .ref p /\ M (lsR (odR K) p l :: Rs) H := by
 subst h
 rw [odR_ol] at S
 exact S.vrO
theorem M.odC {l : List OD} (S : M (lsR (odR K) p l :: Rs) H) : M (odR K (.ref p) (.ol l) :: Rs) H := by
 rw [odR_ol]
 exact M.vrC S
mutual
theorem M.gotOD : ∀ {x : OD} {v : V} {Rs : List Res}, M (odR K v x :: Rs) H -> Dn K H v x.fgt
 | .fz d, v, Rs, S => Dq.dn (M.gotA S 0 rfl)
 | .ol l, v, Rs, S => by
   obtain ⟨p, S1⟩ := S.ex
   obtain ⟨e, S2⟩ := S1.pr
   obtain ⟨vs, S3⟩ := S2.ex
   subst e
   exact .lst (SqL.of (S3.sp.got 0 rfl)) (M.gotODs (S3.sp.at 1 rfl))
 | .ot l, v, Rs, S => by
   obtain ⟨p, S1⟩ := S.ex
   obtain ⟨e, S2⟩ := S1.pr
   obtain ⟨vs, S3⟩ := S2.ex
   subst e
   exact .tup (.inl (.inl (S3.sp.got 0 rfl))) (M.gotODs (S3.sp.at 1 rfl))
theorem M.gotODs : ∀ {l : List OD} {vs : List V} {Rs : List Res}, M (odRs K vs l :: Rs) H -> DnAll K H vs (OD.fgtAll l)
 | [], [], _, _ => .nil
 | x :: xs, v :: vs, _, S => .cons (M.gotOD S.sp) (M.gotODs (S.sp.at 1 rfl))
 | _ :: _, [], _, S => (S.pr).1.elim
 | [], _ :: _, _, S => (S.pr).1.elim
end
theorem M.dnOD {x : OD} {R0 : List Res} (S : M R0 H) (i : Nat) (e : R0[i]? = some (odR K v x)) : Dn K H v x.fgt := M.gotOD (S.at i e)
mutual
theorem M.frzOD : ∀ {x : OD} {v : V} {Rs : List Res}, M (odR K v x :: Rs) H -> M (da K v x.fgt :: Rs) H
 | .fz d, v, Rs, S => S
 | .ol l, v, Rs, S => by
   obtain ⟨p, S1⟩ := S.ex
   obtain ⟨e, S2⟩ := S1.pr
   obtain ⟨vs, S3⟩ := S2.ex
   subst e
   have S4 := M.frzODs (S3.sp.at 1 rfl)
   have S5 : M (pt p (.lst vs) :: daA K vs (OD.fgtAll l) :: Rs) H := S4.at 1 rfl
   exact M.sub (.cons 0 rfl (.tl (.refl _))) (S5.fixG (φ := λ F => DqAll K F vs (OD.fgtAll l)) (R := da K (.ref p) (.list (OD.fgtAll l))) (λ F L s => by
     obtain ⟨l, h⟩ := s.get 0 rfl
     exact h.2) λ F q fp => ⟨rfl, .lst (.inl (.inl fp)) q⟩)
 | .ot l, v, Rs, S => by
   obtain ⟨p, S1⟩ := S.ex
   obtain ⟨e, S2⟩ := S1.pr
   obtain ⟨vs, S3⟩ := S2.ex
   subst e
   have S4 := M.frzODs (S3.sp.at 1 rfl)
   have S5 : M (pt p (.tup vs) :: daA K vs (OD.fgtAll l) :: Rs) H := S4.at 1 rfl
   exact M.sub (.cons 0 rfl (.tl (.refl _))) (S5.fixG (φ := λ F => DqAll K F vs (OD.fgtAll l)) (R := da K (.ref p) (.tuple (OD.fgtAll l))) (λ F L s => by
     obtain ⟨l, h⟩ := s.get 0 rfl
     exact h.2) λ F q fp => ⟨rfl, .tup (.inl (.inl fp)) q⟩)
theorem M.frzODs : ∀ {l : List OD} {vs : List V} {Rs : List Res}, M (odRs K vs l :: Rs) H -> M (daA K vs (OD.fgtAll l) :: Rs) H
 | [], [], _, S => by
   obtain ⟨F, L, ⟨l1, l2, e, a, s⟩, m⟩ := S
   exact ⟨F, L, ⟨l1, l2, e, ⟨a, .nil⟩, s⟩, m⟩
 | x :: xs, v :: vs, Rs, S => by
   have S1 := M.frzOD S.sp
   have S2 := M.frzODs (S1.at 1 rfl)
   have S3 : M (da K v x.fgt :: daA K vs (OD.fgtAll xs) :: Rs) H := S2.at 1 rfl
   obtain ⟨F, L, ⟨l1, l2, rfl, ⟨rfl, h⟩, l3, l4, rfl, ⟨rfl, q⟩, s⟩, m⟩ := S3
   exact ⟨F, l4, ⟨[], l4, rfl, ⟨rfl, .cons h q⟩, s⟩, m⟩
 | _ :: _, [], _, S => (S.pr).1.elim
 | [], _ :: _, _, S => (S.pr).1.elim
end
theorem M.acOD {α : Type} {e : α -> PyData} {xs : List α} (S : M (acR K p (xs.map e) :: Rs) H) : M (odR K (.ref p) (.ol (OD.fzs e xs)) :: Rs) H := by
 obtain ⟨vs, S1⟩ := S.ex
 refine M.odC ?_
 have key : ∀ {vs : List V} {xs : List α} {Rs : List Res}, M (daA K vs (xs.map e) :: Rs) H -> M (starR (odR K) vs (OD.fzs e xs) :: Rs) H := by
   intro vs
   induction vs with
   | nil =>
     intro xs Rs S
     cases xs with
     | nil => exact S.tl.addE
     | cons x xs => have := (S.gotAA 0 rfl).len; simp at this
   | cons v vs ih =>
     intro xs Rs S
     cases xs with
     | nil => have := (S.gotAA 0 rfl).len; simp at this
     | cons x xs =>
       obtain ⟨F, L, ⟨l1, l2, rfl, ⟨rfl, q⟩, s⟩, m⟩ := S
       cases q with
       | cons h q =>
         have S2 : M (daA K vs (xs.map e) :: da K v (e x) :: Rs) H := ⟨F, l2, ⟨[], l2, rfl, ⟨rfl, q⟩, [], l2, rfl, ⟨rfl, h⟩, s⟩, m⟩
         have S3 := ih S2
         exact M.sp' (M.sub (.cons 1 rfl (.refl _)) S3)
 exact M.ex' vs (M.sp' (M.sub (.cons 1 rfl (.refl _)) (key (S1.sp.at 1 rfl))))
def OD.at : OD -> Int -> Option OD
 | .fz d, i => (anyAt d i).map .fz
 | .ol l, i => atI l i
 | .ot l, i => atI l i
end
theorem ixN_lt {n j : Nat} {i : Int} (h : ixN n i = some j) : j < n := by
 unfold ixN at h
 split at h
 · split at h
   · cases h; omega
   · cases h
 · split at h
   · cases h; omega
   · cases h
section
variable {K : Fr} {α : Type} {Rs : List Res} {H : Hp} {A : V -> α -> Res} {p : Addr}
theorem starR_repl : ∀ {vs : List V} {xs : List α} {Rs : List Res} {n : Nat} {u : V} {y : α}, n < xs.length -> M (A u y :: starR A (vs.eraseIdx n) (xs.eraseIdx n) :: Rs) H -> vs.length = xs.length -> M (starR A (vs.set n u) (xs.set n y) :: Rs) H
 | [], [], _, n, _, _, h, _, _ => by simp at h
 | [], _ :: _, _, _, _, _, _, _, h => by simp at h
 | _ :: _, [], _, _, _, _, _, _, h => by simp at h
 | v :: vs, x :: xs, Rs, 0, u, y, hl, S, _ => S.sp'
 | v :: vs, x :: xs, Rs, n + 1, u, y, hl, S, e => by
   have S2 : M (sp2 (A v x) (starR A (vs.eraseIdx n) (xs.eraseIdx n)) :: A u y :: Rs) H := M.sub (.cons 1 rfl (.refl _)) S
   have S3 := starR_repl (vs := vs) (xs := xs) (n := n) (u := u) (y := y) (Rs := A v x :: Rs) (by simpa using hl) (M.sub (.cons 2 rfl (.cons 1 rfl (.refl _))) S2.sp) (by simpa using e)
   exact M.sp' (M.sub (.cons 1 rfl (.refl _)) S3)
theorem v_setLs {xs : List α} {u : V} {y : α} {i : Int} {n : Nat} {Q : Hp -> Prop} (S : M (A u y :: lsR A p xs :: Rs) H) (hn : ixN xs.length i = some n) (k : ∀ H', M (lsR A p (xs.set n y) :: Rs) H' -> Q H') : uSet (.ref p) (.int i) u H Q := by
 obtain ⟨vs, S1⟩ := (S.at 1 rfl).ex
 have S2 := S1.sp
 have hl := starR_len (S2.at 1 rfl)
 have hlt : n < xs.length := by
   have := ixN_lt hn
   exact this
 refine v_set S2 0 rfl (j := n) (by rw [hl]; exact hn) λ H' S4 => k H' ?_
 have S5 : M (starR A vs xs :: A u y :: pt p (.lst (vs.set n u)) :: Rs) H' := M.sub (.cons 1 rfl (.cons 1 rfl (.refl _))) S4
 obtain ⟨u0, hu, S6⟩ := starR_open S5 (List.getElem?_eq_getElem hlt)
 have S7 := starR_repl (Rs := pt p (.lst (vs.set n u)) :: Rs) (u := u) (y := y) hlt (M.sub (.cons 2 rfl (.cons 1 rfl (.cons 1 rfl (.tl (.refl _))))) S6) hl
 exact M.ex' _ (M.sp' (M.sub (.cons 1 rfl (.refl _)) S7))
end
end RC

namespace RC
open PySem PySem.Spec PyProof.Rows L2
section
variable {σ : L2.St} {H : Hp} {D : Ends} {i j k : Nat} {ta : TA}
end
end RC

namespace RC
open PySem PySem.Spec PyProof.Rows L2
section
variable {K : Fr} {κ α : Type} {ik : κ -> Key} {e : α -> PyData} {m m2 : List (κ × α)} {Rs : List Res} {H : Hp} {Q : VK} {p : Addr} {v : V}
end
section
variable {X : Cx} {CX : CXT} {g : Bool} {k : Nat} {f : Addr} {fd : FuncData} {ps : List Str} {sp : Sp} {ds : List Value} {dvs : List V} {E : XK} {W : WX} {x : Str} {p pos : Pos}
theorem pe_callX0 (F : FnX g X.prog X.w X.K X.mg X.base CX k f fd ps sp) (hgu : g = true -> X.A.guards = some []) (hr : Room k X.A) (hg : Gl X x) (hm : X.mg x = some (.ref f)) (hk : PySem.W.keepIn X.K (.ref f) = true) (hb : Binds X.K fd ps ds) (hd : Vals dvs ds) (hx : Passes CX X E)
   (hdb : (x == ("__debug__" : Str)) = false := by decide) : PE X (.Call (.Name x p) [] [] pos) (tCall sp dvs E tNil) := by
 constructor
 intro pins s σ H Q I h
 refine wpAny_Call_Name_kw (ld_glob I hg hm ?_ hdb)
 exact PySem.W.callWith_K0 (first := []) I.kIn hk (runX_fn (us := []) (vs := []) F hgu hr hb hd hx I .nil h)
end
section
variable {α : Type} {K : Fr} {Rs : List Res} {H : Hp} {Q : VK} {v : V} {e : α -> PyData}
end
end RC

namespace RC
open PySem PySem.Spec PyProof.Rows L2
section
open PySem.SeqAt AutoSeq1 MeetsSeq MeetsSeq2 MeetsSeq3 SeqRoads2
variable {prog : Program} {w : World}
theorem tup_eqStop (l b : Addr) (items items2 : Array Value) (n n2 : Nat) (dd dd2 : Option Addr) (sl sl2 : Array (Option Value)) (e : Nat -> Bool) :
   MeetsIn prog w (Builtin.«tuple.__eq__» ⟨[.ref l, .ref b], []⟩)
     (λ A R s => s.heap.get? l = some { cls := .type "tuple", dict := dd, data := .seq items n, slots := sl } /\ s.heap.get? b = some { cls := .type "tuple", dict := dd2, data := .seq items2 n2, slots := sl2 } /\
       (∀ j (h1 : j < items.size) (h2 : j < items2.size), (∀ i, i < j -> e i = true) -> EqP prog w A.in1 s items[j] items2[j] (e j)) /\
       R (.ok (.ret (.bool ((List.range (min items.size items2.size)).all e && items.size == items2.size)))) s) :=
 .of_wp λ A R s h => by
   obtain ⟨hp, g, d, tk, os⟩ := s; obtain ⟨hl, hb, he, h⟩ := h
   have f2 := AutoSeq1.sub_tuple_tuple
   have hZ : (items.toList.zip items2.toList).length = min items.size items2.size := by simp
   wp_walk using wpAny_loadPart' hl, wpAny_loadPart' hb, wpAny_forIn_list _ (λ rest b s' => b.1 = none /\ s' = ⟨hp, g, d, tk, os⟩ /\ ∃ i, rest = (items.toList.zip items2.toList).drop i /\ (∀ k, k < i -> e k = true) /\
     R (.ok (.ret (.bool (((List.range (min items.size items2.size)).drop i).all e && items.size == items2.size)))) ⟨hp, g, d, tk, os⟩) _
   case turn =>
     rintro ⟨y, x⟩ rest b s' ⟨hb', rfl, i, hz, hpre, hR⟩
     have hlt : i < (items.toList.zip items2.toList).length := by
       rcases Nat.lt_or_ge i (items.toList.zip items2.toList).length with h' | h'
       · exact h'
       · rw [List.drop_of_length_le h'] at hz; cases hz
     have hm : i < min items.size items2.size := hZ ▸ hlt
     have h1 : i < items.size := Nat.lt_of_lt_of_le hm (Nat.min_le_left _ _)
     have h2 : i < items2.size := Nat.lt_of_lt_of_le hm (Nat.min_le_right _ _)
     rw [List.drop_eq_getElem_cons hlt] at hz
     injection hz with hyx hrest
     have hy : y = items[i] := by have := congrArg Prod.fst hyx; simpa using this
     have hx : x = items2[i] := by have := congrArg Prod.snd hyx; simpa using this
     subst hy hx
     have hd : (List.range (min items.size items2.size)).drop i = i :: (List.range (min items.size items2.size)).drop (i + 1) := by simp [List.drop_eq_getElem_cons, hm]
     rw [hd, List.all_cons] at hR
     refine wpAny_bind (he i h1 h2 hpre _ _ ?_)
     cases hy : e i with
     | true =>
       rw [hy] at hR
       wp_walk
       refine ⟨rfl, rfl, i + 1, hrest, λ k hk => ?_, by simpa using hR⟩
       rcases Nat.lt_succ_iff_lt_or_eq.mp hk with z | z
       · exact hpre k z
       · rw [z]; exact hy
     | false =>
       rw [hy] at hR
       wp_walk
       exact ⟨_, rfl, by simpa using hR⟩
   case fin =>
     rintro ⟨b1, b2⟩ s' ⟨hb', rfl, i, hz, hpre, hR⟩
     simp only at hb'
     subst hb'
     have hge : min items.size items2.size <= i := by
       rcases Nat.lt_or_ge i (items.toList.zip items2.toList).length with h' | h'
       · rw [List.drop_eq_getElem_cons h'] at hz; cases hz
       · exact hZ ▸ h'
     rw [List.drop_of_length_le (by simpa using hge)] at hR
     wp_walk
     exact ⟨_, rfl, by simpa [Builtin.Tuple.tupleCompareSizes] using hR⟩
   case h => exact ⟨rfl, rfl, 0, rfl, λ k hk => absurd hk (Nat.not_lt_zero _), by simpa using h⟩
theorem rcP_tups {A : Around} {s : Shared} {l b : Addr} {items items2 : Array Value} {e : Nat -> Bool} (hl : s.heap.IsTuple l items) (hb : s.heap.IsTuple b items2) (hu : A.units < cLine)
   (he : ∀ j (h1 : j < items.size) (h2 : j < items2.size), (∀ i, i < j -> e i = true) -> EqP prog w A.in1 s items[j] items2[j] (e j)) (E Q : Value -> Shared -> Prop) (h : Q (.bool ((List.range (min items.size items2.size)).all e && items.size == items2.size)) s) : wpAny (model prog w) A (richCompare .Eq (.ref l) (.ref b)) Q E s := by
 obtain ⟨⟨cls, dd, data, sl⟩, ho, hc, n, hd⟩ := id hl
 obtain ⟨⟨cls2, dd2, data2, sl2⟩, ho2, hc2, n2, hd2⟩ := id hb
 simp only at hc hd hc2 hd2
 subst hc hd hc2 hd2
 have ta : s.TypeIs (.ref l) "tuple" := ⟨_, ho, rfl⟩
 have tb : s.TypeIs (.ref b) "tuple" := ⟨_, ho2, rfl⟩
 exact wpAny_richCompare_same_room (op := .Eq) ta tb F.slot_tuple_eq (call_meetsIn F.slot_tuple_eq ta F.entry_tuple_eq (F.args_tuple_eq_2 _ _) (tup_eqStop l b items items2 n n2 dd dd2 sl sl2 e)
   ⟨ho, ho2, he, show Value.bool ((List.range (min items.size items2.size)).all e && items.size == items2.size) ≠ Value.notImplemented /\ Q (.bool ((List.range (min items.size items2.size)).all e && items.size == items2.size)) s from ⟨(λ x => nomatch x), h⟩⟩) hu
end
inductive EqTD : PyData -> PyData -> Bool -> Prop
 | same {d : PyData} (h : dOk d) (hd : d.depth <= 60) : EqTD d d true
 | word {s t : Str} {x y : PyData} (h : s ≠ t) (h1 : EqOk (eS s)) (h2 : EqOk (eS t)) : EqTD (.tuple [.str s, x]) (.tuple [.str t, y]) false
 | dict {s : Str} {m n : List (Str × List Int)} (h : m ≠ n) (h1 : EqOk (eS s)) (hd : dEq m n = false) : EqTD (.tuple [.str s, eD iS (eL eI) m]) (.tuple [.str s, eD iS (eL eI) n]) false
section
variable {X : Cx} {pins : List (Addr × Obj)} {σ : L2.St} {H : Hp} {s : Shared}
end
section
variable {X : Cx}
end
end RC

namespace RC
open PySem PySem.Spec PyProof.Rows L2
section
variable {K : Fr} {α β γ : Type} {Rs : List Res} {H : Hp} {σ : L2.St} {D : Ends} {A : V -> α -> Res} {B : V -> β -> Res} {p : Addr} {Q : VK} {vs : List V} {xs : List α}
theorem lsR_put {N : Hp -> Prop} {E : Addr} {ys : List β} {u : V} {y : β} (S : M (B u y :: lsR B E ys :: Rs) H) (hz : ys.length < 100000) (k : ∀ H', M (lsR B E (ys ++ [y]) :: Rs) H' -> N H') : LcK N E u H := by
 obtain ⟨ws, S1⟩ := (S.at 1 rfl).ex
 have S2 := S1.sp
 have hl := starR_len (S2.at 1 rfl)
 refine ⟨ws, S2.got 0 rfl, Nat.lt_of_lt_of_le (by rw [hl]; exact hz) (by decide), k _ ?_⟩
 have S3 := S2.putAt (o' := .lst (ws ++ [u])) 0 rfl
 have S4 : M (B u y :: starR B ws ys :: pt E (.lst (ws ++ [u])) :: Rs) _ := M.sub (.cons 2 rfl (.cons 1 rfl (.refl _))) S3
 exact M.ex' _ (M.sp' (M.sub (.cons 1 rfl (.refl _)) (starR_put S4)))
theorem M.odTC {l : List OD} (S : M (pt p (.tup vs) :: starR (odR K) vs l :: Rs) H) : M (odR K (.ref p) (.ot l) :: Rs) H := by
 rw [odR_ot]
 exact M.vrC (M.ex' vs S.sp')
end
end RC

namespace RC
open PySem PySem.Spec PyProof.Rows L2
section
variable {prog : Program} {w : World} {A : Around} {E : Value -> Shared -> Prop} {s : Shared}
end
section
variable {X : Cx}
end
section
variable {K : Fr} {F : Hp}
end
section
variable {K : Fr} {Rs : List Res} {H : Hp} {σ : L2.St} {α : Type} {e : α -> PyData} {l b : Addr} {xs ys : List α} {Q : L2.St -> Hp -> Prop}
end
end RC

namespace RC
open PySem PySem.Spec PyProof.Rows L2
section
variable {X : Cx}
end
section
variable {K : Fr} {α β γ : Type} {Rs : List Res} {H : Hp} {σ : L2.St} {a b : Addr} {Q : VK} {vs us : List V} {xs : List α} {ys : List γ}
end
section
variable {K : Fr} {κ α κ2 γ : Type} [DecidableEq κ] [DecidableEq κ2] {Rs : List Res} {H : Hp} {σ : L2.St} {p : Addr} {Q : VK} {od : Obj} {kvs : List (Key × V)} {ik : κ -> Key} {m : List (κ × α)}
end
end RC

namespace RC
open PySem PySem.Spec PyProof.Rows L2
section
variable {K : Fr} {α : Type} {H : Hp} {A : V -> α -> Res} {p : Addr} {e : α -> PyData}
end
end RC

namespace RC
open PySem PySem.Spec PyProof.Rows L2
def tkeyI (h : Heap) : Value -> Int
 | .ref a => match h.get? a with
   | some o => match o.data with
     | .seq xs _ => match (xs[0]? : Option Value) with
       | some (Value.int y _) => y
       | _ => 0
     | _ => 0
   | none => 0
 | _ => 0
def TxPI (h : Heap) (v : Value) (y : Int) (u : Value) : Prop := ∃ a o t n, v = .ref a /\ h.get? a = some o /\ o.cls = .type "tuple" /\ o.data = .seq #[.int y t, u] n
theorem TxPI.key {h : Heap} {v : Value} {y : Int} {u : Value} (p : TxPI h v y u) : tkeyI h v = y := by
 obtain ⟨a, o, t, n, rfl, ho, hc, hd⟩ := p
 unfold tkeyI
 simp only [ho, hd]
 rfl
theorem TxPI.keeps {h h' : Heap} {v : Value} {y : Int} {u : Value} (p : TxPI h v y u) (k : ∀ b o, v = .ref b -> h.get? b = some o -> h'.get? b = some o) : TxPI h' v y u := by
 obtain ⟨a, o, t, n, rfl, ho, hc, hd⟩ := p
 exact ⟨a, o, t, n, rfl, k _ _ rfl ho, hc, hd⟩
section
variable {prog : Program} {w : World} {A : Around} {s : Shared}
end
section
variable {X : Cx}
end
section
variable {K : Fr} {α : Type} {e : α -> PyData} {Rs : List Res} {H H' : Hp} {Q : VK} {v : V} {p : Addr}
end
section
variable {α : Type} {A : V -> α -> Res} {p : Addr} {Rs : List Res} {H : Hp}
end
end RC

namespace RC
open PySem PySem.Spec PyProof.Rows L2
open PySem.Sem (wp)
def sSq : Bool -> String
 | true => "tuple"
 | false => "list"
def sIt : Bool -> String
 | true => "tuple_iterator"
 | false => "list_iterator"
def SSq (f : Bool) (h : Heap) (a : Addr) (items : Array Value) : Prop := ∃ o, h.get? a = some o /\ o.cls = .type (sSq f) /\ ∃ n, o.data = .seq items n
def SIt (f : Bool) (h : Heap) (a l : Addr) (i : Nat) : Prop := ∃ o, h.get? a = some o /\ o.cls = .type (sIt f) /\ o.data = .fields #[.ref l, .int i 0]
theorem SSq.extBut {f : Bool} {h h' : Heap} {a b : Addr} {items : Array Value} (x : SSq f h a items) (hs : Heap.ExtBut b h h') (hab : a ≠ b) : SSq f h' a items := let ⟨o, ho, r⟩ := x; ⟨o, hs _ _ hab ho, r⟩
theorem SIt.extBut {f : Bool} {h h' : Heap} {a b l : Addr} {i : Nat} (x : SIt f h a l i) (hs : Heap.ExtBut b h h') (hab : a ≠ b) : SIt f h' a l i := let ⟨o, ho, r⟩ := x; ⟨o, hs _ _ hab ho, r⟩
theorem SIt.at {f : Bool} {h h' : Heap} {a l : Addr} {i : Nat} (x : SIt f h a l i) (e : ∀ o, h.get? a = some o -> h'.get? a = some o) : SIt f h' a l i := let ⟨o, ho, r⟩ := x; ⟨o, e _ ho, r⟩
def SqG (K : Fr) (f : Bool) (H : Hp) (a : Addr) (xs : List V) : Prop := match f with
 | true => SqT K H a xs
 | false => SqL K H a xs
section
variable {prog : Program} {w : World} {A : Around} {E : Value -> Shared -> Prop} {s : Shared}
theorem s_item {f : Bool} {it l : Addr} {i : Nat} {items : Array Value} {x : Value} {Q : Value -> Shared -> Prop} (hit : SIt f s.heap it l i) (hl : SSq f s.heap l items) (hx : items[i]? = some x)
   (hQ : ∀ h', SIt f h' it l (i + 1) -> Heap.SameBut it s.heap h' -> Q x { s with heap := h' }) : wpAny (model prog w) A (Builtin.SmallTypes.nextOf (.ref it)) Q E s := by
 cases f with
 | true => exact RZ.nextOf_tuple_item hit hl hx hQ
 | false => exact wpAny_nextOf_list_item hit hl hx hQ
theorem s_end {f : Bool} {it l : Addr} {i : Nat} {items : Array Value} {Q : Value -> Shared -> Prop} (hh : A.handled = none) (hit : SIt f s.heap it l i) (hl : SSq f s.heap l items) (hx : items[i]? = none)
   (hE : ∀ h' e, Heap.ExtBut it s.heap h' -> (∃ o, h'.get? e = some o /\ o.cls = .type "StopIteration") -> E (.ref e) { s with heap := h' }) : wpAny (model prog w) A (Builtin.SmallTypes.nextOf (.ref it)) Q E s := by
 cases f with
 | true => exact RZ.nextOf_tuple_end hh hit hl hx hE
 | false => exact wpAny_nextOf_list_end hh hit hl hx hE
theorem zipS_next_item {f1 f2 : Bool} {z TI TO i1 i2 l1 l2 : Addr} {k1 k2 : Nat} {xs ys : Array Value} {x y a b : Value} {Q : Value -> Shared -> Prop} (D : ZipApart z TI TO i1 i2 l1 l2)
   (hz : IsZip s.heap z TI TO .none) (hTI : IsPair s.heap TI (.ref i1) (.ref i2)) (hTO : IsPair s.heap TO a b)
   (h1 : SIt f1 s.heap i1 l1 k1) (h2 : SIt f2 s.heap i2 l2 k2) (hl1 : SSq f1 s.heap l1 xs) (hl2 : SSq f2 s.heap l2 ys) (hx : xs[k1]? = some x) (hy : ys[k2]? = some y)
   (hQ : ∀ h', IsZip h' z TI TO (rawInt s.heap.objs.size) -> IsPair h' TO x y -> SIt f1 h' i1 l1 (k1 + 1) -> SIt f2 h' i2 l2 (k2 + 1) -> IsPair h' s.heap.objs.size x y -> h'.objs.size = s.heap.objs.size + 1 ->
     (∀ c o, c ≠ z -> c ≠ TO -> c ≠ i1 -> c ≠ i2 -> s.heap.get? c = some o -> h'.get? c = some o) -> Q (.ref s.heap.objs.size) { s with heap := h' }) :
   wpAny (model prog w) A (Builtin.«zip.__next__» ⟨[.ref z], []⟩) (λ fin s' => ∃ v, fin = .done (.ret v) /\ Q v s') E s := by
 show wpAny _ _ (field (.ref z) 2 >>= _) _ _ _
 refine wpAny_bind (wpAny_field hz rfl (x := .bool false) rfl ?_)
 show wpAny _ _ (field (.ref z) 3 >>= _) _ _ _
 refine wpAny_bind (wpAny_field hz rfl (x := .ref TI) rfl ?_)
 refine wpAny_bind (wpAny_seqItems hTI rfl ?_)
 show wpAny _ _ (Builtin.SmallTypes.ownedTupleIsFree (.ref z) >>= _) _ _ _
 refine wpAny_bind ?_
 unfold Builtin.SmallTypes.ownedTupleIsFree
 refine wpAny_bind (wpAny_field hz rfl (x := .none) rfl (wpAny_pure ?_))
 simp only [if_true]
 refine wpAny_bind (wpAny_rule ?_)
 refine wpAny_bind (wpAny_field hz rfl (x := .ref TO) rfl ?_)
 refine wpAny_bind (wpAny_setField_rec hz (by simp) λ h₁ hz₁ hs₁ => ?_)
 replace hz₁ : IsZip h₁ z TI TO .ellipsis := hz₁
 refine wpAny_bind ?_
 simp only [List.zipIdx_cons, List.zipIdx_nil, List.forIn_cons, List.forIn_nil]

 refine wpAny_bind (wpAny_bind (wpAny_onRaise ?_))
 show wpAny _ _ (Builtin.SmallTypes.nextOf (.ref i1) >>= _) _ _ _
 refine wpAny_bind (s_item (h1.extBut hs₁.extBut D.i1z) (hl1.extBut hs₁.extBut D.l1z) hx λ h₂ h1₂ hs₂ => wpAny_pure ?_)
 have hTO₂ : IsPair h₂ TO a b := hs₂.extBut _ _ D.TOi1 (hs₁.extBut _ _ D.TOz hTO)
 refine wpAny_bind (wpAny_seqItems hTO₂ rfl ?_)
 refine wpAny_bind (wpAny_updateSeq_pair hTO₂ λ h₃ hTO₃ hs₃ => ?_)
 replace hTO₃ : IsPair h₃ TO x b := hTO₃
 refine wpAny_bind (wpAny_letGo (wpAny_pure ?_))

 refine wpAny_bind (wpAny_bind (wpAny_onRaise ?_))
 show wpAny _ _ (Builtin.SmallTypes.nextOf (.ref i2) >>= _) _ _ _
 refine wpAny_bind (s_item (((h2.extBut hs₁.extBut D.i2z).extBut hs₂.extBut D.i12.symm).extBut hs₃.extBut D.TOi2.symm)
   (((hl2.extBut hs₁.extBut D.l2z).extBut hs₂.extBut D.l2i1).extBut hs₃.extBut D.l2TO) hy λ h₄ h2₄ hs₄ => wpAny_pure ?_)
 have hTO₄ : IsPair h₄ TO x b := hs₄.extBut _ _ D.TOi2 hTO₃
 refine wpAny_bind (wpAny_seqItems hTO₄ rfl ?_)
 refine wpAny_bind (wpAny_updateSeq_pair hTO₄ λ h₅ hTO₅ hs₅ => ?_)
 replace hTO₅ : IsPair h₅ TO x y := hTO₅
 refine wpAny_bind (wpAny_letGo (wpAny_pure (wpAny_pure ?_)))

 refine wpAny_bind (wpAny_seqItems hTO₅ rfl ?_)
 refine wpAny_bind (wpAny_newTuple ?_)
 have hsz : h₅.objs.size = s.heap.objs.size := by rw [hs₅.1, hs₄.1, hs₃.1, hs₂.1, hs₁.1]
 have hz₅ : IsZip h₅ z TI TO .ellipsis := hs₅.extBut _ _ D.TOz.symm (hs₄.extBut _ _ D.i2z.symm (hs₃.extBut _ _ D.TOz.symm (hs₂.extBut _ _ D.i1z.symm hz₁)))
 have hk₅ : ∀ c o, c ≠ z -> c ≠ TO -> c ≠ i1 -> c ≠ i2 -> s.heap.get? c = some o -> h₅.get? c = some o := λ c o c1 c2 c3 c4 e =>
   hs₅.extBut _ _ c2 (hs₄.extBut _ _ c4 (hs₃.extBut _ _ c2 (hs₂.extBut _ _ c3 (hs₁.extBut _ _ c1 e))))
 have h1₅ : SIt f1 h₅ i1 l1 (k1 + 1) := ((h1₂.extBut hs₃.extBut D.TOi1.symm).extBut hs₄.extBut D.i12).extBut hs₅.extBut D.TOi1.symm
 have h2₅ : SIt f2 h₅ i2 l2 (k2 + 1) := h2₄.extBut hs₅.extBut D.TOi2.symm
 have hzlt : z < h₅.objs.size := Heap.lt_size hz₅
 have hTOlt : TO < h₅.objs.size := Heap.lt_size hTO₅
 have hi1lt : i1 < h₅.objs.size := by obtain ⟨_, e, _⟩ := h1₅; exact Heap.lt_size e
 have hi2lt : i2 < h₅.objs.size := by obtain ⟨_, e, _⟩ := h2₅; exact Heap.lt_size e
 show wpAny _ _ (Builtin.SmallTypes.ownedTupleHandOut (.ref z) (.ref h₅.objs.size) >>= _) _ _ _
 refine wpAny_bind ?_
 unfold Builtin.SmallTypes.ownedTupleHandOut
 have hz₆ : IsZip (h₅.push { cls := .type "tuple", data := .seq #[x, y] }) z TI TO .ellipsis := Heap.get?_push_of_some _ hz₅
 refine wpAny_bind (wpAny_setField_rec hz₆ (by simp) λ h₇ hz₇ hs₇ => ?_)
 replace hz₇ : IsZip h₇ z TI TO (rawInt h₅.objs.size) := hz₇
 refine wpAny_setField_rec hz₇ (by simp) λ h₈ hz₈ hs₈ => ?_
 replace hz₈ : IsZip h₈ z TI TO (rawInt h₅.objs.size) := hz₈
 have up : ∀ c o, c ≠ z -> h₅.get? c = some o -> h₈.get? c = some o := λ c o c1 e => hs₈.extBut _ _ c1 (hs₇.extBut _ _ c1 (Heap.get?_push_of_some _ e))
 have hT₈ : IsPair h₈ h₅.objs.size x y := hs₈.extBut _ _ (Nat.ne_of_gt hzlt) (hs₇.extBut _ _ (Nat.ne_of_gt hzlt) (Heap.get?_push_size _ rfl))
 have hz8 : h₈.objs.size = h₅.objs.size + 1 := by rw [hs₈.1, hs₇.1, Heap.size_push]
 rw [hsz] at hz₈ hT₈ hz8
 refine wpAny_pure ⟨_, rfl, ?_⟩
 show Q (.ref h₅.objs.size) _
 rw [hsz]
 exact hQ h₈ hz₈ (up _ _ D.TOz hTO₅) (h1₅.at λ o e => up _ o D.i1z e) (h2₅.at λ o e => up _ o D.i2z e) hT₈ hz8 λ c o c1 c2 c3 c4 e => up c o c1 (hk₅ c o c1 c2 c3 c4 e)

theorem zipS_next_end {f1 f2 : Bool} {z TI TO i1 i2 l1 l2 : Addr} {k1 k2 : Nat} {xs ys : Array Value} {a b : Value} {Q : Fin -> Shared -> Prop} (hh : A.handled = none) (D : ZipApart z TI TO i1 i2 l1 l2)
   (hz : IsZip s.heap z TI TO .none) (hTI : IsPair s.heap TI (.ref i1) (.ref i2)) (hTO : IsPair s.heap TO a b)
   (h1 : SIt f1 s.heap i1 l1 k1) (h2 : SIt f2 s.heap i2 l2 k2) (hl1 : SSq f1 s.heap l1 xs) (hl2 : SSq f2 s.heap l2 ys) (hend : xs[k1]? = none \/ ys[k2]? = none)
   (hE : ∀ h' e, (∀ c o, c ≠ z -> c ≠ TO -> c ≠ i1 -> c ≠ i2 -> s.heap.get? c = some o -> h'.get? c = some o) -> (∃ o, h'.get? e = some o /\ o.cls = .type "StopIteration") -> E (.ref e) { s with heap := h' }) :
   wpAny (model prog w) A (Builtin.«zip.__next__» ⟨[.ref z], []⟩) Q E s := by
 show wpAny _ _ (field (.ref z) 2 >>= _) _ _ _
 refine wpAny_bind (wpAny_field hz rfl (x := .bool false) rfl ?_)
 show wpAny _ _ (field (.ref z) 3 >>= _) _ _ _
 refine wpAny_bind (wpAny_field hz rfl (x := .ref TI) rfl ?_)
 refine wpAny_bind (wpAny_seqItems hTI rfl ?_)
 show wpAny _ _ (Builtin.SmallTypes.ownedTupleIsFree (.ref z) >>= _) _ _ _
 refine wpAny_bind ?_
 unfold Builtin.SmallTypes.ownedTupleIsFree
 refine wpAny_bind (wpAny_field hz rfl (x := .none) rfl (wpAny_pure ?_))
 simp only [if_true]
 refine wpAny_bind (wpAny_rule ?_)
 refine wpAny_bind (wpAny_field hz rfl (x := .ref TO) rfl ?_)
 refine wpAny_bind (wpAny_setField_rec hz (by simp) λ h₁ hz₁ hs₁ => ?_)
 replace hz₁ : IsZip h₁ z TI TO .ellipsis := hz₁
 refine wpAny_bind ?_
 simp only [List.zipIdx_cons, List.zipIdx_nil, List.forIn_cons, List.forIn_nil]
 refine wpAny_bind (wpAny_bind (wpAny_onRaise ?_))
 show wpAny _ _ (Builtin.SmallTypes.nextOf (.ref i1) >>= _) _ _ _
 cases hx : xs[k1]? with
 | none =>
   refine wpAny_bind (s_end hh (h1.extBut hs₁.extBut D.i1z) (hl1.extBut hs₁.extBut D.l1z) hx λ h₂ e hs₂ he => ?_)
   obtain ⟨oe, hoe, hce⟩ := he
   have hz₂ : IsZip h₂ z TI TO .ellipsis := hs₂ _ _ D.i1z.symm hz₁
   have hez : e ≠ z := λ x => by subst x; rw [hz₂] at hoe; cases hoe; simp at hce
   refine wpAny_setField_rec hz₂ (by simp) λ h₃ _ hs₃ => hE h₃ e (λ c o c1 _ c3 _ x => hs₃.extBut _ _ c1 (hs₂ _ _ c3 (hs₁.extBut _ _ c1 x))) ⟨oe, hs₃.extBut _ _ hez hoe, hce⟩
 | some x =>
   have hy : ys[k2]? = none := by rcases hend with h | h; rw [hx] at h; cases h; exact h
   refine wpAny_bind (s_item (h1.extBut hs₁.extBut D.i1z) (hl1.extBut hs₁.extBut D.l1z) hx λ h₂ h1₂ hs₂ => wpAny_pure ?_)
   have hTO₂ : IsPair h₂ TO a b := hs₂.extBut _ _ D.TOi1 (hs₁.extBut _ _ D.TOz hTO)
   refine wpAny_bind (wpAny_seqItems hTO₂ rfl ?_)
   refine wpAny_bind (wpAny_updateSeq_pair hTO₂ λ h₃ hTO₃ hs₃ => ?_)
   refine wpAny_bind (wpAny_letGo (wpAny_pure ?_))
   refine wpAny_bind (wpAny_bind (wpAny_onRaise ?_))
   show wpAny _ _ (Builtin.SmallTypes.nextOf (.ref i2) >>= _) _ _ _
   refine wpAny_bind (s_end hh (((h2.extBut hs₁.extBut D.i2z).extBut hs₂.extBut D.i12.symm).extBut hs₃.extBut D.TOi2.symm)
     (((hl2.extBut hs₁.extBut D.l2z).extBut hs₂.extBut D.l2i1).extBut hs₃.extBut D.l2TO) hy λ h₄ e hs₄ he => ?_)
   obtain ⟨oe, hoe, hce⟩ := he
   have hz₄ : IsZip h₄ z TI TO .ellipsis := hs₄ _ _ D.i2z.symm (hs₃.extBut _ _ D.TOz.symm (hs₂.extBut _ _ D.i1z.symm hz₁))
   have hez : e ≠ z := λ x => by subst x; rw [hz₄] at hoe; cases hoe; simp at hce
   refine wpAny_setField_rec hz₄ (by simp) λ h₅ _ hs₅ => hE h₅ e (λ c o c1 c2 c3 c4 x => hs₅.extBut _ _ c1 (hs₄ _ _ c4 (hs₃.extBut _ _ c2 (hs₂.extBut _ _ c3 (hs₁.extBut _ _ c1 x))))) ⟨oe, hs₅.extBut _ _ hez hoe, hce⟩

theorem pyNext_zipS_item {f1 f2 : Bool} {z TI TO i1 i2 l1 l2 : Addr} {k1 k2 : Nat} {xs ys : Array Value} {x y a b : Value} {Q : Option Value -> Shared -> Prop} (D : ZipApart z TI TO i1 i2 l1 l2)
   (hz : IsZip s.heap z TI TO .none) (hTI : IsPair s.heap TI (.ref i1) (.ref i2)) (hTO : IsPair s.heap TO a b)
   (h1 : SIt f1 s.heap i1 l1 k1) (h2 : SIt f2 s.heap i2 l2 k2) (hl1 : SSq f1 s.heap l1 xs) (hl2 : SSq f2 s.heap l2 ys) (hx : xs[k1]? = some x) (hy : ys[k2]? = some y)
   (hQ : ∀ h', IsZip h' z TI TO (rawInt s.heap.objs.size) -> IsPair h' TO x y -> SIt f1 h' i1 l1 (k1 + 1) -> SIt f2 h' i2 l2 (k2 + 1) -> IsPair h' s.heap.objs.size x y -> h'.objs.size = s.heap.objs.size + 1 ->
     (∀ c o, c ≠ z -> c ≠ TO -> c ≠ i1 -> c ≠ i2 -> s.heap.get? c = some o -> h'.get? c = some o) -> Q (some (.ref s.heap.objs.size)) { s with heap := h' }) :
   wpAny (model prog w) A (pyNext (.ref z)) Q E s := by
 have hT : s.TypeIs (.ref z) "zip" := ⟨_, hz, rfl⟩
 unfold pyNext
 exact wpAny_bind (wpAny_attempt (wpAny_callSpecial?_slot (name := Str.ofString "__next__") hT F.slot_zip_next
   (wpAny_call_entry F.slot_zip_next hT F.entry_zip_next
     (zipS_next_item D hz hTI hTO h1 h2 hl1 hl2 hx hy λ h' a1 a2 a3 a4 a5 a6 a7 => wpAny_pure (hQ h' a1 a2 a3 a4 a5 a6 a7)) (F.args_zip_next_1 _))))

theorem pyNext_zipS_end {f1 f2 : Bool} {z TI TO i1 i2 l1 l2 : Addr} {k1 k2 : Nat} {xs ys : Array Value} {a b : Value} {Q : Option Value -> Shared -> Prop} (hh : A.handled = none) (D : ZipApart z TI TO i1 i2 l1 l2)
   (hz : IsZip s.heap z TI TO .none) (hTI : IsPair s.heap TI (.ref i1) (.ref i2)) (hTO : IsPair s.heap TO a b)
   (h1 : SIt f1 s.heap i1 l1 k1) (h2 : SIt f2 s.heap i2 l2 k2) (hl1 : SSq f1 s.heap l1 xs) (hl2 : SSq f2 s.heap l2 ys) (hend : xs[k1]? = none \/ ys[k2]? = none)
   (hQ : ∀ h', (∀ c o, c ≠ z -> c ≠ TO -> c ≠ i1 -> c ≠ i2 -> s.heap.get? c = some o -> h'.get? c = some o) -> Q none { s with heap := h' }) : wpAny (model prog w) A (pyNext (.ref z)) Q E s := by
 have hT : s.TypeIs (.ref z) "zip" := ⟨_, hz, rfl⟩
 unfold pyNext
 refine wpAny_bind (wpAny_attempt (wpAny_callSpecial?_slot (name := Str.ofString "__next__") hT F.slot_zip_next
   (wpAny_call_entry F.slot_zip_next hT F.entry_zip_next (zipS_next_end hh D hz hTI hTO h1 h2 hl1 hl2 hend λ h' e hk he => ?_) (F.args_zip_next_1 _))))
 obtain ⟨o, ho, hc⟩ := he
 refine wpAny_bind (wpAny_isInstance (T := "StopIteration") (b := true) ⟨o, ho, hc⟩ isSubtype_stop ?_)
 exact wpAny_pure (hQ _ hk)
end
abbrev zipSH1 (f1 : Bool) (h : Heap) (l1 : Addr) : Heap := h.push { cls := .type (sIt f1), data := .fields #[.ref l1, .int 0 0] }
abbrev zipSH2 (f1 f2 : Bool) (h : Heap) (l1 l2 : Addr) : Heap := (zipSH1 f1 h l1).push { cls := .type (sIt f2), data := .fields #[.ref l2, .int 0 0] }
abbrev zipSH3 (f1 f2 : Bool) (h : Heap) (l1 l2 : Addr) : Heap := (zipSH2 f1 f2 h l1 l2).push { cls := .type "tuple", data := .seq #[.ref h.objs.size, .ref (zipSH1 f1 h l1).objs.size] }
abbrev zipSH4 (f1 f2 : Bool) (h : Heap) (l1 l2 : Addr) : Heap := (zipSH3 f1 f2 h l1 l2).push { cls := .type "tuple", data := .seq #[.none, .none] }
abbrev zipSH5 (f1 f2 : Bool) (h : Heap) (l1 l2 : Addr) : Heap := (zipSH4 f1 f2 h l1 l2).push { cls := .type "zip", data := .fields #[.none, .bool false, .bool false, .ref (zipSH2 f1 f2 h l1 l2).objs.size, .ref (zipSH3 f1 f2 h l1 l2).objs.size] }

theorem meets_zipS_new (f1 f2 : Bool) (l1 l2 : Addr) (xs ys : Array Value) :
   Meets (Builtin.«zip.__new__» ⟨[.type "zip", .ref l1, .ref l2], []⟩) (λ _ R s => SSq f1 s.heap l1 xs /\ SSq f2 s.heap l2 ys /\
     R (.ok (.ret (.ref (zipSH4 f1 f2 s.heap l1 l2).objs.size))) { s with heap := zipSH5 f1 f2 s.heap l1 l2 }) :=
 .of_wp λ prog w A R s h => by
   obtain ⟨hp, g, d, tk, os⟩ := s; obtain ⟨hl1, hl2, h⟩ := h
   have hsub := sub_zip
   cases f1 <;> cases f2
   · have hL1 : Heap.IsList (Shared.heap ⟨hp, g, d, tk, os⟩) l1 xs := hl1
     have hL2 : Heap.IsList (Shared.heap ⟨hp.push { cls := .type "list_iterator", data := .fields #[.ref l1, .int 0 0] }, g, d, tk, os⟩) l2 ys := Heap.IsList.push hl2 _
     wp_walk using wpAny_pyIter_list hL1, wpAny_pyIter_list hL2
     exact ⟨_, rfl, h⟩
   · have hL1 : Heap.IsList (Shared.heap ⟨hp, g, d, tk, os⟩) l1 xs := hl1
     have hL2 : Heap.IsTuple (Shared.heap ⟨hp.push { cls := .type "list_iterator", data := .fields #[.ref l1, .int 0 0] }, g, d, tk, os⟩) l2 ys := Heap.IsTuple.push hl2 _
     wp_walk using wpAny_pyIter_list hL1, wpAny_pyIter_tuple hL2
     exact ⟨_, rfl, h⟩
   · have hL1 : Heap.IsTuple (Shared.heap ⟨hp, g, d, tk, os⟩) l1 xs := hl1
     have hL2 : Heap.IsList (Shared.heap ⟨hp.push { cls := .type "tuple_iterator", data := .fields #[.ref l1, .int 0 0] }, g, d, tk, os⟩) l2 ys := Heap.IsList.push hl2 _
     wp_walk using wpAny_pyIter_tuple hL1, wpAny_pyIter_list hL2
     exact ⟨_, rfl, h⟩
   · have hL1 : Heap.IsTuple (Shared.heap ⟨hp, g, d, tk, os⟩) l1 xs := hl1
     have hL2 : Heap.IsTuple (Shared.heap ⟨hp.push { cls := .type "tuple_iterator", data := .fields #[.ref l1, .int 0 0] }, g, d, tk, os⟩) l2 ys := Heap.IsTuple.push hl2 _
     wp_walk using wpAny_pyIter_tuple hL1, wpAny_pyIter_tuple hL2
     exact ⟨_, rfl, h⟩
section
variable {prog : Program} {w : World} {A : Around} {E : Value -> Shared -> Prop} {s : Shared}

theorem call_zipS {f1 f2 : Bool} {l1 l2 : Addr} {xs ys : Array Value} {Q : Value -> Shared -> Prop} (hl1 : SSq f1 s.heap l1 xs) (hl2 : SSq f2 s.heap l2 ys)
   (h : ∀ h', IsZip h' (s.heap.objs.size + 4) (s.heap.objs.size + 2) (s.heap.objs.size + 3) .none -> IsPair h' (s.heap.objs.size + 2) (.ref s.heap.objs.size) (.ref (s.heap.objs.size + 1)) ->
     IsPair h' (s.heap.objs.size + 3) .none .none -> SIt f1 h' s.heap.objs.size l1 0 -> SIt f2 h' (s.heap.objs.size + 1) l2 0 -> h'.objs.size = s.heap.objs.size + 5 ->
     (∀ c o, s.heap.get? c = some o -> h'.get? c = some o) -> Q (.ref (s.heap.objs.size + 4)) { s with heap := h' }) :
   wpAny (model prog w) A (call (.type "zip") [.ref l1, .ref l2]) Q E s := by
 refine callType_new F.called_zip (by decide) (F.typeCall_zip_2 _ _) (F.newCall_zip_2 _ _) (λ obj => F.args_object_init_3 obj _ _) F.entry_zip_new
   (meets_zipS_new f1 f2 l1 l2 xs ys) ⟨hl1, hl2, ?_⟩
 have z1 : (zipSH1 f1 s.heap l1).objs.size = s.heap.objs.size + 1 := Heap.size_push ..
 have z2 : (zipSH2 f1 f2 s.heap l1 l2).objs.size = s.heap.objs.size + 2 := by rw [Heap.size_push, z1]
 have z3 : (zipSH3 f1 f2 s.heap l1 l2).objs.size = s.heap.objs.size + 3 := by rw [Heap.size_push, z2]
 have z4 : (zipSH4 f1 f2 s.heap l1 l2).objs.size = s.heap.objs.size + 4 := by rw [Heap.size_push, z3]
 have z5 : (zipSH5 f1 f2 s.heap l1 l2).objs.size = s.heap.objs.size + 5 := by rw [Heap.size_push, z4]
 have g5 : (zipSH5 f1 f2 s.heap l1 l2).get? (zipSH4 f1 f2 s.heap l1 l2).objs.size = some _ := Heap.get?_push_size _ rfl
 have g4 : (zipSH5 f1 f2 s.heap l1 l2).get? (zipSH3 f1 f2 s.heap l1 l2).objs.size = some _ := Heap.get?_push_of_some _ (Heap.get?_push_size _ rfl)
 have g3 : (zipSH5 f1 f2 s.heap l1 l2).get? (zipSH2 f1 f2 s.heap l1 l2).objs.size = some _ := Heap.get?_push_of_some _ (Heap.get?_push_of_some _ (Heap.get?_push_size _ rfl))
 have g2 : (zipSH5 f1 f2 s.heap l1 l2).get? (zipSH1 f1 s.heap l1).objs.size = some _ := Heap.get?_push_of_some _ (Heap.get?_push_of_some _ (Heap.get?_push_of_some _ (Heap.get?_push_size _ rfl)))
 have g1 : (zipSH5 f1 f2 s.heap l1 l2).get? s.heap.objs.size = some _ := Heap.get?_push_of_some _ (Heap.get?_push_of_some _ (Heap.get?_push_of_some _ (Heap.get?_push_of_some _ (Heap.get?_push_size _ rfl))))
 show _ /\ _
 rw [z2, z3, z4] at g5
 rw [z1, z2] at g3
 rw [z3] at g4
 rw [z1] at g2
 rw [z4]
 exact ⟨⟨_, g5, rfl⟩, h _ g5 g3 g4 ⟨_, g1, rfl, rfl⟩ ⟨_, g2, rfl, rfl⟩ z5 λ c o x =>
   Heap.get?_push_of_some _ (Heap.get?_push_of_some _ (Heap.get?_push_of_some _ (Heap.get?_push_of_some _ (Heap.get?_push_of_some _ x))))⟩
end
section
variable {X : Cx} {pins : List (Addr × Obj)} {σ : L2.St} {H : Hp} {s : Shared} {f : Bool} {a : Addr} {xs ys : List V}
theorem sq_get (I : Inv X pins σ H s) (h : SqG X.K f H a xs) : ∃ its, Vals xs its /\ SSq f s.heap a its.toArray /\ xs.length <= sizeLine := by
 cases f with
 | true => exact I.tuple h
 | false =>
   obtain ⟨its, rv, p, z⟩ := I.list h
   exact ⟨its, rv, p.isList, z⟩
theorem sq_inj (I : Inv X pins σ H s) (h : SqG X.K f H a xs) (h2 : SqG X.K f H a ys) : xs = ys := by
 cases f with
 | true => exact I.tuple_inj h h2
 | false => exact I.list_inj h h2
end
def ItzS (K : Fr) (f1 f2 : Bool) (a b : Addr) : It :=
 ⟨λ i H => ∃ (xs ys : List V) (x y : V), SqG K f1 H a xs /\ SqG K f2 H b ys /\ xs[i]? = some x /\ ys[i]? = some y,
   λ i H v H' => ∃ T x y, v = .ref T /\ H T = none /\ H' = upd H T (.tup [x, y]) /\ (∀ xs, SqG K f1 H a xs -> xs[i]? = some x) /\ ∀ ys, SqG K f2 H b ys -> ys[i]? = some y,
   λ i H => ∃ xs ys : List V, SqG K f1 H a xs /\ SqG K f2 H b ys /\ (xs.length <= i \/ ys.length <= i)⟩
theorem turn_zipS {f1 f2 : Bool} {P : Program} {w : World} {K : Fr} {elts : List Expr} {kk : Nat} {tpos : Pos} {a b z TI TO i1 i2 : Addr} (D : ZipApart z TI TO i1 i2 a b) :
   Turn P w K (.Tuple elts kk tpos) (ItzS K f1 f2 a b) [z, TI, TO, i1, i2] z (λ i h => IsZip h z TI TO .none /\ IsPair h TI (.ref i1) (.ref i2) /\ (∃ x y, IsPair h TO x y) /\ SIt f1 h i1 a i /\ SIt f2 h i2 b i) where
 mem := by simp
 obj := λ i h st c hc => by
   obtain ⟨hz, hTI, ⟨x, y, hTO⟩, ⟨o1, e1, _, d1⟩, ⟨o2, e2, _, d2⟩⟩ := st
   have e' : c = z \/ c = TI \/ c = TO \/ c = i1 \/ c = i2 := by simpa using hc
   rcases e' with q | q | q | q | q
   · rw [q]; exact ⟨_, hz, λ v q => nomatch q⟩
   · rw [q]; exact ⟨_, hTI, λ v q => nomatch q⟩
   · rw [q]; exact ⟨_, hTO, λ v q => nomatch q⟩
   · rw [q]; exact ⟨o1, e1, λ v q => by rw [d1] at q; cases q⟩
   · rw [q]; exact ⟨o2, e2, λ v q => by rw [d2] at q; cases q⟩
 keep := λ i h h' st k => by
   obtain ⟨hz, hTI, ⟨x, y, hTO⟩, h1, h2⟩ := st
   exact ⟨k z (by simp) _ hz, k TI (by simp) _ hTI, ⟨x, y, k TO (by simp) _ hTO⟩, h1.at λ o q => k i1 (by simp) o q, h2.at λ o q => k i2 (by simp) o q⟩
 item := by
   intro X hP hw hK hc i pins s σ H E I hf st hg
   subst hP hw hK
   obtain ⟨hz, hTI, ⟨x0, y0, hTO⟩, h1, h2⟩ := st
   obtain ⟨xs, ys, x, y, hqx, hqy, hx, hy⟩ := hg
   obtain ⟨its, rv, p, _⟩ := sq_get I hqx
   obtain ⟨its2, rv2, p2, _⟩ := sq_get I hqy
   obtain ⟨u, hu, ru⟩ := rv.get hx
   obtain ⟨u2, hu2, ru2⟩ := rv2.get hy
   have hzl : z < s.heap.objs.size := Heap.lt_size hz
   refine pyNext_zipS_item D hz hTI hTO h1 h2 p p2 (x := u) (y := u2) (by simpa using hu) (by simpa using hu2) λ h' z' TO' h1' h2' hT hsz hk => ?_
   refine ⟨_, rfl, wpAny_letOwnedTupleGo_zip (s := { s with heap := h' }) z' λ h'' z'' sb => ?_⟩
   have hT2 : h''.get? s.heap.objs.size = some { cls := .type "tuple", data := .seq #[u, u2] } := (sb.2 _ (Nat.ne_of_gt hzl)).trans hT
   have new : ObjOk X.prog X.w (upd H s.heap.objs.size (.tup [x, y])) h'' s.heap.objs.size (.tup [x, y]) :=
     ⟨by show 2 <= sizeLine; decide, [u, u2], .cons ru (.cons ru2 .nil), ⟨_, hT2, rfl, _, rfl⟩⟩
   have I1 : Inv X pins σ (upd H s.heap.objs.size (.tup [x, y])) { s with heap := h'' } :=
     I.turnedNew (t' := s.toks) (ch := [z, TI, TO, i1, i2]) (λ c o hb q => (sb.2 c (λ q' => hb (by simp [q']))).trans (hk c o (λ q' => hb (by simp [q'])) (λ q' => hb (by simp [q'])) (λ q' => hb (by simp [q'])) (λ q' => hb (by simp [q'])) q)) hf (Nat.le_refl _) new
   refine ⟨.ref s.heap.objs.size, _, I1, rfl, ⟨_, x, y, rfl, I.hok.fresh (Nat.le_refl _), rfl, λ l hl => by rw [sq_inj I hl hqx]; exact hx, λ l hl => by rw [sq_inj I hl hqy]; exact hy⟩, ⟨z'', ?_, ⟨u, u2, ?_⟩, ?_, ?_⟩, λ c hcm => ?_⟩
   · exact (sb.2 _ D.TIz).trans (hk _ _ D.TIz D.TITO D.TIi1 D.TIi2 hTI)
   · exact (sb.2 _ D.TOz).trans TO'
   · exact h1'.at λ o q => (sb.2 _ D.i1z).trans q
   · exact h2'.at λ o q => (sb.2 _ D.i2z).trans q
   · have hlt : c < s.heap.objs.size := by
       have e' : c = z \/ c = TI \/ c = TO \/ c = i1 \/ c = i2 := by simpa using hcm
       rcases e' with q | q | q | q | q
       · rw [q]; exact hzl
       · rw [q]; exact Heap.lt_size hTI
       · rw [q]; exact Heap.lt_size hTO
       · rw [q]; obtain ⟨_, e1, _⟩ := h1; exact Heap.lt_size e1
       · rw [q]; obtain ⟨_, e2, _⟩ := h2; exact Heap.lt_size e2
     rw [upd_ne (Nat.ne_of_lt hlt)]
     exact (hf c hcm).1
 done := by
   intro X hP hw hK hc i pins s σ H E I hf st hg
   subst hP hw hK
   obtain ⟨hz, hTI, ⟨x0, y0, hTO⟩, h1, h2⟩ := st
   obtain ⟨xs, ys, hqx, hqy, hend⟩ := hg
   obtain ⟨its, rv, p, _⟩ := sq_get I hqx
   obtain ⟨its2, rv2, p2, _⟩ := sq_get I hqy
   have l1 := rv.length
   have l2 := rv2.length
   have he : its.toArray[i]? = none \/ its2.toArray[i]? = none := by
     rcases hend with q | q
     · exact .inl (by simp; omega)
     · exact .inr (by simp; omega)
   exact pyNext_zipS_end (I.ok.hd hc) D hz hTI hTO h1 h2 p p2 he λ h' hk => ⟨rfl, I.turnedL (t' := s.toks) (ch := [z, TI, TO, i1, i2]) (λ c o hb q =>
     hk c o (λ q' => hb (by simp [q'])) (λ q' => hb (by simp [q'])) (λ q' => hb (by simp [q'])) (λ q' => hb (by simp [q'])) q) hf⟩
 self := λ A i s Q E st h => wpAny_pyIter_zip st.1 h

def iZipG (K : Fr) (f1 f2 : Bool) (ta : TA) : TI := λ σ H R => ta σ H λ vs H1 => ∃ a b xs ys, vs = [.ref a, .ref b] /\ SqG K f1 H1 a xs /\ SqG K f2 H1 b ys /\ R (ItzS K f1 f2 a b) H1
theorem pi_zipG (f1 f2 : Bool) {X : Cx} {e e2 : Expr} {ta : TA} {p pos tpos : Pos} {elts : List Expr} {kk : Nat} (hg : Gl X "zip") (hm : X.mg "zip" = none) (ha : PA X [e, e2] ta)
   (hs : starEach [e, e2] X.env = (false, eval e X.env) :: starEach [e2] X.env := by rfl) (hpl : (backTo pos (starEach [e2] X.env)).any (·.1) = false := by rfl) :
   PI X (.Tuple elts kk tpos) (.Call (.Name "zip" p) [e, e2] [] pos) (iZipG X.K f1 f2 ta) := by
 refine ⟨λ pins s σ H R I h => ?_⟩
 refine Call_ (ld_blt I hg hm PyProof.Rows.boot_zip (PyProof.Rows.callWith_type1 (thn (ha.run pos pins s σ H _ I h) λ us s1 ⟨vs, H1, I1, r1, q1⟩ => ?_) hs hpl))
 obtain ⟨a, b, xs, ys, ex, hqx, hqy, q⟩ := q1
 subst ex
 cases r1 with
 | cons r rr =>
   cases rr with
   | cons r' rr =>
     cases rr
     cases r
     cases r'
     have fr : ∀ c, c ∈ [s1.heap.objs.size + 4, s1.heap.objs.size + 2, s1.heap.objs.size + 3, s1.heap.objs.size, s1.heap.objs.size + 1] -> FpOk X pins H1 c := λ c hcm => by
       have hle : s1.heap.objs.size <= c := by
         simp only [List.mem_cons, List.not_mem_nil, or_false] at hcm
         omega
       exact I1.fpOk hle (I1.hok.fresh hle)
     obtain ⟨its, rv, p1, _⟩ := sq_get I1 hqx
     obtain ⟨its2, rv2, p2, _⟩ := sq_get I1 hqy
     obtain ⟨o1, ho1, _⟩ := id p1
     obtain ⟨o2, ho2, _⟩ := id p2
     refine call_zipS p1 p2 λ h' hz hTI hTO h1 h2 hsz hk => wpAny_pyIter_zip hz ?_
     have I2 : Inv X pins σ H1 { s1 with heap := h' } := I1.kept (t' := s1.toks) hk
     exact ⟨s1.heap.objs.size + 4, [s1.heap.objs.size + 4, s1.heap.objs.size + 2, s1.heap.objs.size + 3, s1.heap.objs.size, s1.heap.objs.size + 1], _, _, H1, rfl, I2, turn_zipS (PySem.W.ktu_apart s1.heap.objs.size a b (Heap.lt_size ho1) (Heap.lt_size ho2)), ⟨hz, hTI, ⟨_, _, hTO⟩, h1, h2⟩, fr, q⟩
section
variable {K : Fr} {f1 f2 f : Bool} {a b : Addr} {vs us : List V} {Rs : List Res} {H : Hp} {σ : L2.St} {Q : VK} {α γ β : Type} {xs : List α} {ys : List γ} {D : Ends}
theorem walk_zipS {n : Nat} (hn : n = min vs.length us.length) : Walk (ItzS K f1 f2 a b) n (λ H => SqG K f1 H a vs /\ SqG K f2 H b us) (YPair (λ i => vs[i]?) (λ i => us[i]?)) := by
 subst hn
 refine ⟨λ i H hi q => ⟨vs, us, vs[i]'(by omega), us[i]'(by omega), q.1, q.2, by simp [show i < vs.length by omega], by simp [show i < us.length by omega]⟩, λ H q => ⟨vs, us, q.1, q.2, by omega⟩, λ i H x H' hi q y => ?_⟩
 obtain ⟨T, x1, y1, e, hT, e2, hx, hy⟩ := y
 exact ⟨T, x1, y1, e, hT, e2, hx vs q.1, hy us q.2⟩
def seqD : Bool -> List PyData -> PyData
 | true => .tuple
 | false => .list
theorem sqG_ext {H H' : Hp} (e : Ext H H') (h : SqG K f H a vs) : SqG K f H' a vs := by
 cases f with
 | true => exact e.sqT h
 | false => exact e.sqL h
def rdG (K : Fr) (f : Bool) (a : Addr) (xs : List V) : Res := ⟨λ F l => l = [] /\ SqG K f F a xs, λ _ _ _ e h => ⟨h.1, sqG_ext e h.2⟩⟩
theorem M.openG (f : Bool) {v : V} {ds : List PyData} (S : M (da K v (seqD f ds) :: Rs) H) : ∃ a vs, v = .ref a /\ M (rdG K f a vs :: daA K vs ds :: Rs) H := by
 obtain ⟨F, L, ⟨l1, l2, rfl, ⟨rfl, d⟩, s⟩, m⟩ := S
 cases f with
 | true =>
   cases d with
   | tup h q => exact ⟨_, _, rfl, F, l2, ⟨[], l2, rfl, ⟨rfl, h⟩, [], l2, rfl, ⟨rfl, q⟩, s⟩, m⟩
 | false =>
   cases d with
   | lst h q => exact ⟨_, _, rfl, F, l2, ⟨[], l2, rfl, ⟨rfl, h⟩, [], l2, rfl, ⟨rfl, q⟩, s⟩, m⟩
theorem M.gotG {a : Addr} (S : M Rs H) (j : Nat) (hj : Rs[j]? = some (rdG K f a vs)) : SqG K f H a vs := by
 obtain ⟨F, L, s, m⟩ := S
 obtain ⟨l, h⟩ := s.get j hj
 exact sqG_ext m.ex h.2
theorem M.zl {e : α -> PyData} (S : M Rs H) (i : Nat) (hi : Rs[i]? = some (rdG K f a vs)) (j : Nat) (hj : Rs[j]? = some (daA K vs (xs.map e))) : SqG K f H a vs /\ vs.length = xs.length := by
 refine ⟨S.gotG i hi, ?_⟩
 have := (S.gotAA j hj).len
 rwa [List.length_map] at this
def ItZG (K : Fr) (f1 f2 : Bool) (R : It -> Hp -> Prop) : List V -> Hp -> Prop := λ vs H1 => ∃ a b xs ys, vs = [.ref a, .ref b] /\ SqG K f1 H1 a xs /\ SqG K f2 H1 b ys /\ R (ItzS K f1 f2 a b) H1
theorem g_iZipG {ta : TA} {R : It -> Hp -> Prop} (k : ta σ H (ItZG K f1 f2 R)) : iZipG K f1 f2 ta σ H R := k
theorem for_zipG {F : α × γ -> β -> (β -> Prop) -> Prop} {s0 : β} {KK : β -> Prop} {g : TG} {tb : TS} {v w : V} (e1 : v = .ref a) (e2 : w = .ref b) (hf : forD F (xs.zip ys) s0 KK) (Inv : β -> L2.St -> Hp -> Prop) (h0 : Inv s0 σ H)
   (hrd : ∀ s σ H, Inv s σ H -> (SqG K f1 H a vs /\ vs.length = xs.length) /\ SqG K f2 H b us /\ us.length = ys.length)
   (hs : ∀ (i : Nat) v u (q : α × γ) s σ H T (kk : β -> Prop), Inv s σ H -> H T = none -> vs[i]? = some v -> xs[i]? = some q.1 -> us[i]? = some u -> ys[i]? = some q.2 -> F q s kk -> g (.ref T) σ (upd H T (.tup [v, u])) λ σ2 H2 => tb ⟨λ σ H => ∃ s', kk s' /\ Inv s' σ H, D.rt, D.nx, λ σ H => ∃ s', kk s' /\ Inv s' σ H⟩ σ2 H2)
   (hd : ∀ s σ H, KK s -> Inv s σ H -> D.nx σ H) : ItZG K f1 f2 (λ J H1 => ForW J g tb D σ H1) [v, w] H := by
 subst e1 e2
 obtain ⟨⟨q1, hl⟩, q2, hl2⟩ := hrd _ _ _ h0
 have hn : (xs.zip ys).length = min vs.length us.length := by rw [List.length_zip, hl, hl2]
 refine ⟨a, b, vs, us, rfl, q1, q2, for_W (walk_zipS hn) (λ i σ H => ∃ s, forD F ((xs.zip ys).drop i) s KK /\ Inv s σ H) ⟨s0, by simpa using hf, h0⟩ (λ i σ H _ ⟨s, _, h⟩ => ⟨(hrd s σ H h).1.1, (hrd s σ H h).2.1⟩) ?_ ?_⟩
 · rintro i p σ H H' hi ⟨s, hf, h⟩ ⟨T, v, u, rfl, hT, rfl, hv, hu⟩
   rw [List.drop_eq_getElem_cons hi] at hf
   have hzi := hi
   rw [List.length_zip] at hzi
   have h1 : i < xs.length := by omega
   have h2 : i < ys.length := by omega
   have e0 : (xs.zip ys)[i] = (xs[i], ys[i]) := List.getElem_zip
   rw [e0] at hf
   exact hs i v u (xs[i], ys[i]) s σ H T _ h hT hv (List.getElem?_eq_getElem h1) hu (List.getElem?_eq_getElem h2) hf
 · rintro σ H ⟨s, hf, h⟩
   rw [List.drop_length] at hf
   exact hd s σ H hf h
end
end RC

namespace RC
open PySem PySem.Spec PyProof.Rows L2
section
variable {P : Program} {w : World} {A : Around} {E : Value -> Shared -> Prop} {s : Shared} {a : Addr} {es : Array (Int × Value)} {ep : Nat} {t : SetTable}
end
section
variable {X : Cx}
end
section
variable {K : Fr} {α : Type} {e : α -> PyData} {Rs : List Res} {H : Hp} {Q : VK} {v : V} {a b : Addr} {σ : L2.St} {w : World}
end
section
variable {prog : Program} {w : World} {A : Around} {R : Result -> Shared -> Prop} {s : Shared} {elt t0 i0 t1 i1 : Expr} {ifs0 ifs1 : List Expr} {scope : Scope} {pos : Pos} {it acc : Value} {env : Env}
end

section
variable {X : Cx}
end
end RC

namespace RC
open PySem PySem.Spec PyProof.Rows L2
section
variable {K : Fr} {w : World} {Rs : List Res} {H : Hp} {σ : L2.St} {Q : VK} {α κ : Type} {vs : List V} {xs : List α} {a p D : Addr} {e : α -> PyData} {L : List Key} {acc : List Int}
end
structure InsY (K : Fr) (C : Addr) : Prop where
 ha : PySem.W.findIn K (.ref C) "__class__" = some (some (.builtin "object.__class__"))
 hn : PySem.W.specialIn K (.builtin "object.__class__") "__get__" = some (some (.builtin "getset_descriptor.__get__"))
 ht : PySem.W.takesIn K (.builtin "object.__class__") = some true
 hm : PySem.W.mroIn K C (.type "object") = some true
end RC

namespace RC
open PySem PySem.Spec PyProof.Rows L2
section
variable {K : Fr} {κ α β γ κ2 : Type} [DecidableEq κ] [DecidableEq κ2] {Rs : List Res} {H : Hp} {σ : L2.St} {p : Addr} {Q : VK} {od : Obj} {kvs : List (Key × V)} {ik : κ -> Key} {m : List (κ × α)} {e : α -> PyData} {sv : κ -> V} {D : Ends}
end
end RC

namespace RC
open PySem PySem.Spec PyProof.Rows L2
section
variable {K : Fr} {Rs : List Res} {H : Hp} {Q : VK} {p q : Addr} {m : List ((Int × Int) × Bool)} {x : Int × Int} {σ : L2.St}
end
section
variable {X : Cx}
end
section
variable {K : Fr} {α κ : Type} {ik : κ -> Key} {e : α -> PyData} {Rs : List Res} {H H' : Hp} {Q : VK} {v : V} {p : Addr} {m : List (κ × α)}
end
section
variable {K : Fr} {α β : Type} {A : V -> α -> Res} {B : List V -> β -> Res} {e : α -> PyData} {es : β -> List PyData} {Rs : List Res} {H : Hp} {p : Addr}
end
section
variable {K : Fr} {α : Type} {A : V -> α -> Res} {Rs : List Res} {H : Hp} {p : Addr}
end
end RC

namespace RC
open PySem PySem.Spec PyProof.Rows L2
section
variable {K : Fr} {α : Type} {e : α -> PyData} {Rs : List Res} {H : Hp} {p : Addr} {vs : List V} {xs : List α} {Q : VK}
end
section
variable {K : Fr} {H : Hp} {Q : VK} {v w : V}
end
end RC

namespace RC
open PySem PySem.Spec PyProof.Rows L2
section
variable {X : Cx}
end
section
variable {K : Fr} {Rs : List Res} {H : Hp} {Q : VK} {w : World} {a b : Addr}
end
section
variable {Rs : List Res} {H : Hp}
end
end RC

namespace RC
open PySem PySem.Spec PyProof.Rows L2
section
variable {K : Fr} {Rs : List Res} {H : Hp} {σ : L2.St} {Q : VK} {α β γ : Type} {xs : List α} {ys : List β} {a q D : Addr} {e : α -> PyData} {eb : β -> PyData} {e' : γ -> PyData} {sv : α -> V} {svb : β -> V} {acc : List γ}
end
section
variable {X : Cx}
end
end RC

namespace RC
open PySem PySem.Spec PyProof.Rows L2
section
variable {K : Fr} {Rs : List Res} {H : Hp} {σ : L2.St} {Q : VK} {α β γ : Type} {xs : List α} {ys : List β} {a q D : Addr} {e : α -> PyData} {eb : β -> PyData} {e' : γ -> PyData} {sv : α -> V} {svb : β -> V} {acc : List γ}
end
section
variable {K : Fr} {κ α β : Type} {ik : κ -> Key} {A : V -> α -> Res} {Rs : List Res} {H : Hp} {p : Addr} {m : List (κ × α)} {σ : L2.St} {od : Obj} {kvs : List (Key × V)} {Q : VK}
variable [DecidableEq κ]
end
end RC

namespace RC
open PySem PySem.Spec PyProof.Rows L2
section
variable {K : Fr} {α : Type} {e : α -> PyData} {Rs : List Res} {H : Hp} {Q : VK} {p q : Addr}
end
end RC

namespace RC
open PySem PySem.Spec PyProof.Rows L2
def nthR : List Res -> Nat -> Option Res
 | [], _ => none
 | R :: _, 0 => some R
 | _ :: Rs, n + 1 => nthR Rs n
def dropR : Nat -> List Res -> List Res
 | 0, Rs => Rs
 | _ + 1, [] => []
 | n + 1, _ :: Rs => dropR n Rs
def pkL (Bs tl : List Res) : List Nat -> List Res
 | [] => tl
 | j :: js => match nthR Bs j with
   | some R => R :: pkL Bs tl js
   | none => pkL Bs tl js
def notIn (j : Nat) : List Nat -> Bool
 | [] => true
 | i :: is => !(Nat.beq i j) && notIn j is
def okJ (n : Nat) : List Nat -> Bool
 | [] => true
 | j :: js => Nat.blt j n && (notIn j js && okJ n js)
theorem nthR_eq : ∀ (Bs : List Res) (n : Nat), nthR Bs n = Bs[n]?
 | [], n => by cases n <;> rfl
 | R :: Bs, 0 => rfl
 | R :: Bs, n + 1 => by
   rw [nthR, nthR_eq Bs n, List.getElem?_cons_succ]
theorem dropR_eq : ∀ (n : Nat) (Bs : List Res), dropR n Bs = Bs.drop n
 | 0, Bs => rfl
 | n + 1, [] => rfl
 | n + 1, R :: Bs => by
   rw [dropR, dropR_eq n Bs, List.drop_succ_cons]
theorem pkL_eq (Bs tl : List Res) : ∀ js : List Nat, pkL Bs tl js = js.filterMap (λ i => Bs[i]?) ++ tl
 | [] => rfl
 | j :: js => by
   rw [pkL, nthR_eq, pkL_eq Bs tl js, List.filterMap_cons]
   cases Bs[j]? <;> rfl
theorem notIn_ok {j : Nat} : ∀ {is : List Nat}, notIn j is = true -> j ∉ is
 | [], _ => λ h => nomatch h
 | i :: is, h => by
   obtain ⟨h1, h2⟩ := Bool.and_eq_true_iff.mp h
   intro hm
   rcases List.mem_cons.mp hm with e | e
   · subst e
     rw [show Nat.beq j j = true from Nat.beq_refl j] at h1
     cases h1
   · exact notIn_ok h2 e
theorem okJ_ok {n : Nat} : ∀ {js : List Nat}, okJ n js = true -> js.Nodup /\ ∀ j ∈ js, j < n
 | [], _ => ⟨List.nodup_nil, λ _ h => nomatch h⟩
 | j :: js, h => by
   obtain ⟨h1, h2⟩ := Bool.and_eq_true_iff.mp h
   obtain ⟨h3, h4⟩ := Bool.and_eq_true_iff.mp h2
   obtain ⟨i1, i2⟩ := okJ_ok h4
   refine ⟨List.nodup_cons.mpr ⟨notIn_ok h3, i1⟩, λ i hi => ?_⟩
   rcases List.mem_cons.mp hi with e | e
   · rw [e]
     exact Nat.le_of_ble_eq_true h1
   · exact i2 i e
theorem take_fm (Bs : List Res) (n : Nat) : (List.range n).filterMap (λ i => Bs[i]?) = Bs.take n := by
 induction n with
 | zero => rfl
 | succ n ih =>
   rw [List.range_succ, List.filterMap_append, ih, List.take_succ]
   cases e : Bs[n]? <;> simp [e]
theorem Sub.left (rest : List Res) : ∀ As : List Res, Sub As (As ++ rest)
 | [] => Sub.nil _
 | a :: As => Sub.cons 0 rfl (Sub.left rest As)
theorem M.pk {Bs : List Res} {H : Hp} (S : M Bs H) (n : Nat) (js : List Nat) (h : okJ n js = true) : M (pkL Bs (dropR n Bs) js) H := by
 obtain ⟨h1, h2⟩ := okJ_ok h
 rw [pkL_eq, dropR_eq]
 have hp : (js ++ (List.range n).filter λ i => !decide (i ∈ js)).Perm (List.range n) := by
   refine perm_of ?_ List.nodup_range λ x => ?_
   · refine List.nodup_append.mpr ⟨h1, List.nodup_range.sublist List.filter_sublist, λ a ha b hb e => ?_⟩
     subst e
     simp [ha] at hb
   · rw [List.mem_append, List.mem_filter, List.mem_range]
     constructor
     · rintro (h | h)
       · exact h2 x h
       · exact h.1
     · intro h
       by_cases z : x ∈ js
       · exact .inl z
       · exact .inr ⟨h, by simpa using z⟩
 have hq := (hp.filterMap λ i => Bs[i]?)
 rw [List.filterMap_append, take_fm] at hq
 have hr : ((js.filterMap (λ i => Bs[i]?) ++ Bs.drop n) ++ ((List.range n).filter λ i => !decide (i ∈ js)).filterMap (λ i => Bs[i]?)).Perm Bs := by
   have h3 := hq.append_right (Bs.drop n)
   rw [List.take_append_drop] at h3
   refine List.Perm.trans ?_ h3
   rw [List.append_assoc, List.append_assoc]
   exact List.Perm.append_left _ List.perm_append_comm
 refine M.sub (λ F L s => ?_) S
 obtain ⟨L0, p0, s0⟩ := s.perm hr.symm
 obtain ⟨L1, L2, p1, s1⟩ := Sub.left _ _ F L0 s0
 exact ⟨L1, L2, p0.trans p1, s1⟩
end RC

namespace RC
open PySem PySem.Spec PyProof.Rows L2
end RC

namespace RC
open PySem PySem.Spec PyProof.Rows L2
section
variable {K : Fr} {α : Type} {Rs : List Res} {H : Hp} {T : Addr -> α -> Res} {p : Addr} {Q : VK}
end
end RC

namespace RC
open PySem PySem.Spec PyProof.Rows L2
theorem FnX.or {g : Bool} {P : Program} {w : World} {K : Fr} {mg : Str -> Option Value} {base : Heap} {CX : CXT} {k : Nat} {f : Addr} {fd : FuncData} {ps : List Str} {s1 s2 : Sp}
   (F1 : FnX g P w K mg base CX k f fd ps s1) (F2 : FnX g P w K mg base CX k f fd ps s2) : FnX g P w K mg base CX k f fd ps (λ vs H Q E => s1 vs H Q E \/ s2 vs H Q E) :=
 ⟨λ vs H Q E h => h.elim (F1.lenG vs H Q E) (F2.lenG vs H Q E), λ B out t H args bs us vs Q E a b c d e f h => h.elim (F1.runG B out t H args bs us vs Q E a b c d e f) (F2.runG B out t H args bs us vs Q E a b c d e f)⟩
section
variable {K : Fr} {H : Hp} {v w : V} {Q : VK} {Rs : List Res} {σ : L2.St} {α β : Type}
end
section
variable {κ α : Type} [DecidableEq κ] {K : Fr} {ik : κ -> Key} {e : α -> PyData} {m : List (κ × α)} {Rs : List Res} {H : Hp} {Q : VK} {σ : L2.St} {p : Addr}
theorem v_getA [DecidableEq α] {a : Addr} {k : κ} {y w : V} {d : α} (inj : ∀ a b, ik a = ik b -> a = b) (hy : y = kV (ik k)) (S : M (da K w (e d) :: Rs) H) (D : DVs K Rs H ik e (.ref a) m) (kk : ∀ u, M (da K u (e ((lk m k).getD d)) :: Rs) H -> Q u H) : GetA a y w Q H := by
 subst hy
 obtain ⟨o, h1, ⟨z, rfl⟩ | ⟨x, u, z, rfl, S2⟩⟩ := D.get (k := k) inj
 · refine ⟨none, h1, kk w ?_⟩
   rw [z]
   exact S
 · refine ⟨some u, h1, kk u ?_⟩
   rw [z]
   exact S2
end
end RC

namespace RC
open PySem PySem.Spec PyProof.Rows L2
section
variable {X : Cx}
end
section
variable {α : Type} {K : Fr} {e : α -> PyData} {m : List (Int × α)} {Rs : List Res} {H : Hp} {Q : VK} {p : Addr}
end
section
variable {α : Type} {K : Fr} {Rs : List Res} {H : Hp} {Q : VK} {v w : V} {p : Addr} {e : α -> PyData}
end
end RC

namespace RC
open PySem PySem.Spec PyProof.Rows L2
section
variable {K : Fr} {κ α β : Type} {ik : κ -> Key} {A : V -> α -> Res} {e : α -> PyData} {Rs : List Res} {H : Hp} {p : Addr} {m : List (κ × α)} {σ : L2.St} {od : Obj} {kvs : List (Key × V)} {Q : VK}
end
end RC

namespace RC
open PySem PySem.Spec PyProof.Rows L2
section
variable {K : Fr} {α : Type} {A : V -> α -> Res} {Rs : List Res} {H : Hp} {p : Addr} {Q : VK}
variable {vs : List V} {xs : List α} {n m : Nat} {u1 u2 : V} {x1 x2 y1 y2 : α}
end
section
open PySem.SeqAt PySem.AutoSeq1 PySem.MeetsSeq PySem.MeetsSeq2 PySem.MeetsSeq3
end
section
variable {K : Fr} {α : Type} {e : α -> PyData} {Rs : List Res} {H : Hp} {p : Addr} {Q : VK} {om : List (Str × List Int)}
end
section
variable {w : World} {K : Fr} {α κ : Type} {Rs : List Res} {H : Hp} {Q : VK} {σ : L2.St} {p q : Addr} {od : Obj} {kvs : List (Key × V)} {ik : κ -> Key} {m : List (κ × α)} {D : Addr} {L : List Key} {acc : List Int} {β : Type} {eb : β -> PyData} {svb : β -> V} {ys : List β}
end
section
variable {K : Fr} {κ α : Type} {ik : κ -> Key} {e : α -> PyData} {Rs : List Res} {H : Hp} {p b : Addr} {m m2 : List (κ × α)} {Q : VK}
end
end RC

namespace RC
open PySem PySem.Spec PyProof.Rows L2
section
variable {K : Fr} {H : Hp} {Q : VK} {Rs : List Res} {p : Addr}
end
end RC

namespace RC
open PySem PySem.Spec PyProof.Rows L2
def ForUG (G : Hp -> Prop) (g : TG) (tb : TS) (D : Ends) : List V -> L2.St -> Hp -> Prop
 | [], σ, H => G H /\ D.nx σ H
 | v :: r, σ, H => G H /\ g v σ H λ σ2 H2 => tb { D with nx := λ σ' H' => ForUG G g tb D r σ' H', ct := λ σ' H' => ForUG G g tb D r σ' H', bk := D.nx } σ2 H2
theorem ForUG.g {G : Hp -> Prop} {g : TG} {tb : TS} {D : Ends} : ∀ {vs : List V} {σ : L2.St} {H : Hp}, ForUG G g tb D vs σ H -> G H
 | [], _, _, h => h.1
 | _ :: _, _, _, h => h.1
def LcU (G : Hp -> Prop) (g : TG) (tt : TT) (te : TE) (ws : List Nat) (σ : L2.St) (E : Addr) (Z : Hp -> Prop) : List V -> Hp -> Prop
 | [], H => G H /\ Z H
 | v :: r, H => G H /\ g v (wipe σ ws) H λ σ2 H2 => wipe σ2 ws = wipe σ ws /\ tt σ2 H2 λ b H3 => if b = true then te σ2 H3 (LcK (λ H4 => LcU G g tt te ws σ E Z r H4) E) else LcU G g tt te ws σ E Z r H3
theorem LcU.g {G : Hp -> Prop} {g : TG} {tt : TT} {te : TE} {ws : List Nat} {σ : L2.St} {E : Addr} {Z : Hp -> Prop} : ∀ {vs : List V} {H : Hp}, LcU G g tt te ws σ E Z vs H -> G H
 | [], _, h => h.1
 | _ :: _, _, h => h.1
def ItT (K : Fr) (R : It -> Hp -> Prop) : VK := λ x H1 => ∃ a, x = .ref a /\ (∃ xs, SqT K H1 a xs) /\ R (Itt K a) H1
theorem g_iTup {K : Fr} {tl : TE} {σ : L2.St} {H : Hp} {R : It -> Hp -> Prop} (k : tl σ H (ItT K R)) : iTup K tl σ H R := k
theorem v_itT {K : Fr} {a : Addr} {xs : List V} {H : Hp} {R : It -> Hp -> Prop} (h : SqT K H a xs) (k : R (Itt K a) H) : ItT K R (.ref a) H := ⟨a, rfl, ⟨xs, h⟩, k⟩
section
variable {K : Fr} {a : Addr} {vs : List V} {g : TG} {tt : TT} {te : TE} {ws : List Nat} {σ : L2.St} {Q : VK} {H : Hp}
end
section
variable {α : Type} {A : V -> α -> Res} {p : Addr} {x y z : α} {xs : List α} {Rs : List Res} {H : Hp}
end
end RC
namespace RC
open PySem PySem.Spec PyProof.Rows L2
end RC

namespace RC
open PySem PySem.Spec PyProof.Rows L2
section
variable {X : Cx} {pins : List (Addr × Obj)} {σ : L2.St} {H : Hp} {s : Shared}
end
section
variable {α : Type} {A : V -> α -> Res} {p : Addr} {x y : α} {Rs : List Res} {H : Hp}
end
end RC

namespace RC
open PySem PySem.Spec PyProof.Rows L2
section
variable {X : Cx}
end
section
variable {α : Type} {K : Fr} {e : α -> PyData} {m : List (Int × α)} {Rs : List Res} {H : Hp} {Q : VK} {v : V}
end
end RC

namespace RC
open PySem PySem.Spec PyProof.Rows L2
section
variable {α β γ : Type} {e : α -> PyData} {sv : α -> V} {K : Fr} {σ : L2.St} {H : Hp} {Q : VK} {D : Ends} {Rs : List Res} {v w : V} {xs ys : List α} {p : Addr}
end
section
variable {K : Fr} {Rs : List Res} {H : Hp} {v : V} {vs : List V}
end
end RC

namespace RC
open PySem PySem.Spec PyProof.Rows L2
section
variable {K : Fr} {Rs : List Res} {H : Hp} {Q : VK} {p : Addr} {xs : List Str} {x : Str}
end
end RC

namespace RC
open PySem PySem.Spec PyProof.Rows L2
section
variable {Rs : List Res} {H : Hp} {K : Fr} {κ α : Type} [DecidableEq κ] [DecidableEq α] {ik : κ -> Key} {e : α -> PyData} {m : List (κ × Option α)} {Q : VK}
end
section
variable {K : Fr} {α : Type} {A : V -> α -> Res} {Rs : List Res} {H : Hp} {p : Addr}
end
section
variable {σ : L2.St} {H : Hp} {D : Ends} {ta : TA} {R : It -> Hp -> Prop}
end
end RC

namespace RC
open PySem PySem.Spec PyProof.Rows L2
section
variable {K : Fr} {Rs : List Res} {H : Hp} {v u u1 u2 : V} {vs : List V} {p q : Addr} {d d1 d2 : PyData} {l : List OD} {xs : List Int}
end
section
variable {K : Fr} {H : Hp} {Q : VK} {Rs : List Res} {p : Addr}
end
end RC

namespace RC
open PySem PySem.Spec PyProof.Rows L2
section
variable {K : Fr} {α : Type} {f : α -> V} {Rs : List Res} {H : Hp} {Q : VK} {p q : Addr} {m : List ((Int × Int) × α)} {x : Int × Int} {σ : L2.St}
end
end RC

namespace RC
open PySem PySem.Spec PyProof.Rows L2
section
variable {X : Cx}
end
end RC

namespace RC
open PySem PySem.Spec PyProof.Rows L2
@[reducible] def teKT (K : Fr) (i : Nat) (tf : TE) : TE := tOp (uAdd K) (tVar i) (tTup (tCons (tOp rIxK tf (tVar i)) tNil))
section
variable {K : Fr} {Rs : List Res} {σ : L2.St} {E a p : Addr} {m : List ((Int × Int) × Int)} {i : Nat} {tf : TE} {ws : List Nat} {Z : Hp -> Prop} {k : Addr -> Int × Int} {all : List V}
end
end RC
namespace RC
open PySem PySem.Spec PyProof.Rows L2
section
variable {K : Fr} {Rs : List Res} {H : Hp} {Q : VK} {σ : L2.St} {p : Addr} {m : List ((Int × Int) × Int)} {i : Nat} {tf : TE} {ws : List Nat}
end
end RC
namespace RC
open PySem PySem.Spec PyProof.Rows L2
section
variable {β : Type} {K : Fr} {Rs : List Res} {σ : L2.St} {H : Hp} {Q : VK} {ws : List Nat}
end
end RC
namespace RC
open PySem PySem.Spec PyProof.Rows L2
end RC
namespace RC
open PySem PySem.Spec PyProof.Rows L2
end RC

namespace RC
open PySem PySem.Spec PyProof.Rows L2
section
variable {X : Cx}
end
end RC
namespace RC
open PySem PySem.Spec PyProof.Rows L2
section
variable {K : Fr} {Rs : List Res} {H : Hp} {Q : VK} {p : Addr}
end
end RC
namespace RC
open PySem PySem.Spec PyProof.Rows L2
section
variable {α β : Type} {K : Fr} {Rs : List Res} {σ : L2.St} {H : Hp} {Q : VK} {p : Addr} {vs : List V} {xs : List α}
end
end RC

namespace RC
open PySem PySem.Spec PyProof.Rows L2
section
variable {K : Fr} {H : Hp} {Q : VK} {v : V}
end
end RC

namespace RC
open PySem PySem.Spec PyProof.Rows L2
section
variable {K : Fr} {Rs : List Res} {H : Hp} {Q : VK} {σ : L2.St}
end
end RC

namespace RC
open PySem PySem.Spec PyProof.Rows L2
end RC

namespace RC
open PySem PySem.Spec PyProof.Rows L2
section
variable {g : TG} {tt : TT} {te : TE} {ws : List Nat} {σ : L2.St} {Q : VK} {H : Hp} {n : Nat}
end
section
variable {K : Fr} {H : Hp} {Q : VK} {v : V}
end
end RC

namespace RC
open PySem PySem.Spec PyProof.Rows L2
section
variable {X : Cx}
end
section
variable {K : Fr} {H : Hp} {Q : VK} {v w : V}
end
end RC

namespace RC
open PySem PySem.Spec PyProof.Rows L2 PySem.SeqAt
section
variable {M : Model} {prog : Program} {w : World} {A : Around} {E : Value -> Shared -> Prop} {s : Shared} {K : Fr} {x C L f : Addr} {ox : Obj} {od : Option Obj} {h₀ : Heap} {m : Str -> Option Value} {b tb : Value}
theorem ifBound_objNe {args : List Value} {Q : Option Value -> Shared -> Prop} (X : K.In s.heap) (I : PySem.W.InstAt s.heap x ox C od) (hs : PySem.W.findIn K (.ref C) "__ne__" = some (some (.builtin "object.__ne__")))
   (h : wpAny M A (call (.builtin "object.__ne__") (.ref x :: args)) (λ v => Q (some v)) E s) : wpAny M A (callSpecialIfBound? (.ref x) "__ne__" args) Q E s := by
 simp only [callSpecialIfBound?, bindSpecialIfBound?]
 refine wpAny_holding (wpAny_bind (wpAny_bind (wpAny_bind (I.type.here ((PySem.W.looks_findIn X hs).here ?_)))))
 refine wpAny_bind (wpAny_askSetting (wpAny_ite ?_))
 have fin : wpAny M A (call (.builtin "object.__ne__") ([.ref x] ++ args) >>= λ v => pure (some v)) Q E s := wpAny_bind (wpAny_mono h (λ v s' h' => wpAny_pure h') λ _ _ h' => h')
 split
 · exact wpAny_bind (wpAny_of_eq (F.cmp_object.ne.bind _) (wpAny_pure (by exact fin)))
 · exact wpAny_tryCatch (wpAny_bind (wpAny_of_eq (F.cmp_object.ne.bind _) (wpAny_pure (by exact fin))))
theorem call_objNe {Q : Value -> Shared -> Prop} (hu : A.units + 1 < cLine) (X : K.In s.heap) (I : PySem.W.InstAt s.heap x ox C od) (hm : PySem.W.mroIn K C (.type "object") = some true)
   (hs : PySem.W.findIn K (.ref C) "__eq__" = some (some (.ref f))) (hf : PySem.W.isFn K (.ref f) = true)
   (h : wpAny (model prog w) A.in1 (call (.ref f) [.ref x, b]) (λ v s' => ∃ r : Bool, v = .bool r /\ Q (.bool (!r)) s') E s) :
   wpAny (model prog w) A (call (.builtin "object.__ne__") [.ref x, b]) Q E s := by
 refine wpAny_call (codeAny_call_builtin F.cmp_object.ne.plain F.cmpEntry_ne (PySem.W.check_slot F.cmpKind_ne F.cmpSplit_ne (I.type.andThen (PySem.W.looks_mroIn X hm)) (F.cmpArgs_ne _ _) ?_))
 unfold Builtin.«object.__ne__»
 have hu1 : A.in1.units < cLine := hu
 have go : wpAny (model prog w) A.in1 (callSpecialIfBound? (.ref x) "__eq__" [b]) (λ o s' => ∃ r : Bool, o = some (.bool r) /\ Q (.bool (!r)) s') E s :=
   PySem.W.ifBound_K X I hs hf (wpAny_mono h (λ v s' z => by obtain ⟨r, e, q⟩ := z; exact ⟨r, by rw [e], q⟩) λ _ _ z => z)
 have last : ∀ (r : Bool) (s' : Shared), Q (.bool (!r)) s' -> wpAny (model prog w) A.in1 (do
     let d <- truthy (.bool r)
     ret (.bool !d)) (λ fin s' => ∃ v, fin = .done (.ret v) /\ Q v s') E s' := λ r s' q => by
   repeat wp_step
   exact ⟨_, rfl, q⟩
 refine wpAny_mono (Q := λ fin s' => ∃ v, fin = .done (.ret v) /\ Q v s') (E := E) ?_ (λ fin s' z => by obtain ⟨v, rfl, q⟩ := z; exact q) (λ _ _ z => z)
 repeat (first | with_reducible refine wpAny_cRoomFor hu1 ?_ | with_reducible refine wpAny_mono go ?_ (λ _ _ z => z) | wp_step)
 rintro o s' ⟨r, rfl, q⟩
 exact last r s' q
theorem cmpNe_K {Q : Value -> Shared -> Prop} (hu : A.units + 1 < cLine) (F : PyProof.Rows.Fr h₀ L s.heap m) (X₀ : K.In h₀) (I : PySem.W.InstAt s.heap x ox C od) (hb : PySem.W.Looks (model prog w) s.heap (typeOf b) tb) (hn : PySem.W.notFirst K C tb = true)
   (hm : PySem.W.mroIn K C (.type "object") = some true) (hne : PySem.W.findIn K (.ref C) "__ne__" = some (some (.builtin "object.__ne__"))) (hs : PySem.W.findIn K (.ref C) "__eq__" = some (some (.ref f))) (hf : PySem.W.isFn K (.ref f) = true)
   (h : wpAny (model prog w) A.in1 (call (.ref f) [.ref x, b]) (λ v s' => ∃ r : Bool, v = .bool r /\ Q (.bool (!r)) s') E s) : wpAny (model prog w) A (richCompare .NotEq (.ref x) b) Q E s := by
 have X := X₀.keeps F.keep
 have one : wpAny (model prog w) A (tryCompare (.ref x) (cmpInfo .NotEq).2.1 b) (λ r s' => ∃ v, r = some v /\ Q v s') E s := by
   unfold tryCompare
   refine wpAny_bind (ifBound_objNe X I hne ?_)
   have c1 : wpAny (model prog w) A (call (.builtin "object.__ne__") [.ref x, b]) (λ v s' => ∃ r : Bool, v = .bool r /\ Q v s') E s :=
     call_objNe (Q := λ v s' => ∃ r : Bool, v = .bool r /\ Q v s') hu X I hm hs hf (wpAny_mono h (λ v s' z => by obtain ⟨r, e, q⟩ := z; exact ⟨r, e, !r, rfl, q⟩) λ _ _ e => e)
   refine wpAny_mono c1 (λ v s' z => ?_) λ _ _ e => e
   obtain ⟨r, e, q⟩ := z
   subst e
   exact wpAny_pure ⟨_, rfl, q⟩
 unfold richCompare
 simp only [oneThing_ref]
 refine wpAny_holding (wpAny_bind (wpAny_cRoomFor (Nat.lt_of_succ_lt hu) ?_))
 refine wpAny_bind (I.type.here (wpAny_bind (hb.here ?_)))
 split
 · rename_i q
   have e : PySem.W.subIn K tb (.ref C) = some false := by
     rcases Bool.or_eq_true_iff.mp hn with e | e
     · rw [beq_iff_eq.mp e] at q; simp at q
     · exact beq_iff_eq.mp e
   refine wpAny_bind ((PySem.W.looks_subIn X e).here ?_)
   simp only [Bool.false_eq_true, if_false]
   refine wpAny_bind (wpAny_mono one (λ r s' z => ?_) λ _ _ e => e)
   obtain ⟨v, rfl, hq⟩ := z
   exact wpAny_pure hq
 · refine wpAny_bind (wpAny_pure ?_)
   simp only [Bool.false_eq_true, if_false]
   refine wpAny_bind (wpAny_mono one (λ r s' z => ?_) λ _ _ e => e)
   obtain ⟨v, rfl, hq⟩ := z
   exact wpAny_pure hq
end
theorem sub_bt {K : Fr} {C : Addr} : ∀ n ∈ ["NoneType", "bool", "int", "str", "list", "tuple", "dict"], PySem.W.subIn K (.type n) (.ref C) = some false := by
 have go : ∀ (n : String) (ts : List String), fastBuiltinMro n = some (ts.map Value.type) -> PySem.W.subIn K (.type n) (.ref C) = some false := λ n ts e => by
   show (fastBuiltinMro n).map (·.contains (.ref C)) = some false
   rw [e]
   show some ((ts.map Value.type).contains (.ref C)) = some false
   congr 1
   induction ts with
   | nil => rfl
   | cons t ts ih => simp
 intro n hn
 simp only [List.mem_cons, List.not_mem_nil, or_false] at hn
 rcases hn with rfl | rfl | rfl | rfl | rfl | rfl | rfl
 · exact go _ ["NoneType", "object"] (by decide +kernel)
 · exact go _ ["bool", "int", "object"] (by decide +kernel)
 · exact go _ ["int", "object"] (by decide +kernel)
 · exact go _ ["str", "object"] (by decide +kernel)
 · exact go _ ["list", "object"] (by decide +kernel)
 · exact go _ ["tuple", "object"] (by decide +kernel)
 · exact go _ ["dict", "object"] (by decide +kernel)
theorem looks_dn {X : Cx} {pins : List (Addr × Obj)} {σ : L2.St} {H : Hp} {s : Shared} {y : V} {u : Value} {d : PyData} (I : Inv X pins σ H s) (r : RelV y u) (h : Dn X.K H y d) :
   ∃ n ∈ ["NoneType", "bool", "int", "str", "list", "tuple", "dict"], ∀ M, PySem.W.Looks M s.heap (typeOf u) (.type n) := by
 refine ⟨tyN d, by cases d <;> simp [tyN], λ M => ?_⟩
 rcases h.ty with z | ⟨a, kvs, rfl, hr, e⟩
 · obtain ⟨P, Z, p, _⟩ := kit_of I r z
   exact Z.ty M _ I.kIn p
 · cases (show u = Value.ref a from r)
   obtain ⟨_, _, vs, _, o, es, ep, h1, h2, _⟩ := dk_rd I.hok hr
   rw [e]
   exact PySem.W.kitx_dict.ty M _ I.kIn ⟨o, h1, h2.1⟩
def rCmD (K : Fr) (neg : Bool) (C : Addr) (sp : Sp) : R2 := λ x y H Q => ∃ a d dx fs, x = .ref a /\ H a = some (.ins C dx fs) /\ Dn K H y d /\ sp [.ref a, y] H (λ v H' => ∃ r : Bool, v = .bl r /\ Q (.bl (if neg then !r else r)) H') (λ _ _ _ => False)
theorem op_eqD {X : Cx} {g : Bool} {k : Nat} {C f : Addr} {fd : FuncData} {ps : List Str} {sp : Sp} (hm : Meth X.K C "__eq__" f) (F : FnX g X.prog X.w X.K X.mg X.base CX0 k f fd ps sp) (hgu : g = true -> X.A.guards = some []) (hr : Room k X.A) (hb : Binds X.K fd ps []) : OpR X (compareOp .Eq) (rCmD X.K false C sp) := by
 intro pins s σ H x y v u Q I rx ry hq
 obtain ⟨a, d, dx, fs, rfl, ha, hd, hq⟩ := hq
 cases rx
 obtain ⟨mA, J, _⟩ := ins_get I.hok ha
 obtain ⟨od, J, _⟩ := J.look
 obtain ⟨m, hF⟩ := I.fr
 obtain ⟨n, hn, hl⟩ := looks_dn I ry hd
 show wpAny (model X.prog X.w) X.A (richCompare .Eq (.ref a) u) (EP X pins σ Q) X.xe s
 refine PySem.W.cmp_K (op := .Eq) (tb := .type n) hr.units0 hF I.ok.mod.kin J (hl _) (by unfold PySem.W.notFirst; rw [sub_bt n hn]; simp) hm.at_ hm.fn ?_
 refine wpAny_mono (runW (us := [.ref a, u]) (vs := [.ref a, y]) F hgu hr hb .nil pas0 I (.cons rfl (.cons ry .nil)) hq) (λ w s' z => ?_) λ _ _ x => x
 obtain ⟨y, H', I', ry, r, rfl, q⟩ := z
 cases ry
 exact ⟨.bl r, H', I', rfl, q⟩
theorem op_neD {X : Cx} {g : Bool} {k : Nat} {C f : Addr} {fd : FuncData} {ps : List Str} {sp : Sp} (hm : Meth X.K C "__eq__" f) (hmr : PySem.W.mroIn X.K C (.type "object") = some true)
   (hne : PySem.W.findIn X.K (.ref C) "__ne__" = some (some (.builtin "object.__ne__"))) (F : FnX g X.prog X.w X.K X.mg X.base CX0 k f fd ps sp) (hgu : g = true -> X.A.guards = some []) (hr : Room (k + 1) X.A) (hb : Binds X.K fd ps []) : OpR X (compareOp .NotEq) (rCmD X.K true C sp) := by
 intro pins s σ H x y v u Q I rx ry hq
 obtain ⟨a, d, dx, fs, rfl, ha, hd, hq⟩ := hq
 cases rx
 obtain ⟨mA, J, _⟩ := ins_get I.hok ha
 obtain ⟨od, J, _⟩ := J.look
 obtain ⟨m, hF⟩ := I.fr
 obtain ⟨n, hn, hl⟩ := looks_dn I ry hd
 show wpAny (model X.prog X.w) X.A (richCompare .NotEq (.ref a) u) (EP X pins σ Q) X.xe s
 refine cmpNe_K (tb := .type n) (by have := hr.units; omega) hF I.ok.mod.kin J (hl _) (by unfold PySem.W.notFirst; rw [sub_bt n hn]; simp) hmr hne hm.at_ hm.fn ?_
 have e0 : Env0 X.prog X.w X.K X.mg X.base X.A.in1 X.stack s H := by
   have e := I.env0
   exact ⟨e.frames, e.mod, e.bs, e.bsz, e.funs, e.frf, e.hok, e.bare⟩
 have hl := F.lenG _ _ _ _ hq
 have go := F.runG X.A.in1 X.stack s _ ⟨[.ref a, u], []⟩ _ [.ref a, u] [.ref a, y] _ _ hgu hr.in1 e0 (by simpa using hb s [.ref a, u] I.kIn (by simpa using hl)) (.refl _) (.cons rfl (.cons ry .nil)) hq
 refine wpAny_call (codeAny_mono go λ res s' z => ?_)
 match res, z with
 | .error e, z => exact z.elim
 | .ok (.ret u), z =>
   obtain ⟨y, H', I', ry, r, rfl, q⟩ := I.after z
   cases ry
   exact ⟨r, rfl, .bl (!r), H', I', rfl, q⟩
 | .ok .next, z => cases z
 | .ok .brk, z => cases z
 | .ok .cont, z => cases z
end RC

namespace RC
open PySem PySem.Spec PyProof.Rows L2
section
variable {σ : L2.St} {H : Hp} {Q : VK} {R : Str -> Hp -> Prop} {t : TE} {ts : List TE} {acc y : Str} {i : Int}
end
end RC

namespace RC
open PySem PySem.Spec PyProof.Rows L2
end RC

namespace RC
open PySem PySem.Spec PyProof.Rows L2 HT
section
variable {prog : Program} {w : World} {A : Around} {E : Value -> Shared -> Prop} {s : Shared}
end
section
variable {α : Type} {K : Fr} {Rs : List Res} {H : Hp} {σ : L2.St} {Q : VK} {v : V} {e : α -> PyData} {xs : List α} {te : TE}
end
end RC

namespace RC
open PySem PySem.Spec PyProof.Rows L2
open PyProof.Rows.KTD (TabOf Rows datumAt tabLook tab_of_look kt_dictFind_strs)
section
variable {X : Cx}
def rEqT0 (K : Fr) : R2 := λ x y H Q => ∃ a b xs, x = .ref a /\ y = .ref b /\ SqT K H a xs /\ SqT K H b [] /\ Q (.bl xs.isEmpty) H
theorem op_eqT0 (hu : X.A.units + 128 < cLine) : OpR X (compareOp .Eq) (rEqT0 X.K) := by
 intro pins s σ H x y v u Q I rx ry h
 obtain ⟨a, b, xs, rfl, rfl, ha, hb, q⟩ := h
 obtain rfl : v = Value.ref a := rx
 obtain rfl : u = Value.ref b := ry
 obtain ⟨us, r1, p1, _⟩ := I.tuple ha
 obtain ⟨ws, r2, p2, _⟩ := I.tuple hb
 cases r2
 refine rcP_tups p1 p2 (by omega) (e := λ _ => true) (λ k k1 k2 => absurd k2 (by simp)) _ _ ⟨.bl xs.isEmpty, H, I, ?_, q⟩
 have e1 : xs.isEmpty = us.isEmpty := by
   cases r1 <;> rfl
 have e2 : ((List.range (min us.toArray.size ([] : List Value).toArray.size)).all (λ _ => true) && us.toArray.size == ([] : List Value).toArray.size) = us.isEmpty := by
   cases us <;> simp
 rw [e1, e2]
 rfl
def uEqT0 (K : Fr) : R2 := λ x y H Q => uEqQ K x y H Q \/ rEqT0 K x y H Q
theorem uo_eqT0 (hu : X.A.units + 128 < cLine) : OpR X (compareOp .Eq) (uEqT0 X.K) := (uo_eqQ hu).or (op_eqT0 hu)
theorem v_eqT0 {K : Fr} {H : Hp} {Q : VK} {v w : V} {α : Type} {e : α -> PyData} {xs : List α} (h1 : Dq K H v (eV e xs)) (h2 : Dq K H w (.tuple [])) (k : Q (.bl xs.isEmpty) H) : uEqT0 K v w H Q := by
 unfold eV at h1
 cases h1 with
 | tup h q =>
   cases h2 with
   | tup h' q' =>
     cases q'
     refine .inr ⟨_, _, _, rfl, rfl, h, h', ?_⟩
     cases xs with
     | nil => cases q; exact k
     | cons x xs => cases q; exact k
end
def GTab {δ : Type} (K : Fr) (R : δ -> V -> Prop) (a : Addr) (D : List (Str × δ)) : Prop := ∀ h : Heap, K.In h -> TabOf (λ d u => ∃ v, RelV v u /\ R d v) h a D
section
variable {δ : Type} {K : Fr} {R : δ -> V -> Prop} {x : Str} {D : List (Str × δ)}
theorem gtab_ok {L : δ -> Value -> Bool} (hL : ∀ d u, L d u = true -> ∃ v, RelV v u /\ R d v) (h : gtabB K x L D = true) : GTab K R (He.ga K x) D := λ _ hk => tab_of_look hL hk h
def gTxts (K : Fr) (ss : List Str) (v : V) : Prop := ∃ b, v = .ref b /\ ∀ H, SqT K H b (ss.map V.str)
theorem lTxts_ok (ss : List Str) (u : Value) (h : lTxts K ss u = true) : ∃ v, RelV v u /\ gTxts K ss v := by
 cases u with
 | ref b =>
   have h : (match K.lookup b with
     | some ⟨.type c, _, .seq its _, _⟩ => decide (c = "tuple") && (decide (its.size <= sizeLine) && He.relAll (ss.map V.str) its.toList)
     | _ => false) = true := h
   cases q : K.lookup b with
   | none => rw [q] at h; cases h
   | some o =>
     obtain ⟨oc, od, dt, osl⟩ := o
     rw [q] at h
     cases oc with
     | type c =>
       cases dt with
       | seq its n =>
         simp only [Bool.and_eq_true, decide_eq_true_eq] at h
         obtain ⟨h1, h2, h3⟩ := h
         exact ⟨.ref b, rfl, b, rfl, λ H => .inr ⟨_, its, n, q, congrArg Value.type h1, rfl, h2, He.relAll_ok h3⟩⟩
       | _ => cases h
     | _ => cases dt <;> cases h
 | _ => cases h
theorem gtabT_ok {D : List (Str × List Str)} (h : gtabB K x (lTxts K) D = true) : GTab K (gTxts K) (He.ga K x) D := gtab_ok lTxts_ok h
def gFun (K : Fr) (f : Str) (v : V) : Prop := v = .ref (He.ga K f)
theorem lFun_ok (f : Str) (u : Value) (h : lFun K f u = true) : ∃ v, RelV v u /\ gFun K f v := by
 cases u with
 | ref b => exact ⟨.ref b, rfl, congrArg V.ref (Nat.eq_of_beq_eq_true h)⟩
 | _ => cases h
theorem gtabF_ok {D : List (Str × Str)} (h : gtabB K x (lFun K) D = true) : GTab K (gFun K) (He.ga K x) D := gtab_ok lFun_ok h
end
section
variable {prog : Program} {w : World} {A : Around} {E : Value -> Shared -> Prop} {s : Shared} {a : Addr} {δ : Type} {R : δ -> Value -> Prop} {D : List (Str × δ)} {k : Str} {tk : Tok}
theorem gt_typeIs (T : TabOf R s.heap a D) : s.TypeIs (.ref a) "dict" := by
 obtain ⟨_, o, _, _, e, c, _⟩ := T
 exact ⟨o, e, c.1⟩
theorem gt_bare {h : Heap} (T : TabOf R h a D) (b : Addr) (q : Value.ref a = .ref b) : ∃ ob, h.get? b = some ob /\ ob.dict = none := by
 cases q
 obtain ⟨_, o, _, _, e, c, _⟩ := T
 exact ⟨o, e, c.2.1⟩
theorem gt_find {Q : Option Value -> Shared -> Prop} (T : TabOf R s.heap a D) (yes : ∀ d u, datumAt k D = some d -> R d u -> Q (some u) { s with toks := s.toks + 1 }) (no : datumAt k D = none -> Q none { s with toks := s.toks + 1 }) :
   wpAny (model prog w) A (dictGet a (.str k tk)) Q E s := by
 obtain ⟨_, o, es, ep, e1, _, e2, rs⟩ := T
 have all : (es.all λ z => isExactStrKey z.key) = true := by cases es; simpa using rs.exact
 have look : Q (findBy (λ k v => v.isStr k) es k) { s with toks := s.toks + 1 } := by
   rw [show findBy (λ k v => v.isStr k) es k = (es.toList.find? λ z => z.key.isStr k).map (·.val) by cases es; simp [findBy]]
   cases z : datumAt k D with
   | none =>
     rw [rs.find_none z]
     exact no z
   | some d =>
     obtain ⟨u, e3, r⟩ := rs.find_some z
     rw [e3]
     exact yes d u z r
 rw [findBy_of_findIdx?] at look
 unfold dictGet
 try with_reducible refine wpAny_holding ?_
 refine wpAny_bind (wpAny_pyHash_str ?_)
 refine wpAny_bind (kt_dictFind_strs (s := { s with toks := s.toks + 1 }) e1 e2 all ?_)
 cases z : es.findIdx? λ y => y.key.isStr k with
 | none =>
   rw [z] at look
   exact wpAny_pure look
 | some i =>
   rw [z] at look
   exact wpAny_bind (wpAny_dictEntries (s := { s with toks := s.toks + 1 }) e1 e2 (wpAny_pure look))
theorem gt_item {Q : Value -> Shared -> Prop} {d : δ} (T : TabOf R s.heap a D) (hd : datumAt k D = some d) (yes : ∀ u, R d u -> Q u { s with toks := s.toks + 1 }) : wpAny (model prog w) A (getItem (.ref a) (.str k tk)) Q E s := by
 unfold getItem
 try with_reducible refine wpAny_holding ?_
 refine wpAny_bind (wpAny_sequenceKey (gt_typeIs T) (by decide) ?_)
 refine wpAny_bind (wpAny_callSpecial?_slot (name := Str.ofString "__getitem__") (gt_typeIs T) PySem.F.slot_dict_getitem (wpAny_call_entry PySem.F.slot_dict_getitem (gt_typeIs T) PySem.F.entry_dict_getitem ?_ (PySem.F.args_dict_getitem_2 _ _)))
 show wpAny _ _ (dictGet a (.str k tk) >>= _) _ _ s
 refine wpAny_bind (gt_find T (λ d' u e r => ?_) λ e => ?_)
 · rw [hd] at e
   cases e
   exact wpAny_pure ⟨u, rfl, wpAny_pure (yes u r)⟩
 · rw [hd] at e
   cases e
theorem gt_meets : MeetsIn prog w (Builtin.«dict.get» ⟨[.ref a, .str k tk], []⟩) (λ _ G s => TabOf R s.heap a D /\ (∀ d u, datumAt k D = some d -> R d u -> G (.ok (.ret u)) { s with toks := s.toks + 1 }) /\ (datumAt k D = none -> G (.ok (.ret .none)) { s with toks := s.toks + 1 })) :=
 .of_wp λ A G s ⟨T, yes, no⟩ => by
   show wpAny _ _ (dictGet a (.str k tk) >>= _) _ _ s
   refine wpAny_bind (gt_find T (λ d u e r => wpAny_pure ⟨u, rfl, yes d u e r⟩) λ e => ?_)
   show wpAny _ _ (Builtin.Dict.missed a (.str k tk) >>= _) _ _ _
   exact wpAny_bind (wpAny_missed_other T.1 (wpAny_pure ⟨.none, rfl, no e⟩))
end
def rIxG {δ : Type} (K : Fr) (R : δ -> V -> Prop) (a : Addr) (D : List (Str × δ)) : R2 := λ x y H Q => x = .ref a /\ ∃ k d, y = .str k /\ datumAt k D = some d /\ ∀ v, R d v -> Q v H
def GetG {δ : Type} (R : δ -> V -> Prop) (D : List (Str × δ)) (Q : VK) : VK := λ y H1 => ∃ k, y = .str k /\ (∀ d v, datumAt k D = some d -> R d v -> Q v H1) /\ (datumAt k D = none -> Q .non H1)
def tGetG {δ : Type} (K : Fr) (R : δ -> V -> Prop) (a : Addr) (D : List (Str × δ)) (ty : TE) : TE := λ σ H Q => ty σ H (GetG R D Q)
theorem g_getG {δ : Type} {K : Fr} {R : δ -> V -> Prop} {a : Addr} {D : List (Str × δ)} {ty : TE} {σ : L2.St} {H : Hp} {Q : VK} (k : ty σ H (GetG R D Q)) : tGetG K R a D ty σ H Q := k
section
variable {X : Cx} {δ : Type} {R : δ -> V -> Prop} {a : Addr} {D : List (Str × δ)} {x : Str} {p apos cpos : Pos} {e : Expr} {ty : TE}
theorem ix_gt (G : GTab X.K R a D) : IxR X (rIxG X.K R a D) := by
 intro value slice pins s σ H x y v u Q I rx ry h hs
 obtain ⟨rfl, k, d, rfl, hd, q⟩ := h
 cases (show v = Value.ref a from rx)
 obtain ⟨tk, rfl⟩ := ry
 have T := G s.heap I.kIn
 exact tail_any (gt_typeIs T) PySem.F.slot_dict_getitem.lookup (gt_item T hd λ u ⟨v, r, q1⟩ => ⟨v, H, I.tok _, r, q v q1⟩) hs
theorem pe_getG (G : GTab X.K R a D) (hg : Gl X x) (hm : X.mg x = some (.ref a)) (he : PE X e ty) (m : M1 X (.Name x p) "get" apos e cpos) (hdb : (x == ("__debug__" : Str)) = false := by decide) : PE X (.Call (.Attribute (.Name x p) "get" apos) [e] [] cpos) (tGetG X.K R a D ty) := by
 refine ⟨λ pins s σ H Q I h => ?_⟩
 refine wpAny_Call_method m.base m.few m.line PySem.F.plainAttrs_dict PySem.F.slot_dict_get PySem.F.type_dict_get (ld_glob I hg hm ?_ hdb)
 have T := G s.heap I.kIn
 refine ⟨gt_typeIs T, gt_bare T, ?_⟩
 rw [m.trees]
 refine Calls.callWith_builtin rfl (Calls.evalArgs_plain (Calls.spliced_cons (thn (he.run pins s σ H _ I h) λ iv s2 ⟨y, H2, I2, ry, k, ey, yes, no⟩ => Calls.spliced_nil ?_)))
 subst ey
 obtain ⟨tk, rfl⟩ := ry
 have T2 := G s2.heap I2.kIn
 refine call_meetsIn PySem.F.slot_dict_get (gt_typeIs T2) PySem.F.entry_dict_get (PySem.F.args_dict_get_2 _ _) (gt_meets (D := D)) ⟨T2, λ d u e ⟨v, r, q1⟩ => ⟨v, H2, I2.tok _, r, yes d v e q1⟩, λ e => ⟨.non, H2, I2.tok _, rfl, no e⟩⟩
end
def tCallV (i : Nat) (fs : Addr -> Sp -> Prop) (E : XK) (t : TA) : TE := λ σ H Q => ∃ f sp, σ[i]? = some (some (.ref f)) /\ fs f sp /\ t σ H λ vs H1 => sp vs H1 Q E
structure CallF (X : Cx) (E : XK) (f : Addr) (sp : Sp) : Prop where
 keep : PySem.W.keepIn X.K (.ref f) = true
 run : ∀ (pins : List (Addr × Obj)) (σ : L2.St) (H : Hp) (s : Shared) (Q : VK) (us : List Value) (vs : List V), Inv X pins σ H s -> Vals vs us -> sp vs H Q E -> wpAny (model X.prog X.w) X.A (call (.ref f) us) (EP X pins σ Q) X.xe s
theorem callF {X : Cx} {g : Bool} {CX : CXT} {k : Nat} {f : Addr} {fd : FuncData} {ps : List Str} {sp : Sp} {E : XK} (F : FnX g X.prog X.w X.K X.mg X.base CX k f fd ps sp) (hgu : g = true -> X.A.guards = some []) (hr : Room k X.A) (hk : PySem.W.keepIn X.K (.ref f) = true) (hb : Binds X.K fd ps []) (hx : Passes CX X E) : CallF X E f sp :=
 ⟨hk, λ pins σ H s Q us vs I r h => runX_fn F hgu hr hb .nil hx I r (by rw [List.append_nil]; exact h)⟩
section
variable {X : Cx}
theorem pe_callV {x : Str} {e : Expr} {i : Nat} {t : TA} {p pos : Pos} {E : XK} {fs : Addr -> Sp -> Prop} (hf : ∀ f sp, fs f sp -> CallF X E f sp) (hN : X.N[i]? = some x) (hv : Vis X.env.scope x) (ha : PA X [e] t)
   (hd : (x == ("__debug__" : Str)) = false := by decide) (hcd : (x == ("__classdict__" : Str)) = false := by decide) (he : starEach [e] X.env = (false, eval e X.env) :: starEach [] X.env := by rfl)
   (hpl : (backTo pos (starEach [] X.env)).any (·.1) = false := by rfl) : PE X (.Call (.Name x p) [e] [] pos) (tCallV i fs E t) := by
 constructor
 intro pins s σ H Q I h
 obtain ⟨f, sp, hs, hm, h⟩ := h
 have C := hf f sp hm
 refine wpAny_Call_Name_kw (thn ((pe_var (pos := p) (i := i) hN hv hd hcd).run pins s σ H (λ v H1 => v = .ref f /\ H1 = H) I ⟨.ref f, hs, rfl, rfl⟩) λ u s1 ⟨v, H1, I1, r1, q1⟩ => ?_)
 obtain ⟨ev, eH⟩ := q1
 subst ev
 rw [eH] at I1
 obtain rfl : u = Value.ref f := r1
 have body := thn (ha.run pos pins s1 σ H _ I1 h) (Q' := λ us s2 => X.K.In s2.heap /\ wpAny (model X.prog X.w) X.A (call (.ref f) us) (EP X pins σ Q) X.xe s2)
   λ us s2 ⟨vs, H2, I2, r2, q2⟩ => ⟨I2.kIn, C.run pins σ H2 s2 Q us vs I2 r2 q2⟩
 exact PySem.W.callWith_K (h₀ := X.base) I.ok.mod.kin C.keep body he hpl
end
theorem lk_datum {α : Type} (k : Str) : ∀ m : List (Str × α), datumAt k m = lk m k
 | [] => rfl
 | (x, d) :: m => by
   show (if decide (k = x) = true then some d else datumAt k m) = _
   rw [lk_datum k m]
   unfold lk
   by_cases h : k = x
   · subst h
     simp
   · have : ¬ x = k := λ z => h z.symm
     simp [h, this]
section
variable {K : Fr} {Rs : List Res} {H : Hp} {Q : VK} {a : Addr}
theorem gTxts_dq {ss : List Str} {v : V} (h : gTxts K ss v) (H : Hp) : Dq K H v (eV eS ss) := by
 obtain ⟨b, rfl, hb⟩ := h
 exact .tup (hb H) (dqAll_strs ss)
theorem v_ixGF {D : List (Str × Str)} {k n : Str} (h : lk D k = some n) (q : Q (.ref (He.ga K n)) H) : rIxG K (gFun K) a D (.ref a) (.str k) H Q := ⟨rfl, k, n, rfl, (lk_datum k D).trans h, λ v r => by
 rw [show v = V.ref (He.ga K n) from r]
 exact q⟩
theorem v_ixGT {D : List (Str × List Str)} {k : Str} {n : List Str} (S : M Rs H) (h : lk D k = some n) (q : ∀ u, M (da K u (eV eS n) :: Rs) H -> Q u H) : rIxG K (gTxts K) a D (.ref a) (.str k) H Q := ⟨rfl, k, n, rfl, (lk_datum k D).trans h, λ v r => q v (S.addA λ F _ _ => gTxts_dq r F)⟩
theorem v_getGT {D : List (Str × List Str)} {k : Str} (S : M Rs H) (q : ∀ u, M (da K u (eO (eV eS) (lk D k)) :: Rs) H -> Q u H) : GetG (gTxts K) D Q (.str k) H := by
 refine ⟨k, rfl, λ d v e r => q v ?_, λ e => q .non ?_⟩
 · rw [lk_datum] at e
   rw [e]
   exact S.addA λ F _ _ => gTxts_dq r F
 · rw [lk_datum] at e
   rw [e]
   exact S.addA λ _ _ _ => .non
theorem v_star1t {v : V} {σ : L2.St} {t : TGs} {d0 : PyData} {r : List PyData} {QQ : L2.St -> Hp -> Prop} (S : M Rs H) (i : Nat) (hi : Rs[i]? = some (da K v (.tuple (d0 :: r)))) (k : ∀ u0 p H', M (acR K p r :: da K u0 d0 :: Rs) H' -> t [u0, .ref p] σ H' QQ) : gStar K 1 t v σ H QQ := by
 obtain ⟨F, L, s, m⟩ := S
 cases EnF.at i hi F L s with
 | tup h q =>
   cases q with
   | @cons u0 rest _ _ a q =>
     refine ⟨_, _, rfl, .inl (m.ex.sqT h), by simp, λ p hp => ?_⟩
     have S1 : M (da K u0 d0 :: daA K rest r :: Rs) H := ⟨F, L, ⟨[], L, rfl, ⟨rfl, a⟩, [], L, rfl, ⟨rfl, q⟩, s⟩, m⟩
     have S3 : M (acR K p r :: da K u0 d0 :: daA K rest r :: Rs) _ := (S1.new (o := .lst rest) hp).own λ F L s => by
       obtain ⟨l, h⟩ := s.get 1 rfl
       exact h.2
     exact k _ p _ (M.sub (.cons 0 rfl (.cons 0 rfl (.tl (.refl _)))) S3)
end
theorem v_itTe {K : Fr} {a : Addr} {xs : List V} {v : V} {H : Hp} {R : It -> Hp -> Prop} (e : v = .ref a) (h : SqT K H a xs) (k : R (Itt K a) H) : ItT K R v H := by
 subst e
 exact v_itT h k
end RC

namespace RC
open PySem PySem.Spec PyProof.Rows L2
def strI (i : Int) : Str := toString i
def strA : PyData -> Option Str
 | .int i => if i.natAbs.log2 < 1920 then some (strI i) else none
 | .str s => some s
 | _ => none
def rStrA : List V -> Hp -> VK -> Prop := λ xs H Q => (∃ i, xs = [.int i] /\ i.natAbs.log2 < 1920 /\ Q (.str (toString i)) H) \/ ∃ a, xs = [.str a] /\ Q (.str a) H
theorem cr_strA {X : Cx} : CallR X (.type "str") rStrA := by
 intro pins s σ H xs us Q I r h
 rcases h with h | h
 · exact call_str_int pins s σ H xs us Q I r h
 · exact SkE.call_str_str pins s σ H xs us Q I r h
def hexC (c : Nat) : Bool := decide ((48 <= c /\ c <= 57) \/ (97 <= c /\ c <= 102))
def hexT (s : Str) : Option Int := if s.cps.toList ≠ [] /\ s.cps.toList.length <= 640 /\ s.cps.toList.all hexC = true then some ((Hx.hexNum s.cps.toList : Nat) : Int) else none
def intT (s : Str) : Option Int := if s.cps.all (· < 128) = true /\ s.length <= 100000 then PySem.intText? s else none
section
variable {K : Fr} {Rs : List Res} {H : Hp} {Q : VK} {v : V}
theorem v_strI {i : Int} (h : i.natAbs.log2 < 1920) (k : Q (.str (strI i)) H) : rStrA [.int i] H Q := .inl ⟨i, rfl, h, k⟩
theorem v_strS {s : Str} (k : Q (.str s) H) : rStrA [.str s] H Q := .inr ⟨s, rfl, k⟩
theorem v_strA {d : PyData} {s : Str} (h : Dq K H v d) (e : strA d = some s) (k : Q (.str s) H) : rStrA [v] H Q := by
 have q : (∃ i, d = .int i /\ i.natAbs.log2 < 1920 /\ s = strI i) \/ d = .str s := by
   cases d with
   | int i =>
     by_cases z : i.natAbs.log2 < 1920
     · simp only [strA, if_pos z] at e
       exact .inl ⟨i, rfl, z, (Option.some.inj e).symm⟩
     · simp only [strA, if_neg z] at e
       cases e
   | str x =>
     simp only [strA] at e
     exact .inr (congrArg PyData.str (Option.some.inj e))
   | _ => cases e
 rcases q with ⟨i, rfl, z, rfl⟩ | rfl
 · cases h with
   | int _ => exact v_strI z k
 · cases h with
   | str _ => exact v_strS k
theorem v_hexT {s : Str} {n : Int} (h : hexT s = some n) (k : Q (.int n) H) : rIntHex [.str s, .int 16] H Q := by
 unfold hexT at h
 split at h
 · rename_i z
   cases h
   refine ⟨s.cps.toList, ?_, z.1, z.2.1, λ c hc => ?_, k⟩
   · obtain ⟨⟨l⟩⟩ := s
     rfl
   · have := List.all_eq_true.mp z.2.2 c hc
     rcases of_decide_eq_true this with q | q
     · exact .inl q
     · exact .inr (.inl q)
 · cases h
theorem v_intT {s : Str} {n : Int} (h : intT s = some n) (k : Q (.int n) H) : rIntT [.str s] H Q := by
 unfold intT at h
 split at h
 · rename_i z
   exact ⟨s, n, rfl, h, z.1, Nat.le_trans z.2 (by decide), k⟩
 · cases h
end
def rSplT : V -> List V -> Hp -> VK -> Prop := λ x xs H Q => ∃ a b, x = .str a /\ xs = [.str b] /\ (b.length == 0) = false /\ a.length + 2 <= sizeLine /\ rNewStrs (Txt.split a b) H Q
section
variable {X : Cx} {o e : Expr} {to te : TE}
theorem pe_splT {apos pos : Pos} (ho : PE X o to) (he : PE X e te) (hs : starEach [e] X.env = [(false, eval e X.env)] := by rfl) (hbase : attributeBase o "split" X.env (eval o X.env) = eval o X.env := by rfl) (hline : (apos.endLine == pos.line) = true := by rfl) :
   PE X (.Call (.Attribute o "split" apos) [e] [] pos) (tM1 rSplT to te) := pe_m1 PySem.F.slot_str_split PySem.F.type_str_split mt_split ho he hs hbase hline
end
section
variable {K : Fr} {Rs : List Res} {H : Hp} {Q : VK} {v w : V}
theorem v_splT {a b : Str} (S : M Rs H) (hb : (b.length == 0) = false) (hl : a.length <= 100000) (k : ∀ p H', M (acR K p ((Txt.split a b).map eS) :: Rs) H' -> Q (.ref p) H') : rSplT (.str a) [.str b] H Q :=
 ⟨a, b, rfl, rfl, hb, by rw [sizeLine_eq]; omega, λ p hp => k p _ (M.ownS (S.new hp))⟩
theorem v_orTx {a : Str} {X Y : Prop} {tb : TE} {σ : L2.St} (hf : a.length <= 100000 /\ if (!decide (a.length = 0)) = true then X else Y) (k1 : X -> Q (.str a) H) (k2 : Y -> tb σ H Q) : OrK K tb σ Q (.str a) H := by
 obtain ⟨h, hf⟩ := hf
 have hl : a.length <= sizeLine := by rw [sizeLine_eq]; omega
 by_cases c : a.length = 0
 · refine ⟨false, ⟨hl, ?_⟩, by simpa using k2 (by simpa [c] using hf)⟩
   rw [c]
   rfl
 · refine ⟨true, ⟨hl, ?_⟩, by simpa using k1 (by simpa [c] using hf)⟩
   have : (a.length : Int) ≠ 0 := by omega
   simpa [this] using c
end
end RC

namespace RC
open PySem PySem.Spec PyProof.Rows L2
open Sem (wp) in
theorem meets_enumT (t : Addr) (items : Array Value) :
   Meets (Builtin.«enumerate.__new__» ⟨[.type "enumerate", .ref t], []⟩) (λ _ R s => s.heap.IsTuple t items /\
     R (.ok (.ret (.ref (s.heap.push { cls := .type "tuple_iterator", data := .fields #[.ref t, .int 0 0] }).objs.size))) { s with heap := (s.heap.push { cls := .type "tuple_iterator", data := .fields #[.ref t, .int 0 0] }).push { cls := .type "enumerate", data := .fields #[.none, .bool false, .ref s.heap.objs.size, rawInt 0, .none, .none] } }) :=
 .of_wp λ prog w A R s h => by
   obtain ⟨hp, g, d, tk, os⟩ := s; obtain ⟨h1, h⟩ := h
   have hsub := sub_enumerate
   have q1 : ∀ {A' : Around} {E : Value -> Shared -> Prop} {Q : Value -> Shared -> Prop}, Q (.ref hp.objs.size) ⟨hp.push { cls := .type "tuple_iterator", data := .fields #[.ref t, .int 0 0] }, g, d, tk, os⟩ -> wpAny (model prog w) A' (pyIter (.ref t)) Q E ⟨hp, g, d, tk, os⟩ :=
     λ q => wpAny_pyIter_tuple h1 q
   wp_walk using q1
   refine wpAny_stack_any λ st => wpAny_pure ?_
   split
   · rename_i c _ _ _ _ _
     cases (c == Value.type "enumerate")
     · wp_walk using q1
       exact ⟨_, rfl, h⟩
     · wp_walk using q1
       exact ⟨_, rfl, h⟩
   · wp_walk using q1
     exact ⟨_, rfl, h⟩
theorem call_enumT {prog : Program} {w : World} {A : Around} {E : Value -> Shared -> Prop} {s : Shared} {l : Addr} {items : Array Value} {Q : Value -> Shared -> Prop} (hL : s.heap.IsTuple l items)
   (h : ∀ h', IsEnum h' (s.heap.objs.size + 1) s.heap.objs.size 0 .none -> h'.IsTupleIter s.heap.objs.size l 0 -> h'.objs.size = s.heap.objs.size + 2 ->
     (∀ b o, s.heap.get? b = some o -> h'.get? b = some o) -> Q (.ref (s.heap.objs.size + 1)) { s with heap := h' }) :
   wpAny (model prog w) A (call (.type "enumerate") [.ref l]) Q E s := by
 refine callType_new PySem.F.called_enumerate (by decide) (PySem.F.typeCall_enumerate_1 _) (PySem.F.newCall_enumerate_1 _) (λ obj => PySem.F.args_object_init_2 obj _) PySem.F.entry_enumerate_new
   (meets_enumT l items) ⟨hL, ?_⟩
 have hz : (s.heap.push { cls := .type "tuple_iterator", data := .fields #[.ref l, .int 0 0] }).objs.size = s.heap.objs.size + 1 := Heap.size_push ..
 show _ /\ _
 rw [hz]
 have he : IsEnum ((s.heap.push { cls := .type "tuple_iterator", data := .fields #[.ref l, .int 0 0] }).push
     { cls := .type "enumerate", data := .fields #[.none, .bool false, .ref s.heap.objs.size, rawInt 0, .none, .none] }) (s.heap.objs.size + 1) s.heap.objs.size 0 .none := by
   have := Heap.get?_push_size (s.heap.push { cls := .type "tuple_iterator", data := .fields #[.ref l, .int 0 0] })
     (o := { cls := .type "enumerate", data := .fields #[.none, .bool false, .ref s.heap.objs.size, rawInt 0, .none, .none] }) rfl
   rw [hz] at this; exact this
 refine ⟨⟨_, he, rfl⟩, h _ he ⟨_, Heap.get?_push_of_some _ (Heap.get?_push_size _ rfl), rfl, rfl⟩ (by rw [Heap.size_push, hz]) λ b o x => Heap.get?_push_of_some _ (Heap.get?_push_of_some _ x)⟩
def Itet (K : Fr) (a : Addr) : It :=
 ⟨λ i H => ∃ (xs : List V) (x : V), SqT K H a xs /\ xs[i]? = some x, λ i H v H' => ∃ T x, v = .ref T /\ H T = none /\ H' = upd H T (.tup [.int (i : Nat), x]) /\ ∀ xs, SqT K H a xs -> xs[i]? = some x, λ i H => ∃ xs : List V, SqT K H a xs /\ xs.length <= i⟩
theorem tupItNe {h : Heap} {a it : Addr} {i : Nat} {items : Array Value} (hl : h.IsTuple a items) (hit : h.IsTupleIter it a i) : a ≠ it := by
 intro z
 subst z
 obtain ⟨o, ho, hc, _⟩ := hl
 obtain ⟨o', ho', hc', _⟩ := hit
 have e : o = o' := Option.some.inj (ho.symm.trans ho')
 subst e
 have q : Value.type "tuple" = Value.type "tuple_iterator" := hc.symm.trans hc'
 injection q with q
 revert q
 decide
theorem enumNe {h : Heap} {a e it : Addr} {c : Int} {old : Value} {items : Array Value} (hl : h.IsTuple a items) (he : IsEnum h e it c old) : e ≠ a := by
 intro z
 subst z
 obtain ⟨o, ho, hc, _⟩ := hl
 have he2 : h.get? e = some _ := he
 rw [ho] at he2
 have he3 := Option.some.inj he2
 rw [he3] at hc
 have hc : Value.type "enumerate" = Value.type "tuple" := hc
 injection hc with q
 revert q
 decide
theorem enum_endT {prog : Program} {w : World} {A : Around} {E : Value -> Shared -> Prop} {s : Shared} {e it a : Addr} {i : Nat} {items : Array Value} {old : Value} {Q : Option Value -> Shared -> Prop} (hh : A.in1.handled = none)
   (he : IsEnum s.heap e it i old) (hit : s.heap.IsTupleIter it a i) (hl : s.heap.IsTuple a items) (hx : items[i]? = none)
   (hQ : ∀ h', Heap.ExtBut it s.heap h' -> Q none { s with heap := h' }) : wpAny (model prog w) A (pyNext (.ref e)) Q E s := by
 have hT : s.TypeIs (.ref e) "enumerate" := ⟨_, he, rfl⟩
 unfold pyNext
 refine wpAny_bind (wpAny_attempt (wpAny_callSpecial?_slot (name := Str.ofString "__next__") hT PySem.F.slot_enumerate_next
   (wpAny_call_entry PySem.F.slot_enumerate_next hT PySem.F.entry_enumerate_next ?_ (PySem.F.args_enumerate_next_1 _))))
 show wpAny _ _ (field (.ref e) 2 >>= _) _ _ _
 refine wpAny_bind (wpAny_field he rfl (x := .ref it) rfl ?_)
 refine wpAny_bind (wpAny_nextOf_tuple_end hh hit hl hx λ h' x he' hx' => ?_)
 obtain ⟨o, ho, hc⟩ := hx'
 refine wpAny_bind (wpAny_isInstance (T := "StopIteration") (b := true) ⟨o, ho, hc⟩ isSubtype_stop ?_)
 exact wpAny_pure (hQ _ he')
theorem turn_enumT {P : Program} {w : World} {K : Fr} {elts : List Expr} {kk : Nat} {tpos : Pos} (a e it : Addr) :
   Turn P w K (.Tuple elts kk tpos) (Itet K a) [e, it] e (λ i h => (∃ old, IsEnum h e it ((i : Nat) : Int) old) /\ h.IsTupleIter it a i /\ e ≠ it) where
 mem := by simp
 obj := λ i h st b hb => by
   obtain ⟨⟨old, he⟩, ⟨o, ho, hc, hd⟩, _⟩ := st
   have e' : b = e \/ b = it := by simpa using hb
   rcases e' with z | z
   · rw [z]; exact ⟨_, he, λ v q => nomatch q⟩
   · rw [z]; exact ⟨o, ho, λ v q => by rw [hd] at q; cases q⟩
 keep := λ i h h' st k => let ⟨⟨old, he⟩, hi, hne⟩ := st; ⟨⟨old, k e (by simp) _ he⟩, hi.at λ o q => k it (by simp) o q, hne⟩
 item := by
   intro X hP hw hK hc i pins s σ H E I hf st hg
   subst hP hw hK
   obtain ⟨⟨old, he⟩, hit, hne⟩ := st
   obtain ⟨xs, x, hq, hx⟩ := hg
   obtain ⟨its, rv, p, hz⟩ := I.tuple hq
   have p : s.heap.IsTuple a its.toArray := p
   obtain ⟨u, hu, ru⟩ := rv.get hx
   have hel : e < s.heap.objs.size := Heap.lt_size he
   have hil : it < s.heap.objs.size := by obtain ⟨_, q, _⟩ := hit; exact Heap.lt_size q
   refine wpAny_pyNext_enum_itemD (Draws.tuple (show X.A.in1.handled = none from I.ok.hd hc) it a (tupItNe p hit) its.toArray) he ⟨hit, p⟩ (by have := List.getElem?_eq_some_iff.mp hu; obtain ⟨q, _⟩ := this; simpa using q) hne (by simp [hne, enumNe p he]) λ u2 h' tk hp ho hst hT hsz hk => ?_
   have e2 : u2 = u := by
     have : its.toArray[i]? = some u2 := hp
     have h2 : its.toArray[i]? = some u := by simpa using hu
     rw [this] at h2
     exact Option.some.inj h2
   subst e2
   have hit' := hst.1
   refine ⟨_, rfl, wpAny_letOwnedTupleGo_enum (s := { s with heap := h', toks := tk + 1 }) ho λ h'' he' sb => ?_⟩
   have hT2 : h''.get? s.heap.objs.size = some { cls := .type "tuple", data := .seq #[.int i tk, u2] } := (sb.2 _ (Nat.ne_of_gt hel)).trans hT
   have new : ObjOk X.prog X.w (upd H s.heap.objs.size (.tup [.int (i : Nat), x])) h'' s.heap.objs.size (.tup [.int (i : Nat), x]) :=
     ⟨by show 2 <= sizeLine; decide, [.int i tk, u2], .cons ⟨_, rfl⟩ (.cons ru .nil), ⟨_, hT2, rfl, _, rfl⟩⟩
   have I1 : Inv X pins σ (upd H s.heap.objs.size (.tup [.int (i : Nat), x])) { s with heap := h'', toks := tk + 1 } :=
     I.turnedNew (ch := [e, it]) (λ b ob hb q => (sb.2 b (λ z => hb (by simp [z]))).trans (hk b ob (λ z => hb (by simp [z])) (λ z => hb (by simp [z])) q)) hf (Nat.le_refl _) new
   refine ⟨.ref s.heap.objs.size, _, I1, rfl, ⟨_, x, rfl, I.hok.fresh (Nat.le_refl _), rfl, λ ys hy => by rw [I.tuple_inj hy hq]; exact hx⟩, ⟨⟨u2, ?_⟩, hit'.at λ o q => (sb.2 it (Ne.symm hne)).trans q, hne⟩, λ b hb => ?_⟩
   · have e1 : ((i + 1 : Nat) : Int) = (i : Int) + 1 := by omega
     rw [e1]; exact he'
   · have hb' : b < s.heap.objs.size := by
       have e' : b = e \/ b = it := by simpa using hb
       rcases e' with z | z
       · rw [z]; exact hel
       · rw [z]; exact hil
     rw [upd_ne (Nat.ne_of_lt hb')]
     exact (hf b hb).1
 done := by
   intro X hP hw hK hc i pins s σ H E I hf st hg
   subst hP hw hK
   obtain ⟨⟨old, he⟩, hit, hne⟩ := st
   obtain ⟨xs, hq, hx⟩ := hg
   obtain ⟨its, rv, p, hz⟩ := I.tuple hq
   have p : s.heap.IsTuple a its.toArray := p
   obtain ⟨f0, f1, f2, f3, f4, f5⟩ := hf it (by simp)
   have hl := rv.length
   exact enum_endT (show X.A.in1.handled = none from I.ok.hd hc) he hit p (by simp; omega) λ h' eb => ⟨rfl, I.turned (t' := s.toks) (λ b o hb q => eb b o hb q) f0 f1 f3 f4 f5⟩
 self := λ A i s Q E st h => let ⟨⟨_, he⟩, _⟩ := st; wpAny_pyIter_enum he h
def iEnumT (K : Fr) (ta : TA) : TI := λ σ H R => ta σ H λ vs H1 => ∃ a xs, vs = [.ref a] /\ SqT K H1 a xs /\ R (Itet K a) H1
theorem pi_enumT {X : Cx} {e : Expr} {ta : TA} {p pos tpos : Pos} {elts : List Expr} {kk : Nat} (hg : Gl X "enumerate") (hm : X.mg "enumerate" = none) (ha : PA X [e] ta) (hs : starEach [e] X.env = [(false, eval e X.env)] := by rfl) :
   PI X (.Tuple elts kk tpos) (.Call (.Name "enumerate" p) [e] [] pos) (iEnumT X.K ta) := by
 refine ⟨λ pins s σ H R I h => ?_⟩
 refine Call_ (ld_blt I hg hm boot_enumerate (PyProof.Rows.callWith_type1 (thn (ha.run pos pins s σ H _ I h) λ us s1 ⟨vs, H1, I1, r1, q1⟩ => ?_) hs rfl))
 obtain ⟨a, xs, ex, hq, q⟩ := q1
 subst ex
 cases r1 with
 | cons r rr =>
   cases rr
   cases r
   obtain ⟨its, rv, p', hz⟩ := I1.tuple hq
   refine call_enumT (show s1.heap.IsTuple a its.toArray from p') λ h' he hit hsz hk => wpAny_pyIter_enum he ?_
   have I2 : Inv X pins σ H1 { s1 with heap := h' } := I1.kept (t' := s1.toks) hk
   refine ⟨s1.heap.objs.size + 1, [s1.heap.objs.size + 1, s1.heap.objs.size], _, _, H1, rfl, I2, turn_enumT a (s1.heap.objs.size + 1) s1.heap.objs.size, ⟨⟨.none, he⟩, hit, Nat.succ_ne_self _⟩, λ b hb => ?_, q⟩
   have e' : b = s1.heap.objs.size + 1 \/ b = s1.heap.objs.size := by simpa using hb
   have hle : s1.heap.objs.size <= b := by
     rcases e' with z | z
     · rw [z]; exact Nat.le_add_right _ _
     · rw [z]; exact Nat.le_refl _
   exact I1.fpOk hle (I1.hok.fresh hle)
theorem walk_enumT {K : Fr} {a : Addr} {xs : List V} : Walk (Itet K a) xs.length (λ H => SqT K H a xs) (YPair (λ i => some (.int (i : Nat))) (λ i => xs[i]?)) := by
 refine ⟨λ i _ hi q => ⟨xs, xs[i], q, by simp [hi]⟩, λ _ q => ⟨xs, q, Nat.le_refl _⟩, λ i H v H' _ q y => ?_⟩
 obtain ⟨T, x, h1, h2, h3, h4⟩ := y
 exact ⟨T, .int (i : Nat), x, h1, h2, h3, rfl, h4 xs q⟩
def ItET (K : Fr) (R : It -> Hp -> Prop) : List V -> Hp -> Prop := λ vs H1 => ∃ a xs, vs = [.ref a] /\ SqT K H1 a xs /\ R (Itet K a) H1
section
variable {α β : Type} {e : α -> PyData} {K : Fr} {σ : L2.St} {H : Hp} {D : Ends} {v : V} {xs : List α}
theorem g_iEnumT {ta : TA} {R : It -> Hp -> Prop} (k : ta σ H (ItET K R)) : iEnumT K ta σ H R := k
theorem for_enumT {F : Int × α -> β -> (β -> Prop) -> Prop} {vs : List V} {s0 : β} {KK : β -> Prop} {a : Addr} {g : TG} {tb : TS} (e0 : v = .ref a) (hf : forD F (enumF 0 xs) s0 KK) (Inv : β -> L2.St -> Hp -> Prop) (h0 : Inv s0 σ H)
   (hrd : ∀ s σ H, Inv s σ H -> SqT K H a vs /\ DqAll K H vs (xs.map e))
   (hs : ∀ (i : Nat) u (q : Int × α) s σ H T (kk : β -> Prop), Inv s σ H -> H T = none -> vs[i]? = some u -> xs[i]? = some q.2 -> F q s kk -> g (.ref T) σ (upd H T (.tup [.int q.1, u])) λ σ2 H2 => tb ⟨λ σ H => ∃ s', kk s' /\ Inv s' σ H, D.rt, D.nx, λ σ H => ∃ s', kk s' /\ Inv s' σ H⟩ σ2 H2)
   (hd : ∀ s σ H, KK s -> Inv s σ H -> D.nx σ H) : ItET K (λ J H1 => ForW J g tb D σ H1) [v] H := by
 subst e0
 refine ⟨a, vs, rfl, (hrd s0 σ H h0).1, ?_⟩
 have hl : vs.length = xs.length := by
   have := (hrd s0 σ H h0).2.len
   rwa [List.length_map] at this
 refine for_W walk_enumT (λ i σ H => ∃ s, forD F ((enumF 0 xs).drop i) s KK /\ Inv s σ H) ⟨s0, by simpa using hf, h0⟩ (λ i σ H _ ⟨s, _, h⟩ => (hrd s σ H h).1) ?_ ?_
 · rintro i u σ H H' hi ⟨s, hf, h⟩ ⟨T, x, y, rfl, hT, rfl, hx, hy⟩
   have hi2 : i < (enumF 0 xs).length := by rw [enumF_len]; omega
   rw [List.drop_eq_getElem_cons hi2] at hf
   have hi3 : i < xs.length := by omega
   have e0 : (enumF 0 xs)[i] = ((i : Int), xs[i]) := by
     have := enumF_get 0 xs i
     rw [List.getElem?_eq_getElem hi2, List.getElem?_eq_getElem hi3] at this
     simpa using Option.some.inj this
   rw [e0] at hf
   cases hx
   exact hs i y ((i : Int), xs[i]) s σ H T _ h hT hy (List.getElem?_eq_getElem hi3) hf
 · rintro σ H ⟨s, hf, h⟩
   rw [hl, <- enumF_len 0, List.drop_length] at hf
   exact hd s σ H hf h
end
end RC

namespace RC
open PySem PySem.Spec PyProof.Rows L2
def lentR (R : Res) (Rs : List Res) : Res :=
 ⟨λ F' l => ∃ (F : Hp) (c : List Cell), R.on F c /\ Sat F Rs l /\ Ext F F' /\ (∀ q ∈ c, F' q.1 = some q.2) /\ (∀ q ∈ c ++ l, F q.1 = none) /\ (List.map (λ q : Cell => q.1) (c ++ l)).Nodup, by
  intro F F2 l e h
  obtain ⟨F0, c, a, b, x, y, z, n⟩ := h
  exact ⟨F0, c, a, b, x.trans e, λ q hq => e _ _ (y q hq), z, n⟩⟩
section
variable {K : Fr} {Rs Rs2 : List Res} {R : Res} {H : Hp} {Q : VK} {v w : V}
theorem M.unlend (S : M (lentR R Rs :: Rs2) H) : M (R :: Rs) H := by
 obtain ⟨F', L, ⟨l1, l2, rfl, ⟨F, c, a, b, x, y, z, n⟩, _⟩, m⟩ := S
 refine ⟨F, c ++ l1, ⟨c, l1, rfl, a, b⟩, x.trans m.ex, λ q hq => ⟨?_, z q hq⟩, n⟩
 rcases List.mem_append.mp hq with h | h
 · exact m.ex _ _ (y q h)
 · exact (m.own q (List.mem_append_left _ h)).1
def withC (F : Hp) (c : List Cell) : Hp := λ p => match (c.find? λ q => decide (q.1 = p)) with
 | some q => some q.2
 | none => F p
theorem withC_in {F : Hp} : ∀ {c : List Cell}, (c.map (·.1)).Nodup -> ∀ q ∈ c, withC F c q.1 = some q.2 := by
 intro c nd q hq
 unfold withC
 cases e : c.find? λ z => decide (z.1 = q.1) with
 | none =>
   have := List.find?_eq_none.mp e q hq
   simp at this
 | some z =>
   have h1 := List.mem_of_find?_eq_some e
   have h2 : z.1 = q.1 := by simpa using List.find?_some e
   have : z = q := by
     clear e
     induction c with
     | nil => cases hq
     | cons a c ih =>
       rw [List.map_cons, List.nodup_cons] at nd
       rcases List.mem_cons.mp hq with h | hq
       · rcases List.mem_cons.mp h1 with g | h1
         · exact g.trans h.symm
         · exact absurd (List.mem_map.mpr ⟨z, h1, h2.trans (congrArg Prod.fst h)⟩) nd.1
       · rcases List.mem_cons.mp h1 with g | h1
         · exact absurd (List.mem_map.mpr ⟨q, hq, h2.symm.trans (congrArg Prod.fst g)⟩) nd.1
         · exact ih nd.2 hq h1
   rw [this]
theorem withC_out {F : Hp} {c : List Cell} {p : Addr} (h : ∀ q ∈ c, q.1 ≠ p) : withC F c p = F p := by
 unfold withC
 rw [List.find?_eq_none.mpr λ q hq => by simpa using h q hq]
theorem M.lendG {φ : Hp -> Prop} (S : M (R :: Rs) H) (h : ∀ F F' c, R.on F c -> Ext F F' -> (∀ q ∈ c, F' q.1 = some q.2) -> φ F') (T : Res) (hT : ∀ F, φ F -> T.on F []) : M (T :: [lentR R Rs]) H := by
 obtain ⟨F, L, ⟨c, l, rfl, a, b⟩, m⟩ := S
 have nd : (c.map (·.1)).Nodup := by
   have := m.nd
   rw [List.map_append] at this
   exact (List.nodup_append.mp this).1
 have dis : ∀ q ∈ c, ∀ r ∈ l, q.1 ≠ r.1 := by
   have := m.nd
   rw [List.map_append] at this
   have h3 := (List.nodup_append.mp this).2.2
   intro q hq r hr
   exact h3 _ (List.mem_map.mpr ⟨q, hq, rfl⟩) _ (List.mem_map.mpr ⟨r, hr, rfl⟩)
 have ex : Ext F (withC F c) := λ p o e => by
   have : ∀ q ∈ c, q.1 ≠ p := λ q hq z => by
     have := (m.own q (List.mem_append_left _ hq)).2
     rw [z, e] at this
     cases this
   rw [withC_out this]
   exact e
 have hin := withC_in (F := F) nd
 refine ⟨withC F c, l, ⟨[], l, rfl, hT _ (h F _ c a ex hin), l, [], by simp, ⟨F, c, a, b, ex, hin, λ q hq => (m.own q hq).2, m.nd⟩, rfl⟩, ?_, λ q hq => ⟨(m.own q (List.mem_append_right _ hq)).1, ?_⟩, ?_⟩
 · intro p o e
   by_cases z : ∃ q ∈ c, q.1 = p
   · obtain ⟨q, hq, rfl⟩ := z
     rw [hin q hq] at e
     cases e
     exact (m.own q (List.mem_append_left _ hq)).1
   · rw [withC_out λ q hq y => z ⟨q, hq, y⟩] at e
     exact m.ex _ _ e
 · rw [withC_out λ r hr => dis r hr q hq]
   exact (m.own q (List.mem_append_right _ hq)).2
 · have := m.nd
   rw [List.map_append] at this
   exact (List.nodup_append.mp this).2.1
mutual
theorem od_dq {F F' : Hp} (e : Ext F F') : ∀ {x : OD} {v : V} {c : List Cell}, (odR K v x).on F c -> (∀ q ∈ c, F' q.1 = some q.2) -> Dq K F' v x.fgt
 | .fz d, v, c, h, _ => Dq_ext e h.2
 | .ol l, v, c, h, g => by
   obtain ⟨p, rfl, vs, c1, c2, rfl, rfl, h2⟩ := h
   exact .lst (.inl (.inl (g (p, .lst vs) (List.mem_append_left _ (List.mem_singleton.mpr rfl))))) (ods_dq e h2 λ q hq => g q (List.mem_append_right _ hq))
 | .ot l, v, c, h, g => by
   obtain ⟨p, rfl, vs, c1, c2, rfl, rfl, h2⟩ := h
   exact .tup (.inl (.inl (g (p, .tup vs) (List.mem_append_left _ (List.mem_singleton.mpr rfl))))) (ods_dq e h2 λ q hq => g q (List.mem_append_right _ hq))
theorem ods_dq {F F' : Hp} (e : Ext F F') : ∀ {l : List OD} {vs : List V} {c : List Cell}, (odRs K vs l).on F c -> (∀ q ∈ c, F' q.1 = some q.2) -> DqAll K F' vs (OD.fgtAll l)
 | [], [], _, _, _ => .nil
 | x :: xs, v :: vs, c, h, g => by
   obtain ⟨c1, c2, rfl, h1, h2⟩ := h
   exact .cons (od_dq e h1 λ q hq => g q (List.mem_append_left _ hq)) (ods_dq e h2 λ q hq => g q (List.mem_append_right _ hq))
 | _ :: _, [], _, h, _ => h.1.elim
 | [], _ :: _, _, h, _ => h.1.elim
end
theorem M.lend {x : OD} (S : M (odR K v x :: Rs) H) : M (da K v x.fgt :: [lentR (odR K v x) Rs]) H :=
 M.lendG (φ := λ F' => Dq K F' v x.fgt) S (λ F F' c a e g => od_dq e a g) (da K v x.fgt) λ F h => ⟨rfl, h⟩
theorem M.otO {l : List OD} (S : M (odR K v (.ot l) :: Rs) H) : ∃ p, v = .ref p /\ ∃ vs, M (pt p (.tup vs) :: starR (odR K) vs l :: Rs) H := by
 rw [odR_ot] at S
 obtain ⟨p, e, S1⟩ := S.vrO
 obtain ⟨vs, S2⟩ := S1.ex
 exact ⟨p, e, vs, S2.sp⟩
theorem M.otC {p : Addr} {vs : List V} {l : List OD} (S : M (pt p (.tup vs) :: starR (odR K) vs l :: Rs) H) : M (odR K (.ref p) (.ot l) :: Rs) H := by
 rw [odR_ot]
 exact M.vrC (M.ex' _ (M.sp' S))
theorem M.odCst {x y : OD} (S : M (odR K v x :: Rs) H) (h : x = y) : M (odR K v y :: Rs) H := h ▸ S
theorem v_tupLO {p : Addr} {l : List OD} (S : M (lsR (odR K) p l :: Rs) H) (k : ∀ q H', M (odR K (.ref q) (.ot l) :: Rs) H' -> Q (.ref q) H') : rTupL K [.ref p] H Q := by
 obtain ⟨vs, S1⟩ := S.ex
 have S2 := S1.sp
 refine ⟨p, vs, rfl, .inl ⟨SqL.of (S2.got 0 rfl), λ q hq => ?_⟩⟩
 have S3 := S2.new (o := .tup vs) hq
 exact k q _ (M.otC (M.sub (.cons 0 rfl (.cons 1 rfl (.tl (.refl _)))) S3))
theorem starR_app {α : Type} {A : V -> α -> Res} : ∀ {vs ws : List V} {xs ys : List α} {Rs : List Res}, M (starR A vs xs :: starR A ws ys :: Rs) H -> M (starR A (vs ++ ws) (xs ++ ys) :: Rs) H
 | [], ws, [], ys, Rs, S => S.tl
 | v :: vs, ws, x :: xs, ys, Rs, S => by
   have S1 : M (A v x :: starR A vs xs :: starR A ws ys :: Rs) H := S.sp
   have S2 : M (starR A vs xs :: starR A ws ys :: A v x :: Rs) H := M.sub (.cons 1 rfl (.cons 1 rfl (.refl _))) S1
   have S3 := starR_app S2
   exact M.sp' (M.sub (.cons 1 rfl (.refl _)) S3)
 | [], _, _ :: _, _, _, S => (S.pr).1.elim
 | _ :: _, _, [], _, _, S => (S.pr).1.elim
theorem v_catOT {l1 l2 : List OD} (S : M (odR K v (.ot l1) :: odR K w (.ot l2) :: Rs) H) (hz : l1.length + l2.length <= 100000) (k : ∀ u H', M (odR K u (.ot (l1 ++ l2)) :: Rs) H' -> Q u H') : rCatA K v w H Q := by
 obtain ⟨p, rfl, vs, S1⟩ := S.otO
 obtain ⟨q, rfl, ws, S2⟩ := M.otO (S1.at 2 rfl)
 have S2 : M (pt q (.tup ws) :: starR (odR K) ws l2 :: pt p (.tup vs) :: starR (odR K) vs l1 :: Rs) H := S2
 have e1 := starR_len (S2.at 3 rfl)
 have e2 := starR_len (S2.at 1 rfl)
 refine ⟨_, _, vs, ws, rfl, rfl, .inl (.inl (S2.got 2 rfl)), .inl (.inl (S2.got 0 rfl)), Nat.le_trans (by rw [e1, e2]; exact hz) (by decide), λ z => ?_, λ _ z => ?_, λ _ _ => ?_⟩
 · subst z
   have : l1 = [] := List.length_eq_zero_iff.mp e1.symm
   subst this
   exact k _ H (M.otC (M.sub (.cons 0 rfl (.cons 0 rfl (.tl (.tl (.refl _))))) S2))
 · subst z
   have : l2 = [] := List.length_eq_zero_iff.mp e2.symm
   subst this
   rw [List.append_nil] at k
   exact k _ H (M.otC (M.sub (.cons 2 rfl (.cons 2 rfl (.tl (.tl (.refl _))))) S2))
 · intro u hu
   have S3 := S2.new (o := .tup (vs ++ ws)) hu
   have S4 : M (starR (odR K) vs l1 :: starR (odR K) ws l2 :: pt u (.tup (vs ++ ws)) :: Rs) _ := M.sub (.cons 4 rfl (.cons 2 rfl (.cons 0 rfl (.tl (.tl (.refl _)))))) S3
   have S5 := starR_app S4
   exact k _ _ (M.otC (M.sub (.cons 1 rfl (.refl _)) S5))
theorem for_od {β : Type} {σ : L2.St} {D : Ends} {F : OD -> β -> (β -> Prop) -> Prop} {l : List OD} {s0 : β} {KK : β -> Prop} {g : TG} {tb : TS} (hf : forD F l s0 KK) (Inv : List Res -> β -> L2.St -> Hp -> Prop)
   (h0 : Inv [odR K v (.ot l)] s0 σ H)
   (hM : ∀ X s σ H, Inv X s σ H -> ∃ Rs, M (X ++ Rs) H /\ ∀ X' H', M (X' ++ Rs) H' -> Inv X' s σ H')
   (hs : ∀ u x W s σ H (kk : β -> Prop) (N : L2.St -> Hp -> Prop), Inv [odR K u x, W] s σ H -> F x s kk -> (∀ x' s' σ H, kk s' -> Inv [odR K u x', W] s' σ H -> N σ H) -> g u σ H λ σ2 H2 => tb ⟨N, D.rt, D.nx, N⟩ σ2 H2)
   (hd : ∀ W s σ H, KK s -> Inv [W] s σ H -> D.nx σ H) : ItT K (λ J H1 => ForW J g tb D σ H1) v H := by
 obtain ⟨Rs0, S0, back0⟩ := hM _ _ _ _ h0
 obtain ⟨p, rfl, vs, S1⟩ := M.otO (show M (odR K v (.ot l) :: Rs0) H from S0)
 have el := starR_len (S1.at 1 rfl)
 let T : List OD -> Res := λ l' => sp2 (pt p (.tup vs)) (starR (odR K) vs l')
 refine ⟨p, rfl, ⟨vs, .inl (.inl (S1.got 0 rfl))⟩, for_W (walk_tup (xs := vs)) (λ i σ H => ∃ s l', forD F (l.drop i) s KK /\ l'.length = l.length /\ l'.drop i = l.drop i /\ Inv [T l'] s σ H) ⟨s0, l, by simpa using hf, rfl, rfl, back0 [T l] H (M.sp' S1)⟩ (λ i σ H _ ⟨s, l', _, _, _, h⟩ => ?_) ?_ ?_⟩
 · obtain ⟨Rs, S, _⟩ := hM _ _ _ _ h
   have S2 : M (T l' :: Rs) H := S
   exact .inl (.inl (S2.sp.got 0 rfl))
 · rintro i u σ H H' hi ⟨s, l', hf, hl, hdr, h⟩ ⟨rfl, hv⟩
   have hi2 : i < l.length := by omega
   rw [List.drop_eq_getElem_cons hi2] at hf
   obtain ⟨Rs, S, back⟩ := hM _ _ _ _ h
   have S2 : M (T l' :: Rs) H' := S
   have hx : l'[i]? = some l[i] := by
     have : (l'.drop i)[0]? = (l.drop i)[0]? := by rw [hdr]
     rw [List.getElem?_drop, List.getElem?_drop, Nat.add_zero, List.getElem?_eq_getElem hi2] at this
     exact this
   obtain ⟨u2, hu2, S4⟩ := starR_open (M.at S2.sp 1 rfl) hx
   have S4 : M (odR K u2 l[i] :: starR (odR K) (vs.eraseIdx i) (l'.eraseIdx i) :: pt p (.tup vs) :: Rs) H' := S4
   rw [hu2] at hv
   have eu : u2 = u := Option.some.inj hv
   subst eu
   let W : Res := sp2 (pt p (.tup vs)) (starR (odR K) (vs.eraseIdx i) (l'.eraseIdx i))
   have S5 : M (W :: odR K u2 l[i] :: Rs) H' := M.sp' (M.sub (.cons 2 rfl (.cons 1 rfl (.refl _))) S4)
   have S6 : M ([odR K u2 l[i], W] ++ Rs) H' := M.sub (.cons 1 rfl (.refl _)) S5
   refine hs u2 _ W s σ H' _ _ (back _ _ S6) hf λ x' s' σ2 H2 hk h2 => ?_
   obtain ⟨Rs3, S7, back3⟩ := hM _ _ _ _ h2
   have S7 : M (odR K u2 x' :: W :: Rs3) H2 := S7
   have S8 : M (pt p (.tup vs) :: starR (odR K) (vs.eraseIdx i) (l'.eraseIdx i) :: odR K u2 x' :: Rs3) H2 := M.sp (M.at S7 1 rfl)
   have S9 : M (odR K u2 x' :: starR (odR K) (vs.eraseIdx i) (l'.eraseIdx i) :: pt p (.tup vs) :: Rs3) H2 := M.sub (.cons 2 rfl (.cons 1 rfl (.refl _))) S8
   have S10 := starR_close hu2 (by omega) S9
   refine ⟨s', l'.set i x', hk, by rw [List.length_set]; exact hl, ?_, back3 [T (l'.set i x')] H2 (M.sp' (M.sub (.cons 1 rfl (.refl _)) S10))⟩
   rw [List.drop_set_of_lt (by omega)]
   have : (l'.drop i).drop 1 = (l.drop i).drop 1 := by rw [hdr]
   rwa [List.drop_drop, List.drop_drop] at this
 · rintro σ H ⟨s, l', hf, _, _, h⟩
   rw [el, List.drop_length] at hf
   exact hd _ s σ H hf h
end
section
variable {α β γ : Type} {K : Fr} {B : V -> β -> Res} {Rs : List Res} {H : Hp} {Q : VK} {σ : L2.St} {a b : Addr} {f1 f2 : Bool} {vs us : List V} {xs : List α} {ys : List γ}
theorem lo_zip {te : TE} {tt : TT} {g : TG} {ws : List Nat} {F : α × γ -> (Option β -> Prop) -> Prop} {KK : List β -> Prop} {v w : V} (e1 : v = .ref a) (e2 : w = .ref b) (hf : (xs.zip ys).length <= 100000 /\ lcD F (xs.zip ys) [] KK) (S : M Rs H)
   (hrd : ∀ H, M Rs H -> (SqG K f1 H a vs /\ vs.length = xs.length) /\ SqG K f2 H b us /\ us.length = ys.length)
   (hs : ∀ (i : Nat) v u (q : α × γ) (acc : List β) E T H (kk : Option β -> Prop) (N : Hp -> Prop), acc.length < 100000 -> M (pt T (.tup [v, u]) :: lsR B E acc :: Rs) H -> vs[i]? = some v -> xs[i]? = some q.1 -> us[i]? = some u -> ys[i]? = some q.2 -> F q kk ->
     (∀ y H, kk (some y) -> M (lsR B E (acc ++ [y]) :: Rs) H -> N H) -> (∀ H, kk none -> M (lsR B E acc :: Rs) H -> N H) -> g (.ref T) (wipe σ ws) H λ σ2 H2 => wipe σ2 ws = wipe σ ws /\ tt σ2 H2 λ b H3 =>
     if b = true then te σ2 H3 (LcK N E) else N H3)
   (hd : ∀ E (acc : List β) H, KK acc -> M (lsR B E acc :: Rs) H -> Q (.ref E) H) : ItZG K f1 f2 (λ J H1 => LcW J g tt te ws σ Q H1) [v, w] H := by
 subst e1 e2
 obtain ⟨hz, hf⟩ := hf
 obtain ⟨⟨q1, hl⟩, q2, hl2⟩ := hrd H S
 have hn : (xs.zip ys).length = min vs.length us.length := by rw [List.length_zip, hl, hl2]
 refine ⟨a, b, vs, us, rfl, q1, q2, lc_X (walk_zipS hn) (λ E i H => ∃ acc, lcD F ((xs.zip ys).drop i) acc KK /\ acc.length <= i /\ M (lsR B E acc :: Rs) H) (λ E hE => ⟨[], by simpa using hf, Nat.le_refl _, lsR_nil (S.new hE)⟩) (λ E i H _ ⟨acc, _, _, S⟩ => ⟨(hrd H S.tl).1.1, (hrd H S.tl).2.1⟩) ?_ ?_⟩
 · rintro E i p H H' hi ⟨acc, hf, ha, S⟩ ⟨T, v, u, rfl, hT, rfl, hv, hu⟩
   rw [List.drop_eq_getElem_cons hi] at hf
   have hzi := hi
   rw [List.length_zip] at hzi
   have h1 : i < xs.length := by omega
   have h2 : i < ys.length := by omega
   have e0 : (xs.zip ys)[i] = (xs[i], ys[i]) := List.getElem_zip
   rw [e0] at hf
   refine hs i v u (xs[i], ys[i]) acc E T _ _ _ (by omega) (S.new hT) hv (List.getElem?_eq_getElem h1) hu (List.getElem?_eq_getElem h2) hf (λ y H hk S => ⟨acc ++ [y], hk, by rw [List.length_append]; simpa using ha, S⟩) (λ H hk S => ⟨acc, ?_, by omega, S⟩)
   simpa using hk
 · rintro E H ⟨acc, hf, ha, S⟩
   rw [List.drop_length] at hf
   exact hd E acc H hf S
end
end RC

namespace RC
open PySem PySem.Spec PyProof.Rows L2
@[reducible] def oo2 {a0 a1 : Res} (r : List Res) : List Res := a0 :: a1 :: r
@[reducible] def oo3 {a0 a1 a2 : Res} (r : List Res) : List Res := a0 :: a1 :: a2 :: r
@[reducible] def oo4 {a0 a1 a2 a3 : Res} (r : List Res) : List Res := a0 :: a1 :: a2 :: a3 :: r
@[reducible] def oo5 {a0 a1 a2 a3 a4 : Res} (r : List Res) : List Res := a0 :: a1 :: a2 :: a3 :: a4 :: r
@[reducible] def oo6 {a0 a1 a2 a3 a4 a5 : Res} (r : List Res) : List Res := a0 :: a1 :: a2 :: a3 :: a4 :: a5 :: r
@[reducible] def oo7 {a0 a1 a2 a3 a4 a5 a6 : Res} (r : List Res) : List Res := a0 :: a1 :: a2 :: a3 :: a4 :: a5 :: a6 :: r
@[reducible] def oo8 {a0 a1 a2 a3 a4 a5 a6 a7 : Res} (r : List Res) : List Res := a0 :: a1 :: a2 :: a3 :: a4 :: a5 :: a6 :: a7 :: r
@[reducible] def oo9 {a0 a1 a2 a3 a4 a5 a6 a7 a8 : Res} (r : List Res) : List Res := a0 :: a1 :: a2 :: a3 :: a4 :: a5 :: a6 :: a7 :: a8 :: r
@[reducible] def oo10 {a0 a1 a2 a3 a4 a5 a6 a7 a8 a9 : Res} (r : List Res) : List Res := a0 :: a1 :: a2 :: a3 :: a4 :: a5 :: a6 :: a7 :: a8 :: a9 :: r
@[reducible] def oo11 {a0 a1 a2 a3 a4 a5 a6 a7 a8 a9 a10 : Res} (r : List Res) : List Res := a0 :: a1 :: a2 :: a3 :: a4 :: a5 :: a6 :: a7 :: a8 :: a9 :: a10 :: r
@[reducible] def oo12 {a0 a1 a2 a3 a4 a5 a6 a7 a8 a9 a10 a11 : Res} (r : List Res) : List Res := a0 :: a1 :: a2 :: a3 :: a4 :: a5 :: a6 :: a7 :: a8 :: a9 :: a10 :: a11 :: r
@[reducible] def oo13 {a0 a1 a2 a3 a4 a5 a6 a7 a8 a9 a10 a11 a12 : Res} (r : List Res) : List Res := a0 :: a1 :: a2 :: a3 :: a4 :: a5 :: a6 :: a7 :: a8 :: a9 :: a10 :: a11 :: a12 :: r
@[reducible] def oo14 {a0 a1 a2 a3 a4 a5 a6 a7 a8 a9 a10 a11 a12 a13 : Res} (r : List Res) : List Res := a0 :: a1 :: a2 :: a3 :: a4 :: a5 :: a6 :: a7 :: a8 :: a9 :: a10 :: a11 :: a12 :: a13 :: r
local macro_rules | `(tactic| walk_at "S") => `(tactic| assumption)
local macro_rules | `(tactic| walk_at "hp") => `(tactic| first
 | assumption
 | exact M.got (by assumption) 0 rfl | exact M.got (by assumption) 1 rfl | exact M.got (by assumption) 2 rfl | exact M.got (by assumption) 3 rfl | exact M.got (by assumption) 4 rfl
 | exact M.got (by assumption) 5 rfl | exact M.got (by assumption) 6 rfl | exact M.got (by assumption) 7 rfl | exact M.got (by assumption) 8 rfl
 | exact M.gotF (by assumption) 0 rfl | exact M.gotF (by assumption) 1 rfl | exact M.gotF (by assumption) 2 rfl | exact M.gotF (by assumption) 3 rfl | exact M.gotF (by assumption) 4 rfl
 | exact M.gotF (by assumption) 5 rfl | exact M.gotF (by assumption) 6 rfl | exact M.gotF (by assumption) 7 rfl | exact M.gotF (by assumption) 8 rfl)
local macro_rules | `(tactic| walk_at "sl") => `(tactic| first
 | assumption
 | exact SqL.of (by walk_at "hp")
 | exact M.gotR (by assumption) 0 rfl | exact M.gotR (by assumption) 1 rfl | exact M.gotR (by assumption) 2 rfl | exact M.gotR (by assumption) 3 rfl)
local macro_rules | `(tactic| walk_at "mul") => `(tactic| first
 | exact Or.inl (Or.inr ⟨by decide, by decide⟩) | exact Or.inl (Or.inl ⟨by decide, by decide⟩) | exact Or.inl (Or.inr ⟨by omega, by omega⟩) | exact Or.inl (Or.inl ⟨by omega, by omega⟩))
local macro_rules | `(tactic| walk_at "sq") => `(tactic| first | assumption | exact SqT.of (by walk_at "hp"))
local macro_rules | `(tactic| walk_at "sts") => `(tactic| first
 | with_reducible refine g_asg ?_
 | with_reducible refine g_asgX ?_
 | with_reducible refine g_drop ?_
 | with_reducible refine g_ret ?_
 | with_reducible refine g_retN ?_
 | with_reducible refine g_if ?_
 | with_reducible refine g_next ?_
 | with_reducible refine g_bk ?_
 | with_reducible refine g_ct ?_
 | with_reducible refine g_augS ?_
 | with_reducible refine g_for ?_
 | with_reducible refine g_while ?_
 | with_reducible refine g_par ?_
 | ((with_reducible refine' g_aug ?hh ?kk); (case hh => exact rfl)))
local macro_rules | `(tactic| walk_at "ev1") => `(tactic| first
 | with_reducible refine g_rt ?_
 | with_reducible refine g_lc ?_
 | with_reducible refine g_iList ?_
 | with_reducible refine g_iRng1 ?_
 | with_reducible refine g_iRev ?_
 | with_reducible refine g_yes ?_
 | ((with_reducible refine' g_wipe ?hh ?kk); (case hh => exact rfl))
 | with_reducible refine g_name ?_
 | ((with_reducible refine' g_var ?hh ?kk); (case hh => exact rfl))
 | with_reducible refine g_c ?_
 | with_reducible refine g_op ?_
 | with_reducible refine g_un ?_
 | with_reducible refine g_nil ?_
 | with_reducible refine g_cons ?_
 | with_reducible refine g_cb ?_
 | with_reducible refine g_call ?_
 | with_reducible refine g_lst ?_
 | with_reducible refine g_tup ?_
 | with_reducible refine g_test ?_
 | with_reducible refine g_B ?_
 | with_reducible refine g_bl ?_
 | with_reducible refine g_int ?_
 | with_reducible refine g_and ?_
 | with_reducible refine g_or ?_
 | with_reducible refine g_not ?_
 | with_reducible refine g_andV ?_
 | with_reducible refine g_orV ?_
 | with_reducible refine g_notV ?_
 | with_reducible refine g_ifE ?_
 | with_reducible refine g_chain ?_
 | with_reducible refine g_sub ?_
 | with_reducible refine g_sl ?_
 | with_reducible refine g_noPart ?_
 | with_reducible refine g_part ?_
 | with_reducible refine g_rev ?_
 | with_reducible refine g_bm ?_
 | with_reducible refine g_bm0 ?_
 | with_reducible refine v_add ?_
 | with_reducible refine v_sub ?_
 | with_reducible refine v_iadd ?_
 | with_reducible refine v_isub ?_
 | with_reducible refine v_lt ?_
 | with_reducible refine v_le ?_
 | with_reducible refine v_gt ?_
 | with_reducible refine v_ge ?_
 | with_reducible refine v_eqI ?_
 | with_reducible refine v_neI ?_
 | with_reducible refine v_eqS ?_
 | with_reducible refine v_eqB ?_
 | with_reducible refine v_neB ?_
 | ((with_reducible refine' v_mod ?hh ?kk); (case hh => first | decide | omega))
 | ((with_reducible refine' v_mul ?hh ?kk); (case hh => walk_at "mul"))
 | ((with_reducible refine' v_imul ?hh ?kk); (case hh => first | exact Or.inr ⟨by decide, by decide⟩ | exact Or.inl ⟨by decide, by decide⟩ | exact Or.inr ⟨by omega, by omega⟩ | exact Or.inl ⟨by omega, by omega⟩))
 | ((with_reducible refine' v_div ?hh ?kk); (case hh => first | decide | exact ⟨by omega, by omega⟩))
 | ((with_reducible refine' v_divB ?hh ?kk); (case hh => first | decide | exact ⟨by omega, by omega⟩))
 | ((with_reducible refine' v_idiv ?hh ?kk); (case hh => first | exact ⟨by decide, by decide⟩ | exact ⟨by omega, by omega⟩))
 | ((with_reducible refine' v_ixL ?hs ?hh ?kk); (case hs => walk_at "sl"); (case hh => exact rfl))
 | ((with_reducible refine' v_ixT ?hs ?hh ?kk); (case hs => walk_at "sq"); (case hh => exact rfl))
 | ((with_reducible refine' v_get ?hs ?h0 ?hh ?kk); (case hs => walk_at "sl"); (case h0 => decide); (case hh => exact rfl))
 | ((with_reducible refine' v_lenL ?hs ?kk); (case hs => walk_at "sl"))
 | ((with_reducible refine' v_pow ?hh ?kk); (case hh => decide +kernel))
 | with_reducible refine v_abs ?_
 | with_reducible refine v_neg ?_
 | with_reducible refine v_isN ?_
 | with_reducible refine v_notN ?_
 | with_reducible refine v_two ?_
 | with_reducible refine g_callN ?_
 | ((with_reducible refine' v_lens ?h1 ?h2 ?kk); (case h1 => exact rfl); (case h2 => exact rfl))
 | ((with_reducible refine' g_gtup ?h1 ?h2 ?kk); (case h1 => walk_at "sq"); (case h2 => exact rfl))
 | with_reducible refine g_gcons ?_
 | with_reducible refine g_gnil ?_
 | with_reducible refine v_ifNT ?_
 | with_reducible refine v_ifNF ?_
 | with_reducible refine v_ifT ?_
 | with_reducible refine v_ifF ?_)
local macro_rules | `(tactic| walk_at "ev") => `(tactic| repeat walk_at "ev1")
local macro_rules | `(tactic| walk_at "nx") => `(tactic| repeat with_reducible refine g_nx ?_)
local macro_rules | `(tactic| walk_at "st") => `(tactic| ((repeat first | with_reducible refine g_nx ?_ | with_reducible refine g_seq ?_); walk_at "sts"; walk_at "ev"))
local macro_rules | `(tactic| walk_at "go1") => `(tactic| first | with_reducible refine g_nx ?_ | with_reducible refine g_seq ?_ | walk_at "sts" | walk_at "ev1")
local macro_rules | `(tactic| walk_at "go") => `(tactic| repeat walk_at "go1")
local macro_rules | `(tactic| walk_at "sub1") => `(tactic| first
 | exact Sub.refl _ | exact Sub.nil _
 | refine Sub.cons 0 rfl ?_ | refine Sub.cons 1 rfl ?_ | refine Sub.cons 2 rfl ?_ | refine Sub.cons 3 rfl ?_ | refine Sub.cons 4 rfl ?_ | refine Sub.cons 5 rfl ?_ | refine Sub.cons 6 rfl ?_ | refine Sub.cons 7 rfl ?_
 | refine Sub.cons 8 rfl ?_ | refine Sub.cons 9 rfl ?_ | refine Sub.cons 10 rfl ?_ | refine Sub.cons 11 rfl ?_ | refine Sub.cons 12 rfl ?_ | refine Sub.cons 13 rfl ?_ | refine Sub.cons 14 rfl ?_ | refine Sub.cons 15 rfl ?_ | refine Sub.tl ?_)
local macro_rules | `(tactic| walk_at "sub") => `(tactic| (refine M.sub ?_ (by assumption); repeat walk_at "sub1"))
local macro_rules | `(tactic| walk_at "sts") => `(tactic| first
 | with_reducible refine g_sfld ?_
 | with_reducible refine g_rz ?_
 | with_reducible refine g_try ?_)
local macro_rules | `(tactic| walk_at "ev1") => `(tactic| first
 | with_reducible refine g_callW ?_
 | with_reducible refine g_meth ?_
 | with_reducible refine g_make ?_
 | with_reducible refine g_fld ?_
 | with_reducible refine g_dpop ?_
 | with_reducible refine g_callE ?_
 | with_reducible refine g_xg ?_)
abbrev bagO (x y z : Int) (cl : Addr) : HO := .lst [.int x, .int y, .int z, .ref cl]
structure BagOk (x y z : Int) (ns : List Int) : Prop where
 x0 : 0 <= x
 y0 : 0 <= y
 y1 : y < 2147483647
 z0 : 0 <= z
 nn : ∀ n ∈ ns, (0 : Int) <= n
def bagR (bag : Addr) : Res := exi λ (b : Int × Int × Int × Addr × List Int) => prp (BagOk b.1 b.2.1 b.2.2.1 b.2.2.2.2) (sp2 (pt bag (bagO b.1 b.2.1 b.2.2.1 b.2.2.2.1)) (pt b.2.2.2.1 (.lst (b.2.2.2.2.map V.int))))
theorem bag_open {bag : Addr} {Rs : List Res} {H : Hp} (S : M (bagR bag :: Rs) H) : ∃ x y z cl ns, BagOk x y z ns /\ M (pt bag (bagO x y z cl) :: pt cl (.lst (ns.map V.int)) :: Rs) H := by
 obtain ⟨⟨x, y, z, cl, ns⟩, S⟩ := S.ex
 obtain ⟨ok, S⟩ := S.pr
 exact ⟨x, y, z, cl, ns, ok, S.sp⟩
theorem bag_close {bag cl : Addr} {x y z : Int} {ns : List Int} {Rs : List Res} {H : Hp} (ok : BagOk x y z ns) (S : M (pt bag (bagO x y z cl) :: pt cl (.lst (ns.map V.int)) :: Rs) H) : M (bagR bag :: Rs) H :=
 M.ex' (T := λ (b : Int × Int × Int × Addr × List Int) => prp (BagOk b.1 b.2.1 b.2.2.1 b.2.2.2.2) (sp2 (pt bag (bagO b.1 b.2.1 b.2.2.1 b.2.2.2.1)) (pt b.2.2.2.1 (.lst (b.2.2.2.2.map V.int))))) (x, y, z, cl, ns) (M.pr' ok S.sp')
def sp_l_take (K : Fr) : Sp := λ vs H Q _ => ∃ (Rs : List Res) (bag : Addr) (many : Int), vs = [.ref bag, .int many] /\ M (bagR bag :: Rs) H /\ 0 < many /\ many < 2 ^ 120 /\
 ∀ v H', 0 <= v -> v < many -> M (bagR bag :: Rs) H' -> Q (.int v) H'
abbrev t_l_take_6 (K : Fr) : TS := (tSeq (tIfS (tTest (tOp uGe (tVar 4) (tC (.int 1000000000000000000)))) (tAsg (tVar 4) (gSub (tVar 0) (tC (.int 0)) uSet)) tNext)
 (tAsg (tOp uMod (tOp (uAdd K) (tOp (uAdd K) (tOp uMul (tOp (uIx K) (tVar 0) (tC (.int 1))) (tC (.int 48271))) (tOp uMod (tVar 4) (tC (.int 2147483647)))) (tOp uMul (tC (.int 7919)) (tOp (uIx K) (tVar 0) (tC (.int 2))))) (tC (.int 2147483647))) (gSub (tVar 0) (tC (.int 1)) uSet)))
abbrev t_l_take_5 (K : Fr) : TS := (tSeq (tAugS (tVar 0) (tC (.int 2)) (tC (.int 1)) (gIx K) iAdd uSet)
 (t_l_take_6 K))
abbrev t_l_take_3 (K : Fr) : TS := (tSeq (tIfS (tTest (tOp uLt (tOp (uIx K) (tVar 0) (tC (.int 2))) (tCB (uLen K) (tCons (tOp (uIx K) (tVar 0) (tC (.int 3))) tNil)))) (tAsg (tOp (uIx K) (tOp (uIx K) (tVar 0) (tC (.int 3))) (tOp (uIx K) (tVar 0) (tC (.int 2)))) (gName 4)) tNext)
 (t_l_take_5 K))
abbrev t_l_take_2 (K : Fr) : TS := (tSeq (tAsg (tC (.int 0)) (gName 4))
 (t_l_take_3 K))
abbrev t_l_take_11 (K : Fr) : TS := (tSeq (tAsg (tOp uDiv (tOp (uIx K) (tVar 0) (tC (.int 0))) (tVar 1)) (gSub (tVar 0) (tC (.int 0)) uSet))
 (tRet (tVar 5)))
abbrev t_l_take_10 (K : Fr) : TS := (tSeq (tAsg (tOp uMod (tOp (uIx K) (tVar 0) (tC (.int 0))) (tVar 1)) (gName 5))
 (t_l_take_11 K))
abbrev t_l_take_15 (K : Fr) : TS := (tSeq (tIfS (tTest (tOp uGt (tVar 1) (tC (.int 1000000)))) (tRet (tOp uMod (tOp (uAdd K) (tOp uMul (tVar 3) (tC (.int 1000000007))) (tVar 2)) (tVar 1))) tNext)
 (tRet (tOp uMod (tOp uDiv (tVar 3) (tC (.int 7))) (tVar 1))))
abbrev t_l_take_14 (K : Fr) : TS := (tSeq (tAsg (tOp uMod (tOp uMul (tOp uMod (tOp uMul (tVar 2) (tVar 2)) (tC (.int 998244353))) (tC (.int 30011))) (tC (.int 998244353))) (gName 3))
 (t_l_take_15 K))
abbrev t_l_take_13 (K : Fr) : TS := (tSeq (tAsg (tOp uMod (tOp uMul (tOp (uAdd K) (tOp (uIx K) (tVar 0) (tC (.int 1))) (tC (.int 1))) (tC (.int 39373))) (tC (.int 1000000007))) (gName 2))
 (t_l_take_14 K))
abbrev t_l_take_9 (K : Fr) : TS := (tSeq (tIfS (tTest (tOp uGt (tOp (uIx K) (tVar 0) (tC (.int 0))) (tC (.int 0)))) (t_l_take_10 K) tNext)
 (t_l_take_13 K))
abbrev t_l_take_1 (K : Fr) : TS := (tSeq (tIfS (tTest (tOp (uEq K) (tOp (uIx K) (tVar 0) (tC (.int 0))) (tC (.int 0)))) (t_l_take_2 K) tNext)
 (t_l_take_9 K))
abbrev t_l_take (K : Fr) : TS := (t_l_take_1 K)
theorem take_tail {K : Fr} {Q : VK} {Rs : List Res} {bag cl : Addr} {many x y z : Int} {ns : List Int} {c : Option V} {H : Hp} (m0 : 0 < many) (m1 : many < 2 ^ 120) (ok : BagOk x y z ns)
   (k : ∀ v H', 0 <= v -> v < many -> M (bagR bag :: Rs) H' -> Q (.int v) H') (S : M (pt bag (bagO x y z cl) :: pt cl (.lst (ns.map V.int)) :: Rs) H) :
   t_l_take_9 K { nx := λ _ H' => Q .non H', rt := Q } [some (V.ref bag), some (V.int many), none, none, c, none] H := by
 have x0 := ok.x0
 have y0 := ok.y0
 have y1 := ok.y1
 walk_at "go"
 refine v_ifD (λ h => ?_) (λ h => ?_)
 · walk_at "go"
   refine v_set S 0 rfl rfl λ H' S' => ?_
   have S2 : M (pt bag (bagO (x / many) y z cl) :: pt cl (.lst (ns.map V.int)) :: Rs) H' := S'
   walk_at "go"
   exact k _ _ (Int.emod_nonneg _ (by omega)) (Int.emod_lt_of_pos _ m0) (bag_close ⟨Int.ediv_nonneg x0 (Int.le_of_lt m0), y0, y1, ok.z0, ok.nn⟩ S2)
 · walk_at "go"
   have f0 := Int.emod_nonneg ((y + 1) * 39373) (show (1000000007 : Int) ≠ 0 by decide)
   have f1 := Int.emod_lt_of_pos ((y + 1) * 39373) (show (0 : Int) < 1000000007 by decide)
   walk_at "go"
   have g0 := Int.emod_nonneg ((y + 1) * 39373 % 1000000007 * ((y + 1) * 39373 % 1000000007) % 998244353 * 30011) (show (998244353 : Int) ≠ 0 by decide)
   have g1 := Int.emod_lt_of_pos ((y + 1) * 39373 % 1000000007 * ((y + 1) * 39373 % 1000000007) % 998244353 * 30011) (show (0 : Int) < 998244353 by decide)
   refine v_ifD (λ h => ?_) (λ h => ?_)
   · walk_at "go"
     exact k _ _ (Int.emod_nonneg _ (by omega)) (Int.emod_lt_of_pos _ m0) (bag_close ok S)
   · walk_at "go"
     exact k _ _ (Int.emod_nonneg _ (by omega)) (Int.emod_lt_of_pos _ m0) (bag_close ok S)
theorem take_mid {K : Fr} {Q : VK} {Rs : List Res} {bag cl : Addr} {many y z c : Int} {ns : List Int} {H : Hp} (m0 : 0 < many) (m1 : many < 2 ^ 120) (ok : BagOk 0 y z ns) (c0 : 0 <= c)
   (k : ∀ v H', 0 <= v -> v < many -> M (bagR bag :: Rs) H' -> Q (.int v) H') (S : M (pt bag (bagO 0 y z cl) :: pt cl (.lst (ns.map V.int)) :: Rs) H) :
   t_l_take_5 K { nx := t_l_take_9 K { nx := λ _ H' => Q .non H', rt := Q }, rt := Q } [some (V.ref bag), some (V.int many), none, none, some (.int c), none] H := by
 have y0 := ok.y0
 have y1 := ok.y1
 have z0 := ok.z0
 have fin : ∀ {x : Int} {H' : Hp}, 0 <= x -> M (pt bag (bagO x y (z + 1) cl) :: pt cl (.lst (ns.map V.int)) :: Rs) H' ->
     tAsg (tOp uMod (tOp (uAdd K) (tOp (uAdd K) (tOp uMul (tOp (uIx K) (tVar 0) (tC (.int 1))) (tC (.int 48271))) (tOp uMod (tVar 4) (tC (.int 2147483647)))) (tOp uMul (tC (.int 7919)) (tOp (uIx K) (tVar 0) (tC (.int 2))))) (tC (.int 2147483647))) (gSub (tVar 0) (tC (.int 1)) uSet)
       { nx := t_l_take_9 K { nx := λ _ H' => Q .non H', rt := Q }, rt := Q } [some (V.ref bag), some (V.int many), none, none, some (.int c), none] H' := by
   intro x H' x0 S
   walk_at "go"
   refine v_set S 0 rfl rfl λ H2 S' => ?_
   have S2 : M (pt bag (bagO x ((y * 48271 + c % 2147483647 + 7919 * (z + 1)) % 2147483647) (z + 1) cl) :: pt cl (.lst (ns.map V.int)) :: Rs) H2 := S'
   walk_at "nx"
   exact take_tail m0 m1 ⟨x0, Int.emod_nonneg _ (by decide), Int.emod_lt_of_pos _ (by decide), by omega, ok.nn⟩ k S2
 walk_at "go"
 refine v_set S 0 rfl rfl λ H' S' => ?_
 have S2 : M (pt bag (bagO 0 y (z + 1) cl) :: pt cl (.lst (ns.map V.int)) :: Rs) H' := S'
 walk_at "go"
 refine v_ifD (λ h => ?_) (λ h => ?_)
 · walk_at "go"
   refine v_set S2 0 rfl rfl λ H2 S' => ?_
   have S3 : M (pt bag (bagO c y (z + 1) cl) :: pt cl (.lst (ns.map V.int)) :: Rs) H2 := S'
   exact fin c0 S3
 · walk_at "st"
   exact fin (Int.le_refl 0) S2
theorem len_l_take {K : Fr} (vs : List V) (H : Hp) (Q : VK) (E : XK) (h : sp_l_take K vs H Q E) : vs.length = 2 := by
 obtain ⟨Rs, bag, many, rfl, _⟩ := h
 rfl
theorem pure_l_take {K : Fr} (vs : List V) (H : Hp) (Q : VK) (E : XK) (h : sp_l_take K vs H Q E) : t_l_take K { nx := λ _ H' => Q .non H', rt := Q } (start ["_law_bag_here", "_law_many", "_law_first", "_law_second", "_law_cell", "_law_value"] vs) H := by
 obtain ⟨Rs, bag, many, rfl, S, m0, m1, k⟩ := h
 obtain ⟨x, y, z, cl, ns, ok, S⟩ := bag_open S
 show t_l_take K _ [some (V.ref bag), some (V.int many), none, none, none, none] H
 walk_at "go"
 refine v_ifD (λ h => ?_) (λ h => ?_)
 · subst h
   walk_at "go"
   refine v_ifD (λ h => ?_) (λ h => ?_)
   · rw [List.length_map] at h
     walk_at "go"
     refine v_ixL (SqL.of (S.got 1 rfl)) (atI_ints ok.z0 h) ?_
     walk_at "nx"
     refine take_mid m0 m1 ok ?_ k S
     rw [List.getD_eq_getElem?_getD]
     cases e : ns[z.toNat]? with
     | none => exact Int.le_refl 0
     | some n => exact ok.nn n (List.mem_of_getElem? e)
   · walk_at "st"
     exact take_mid m0 m1 ok (Int.le_refl 0) k S
 · walk_at "st"
   exact take_tail m0 m1 ok k S
def sp_l_bag (K : Fr) : Sp := λ vs H Q _ => ∃ (Rs : List Res) (a : Addr) (ns : List Int), vs = [.ref a] /\ M Rs H /\ Ent Rs (λ H => SqL K H a (ns.map V.int)) /\ ns.length <= 63 /\ ∀ bag H', M (bagR bag :: Rs) H' -> Q (.ref bag) H'
theorem len_l_bag {K : Fr} (vs : List V) (H : Hp) (Q : VK) (E : XK) (h : sp_l_bag K vs H Q E) : vs.length = 1 := by
 obtain ⟨Rs, a, ns, rfl, _⟩ := h
 rfl
abbrev t_l_bag (K : Fr) : TS := (tRet (tLst (tCons (tC (.int 0)) (tCons (tC (.int 1234567891)) (tCons (tC (.int 0)) (tCons (tLc (iList K (tSl (uSl K) (tVar 0) tNoPart (tPart (tC (.int 63))))) (gName 1) tYes (tCB rAbs (tCons (tVar 1) tNil)) [1]) tNil))))))
theorem pure_l_bag {K : Fr} (vs : List V) (H : Hp) (Q : VK) (E : XK) (h : sp_l_bag K vs H Q E) : t_l_bag K { nx := λ _ H' => Q .non H', rt := Q } (start ["_law_script", "_law_cell"] vs) H := by
 obtain ⟨Rs, a, ns, rfl, S, hS, hl, k⟩ := h
 show t_l_bag K _ [some (V.ref a), none] H
 walk_at "go"
 refine v_slL S (hS H S) λ q H1 S1 => ?_
 rw [show cutV (ns.map V.int) none (some 63) = (ns.map V.int).take 63 from cut_to _ 63, <- List.map_take] at S1
 refine v_itL (SqL.of (S1.got 0 rfl)) ?_
 refine lc_W walk_list S1 (λ i acc => ∃ ms : List Int, acc = ms.map V.int /\ ms.length <= i /\ ∀ n ∈ ms, 0 <= n) ⟨[], rfl, Nat.le_refl _, (λ _ h => nomatch h)⟩ (λ H S => SqL.of (S.got 0 rfl)) ?_ ?_
 · intro i x acc E H H' hi hp S y
   obtain ⟨rfl, hx⟩ := y
   obtain ⟨n, _, rfl⟩ := ints_get hx
   obtain ⟨ms, rfl, hm, hn⟩ := hp
   walk_at "go"
   have hz : i < 63 := by
     rw [List.length_map, List.length_take] at hi
     omega
   refine lc_next S 0 rfl (by rw [List.length_map]; omega) λ H' S' => ?_
   refine ⟨_, ⟨ms ++ [if n < 0 then -n else n], by simp, by simp; omega, λ m h => ?_⟩, S'⟩
   rcases List.mem_append.mp h with h | h
   · exact hn m h
   · cases List.mem_singleton.mp h
     split <;> omega
 · rintro E acc H ⟨ms, rfl, _, hn⟩ S
   walk_at "go"
   refine v_lst S (by simp) λ p H' S' => ?_
   walk_at "go"
   have S2 : M (pt p (bagO 0 1234567891 0 E) :: pt E (.lst (ms.map V.int)) :: Rs) H' := (S'.at 2 rfl).tl
   exact k p H' (bag_close ⟨by decide, by decide, by decide, by decide, hn⟩ S2)
theorem u_take {K : Fr} {Rs : List Res} {H : Hp} {bag : Addr} {many : Int} {Q : VK} {E : XK} (S : M (bagR bag :: Rs) H) (h : 0 < many /\ many < 2 ^ 62) (k : ∀ v H', 0 <= v -> v < many -> M (bagR bag :: Rs) H' -> Q (.int v) H') :
   sp_l_take K ([.ref bag, .int many] ++ []) H Q E := ⟨Rs, bag, many, rfl, S, h.1, by omega, k⟩
def sp_l_alike (K : Fr) : Sp := λ vs H Q _ => ∃ (x y : V) (d : PyData), vs = [x, y] /\ Dn K H x d /\ Dn K H y d /\ AlkOk d /\ Q (.bl true) H
theorem len_l_alike {K : Fr} (vs : List V) (H : Hp) (Q : VK) (E : XK) (h : sp_l_alike K vs H Q E) : vs.length = 2 := by
 obtain ⟨x, y, d, rfl, _⟩ := h
 rfl
abbrev t_l_alike (K : Fr) : TS := (tRet (tAndV (tOp (uEqQ K) (tVar 0) (tVar 1)) (tOp (uEqQ K) (tCB (rReprQ K) (tCons (tVar 0) tNil)) (tCB (rReprQ K) (tCons (tVar 1) tNil)))))
theorem pure_l_alike {K : Fr} (vs : List V) (H : Hp) (Q : VK) (E : XK) (h : sp_l_alike K vs H Q E) : t_l_alike K { nx := λ _ H' => Q .non H', rt := Q } (L2.start ["_law_found", "_law_due"] vs) H := by
 obtain ⟨x, y, d, rfl, h1, h2, ok, k⟩ := h
 show t_l_alike K _ [some x, some y] H
 refine g_ret (g_andV (g_op (g_var rfl (g_var rfl (.inr ⟨d, h1, h2, ok.ok, ok.dp, g_bl (v_ifT ?_)⟩)))))
 refine g_op (g_cb (g_cons (g_var rfl (g_nil ⟨x, d, rfl, h1, ok.sh, ok.dp, ok.ln, ?_⟩))))
 refine g_cb (g_cons (g_var rfl (g_nil ⟨y, d, rfl, h2, ok.sh, ok.dp, ok.ln, ?_⟩)))
 refine .inl (v_eqS ?_)
 rw [decide_eq_true rfl]
 exact k
structure TxC (K : Fr) : Prop where
 ct_DEED_KINDS : ∀ H, SqT K H (He.ga K "DEED_KINDS") [.str "full", .str "step", .str "wide"]
def p_l_names (a_many : Int) (P : (List Str) -> Prop) : Prop := takeD 3 λ n8 => takeD 26 λ n12 => takeD 8 λ n16 => takeD (1 + n16) λ n20 => ((-(2 ^ 62) : Int) <= (1 + n16) /\ (1 + n16) < (2 ^ 62 : Int)) /\ (rng (1 + n16)).length <= 100000 /\ lcD (λ (x29 : Int) (k36 : Option Str -> Prop) => takeD 26 λ n38 => ∃ x41, atS ("abcdefghijklmnopqrstuvwxyz" : Str) n38 = some x41 /\ k36 (some x41)) (rng (1 + n16)) [] λ acc26 => if (decide (n8 = 0)) = true then (([("none" : Str), ("log" : Str), ("full" : Str), ("step" : Str), ("wide" : Str), ("a" : Str), ("ab" : Str), ("files" : Str), ("run" : Str), ("put" : Str), ("gone" : Str), ("moments" : Str)]).length + ([("none" : Str), ("log" : Str), ("full" : Str), ("step" : Str), ("wide" : Str), ("a" : Str), ("ab" : Str), ("files" : Str), ("run" : Str), ("put" : Str), ("gone" : Str), ("moments" : Str)]).length <= 100000 /\ ((0 : Int) < 12) /\ P (cutL (cutL (cat ([("none" : Str), ("log" : Str), ("full" : Str), ("step" : Str), ("wide" : Str), ("a" : Str), ("ab" : Str), ("files" : Str), ("run" : Str), ("put" : Str), ("gone" : Str), ("moments" : Str)]) ([("none" : Str), ("log" : Str), ("full" : Str), ("step" : Str), ("wide" : Str), ("a" : Str), ("ab" : Str), ("files" : Str), ("run" : Str), ("put" : Str), ("gone" : Str), ("moments" : Str)])) (some (n12 % 12)) none) none (some a_many))) else (((-(2 ^ 62) : Int) <= a_many /\ a_many < (2 ^ 62 : Int)) /\ (rng a_many).length <= 100000 /\ lcD (λ (x76 : Int) (k83 : Option Str -> Prop) => ((0 : Int) < 26) /\ ∃ x91, atS ("abcdefghijklmnopqrstuvwxyz" : Str) ((n12 + x76) % 26) = some x91 /\ ((cutL acc26 none (some n20))).length + ([x91]).length <= 100000 /\ ((cat (cutL acc26 none (some n20)) ([x91]))).length + ((cutL acc26 (some (n20 + 1)) none)).length <= 100000 /\ ((((cat (cat (cutL acc26 none (some n20)) ([x91])) (cutL acc26 (some (n20 + 1)) none))).map (·.length)).sum + ((cat (cat (cutL acc26 none (some n20)) ([x91])) (cutL acc26 (some (n20 + 1)) none))).length * (("" : Str)).length <= 16777216) /\ k83 (some (Txt.join ("" : Str) (cat (cat (cutL acc26 none (some n20)) ([x91])) (cutL acc26 (some (n20 + 1)) none))))) (rng a_many) [] λ acc73 => P acc73)
def sp_l_names (K : Fr) : Sp := λ vs H Q _ => ∃ (Rs : List Res) (a_bag_here : Addr) (a_many : Int) (P : (List Str) -> Prop), vs = [(V.ref a_bag_here), (V.int a_many)] /\ M (bagR a_bag_here :: Rs) H /\ p_l_names a_many P /\ ∀ (r : (List Str)) (v : V) H', P r -> M (da K v ((eL eS) r) :: bagR a_bag_here :: Rs) H' -> Q v H'
theorem len_l_names {K : Fr} (vs : List V) (H : Hp) (Q : VK) (E : XK) (h : sp_l_names K vs H Q E) : vs.length = 2 := by
 obtain ⟨Rs, a_bag_here, a_many, P, rfl, _⟩ := h
 rfl
abbrev t_l_names_8 (K : Fr) : TS := (tSeq (tIfS (tTest (tOp (uEq K) (tVar 4) (tC (.int 0)))) (tRet (tSl (uSl K) (tSl (uSl K) (tOp (uAdd K) (tVar 3) (tVar 3)) (tPart (tOp uMod (tVar 5) (tC (.int 12)))) tNoPart) tNoPart (tPart (tVar 1)))) tNext)
 (tRet (tLc (iRng1 (tCons (tVar 1) tNil)) (gName 9) tYes (tM1 (rJoin K) (tC (.str "")) (tOp (uAdd K) (tOp (uAdd K) (tSl (uSl K) (tVar 8) tNoPart (tPart (tVar 7))) (tLst (tCons (tOp (uIx K) (tVar 2) (tOp uMod (tOp (uAdd K) (tVar 5) (tVar 9)) (tC (.int 26)))) tNil))) (tSl (uSl K) (tVar 8) (tPart (tOp (uAdd K) (tVar 7) (tC (.int 1)))) tNoPart))) [9])))
abbrev t_l_names_7 (K : Fr) : TS := (tSeq (tAsg (tLc (iRng1 (tCons (tVar 6) tNil)) (gName 9) tYes (tOp (uIx K) (tVar 2) (tCall (sp_l_take K) [] E0 (tCons (tVar 0) (tCons (tC (.int 26)) tNil)))) [9]) (gName 8))
 (t_l_names_8 K))
abbrev t_l_names_6 (K : Fr) : TS := (tSeq (tAsg (tCall (sp_l_take K) [] E0 (tCons (tVar 0) (tCons (tVar 6) tNil))) (gName 7))
 (t_l_names_7 K))
abbrev t_l_names_5 (K : Fr) : TS := (tSeq (tAsg (tOp (uAdd K) (tC (.int 1)) (tCall (sp_l_take K) [] E0 (tCons (tVar 0) (tCons (tC (.int 8)) tNil)))) (gName 6))
 (t_l_names_6 K))
abbrev t_l_names_4 (K : Fr) : TS := (tSeq (tAsg (tCall (sp_l_take K) [] E0 (tCons (tVar 0) (tCons (tC (.int 26)) tNil))) (gName 5))
 (t_l_names_5 K))
abbrev t_l_names_3 (K : Fr) : TS := (tSeq (tAsg (tCall (sp_l_take K) [] E0 (tCons (tVar 0) (tCons (tC (.int 3)) tNil))) (gName 4))
 (t_l_names_4 K))
abbrev t_l_names_2 (K : Fr) : TS := (tSeq (tAsg (tLst (tCons (tC (.str "none")) (tCons (tC (.str "log")) (tCons (tC (.str "full")) (tCons (tC (.str "step")) (tCons (tC (.str "wide")) (tCons (tC (.str "a")) (tCons (tC (.str "ab")) (tCons (tC (.str "files")) (tCons (tC (.str "run")) (tCons (tC (.str "put")) (tCons (tC (.str "gone")) (tCons (tC (.str "moments")) tNil))))))))))))) (gName 3))
 (t_l_names_3 K))
abbrev t_l_names_1 (K : Fr) : TS := (tSeq (tAsg (tC (.str "abcdefghijklmnopqrstuvwxyz")) (gName 2))
 (t_l_names_2 K))
abbrev t_l_names (K : Fr) : TS := (t_l_names_1 K)
theorem pure_l_names {K : Fr} (vs : List V) (H : Hp) (Q : VK) (E : XK) (h : sp_l_names K vs H Q E) : t_l_names K { nx := λ _ H' => Q .non H', rt := Q } (L2.start ["_law_bag_here", "_law_many", "_law_letters", "_law_words_here", "_law_pick", "_law_turn", "_law_size", "_law_at", "_law_base", "_law_k"] vs) H := by
 obtain ⟨Rs, a_bag_here, a_many, P, rfl, S0, hf, hk⟩ := h
 show t_l_names K _ [some (V.ref a_bag_here), some (V.int a_many), none, none, none, none, none, none, none, none] H
 refine g_seq (g_asg (g_c (g_nx ?_)))
 show (_ : TS) _ [some (V.ref a_bag_here), some (V.int a_many), some (V.str ("abcdefghijklmnopqrstuvwxyz" : Str)), none, none, none, none, none, none, none] _
 refine g_seq (g_asg (g_lst (g_cons (g_c (g_cons (g_c (g_cons (g_c (g_cons (g_c (g_cons (g_c (g_cons (g_c (g_cons (g_c (g_cons (g_c (g_cons (g_c (g_cons (g_c (g_cons (g_c (g_cons (g_c (g_nil (v_lsto (ds := ([("none" : Str), ("log" : Str), ("full" : Str), ("step" : Str), ("wide" : Str), ("a" : Str), ("ab" : Str), ("files" : Str), ("run" : Str), ("put" : Str), ("gone" : Str), ("moments" : Str)]).map eS) S0 (EnF.consA (EnF.all λ _ => .str _) (EnF.consA (EnF.all λ _ => .str _) (EnF.consA (EnF.all λ _ => .str _) (EnF.consA (EnF.all λ _ => .str _) (EnF.consA (EnF.all λ _ => .str _) (EnF.consA (EnF.all λ _ => .str _) (EnF.consA (EnF.all λ _ => .str _) (EnF.consA (EnF.all λ _ => .str _) (EnF.consA (EnF.all λ _ => .str _) (EnF.consA (EnF.all λ _ => .str _) (EnF.consA (EnF.all λ _ => .str _) (EnF.consA (EnF.all λ _ => .str _) EnF.nilA)))))))))))) (len_ok rfl) λ p1 H3 (S2 : M (acR K p1 (([("none" : Str), ("log" : Str), ("full" : Str), ("step" : Str), ("wide" : Str), ("a" : Str), ("ab" : Str), ("files" : Str), ("run" : Str), ("put" : Str), ("gone" : Str), ("moments" : Str)]).map eS) :: _ :: Rs) H3) => ?_))))))))))))))))))))))))))))
 have S5 : M (da K (V.ref p1) ((eL eS) ([("none" : Str), ("log" : Str), ("full" : Str), ("step" : Str), ("wide" : Str), ("a" : Str), ("ab" : Str), ("files" : Str), ("run" : Str), ("put" : Str), ("gone" : Str), ("moments" : Str)])) :: _ :: Rs) H3 := acR_fixL S2
 refine g_nx ?_
 show (_ : TS) _ [some (V.ref a_bag_here), some (V.int a_many), some (V.str ("abcdefghijklmnopqrstuvwxyz" : Str)), some (V.ref p1), none, none, none, none, none, none] _
 refine g_seq (g_asg (g_call (g_cons (g_var rfl (g_cons (g_c (g_nil ?_)))))))
 obtain ⟨h7, hf⟩ := hf
 refine u_take (S5.at 1 rfl) h7 λ n8 H10 n8l n8u (S9 : M (oo2 Rs) H10) => ?_
 replace hf := hf n8 n8l n8u
 refine g_nx ?_
 show (_ : TS) _ [some (V.ref a_bag_here), some (V.int a_many), some (V.str ("abcdefghijklmnopqrstuvwxyz" : Str)), some (V.ref p1), some (V.int n8), none, none, none, none, none] _
 refine g_seq (g_asg (g_call (g_cons (g_var rfl (g_cons (g_c (g_nil ?_)))))))
 obtain ⟨h11, hf⟩ := hf
 refine u_take (S9.at 0 rfl) h11 λ n12 H14 n12l n12u (S13 : M (oo2 Rs) H14) => ?_
 replace hf := hf n12 n12l n12u
 refine g_nx ?_
 show (_ : TS) _ [some (V.ref a_bag_here), some (V.int a_many), some (V.str ("abcdefghijklmnopqrstuvwxyz" : Str)), some (V.ref p1), some (V.int n8), some (V.int n12), none, none, none, none] _
 refine g_seq (g_asg (g_op (g_c (g_call (g_cons (g_var rfl (g_cons (g_c (g_nil ?_)))))))))
 obtain ⟨h15, hf⟩ := hf
 refine u_take (S13.at 0 rfl) h15 λ n16 H18 n16l n16u (S17 : M (oo2 Rs) H18) => ?_
 replace hf := hf n16 n16l n16u
 refine v_add (g_nx ?_)
 show (_ : TS) _ [some (V.ref a_bag_here), some (V.int a_many), some (V.str ("abcdefghijklmnopqrstuvwxyz" : Str)), some (V.ref p1), some (V.int n8), some (V.int n12), some (V.int (1 + n16)), none, none, none] _
 refine g_seq (g_asg (g_call (g_cons (g_var rfl (g_cons (g_var rfl (g_nil ?_)))))))
 obtain ⟨h19, hf⟩ := hf
 refine u_take (S17.at 0 rfl) h19 λ n20 H22 n20l n20u (S21 : M (oo2 Rs) H22) => ?_
 replace hf := hf n20 n20l n20u
 refine g_nx ?_
 show (_ : TS) _ [some (V.ref a_bag_here), some (V.int a_many), some (V.str ("abcdefghijklmnopqrstuvwxyz" : Str)), some (V.ref p1), some (V.int n8), some (V.int n12), some (V.int (1 + n16)), some (V.int n20), none, none] _
 obtain ⟨h25, hf⟩ := hf
 refine g_seq (g_asg (g_lc (g_iRng1 (g_cons (g_var rfl (g_nil (v_itR h25 ?_)))))))
 refine lc_rng (K := K) (e' := eS) hf S21 (λ x29 acc26 E27 H35 kk28 N30 hl31 S34 hf hp32 hn33 => ?_) (λ E27 acc26 H46 hf S45 => ?_)
 ·
  refine g_name (g_wipe rfl (g_yes (v_ifT (g_op (g_var rfl (g_call (g_cons (g_var rfl (g_cons (g_c (g_nil ?_)))))))))))
  obtain ⟨h37, hf⟩ := hf
  refine u_take (S34.at 1 rfl) h37 λ n38 H40 n38l n38u (S39 : M (_ :: acR K E27 (acc26.map eS) :: _ :: Rs) H40) => ?_
  replace hf := hf n38 n38l n38u
  obtain ⟨x41, h42, hf⟩ := hf
  refine v_ixs h42 (acR_put S39 1 rfl (EnF.all λ _ => .str _) hl31 λ H44 (S43 : M (acR K E27 (acc26.map eS ++ [eS x41]) :: oo2 Rs) H44) => ?_)
  exact hp32 _ _ hf (M.pk S43 3 [0, 1, 2] rfl)
 have S48 : M (da K (V.ref E27) ((eL eS) acc26) :: oo2 Rs) H46 := acR_fixL S45
 refine g_nx ?_
 show (_ : TS) _ [some (V.ref a_bag_here), some (V.int a_many), some (V.str ("abcdefghijklmnopqrstuvwxyz" : Str)), some (V.ref p1), some (V.int n8), some (V.int n12), some (V.int (1 + n16)), some (V.int n20), some (V.ref E27), none] _
 refine g_seq (g_if (g_test (g_op (g_var rfl (g_c (v_eqI (g_bl (v_iff hf (λ _ hf => ?_) (λ _ hf => ?_)))))))))
 ·
  refine g_ret (g_sl (g_sl (g_op (g_var rfl (g_var rfl ?_)))))
  obtain ⟨h50, hf⟩ := hf
  refine v_catN flS S48 (M.gotA S48 2 rfl) (M.gotA S48 2 rfl) h50 λ p51 H53 (S52 : M (acR K p51 ((cat ([("none" : Str), ("log" : Str), ("full" : Str), ("step" : Str), ("wide" : Str), ("a" : Str), ("ab" : Str), ("files" : Str), ("run" : Str), ("put" : Str), ("gone" : Str), ("moments" : Str)]) ([("none" : Str), ("log" : Str), ("full" : Str), ("step" : Str), ("wide" : Str), ("a" : Str), ("ab" : Str), ("files" : Str), ("run" : Str), ("put" : Str), ("gone" : Str), ("moments" : Str)])).map eS) :: oo3 Rs) H53) => ?_
  have S55 : M (da K (V.ref p51) ((eL eS) (cat ([("none" : Str), ("log" : Str), ("full" : Str), ("step" : Str), ("wide" : Str), ("a" : Str), ("ab" : Str), ("files" : Str), ("run" : Str), ("put" : Str), ("gone" : Str), ("moments" : Str)]) ([("none" : Str), ("log" : Str), ("full" : Str), ("step" : Str), ("wide" : Str), ("a" : Str), ("ab" : Str), ("files" : Str), ("run" : Str), ("put" : Str), ("gone" : Str), ("moments" : Str)]))) :: oo3 Rs) H53 := acR_fixL S52
  obtain ⟨h57, hf⟩ := hf
  refine g_part (g_op (g_var rfl (g_c (v_mod h57 (g_int (g_noPart (v_slN flS S55 (M.gotA S55 0 rfl) λ p58 H60 (S59 : M (acR K p58 ((cutL (cat ([("none" : Str), ("log" : Str), ("full" : Str), ("step" : Str), ("wide" : Str), ("a" : Str), ("ab" : Str), ("files" : Str), ("run" : Str), ("put" : Str), ("gone" : Str), ("moments" : Str)]) ([("none" : Str), ("log" : Str), ("full" : Str), ("step" : Str), ("wide" : Str), ("a" : Str), ("ab" : Str), ("files" : Str), ("run" : Str), ("put" : Str), ("gone" : Str), ("moments" : Str)])) (some (n12 % 12)) none).map eS) :: oo4 Rs) H60) => ?_)))))))
  have S62 : M (da K (V.ref p58) ((eL eS) (cutL (cat ([("none" : Str), ("log" : Str), ("full" : Str), ("step" : Str), ("wide" : Str), ("a" : Str), ("ab" : Str), ("files" : Str), ("run" : Str), ("put" : Str), ("gone" : Str), ("moments" : Str)]) ([("none" : Str), ("log" : Str), ("full" : Str), ("step" : Str), ("wide" : Str), ("a" : Str), ("ab" : Str), ("files" : Str), ("run" : Str), ("put" : Str), ("gone" : Str), ("moments" : Str)])) (some (n12 % 12)) none)) :: oo4 Rs) H60 := acR_fixL S59
  refine g_noPart (g_part (g_var rfl (g_int (v_slN flS S62 (M.gotA S62 0 rfl) λ p64 H66 (S65 : M (acR K p64 ((cutL (cutL (cat ([("none" : Str), ("log" : Str), ("full" : Str), ("step" : Str), ("wide" : Str), ("a" : Str), ("ab" : Str), ("files" : Str), ("run" : Str), ("put" : Str), ("gone" : Str), ("moments" : Str)]) ([("none" : Str), ("log" : Str), ("full" : Str), ("step" : Str), ("wide" : Str), ("a" : Str), ("ab" : Str), ("files" : Str), ("run" : Str), ("put" : Str), ("gone" : Str), ("moments" : Str)])) (some (n12 % 12)) none) none (some a_many)).map eS) :: oo5 Rs) H66) => ?_))))
  have S68 : M (da K (V.ref p64) ((eL eS) (cutL (cutL (cat ([("none" : Str), ("log" : Str), ("full" : Str), ("step" : Str), ("wide" : Str), ("a" : Str), ("ab" : Str), ("files" : Str), ("run" : Str), ("put" : Str), ("gone" : Str), ("moments" : Str)]) ([("none" : Str), ("log" : Str), ("full" : Str), ("step" : Str), ("wide" : Str), ("a" : Str), ("ab" : Str), ("files" : Str), ("run" : Str), ("put" : Str), ("gone" : Str), ("moments" : Str)])) (some (n12 % 12)) none) none (some a_many))) :: oo5 Rs) H66 := acR_fixL S65
  exact hk _ _ _ hf (M.pk S68 6 [0, 4] rfl)
 ·
  obtain ⟨h72, hf⟩ := hf
  refine g_next (g_nx (g_ret (g_lc (g_iRng1 (g_cons (g_var rfl (g_nil (v_itR h72 ?_))))))))
  refine lc_rng (K := K) (e' := eS) hf S48 (λ x76 acc73 E74 H82 kk75 N77 hl78 S81 hf hp79 hn80 => ?_) (λ E74 acc73 H123 hf S122 => ?_)
  ·
   refine g_name (g_wipe rfl (g_yes (v_ifT (g_m1 (g_c (v_isS (g_op (g_op (g_sl (g_var rfl (g_noPart (g_part (g_var rfl (g_int (v_slN flS S81 (M.gotA S81 1 rfl) λ p84 H86 (S85 : M (acR K p84 ((cutL acc26 none (some n20)).map eS) :: acR K E74 (acc73.map eS) :: oo3 Rs) H86) => ?_)))))))))))))))
   have S88 : M (da K (V.ref p84) ((eL eS) (cutL acc26 none (some n20))) :: oo4 Rs) H86 := acR_fixL S85
   obtain ⟨h90, hf⟩ := hf
   obtain ⟨x91, h92, hf⟩ := hf
   refine g_lst (g_cons (g_op (g_var rfl (g_op (g_op (g_var rfl (g_var rfl (v_add (g_c (v_mod h90 (v_ixs h92 (g_nil (v_lsto (ds := ([x91]).map eS) S88 (EnF.consA (EnF.all λ _ => .str _) EnF.nilA) (len_ok rfl) λ p93 H95 (S94 : M (acR K p93 (([x91]).map eS) :: oo5 Rs) H95) => ?_)))))))))))))
   have S97 : M (da K (V.ref p93) ((eL eS) ([x91])) :: oo5 Rs) H95 := acR_fixL S94
   obtain ⟨h99, hf⟩ := hf
   refine v_catN flS S97 (M.gotA S97 1 rfl) (M.gotA S97 0 rfl) h99 λ p100 H102 (S101 : M (acR K p100 ((cat (cutL acc26 none (some n20)) ([x91])).map eS) :: oo6 Rs) H102) => ?_
   have S104 : M (da K (V.ref p100) ((eL eS) (cat (cutL acc26 none (some n20)) ([x91]))) :: oo6 Rs) H102 := acR_fixL S101
   refine g_sl (g_var rfl (g_part (g_op (g_var rfl (g_c (v_add (g_int (g_noPart (v_slN flS S104 (M.gotA S104 4 rfl) λ p106 H108 (S107 : M (acR K p106 ((cutL acc26 (some (n20 + 1)) none).map eS) :: oo7 Rs) H108) => ?_)))))))))
   have S110 : M (da K (V.ref p106) ((eL eS) (cutL acc26 (some (n20 + 1)) none)) :: oo7 Rs) H108 := acR_fixL S107
   obtain ⟨h112, hf⟩ := hf
   refine v_catN flS S110 (M.gotA S110 1 rfl) (M.gotA S110 0 rfl) h112 λ p113 H115 (S114 : M (acR K p113 ((cat (cat (cutL acc26 none (some n20)) ([x91])) (cutL acc26 (some (n20 + 1)) none)).map eS) :: oo8 Rs) H115) => ?_
   have S117 : M (da K (V.ref p113) ((eL eS) (cat (cat (cutL acc26 none (some n20)) ([x91])) (cutL acc26 (some (n20 + 1)) none))) :: oo8 Rs) H115 := acR_fixL S114
   obtain ⟨h119, hf⟩ := hf
   refine v_join (M.gotA S117 0 rfl) h119 (acR_put S117 5 rfl (EnF.all λ _ => .str _) hl78 λ H121 (S120 : M (acR K E74 (acc73.map eS ++ [eS (Txt.join ("" : Str) (cat (cat (cutL acc26 none (some n20)) ([x91])) (cutL acc26 (some (n20 + 1)) none)))]) :: oo8 Rs) H121) => ?_)
   exact hp79 _ _ hf (M.pk S120 9 [0, 6, 7, 8] rfl)
  have S125 : M (da K (V.ref E74) ((eL eS) acc73) :: oo3 Rs) H123 := acR_fixL S122
  exact hk _ _ _ hf (M.pk S125 4 [0, 2] rfl)
def p_l_content  (P : (List Int) -> Prop) : Prop := takeD 5 λ n2 => takeD 5 λ n6 => takeD 13 λ n10 => takeD 49 λ n14 => takeD 3 λ n22 => ∃ x27, atI ([n6, n10, n14]) n22 = some x27 /\ if (decide (n2 = 0)) = true then (((-(2 ^ 62) : Int) <= x27 /\ x27 < (2 ^ 62 : Int)) /\ (rng x27).length <= 100000 /\ lcD (λ (x36 : Int) (k43 : Option Int -> Prop) => takeD 3 λ n49 => ∃ x54, atI ([1, 7, 2] : List Int) n49 = some x54 /\ k43 (some x54)) (rng x27) [] λ acc33 => P acc33) else (if (decide (n2 = 1)) = true then (((-(2 ^ 62) : Int) <= x27 /\ x27 < (2 ^ 62 : Int)) /\ (rng x27).length <= 100000 /\ lcD (λ (x69 : Int) (k76 : Option Int -> Prop) => takeD 142 λ n78 => (CMul 7 n78 \/ CMulW 7 n78) /\ k76 (some (1 + (7 * n78)))) (rng x27) [] λ acc66 => P acc66) else (if (decide (n2 = 2)) = true then (((-(2 ^ 62) : Int) <= x27 /\ x27 < (2 ^ 62 : Int)) /\ (rng x27).length <= 100000 /\ lcD (λ (x95 : Int) (k102 : Option Int -> Prop) => takeD 142 λ n104 => (CMul 7 n104 \/ CMulW 7 n104) /\ k102 (some (7 * n104))) (rng x27) [] λ acc92 => P acc92) else (if (decide (n2 = 3)) = true then (((-(2 ^ 62) : Int) <= x27 /\ x27 < (2 ^ 62 : Int)) /\ (rng x27).length <= 100000 /\ lcD (λ (x121 : Int) (k128 : Option Int -> Prop) => takeD 2 λ n134 => ∃ x139, atI ([0, 999] : List Int) n134 = some x139 /\ k128 (some x139)) (rng x27) [] λ acc118 => P acc118) else (((-(2 ^ 62) : Int) <= x27 /\ x27 < (2 ^ 62 : Int)) /\ (rng x27).length <= 100000 /\ lcD (λ (x154 : Int) (k161 : Option Int -> Prop) => takeD 1000 λ n163 => k161 (some n163)) (rng x27) [] λ acc151 => P acc151))))
def sp_l_content (K : Fr) : Sp := λ vs H Q _ => ∃ (Rs : List Res) (a_bag_here : Addr) (P : (List Int) -> Prop), vs = [(V.ref a_bag_here)] /\ M (bagR a_bag_here :: Rs) H /\ p_l_content P /\ ∀ (r : (List Int)) (v : V) H', P r -> M (da K v ((eL eI) r) :: bagR a_bag_here :: Rs) H' -> Q v H'
theorem len_l_content {K : Fr} (vs : List V) (H : Hp) (Q : VK) (E : XK) (h : sp_l_content K vs H Q E) : vs.length = 1 := by
 obtain ⟨Rs, a_bag_here, P, rfl, _⟩ := h
 rfl
abbrev t_l_content_9 (K : Fr) : TS := (tSeq (tIfS (tTest (tOp (uEq K) (tVar 1) (tC (.int 3)))) (tRet (tLc (iRng1 (tCons (tVar 2) tNil)) (gName 3) tYes (tOp (uIx K) (tLst (tCons (tC (.int 0)) (tCons (tC (.int 999)) tNil))) (tCall (sp_l_take K) [] E0 (tCons (tVar 0) (tCons (tC (.int 2)) tNil)))) [3])) tNext)
 (tRet (tLc (iRng1 (tCons (tVar 2) tNil)) (gName 3) tYes (tCall (sp_l_take K) [] E0 (tCons (tVar 0) (tCons (tC (.int 1000)) tNil))) [3])))
abbrev t_l_content_7 (K : Fr) : TS := (tSeq (tIfS (tTest (tOp (uEq K) (tVar 1) (tC (.int 2)))) (tRet (tLc (iRng1 (tCons (tVar 2) tNil)) (gName 3) tYes (tOp uMul (tC (.int 7)) (tCall (sp_l_take K) [] E0 (tCons (tVar 0) (tCons (tC (.int 142)) tNil)))) [3])) tNext)
 (t_l_content_9 K))
abbrev t_l_content_5 (K : Fr) : TS := (tSeq (tIfS (tTest (tOp (uEq K) (tVar 1) (tC (.int 1)))) (tRet (tLc (iRng1 (tCons (tVar 2) tNil)) (gName 3) tYes (tOp (uAdd K) (tC (.int 1)) (tOp uMul (tC (.int 7)) (tCall (sp_l_take K) [] E0 (tCons (tVar 0) (tCons (tC (.int 142)) tNil))))) [3])) tNext)
 (t_l_content_7 K))
abbrev t_l_content_3 (K : Fr) : TS := (tSeq (tIfS (tTest (tOp (uEq K) (tVar 1) (tC (.int 0)))) (tRet (tLc (iRng1 (tCons (tVar 2) tNil)) (gName 3) tYes (tOp (uIx K) (tLst (tCons (tC (.int 1)) (tCons (tC (.int 7)) (tCons (tC (.int 2)) tNil)))) (tCall (sp_l_take K) [] E0 (tCons (tVar 0) (tCons (tC (.int 3)) tNil)))) [3])) tNext)
 (t_l_content_5 K))
abbrev t_l_content_2 (K : Fr) : TS := (tSeq (tAsg (tOp (uIx K) (tLst (tCons (tCall (sp_l_take K) [] E0 (tCons (tVar 0) (tCons (tC (.int 5)) tNil))) (tCons (tCall (sp_l_take K) [] E0 (tCons (tVar 0) (tCons (tC (.int 13)) tNil))) (tCons (tCall (sp_l_take K) [] E0 (tCons (tVar 0) (tCons (tC (.int 49)) tNil))) tNil)))) (tCall (sp_l_take K) [] E0 (tCons (tVar 0) (tCons (tC (.int 3)) tNil)))) (gName 2))
 (t_l_content_3 K))
abbrev t_l_content_1 (K : Fr) : TS := (tSeq (tAsg (tCall (sp_l_take K) [] E0 (tCons (tVar 0) (tCons (tC (.int 5)) tNil))) (gName 1))
 (t_l_content_2 K))
abbrev t_l_content (K : Fr) : TS := (t_l_content_1 K)
theorem pure_l_content {K : Fr} (vs : List V) (H : Hp) (Q : VK) (E : XK) (h : sp_l_content K vs H Q E) : t_l_content K { nx := λ _ H' => Q .non H', rt := Q } (L2.start ["_law_bag_here", "_law_pick", "_law_long", "_law_k"] vs) H := by
 obtain ⟨Rs, a_bag_here, P, rfl, S0, hf, hk⟩ := h
 show t_l_content K _ [some (V.ref a_bag_here), none, none, none] H
 refine g_seq (g_asg (g_call (g_cons (g_var rfl (g_cons (g_c (g_nil ?_)))))))
 obtain ⟨h1, hf⟩ := hf
 refine u_take (S0.at 0 rfl) h1 λ n2 H4 n2l n2u (S3 : M (_ :: Rs) H4) => ?_
 replace hf := hf n2 n2l n2u
 refine g_nx ?_
 show (_ : TS) _ [some (V.ref a_bag_here), some (V.int n2), none, none] _
 refine g_seq (g_asg (g_op (g_lst (g_cons (g_call (g_cons (g_var rfl (g_cons (g_c (g_nil ?_))))))))))
 obtain ⟨h5, hf⟩ := hf
 refine u_take (S3.at 0 rfl) h5 λ n6 H8 n6l n6u (S7 : M (_ :: Rs) H8) => ?_
 replace hf := hf n6 n6l n6u
 refine g_cons (g_call (g_cons (g_var rfl (g_cons (g_c (g_nil ?_))))))
 obtain ⟨h9, hf⟩ := hf
 refine u_take (S7.at 0 rfl) h9 λ n10 H12 n10l n10u (S11 : M (_ :: Rs) H12) => ?_
 replace hf := hf n10 n10l n10u
 refine g_cons (g_call (g_cons (g_var rfl (g_cons (g_c (g_nil ?_))))))
 obtain ⟨h13, hf⟩ := hf
 refine u_take (S11.at 0 rfl) h13 λ n14 H16 n14l n14u (S15 : M (_ :: Rs) H16) => ?_
 replace hf := hf n14 n14l n14u
 refine g_nil (v_lsto (ds := ([n6, n10, n14]).map eI) S15 (EnF.consA (EnF.all λ _ => .int _) (EnF.consA (EnF.all λ _ => .int _) (EnF.consA (EnF.all λ _ => .int _) EnF.nilA))) (len_ok rfl) λ p17 H19 (S18 : M (acR K p17 (([n6, n10, n14]).map eI) :: _ :: Rs) H19) => ?_)
 refine g_call (g_cons (g_var rfl (g_cons (g_c (g_nil ?_)))))
 obtain ⟨h21, hf⟩ := hf
 refine u_take (S18.at 1 rfl) h21 λ n22 H24 n22l n22u (S23 : M (oo2 Rs) H24) => ?_
 replace hf := hf n22 n22l n22u
 have S25 : M (da K (V.ref p17) ((eL eI) ([n6, n10, n14])) :: _ :: Rs) H24 := acR_fixL (S23.at 1 rfl)
 obtain ⟨x27, h28, hf⟩ := hf
 refine v_ixN flI (M.gotA S25 0 rfl) h28 (g_nx ?_)
 show (_ : TS) _ [some (V.ref a_bag_here), some (V.int n2), some (V.int x27), none] _
 have S29 : M (_ :: Rs) H24 := (M.drp S25 0)
 refine g_seq (g_if (g_test (g_op (g_var rfl (g_c (v_eqI (g_bl (v_iff hf (λ _ hf => ?_) (λ _ hf => ?_)))))))))
 ·
  obtain ⟨h32, hf⟩ := hf
  refine g_ret (g_lc (g_iRng1 (g_cons (g_var rfl (g_nil (v_itR h32 ?_))))))
  refine lc_rng (K := K) (e' := eI) hf S29 (λ x36 acc33 E34 H42 kk35 N37 hl38 S41 hf hp39 hn40 => ?_) (λ E34 acc33 H59 hf S58 => ?_)
  ·
   refine g_name (g_wipe rfl (g_yes (v_ifT (g_op (g_lst (g_cons (g_c (g_cons (g_c (g_cons (g_c (g_nil (v_lsto (ds := ([1, 7, 2] : List Int).map eI) S41 (EnF.consA (EnF.all λ _ => .int _) (EnF.consA (EnF.all λ _ => .int _) (EnF.consA (EnF.all λ _ => .int _) EnF.nilA))) (len_ok rfl) λ p44 H46 (S45 : M (acR K p44 (([1, 7, 2] : List Int).map eI) :: acR K E34 (acc33.map eI) :: _ :: Rs) H46) => ?_)))))))))))))
   refine g_call (g_cons (g_var rfl (g_cons (g_c (g_nil ?_)))))
   obtain ⟨h48, hf⟩ := hf
   refine u_take (S45.at 2 rfl) h48 λ n49 H51 n49l n49u (S50 : M (oo3 Rs) H51) => ?_
   replace hf := hf n49 n49l n49u
   have S52 : M (da K (V.ref p44) ((eL eI) ([1, 7, 2] : List Int)) :: oo2 Rs) H51 := acR_fixL (S50.at 1 rfl)
   obtain ⟨x54, h55, hf⟩ := hf
   refine v_ixN flI (M.gotA S52 0 rfl) h55 (acR_put S52 2 rfl (EnF.all λ _ => .int _) hl38 λ H57 (S56 : M (acR K E34 (acc33.map eI ++ [eI x54]) :: oo2 Rs) H57) => ?_)
   exact hp39 _ _ hf (M.pk S56 3 [0, 2] rfl)
  have S61 : M (da K (V.ref E34) ((eL eI) acc33) :: _ :: Rs) H59 := acR_fixL S58
  exact hk _ _ _ hf (M.pk S61 2 [0, 1] rfl)
 ·
  refine g_next (g_nx (g_seq (g_if (g_test (g_op (g_var rfl (g_c (v_eqI (g_bl (v_iff hf (λ _ hf => ?_) (λ _ hf => ?_)))))))))))
  ·
   obtain ⟨h65, hf⟩ := hf
   refine g_ret (g_lc (g_iRng1 (g_cons (g_var rfl (g_nil (v_itR h65 ?_))))))
   refine lc_rng (K := K) (e' := eI) hf S29 (λ x69 acc66 E67 H75 kk68 N70 hl71 S74 hf hp72 hn73 => ?_) (λ E67 acc66 H85 hf S84 => ?_)
   ·
    refine g_name (g_wipe rfl (g_yes (v_ifT (g_op (g_c (g_op (g_c (g_call (g_cons (g_var rfl (g_cons (g_c (g_nil ?_)))))))))))))
    obtain ⟨h77, hf⟩ := hf
    refine u_take (S74.at 1 rfl) h77 λ n78 H80 n78l n78u (S79 : M (_ :: acR K E67 (acc66.map eI) :: Rs) H80) => ?_
    replace hf := hf n78 n78l n78u
    obtain ⟨h81, hf⟩ := hf
    refine v_mul h81 (v_add (acR_put S79 1 rfl (EnF.all λ _ => .int _) hl71 λ H83 (S82 : M (acR K E67 (acc66.map eI ++ [eI (1 + (7 * n78))]) :: _ :: Rs) H83) => ?_))
    exact hp72 _ _ hf (M.pk S82 2 [0, 1] rfl)
   have S87 : M (da K (V.ref E67) ((eL eI) acc66) :: _ :: Rs) H85 := acR_fixL S84
   exact hk _ _ _ hf (M.pk S87 2 [0, 1] rfl)
  ·
   refine g_next (g_nx (g_seq (g_if (g_test (g_op (g_var rfl (g_c (v_eqI (g_bl (v_iff hf (λ _ hf => ?_) (λ _ hf => ?_)))))))))))
   ·
    obtain ⟨h91, hf⟩ := hf
    refine g_ret (g_lc (g_iRng1 (g_cons (g_var rfl (g_nil (v_itR h91 ?_))))))
    refine lc_rng (K := K) (e' := eI) hf S29 (λ x95 acc92 E93 H101 kk94 N96 hl97 S100 hf hp98 hn99 => ?_) (λ E93 acc92 H111 hf S110 => ?_)
    ·
     refine g_name (g_wipe rfl (g_yes (v_ifT (g_op (g_c (g_call (g_cons (g_var rfl (g_cons (g_c (g_nil ?_)))))))))))
     obtain ⟨h103, hf⟩ := hf
     refine u_take (S100.at 1 rfl) h103 λ n104 H106 n104l n104u (S105 : M (_ :: acR K E93 (acc92.map eI) :: Rs) H106) => ?_
     replace hf := hf n104 n104l n104u
     obtain ⟨h107, hf⟩ := hf
     refine v_mul h107 (acR_put S105 1 rfl (EnF.all λ _ => .int _) hl97 λ H109 (S108 : M (acR K E93 (acc92.map eI ++ [eI (7 * n104)]) :: _ :: Rs) H109) => ?_)
     exact hp98 _ _ hf (M.pk S108 2 [0, 1] rfl)
    have S113 : M (da K (V.ref E93) ((eL eI) acc92) :: _ :: Rs) H111 := acR_fixL S110
    exact hk _ _ _ hf (M.pk S113 2 [0, 1] rfl)
   ·
    refine g_next (g_nx (g_seq (g_if (g_test (g_op (g_var rfl (g_c (v_eqI (g_bl (v_iff hf (λ _ hf => ?_) (λ _ hf => ?_)))))))))))
    ·
     obtain ⟨h117, hf⟩ := hf
     refine g_ret (g_lc (g_iRng1 (g_cons (g_var rfl (g_nil (v_itR h117 ?_))))))
     refine lc_rng (K := K) (e' := eI) hf S29 (λ x121 acc118 E119 H127 kk120 N122 hl123 S126 hf hp124 hn125 => ?_) (λ E119 acc118 H144 hf S143 => ?_)
     ·
      refine g_name (g_wipe rfl (g_yes (v_ifT (g_op (g_lst (g_cons (g_c (g_cons (g_c (g_nil (v_lsto (ds := ([0, 999] : List Int).map eI) S126 (EnF.consA (EnF.all λ _ => .int _) (EnF.consA (EnF.all λ _ => .int _) EnF.nilA)) (len_ok rfl) λ p129 H131 (S130 : M (acR K p129 (([0, 999] : List Int).map eI) :: acR K E119 (acc118.map eI) :: _ :: Rs) H131) => ?_)))))))))))
      refine g_call (g_cons (g_var rfl (g_cons (g_c (g_nil ?_)))))
      obtain ⟨h133, hf⟩ := hf
      refine u_take (S130.at 2 rfl) h133 λ n134 H136 n134l n134u (S135 : M (oo3 Rs) H136) => ?_
      replace hf := hf n134 n134l n134u
      have S137 : M (da K (V.ref p129) ((eL eI) ([0, 999] : List Int)) :: oo2 Rs) H136 := acR_fixL (S135.at 1 rfl)
      obtain ⟨x139, h140, hf⟩ := hf
      refine v_ixN flI (M.gotA S137 0 rfl) h140 (acR_put S137 2 rfl (EnF.all λ _ => .int _) hl123 λ H142 (S141 : M (acR K E119 (acc118.map eI ++ [eI x139]) :: oo2 Rs) H142) => ?_)
      exact hp124 _ _ hf (M.pk S141 3 [0, 2] rfl)
     have S146 : M (da K (V.ref E119) ((eL eI) acc118) :: _ :: Rs) H144 := acR_fixL S143
     exact hk _ _ _ hf (M.pk S146 2 [0, 1] rfl)
    ·
     obtain ⟨h150, hf⟩ := hf
     refine g_next (g_nx (g_ret (g_lc (g_iRng1 (g_cons (g_var rfl (g_nil (v_itR h150 ?_))))))))
     refine lc_rng (K := K) (e' := eI) hf S29 (λ x154 acc151 E152 H160 kk153 N155 hl156 S159 hf hp157 hn158 => ?_) (λ E152 acc151 H169 hf S168 => ?_)
     ·
      refine g_name (g_wipe rfl (g_yes (v_ifT (g_call (g_cons (g_var rfl (g_cons (g_c (g_nil ?_)))))))))
      obtain ⟨h162, hf⟩ := hf
      refine u_take (S159.at 1 rfl) h162 λ n163 H165 n163l n163u (S164 : M (_ :: acR K E152 (acc151.map eI) :: Rs) H165) => ?_
      replace hf := hf n163 n163l n163u
      refine acR_put S164 1 rfl (EnF.all λ _ => .int _) hl156 λ H167 (S166 : M (acR K E152 (acc151.map eI ++ [eI n163]) :: _ :: Rs) H167) => ?_
      exact hp157 _ _ hf (M.pk S166 2 [0, 1] rfl)
     have S171 : M (da K (V.ref E152) ((eL eI) acc151) :: _ :: Rs) H169 := acR_fixL S168
     exact hk _ _ _ hf (M.pk S171 2 [0, 1] rfl)
def p_l_any (a_some : (List PyData)) (P : PyData -> Prop) : Prop := takeD ((a_some).length : Int) λ n2 => ∃ x5, atI a_some n2 = some x5 /\ P x5
def sp_l_any (K : Fr) : Sp := λ vs H Q _ => ∃ (Rs : List Res) (a_bag_here : Addr) (v_a_some : V) (a_some : (List PyData)) (P : PyData -> Prop), vs = [(V.ref a_bag_here), v_a_some] /\ M (bagR a_bag_here :: da K v_a_some ((eL eA) a_some) :: Rs) H /\ p_l_any a_some P /\ ∀ (r : PyData) (v : V) H', P r -> M (da K v (eA r) :: bagR a_bag_here :: Rs) H' -> Q v H'
theorem len_l_any {K : Fr} (vs : List V) (H : Hp) (Q : VK) (E : XK) (h : sp_l_any K vs H Q E) : vs.length = 2 := by
 obtain ⟨Rs, a_bag_here, v_a_some, a_some, P, rfl, _⟩ := h
 rfl
abbrev t_l_any (K : Fr) : TS := (tRet (tOp (uIx K) (tVar 1) (tCall (sp_l_take K) [] E0 (tCons (tVar 0) (tCons (tCB (uLen K) (tCons (tVar 1) tNil)) tNil)))))
theorem pure_l_any {K : Fr} (vs : List V) (H : Hp) (Q : VK) (E : XK) (h : sp_l_any K vs H Q E) : t_l_any K { nx := λ _ H' => Q .non H', rt := Q } (L2.start ["_law_bag_here", "_law_some"] vs) H := by
 obtain ⟨Rs, a_bag_here, v_a_some, a_some, P, rfl, S0, hf, hk⟩ := h
 show t_l_any K _ [some (V.ref a_bag_here), some v_a_some] H
 refine g_ret (g_op (g_var rfl (g_call (g_cons (g_var rfl (g_cons (g_cb (g_cons (g_var rfl (g_nil (v_lenl S0 1 rfl (g_nil ?_))))))))))))
 obtain ⟨h1, hf⟩ := hf
 refine u_take (S0.at 0 rfl) h1 λ n2 H4 n2l n2u (S3 : M (oo2 Rs) H4) => ?_
 replace hf := hf n2 n2l n2u
 obtain ⟨x5, h6, hf⟩ := hf
 refine v_ixl S3 1 rfl h6 λ u7 S8 => ?_
 exact hk _ _ _ hf (M.sub (.cons 0 rfl (.cons 0 rfl (.tl (.refl _)))) S8)
def p_l_seal_of (a_signs_here : (List Int)) (P : Int -> Prop) : Prop := forD (λ (x8 : Int) (s5 : Int) (k6 : (Int) -> Prop) => (CMul s5 1001 \/ CMulW s5 1001) /\ k6 (((s5 * 1001) + x8) + 1)) a_signs_here.reverse 0 λ s5 => P s5
def sp_l_seal_of (K : Fr) : Sp := λ vs H Q _ => ∃ (Rs : List Res) (v_a_signs_here : V) (a_signs_here : (List Int)) (P : Int -> Prop), vs = [v_a_signs_here] /\ M (da K v_a_signs_here ((eL eI) a_signs_here) :: Rs) H /\ p_l_seal_of a_signs_here P /\ ∀ (r : Int) H', P r -> M (Rs) H' -> Q (V.int r) H'
theorem len_l_seal_of {K : Fr} (vs : List V) (H : Hp) (Q : VK) (E : XK) (h : sp_l_seal_of K vs H Q E) : vs.length = 1 := by
 obtain ⟨Rs, v_a_signs_here, a_signs_here, P, rfl, _⟩ := h
 rfl
abbrev t_l_seal_of_2 (K : Fr) : TS := (tSeq (tFor (iList K (tRevL K (tVar 0))) (gName 2) (tAsg (tOp (uAdd K) (tOp (uAdd K) (tOp uMul (tVar 1) (tC (.int 1001))) (tVar 2)) (tC (.int 1))) (gName 1)))
 (tRet (tVar 1)))
abbrev t_l_seal_of_1 (K : Fr) : TS := (tSeq (tAsg (tC (.int 0)) (gName 1))
 (t_l_seal_of_2 K))
abbrev t_l_seal_of (K : Fr) : TS := (t_l_seal_of_1 K)
theorem pure_l_seal_of {K : Fr} (vs : List V) (H : Hp) (Q : VK) (E : XK) (h : sp_l_seal_of K vs H Q E) : t_l_seal_of K { nx := λ _ H' => Q .non H', rt := Q } (L2.start ["_law_signs_here", "_law_found", "_law_sign"] vs) H := by
 obtain ⟨Rs, v_a_signs_here, a_signs_here, P, rfl, S0, hf, hk⟩ := h
 show t_l_seal_of K _ [some v_a_signs_here, none, none] H
 refine g_seq (g_asg (g_c (g_nx ?_)))
 show (_ : TS) _ [some v_a_signs_here, some (V.int 0), none] _
 refine g_seq (g_for (g_iList (g_rev (g_var rfl (v_revN flI S0 (M.gotA S0 0 rfl) λ p1 H3 (S2 : M (acR K p1 (a_signs_here.reverse.map eI) :: _ :: Rs) H3) => ?_)))))
 refine for_N flI (K := K) (β := Int) hf (λ (s5 : Int) σ H' => ∃ (o9 : Option V), σ = [some v_a_signs_here, some (V.int s5), o9] /\ M (acR K p1 (a_signs_here.reverse.map eI) :: da K v_a_signs_here ((eL eI) a_signs_here) :: Rs) H') ⟨_, rfl, (M.pk S2 2 [0, 1] rfl)⟩ (λ _ _ _ h => by obtain ⟨_, _, S⟩ := h; exact S.gotO 0 rfl) ?_ ?_
 ·
  rintro x8 s5 _ H11 kk7 ⟨o9, rfl, S10⟩ hf
  obtain ⟨h12, hf⟩ := hf
  refine g_name (g_asg (g_op (g_op (g_op (g_var rfl (g_c (v_mul h12 (g_var rfl (v_add (g_c (v_add ?_)))))))))))
  exact ⟨_, hf, _, rfl, (M.sub (.cons 0 rfl (.cons 0 rfl (.refl _))) S10)⟩
 rintro s5 _ H14 hf ⟨o9, rfl, S13⟩
 refine g_nx ?_
 show (_ : TS) _ [some v_a_signs_here, some (V.int s5), o9] _
 refine g_ret (g_var rfl ?_)
 exact hk _ _ hf (M.sub (.tl (.tl (.refl _))) S13)
def p_l_signs (a_least : Int) (P : (List Int) -> Prop) : Prop := takeD (17 - a_least) λ n4 => ((-(2 ^ 62) : Int) <= (a_least + n4) /\ (a_least + n4) < (2 ^ 62 : Int)) /\ (rng (a_least + n4)).length <= 100000 /\ lcD (λ (x11 : Int) (k18 : Option Int -> Prop) => takeD 1000 λ n20 => p_l_any ([eI 0, eI 7, eI 1, eI 999, eI n20] : List PyData) λ x30 => ∃ x35 : Int, x30 = eI x35 /\ k18 (some x35)) (rng (a_least + n4)) [] λ acc8 => P acc8
def sp_l_signs (K : Fr) : Sp := λ vs H Q _ => ∃ (Rs : List Res) (a_bag_here : Addr) (a_least : Int) (P : (List Int) -> Prop), vs = [(V.ref a_bag_here), (V.int a_least)] /\ M (bagR a_bag_here :: Rs) H /\ p_l_signs a_least P /\ ∀ (r : (List Int)) (v : V) H', P r -> M (da K v ((eL eI) r) :: bagR a_bag_here :: Rs) H' -> Q v H'
theorem len_l_signs {K : Fr} (vs : List V) (H : Hp) (Q : VK) (E : XK) (h : sp_l_signs K vs H Q E) : vs.length = 2 := by
 obtain ⟨Rs, a_bag_here, a_least, P, rfl, _⟩ := h
 rfl
abbrev t_l_signs (K : Fr) : TS := (tRet (tLc (iRng1 (tCons (tOp (uAdd K) (tVar 1) (tCall (sp_l_take K) [] E0 (tCons (tVar 0) (tCons (tOp uSub (tC (.int 17)) (tVar 1)) tNil)))) tNil)) (gName 2) tYes (tCall (sp_l_any K) [] E0 (tCons (tVar 0) (tCons (tLst (tCons (tC (.int 0)) (tCons (tC (.int 7)) (tCons (tC (.int 1)) (tCons (tC (.int 999)) (tCons (tCall (sp_l_take K) [] E0 (tCons (tVar 0) (tCons (tC (.int 1000)) tNil))) tNil)))))) tNil))) [2]))
theorem pure_l_signs {K : Fr} (vs : List V) (H : Hp) (Q : VK) (E : XK) (h : sp_l_signs K vs H Q E) : t_l_signs K { nx := λ _ H' => Q .non H', rt := Q } (L2.start ["_law_bag_here", "_law_least", "_law_k"] vs) H := by
 obtain ⟨Rs, a_bag_here, a_least, P, rfl, S0, hf, hk⟩ := h
 show t_l_signs K _ [some (V.ref a_bag_here), some (V.int a_least), none] H
 refine g_ret (g_lc (g_iRng1 (g_cons (g_op (g_var rfl (g_call (g_cons (g_var rfl (g_cons (g_op (g_c (g_var rfl (v_sub (g_nil ?_))))))))))))))
 obtain ⟨h3, hf⟩ := hf
 refine u_take (S0.at 0 rfl) h3 λ n4 H6 n4l n4u (S5 : M (_ :: Rs) H6) => ?_
 replace hf := hf n4 n4l n4u
 obtain ⟨h7, hf⟩ := hf
 refine v_add (g_nil (v_itR h7 ?_))
 refine lc_rng (K := K) (e' := eI) hf S5 (λ x11 acc8 E9 H17 kk10 N12 hl13 S16 hf hp14 hn15 => ?_) (λ E9 acc8 H42 hf S41 => ?_)
 ·
  refine g_name (g_wipe rfl (g_yes (v_ifT (g_call (g_cons (g_var rfl (g_cons (g_lst (g_cons (g_c (g_cons (g_c (g_cons (g_c (g_cons (g_c (g_cons (g_call (g_cons (g_var rfl (g_cons (g_c (g_nil ?_)))))))))))))))))))))))
  obtain ⟨h19, hf⟩ := hf
  refine u_take (S16.at 1 rfl) h19 λ n20 H22 n20l n20u (S21 : M (_ :: acR K E9 (acc8.map eI) :: Rs) H22) => ?_
  replace hf := hf n20 n20l n20u
  refine g_nil (v_lsto (ds := ([eI 0, eI 7, eI 1, eI 999, eI n20] : List PyData).map eA) S21 (EnF.consA (EnF.all λ _ => .int _) (EnF.consA (EnF.all λ _ => .int _) (EnF.consA (EnF.all λ _ => .int _) (EnF.consA (EnF.all λ _ => .int _) (EnF.consA (EnF.all λ _ => .int _) EnF.nilA))))) (len_ok rfl) λ p23 H25 (S24 : M (acR K p23 (([eI 0, eI 7, eI 1, eI 999, eI n20] : List PyData).map eA) :: oo2 Rs) H25) => ?_)
  have S27 : M (da K (V.ref p23) ((eL eA) ([eI 0, eI 7, eI 1, eI 999, eI n20] : List PyData)) :: oo2 Rs) H25 := acR_fixL S24
  refine g_nil (⟨_, _, _, _, _, rfl, (M.at (M.addA S27 (EnF.at 0 rfl)) 2 rfl), hf, λ x30 u33 H32 hf (S31 : M (da K u33 (eA x30) :: oo3 Rs) H32) => ?_⟩)
  obtain ⟨x35, h36, hf⟩ := hf
  have S37 := M.cstA S31 0 rfl h36
  obtain rfl := (S37.gotA 0 rfl).intV
  have S38 := S37.tl
  refine acR_put S38 3 rfl (EnF.all λ _ => .int _) hl13 λ H40 (S39 : M (acR K E9 (acc8.map eI ++ [eI x35]) :: da K (V.int x35) (eA x30) :: oo2 Rs) H40) => ?_
  exact hp14 _ _ hf (M.pk S39 4 [0, 2] rfl)
 have S44 : M (da K (V.ref E9) ((eL eI) acc8) :: _ :: Rs) H42 := acR_fixL S41
 exact hk _ _ _ hf (M.pk S44 2 [0, 1] rfl)
def p_l_words  (P : (List Str) -> Prop) : Prop := ([("write" : Str), ("write" : Str), ("drop" : Str), ("move" : Str), ("begin" : Str), ("step" : Str), ("step" : Str), ("close" : Str), ("give_up" : Str), ("take" : Str), ("take" : Str), ("forget" : Str)]).length + ([("merge" : Str), ("hold" : Str), ("release" : Str), ("harm" : Str), ("lose" : Str), ("heal" : Str), ("prune" : Str), ("put_back" : Str)]).length <= 100000 /\ P (cat ([("write" : Str), ("write" : Str), ("drop" : Str), ("move" : Str), ("begin" : Str), ("step" : Str), ("step" : Str), ("close" : Str), ("give_up" : Str), ("take" : Str), ("take" : Str), ("forget" : Str)]) ([("merge" : Str), ("hold" : Str), ("release" : Str), ("harm" : Str), ("lose" : Str), ("heal" : Str), ("prune" : Str), ("put_back" : Str)]))
def sp_l_words (K : Fr) : Sp := λ vs H Q _ => ∃ (Rs : List Res)  (P : (List Str) -> Prop), vs = [] /\ M (Rs) H /\ p_l_words P /\ ∀ (r : (List Str)) (v : V) H', P r -> M (da K v ((eL eS) r) :: Rs) H' -> Q v H'
theorem len_l_words {K : Fr} (vs : List V) (H : Hp) (Q : VK) (E : XK) (h : sp_l_words K vs H Q E) : vs.length = 0 := by
 obtain ⟨Rs, P, rfl, _⟩ := h
 rfl
abbrev t_l_words_1 (K : Fr) : TS := (tSeq (tAsg (tLst (tCons (tC (.str "write")) (tCons (tC (.str "write")) (tCons (tC (.str "drop")) (tCons (tC (.str "move")) (tCons (tC (.str "begin")) (tCons (tC (.str "step")) (tCons (tC (.str "step")) (tCons (tC (.str "close")) (tCons (tC (.str "give_up")) (tCons (tC (.str "take")) (tCons (tC (.str "take")) (tCons (tC (.str "forget")) tNil))))))))))))) (gName 0))
 (tRet (tOp (uAdd K) (tVar 0) (tLst (tCons (tC (.str "merge")) (tCons (tC (.str "hold")) (tCons (tC (.str "release")) (tCons (tC (.str "harm")) (tCons (tC (.str "lose")) (tCons (tC (.str "heal")) (tCons (tC (.str "prune")) (tCons (tC (.str "put_back")) tNil))))))))))))
abbrev t_l_words (K : Fr) : TS := (t_l_words_1 K)
theorem pure_l_words {K : Fr} (vs : List V) (H : Hp) (Q : VK) (E : XK) (h : sp_l_words K vs H Q E) : t_l_words K { nx := λ _ H' => Q .non H', rt := Q } (L2.start ["_law_words_here"] vs) H := by
 obtain ⟨Rs, P, rfl, S0, hf, hk⟩ := h
 show t_l_words K _ [none] H
 refine g_seq (g_asg (g_lst (g_cons (g_c (g_cons (g_c (g_cons (g_c (g_cons (g_c (g_cons (g_c (g_cons (g_c (g_cons (g_c (g_cons (g_c (g_cons (g_c (g_cons (g_c (g_cons (g_c (g_cons (g_c (g_nil (v_lsto (ds := ([("write" : Str), ("write" : Str), ("drop" : Str), ("move" : Str), ("begin" : Str), ("step" : Str), ("step" : Str), ("close" : Str), ("give_up" : Str), ("take" : Str), ("take" : Str), ("forget" : Str)]).map eS) S0 (EnF.consA (EnF.all λ _ => .str _) (EnF.consA (EnF.all λ _ => .str _) (EnF.consA (EnF.all λ _ => .str _) (EnF.consA (EnF.all λ _ => .str _) (EnF.consA (EnF.all λ _ => .str _) (EnF.consA (EnF.all λ _ => .str _) (EnF.consA (EnF.all λ _ => .str _) (EnF.consA (EnF.all λ _ => .str _) (EnF.consA (EnF.all λ _ => .str _) (EnF.consA (EnF.all λ _ => .str _) (EnF.consA (EnF.all λ _ => .str _) (EnF.consA (EnF.all λ _ => .str _) EnF.nilA)))))))))))) (len_ok rfl) λ p1 H3 (S2 : M (acR K p1 (([("write" : Str), ("write" : Str), ("drop" : Str), ("move" : Str), ("begin" : Str), ("step" : Str), ("step" : Str), ("close" : Str), ("give_up" : Str), ("take" : Str), ("take" : Str), ("forget" : Str)]).map eS) :: Rs) H3) => ?_))))))))))))))))))))))))))))
 have S5 : M (da K (V.ref p1) ((eL eS) ([("write" : Str), ("write" : Str), ("drop" : Str), ("move" : Str), ("begin" : Str), ("step" : Str), ("step" : Str), ("close" : Str), ("give_up" : Str), ("take" : Str), ("take" : Str), ("forget" : Str)])) :: Rs) H3 := acR_fixL S2
 refine g_nx ?_
 show (_ : TS) _ [some (V.ref p1)] _
 refine g_ret (g_op (g_var rfl (g_lst (g_cons (g_c (g_cons (g_c (g_cons (g_c (g_cons (g_c (g_cons (g_c (g_cons (g_c (g_cons (g_c (g_cons (g_c (g_nil (v_lsto (ds := ([("merge" : Str), ("hold" : Str), ("release" : Str), ("harm" : Str), ("lose" : Str), ("heal" : Str), ("prune" : Str), ("put_back" : Str)]).map eS) S5 (EnF.consA (EnF.all λ _ => .str _) (EnF.consA (EnF.all λ _ => .str _) (EnF.consA (EnF.all λ _ => .str _) (EnF.consA (EnF.all λ _ => .str _) (EnF.consA (EnF.all λ _ => .str _) (EnF.consA (EnF.all λ _ => .str _) (EnF.consA (EnF.all λ _ => .str _) (EnF.consA (EnF.all λ _ => .str _) EnF.nilA)))))))) (len_ok rfl) λ p7 H9 (S8 : M (acR K p7 (([("merge" : Str), ("hold" : Str), ("release" : Str), ("harm" : Str), ("lose" : Str), ("heal" : Str), ("prune" : Str), ("put_back" : Str)]).map eS) :: _ :: Rs) H9) => ?_)))))))))))))))))))))
 have S11 : M (da K (V.ref p7) ((eL eS) ([("merge" : Str), ("hold" : Str), ("release" : Str), ("harm" : Str), ("lose" : Str), ("heal" : Str), ("prune" : Str), ("put_back" : Str)])) :: _ :: Rs) H9 := acR_fixL S8
 obtain ⟨h13, hf⟩ := hf
 refine v_catN flS S11 (M.gotA S11 1 rfl) (M.gotA S11 0 rfl) h13 λ p14 H16 (S15 : M (acR K p14 ((cat ([("write" : Str), ("write" : Str), ("drop" : Str), ("move" : Str), ("begin" : Str), ("step" : Str), ("step" : Str), ("close" : Str), ("give_up" : Str), ("take" : Str), ("take" : Str), ("forget" : Str)]) ([("merge" : Str), ("hold" : Str), ("release" : Str), ("harm" : Str), ("lose" : Str), ("heal" : Str), ("prune" : Str), ("put_back" : Str)])).map eS) :: oo2 Rs) H16) => ?_
 have S18 : M (da K (V.ref p14) ((eL eS) (cat ([("write" : Str), ("write" : Str), ("drop" : Str), ("move" : Str), ("begin" : Str), ("step" : Str), ("step" : Str), ("close" : Str), ("give_up" : Str), ("take" : Str), ("take" : Str), ("forget" : Str)]) ([("merge" : Str), ("hold" : Str), ("release" : Str), ("harm" : Str), ("lose" : Str), ("heal" : Str), ("prune" : Str), ("put_back" : Str)]))) :: oo2 Rs) H16 := acR_fixL S15
 exact hk _ _ _ hf (M.pk S18 3 [0] rfl)
def p_l_shaped (a_names_here : (List Str)) (a_times : (List Int)) (a_seals : (List Int)) (P : PyData -> Prop) : Prop := p_l_words λ x1 => p_l_any (x1.map eS) λ x9 => p_l_any ([eS ("full" : Str), eS ("step" : Str), eS ("step" : Str), eS ("wide" : Str)] : List PyData) λ x22 => ∃ x32 : Str, x9 = eS x32 /\ if (([("step" : Str), ("close" : Str), ("give_up" : Str)]).any λ y => decide (y = x32)) = true then (P ((eV eS) ([x32]))) else (if (decide (x32 = ("write" : Str))) = true then (p_l_any (a_names_here.map eS) λ x43 => p_l_content λ x48 => P ((eT3 eS eA (eL eI)) (x32, x43, x48))) else (if (decide (x32 = ("drop" : Str))) = true then (p_l_any (a_names_here.map eS) λ x60 => P ((eP eS eA) (x32, x60))) else (if (decide (x32 = ("move" : Str))) = true then (p_l_any (a_names_here.map eS) λ x72 => p_l_any (a_names_here.map eS) λ x80 => P ((eT3 eS eA eA) (x32, x72, x80))) else (if (([("begin" : Str), ("take" : Str)]).any λ y => decide (y = x32)) = true then (p_l_any (a_times.map eI) λ x96 => P ((eT3 eS eA eA) (x32, x96, x22))) else (if (([("forget" : Str), ("merge" : Str), ("put_back" : Str)]).any λ y => decide (y = x32)) = true then (p_l_any (a_times.map eI) λ x112 => P ((eP eS eA) (x32, x112))) else (if (([("hold" : Str), ("release" : Str)]).any λ y => decide (y = x32)) = true then (p_l_any (a_times.map eI) λ x128 => p_l_any (a_names_here.map eS) λ x136 => P ((eT3 eS eA eA) (x32, x128, x136))) else (if (decide (x32 = ("prune" : Str))) = true then (((-(2 ^ 62) : Int) <= 4 /\ 4 < (2 ^ 62 : Int)) /\ (rng 4).length <= 100000 /\ lcD (λ (x155 : Int) (k162 : Option Int -> Prop) => takeD 2 λ n168 => ∃ x173, atI ([3, 61] : List Int) n168 = some x173 /\ takeD x173 λ n176 => k162 (some n176)) (rng 4) [] λ acc152 => ((([x32]).map eS)).length + ((acc152.map eI)).length <= 100000 /\ P ((eV eA) (cat (([x32]).map eS) (acc152.map eI)))) else (if (decide (x32 = ("lose" : Str))) = true then (p_l_any (a_seals.map eI) λ x202 => P ((eP eS eA) (x32, x202))) else (p_l_any (a_seals.map eI) λ x214 => p_l_signs (if (decide (x32 = ("heal" : Str))) = true then (1 : Int) else 0) λ x219 => P ((eT3 eS eA (eL eI)) (x32, x214, x219)))))))))))
def sp_l_shaped (K : Fr) : Sp := λ vs H Q _ => ∃ (Rs : List Res) (a_bag_here : Addr) (v_a_names_here : V) (a_names_here : (List Str)) (v_a_times : V) (a_times : (List Int)) (v_a_seals : V) (a_seals : (List Int)) (P : PyData -> Prop), vs = [(V.ref a_bag_here), v_a_names_here, v_a_times, v_a_seals] /\ M (bagR a_bag_here :: da K v_a_names_here ((eL eS) a_names_here) :: da K v_a_times ((eL eI) a_times) :: da K v_a_seals ((eL eI) a_seals) :: Rs) H /\ p_l_shaped a_names_here a_times a_seals P /\ ∀ (r : PyData) (v : V) H', P r -> M (da K v (eA r) :: bagR a_bag_here :: Rs) H' -> Q v H'
theorem len_l_shaped {K : Fr} (vs : List V) (H : Hp) (Q : VK) (E : XK) (h : sp_l_shaped K vs H Q E) : vs.length = 4 := by
 obtain ⟨Rs, a_bag_here, v_a_names_here, a_names_here, v_a_times, a_times, v_a_seals, a_seals, P, rfl, _⟩ := h
 rfl
abbrev t_l_shaped_19 (K : Fr) : TS := (tSeq (tIfS (tTest (tOp (uEq K) (tVar 4) (tC (.str "lose")))) (tRet (tTup (tCons (tVar 4) (tCons (tCall (sp_l_any K) [] E0 (tCons (tVar 0) (tCons (tVar 3) tNil))) tNil)))) tNext)
 (tRet (tTup (tCons (tVar 4) (tCons (tCall (sp_l_any K) [] E0 (tCons (tVar 0) (tCons (tVar 3) tNil))) (tCons (tCall (sp_l_signs K) [] E0 (tCons (tVar 0) (tCons (tCB rIntB (tCons (tOp (uEq K) (tVar 4) (tC (.str "heal"))) tNil)) tNil))) tNil))))))
abbrev t_l_shaped_17 (K : Fr) : TS := (tSeq (tIfS (tTest (tOp (uEq K) (tVar 4) (tC (.str "prune")))) (tRet (tOp (rCatA K) (tTup (tCons (tVar 4) tNil)) (tCB (rTupL K) (tCons (tLc (iRng1 (tCons (tC (.int 4)) tNil)) (gName 6) tYes (tCall (sp_l_take K) [] E0 (tCons (tVar 0) (tCons (tOp (uIx K) (tLst (tCons (tC (.int 3)) (tCons (tC (.int 61)) tNil))) (tCall (sp_l_take K) [] E0 (tCons (tVar 0) (tCons (tC (.int 2)) tNil)))) tNil))) [6]) tNil)))) tNext)
 (t_l_shaped_19 K))
abbrev t_l_shaped_15 (K : Fr) : TS := (tSeq (tIfS (tTest (tOp (uIn K) (tVar 4) (tTup (tCons (tC (.str "hold")) (tCons (tC (.str "release")) tNil))))) (tRet (tTup (tCons (tVar 4) (tCons (tCall (sp_l_any K) [] E0 (tCons (tVar 0) (tCons (tVar 2) tNil))) (tCons (tCall (sp_l_any K) [] E0 (tCons (tVar 0) (tCons (tVar 1) tNil))) tNil))))) tNext)
 (t_l_shaped_17 K))
abbrev t_l_shaped_13 (K : Fr) : TS := (tSeq (tIfS (tTest (tOp (uIn K) (tVar 4) (tTup (tCons (tC (.str "forget")) (tCons (tC (.str "merge")) (tCons (tC (.str "put_back")) tNil)))))) (tRet (tTup (tCons (tVar 4) (tCons (tCall (sp_l_any K) [] E0 (tCons (tVar 0) (tCons (tVar 2) tNil))) tNil)))) tNext)
 (t_l_shaped_15 K))
abbrev t_l_shaped_11 (K : Fr) : TS := (tSeq (tIfS (tTest (tOp (uIn K) (tVar 4) (tTup (tCons (tC (.str "begin")) (tCons (tC (.str "take")) tNil))))) (tRet (tTup (tCons (tVar 4) (tCons (tCall (sp_l_any K) [] E0 (tCons (tVar 0) (tCons (tVar 2) tNil))) (tCons (tVar 5) tNil))))) tNext)
 (t_l_shaped_13 K))
abbrev t_l_shaped_9 (K : Fr) : TS := (tSeq (tIfS (tTest (tOp (uEq K) (tVar 4) (tC (.str "move")))) (tRet (tTup (tCons (tVar 4) (tCons (tCall (sp_l_any K) [] E0 (tCons (tVar 0) (tCons (tVar 1) tNil))) (tCons (tCall (sp_l_any K) [] E0 (tCons (tVar 0) (tCons (tVar 1) tNil))) tNil))))) tNext)
 (t_l_shaped_11 K))
abbrev t_l_shaped_7 (K : Fr) : TS := (tSeq (tIfS (tTest (tOp (uEq K) (tVar 4) (tC (.str "drop")))) (tRet (tTup (tCons (tVar 4) (tCons (tCall (sp_l_any K) [] E0 (tCons (tVar 0) (tCons (tVar 1) tNil))) tNil)))) tNext)
 (t_l_shaped_9 K))
abbrev t_l_shaped_5 (K : Fr) : TS := (tSeq (tIfS (tTest (tOp (uEq K) (tVar 4) (tC (.str "write")))) (tRet (tTup (tCons (tVar 4) (tCons (tCall (sp_l_any K) [] E0 (tCons (tVar 0) (tCons (tVar 1) tNil))) (tCons (tCall (sp_l_content K) [] E0 (tCons (tVar 0) tNil)) tNil))))) tNext)
 (t_l_shaped_7 K))
abbrev t_l_shaped_3 (K : Fr) : TS := (tSeq (tIfS (tTest (tOp (uIn K) (tVar 4) (tTup (tCons (tC (.str "step")) (tCons (tC (.str "close")) (tCons (tC (.str "give_up")) tNil)))))) (tRet (tTup (tCons (tVar 4) tNil))) tNext)
 (t_l_shaped_5 K))
abbrev t_l_shaped_2 (K : Fr) : TS := (tSeq (tAsg (tCall (sp_l_any K) [] E0 (tCons (tVar 0) (tCons (tLst (tCons (tC (.str "full")) (tCons (tC (.str "step")) (tCons (tC (.str "step")) (tCons (tC (.str "wide")) tNil))))) tNil))) (gName 5))
 (t_l_shaped_3 K))
abbrev t_l_shaped_1 (K : Fr) : TS := (tSeq (tAsg (tCall (sp_l_any K) [] E0 (tCons (tVar 0) (tCons (tCall (sp_l_words K) [] E0 tNil) tNil))) (gName 4))
 (t_l_shaped_2 K))
abbrev t_l_shaped (K : Fr) : TS := (t_l_shaped_1 K)
theorem pure_l_shaped {K : Fr} (vs : List V) (H : Hp) (Q : VK) (E : XK) (h : sp_l_shaped K vs H Q E) : t_l_shaped K { nx := λ _ H' => Q .non H', rt := Q } (L2.start ["_law_bag_here", "_law_names_here", "_law_times", "_law_seals", "_law_word", "_law_sort", "_law_k"] vs) H := by
 obtain ⟨Rs, a_bag_here, v_a_names_here, a_names_here, v_a_times, a_times, v_a_seals, a_seals, P, rfl, S0, hf, hk⟩ := h
 show t_l_shaped K _ [some (V.ref a_bag_here), some v_a_names_here, some v_a_times, some v_a_seals, none, none, none] H
 refine g_seq (g_asg (g_call (g_cons (g_var rfl (g_cons (g_call (g_nil (⟨_, _, rfl, S0, hf, λ x1 u4 H3 hf (S2 : M (da K u4 ((eL eS) x1) :: oo4 Rs) H3) => ?_⟩))))))))
 refine g_nil ?_
 have S6 : M (da K u4 (eL eA (x1.map eS)) :: oo5 Rs) H3 := M.cstA S2 0 rfl (eL_any _ _)
 refine ⟨_, _, _, _, _, rfl, (M.at (M.addA S6 (EnF.at 0 rfl)) 3 rfl), hf, λ x9 u12 H11 hf (S10 : M (da K u12 (eA x9) :: oo6 Rs) H11) => ?_⟩
 refine g_nx ?_
 show (_ : TS) _ [some (V.ref a_bag_here), some v_a_names_here, some v_a_times, some v_a_seals, some u12, none, none] _
 have S14 : M (oo5 Rs) H11 := (M.drp (M.drp S10 3) 2)
 refine g_seq (g_asg (g_call (g_cons (g_var rfl (g_cons (g_lst (g_cons (g_c (g_cons (g_c (g_cons (g_c (g_cons (g_c (g_nil (v_lsto (ds := ([eS ("full" : Str), eS ("step" : Str), eS ("step" : Str), eS ("wide" : Str)] : List PyData).map eA) S14 (EnF.consA (EnF.all λ _ => .str _) (EnF.consA (EnF.all λ _ => .str _) (EnF.consA (EnF.all λ _ => .str _) (EnF.consA (EnF.all λ _ => .str _) EnF.nilA)))) (len_ok rfl) λ p15 H17 (S16 : M (acR K p15 (([eS ("full" : Str), eS ("step" : Str), eS ("step" : Str), eS ("wide" : Str)] : List PyData).map eA) :: oo5 Rs) H17) => ?_))))))))))))))))
 have S19 : M (da K (V.ref p15) ((eL eA) ([eS ("full" : Str), eS ("step" : Str), eS ("step" : Str), eS ("wide" : Str)] : List PyData)) :: oo5 Rs) H17 := acR_fixL S16
 refine g_nil (⟨_, _, _, _, _, rfl, (M.at (M.addA S19 (EnF.at 0 rfl)) 3 rfl), hf, λ x22 u25 H24 hf (S23 : M (da K u25 (eA x22) :: oo6 Rs) H24) => ?_⟩)
 refine g_nx ?_
 show (_ : TS) _ [some (V.ref a_bag_here), some v_a_names_here, some v_a_times, some v_a_seals, some u12, some u25, none] _
 have S27 : M (oo6 Rs) H24 := (M.drp S23 2)
 refine g_seq (g_if (g_test (g_op (g_var rfl (g_tup (g_cons (g_c (g_cons (g_c (g_cons (g_c (g_nil (v_tupq S27 (EnF.consA (EnF.all λ _ => .str _) (EnF.consA (EnF.all λ _ => .str _) (EnF.consA (EnF.all λ _ => .str _) EnF.nilA))) (len_ok rfl) λ p28 H30 (S29 : M (da K (V.ref p28) ((eV eS) [("step" : Str), ("close" : Str), ("give_up" : Str)]) :: oo6 Rs) H30) => ?_)))))))))))))
 obtain ⟨x32, h33, hf⟩ := hf
 have S34 := M.cstA S29 3 rfl h33
 obtain rfl := (S34.gotA 0 rfl).strV
 have S35 := S34.tl
 refine v_inV (M.gotA S35 0 rfl) (g_bl (v_iff hf (λ _ hf => ?_) (λ _ hf => ?_)))
 ·
  refine g_ret (g_tup (g_cons (g_var rfl (g_nil (v_tupq S35 (EnF.consA (EnF.all λ _ => .str _) EnF.nilA) (len_ok rfl) λ p36 H38 (S37 : M (da K (V.ref p36) ((eV eS) [x32]) :: oo3 (da K (V.str x32) (eA x9) :: oo3 Rs)) H38) => ?_)))))
  exact hk _ _ _ hf (M.pk S37 8 [0, 3] rfl)
 ·
  refine g_next (g_nx (g_seq (g_if (g_test (g_op (g_var rfl (g_c (v_eqS (g_bl (v_iff hf (λ _ hf => ?_) (λ _ hf => ?_)))))))))))
  ·
   refine g_ret (g_tup (g_cons (g_var rfl (g_cons (g_call (g_cons (g_var rfl (g_cons (g_var rfl (g_nil ?_))))))))))
   have S40 : M (da K v_a_names_here (eL eA (a_names_here.map eS)) :: oo3 (da K (V.str x32) (eA x9) :: oo3 Rs)) H30 := M.cstA S35 4 rfl (eL_any _ _)
   refine ⟨_, _, _, _, _, rfl, (M.at (M.addA S40 (EnF.at 0 rfl)) 4 rfl), hf, λ x43 u46 H45 hf (S44 : M (da K u46 (eA x43) :: oo8 Rs) H45) => ?_⟩
   refine g_cons (g_call (g_cons (g_var rfl (g_nil (⟨_, _, _, rfl, (M.at S44 1 rfl), hf, λ x48 u51 H50 hf (S49 : M (da K u51 ((eL eI) x48) :: oo9 Rs) H50) => ?_⟩)))))
   refine g_nil (v_tupq S49 (EnF.consA (EnF.all λ _ => .str _) (EnF.consA (EnF.at 2 rfl) (EnF.consA (EnF.at 0 rfl) EnF.nilA))) (len_ok rfl) λ p53 H55 (S54 : M (da K (V.ref p53) ((eT3 eS eA (eL eI)) (x32, x43, x48)) :: oo10 Rs) H55) => ?_)
   exact hk _ _ _ hf (M.pk S54 11 [0, 2] rfl)
  ·
   refine g_next (g_nx (g_seq (g_if (g_test (g_op (g_var rfl (g_c (v_eqS (g_bl (v_iff hf (λ _ hf => ?_) (λ _ hf => ?_)))))))))))
   ·
    refine g_ret (g_tup (g_cons (g_var rfl (g_cons (g_call (g_cons (g_var rfl (g_cons (g_var rfl (g_nil ?_))))))))))
    have S57 : M (da K v_a_names_here (eL eA (a_names_here.map eS)) :: oo3 (da K (V.str x32) (eA x9) :: oo3 Rs)) H30 := M.cstA S35 4 rfl (eL_any _ _)
    refine ⟨_, _, _, _, _, rfl, (M.at (M.addA S57 (EnF.at 0 rfl)) 4 rfl), hf, λ x60 u63 H62 hf (S61 : M (da K u63 (eA x60) :: oo8 Rs) H62) => ?_⟩
    refine g_nil (v_tupq S61 (EnF.consA (EnF.all λ _ => .str _) (EnF.consA (EnF.at 0 rfl) EnF.nilA)) (len_ok rfl) λ p65 H67 (S66 : M (da K (V.ref p65) ((eP eS eA) (x32, x60)) :: oo9 Rs) H67) => ?_)
    exact hk _ _ _ hf (M.pk S66 10 [0, 2] rfl)
   ·
    refine g_next (g_nx (g_seq (g_if (g_test (g_op (g_var rfl (g_c (v_eqS (g_bl (v_iff hf (λ _ hf => ?_) (λ _ hf => ?_)))))))))))
    ·
     refine g_ret (g_tup (g_cons (g_var rfl (g_cons (g_call (g_cons (g_var rfl (g_cons (g_var rfl (g_nil ?_))))))))))
     have S69 : M (da K v_a_names_here (eL eA (a_names_here.map eS)) :: oo3 (da K (V.str x32) (eA x9) :: oo3 Rs)) H30 := M.cstA S35 4 rfl (eL_any _ _)
     refine ⟨_, _, _, _, _, rfl, (M.at (M.addA S69 (EnF.at 0 rfl)) 4 rfl), hf, λ x72 u75 H74 hf (S73 : M (da K u75 (eA x72) :: oo8 Rs) H74) => ?_⟩
     refine g_cons (g_call (g_cons (g_var rfl (g_cons (g_var rfl (g_nil ?_))))))
     have S77 : M (oo10 Rs) H74 := M.cstA S73 6 rfl (eL_any _ _)
     refine ⟨_, _, _, _, _, rfl, (M.at (M.addA S77 (EnF.at 0 rfl)) 3 rfl), hf, λ x80 u83 H82 hf (S81 : M (da K u83 (eA x80) :: oo10 Rs) H82) => ?_⟩
     refine g_nil (v_tupq S81 (EnF.consA (EnF.all λ _ => .str _) (EnF.consA (EnF.at 3 rfl) (EnF.consA (EnF.at 0 rfl) EnF.nilA))) (len_ok rfl) λ p85 H87 (S86 : M (da K (V.ref p85) ((eT3 eS eA eA) (x32, x72, x80)) :: oo11 Rs) H87) => ?_)
     exact hk _ _ _ hf (M.pk S86 12 [0, 2] rfl)
    ·
     refine g_next (g_nx (g_seq (g_if (g_test (g_op (g_var rfl (g_tup (g_cons (g_c (g_cons (g_c (g_nil (v_tupq S35 (EnF.consA (EnF.all λ _ => .str _) (EnF.consA (EnF.all λ _ => .str _) EnF.nilA)) (len_ok rfl) λ p89 H91 (S90 : M (da K (V.ref p89) ((eV eS) [("begin" : Str), ("take" : Str)]) :: oo3 (da K (V.str x32) (eA x9) :: oo3 Rs)) H91) => ?_)))))))))))))
     refine v_inV (M.gotA S90 0 rfl) (g_bl (v_iff hf (λ _ hf => ?_) (λ _ hf => ?_)))
     ·
      refine g_ret (g_tup (g_cons (g_var rfl (g_cons (g_call (g_cons (g_var rfl (g_cons (g_var rfl (g_nil ?_))))))))))
      have S93 : M (da K v_a_times (eL eA (a_times.map eI)) :: oo8 Rs) H91 := M.cstA S90 6 rfl (eL_any _ _)
      refine ⟨_, _, _, _, _, rfl, (M.at (M.addA S93 (EnF.at 0 rfl)) 5 rfl), hf, λ x96 u99 H98 hf (S97 : M (da K u99 (eA x96) :: oo9 Rs) H98) => ?_⟩
      refine g_cons (g_var rfl (g_nil (v_tupq S97 (EnF.consA (EnF.all λ _ => .str _) (EnF.consA (EnF.at 0 rfl) (EnF.consA (EnF.at 5 rfl) EnF.nilA))) (len_ok rfl) λ p101 H103 (S102 : M (da K (V.ref p101) ((eT3 eS eA eA) (x32, x96, x22)) :: oo10 Rs) H103) => ?_)))
      exact hk _ _ _ hf (M.pk S102 11 [0, 2] rfl)
     ·
      refine g_next (g_nx (g_seq (g_if (g_test (g_op (g_var rfl (g_tup (g_cons (g_c (g_cons (g_c (g_cons (g_c (g_nil (v_tupq S90 (EnF.consA (EnF.all λ _ => .str _) (EnF.consA (EnF.all λ _ => .str _) (EnF.consA (EnF.all λ _ => .str _) EnF.nilA))) (len_ok rfl) λ p105 H107 (S106 : M (da K (V.ref p105) ((eV eS) [("forget" : Str), ("merge" : Str), ("put_back" : Str)]) :: oo8 Rs) H107) => ?_)))))))))))))))
      refine v_inV (M.gotA S106 0 rfl) (g_bl (v_iff hf (λ _ hf => ?_) (λ _ hf => ?_)))
      ·
       refine g_ret (g_tup (g_cons (g_var rfl (g_cons (g_call (g_cons (g_var rfl (g_cons (g_var rfl (g_nil ?_))))))))))
       have S109 : M (da K v_a_times (eL eA (a_times.map eI)) :: oo9 Rs) H107 := M.cstA S106 7 rfl (eL_any _ _)
       refine ⟨_, _, _, _, _, rfl, (M.at (M.addA S109 (EnF.at 0 rfl)) 6 rfl), hf, λ x112 u115 H114 hf (S113 : M (da K u115 (eA x112) :: oo10 Rs) H114) => ?_⟩
       refine g_nil (v_tupq S113 (EnF.consA (EnF.all λ _ => .str _) (EnF.consA (EnF.at 0 rfl) EnF.nilA)) (len_ok rfl) λ p117 H119 (S118 : M (da K (V.ref p117) ((eP eS eA) (x32, x112)) :: oo11 Rs) H119) => ?_)
       exact hk _ _ _ hf (M.pk S118 12 [0, 2] rfl)
      ·
       refine g_next (g_nx (g_seq (g_if (g_test (g_op (g_var rfl (g_tup (g_cons (g_c (g_cons (g_c (g_nil (v_tupq S106 (EnF.consA (EnF.all λ _ => .str _) (EnF.consA (EnF.all λ _ => .str _) EnF.nilA)) (len_ok rfl) λ p121 H123 (S122 : M (da K (V.ref p121) ((eV eS) [("hold" : Str), ("release" : Str)]) :: oo9 Rs) H123) => ?_)))))))))))))
       refine v_inV (M.gotA S122 0 rfl) (g_bl (v_iff hf (λ _ hf => ?_) (λ _ hf => ?_)))
       ·
        refine g_ret (g_tup (g_cons (g_var rfl (g_cons (g_call (g_cons (g_var rfl (g_cons (g_var rfl (g_nil ?_))))))))))
        have S125 : M (da K v_a_times (eL eA (a_times.map eI)) :: oo10 Rs) H123 := M.cstA S122 8 rfl (eL_any _ _)
        refine ⟨_, _, _, _, _, rfl, (M.at (M.addA S125 (EnF.at 0 rfl)) 7 rfl), hf, λ x128 u131 H130 hf (S129 : M (da K u131 (eA x128) :: oo11 Rs) H130) => ?_⟩
        refine g_cons (g_call (g_cons (g_var rfl (g_cons (g_var rfl (g_nil ?_))))))
        have S133 : M (da K v_a_names_here (eL eA (a_names_here.map eS)) :: oo12 Rs) H130 := M.cstA S129 9 rfl (eL_any _ _)
        refine ⟨_, _, _, _, _, rfl, (M.at (M.addA S133 (EnF.at 0 rfl)) 3 rfl), hf, λ x136 u139 H138 hf (S137 : M (da K u139 (eA x136) :: oo13 Rs) H138) => ?_⟩
        refine g_nil (v_tupq S137 (EnF.consA (EnF.all λ _ => .str _) (EnF.consA (EnF.at 3 rfl) (EnF.consA (EnF.at 0 rfl) EnF.nilA))) (len_ok rfl) λ p141 H143 (S142 : M (da K (V.ref p141) ((eT3 eS eA eA) (x32, x128, x136)) :: oo14 Rs) H143) => ?_)
        exact hk _ _ _ hf (M.pk S142 15 [0, 2] rfl)
       ·
        refine g_next (g_nx (g_seq (g_if (g_test (g_op (g_var rfl (g_c (v_eqS (g_bl (v_iff hf (λ _ hf => ?_) (λ _ hf => ?_)))))))))))
        ·
         refine g_ret (g_op (g_tup (g_cons (g_var rfl (g_nil (v_tupq S122 (EnF.consA (EnF.all λ _ => .str _) EnF.nilA) (len_ok rfl) λ p145 H147 (S146 : M (da K (V.ref p145) ((eV eS) [x32]) :: oo10 Rs) H147) => ?_))))))
         obtain ⟨h151, hf⟩ := hf
         refine g_cb (g_cons (g_lc (g_iRng1 (g_cons (g_c (g_nil (v_itR h151 ?_)))))))
         refine lc_rng (K := K) (e' := eI) hf S146 (λ x155 acc152 E153 H161 kk154 N156 hl157 S160 hf hp158 hn159 => ?_) (λ E153 acc152 H182 hf S181 => ?_)
         ·
          refine g_name (g_wipe rfl (g_yes (v_ifT (g_call (g_cons (g_var rfl (g_cons (g_op (g_lst (g_cons (g_c (g_cons (g_c (g_nil (v_lsto (ds := ([3, 61] : List Int).map eI) S160 (EnF.consA (EnF.all λ _ => .int _) (EnF.consA (EnF.all λ _ => .int _) EnF.nilA)) (len_ok rfl) λ p163 H165 (S164 : M (acR K p163 (([3, 61] : List Int).map eI) :: acR K E153 (acc152.map eI) :: oo11 Rs) H165) => ?_)))))))))))))))
          refine g_call (g_cons (g_var rfl (g_cons (g_c (g_nil ?_)))))
          obtain ⟨h167, hf⟩ := hf
          refine u_take (S164.at 8 rfl) h167 λ n168 H170 n168l n168u (S169 : M (oo13 Rs) H170) => ?_
          replace hf := hf n168 n168l n168u
          have S171 : M (da K (V.ref p163) ((eL eI) ([3, 61] : List Int)) :: oo12 Rs) H170 := acR_fixL (S169.at 1 rfl)
          obtain ⟨x173, h174, hf⟩ := hf
          refine v_ixN flI (M.gotA S171 0 rfl) h174 (g_nil ?_)
          obtain ⟨h175, hf⟩ := hf
          refine u_take (S171.at 1 rfl) h175 λ n176 H178 n176l n176u (S177 : M (oo13 Rs) H178) => ?_
          replace hf := hf n176 n176l n176u
          refine acR_put S177 2 rfl (EnF.all λ _ => .int _) hl157 λ H180 (S179 : M (acR K E153 (acc152.map eI ++ [eI n176]) :: oo12 Rs) H180) => ?_
          exact hp158 _ _ hf (M.pk S179 13 [0, 3, 4, 5, 6, 7, 8, 1, 9, 10, 11, 12] rfl)
         have S184 : M (da K (V.ref E153) ((eL eI) acc152) :: oo11 Rs) H182 := acR_fixL S181
         refine g_nil (v_tupL S184 0 rfl λ p186 H188 (S187 : M (da K (V.ref p186) ((eV eI) acc152) :: oo12 Rs) H188) => ?_)
         have S190 : M (da K (V.ref p145) (eV eA (([x32]).map eS)) :: oo13 Rs) H188 := M.cstA S187 2 rfl (eV_any _ _)
         have S192 : M (da K (V.ref p186) (eV eA (acc152.map eI)) :: oo14 Rs) H188 := M.cstA S190 1 rfl (eV_any _ _)
         obtain ⟨h194, hf⟩ := hf
         refine v_catA S192 1 0 rfl rfl h194 λ u195 H197 (S196 : M (da K u195 (eV eA (cat (([x32]).map eS) (acc152.map eI))) :: _ :: oo14 Rs) H197) => ?_
         exact hk _ _ _ hf (M.pk S196 16 [0, 11] rfl)
        ·
         refine g_next (g_nx (g_seq (g_if (g_test (g_op (g_var rfl (g_c (v_eqS (g_bl (v_iff hf (λ _ hf => ?_) (λ _ hf => ?_)))))))))))
         ·
          refine g_ret (g_tup (g_cons (g_var rfl (g_cons (g_call (g_cons (g_var rfl (g_cons (g_var rfl (g_nil ?_))))))))))
          have S199 : M (da K v_a_seals (eL eA (a_seals.map eI)) :: oo10 Rs) H123 := M.cstA S122 9 rfl (eL_any _ _)
          refine ⟨_, _, _, _, _, rfl, (M.at (M.addA S199 (EnF.at 0 rfl)) 7 rfl), hf, λ x202 u205 H204 hf (S203 : M (da K u205 (eA x202) :: oo11 Rs) H204) => ?_⟩
          refine g_nil (v_tupq S203 (EnF.consA (EnF.all λ _ => .str _) (EnF.consA (EnF.at 0 rfl) EnF.nilA)) (len_ok rfl) λ p207 H209 (S208 : M (da K (V.ref p207) ((eP eS eA) (x32, x202)) :: oo12 Rs) H209) => ?_)
          exact hk _ _ _ hf (M.pk S208 13 [0, 2] rfl)
         ·
          refine g_next (g_nx (g_ret (g_tup (g_cons (g_var rfl (g_cons (g_call (g_cons (g_var rfl (g_cons (g_var rfl (g_nil ?_))))))))))))
          have S211 : M (da K v_a_seals (eL eA (a_seals.map eI)) :: oo10 Rs) H123 := M.cstA S122 9 rfl (eL_any _ _)
          refine ⟨_, _, _, _, _, rfl, (M.at (M.addA S211 (EnF.at 0 rfl)) 7 rfl), hf, λ x214 u217 H216 hf (S215 : M (da K u217 (eA x214) :: oo11 Rs) H216) => ?_⟩
          refine g_cons (g_call (g_cons (g_var rfl (g_cons (g_cb (g_cons (g_op (g_var rfl (g_c (v_eqS (g_nil (v_intB (g_nil (⟨_, _, _, _, rfl, (M.at S215 1 rfl), hf, λ x219 u222 H221 hf (S220 : M (da K u222 ((eL eI) x219) :: oo12 Rs) H221) => ?_⟩))))))))))))))
          refine g_nil (v_tupq S220 (EnF.consA (EnF.all λ _ => .str _) (EnF.consA (EnF.at 2 rfl) (EnF.consA (EnF.at 0 rfl) EnF.nilA))) (len_ok rfl) λ p224 H226 (S225 : M (da K (V.ref p224) ((eT3 eS eA (eL eI)) (x32, x214, x219)) :: oo13 Rs) H226) => ?_)
          exact hk _ _ _ hf (M.pk S225 14 [0, 2] rfl)
def p_l_hex (a_seal : Int) (P : Str -> Prop) : Prop := wlD (λ (s1 : Str × Int) (k2 k3 : (Str × Int) -> Prop) => if (decide (0 < s1.2)) = true then (((0 : Int) < 16) /\ ∃ x13, atS ("0123456789abcdef" : Str) (s1.2 % 16) = some x13 /\ ((x13).length + (s1.1).length <= 100000) /\ ((0 : Int) < 16 /\ 16 < (2 ^ 64 : Int)) /\ k2 ((x13 ++ s1.1), (s1.2 / 16))) else (k3 (s1.1, s1.2))) (("" : Str), a_seal) λ s1 => P s1.1
def sp_l_hex (K : Fr) : Sp := λ vs H Q _ => ∃ (Rs : List Res) (a_seal : Int) (P : Str -> Prop), vs = [(V.int a_seal)] /\ M (Rs) H /\ p_l_hex a_seal P /\ ∀ (r : Str) H', P r -> M (Rs) H' -> Q (V.str r) H'
theorem len_l_hex {K : Fr} (vs : List V) (H : Hp) (Q : VK) (E : XK) (h : sp_l_hex K vs H Q E) : vs.length = 1 := by
 obtain ⟨Rs, a_seal, P, rfl, _⟩ := h
 rfl
abbrev t_l_hex_4 (K : Fr) : TS := (tSeq (tAsg (tOp (uAdd K) (tOp (uIx K) (tC (.str "0123456789abcdef")) (tOp uMod (tVar 2) (tC (.int 16)))) (tVar 1)) (gName 1))
 (tAsg (tOp uDiv (tVar 2) (tC (.int 16))) (gName 2)))
abbrev t_l_hex_3 (K : Fr) : TS := (tSeq (tWhile (tTest (tOp uGt (tVar 2) (tC (.int 0)))) (t_l_hex_4 K))
 (tRet (tVar 1)))
abbrev t_l_hex_2 (K : Fr) : TS := (tSeq (tAsg (tVar 0) (gName 2))
 (t_l_hex_3 K))
abbrev t_l_hex_1 (K : Fr) : TS := (tSeq (tAsg (tC (.str "")) (gName 1))
 (t_l_hex_2 K))
abbrev t_l_hex (K : Fr) : TS := (t_l_hex_1 K)
theorem pure_l_hex {K : Fr} (vs : List V) (H : Hp) (Q : VK) (E : XK) (h : sp_l_hex K vs H Q E) : t_l_hex K { nx := λ _ H' => Q .non H', rt := Q } (L2.start ["_law_seal", "_law_text", "_law_rest"] vs) H := by
 obtain ⟨Rs, a_seal, P, rfl, S0, hf, hk⟩ := h
 show t_l_hex K _ [some (V.int a_seal), none, none] H
 refine g_seq (g_asg (g_c (g_nx ?_)))
 show (_ : TS) _ [some (V.int a_seal), some (V.str ("" : Str)), none] _
 refine g_seq (g_asg (g_var rfl (g_nx ?_)))
 show (_ : TS) _ [some (V.int a_seal), some (V.str ("" : Str)), some (V.int a_seal)] _
 refine g_seq (g_while ?_)
 refine wh_D (β := Str × Int) hf (λ (s1 : Str × Int) σ H' => σ = [some (V.int a_seal), some (V.str s1.1), some (V.int s1.2)] /\ M (Rs) H') ⟨rfl, (M.pk S0 0 [] rfl)⟩ ?_ ?_
 ·
  rintro s1 _ H11 kk4 kk5 P6 N7 ⟨rfl, S10⟩ hP8 hN9 hf
  refine g_test (g_op (g_var rfl (g_c (v_gt (g_bl (v_iff hf (λ _ hf => ?_) (λ _ hf => ?_)))))))
  ·
   obtain ⟨h12, hf⟩ := hf
   obtain ⟨x13, h14, hf⟩ := hf
   obtain ⟨h15, hf⟩ := hf
   refine wh_yes hP8 (g_seq (g_asg (g_op (g_op (g_c (g_op (g_var rfl (g_c (v_mod h12 (v_ixs h14 (g_var rfl (v_addS h15 (g_nx ?_)))))))))))))
   show (_ : TS) _ [some (V.int a_seal), some (V.str (x13 ++ s1.1)), some (V.int s1.2)] _
   obtain ⟨h16, hf⟩ := hf
   refine g_asg (g_op (g_var rfl (g_c (v_div h16 ?_))))
   exact ⟨_, hf, rfl, (M.sub (.refl _) S10)⟩
  ·
   exact hN9 _ _ _ hf ⟨rfl, (M.sub (.refl _) S10)⟩
 rintro s1 _ H18 hf ⟨rfl, S17⟩
 refine g_nx ?_
 show (_ : TS) _ [some (V.int a_seal), some (V.str s1.1), some (V.int s1.2)] _
 refine g_ret (g_var rfl ?_)
 exact hk _ _ hf (M.sub (.refl _) S17)
def p_l_listed (a_signs_here : (List Int)) (P : Str -> Prop) : Prop := jn (β := Str) (λ k5 => (a_signs_here).length <= 100000 /\ lcD (λ (x11 : Int) (k18 : Option Str -> Prop) => ((x11).natAbs.log2 < 1920) /\ k18 (some (strI x11))) a_signs_here [] λ acc8 => (((acc8).map (·.length)).sum + (acc8).length * (("," : Str)).length <= 16777216) /\ (((Txt.join ("," : Str) acc8)).length <= 100000 /\ if (!decide (((Txt.join ("," : Str) acc8)).length = 0)) = true then (k5 (Txt.join ("," : Str) acc8)) else (k5 ("-" : Str)))) λ x1 => P x1
def sp_l_listed (K : Fr) : Sp := λ vs H Q _ => ∃ (Rs : List Res) (v_a_signs_here : V) (a_signs_here : (List Int)) (P : Str -> Prop), vs = [v_a_signs_here] /\ M (da K v_a_signs_here ((eL eI) a_signs_here) :: Rs) H /\ p_l_listed a_signs_here P /\ ∀ (r : Str) H', P r -> M (Rs) H' -> Q (V.str r) H'
theorem len_l_listed {K : Fr} (vs : List V) (H : Hp) (Q : VK) (E : XK) (h : sp_l_listed K vs H Q E) : vs.length = 1 := by
 obtain ⟨Rs, v_a_signs_here, a_signs_here, P, rfl, _⟩ := h
 rfl
abbrev t_l_listed (K : Fr) : TS := (tRet (tOrT K (tM1 (rJoin K) (tC (.str ",")) (tLc (iList K (tVar 0)) (gName 1) tYes (tCB rStrA (tCons (tVar 1) tNil)) [1])) (tC (.str "-"))))
theorem pure_l_listed {K : Fr} (vs : List V) (H : Hp) (Q : VK) (E : XK) (h : sp_l_listed K vs H Q E) : t_l_listed K { nx := λ _ H' => Q .non H', rt := Q } (L2.start ["_law_signs_here", "_law_sign"] vs) H := by
 obtain ⟨Rs, v_a_signs_here, a_signs_here, P, rfl, S0, hf, hk⟩ := h
 show t_l_listed K _ [some v_a_signs_here, none] H
 refine g_ret ?_
 refine tx_cut (β := Str) hf (λ (x : Str) v H => v = (V.str x) /\ M (da K v_a_signs_here ((eL eI) a_signs_here) :: Rs) H) (λ kk2 P3 hP4 hf => ?_) ?_
 ·
  refine g_orT (g_m1 (g_c (v_isS (g_lc (g_iList (g_var rfl ?_))))))
  refine lc_N flI (K := K) (e' := eS) hf S0 (λ _ S => S.gotA 0 rfl) (λ x11 acc8 E9 H17 kk10 N12 hl13 S16 hf hp14 hn15 => ?_) (λ E9 acc8 H23 hf S22 => ?_)
  ·
   obtain ⟨h19, hf⟩ := hf
   refine g_name (g_wipe rfl (g_yes (v_ifT (g_cb (g_cons (g_var rfl (g_nil (v_strI h19 (acR_put S16 0 rfl (EnF.all λ _ => .str _) hl13 λ H21 (S20 : M (acR K E9 (acc8.map eS ++ [eS (strI x11)]) :: _ :: Rs) H21) => ?_)))))))))
   exact hp14 _ _ hf (M.pk S20 2 [0, 1] rfl)
  have S25 : M (da K (V.ref E9) ((eL eS) acc8) :: _ :: Rs) H23 := acR_fixL S22
  obtain ⟨h27, hf⟩ := hf
  refine v_join (M.gotA S25 0 rfl) h27 (v_orTx hf (λ hf => ?_) (λ hf => ?_))
  ·
   exact hP4 _ _ _ hf ⟨rfl, (M.pk S25 2 [1] rfl)⟩
  ·
   refine g_c ?_
   exact hP4 _ _ _ hf ⟨rfl, (M.pk S25 2 [1] rfl)⟩
 rintro x1 _ H29 hf ⟨rfl, S28⟩
 exact hk _ _ hf (M.sub (.tl (.refl _)) S28)
def p_l_written (a_deed : PyData) (P : Str -> Prop) : Prop := ∃ x1, anyAt a_deed 0 = some x1 /\ ∃ x6 : Str, x1 = eS x6 /\ ∃ x15 : (List PyData), a_deed = (eV eA) x15 /\ forD (λ (x35 : (Int × PyData)) (s32 : (List Str)) (k33 : ((List Str)) -> Prop) => if (isA "list" x35.2) = true then (∃ x46 : (List Int), x35.2 = (eL eI) x46 /\ p_l_listed x46 λ x51 => (s32).length < 100000 /\ k33 (sno s32 x51)) else (∃ x59, atI x15 0 = some x59 /\ ∃ x68 : Str, x59 = eS x68 /\ if (([("harm" : Str), ("lose" : Str), ("heal" : Str)]).any λ y => decide (y = x68)) = true then (∃ x72 : Int, x35.2 = eI x72 /\ p_l_hex x72 λ x76 => (s32).length < 100000 /\ k33 (sno s32 x76)) else (∃ x84, strA x35.2 = some x84 /\ (s32).length < 100000 /\ k33 (sno s32 x84)))) (enumF 0 (cutL x15 (some 1) none)) ([x6]) λ s32 => (((s32).map (·.length)).sum + (s32).length * ((" " : Str)).length <= 16777216) /\ P (Txt.join (" " : Str) s32)
def sp_l_written (K : Fr) : Sp := λ vs H Q _ => ∃ (Rs : List Res) (v_a_deed : V) (a_deed : PyData) (P : Str -> Prop), vs = [v_a_deed] /\ M (da K v_a_deed (eA a_deed) :: Rs) H /\ p_l_written a_deed P /\ ∀ (r : Str) H', P r -> M (Rs) H' -> Q (V.str r) H'
theorem len_l_written {K : Fr} (vs : List V) (H : Hp) (Q : VK) (E : XK) (h : sp_l_written K vs H Q E) : vs.length = 1 := by
 obtain ⟨Rs, v_a_deed, a_deed, P, rfl, _⟩ := h
 rfl
abbrev t_l_written_5 (K : Fr) : TS := (tIfS (tTest (tOp (uIn K) (tOp (uIx K) (tVar 0) (tC (.int 0))) (tTup (tCons (tC (.str "harm")) (tCons (tC (.str "lose")) (tCons (tC (.str "heal")) tNil)))))) (tDrop (tBM K "list" rAppend (tVar 1) (tCons (tCall (sp_l_hex K) [] E0 (tCons (tVar 3) tNil)) tNil))) (tDrop (tBM K "list" rAppend (tVar 1) (tCons (tCB rStrA (tCons (tVar 3) tNil)) tNil))))
abbrev t_l_written_3 (K : Fr) : TS := (tIfS (tB (tCB (uIsi K) (tCons (tVar 3) (tCons (tC (.ty "list")) tNil)))) (tDrop (tBM K "list" rAppend (tVar 1) (tCons (tCall (sp_l_listed K) [] E0 (tCons (tVar 3) tNil)) tNil))) (t_l_written_5 K))
abbrev t_l_written_2 (K : Fr) : TS := (tSeq (tFor (iEnumT K (tCons (tSl (rSlA K) (tVar 0) (tPart (tC (.int 1))) tNoPart) tNil)) (gTup K 2 (gCons (gName 2) (gCons (gName 3) gNil))) (t_l_written_3 K))
 (tRet (tM1 (rJoin K) (tC (.str " ")) (tVar 1))))
abbrev t_l_written_1 (K : Fr) : TS := (tSeq (tAsg (tLst (tCons (tOp (uIx K) (tVar 0) (tC (.int 0))) tNil)) (gName 1))
 (t_l_written_2 K))
abbrev t_l_written (K : Fr) : TS := (t_l_written_1 K)
theorem pure_l_written {K : Fr} (vs : List V) (H : Hp) (Q : VK) (E : XK) (h : sp_l_written K vs H Q E) : t_l_written K { nx := λ _ H' => Q .non H', rt := Q } (L2.start ["_law_deed", "_law_words_here", "_law_k", "_law_part"] vs) H := by
 obtain ⟨Rs, v_a_deed, a_deed, P, rfl, S0, hf, hk⟩ := h
 show t_l_written K _ [some v_a_deed, none, none, none] H
 refine g_seq (g_asg (g_lst (g_cons (g_op (g_var rfl (g_c ?_))))))
 obtain ⟨x1, h2, hf⟩ := hf
 refine v_ixa S0 0 rfl h2 λ u3 S4 => ?_
 refine g_nil ?_
 obtain ⟨x6, h7, hf⟩ := hf
 have S8 := M.cstA S4 0 rfl h7
 obtain rfl := (S8.gotA 0 rfl).strV
 have S9 := S8.tl
 refine v_lsto (ds := ([x6]).map eS) S9 (EnF.consA (EnF.all λ _ => .str _) EnF.nilA) (len_ok rfl) λ p10 H12 (S11 : M (acR K p10 (([x6]).map eS) :: da K (V.str x6) (eA x1) :: _ :: Rs) H12) => ?_
 refine g_nx ?_
 show (_ : TS) _ [some v_a_deed, some (V.ref p10), none, none] _
 have S14 : M (oo2 Rs) H12 := (M.drp S11 1)
 refine g_seq (g_for (g_iEnumT (g_cons (g_sl (g_var rfl (g_part (g_c (g_int (g_noPart ?_)))))))))
 obtain ⟨x15, h16, hf⟩ := hf
 have S17 := M.cstA S14 1 rfl h16
 refine v_slA S17 0 rfl λ p19 H21 (S20 : M (da K p19 ((eV eA) (cutL x15 (some 1) none)) :: da K v_a_deed ((eV eA) x15) :: oo2 Rs) H21) => ?_
 refine g_nil ?_
 obtain ⟨a23, vs24, e_a23, S25⟩ := (M.addA S20 (EnF.at 0 rfl)).openT
 refine for_enumT (K := K) (β := (List Str)) (e := eA) e_a23 hf (λ (s32 : (List Str)) σ H' => ∃ (o37 : Option V) (o38 : Option V), σ = [some v_a_deed, some (V.ref p10), o37, o38] /\ M (acR K p10 (s32.map eS) :: rdT K a23 vs24 :: daA K vs24 ((cutL x15 (some 1) none).map eA) :: da K p19 ((eV eA) (cutL x15 (some 1) none)) :: da K v_a_deed ((eV eA) x15) :: da K v_a_deed (eA a_deed) :: Rs) H') ⟨_, _, rfl, (M.sub (.cons 4 rfl (.cons 0 rfl (.cons 0 rfl (.cons 0 rfl (.cons 0 rfl (.cons 0 rfl (.refl _))))))) S25)⟩ (λ _ _ _ h => by obtain ⟨_, _, _, S⟩ := h; exact ⟨S.gotTu 1 rfl, S.gotAA 2 rfl⟩) ?_ ?_
 ·
  rintro i28 u29 x35 s32 _ H40 T41 kk34 ⟨o37, o38, rfl, S39⟩ hT42 hv30 hx31 hf
  have S43 := S39.new (o := (.tup [.int x35.1, u29])) hT42
  refine g_gtup (.inl (.inl (S43.got 0 rfl))) rfl (g_gcons (g_name (g_gcons ?_)))
  have S44 := S43.elA 3 rfl hv30 hx31
  refine g_name (g_gnil (g_if (g_B (g_cb (g_cons (g_var rfl (g_cons (g_c (g_nil (v_isq (Dq.dn (M.gotA S44 0 rfl)) (by decide) rfl (g_bl (v_iff hf (λ _ hf => ?_) (λ _ hf => ?_)))))))))))))
  ·
   refine g_drop (g_bm (g_var rfl (M.tyO S44 2 rfl (g_cons (g_call (g_cons (g_var rfl (g_nil ?_))))))))
   obtain ⟨x46, h47, hf⟩ := hf
   have S48 := M.cstA S44 0 rfl h47
   refine ⟨_, _, _, _, rfl, (M.addA S48 (EnF.at 0 rfl)), hf, λ x51 H53 hf (S52 : M (da K u29 ((eL eI) x46) :: da K u29 (eA x35.2) :: pt T41 (.tup [.int x35.1, u29]) :: oo6 Rs) H53) => ?_⟩
   refine g_nil ?_
   obtain ⟨h55, hf⟩ := hf
   refine v_apl (e := eS) (x := x51) S52 3 rfl (EnF.all λ _ => .str _) h55 λ H57 (S56 : M (acR K p10 ((sno s32 x51).map eS) :: oo8 Rs) H57) => ?_
   exact ⟨_, hf, _, _, rfl, (M.pk S56 9 [0, 4, 5, 6, 7, 8] rfl)⟩
  ·
   refine g_if (g_test (g_op (g_op (g_var rfl (g_c ?_)))))
   obtain ⟨x59, h60, hf⟩ := hf
   refine v_ixv S44 6 rfl h60 λ u61 S62 => ?_
   refine g_tup (g_cons (g_c (g_cons (g_c (g_cons (g_c (g_nil (v_tupq S62 (EnF.consA (EnF.all λ _ => .str _) (EnF.consA (EnF.all λ _ => .str _) (EnF.consA (EnF.all λ _ => .str _) EnF.nilA))) (len_ok rfl) λ p64 H66 (S65 : M (da K (V.ref p64) ((eV eS) [("harm" : Str), ("lose" : Str), ("heal" : Str)]) :: da K u61 (eA x59) :: da K u29 (eA x35.2) :: pt T41 (.tup [.int x35.1, u29]) :: oo6 Rs) H66) => ?_))))))))
   obtain ⟨x68, h69, hf⟩ := hf
   have S70 := M.cstA S65 1 rfl h69
   obtain rfl := (S70.gotA 0 rfl).strV
   have S71 := S70.tl
   refine v_inV (M.gotA S71 0 rfl) (g_bl (v_iff hf (λ _ hf => ?_) (λ _ hf => ?_)))
   ·
    refine g_drop (g_bm (g_var rfl (M.tyO S71 4 rfl (g_cons (g_call (g_cons (g_var rfl (g_nil ?_))))))))
    obtain ⟨x72, h73, hf⟩ := hf
    have S74 := M.cstA S71 2 rfl h73
    obtain rfl := (S74.gotA 0 rfl).intV
    have S75 := S74.tl
    refine ⟨_, _, _, rfl, S75, hf, λ x76 H78 hf (S77 : M (_ :: da K (V.str x68) (eA x59) :: da K (V.int x72) (eA x35.2) :: pt T41 (.tup [.int x35.1, (V.int x72)]) :: oo6 Rs) H78) => ?_⟩
    refine g_nil ?_
    obtain ⟨h80, hf⟩ := hf
    refine v_apl (e := eS) (x := x76) S77 4 rfl (EnF.all λ _ => .str _) h80 λ H82 (S81 : M (acR K p10 ((sno s32 x76).map eS) :: oo9 Rs) H82) => ?_
    exact ⟨_, hf, _, _, rfl, (M.pk S81 10 [0, 5, 6, 7, 8, 9] rfl)⟩
   ·
    refine g_drop (g_bm (g_var rfl (M.tyO S71 4 rfl (g_cons (g_cb (g_cons (g_var rfl (g_nil ?_))))))))
    obtain ⟨x84, h85, hf⟩ := hf
    refine v_strA (M.gotA S71 2 rfl) h85 (g_nil ?_)
    obtain ⟨h86, hf⟩ := hf
    refine v_apl (e := eS) (x := x84) S71 4 rfl (EnF.all λ _ => .str _) h86 λ H88 (S87 : M (acR K p10 ((sno s32 x84).map eS) :: _ :: da K (V.str x68) (eA x59) :: oo7 Rs) H88) => ?_
    exact ⟨_, hf, _, _, rfl, (M.pk S87 10 [0, 5, 6, 7, 8, 9] rfl)⟩
 rintro s32 _ H91 hf ⟨o37, o38, rfl, S90⟩
 refine g_nx ?_
 show (_ : TS) _ [some v_a_deed, some (V.ref p10), o37, o38] _
 have S92 : M (oo4 Rs) H91 := (M.drp (M.drp S90 5) 3)
 obtain ⟨h93, hf⟩ := hf
 refine g_ret (g_m1 (g_c (v_isS (g_var rfl (v_join (M.gotO S92 0 rfl) h93 ?_)))))
 exact hk _ _ hf (M.pk S92 4 [] rfl)
def p_l_own (a_deed : PyData) (P : PyData -> Prop) : Prop := ∃ x3 : (List PyData), a_deed = (eV eA) x3 /\ (x3).length <= 100000 /\ lcD (λ (x20 : PyData) (k27 : Option PyData -> Prop) => jn (β := PyData) (λ k35 => if (isA "list" x20) = true then (∃ x36 : (List PyData), x20 = (eL eA) x36 /\ k35 ((eL eA) x36)) else (k35 x20)) λ x30 => k27 (some x30)) x3 [] λ acc17 => P ((eV eA) acc17)
def sp_l_own (K : Fr) : Sp := λ vs H Q _ => ∃ (Rs : List Res) (v_a_deed : V) (a_deed : PyData) (P : PyData -> Prop), vs = [v_a_deed] /\ M (da K v_a_deed (eA a_deed) :: Rs) H /\ p_l_own a_deed P /\ ∀ (r : PyData) (v : V) H', P r -> M (da K v (eA r) :: Rs) H' -> Q v H'
theorem len_l_own {K : Fr} (vs : List V) (H : Hp) (Q : VK) (E : XK) (h : sp_l_own K vs H Q E) : vs.length = 1 := by
 obtain ⟨Rs, v_a_deed, a_deed, P, rfl, _⟩ := h
 rfl
abbrev t_l_own (K : Fr) : TS := (tRet (tCB (rTupL K) (tCons (tLc (iTup K (tVar 0)) (gName 1) tYes (tIf (tB (tCB (uIsi K) (tCons (tVar 1) (tCons (tC (.ty "list")) tNil)))) (tCB (rListOf K) (tCons (tVar 1) tNil)) (tVar 1)) [1]) tNil)))
theorem pure_l_own {K : Fr} (vs : List V) (H : Hp) (Q : VK) (E : XK) (h : sp_l_own K vs H Q E) : t_l_own K { nx := λ _ H' => Q .non H', rt := Q } (L2.start ["_law_deed", "_law_part"] vs) H := by
 obtain ⟨Rs, v_a_deed, a_deed, P, rfl, S0, hf, hk⟩ := h
 show t_l_own K _ [some v_a_deed, none] H
 refine g_ret (g_cb (g_cons (g_lc (g_iTup (g_var rfl ?_)))))
 obtain ⟨x3, h4, hf⟩ := hf
 have S5 := M.cstA S0 0 rfl h4
 obtain ⟨a7, vs8, e_a7, S9⟩ := (M.addA S5 (EnF.at 0 rfl)).openT
 refine v_itTe e_a7 (S9.gotTu 0 rfl) ?_
 refine lc_tup (K := K) (e := eA) (e' := eA) hf S9 (λ _ S => ⟨S.gotTu 0 rfl, S.gotAA 1 rfl⟩) (λ i13 u14 x20 acc17 E18 H26 kk19 N21 hl22 S25 hv15 hx16 hf hp23 hn24 => ?_) (λ E18 acc17 H52 hf S51 => ?_)
 ·
  have S28 := S25.elA 2 rfl hv15 hx16
  refine g_name (g_wipe rfl (g_yes (v_ifT ?_)))
  refine tx_cut (β := PyData) hf (λ (x : PyData) v H => M (da K v (eA x) :: da K u14 (eA x20) :: acR K E18 (acc17.map eA) :: rdT K a7 vs8 :: daA K vs8 (x3.map eA) :: da K v_a_deed ((eV eA) x3) :: da K v_a_deed (eA a_deed) :: Rs) H) (λ kk32 P33 hP34 hf => ?_) ?_
  ·
   refine g_ifE (g_B (g_cb (g_cons (g_var rfl (g_cons (g_c (g_nil (v_isq (Dq.dn (M.gotA S28 0 rfl)) (by decide) rfl (g_bl (v_iff hf (λ _ hf => ?_) (λ _ hf => ?_)))))))))))
   ·
    refine g_cb (g_cons (g_var rfl (g_nil ?_)))
    obtain ⟨x36, h37, hf⟩ := hf
    have S38 := M.cstA S28 0 rfl h37
    refine v_liq S38 (.inl (EnF.at 0 rfl)) λ p40 H42 (S41 : M (acR K p40 (x36.map eA) :: da K u14 ((eL eA) x36) :: da K u14 (eA x20) :: acR K E18 (acc17.map eA) :: rdT K a7 vs8 :: daA K vs8 (x3.map eA) :: da K v_a_deed ((eV eA) x3) :: _ :: Rs) H42) => ?_
    have S44 : M (da K (V.ref p40) ((eL eA) x36) :: oo7 Rs) H42 := acR_fixL S41
    exact hP34 _ _ _ hf (M.sub (.cons 0 rfl (.cons 2 rfl (.cons 2 rfl (.cons 2 rfl (.cons 2 rfl (.cons 2 rfl (.cons 2 rfl (.tl (.tl (.refl _)))))))))) (M.addA S44 (EnF.at 0 rfl)))
   ·
    refine g_var rfl ?_
    exact hP34 _ _ _ hf (M.sub (.cons 0 rfl (.cons 0 rfl (.cons 0 rfl (.cons 0 rfl (.cons 0 rfl (.cons 0 rfl (.cons 0 rfl (.refl _)))))))) (M.addA S28 (EnF.at 0 rfl)))
  intro x30 v31 H47 hf S46
  refine acR_put S46 2 rfl (EnF.at 0 rfl) hl22 λ H50 (S49 : M (acR K E18 (acc17.map eA ++ [eA x30]) :: da K v31 (eA x30) :: da K u14 (eA x20) :: rdT K a7 vs8 :: daA K vs8 (x3.map eA) :: da K v_a_deed ((eV eA) x3) :: da K v_a_deed (eA a_deed) :: Rs) H50) => ?_
  exact hp23 _ _ hf (M.pk S49 7 [0, 3, 4, 5, 6] rfl)
 have S54 : M (da K (V.ref E18) ((eL eA) acc17) :: rdT K a7 vs8 :: daA K vs8 (x3.map eA) :: da K v_a_deed ((eV eA) x3) :: _ :: Rs) H52 := acR_fixL S51
 refine g_nil (v_tupL S54 0 rfl λ p56 H58 (S57 : M (da K (V.ref p56) ((eV eA) acc17) :: oo5 Rs) H58) => ?_)
 exact hk _ _ _ hf (M.pk S57 6 [0] rfl)
def p_is_name (a_thing : PyData) (P : Bool -> Prop) : Prop := jn (λ k5 => if (!(isA "str" a_thing)) = true then (k5 true) else (jn (λ k11 => ∃ x13 : Str, a_thing = eS x13 /\ ((x13).length <= 100000) /\ if (decide (1 <= ((x13).length : Int))) = true then (k11 (decide (((x13).length : Int) <= 8))) else (k11 false)) λ c7 => k5 (!c7))) λ c1 => if c1 = true then (P false) else (∃ x22 : Str, a_thing = eS x22 /\ forD (λ (x30 : Str) (s27 : Unit) (k28 : (Unit) -> Prop) => ∃ c34, inSt x30 ("abcdefghijklmnopqrstuvwxyz" : Str) = some c34 /\ if (!c34) = true then (P false) else (k28 ())) (strL x22) () λ s27 => P true)
def sp_is_name (K : Fr) : Sp := λ vs H Q _ => ∃ (Rs : List Res) (v_a_thing : V) (a_thing : PyData) (P : Bool -> Prop), vs = [v_a_thing] /\ M (da K v_a_thing (eA a_thing) :: Rs) H /\ p_is_name a_thing P /\ ∀ (r : Bool) H', P r -> M (Rs) H' -> Q (V.bl r) H'
theorem len_is_name {K : Fr} (vs : List V) (H : Hp) (Q : VK) (E : XK) (h : sp_is_name K vs H Q E) : vs.length = 1 := by
 obtain ⟨Rs, v_a_thing, a_thing, P, rfl, _⟩ := h
 rfl
abbrev t_is_name_4 (K : Fr) : TS := (tIfS (tTest (tOp (uNotIn K) (tVar 1) (tC (.str "abcdefghijklmnopqrstuvwxyz")))) (tRet (tC (.bl false))) tNext)
abbrev t_is_name_3 (K : Fr) : TS := (tSeq (tFor (iStr (tVar 0)) (gName 1) (t_is_name_4 K))
 (tRet (tC (.bl true))))
abbrev t_is_name_1 (K : Fr) : TS := (tSeq (tIfS (tOr (tNot (tB (tCB (uIsi K) (tCons (tVar 0) (tCons (tC (.ty "str")) tNil))))) (tNot (tTest (tChain uLe uLe (tC (.int 1)) (tCB (uLen K) (tCons (tVar 0) tNil)) (tC (.int 8)))))) (tRet (tC (.bl false))) tNext)
 (t_is_name_3 K))
abbrev t_is_name (K : Fr) : TS := (t_is_name_1 K)
theorem pure_is_name {K : Fr} (vs : List V) (H : Hp) (Q : VK) (E : XK) (h : sp_is_name K vs H Q E) : t_is_name K { nx := λ _ H' => Q .non H', rt := Q } (L2.start ["thing", "letter"] vs) H := by
 obtain ⟨Rs, v_a_thing, a_thing, P, rfl, S0, hf, hk⟩ := h
 show t_is_name K _ [some v_a_thing, none] H
 refine g_seq (g_if ?_)
 refine tt_cut hf (λ H => M (da K v_a_thing (eA a_thing) :: Rs) H) (λ kk2 P3 hP4 hf => ?_) ?_
 ·
  refine g_or (g_not (g_B (g_cb (g_cons (g_var rfl (g_cons (g_c (g_nil (v_isq (Dq.dn (M.gotA S0 0 rfl)) (by decide) rfl (g_bl (v_iff hf (λ _ hf => ?_) (λ _ hf => ?_))))))))))))
  ·
   exact hP4 _ _ hf (M.pk S0 1 [0] rfl)
  ·
   refine g_not (g_test ?_)
   refine te_cut hf (λ H => M (da K v_a_thing (eA a_thing) :: Rs) H) (λ kk8 P9 hP10 hf => ?_) ?_
   ·
    refine g_chain (g_c (g_cb (g_cons (g_var rfl (g_nil ?_)))))
    obtain ⟨x13, h14, hf⟩ := hf
    have S15 := M.cstA S0 0 rfl h14
    obtain rfl := (S15.gotA 0 rfl).strV
    have S16 := S15.tl
    obtain ⟨h17, hf⟩ := hf
    refine v_lenS h17 (v_le (g_bl (v_iff hf (λ _ hf => ?_) (λ _ hf => ?_))))
    ·
     refine g_c (v_le ?_)
     exact hP10 _ _ hf (M.sub (.cons 0 rfl (.refl _)) S16)
    ·
     exact hP10 _ _ hf (M.sub (.cons 0 rfl (.refl _)) S16)
   intro c7 H19 hf S18
   refine g_bl ?_
   exact hP4 _ _ hf (M.sub (.cons 0 rfl (.refl _)) S18)
 intro c1 H21 hf S20
 refine v_iff hf (λ _ hf => ?_) (λ _ hf => ?_)
 ·
  refine g_ret (g_c ?_)
  exact hk _ _ hf (M.sub (.tl (.refl _)) S20)
 ·
  refine g_next (g_nx ?_)
  show (_ : TS) _ [some v_a_thing, none] _
  obtain ⟨x22, h23, hf⟩ := hf
  have S24 := M.cstA S20 0 rfl h23
  obtain rfl := (S24.gotA 0 rfl).strV
  have S25 := S24.tl
  refine g_seq (g_for (g_iStr (g_var rfl (⟨_, rfl, ?_⟩))))
  have S26 : M (Rs) H21 := (M.drp S25 0)
  refine for_str (β := Unit) hf (λ (s27 : Unit) σ H' => ∃ (o31 : Option V), σ = [some (V.str x22), o31] /\ M (Rs) H') ⟨_, rfl, (M.pk S26 0 [] rfl)⟩ ?_ ?_
  ·
   rintro x30 s27 _ H33 kk29 ⟨o31, rfl, S32⟩ hf
   obtain ⟨c34, h35, hf⟩ := hf
   refine g_name (g_if (g_test (g_op (g_var rfl (g_c (v_ninSt h35 (g_bl (v_iff hf (λ _ hf => ?_) (λ _ hf => ?_)))))))))
   ·
    refine g_ret (g_c ?_)
    exact hk _ _ hf (M.sub (.refl _) S32)
   ·
    refine g_next ?_
    exact ⟨_, hf, _, rfl, (M.sub (.refl _) S32)⟩
  rintro s27 _ H37 hf ⟨o31, rfl, S36⟩
  refine g_nx ?_
  show (_ : TS) _ [some (V.str x22), o31] _
  refine g_ret (g_c ?_)
  exact hk _ _ hf (M.sub (.refl _) S36)
def p_is_whole (a_thing : PyData) (P : Bool -> Prop) : Prop := P ((isA "int" a_thing) && (!(isA "bool" a_thing)))
def sp_is_whole (K : Fr) : Sp := λ vs H Q _ => ∃ (Rs : List Res) (v_a_thing : V) (a_thing : PyData) (P : Bool -> Prop), vs = [v_a_thing] /\ M (da K v_a_thing (eA a_thing) :: Rs) H /\ p_is_whole a_thing P /\ ∀ (r : Bool) H', P r -> M (Rs) H' -> Q (V.bl r) H'
theorem len_is_whole {K : Fr} (vs : List V) (H : Hp) (Q : VK) (E : XK) (h : sp_is_whole K vs H Q E) : vs.length = 1 := by
 obtain ⟨Rs, v_a_thing, a_thing, P, rfl, _⟩ := h
 rfl
abbrev t_is_whole (K : Fr) : TS := (tRet (tAndV (tCB (uIsi K) (tCons (tVar 0) (tCons (tC (.ty "int")) tNil))) (tNotV (tCB (uIsi K) (tCons (tVar 0) (tCons (tC (.ty "bool")) tNil))))))
theorem pure_is_whole {K : Fr} (vs : List V) (H : Hp) (Q : VK) (E : XK) (h : sp_is_whole K vs H Q E) : t_is_whole K { nx := λ _ H' => Q .non H', rt := Q } (L2.start ["thing"] vs) H := by
 obtain ⟨Rs, v_a_thing, a_thing, P, rfl, S0, hf, hk⟩ := h
 show t_is_whole K _ [some v_a_thing] H
 refine g_ret (g_andVP (c1 := (isA "int" a_thing)) (c2 := (!(isA "bool" a_thing))) (λ _ hq => ?_) (λ _ hq => ?_) ?_)
 ·
  refine g_cb (g_cons (g_var rfl (g_cons (g_c (g_nil (v_isq (Dq.dn (M.gotA S0 0 rfl)) (by decide) rfl ?_))))))
  exact hq
 ·
  refine g_notV (g_cb (g_cons (g_var rfl (g_cons (g_c (g_nil (v_isq (Dq.dn (M.gotA S0 0 rfl)) (by decide) rfl (g_bl ?_))))))))
  exact hq
 exact hk _ _ hf (M.pk S0 1 [] rfl)
def p_is_sign (a_thing : PyData) (P : Bool -> Prop) : Prop := jn (λ k5 => p_is_whole a_thing λ x8 => if x8 = true then (∃ x12 : Int, a_thing = eI x12 /\ k5 ((decide (0 <= x12)) && (decide (x12 <= 999)))) else (k5 false)) λ c1 => P c1
def sp_is_sign (K : Fr) : Sp := λ vs H Q _ => ∃ (Rs : List Res) (v_a_thing : V) (a_thing : PyData) (P : Bool -> Prop), vs = [v_a_thing] /\ M (da K v_a_thing (eA a_thing) :: Rs) H /\ p_is_sign a_thing P /\ ∀ (r : Bool) H', P r -> M (Rs) H' -> Q (V.bl r) H'
theorem len_is_sign {K : Fr} (vs : List V) (H : Hp) (Q : VK) (E : XK) (h : sp_is_sign K vs H Q E) : vs.length = 1 := by
 obtain ⟨Rs, v_a_thing, a_thing, P, rfl, _⟩ := h
 rfl
abbrev t_is_sign (K : Fr) : TS := (tRet (tAndV (tCall (sp_is_whole K) [] E0 (tCons (tVar 0) tNil)) (tChain uLe uLe (tC (.int 0)) (tVar 0) (tC (.int 999)))))
theorem pure_is_sign {K : Fr} (vs : List V) (H : Hp) (Q : VK) (E : XK) (h : sp_is_sign K vs H Q E) : t_is_sign K { nx := λ _ H' => Q .non H', rt := Q } (L2.start ["thing"] vs) H := by
 obtain ⟨Rs, v_a_thing, a_thing, P, rfl, S0, hf, hk⟩ := h
 show t_is_sign K _ [some v_a_thing] H
 refine g_ret ?_
 refine te_cut hf (λ H => M (da K v_a_thing (eA a_thing) :: Rs) H) (λ kk2 P3 hP4 hf => ?_) ?_
 ·
  refine g_andV (g_call (g_cons (g_var rfl (g_nil (⟨_, _, _, _, rfl, (M.addA S0 (EnF.at 0 rfl)), hf, λ x8 H10 hf (S9 : M (_ :: Rs) H10) => ?_⟩)))))
  refine g_bl (v_iff hf (λ _ hf => ?_) (λ _ hf => ?_))
  ·
   obtain ⟨x12, h13, hf⟩ := hf
   have S14 := M.cstA S9 0 rfl h13
   obtain rfl := (S14.gotA 0 rfl).intV
   have S15 := S14.tl
   refine g_chainP (c1 := (decide (0 <= x12))) (c2 := (decide (x12 <= 999))) (λ _ hq => ?_) (λ _ hq => ?_) (λ _ hq => v_le hq) (λ _ hq => ?_) (λ _ hq => v_le hq) ?_
   ·
    refine g_c ?_
    exact hq
   ·
    refine g_var rfl ?_
    exact hq
   ·
    refine g_c ?_
    exact hq
   exact hP4 _ _ hf (M.sub (.cons 0 rfl (.refl _)) S15)
  ·
   exact hP4 _ _ hf (M.pk S9 1 [0] rfl)
 intro c1 H17 hf S16
 exact hk _ _ hf (M.sub (.tl (.refl _)) S16)
def p_are_signs (a_thing : PyData) (a_fewest : Int) (a_most : Int) (P : Bool -> Prop) : Prop := jn (λ k5 => if (!(isA "list" a_thing)) = true then (k5 true) else (jn (λ k11 => ∃ x13 : (List PyData), a_thing = (eL eA) x13 /\ if (decide (a_fewest <= ((x13).length : Int))) = true then (k11 (decide (((x13).length : Int) <= a_most))) else (k11 false)) λ c7 => k5 (!c7))) λ c1 => if c1 = true then (P false) else (∃ x21 : (List PyData), a_thing = (eL eA) x21 /\ forD (λ (x38 : PyData) (s35 : Unit) (k36 : (Unit) -> Prop) => p_is_sign x38 λ x45 => if (!x45) = true then (P false) else (k36 ())) x21 () λ s35 => P true)
def sp_are_signs (K : Fr) : Sp := λ vs H Q _ => ∃ (Rs : List Res) (v_a_thing : V) (a_thing : PyData) (a_fewest : Int) (a_most : Int) (P : Bool -> Prop), vs = [v_a_thing, (V.int a_fewest), (V.int a_most)] /\ M (da K v_a_thing (eA a_thing) :: Rs) H /\ p_are_signs a_thing a_fewest a_most P /\ ∀ (r : Bool) H', P r -> M (Rs) H' -> Q (V.bl r) H'
theorem len_are_signs {K : Fr} (vs : List V) (H : Hp) (Q : VK) (E : XK) (h : sp_are_signs K vs H Q E) : vs.length = 3 := by
 obtain ⟨Rs, v_a_thing, a_thing, a_fewest, a_most, P, rfl, _⟩ := h
 rfl
abbrev t_are_signs_4 (K : Fr) : TS := (tIfS (tNot (tB (tCall (sp_is_sign K) [] E0 (tCons (tVar 3) tNil)))) (tRet (tC (.bl false))) tNext)
abbrev t_are_signs_3 (K : Fr) : TS := (tSeq (tFor (iList K (tVar 0)) (gName 3) (t_are_signs_4 K))
 (tRet (tC (.bl true))))
abbrev t_are_signs_1 (K : Fr) : TS := (tSeq (tIfS (tOr (tNot (tB (tCB (uIsi K) (tCons (tVar 0) (tCons (tC (.ty "list")) tNil))))) (tNot (tTest (tChain uLe uLe (tVar 1) (tCB (uLen K) (tCons (tVar 0) tNil)) (tVar 2))))) (tRet (tC (.bl false))) tNext)
 (t_are_signs_3 K))
abbrev t_are_signs (K : Fr) : TS := (t_are_signs_1 K)
theorem pure_are_signs {K : Fr} (vs : List V) (H : Hp) (Q : VK) (E : XK) (h : sp_are_signs K vs H Q E) : t_are_signs K { nx := λ _ H' => Q .non H', rt := Q } (L2.start ["thing", "fewest", "most", "sign"] vs) H := by
 obtain ⟨Rs, v_a_thing, a_thing, a_fewest, a_most, P, rfl, S0, hf, hk⟩ := h
 show t_are_signs K _ [some v_a_thing, some (V.int a_fewest), some (V.int a_most), none] H
 refine g_seq (g_if ?_)
 refine tt_cut hf (λ H => M (da K v_a_thing (eA a_thing) :: Rs) H) (λ kk2 P3 hP4 hf => ?_) ?_
 ·
  refine g_or (g_not (g_B (g_cb (g_cons (g_var rfl (g_cons (g_c (g_nil (v_isq (Dq.dn (M.gotA S0 0 rfl)) (by decide) rfl (g_bl (v_iff hf (λ _ hf => ?_) (λ _ hf => ?_))))))))))))
  ·
   exact hP4 _ _ hf (M.pk S0 1 [0] rfl)
  ·
   refine g_not (g_test ?_)
   refine te_cut hf (λ H => M (da K v_a_thing (eA a_thing) :: Rs) H) (λ kk8 P9 hP10 hf => ?_) ?_
   ·
    refine g_chain (g_var rfl (g_cb (g_cons (g_var rfl (g_nil ?_)))))
    obtain ⟨x13, h14, hf⟩ := hf
    have S15 := M.cstA S0 0 rfl h14
    refine v_lenl S15 0 rfl (v_le (g_bl (v_iff hf (λ _ hf => ?_) (λ _ hf => ?_))))
    ·
     refine g_var rfl (v_le ?_)
     exact hP10 _ _ hf (M.sub (.cons 1 rfl (.tl (.refl _))) S15)
    ·
     exact hP10 _ _ hf (M.sub (.cons 1 rfl (.tl (.refl _))) S15)
   intro c7 H18 hf S17
   refine g_bl ?_
   exact hP4 _ _ hf (M.sub (.cons 0 rfl (.refl _)) S17)
 intro c1 H20 hf S19
 refine v_iff hf (λ _ hf => ?_) (λ _ hf => ?_)
 ·
  refine g_ret (g_c ?_)
  exact hk _ _ hf (M.sub (.tl (.refl _)) S19)
 ·
  refine g_next (g_nx (g_seq (g_for (g_iList (g_var rfl ?_)))))
  obtain ⟨x21, h22, hf⟩ := hf
  have S23 := M.cstA S19 0 rfl h22
  obtain ⟨a25, vs26, e_a25, S27⟩ := (M.addA S23 (EnF.at 0 rfl)).openQ
  refine v_itLe e_a25 (S27.gotR 0 rfl) ?_
  refine for_lst (K := K) (β := Unit) (e := eA) hf (λ (s35 : Unit) σ H' => ∃ (o39 : Option V), σ = [some v_a_thing, some (V.int a_fewest), some (V.int a_most), o39] /\ M (rdL K a25 vs26 :: daA K vs26 (x21.map eA) :: da K v_a_thing ((eL eA) x21) :: da K v_a_thing (eA a_thing) :: Rs) H') ⟨_, rfl, (M.sub (.cons 0 rfl (.cons 0 rfl (.cons 0 rfl (.cons 0 rfl (.refl _))))) S27)⟩ (λ _ _ _ h => by obtain ⟨_, _, S⟩ := h; exact ⟨S.gotR 0 rfl, S.gotAA 1 rfl⟩) ?_ ?_
  ·
   rintro i31 u32 x38 s35 _ H41 kk37 ⟨o39, rfl, S40⟩ hv33 hx34 hf
   have S42 := S40.elA 1 rfl hv33 hx34
   refine g_name (g_if (g_not (g_B (g_call (g_cons (g_var rfl (g_nil (⟨_, _, _, _, rfl, (M.addA S42 (EnF.at 0 rfl)), hf, λ x45 H47 hf (S46 : M (da K u32 (eA x38) :: oo4 Rs) H47) => ?_⟩))))))))
   refine g_bl (v_iff hf (λ _ hf => ?_) (λ _ hf => ?_))
   ·
    refine g_ret (g_c ?_)
    exact hk _ _ hf (M.pk S46 5 [] rfl)
   ·
    refine g_next ?_
    exact ⟨_, hf, _, rfl, (M.pk S46 5 [1, 2, 3, 4] rfl)⟩
  rintro s35 _ H50 hf ⟨o39, rfl, S49⟩
  refine g_nx ?_
  show (_ : TS) _ [some v_a_thing, some (V.int a_fewest), some (V.int a_most), o39] _
  have S51 : M (oo3 Rs) H50 := (M.drp S49 3)
  refine g_ret (g_c ?_)
  exact hk _ _ hf (M.pk S51 3 [] rfl)
def p_is_content (a_thing : PyData) (P : Bool -> Prop) : Prop := p_are_signs a_thing 0 48 λ x2 => P x2
def sp_is_content (K : Fr) : Sp := λ vs H Q _ => ∃ (Rs : List Res) (v_a_thing : V) (a_thing : PyData) (P : Bool -> Prop), vs = [v_a_thing] /\ M (da K v_a_thing (eA a_thing) :: Rs) H /\ p_is_content a_thing P /\ ∀ (r : Bool) H', P r -> M (Rs) H' -> Q (V.bl r) H'
theorem len_is_content {K : Fr} (vs : List V) (H : Hp) (Q : VK) (E : XK) (h : sp_is_content K vs H Q E) : vs.length = 1 := by
 obtain ⟨Rs, v_a_thing, a_thing, P, rfl, _⟩ := h
 rfl
abbrev t_is_content (K : Fr) : TS := (tRet (tCall (sp_are_signs K) [] E0 (tCons (tVar 0) (tCons (tC (.int 0)) (tCons (tC (.int 48)) tNil)))))
theorem pure_is_content {K : Fr} (vs : List V) (H : Hp) (Q : VK) (E : XK) (h : sp_is_content K vs H Q E) : t_is_content K { nx := λ _ H' => Q .non H', rt := Q } (L2.start ["thing"] vs) H := by
 obtain ⟨Rs, v_a_thing, a_thing, P, rfl, S0, hf, hk⟩ := h
 show t_is_content K _ [some v_a_thing] H
 refine g_ret (g_call (g_cons (g_var rfl (g_cons (g_c (g_cons (g_c (g_nil (⟨_, _, _, _, _, _, rfl, (M.addA S0 (EnF.at 0 rfl)), hf, λ x2 H4 hf (S3 : M (_ :: Rs) H4) => ?_⟩)))))))))
 exact hk _ _ hf (M.pk S3 1 [] rfl)
def p_is_time (a_thing : PyData) (P : Bool -> Prop) : Prop := jn (λ k5 => p_is_whole a_thing λ x8 => if x8 = true then (∃ x12 : Int, a_thing = eI x12 /\ k5 ((decide (0 <= x12)) && (decide (x12 <= 1000000)))) else (k5 false)) λ c1 => P c1
def sp_is_time (K : Fr) : Sp := λ vs H Q _ => ∃ (Rs : List Res) (v_a_thing : V) (a_thing : PyData) (P : Bool -> Prop), vs = [v_a_thing] /\ M (da K v_a_thing (eA a_thing) :: Rs) H /\ p_is_time a_thing P /\ ∀ (r : Bool) H', P r -> M (Rs) H' -> Q (V.bl r) H'
theorem len_is_time {K : Fr} (vs : List V) (H : Hp) (Q : VK) (E : XK) (h : sp_is_time K vs H Q E) : vs.length = 1 := by
 obtain ⟨Rs, v_a_thing, a_thing, P, rfl, _⟩ := h
 rfl
abbrev t_is_time (K : Fr) : TS := (tRet (tAndV (tCall (sp_is_whole K) [] E0 (tCons (tVar 0) tNil)) (tChain uLe uLe (tC (.int 0)) (tVar 0) (tC (.int 1000000)))))
theorem pure_is_time {K : Fr} (vs : List V) (H : Hp) (Q : VK) (E : XK) (h : sp_is_time K vs H Q E) : t_is_time K { nx := λ _ H' => Q .non H', rt := Q } (L2.start ["thing"] vs) H := by
 obtain ⟨Rs, v_a_thing, a_thing, P, rfl, S0, hf, hk⟩ := h
 show t_is_time K _ [some v_a_thing] H
 refine g_ret ?_
 refine te_cut hf (λ H => M (da K v_a_thing (eA a_thing) :: Rs) H) (λ kk2 P3 hP4 hf => ?_) ?_
 ·
  refine g_andV (g_call (g_cons (g_var rfl (g_nil (⟨_, _, _, _, rfl, (M.addA S0 (EnF.at 0 rfl)), hf, λ x8 H10 hf (S9 : M (_ :: Rs) H10) => ?_⟩)))))
  refine g_bl (v_iff hf (λ _ hf => ?_) (λ _ hf => ?_))
  ·
   obtain ⟨x12, h13, hf⟩ := hf
   have S14 := M.cstA S9 0 rfl h13
   obtain rfl := (S14.gotA 0 rfl).intV
   have S15 := S14.tl
   refine g_chainP (c1 := (decide (0 <= x12))) (c2 := (decide (x12 <= 1000000))) (λ _ hq => ?_) (λ _ hq => ?_) (λ _ hq => v_le hq) (λ _ hq => ?_) (λ _ hq => v_le hq) ?_
   ·
    refine g_c ?_
    exact hq
   ·
    refine g_var rfl ?_
    exact hq
   ·
    refine g_c ?_
    exact hq
   exact hP4 _ _ hf (M.sub (.cons 0 rfl (.refl _)) S15)
  ·
   exact hP4 _ _ hf (M.pk S9 1 [0] rfl)
 intro c1 H17 hf S16
 exact hk _ _ hf (M.sub (.tl (.refl _)) S16)
def p_is_kind (a_thing : PyData) (P : Bool -> Prop) : Prop := jn (λ k5 => if (isA "str" a_thing) = true then (∃ x9 : Str, a_thing = eS x9 /\ k5 (([("full" : Str), ("step" : Str), ("wide" : Str)]).any λ y => decide (y = x9))) else (k5 false)) λ c1 => P c1
def sp_is_kind (K : Fr) : Sp := λ vs H Q _ => ∃ (Rs : List Res) (v_a_thing : V) (a_thing : PyData) (P : Bool -> Prop), vs = [v_a_thing] /\ M (da K v_a_thing (eA a_thing) :: Rs) H /\ p_is_kind a_thing P /\ ∀ (r : Bool) H', P r -> M (Rs) H' -> Q (V.bl r) H'
theorem len_is_kind {K : Fr} (vs : List V) (H : Hp) (Q : VK) (E : XK) (h : sp_is_kind K vs H Q E) : vs.length = 1 := by
 obtain ⟨Rs, v_a_thing, a_thing, P, rfl, _⟩ := h
 rfl
abbrev t_is_kind (K : Fr) : TS := (tRet (tAndV (tCB (uIsi K) (tCons (tVar 0) (tCons (tC (.ty "str")) tNil))) (tOp (uIn K) (tVar 0) (tC (.ref (He.ga K "DEED_KINDS"))))))
theorem pure_is_kind {K : Fr} (T : TxC K) (vs : List V) (H : Hp) (Q : VK) (E : XK) (h : sp_is_kind K vs H Q E) : t_is_kind K { nx := λ _ H' => Q .non H', rt := Q } (L2.start ["thing"] vs) H := by
 obtain ⟨Rs, v_a_thing, a_thing, P, rfl, S0, hf, hk⟩ := h
 show t_is_kind K _ [some v_a_thing] H
 refine g_ret ?_
 refine te_cut hf (λ H => M (da K v_a_thing (eA a_thing) :: Rs) H) (λ kk2 P3 hP4 hf => ?_) ?_
 ·
  refine g_andV (g_cb (g_cons (g_var rfl (g_cons (g_c (g_nil (v_isq (Dq.dn (M.gotA S0 0 rfl)) (by decide) rfl (g_bl (v_iff hf (λ _ hf => ?_) (λ _ hf => ?_))))))))))
  ·
   have S7 : M (da K (V.ref (He.ga K "DEED_KINDS")) ((eV eS) [("full" : Str), ("step" : Str), ("wide" : Str)]) :: _ :: Rs) H := M.addA S0 (EnF.all λ F => .tup (T.ct_DEED_KINDS F) (flS.ofA [("full" : Str), ("step" : Str), ("wide" : Str)]))
   refine g_op (g_var rfl (g_c ?_))
   obtain ⟨x9, h10, hf⟩ := hf
   have S11 := M.cstA S7 1 rfl h10
   obtain rfl := (S11.gotA 0 rfl).strV
   have S12 := S11.tl
   refine v_inV (M.gotA S12 0 rfl) ?_
   exact hP4 _ _ hf (M.sub (.cons 1 rfl (.tl (.refl _))) S12)
  ·
   exact hP4 _ _ hf (M.pk S0 1 [0] rfl)
 intro c1 H14 hf S13
 exact hk _ _ hf (M.sub (.tl (.refl _)) S13)
def p_is_seal (a_thing : PyData) (P : Bool -> Prop) : Prop := jn (λ k5 => p_is_whole a_thing λ x8 => if (!x8) = true then (k5 true) else (∃ x12 : Int, a_thing = eI x12 /\ k5 (decide (x12 < 1)))) λ c1 => if c1 = true then (P false) else (∃ x18 : Int, a_thing = eI x18 /\ ((-(2 ^ 62) : Int) <= 16 /\ 16 < (2 ^ 62 : Int)) /\ forD (λ (x27 : Int) (s24 : Int) (k25 : (Int) -> Prop) => ((0 : Int) < 1001) /\ if (decide ((s24 % 1001) = 0)) = true then (P false) else ((CDiv s24 1001) /\ if (decide ((s24 / 1001) = 0)) = true then (P true) else (k25 (s24 / 1001)))) (rng 16) x18 λ s24 => P false)
def sp_is_seal (K : Fr) : Sp := λ vs H Q _ => ∃ (Rs : List Res) (v_a_thing : V) (a_thing : PyData) (P : Bool -> Prop), vs = [v_a_thing] /\ M (da K v_a_thing (eA a_thing) :: Rs) H /\ p_is_seal a_thing P /\ ∀ (r : Bool) H', P r -> M (Rs) H' -> Q (V.bl r) H'
theorem len_is_seal {K : Fr} (vs : List V) (H : Hp) (Q : VK) (E : XK) (h : sp_is_seal K vs H Q E) : vs.length = 1 := by
 obtain ⟨Rs, v_a_thing, a_thing, P, rfl, _⟩ := h
 rfl
abbrev t_is_seal_8 (K : Fr) : TS := (tIfS (tTest (tOp (uEq K) (tVar 1) (tC (.int 0)))) (tRet (tC (.bl true))) tNext)
abbrev t_is_seal_7 (K : Fr) : TS := (tSeq (tAug 1 (tC (.int 1001)) iDiv)
 (t_is_seal_8 K))
abbrev t_is_seal_5 (K : Fr) : TS := (tSeq (tIfS (tTest (tOp (uEq K) (tOp uMod (tVar 1) (tC (.int 1001))) (tC (.int 0)))) (tRet (tC (.bl false))) tNext)
 (t_is_seal_7 K))
abbrev t_is_seal_4 (K : Fr) : TS := (tSeq (tFor (iRng1 (tCons (tC (.int 16)) tNil)) (gName 2) (t_is_seal_5 K))
 (tRet (tC (.bl false))))
abbrev t_is_seal_3 (K : Fr) : TS := (tSeq (tAsg (tVar 0) (gName 1))
 (t_is_seal_4 K))
abbrev t_is_seal_1 (K : Fr) : TS := (tSeq (tIfS (tOr (tNot (tB (tCall (sp_is_whole K) [] E0 (tCons (tVar 0) tNil)))) (tTest (tOp uLt (tVar 0) (tC (.int 1))))) (tRet (tC (.bl false))) tNext)
 (t_is_seal_3 K))
abbrev t_is_seal (K : Fr) : TS := (t_is_seal_1 K)
theorem pure_is_seal {K : Fr} (vs : List V) (H : Hp) (Q : VK) (E : XK) (h : sp_is_seal K vs H Q E) : t_is_seal K { nx := λ _ H' => Q .non H', rt := Q } (L2.start ["thing", "rest", "turn"] vs) H := by
 obtain ⟨Rs, v_a_thing, a_thing, P, rfl, S0, hf, hk⟩ := h
 show t_is_seal K _ [some v_a_thing, none, none] H
 refine g_seq (g_if ?_)
 refine tt_cut hf (λ H => M (da K v_a_thing (eA a_thing) :: Rs) H) (λ kk2 P3 hP4 hf => ?_) ?_
 ·
  refine g_or (g_not (g_B (g_call (g_cons (g_var rfl (g_nil (⟨_, _, _, _, rfl, (M.addA S0 (EnF.at 0 rfl)), hf, λ x8 H10 hf (S9 : M (_ :: Rs) H10) => ?_⟩)))))))
  refine g_bl (v_iff hf (λ _ hf => ?_) (λ _ hf => ?_))
  ·
   exact hP4 _ _ hf (M.pk S9 1 [0] rfl)
  ·
   refine g_test (g_op (g_var rfl (g_c ?_)))
   obtain ⟨x12, h13, hf⟩ := hf
   have S14 := M.cstA S9 0 rfl h13
   obtain rfl := (S14.gotA 0 rfl).intV
   have S15 := S14.tl
   refine v_lt (g_bl ?_)
   exact hP4 _ _ hf (M.sub (.cons 0 rfl (.refl _)) S15)
 intro c1 H17 hf S16
 refine v_iff hf (λ _ hf => ?_) (λ _ hf => ?_)
 ·
  refine g_ret (g_c ?_)
  exact hk _ _ hf (M.sub (.tl (.refl _)) S16)
 ·
  refine g_next (g_nx (g_seq (g_asg (g_var rfl ?_))))
  obtain ⟨x18, h19, hf⟩ := hf
  have S20 := M.cstA S16 0 rfl h19
  obtain rfl := (S20.gotA 0 rfl).intV
  have S21 := S20.tl
  refine g_nx ?_
  show (_ : TS) _ [some (V.int x18), some (V.int x18), none] _
  have S22 : M (Rs) H17 := (M.drp S21 0)
  obtain ⟨h23, hf⟩ := hf
  refine g_seq (g_for (g_iRng1 (g_cons (g_c (g_nil (v_itR h23 ?_))))))
  refine for_rng (β := Int) hf (λ (s24 : Int) σ H' => ∃ (o28 : Option V), σ = [some (V.int x18), some (V.int s24), o28] /\ M (Rs) H') ⟨_, rfl, (M.pk S22 0 [] rfl)⟩ ?_ ?_
  ·
   rintro x27 s24 _ H30 kk26 ⟨o28, rfl, S29⟩ hf
   obtain ⟨h31, hf⟩ := hf
   refine g_name (g_seq (g_if (g_test (g_op (g_op (g_var rfl (g_c (v_mod h31 (g_c (v_eqI (g_bl (v_iff hf (λ _ hf => ?_) (λ _ hf => ?_)))))))))))))
   ·
    refine g_ret (g_c ?_)
    exact hk _ _ hf (M.sub (.refl _) S29)
   ·
    obtain ⟨h32, hf⟩ := hf
    refine g_next (g_nx (g_seq (g_aug rfl (g_c (v_idiv h32 (g_nx ?_))))))
    show (_ : TS) _ [some (V.int x18), some (V.int (s24 / 1001)), some (V.int x27)] _
    refine g_if (g_test (g_op (g_var rfl (g_c (v_eqI (g_bl (v_iff hf (λ _ hf => ?_) (λ _ hf => ?_))))))))
    ·
     refine g_ret (g_c ?_)
     exact hk _ _ hf (M.sub (.refl _) S29)
    ·
     refine g_next ?_
     exact ⟨_, hf, _, rfl, (M.sub (.refl _) S29)⟩
  rintro s24 _ H34 hf ⟨o28, rfl, S33⟩
  refine g_nx ?_
  show (_ : TS) _ [some (V.int x18), some (V.int s24), o28] _
  refine g_ret (g_c ?_)
  exact hk _ _ hf (M.sub (.refl _) S33)
def p_is_body (a_thing : PyData) (P : Bool -> Prop) : Prop := p_are_signs a_thing 0 16 λ x2 => P x2
def sp_is_body (K : Fr) : Sp := λ vs H Q _ => ∃ (Rs : List Res) (v_a_thing : V) (a_thing : PyData) (P : Bool -> Prop), vs = [v_a_thing] /\ M (da K v_a_thing (eA a_thing) :: Rs) H /\ p_is_body a_thing P /\ ∀ (r : Bool) H', P r -> M (Rs) H' -> Q (V.bl r) H'
theorem len_is_body {K : Fr} (vs : List V) (H : Hp) (Q : VK) (E : XK) (h : sp_is_body K vs H Q E) : vs.length = 1 := by
 obtain ⟨Rs, v_a_thing, a_thing, P, rfl, _⟩ := h
 rfl
abbrev t_is_body (K : Fr) : TS := (tRet (tCall (sp_are_signs K) [] E0 (tCons (tVar 0) (tCons (tC (.int 0)) (tCons (tC (.int 16)) tNil)))))
theorem pure_is_body {K : Fr} (vs : List V) (H : Hp) (Q : VK) (E : XK) (h : sp_is_body K vs H Q E) : t_is_body K { nx := λ _ H' => Q .non H', rt := Q } (L2.start ["thing"] vs) H := by
 obtain ⟨Rs, v_a_thing, a_thing, P, rfl, S0, hf, hk⟩ := h
 show t_is_body K _ [some v_a_thing] H
 refine g_ret (g_call (g_cons (g_var rfl (g_cons (g_c (g_cons (g_c (g_nil (⟨_, _, _, _, _, _, rfl, (M.addA S0 (EnF.at 0 rfl)), hf, λ x2 H4 hf (S3 : M (_ :: Rs) H4) => ?_⟩)))))))))
 exact hk _ _ hf (M.pk S3 1 [] rfl)
def p_is_piece (a_thing : PyData) (P : Bool -> Prop) : Prop := p_are_signs a_thing 1 16 λ x2 => P x2
def sp_is_piece (K : Fr) : Sp := λ vs H Q _ => ∃ (Rs : List Res) (v_a_thing : V) (a_thing : PyData) (P : Bool -> Prop), vs = [v_a_thing] /\ M (da K v_a_thing (eA a_thing) :: Rs) H /\ p_is_piece a_thing P /\ ∀ (r : Bool) H', P r -> M (Rs) H' -> Q (V.bl r) H'
theorem len_is_piece {K : Fr} (vs : List V) (H : Hp) (Q : VK) (E : XK) (h : sp_is_piece K vs H Q E) : vs.length = 1 := by
 obtain ⟨Rs, v_a_thing, a_thing, P, rfl, _⟩ := h
 rfl
abbrev t_is_piece (K : Fr) : TS := (tRet (tCall (sp_are_signs K) [] E0 (tCons (tVar 0) (tCons (tC (.int 1)) (tCons (tC (.int 16)) tNil)))))
theorem pure_is_piece {K : Fr} (vs : List V) (H : Hp) (Q : VK) (E : XK) (h : sp_is_piece K vs H Q E) : t_is_piece K { nx := λ _ H' => Q .non H', rt := Q } (L2.start ["thing"] vs) H := by
 obtain ⟨Rs, v_a_thing, a_thing, P, rfl, S0, hf, hk⟩ := h
 show t_is_piece K _ [some v_a_thing] H
 refine g_ret (g_call (g_cons (g_var rfl (g_cons (g_c (g_cons (g_c (g_nil (⟨_, _, _, _, _, _, rfl, (M.addA S0 (EnF.at 0 rfl)), hf, λ x2 H4 hf (S3 : M (_ :: Rs) H4) => ?_⟩)))))))))
 exact hk _ _ hf (M.pk S3 1 [] rfl)
def p_is_blocks (a_thing : PyData) (P : Bool -> Prop) : Prop := jn (λ k5 => p_is_whole a_thing λ x8 => if x8 = true then (∃ x12 : Int, a_thing = eI x12 /\ k5 ((decide (0 <= x12)) && (decide (x12 <= 60)))) else (k5 false)) λ c1 => P c1
def sp_is_blocks (K : Fr) : Sp := λ vs H Q _ => ∃ (Rs : List Res) (v_a_thing : V) (a_thing : PyData) (P : Bool -> Prop), vs = [v_a_thing] /\ M (da K v_a_thing (eA a_thing) :: Rs) H /\ p_is_blocks a_thing P /\ ∀ (r : Bool) H', P r -> M (Rs) H' -> Q (V.bl r) H'
theorem len_is_blocks {K : Fr} (vs : List V) (H : Hp) (Q : VK) (E : XK) (h : sp_is_blocks K vs H Q E) : vs.length = 1 := by
 obtain ⟨Rs, v_a_thing, a_thing, P, rfl, _⟩ := h
 rfl
abbrev t_is_blocks (K : Fr) : TS := (tRet (tAndV (tCall (sp_is_whole K) [] E0 (tCons (tVar 0) tNil)) (tChain uLe uLe (tC (.int 0)) (tVar 0) (tC (.int 60)))))
theorem pure_is_blocks {K : Fr} (vs : List V) (H : Hp) (Q : VK) (E : XK) (h : sp_is_blocks K vs H Q E) : t_is_blocks K { nx := λ _ H' => Q .non H', rt := Q } (L2.start ["thing"] vs) H := by
 obtain ⟨Rs, v_a_thing, a_thing, P, rfl, S0, hf, hk⟩ := h
 show t_is_blocks K _ [some v_a_thing] H
 refine g_ret ?_
 refine te_cut hf (λ H => M (da K v_a_thing (eA a_thing) :: Rs) H) (λ kk2 P3 hP4 hf => ?_) ?_
 ·
  refine g_andV (g_call (g_cons (g_var rfl (g_nil (⟨_, _, _, _, rfl, (M.addA S0 (EnF.at 0 rfl)), hf, λ x8 H10 hf (S9 : M (_ :: Rs) H10) => ?_⟩)))))
  refine g_bl (v_iff hf (λ _ hf => ?_) (λ _ hf => ?_))
  ·
   obtain ⟨x12, h13, hf⟩ := hf
   have S14 := M.cstA S9 0 rfl h13
   obtain rfl := (S14.gotA 0 rfl).intV
   have S15 := S14.tl
   refine g_chainP (c1 := (decide (0 <= x12))) (c2 := (decide (x12 <= 60))) (λ _ hq => ?_) (λ _ hq => ?_) (λ _ hq => v_le hq) (λ _ hq => ?_) (λ _ hq => v_le hq) ?_
   ·
    refine g_c ?_
    exact hq
   ·
    refine g_var rfl ?_
    exact hq
   ·
    refine g_c ?_
    exact hq
   exact hP4 _ _ hf (M.sub (.cons 0 rfl (.refl _)) S15)
  ·
   exact hP4 _ _ hf (M.pk S9 1 [0] rfl)
 intro c1 H17 hf S16
 exact hk _ _ hf (M.sub (.tl (.refl _)) S16)
abbrev gd_MADE_OF : List (Str × List Str) := ([("write", ["name", "content"]), ("drop", ["name"]), ("move", ["name", "name"]), ("begin", ["time", "kind"]), ("step", []), ("close", []), ("give_up", []), ("take", ["time", "kind"]), ("forget", ["time"]), ("merge", ["time"]), ("hold", ["time", "name"]), ("release", ["time", "name"]), ("harm", ["seal", "body"]), ("lose", ["seal"]), ("heal", ["seal", "signs"]), ("prune", ["blocks", "blocks", "blocks", "blocks"]), ("put_back", ["time"])] : List (Str × List Str))
abbrev gd_LOOKS : List (Str × Str) := ([("name", "is_name"), ("content", "is_content"), ("time", "is_time"), ("kind", "is_kind"), ("seal", "is_seal"), ("body", "is_body"), ("signs", "is_piece"), ("blocks", "is_blocks")] : List (Str × Str))
def fs_LOOKS (K : Fr) : Addr -> Sp -> Prop := λ f sp => (f = He.ga K "is_name" /\ sp = sp_is_name K) \/ (f = He.ga K "is_content" /\ sp = sp_is_content K) \/ (f = He.ga K "is_time" /\ sp = sp_is_time K) \/ (f = He.ga K "is_kind" /\ sp = sp_is_kind K) \/ (f = He.ga K "is_seal" /\ sp = sp_is_seal K) \/ (f = He.ga K "is_body" /\ sp = sp_is_body K) \/ (f = He.ga K "is_piece" /\ sp = sp_is_piece K) \/ (f = He.ga K "is_blocks" /\ sp = sp_is_blocks K)
def p_fn_LOOKS (f : Str) (a : PyData) (P : Bool -> Prop) : Prop := if f = "is_name" then p_is_name a P else if f = "is_content" then p_is_content a P else if f = "is_time" then p_is_time a P else if f = "is_kind" then p_is_kind a P else if f = "is_seal" then p_is_seal a P else if f = "is_body" then p_is_body a P else if f = "is_piece" then p_is_piece a P else if f = "is_blocks" then p_is_blocks a P else False
theorem fn_LOOKS_ok {K : Fr} {f : Str} {a : PyData} {P : Bool -> Prop} (h : p_fn_LOOKS f a P) : ∃ sp, fs_LOOKS K (He.ga K f) sp /\ ∀ v Rs H Q E, M (da K v (eA a) :: Rs) H -> (∀ (r : Bool) H', P r -> M Rs H' -> Q (V.bl r) H') -> sp [v] H Q E := by
 unfold p_fn_LOOKS at h
 by_cases e0 : f = "is_name"
 · subst e0; exact ⟨_, .inl ⟨rfl, rfl⟩, λ v Rs H Q E S k => ⟨Rs, v, a, P, rfl, S, h, k⟩⟩
 rw [if_neg e0] at h
 by_cases e1 : f = "is_content"
 · subst e1; exact ⟨_, .inr (.inl ⟨rfl, rfl⟩), λ v Rs H Q E S k => ⟨Rs, v, a, P, rfl, S, h, k⟩⟩
 rw [if_neg e1] at h
 by_cases e2 : f = "is_time"
 · subst e2; exact ⟨_, .inr (.inr (.inl ⟨rfl, rfl⟩)), λ v Rs H Q E S k => ⟨Rs, v, a, P, rfl, S, h, k⟩⟩
 rw [if_neg e2] at h
 by_cases e3 : f = "is_kind"
 · subst e3; exact ⟨_, .inr (.inr (.inr (.inl ⟨rfl, rfl⟩))), λ v Rs H Q E S k => ⟨Rs, v, a, P, rfl, S, h, k⟩⟩
 rw [if_neg e3] at h
 by_cases e4 : f = "is_seal"
 · subst e4; exact ⟨_, .inr (.inr (.inr (.inr (.inl ⟨rfl, rfl⟩)))), λ v Rs H Q E S k => ⟨Rs, v, a, P, rfl, S, h, k⟩⟩
 rw [if_neg e4] at h
 by_cases e5 : f = "is_body"
 · subst e5; exact ⟨_, .inr (.inr (.inr (.inr (.inr (.inl ⟨rfl, rfl⟩))))), λ v Rs H Q E S k => ⟨Rs, v, a, P, rfl, S, h, k⟩⟩
 rw [if_neg e5] at h
 by_cases e6 : f = "is_piece"
 · subst e6; exact ⟨_, .inr (.inr (.inr (.inr (.inr (.inr (.inl ⟨rfl, rfl⟩)))))), λ v Rs H Q E S k => ⟨Rs, v, a, P, rfl, S, h, k⟩⟩
 rw [if_neg e6] at h
 by_cases e7 : f = "is_blocks"
 · subst e7; exact ⟨_, .inr (.inr (.inr (.inr (.inr (.inr (.inr (⟨rfl, rfl⟩))))))), λ v Rs H Q E S k => ⟨Rs, v, a, P, rfl, S, h, k⟩⟩
 rw [if_neg e7] at h
 exact h.elim
def p_is_deed (a_thing : PyData) (P : Bool -> Prop) : Prop := jn (λ k5 => if (!(isA "tuple" a_thing)) = true then (k5 true) else (jn (λ k11 => ∃ x13 : (List PyData), a_thing = (eV eA) x13 /\ if (x13.isEmpty) = true then (k11 true) else (∃ x21, atI x13 0 = some x21 /\ k11 (!(isA "str" x21)))) λ c7 => k5 c7)) λ c1 => if c1 = true then (P false) else (∃ x30 : (List PyData), a_thing = (eV eA) x30 /\ ∃ x34 : PyData, ∃ x35 : (List PyData), x30 = x34 :: x35 /\ ∃ x49 : Str, x34 = eS x49 /\ jn (λ k61 => if (((lk gd_MADE_OF x49)).isNone) = true then (k61 true) else (∃ x63 : (List Str), (lk gd_MADE_OF x49) = some x63 /\ k61 (!decide (((x63).length : Int) = ((x35).length : Int))))) λ c57 => if c57 = true then (P false) else (∃ x69 : (List Str), (lk gd_MADE_OF x49) = some x69 /\ forD (λ (x93 : (Str × PyData)) (s90 : Unit) (k91 : (Unit) -> Prop) => ∃ n106, lk gd_LOOKS x93.1 = some n106 /\ p_fn_LOOKS n106 x93.2 λ x111 => if (!x111) = true then (P false) else (k91 ())) (x69.zip x35) () λ s90 => P true))
def sp_is_deed (K : Fr) : Sp := λ vs H Q _ => ∃ (Rs : List Res) (v_a_thing : V) (a_thing : PyData) (P : Bool -> Prop), vs = [v_a_thing] /\ M (da K v_a_thing (eA a_thing) :: Rs) H /\ p_is_deed a_thing P /\ ∀ (r : Bool) H', P r -> M (Rs) H' -> Q (V.bl r) H'
theorem len_is_deed {K : Fr} (vs : List V) (H : Hp) (Q : VK) (E : XK) (h : sp_is_deed K vs H Q E) : vs.length = 1 := by
 obtain ⟨Rs, v_a_thing, a_thing, P, rfl, _⟩ := h
 rfl
abbrev t_is_deed_9 (K : Fr) : TS := (tIfS (tNot (tB (tCallV 5 (fs_LOOKS K) E0 (tCons (tVar 4) tNil)))) (tRet (tC (.bl false))) tNext)
abbrev t_is_deed_8 (K : Fr) : TS := (tSeq (tAsg (tOp (rIxG K (gFun K) (He.ga K "LOOKS") gd_LOOKS) (tC (.ref (He.ga K "LOOKS"))) (tVar 3)) (gName 5))
 (t_is_deed_9 K))
abbrev t_is_deed_7 (K : Fr) : TS := (tSeq (tFor (iZipG K true false (tCons (tVar 1) (tCons (tVar 6) tNil))) (gTup K 2 (gCons (gName 3) (gCons (gName 4) gNil))) (t_is_deed_8 K))
 (tRet (tC (.bl true))))
abbrev t_is_deed_5 (K : Fr) : TS := (tSeq (tIfS (tOr (tTest (tOp rIsN (tVar 1) (tC .non))) (tTest (tOp (uNe K) (tCB (uLen K) (tCons (tVar 1) tNil)) (tCB (uLen K) (tCons (tVar 6) tNil))))) (tRet (tC (.bl false))) tNext)
 (t_is_deed_7 K))
abbrev t_is_deed_4 (K : Fr) : TS := (tSeq (tAsg (tGetG K (gTxts K) (He.ga K "MADE_OF") gd_MADE_OF (tVar 2)) (gName 1))
 (t_is_deed_5 K))
abbrev t_is_deed_3 (K : Fr) : TS := (tSeq (tAsg (tVar 0) (gStar K 1 (gCons (gName 2) (gCons (gName 6) gNil))))
 (t_is_deed_4 K))
abbrev t_is_deed_1 (K : Fr) : TS := (tSeq (tIfS (tOr (tNot (tB (tCB (uIsi K) (tCons (tVar 0) (tCons (tC (.ty "tuple")) tNil))))) (tOr (tTest (tOp (uEqT0 K) (tVar 0) (tTup tNil))) (tNot (tB (tCB (uIsi K) (tCons (tOp (uIx K) (tVar 0) (tC (.int 0))) (tCons (tC (.ty "str")) tNil))))))) (tRet (tC (.bl false))) tNext)
 (t_is_deed_3 K))
abbrev t_is_deed (K : Fr) : TS := (t_is_deed_1 K)
theorem pure_is_deed {K : Fr} (T : TxC K) (vs : List V) (H : Hp) (Q : VK) (E : XK) (h : sp_is_deed K vs H Q E) : t_is_deed K { nx := λ _ H' => Q .non H', rt := Q } (L2.start ["thing", "kinds", "word", "kind", "one", "look", "things"] vs) H := by
 obtain ⟨Rs, v_a_thing, a_thing, P, rfl, S0, hf, hk⟩ := h
 show t_is_deed K _ [some v_a_thing, none, none, none, none, none, none] H
 refine g_seq (g_if ?_)
 refine tt_cut hf (λ H => M (da K v_a_thing (eA a_thing) :: Rs) H) (λ kk2 P3 hP4 hf => ?_) ?_
 ·
  refine g_or (g_not (g_B (g_cb (g_cons (g_var rfl (g_cons (g_c (g_nil (v_isq (Dq.dn (M.gotA S0 0 rfl)) (by decide) rfl (g_bl (v_iff hf (λ _ hf => ?_) (λ _ hf => ?_))))))))))))
  ·
   exact hP4 _ _ hf (M.pk S0 1 [0] rfl)
  ·
   refine tt_cut hf (λ H => M (da K v_a_thing (eA a_thing) :: Rs) H) (λ kk8 P9 hP10 hf => ?_) ?_
   ·
    refine g_or (g_test ?_)
    obtain ⟨x13, h14, hf⟩ := hf
    have S15 := M.cstA S0 0 rfl h14
    refine g_op (g_var rfl (g_tup (g_nil (v_tupq S15 EnF.nilA (len_ok rfl) λ p17 H19 (S18 : M (da K (V.ref p17) (eV eA []) :: da K v_a_thing ((eV eA) x13) :: _ :: Rs) H19) => ?_))))
    refine v_eqT0 (M.gotA S18 1 rfl) (M.gotA S18 0 rfl) (g_bl (v_iff hf (λ _ hf => ?_) (λ _ hf => ?_)))
    ·
     exact hP10 _ _ hf (M.pk S18 3 [2] rfl)
    ·
     refine g_not (g_B (g_cb (g_cons (g_op (g_var rfl (g_c ?_))))))
     obtain ⟨x21, h22, hf⟩ := hf
     refine v_ixv S18 1 rfl h22 λ u23 S24 => ?_
     refine g_cons (g_c (g_nil (v_isq (Dq.dn (M.gotA S24 0 rfl)) (by decide) rfl (g_bl ?_))))
     exact hP10 _ _ hf (M.sub (.cons 3 rfl (.tl (.tl (.tl (.refl _))))) S24)
   intro c7 H27 hf S26
   exact hP4 _ _ hf (M.sub (.cons 0 rfl (.refl _)) S26)
 intro c1 H29 hf S28
 refine v_iff hf (λ _ hf => ?_) (λ _ hf => ?_)
 ·
  refine g_ret (g_c ?_)
  exact hk _ _ hf (M.sub (.tl (.refl _)) S28)
 ·
  refine g_next (g_nx (g_seq (g_asgX (g_var rfl ?_))))
  obtain ⟨x30, h31, hf⟩ := hf
  have S32 := M.cstA S28 0 rfl h31
  obtain ⟨x34, x35, h36, hf⟩ := hf
  have S37 : M (da K v_a_thing (.tuple (x34 :: x35)) :: da K v_a_thing ((eV eA) x30) :: da K v_a_thing (eA a_thing) :: Rs) H29 := M.cstA S32 0 rfl (by rw [h36]; exact congrArg PyData.tuple (List.map_id _))
  refine v_star1t S37 0 rfl λ u39 p38 H42 (S41 : M (acR K p38 x35 :: da K u39 (eA x34) :: oo3 Rs) H42) => ?_
  have S45 : M (acR K p38 (x35.map eA) :: da K u39 (eA x34) :: da K v_a_thing (.tuple (x34 :: x35)) :: da K v_a_thing ((eV eA) x30) :: da K v_a_thing (eA a_thing) :: Rs) H42 := by rw [show x35.map eA = x35 from List.map_id _]; exact S41
  refine g_gcons ?_
  refine g_name (g_gcons ?_)
  have S46 : M (da K (V.ref p38) ((eL eA) x35) :: oo4 Rs) H42 := acR_fixL S45
  refine g_name (g_gnil (g_nx ?_))
  show (_ : TS) _ [some v_a_thing, none, some u39, none, none, none, some (V.ref p38)] _
  have S48 : M (oo3 Rs) H42 := (M.drp (M.drp S46 4) 2)
  refine g_seq (g_asg (g_getG (g_var rfl ?_)))
  obtain ⟨x49, h50, hf⟩ := hf
  have S51 := M.cstA S48 1 rfl h50
  obtain rfl := (S51.gotA 0 rfl).strV
  have S52 := S51.tl
  refine v_getGT S52 λ u53 (S54 : M (da K u53 ((eO (eV eS)) (lk gd_MADE_OF x49)) :: _ :: da K (V.str x49) (eA x34) :: _ :: Rs) H42) => ?_
  refine g_nx ?_
  show (_ : TS) _ [some v_a_thing, some u53, some (V.str x49), none, none, none, some (V.ref p38)] _
  have S56 : M (oo3 Rs) H42 := (M.drp S54 2)
  refine g_seq (g_if ?_)
  refine tt_cut hf (λ H => M (da K u53 ((eO (eV eS)) (lk gd_MADE_OF x49)) :: da K (V.ref p38) ((eL eA) x35) :: da K v_a_thing ((eV eA) x30) :: Rs) H) (λ kk58 P59 hP60 hf => ?_) ?_
  ·
   refine g_or (g_test (g_op (g_var rfl (g_c (v_isOe (λ _ => rfl) (M.gotA S56 0 rfl) (g_bl (v_iff hf (λ _ hf => ?_) (λ _ hf => ?_))))))))
   ·
    exact hP60 _ _ hf (M.pk S56 3 [0, 1, 2] rfl)
   ·
    refine g_test (g_op (g_cb (g_cons (g_var rfl (g_nil ?_)))))
    obtain ⟨x63, h64, hf⟩ := hf
    have S65 : M (da K u53 ((eV eS) x63) :: oo3 Rs) H42 := M.cstA S56 0 rfl (by rw [h64]; rfl)
    refine v_lenv S65 0 rfl (g_cb (g_cons (g_var rfl (g_nil (v_lenl S65 2 rfl (v_neI (g_bl ?_)))))))
    exact hP60 _ _ hf (M.pk S65 4 [1, 2, 3] rfl)
  intro c57 H68 hf S67
  refine v_iff hf (λ _ hf => ?_) (λ _ hf => ?_)
  ·
   refine g_ret (g_c ?_)
   exact hk _ _ hf (M.sub (.tl (.tl (.tl (.refl _)))) S67)
  ·
   refine g_next (g_nx (g_seq (g_for (g_iZipG (g_cons (g_var rfl ?_))))))
   obtain ⟨x69, h70, hf⟩ := hf
   have S71 : M (da K u53 ((eV eS) x69) :: da K u53 ((eO (eV eS)) (lk gd_MADE_OF x49)) :: da K (V.ref p38) ((eL eA) x35) :: da K v_a_thing ((eV eA) x30) :: Rs) H68 := M.cstA S67 0 rfl (by rw [h70]; rfl)
   refine g_cons (g_var rfl (g_nil ?_))
   obtain ⟨a73, vs74, e_a73, S75⟩ := M.openG true (ds := x69.map eS) (M.addA S71 (EnF.at 0 rfl))
   obtain ⟨a78, vs79, e_a78, S80⟩ := M.openG false (ds := x35.map eA) (M.addA S75 (EnF.at 4 rfl))
   refine for_zipG (K := K) (β := Unit) e_a73 e_a78 hf (λ (s90 : Unit) σ H' => ∃ (o94 : Option V) (o95 : Option V) (o96 : Option V), σ = [some v_a_thing, some u53, some (V.str x49), o94, o95, o96, some (V.ref p38)] /\ M (rdG K false a78 vs79 :: daA K vs79 (x35.map eA) :: rdG K true a73 vs74 :: daA K vs74 (x69.map eS) :: da K u53 ((eV eS) x69) :: da K u53 ((eO (eV eS)) (lk gd_MADE_OF x49)) :: da K (V.ref p38) ((eL eA) x35) :: da K v_a_thing ((eV eA) x30) :: Rs) H') ⟨_, _, _, rfl, (M.sub (.cons 0 rfl (.cons 0 rfl (.cons 0 rfl (.cons 0 rfl (.cons 0 rfl (.cons 0 rfl (.cons 0 rfl (.cons 0 rfl (.refl _))))))))) S80)⟩ (λ _ _ _ h => by obtain ⟨_, _, _, _, S⟩ := h; exact ⟨S.zl 2 rfl 3 rfl, S.zl 0 rfl 1 rfl⟩) ?_ ?_
   ·
    rintro i83 u84 u85 x93 s90 _ H98 T99 kk92 ⟨o94, o95, o96, rfl, S97⟩ hT100 hv86 hx87 hw88 hy89 hf
    have S101 := S97.new (o := (.tup [u84, u85])) hT100
    refine g_gtup (.inl (.inl (S101.got 0 rfl))) rfl (g_gcons ?_)
    have S102 := S101.elA 4 rfl hv86 hx87
    obtain rfl := (S102.gotA 0 rfl).strV
    have S103 := S102.tl
    refine g_name (g_gcons ?_)
    have S104 := S103.elA 2 rfl hw88 hy89
    refine g_name (g_gnil (g_seq (g_asg (g_op (g_c (g_var rfl ?_))))))
    obtain ⟨n106, h107, hf⟩ := hf
    refine v_ixGF h107 (g_nx ?_)
    show (_ : TS) _ [some v_a_thing, some u53, some (V.str x49), some (V.str x93.1), some u85, some (V.ref (He.ga K n106)), some (V.ref p38)] _
    refine g_if (g_not (g_B ?_))
    obtain ⟨sp108, h109, h110⟩ := fn_LOOKS_ok (K := K) hf
    refine ⟨_, sp108, rfl, h109, ?_⟩
    refine g_cons (g_var rfl (g_nil (h110 _ _ _ _ _ (M.addA S104 (EnF.at 0 rfl)) λ x111 H113 hf (S112 : M (da K u85 (eA x93.2) :: pt T99 (.tup [(V.str x93.1), u85]) :: oo8 Rs) H113) => ?_)))
    refine g_bl (v_iff hf (λ _ hf => ?_) (λ _ hf => ?_))
    ·
     refine g_ret (g_c ?_)
     exact hk _ _ hf (M.pk S112 10 [] rfl)
    ·
     refine g_next ?_
     exact ⟨_, hf, _, _, _, rfl, (M.pk S112 10 [2, 3, 4, 5, 6, 7, 8, 9] rfl)⟩
   rintro s90 _ H115 hf ⟨o94, o95, o96, rfl, S114⟩
   refine g_nx ?_
   show (_ : TS) _ [some v_a_thing, some u53, some (V.str x49), o94, o95, o96, some (V.ref p38)] _
   have S116 : M (oo7 Rs) H115 := (M.drp S114 5)
   refine g_ret (g_c ?_)
   exact hk _ _ hf (M.pk S116 7 [] rfl)
def p_show_seal (a_seal : Int) (P : Str -> Prop) : Prop := wlD (λ (s1 : Str × Int) (k2 k3 : (Str × Int) -> Prop) => if (decide (0 < s1.2)) = true then (((0 : Int) < 16) /\ ∃ x13, atS ("0123456789abcdef" : Str) (s1.2 % 16) = some x13 /\ ((x13).length + (s1.1).length <= 100000) /\ (CDiv s1.2 16) /\ k2 ((x13 ++ s1.1), (s1.2 / 16))) else (k3 (s1.1, s1.2))) (("" : Str), a_seal) λ s1 => P s1.1
def sp_show_seal (K : Fr) : Sp := λ vs H Q _ => ∃ (Rs : List Res) (a_seal : Int) (P : Str -> Prop), vs = [(V.int a_seal)] /\ M (Rs) H /\ p_show_seal a_seal P /\ ∀ (r : Str) H', P r -> M (Rs) H' -> Q (V.str r) H'
theorem len_show_seal {K : Fr} (vs : List V) (H : Hp) (Q : VK) (E : XK) (h : sp_show_seal K vs H Q E) : vs.length = 1 := by
 obtain ⟨Rs, a_seal, P, rfl, _⟩ := h
 rfl
abbrev t_show_seal_4 (K : Fr) : TS := (tSeq (tAsg (tOp (uAdd K) (tOp (uIx K) (tC (.str "0123456789abcdef")) (tOp uMod (tVar 2) (tC (.int 16)))) (tVar 1)) (gName 1))
 (tAug 2 (tC (.int 16)) iDiv))
abbrev t_show_seal_3 (K : Fr) : TS := (tSeq (tWhile (tTest (tOp uGt (tVar 2) (tC (.int 0)))) (t_show_seal_4 K))
 (tRet (tVar 1)))
abbrev t_show_seal_2 (K : Fr) : TS := (tSeq (tAsg (tVar 0) (gName 2))
 (t_show_seal_3 K))
abbrev t_show_seal_1 (K : Fr) : TS := (tSeq (tAsg (tC (.str "")) (gName 1))
 (t_show_seal_2 K))
abbrev t_show_seal (K : Fr) : TS := (t_show_seal_1 K)
theorem pure_show_seal {K : Fr} (vs : List V) (H : Hp) (Q : VK) (E : XK) (h : sp_show_seal K vs H Q E) : t_show_seal K { nx := λ _ H' => Q .non H', rt := Q } (L2.start ["seal", "text", "rest"] vs) H := by
 obtain ⟨Rs, a_seal, P, rfl, S0, hf, hk⟩ := h
 show t_show_seal K _ [some (V.int a_seal), none, none] H
 refine g_seq (g_asg (g_c (g_nx ?_)))
 show (_ : TS) _ [some (V.int a_seal), some (V.str ("" : Str)), none] _
 refine g_seq (g_asg (g_var rfl (g_nx ?_)))
 show (_ : TS) _ [some (V.int a_seal), some (V.str ("" : Str)), some (V.int a_seal)] _
 refine g_seq (g_while ?_)
 refine wh_D (β := Str × Int) hf (λ (s1 : Str × Int) σ H' => σ = [some (V.int a_seal), some (V.str s1.1), some (V.int s1.2)] /\ M (Rs) H') ⟨rfl, (M.pk S0 0 [] rfl)⟩ ?_ ?_
 ·
  rintro s1 _ H11 kk4 kk5 P6 N7 ⟨rfl, S10⟩ hP8 hN9 hf
  refine g_test (g_op (g_var rfl (g_c (v_gt (g_bl (v_iff hf (λ _ hf => ?_) (λ _ hf => ?_)))))))
  ·
   obtain ⟨h12, hf⟩ := hf
   obtain ⟨x13, h14, hf⟩ := hf
   obtain ⟨h15, hf⟩ := hf
   refine wh_yes hP8 (g_seq (g_asg (g_op (g_op (g_c (g_op (g_var rfl (g_c (v_mod h12 (v_ixs h14 (g_var rfl (v_addS h15 (g_nx ?_)))))))))))))
   show (_ : TS) _ [some (V.int a_seal), some (V.str (x13 ++ s1.1)), some (V.int s1.2)] _
   obtain ⟨h16, hf⟩ := hf
   refine g_aug rfl (g_c (v_idiv h16 ?_))
   exact ⟨_, hf, rfl, (M.sub (.refl _) S10)⟩
  ·
   exact hN9 _ _ _ hf ⟨rfl, (M.sub (.refl _) S10)⟩
 rintro s1 _ H18 hf ⟨rfl, S17⟩
 refine g_nx ?_
 show (_ : TS) _ [some (V.int a_seal), some (V.str s1.1), some (V.int s1.2)] _
 refine g_ret (g_var rfl ?_)
 exact hk _ _ hf (M.sub (.refl _) S17)
def p_show_signs (a_signs : (List Int)) (P : Str -> Prop) : Prop := if (decide (a_signs = ([] : (List Int)))) = true then (P ("-" : Str)) else ((a_signs).length <= 100000 /\ lcD (λ (x12 : Int) (k19 : Option Str -> Prop) => ((x12).natAbs.log2 < 1920) /\ k19 (some (strI x12))) a_signs [] λ acc9 => (((acc9).map (·.length)).sum + (acc9).length * (("," : Str)).length <= 16777216) /\ P (Txt.join ("," : Str) acc9))
def sp_show_signs (K : Fr) : Sp := λ vs H Q _ => ∃ (Rs : List Res) (v_a_signs : V) (a_signs : (List Int)) (P : Str -> Prop), vs = [v_a_signs] /\ M (da K v_a_signs ((eL eI) a_signs) :: Rs) H /\ p_show_signs a_signs P /\ ∀ (r : Str) H', P r -> M (Rs) H' -> Q (V.str r) H'
theorem len_show_signs {K : Fr} (vs : List V) (H : Hp) (Q : VK) (E : XK) (h : sp_show_signs K vs H Q E) : vs.length = 1 := by
 obtain ⟨Rs, v_a_signs, a_signs, P, rfl, _⟩ := h
 rfl
abbrev t_show_signs_1 (K : Fr) : TS := (tSeq (tIfS (tTest (tOp (uEq K) (tVar 0) (tLst tNil))) (tRet (tC (.str "-"))) tNext)
 (tRet (tM1 (rJoin K) (tC (.str ",")) (tLc (iList K (tVar 0)) (gName 1) tYes (tCB rStrA (tCons (tVar 1) tNil)) [1]))))
abbrev t_show_signs (K : Fr) : TS := (t_show_signs_1 K)
theorem pure_show_signs {K : Fr} (vs : List V) (H : Hp) (Q : VK) (E : XK) (h : sp_show_signs K vs H Q E) : t_show_signs K { nx := λ _ H' => Q .non H', rt := Q } (L2.start ["signs", "sign"] vs) H := by
 obtain ⟨Rs, v_a_signs, a_signs, P, rfl, S0, hf, hk⟩ := h
 show t_show_signs K _ [some v_a_signs, none] H
 refine g_seq (g_if (g_test (g_op (g_var rfl (g_lst (g_nil (v_lsto (ds := ([] : (List Int)).map eI) S0 EnF.nilA (len_ok rfl) λ p1 H3 (S2 : M (acR K p1 (([] : (List Int)).map eI) :: _ :: Rs) H3) => ?_)))))))
 have S5 : M (da K (V.ref p1) ((eL eI) ([] : (List Int))) :: _ :: Rs) H3 := acR_fixL S2
 refine v_eqLI (M.gotA S5 1 rfl) (M.gotA S5 0 rfl) (g_bl (v_iff hf (λ _ hf => ?_) (λ _ hf => ?_)))
 ·
  refine g_ret (g_c ?_)
  exact hk _ _ hf (M.pk S5 2 [] rfl)
 ·
  refine g_next (g_nx (g_ret (g_m1 (g_c (v_isS (g_lc (g_iList (g_var rfl ?_))))))))
  refine lc_N flI (K := K) (e' := eS) hf S5 (λ _ S => S.gotA 1 rfl) (λ x12 acc9 E10 H18 kk11 N13 hl14 S17 hf hp15 hn16 => ?_) (λ E10 acc9 H24 hf S23 => ?_)
  ·
   obtain ⟨h20, hf⟩ := hf
   refine g_name (g_wipe rfl (g_yes (v_ifT (g_cb (g_cons (g_var rfl (g_nil (v_strI h20 (acR_put S17 0 rfl (EnF.all λ _ => .str _) hl14 λ H22 (S21 : M (acR K E10 (acc9.map eS ++ [eS (strI x12)]) :: oo2 Rs) H22) => ?_)))))))))
   exact hp15 _ _ hf (M.pk S21 3 [0, 1, 2] rfl)
  have S26 : M (da K (V.ref E10) ((eL eS) acc9) :: oo2 Rs) H24 := acR_fixL S23
  obtain ⟨h28, hf⟩ := hf
  refine v_join (M.gotA S26 0 rfl) h28 ?_
  exact hk _ _ hf (M.pk S26 3 [] rfl)
def p_show_deed (a_deed : PyData) (P : Str -> Prop) : Prop := ∃ x1 : (List PyData), a_deed = (eV eA) x1 /\ ∃ x5 : PyData, ∃ x6 : (List PyData), x1 = x5 :: x6 /\ ∃ x20 : Str, x5 = eS x20 /\ ∃ n29, lk gd_MADE_OF x20 = some n29 /\ forD (λ (x54 : (Str × PyData)) (s51 : (List Str)) (k52 : ((List Str)) -> Prop) => if (decide (x54.1 = ("seal" : Str))) = true then (∃ x67 : Int, x54.2 = eI x67 /\ p_show_seal x67 λ x71 => (s51).length < 100000 /\ k52 (sno s51 x71)) else (if (([("content" : Str), ("body" : Str), ("signs" : Str)]).any λ y => decide (y = x54.1)) = true then (∃ x83 : (List Int), x54.2 = (eL eI) x83 /\ p_show_signs x83 λ x88 => (s51).length < 100000 /\ k52 (sno s51 x88)) else (∃ x96, strA x54.2 = some x96 /\ (s51).length < 100000 /\ k52 (sno s51 x96)))) (n29.zip x6) ([x20]) λ s51 => (((s51).map (·.length)).sum + (s51).length * ((" " : Str)).length <= 16777216) /\ P (Txt.join (" " : Str) s51)
def sp_show_deed (K : Fr) : Sp := λ vs H Q _ => ∃ (Rs : List Res) (v_a_deed : V) (a_deed : PyData) (P : Str -> Prop), vs = [v_a_deed] /\ M (da K v_a_deed (eA a_deed) :: Rs) H /\ p_show_deed a_deed P /\ ∀ (r : Str) H', P r -> M (Rs) H' -> Q (V.str r) H'
theorem len_show_deed {K : Fr} (vs : List V) (H : Hp) (Q : VK) (E : XK) (h : sp_show_deed K vs H Q E) : vs.length = 1 := by
 obtain ⟨Rs, v_a_deed, a_deed, P, rfl, _⟩ := h
 rfl
abbrev t_show_deed_6 (K : Fr) : TS := (tIfS (tTest (tOp (uIn K) (tVar 3) (tTup (tCons (tC (.str "content")) (tCons (tC (.str "body")) (tCons (tC (.str "signs")) tNil)))))) (tDrop (tBM K "list" rAppend (tVar 1) (tCons (tCall (sp_show_signs K) [] E0 (tCons (tVar 4) tNil)) tNil))) (tDrop (tBM K "list" rAppend (tVar 1) (tCons (tCB rStrA (tCons (tVar 4) tNil)) tNil))))
abbrev t_show_deed_4 (K : Fr) : TS := (tIfS (tTest (tOp (uEq K) (tVar 3) (tC (.str "seal")))) (tDrop (tBM K "list" rAppend (tVar 1) (tCons (tCall (sp_show_seal K) [] E0 (tCons (tVar 4) tNil)) tNil))) (t_show_deed_6 K))
abbrev t_show_deed_3 (K : Fr) : TS := (tSeq (tFor (iZipG K true false (tCons (tOp (rIxG K (gTxts K) (He.ga K "MADE_OF") gd_MADE_OF) (tC (.ref (He.ga K "MADE_OF"))) (tVar 2)) (tCons (tVar 5) tNil))) (gTup K 2 (gCons (gName 3) (gCons (gName 4) gNil))) (t_show_deed_4 K))
 (tRet (tM1 (rJoin K) (tC (.str " ")) (tVar 1))))
abbrev t_show_deed_2 (K : Fr) : TS := (tSeq (tAsg (tLst (tCons (tVar 2) tNil)) (gName 1))
 (t_show_deed_3 K))
abbrev t_show_deed_1 (K : Fr) : TS := (tSeq (tAsg (tVar 0) (gStar K 1 (gCons (gName 2) (gCons (gName 5) gNil))))
 (t_show_deed_2 K))
abbrev t_show_deed (K : Fr) : TS := (t_show_deed_1 K)
theorem pure_show_deed {K : Fr} (T : TxC K) (vs : List V) (H : Hp) (Q : VK) (E : XK) (h : sp_show_deed K vs H Q E) : t_show_deed K { nx := λ _ H' => Q .non H', rt := Q } (L2.start ["deed", "words", "word", "kind", "thing", "things"] vs) H := by
 obtain ⟨Rs, v_a_deed, a_deed, P, rfl, S0, hf, hk⟩ := h
 show t_show_deed K _ [some v_a_deed, none, none, none, none, none] H
 refine g_seq (g_asgX (g_var rfl ?_))
 obtain ⟨x1, h2, hf⟩ := hf
 have S3 := M.cstA S0 0 rfl h2
 obtain ⟨x5, x6, h7, hf⟩ := hf
 have S8 : M (da K v_a_deed (.tuple (x5 :: x6)) :: da K v_a_deed ((eV eA) x1) :: _ :: Rs) H := M.cstA S3 0 rfl (by rw [h7]; exact congrArg PyData.tuple (List.map_id _))
 refine v_star1t S8 0 rfl λ u10 p9 H13 (S12 : M (acR K p9 x6 :: da K u10 (eA x5) :: oo3 Rs) H13) => ?_
 have S16 : M (acR K p9 (x6.map eA) :: da K u10 (eA x5) :: da K v_a_deed (.tuple (x5 :: x6)) :: da K v_a_deed ((eV eA) x1) :: da K v_a_deed (eA a_deed) :: Rs) H13 := by rw [show x6.map eA = x6 from List.map_id _]; exact S12
 refine g_gcons ?_
 refine g_name (g_gcons ?_)
 have S17 : M (da K (V.ref p9) ((eL eA) x6) :: oo4 Rs) H13 := acR_fixL S16
 refine g_name (g_gnil (g_nx ?_))
 show (_ : TS) _ [some v_a_deed, none, some u10, none, none, some (V.ref p9)] _
 have S19 : M (oo3 Rs) H13 := (M.drp (M.drp S17 4) 2)
 refine g_seq (g_asg (g_lst (g_cons (g_var rfl (g_nil ?_)))))
 obtain ⟨x20, h21, hf⟩ := hf
 have S22 := M.cstA S19 1 rfl h21
 obtain rfl := (S22.gotA 0 rfl).strV
 have S23 := S22.tl
 refine v_lsto (ds := ([x20]).map eS) S23 (EnF.consA (EnF.all λ _ => .str _) EnF.nilA) (len_ok rfl) λ p24 H26 (S25 : M (acR K p24 (([x20]).map eS) :: _ :: da K (V.str x20) (eA x5) :: _ :: Rs) H26) => ?_
 refine g_nx ?_
 show (_ : TS) _ [some v_a_deed, some (V.ref p24), some (V.str x20), none, none, some (V.ref p9)] _
 have S28 : M (oo3 Rs) H26 := (M.drp S25 2)
 refine g_seq (g_for (g_iZipG (g_cons (g_op (g_c (g_var rfl ?_))))))
 obtain ⟨n29, h30, hf⟩ := hf
 refine v_ixGT S28 h30 λ u31 (S32 : M (da K u31 (eV eS n29) :: oo3 Rs) H26) => ?_
 refine g_cons (g_var rfl (g_nil ?_))
 obtain ⟨a34, vs35, e_a34, S36⟩ := M.openG true (ds := n29.map eS) (M.addA S32 (EnF.at 0 rfl))
 obtain ⟨a39, vs40, e_a39, S41⟩ := M.openG false (ds := x6.map eA) (M.addA S36 (EnF.at 4 rfl))
 refine for_zipG (K := K) (β := (List Str)) e_a34 e_a39 hf (λ (s51 : (List Str)) σ H' => ∃ (o56 : Option V) (o57 : Option V), σ = [some v_a_deed, some (V.ref p24), some (V.str x20), o56, o57, some (V.ref p9)] /\ M (acR K p24 (s51.map eS) :: rdG K false a39 vs40 :: daA K vs40 (x6.map eA) :: rdG K true a34 vs35 :: daA K vs35 (n29.map eS) :: da K u31 (eV eS n29) :: da K (V.ref p9) ((eL eA) x6) :: da K v_a_deed ((eV eA) x1) :: Rs) H') ⟨_, _, rfl, (M.sub (.cons 5 rfl (.cons 0 rfl (.cons 0 rfl (.cons 0 rfl (.cons 0 rfl (.cons 0 rfl (.cons 0 rfl (.cons 0 rfl (.refl _))))))))) S41)⟩ (λ _ _ _ h => by obtain ⟨_, _, _, S⟩ := h; exact ⟨S.zl 3 rfl 4 rfl, S.zl 1 rfl 2 rfl⟩) ?_ ?_
 ·
  rintro i44 u45 u46 x54 s51 _ H59 T60 kk53 ⟨o56, o57, rfl, S58⟩ hT61 hv47 hx48 hw49 hy50 hf
  have S62 := S58.new (o := (.tup [u45, u46])) hT61
  refine g_gtup (.inl (.inl (S62.got 0 rfl))) rfl (g_gcons ?_)
  have S63 := S62.elA 5 rfl hv47 hx48
  obtain rfl := (S63.gotA 0 rfl).strV
  have S64 := S63.tl
  refine g_name (g_gcons ?_)
  have S65 := S64.elA 3 rfl hw49 hy50
  refine g_name (g_gnil (g_if (g_test (g_op (g_var rfl (g_c (v_eqS (g_bl (v_iff hf (λ _ hf => ?_) (λ _ hf => ?_))))))))))
  ·
   refine g_drop (g_bm (g_var rfl (M.tyO S65 2 rfl (g_cons (g_call (g_cons (g_var rfl (g_nil ?_))))))))
   obtain ⟨x67, h68, hf⟩ := hf
   have S69 := M.cstA S65 0 rfl h68
   obtain rfl := (S69.gotA 0 rfl).intV
   have S70 := S69.tl
   refine ⟨_, _, _, rfl, S70, hf, λ x71 H73 hf (S72 : M (da K (V.int x67) (eA x54.2) :: pt T60 (.tup [(V.str x54.1), (V.int x67)]) :: oo8 Rs) H73) => ?_⟩
   refine g_nil ?_
   obtain ⟨h75, hf⟩ := hf
   refine v_apl (e := eS) (x := x71) S72 2 rfl (EnF.all λ _ => .str _) h75 λ H77 (S76 : M (acR K p24 ((sno s51 x71).map eS) :: oo9 Rs) H77) => ?_
   exact ⟨_, hf, _, _, rfl, (M.pk S76 10 [0, 3, 4, 5, 6, 7, 8, 9] rfl)⟩
  ·
   refine g_if (g_test (g_op (g_var rfl (g_tup (g_cons (g_c (g_cons (g_c (g_cons (g_c (g_nil (v_tupq S65 (EnF.consA (EnF.all λ _ => .str _) (EnF.consA (EnF.all λ _ => .str _) (EnF.consA (EnF.all λ _ => .str _) EnF.nilA))) (len_ok rfl) λ p79 H81 (S80 : M (da K (V.ref p79) ((eV eS) [("content" : Str), ("body" : Str), ("signs" : Str)]) :: da K u46 (eA x54.2) :: pt T60 (.tup [(V.str x54.1), u46]) :: oo8 Rs) H81) => ?_))))))))))))
   refine v_inV (M.gotA S80 0 rfl) (g_bl (v_iff hf (λ _ hf => ?_) (λ _ hf => ?_)))
   ·
    refine g_drop (g_bm (g_var rfl (M.tyO S80 3 rfl (g_cons (g_call (g_cons (g_var rfl (g_nil ?_))))))))
    obtain ⟨x83, h84, hf⟩ := hf
    have S85 := M.cstA S80 1 rfl h84
    refine ⟨_, _, _, _, rfl, (M.addA S85 (EnF.at 0 rfl)), hf, λ x88 H90 hf (S89 : M (da K u46 ((eL eI) x83) :: oo11 Rs) H90) => ?_⟩
    refine g_nil ?_
    obtain ⟨h92, hf⟩ := hf
    refine v_apl (e := eS) (x := x88) S89 4 rfl (EnF.all λ _ => .str _) h92 λ H94 (S93 : M (acR K p24 ((sno s51 x88).map eS) :: oo11 Rs) H94) => ?_
    exact ⟨_, hf, _, _, rfl, (M.pk S93 12 [0, 5, 6, 7, 8, 9, 10, 11] rfl)⟩
   ·
    refine g_drop (g_bm (g_var rfl (M.tyO S80 3 rfl (g_cons (g_cb (g_cons (g_var rfl (g_nil ?_))))))))
    obtain ⟨x96, h97, hf⟩ := hf
    refine v_strA (M.gotA S80 1 rfl) h97 (g_nil ?_)
    obtain ⟨h98, hf⟩ := hf
    refine v_apl (e := eS) (x := x96) S80 3 rfl (EnF.all λ _ => .str _) h98 λ H100 (S99 : M (acR K p24 ((sno s51 x96).map eS) :: oo10 Rs) H100) => ?_
    exact ⟨_, hf, _, _, rfl, (M.pk S99 11 [0, 4, 5, 6, 7, 8, 9, 10] rfl)⟩
 rintro s51 _ H103 hf ⟨o56, o57, rfl, S102⟩
 refine g_nx ?_
 show (_ : TS) _ [some v_a_deed, some (V.ref p24), some (V.str x20), o56, o57, some (V.ref p9)] _
 have S104 : M (oo7 Rs) H103 := (M.drp S102 5)
 obtain ⟨h105, hf⟩ := hf
 refine g_ret (g_m1 (g_c (v_isS (g_var rfl (v_join (M.gotO S104 0 rfl) h105 ?_)))))
 exact hk _ _ hf (M.pk S104 7 [] rfl)
def p_whole_of (a_word : Str) (P : (Option Int) -> Prop) : Prop := jn (λ k5 => jn (λ k11 => ((a_word).length <= 100000) /\ if (decide (1 <= ((a_word).length : Int))) = true then (k11 (decide (((a_word).length : Int) <= 8))) else (k11 false)) λ c7 => if (!c7) = true then (k5 true) else (jn (λ k20 => ∃ x22, atS a_word 0 = some x22 /\ if (decide (x22 = ("0" : Str))) = true then (((a_word).length <= 100000) /\ k20 (decide (1 < ((a_word).length : Int)))) else (k20 false)) λ c16 => k5 c16)) λ c1 => if c1 = true then (P (none : (Option Int))) else ((strL a_word).length <= 100000 /\ lcD (λ (x36 : Str) (k43 : Option Bool -> Prop) => ∃ c44, inSt x36 ("0123456789" : Str) = some c44 /\ k43 (some c44)) (strL a_word) [] λ acc33 => if (!((acc33).all id)) = true then (P (none : (Option Int))) else (∃ n55, intT a_word = some n55 /\ P (some n55)))
def sp_whole_of (K : Fr) : Sp := λ vs H Q _ => ∃ (Rs : List Res) (a_word : Str) (P : (Option Int) -> Prop), vs = [(V.str a_word)] /\ M (Rs) H /\ p_whole_of a_word P /\ ∀ (r : (Option Int)) (v : V) H', P r -> M (da K v ((eO eI) r) :: Rs) H' -> Q v H'
theorem len_whole_of {K : Fr} (vs : List V) (H : Hp) (Q : VK) (E : XK) (h : sp_whole_of K vs H Q E) : vs.length = 1 := by
 obtain ⟨Rs, a_word, P, rfl, _⟩ := h
 rfl
abbrev t_whole_of_3 (K : Fr) : TS := (tSeq (tIfS (tNot (tB (tCB (rAll K) (tCons (tLc (iStr (tVar 0)) (gName 1) tYes (tOp (uIn K) (tVar 1) (tC (.str "0123456789"))) [1]) tNil)))) (tRet (tC .non)) tNext)
 (tRet (tCB rIntT (tCons (tVar 0) tNil))))
abbrev t_whole_of_1 (K : Fr) : TS := (tSeq (tIfS (tOr (tNot (tTest (tChain uLe uLe (tC (.int 1)) (tCB (uLen K) (tCons (tVar 0) tNil)) (tC (.int 8))))) (tAnd (tTest (tOp (uEq K) (tOp (uIx K) (tVar 0) (tC (.int 0))) (tC (.str "0")))) (tTest (tOp uGt (tCB (uLen K) (tCons (tVar 0) tNil)) (tC (.int 1)))))) (tRet (tC .non)) tNext)
 (t_whole_of_3 K))
abbrev t_whole_of (K : Fr) : TS := (t_whole_of_1 K)
theorem pure_whole_of {K : Fr} (vs : List V) (H : Hp) (Q : VK) (E : XK) (h : sp_whole_of K vs H Q E) : t_whole_of K { nx := λ _ H' => Q .non H', rt := Q } (L2.start ["word", "sign"] vs) H := by
 obtain ⟨Rs, a_word, P, rfl, S0, hf, hk⟩ := h
 show t_whole_of K _ [some (V.str a_word), none] H
 refine g_seq (g_if ?_)
 refine tt_cut hf (λ H => M (Rs) H) (λ kk2 P3 hP4 hf => ?_) ?_
 ·
  refine g_or (g_not (g_test ?_))
  refine te_cut hf (λ H => M (Rs) H) (λ kk8 P9 hP10 hf => ?_) ?_
  ·
   obtain ⟨h13, hf⟩ := hf
   refine g_chain (g_c (g_cb (g_cons (g_var rfl (g_nil (v_lenS h13 (v_le (g_bl (v_iff hf (λ _ hf => ?_) (λ _ hf => ?_))))))))))
   ·
    refine g_c (v_le ?_)
    exact hP10 _ _ hf (M.pk S0 0 [] rfl)
   ·
    exact hP10 _ _ hf (M.pk S0 0 [] rfl)
  intro c7 H15 hf S14
  refine g_bl (v_iff hf (λ _ hf => ?_) (λ _ hf => ?_))
  ·
   exact hP4 _ _ hf (M.sub (.refl _) S14)
  ·
   refine tt_cut hf (λ H => M (Rs) H) (λ kk17 P18 hP19 hf => ?_) ?_
   ·
    obtain ⟨x22, h23, hf⟩ := hf
    refine g_and (g_test (g_op (g_op (g_var rfl (g_c (v_ixs h23 (g_c (v_eqS (g_bl (v_iff hf (λ _ hf => ?_) (λ _ hf => ?_)))))))))))
    ·
     obtain ⟨h24, hf⟩ := hf
     refine g_test (g_op (g_cb (g_cons (g_var rfl (g_nil (v_lenS h24 (g_c (v_gt (g_bl ?_)))))))))
     exact hP19 _ _ hf (M.sub (.refl _) S14)
    ·
     exact hP19 _ _ hf (M.sub (.refl _) S14)
   intro c16 H26 hf S25
   exact hP4 _ _ hf (M.sub (.refl _) S25)
 intro c1 H28 hf S27
 refine v_iff hf (λ _ hf => ?_) (λ _ hf => ?_)
 ·
  refine g_ret (g_c ?_)
  have S29 : M (da K V.non ((eO eI) (none : (Option Int))) :: Rs) H28 := M.addA S27 (EnF.all λ _ => .non)
  exact hk _ _ _ hf (M.pk S29 1 [0] rfl)
 ·
  refine g_next (g_nx (g_seq (g_if (g_not (g_B (g_cb (g_cons (g_lc (g_iStr (g_var rfl (⟨_, rfl, ?_⟩)))))))))))
  refine lc_str (K := K) (e' := eB) hf S27 (λ x36 acc33 E34 H42 kk35 N37 hl38 S41 hf hp39 hn40 => ?_) (λ E34 acc33 H49 hf S48 => ?_)
  ·
   obtain ⟨c44, h45, hf⟩ := hf
   refine g_name (g_wipe rfl (g_yes (v_ifT (g_op (g_var rfl (g_c (v_inSt h45 (acR_put S41 0 rfl (EnF.all λ _ => .bl _) hl38 λ H47 (S46 : M (acR K E34 (acc33.map eB ++ [eB c44]) :: Rs) H47) => ?_))))))))
   exact hp39 _ _ hf (M.pk S46 1 [0] rfl)
  have S51 : M (da K (V.ref E34) ((eL eB) acc33) :: Rs) H49 := acR_fixL S48
  refine g_nil (v_all (M.gotA S51 0 rfl) (g_bl (v_iff hf (λ _ hf => ?_) (λ _ hf => ?_))))
  ·
   refine g_ret (g_c ?_)
   have S53 : M (da K V.non ((eO eI) (none : (Option Int))) :: _ :: Rs) H49 := M.addA S51 (EnF.all λ _ => .non)
   exact hk _ _ _ hf (M.pk S53 2 [0] rfl)
  ·
   obtain ⟨n55, h56, hf⟩ := hf
   refine g_next (g_nx (g_ret (g_cb (g_cons (g_var rfl (g_nil (v_intT h56 ?_)))))))
   have S57 : M (da K (V.int n55) ((eO eI) (some n55)) :: _ :: Rs) H49 := M.addA S51 (EnF.all λ _ => .int _)
   exact hk _ _ _ hf (M.pk S57 2 [0] rfl)
def p_seal_of_word (a_word : Str) (P : (Option Int) -> Prop) : Prop := jn (λ k5 => jn (λ k11 => ((a_word).length <= 100000) /\ if (decide (1 <= ((a_word).length : Int))) = true then (k11 (decide (((a_word).length : Int) <= 48))) else (k11 false)) λ c7 => if (!c7) = true then (k5 true) else (∃ x16, atS a_word 0 = some x16 /\ k5 (decide (x16 = ("0" : Str))))) λ c1 => if c1 = true then (P (none : (Option Int))) else ((strL a_word).length <= 100000 /\ lcD (λ (x27 : Str) (k34 : Option Bool -> Prop) => ∃ c35, inSt x27 ("0123456789abcdef" : Str) = some c35 /\ k34 (some c35)) (strL a_word) [] λ acc24 => if (!((acc24).all id)) = true then (P (none : (Option Int))) else (∃ n46, hexT a_word = some n46 /\ P (some n46)))
def sp_seal_of_word (K : Fr) : Sp := λ vs H Q _ => ∃ (Rs : List Res) (a_word : Str) (P : (Option Int) -> Prop), vs = [(V.str a_word)] /\ M (Rs) H /\ p_seal_of_word a_word P /\ ∀ (r : (Option Int)) (v : V) H', P r -> M (da K v ((eO eI) r) :: Rs) H' -> Q v H'
theorem len_seal_of_word {K : Fr} (vs : List V) (H : Hp) (Q : VK) (E : XK) (h : sp_seal_of_word K vs H Q E) : vs.length = 1 := by
 obtain ⟨Rs, a_word, P, rfl, _⟩ := h
 rfl
abbrev t_seal_of_word_3 (K : Fr) : TS := (tSeq (tIfS (tNot (tB (tCB (rAll K) (tCons (tLc (iStr (tVar 0)) (gName 1) tYes (tOp (uIn K) (tVar 1) (tC (.str "0123456789abcdef"))) [1]) tNil)))) (tRet (tC .non)) tNext)
 (tRet (tCB rIntHex (tCons (tVar 0) (tCons (tC (.int 16)) tNil)))))
abbrev t_seal_of_word_1 (K : Fr) : TS := (tSeq (tIfS (tOr (tNot (tTest (tChain uLe uLe (tC (.int 1)) (tCB (uLen K) (tCons (tVar 0) tNil)) (tC (.int 48))))) (tTest (tOp (uEq K) (tOp (uIx K) (tVar 0) (tC (.int 0))) (tC (.str "0"))))) (tRet (tC .non)) tNext)
 (t_seal_of_word_3 K))
abbrev t_seal_of_word (K : Fr) : TS := (t_seal_of_word_1 K)
theorem pure_seal_of_word {K : Fr} (vs : List V) (H : Hp) (Q : VK) (E : XK) (h : sp_seal_of_word K vs H Q E) : t_seal_of_word K { nx := λ _ H' => Q .non H', rt := Q } (L2.start ["word", "sign"] vs) H := by
 obtain ⟨Rs, a_word, P, rfl, S0, hf, hk⟩ := h
 show t_seal_of_word K _ [some (V.str a_word), none] H
 refine g_seq (g_if ?_)
 refine tt_cut hf (λ H => M (Rs) H) (λ kk2 P3 hP4 hf => ?_) ?_
 ·
  refine g_or (g_not (g_test ?_))
  refine te_cut hf (λ H => M (Rs) H) (λ kk8 P9 hP10 hf => ?_) ?_
  ·
   obtain ⟨h13, hf⟩ := hf
   refine g_chain (g_c (g_cb (g_cons (g_var rfl (g_nil (v_lenS h13 (v_le (g_bl (v_iff hf (λ _ hf => ?_) (λ _ hf => ?_))))))))))
   ·
    refine g_c (v_le ?_)
    exact hP10 _ _ hf (M.pk S0 0 [] rfl)
   ·
    exact hP10 _ _ hf (M.pk S0 0 [] rfl)
  intro c7 H15 hf S14
  refine g_bl (v_iff hf (λ _ hf => ?_) (λ _ hf => ?_))
  ·
   exact hP4 _ _ hf (M.sub (.refl _) S14)
  ·
   obtain ⟨x16, h17, hf⟩ := hf
   refine g_test (g_op (g_op (g_var rfl (g_c (v_ixs h17 (g_c (v_eqS (g_bl ?_))))))))
   exact hP4 _ _ hf (M.sub (.refl _) S14)
 intro c1 H19 hf S18
 refine v_iff hf (λ _ hf => ?_) (λ _ hf => ?_)
 ·
  refine g_ret (g_c ?_)
  have S20 : M (da K V.non ((eO eI) (none : (Option Int))) :: Rs) H19 := M.addA S18 (EnF.all λ _ => .non)
  exact hk _ _ _ hf (M.pk S20 1 [0] rfl)
 ·
  refine g_next (g_nx (g_seq (g_if (g_not (g_B (g_cb (g_cons (g_lc (g_iStr (g_var rfl (⟨_, rfl, ?_⟩)))))))))))
  refine lc_str (K := K) (e' := eB) hf S18 (λ x27 acc24 E25 H33 kk26 N28 hl29 S32 hf hp30 hn31 => ?_) (λ E25 acc24 H40 hf S39 => ?_)
  ·
   obtain ⟨c35, h36, hf⟩ := hf
   refine g_name (g_wipe rfl (g_yes (v_ifT (g_op (g_var rfl (g_c (v_inSt h36 (acR_put S32 0 rfl (EnF.all λ _ => .bl _) hl29 λ H38 (S37 : M (acR K E25 (acc24.map eB ++ [eB c35]) :: Rs) H38) => ?_))))))))
   exact hp30 _ _ hf (M.pk S37 1 [0] rfl)
  have S42 : M (da K (V.ref E25) ((eL eB) acc24) :: Rs) H40 := acR_fixL S39
  refine g_nil (v_all (M.gotA S42 0 rfl) (g_bl (v_iff hf (λ _ hf => ?_) (λ _ hf => ?_))))
  ·
   refine g_ret (g_c ?_)
   have S44 : M (da K V.non ((eO eI) (none : (Option Int))) :: _ :: Rs) H40 := M.addA S42 (EnF.all λ _ => .non)
   exact hk _ _ _ hf (M.pk S44 2 [0] rfl)
  ·
   obtain ⟨n46, h47, hf⟩ := hf
   refine g_next (g_nx (g_ret (g_cb (g_cons (g_var rfl (g_cons (g_c (g_nil (v_hexT h47 ?_)))))))))
   have S48 : M (da K (V.int n46) ((eO eI) (some n46)) :: _ :: Rs) H40 := M.addA S42 (EnF.all λ _ => .int _)
   exact hk _ _ _ hf (M.pk S48 2 [0] rfl)
def p_signs_of_word (a_word : Str) (P : (List (Option Int)) -> Prop) : Prop := if (decide (a_word = ("-" : Str))) = true then (P ([] : (List (Option Int)))) else (((a_word).length <= 100000) /\ ((Txt.split a_word ("," : Str))).length <= 100000 /\ lcD (λ (x15 : Str) (k22 : Option (Option Int) -> Prop) => p_whole_of x15 λ x23 => k22 (some x23)) (Txt.split a_word ("," : Str)) [] λ acc12 => P acc12)
def sp_signs_of_word (K : Fr) : Sp := λ vs H Q _ => ∃ (Rs : List Res) (a_word : Str) (P : (List (Option Int)) -> Prop), vs = [(V.str a_word)] /\ M (Rs) H /\ p_signs_of_word a_word P /\ ∀ (r : (List (Option Int))) (p : Addr) H', P r -> M (acR K p (r.map (eO eI)) :: Rs) H' -> Q (.ref p) H'
theorem len_signs_of_word {K : Fr} (vs : List V) (H : Hp) (Q : VK) (E : XK) (h : sp_signs_of_word K vs H Q E) : vs.length = 1 := by
 obtain ⟨Rs, a_word, P, rfl, _⟩ := h
 rfl
abbrev t_signs_of_word_1 (K : Fr) : TS := (tSeq (tIfS (tTest (tOp (uEq K) (tVar 0) (tC (.str "-")))) (tRet (tLst tNil)) tNext)
 (tRet (tLc (iList K (tM1 rSplT (tVar 0) (tC (.str ",")))) (gName 1) tYes (tCall (sp_whole_of K) [] E0 (tCons (tVar 1) tNil)) [1])))
abbrev t_signs_of_word (K : Fr) : TS := (t_signs_of_word_1 K)
theorem pure_signs_of_word {K : Fr} (vs : List V) (H : Hp) (Q : VK) (E : XK) (h : sp_signs_of_word K vs H Q E) : t_signs_of_word K { nx := λ _ H' => Q .non H', rt := Q } (L2.start ["word", "part"] vs) H := by
 obtain ⟨Rs, a_word, P, rfl, S0, hf, hk⟩ := h
 show t_signs_of_word K _ [some (V.str a_word), none] H
 refine g_seq (g_if (g_test (g_op (g_var rfl (g_c (v_eqS (g_bl (v_iff hf (λ _ hf => ?_) (λ _ hf => ?_)))))))))
 ·
  refine g_ret (g_lst (g_nil (v_lsto (ds := ([] : (List (Option Int))).map (eO eI)) S0 EnF.nilA (len_ok rfl) λ p1 H3 (S2 : M (acR K p1 (([] : (List (Option Int))).map (eO eI)) :: Rs) H3) => ?_)))
  exact hk _ _ _ hf (M.pk S2 1 [0] rfl)
 ·
  refine g_next (g_nx (g_ret (g_lc (g_iList (g_m1 (g_var rfl (v_isS (g_c ?_))))))))
  obtain ⟨h7, hf⟩ := hf
  refine v_splT S0 (by decide) h7 λ p8 H10 (S9 : M (acR K p8 ((Txt.split a_word ("," : Str)).map eS) :: Rs) H10) => ?_
  refine lc_N flS (K := K) (e' := (eO eI)) hf S9 (λ _ S => S.gotO 0 rfl) (λ x15 acc12 E13 H21 kk14 N16 hl17 S20 hf hp18 hn19 => ?_) (λ E13 acc12 H31 hf S30 => ?_)
  ·
   refine g_name (g_wipe rfl (g_yes (v_ifT (g_call (g_cons (g_var rfl (g_nil (⟨_, _, _, rfl, S20, hf, λ x23 u26 H25 hf (S24 : M (da K u26 ((eO eI) x23) :: acR K E13 (acc12.map (eO eI)) :: _ :: Rs) H25) => ?_⟩))))))))
   refine acR_put S24 1 rfl (EnF.at 0 rfl) hl17 λ H29 (S28 : M (acR K E13 (acc12.map (eO eI) ++ [(eO eI) x23]) :: oo2 Rs) H29) => ?_
   exact hp18 _ _ hf (M.pk S28 3 [0, 2] rfl)
  exact hk _ _ _ hf (M.sub (.cons 0 rfl (.tl (.refl _))) S30)
def p_thing_of (a_kind : Str) (a_word : Str) (P : OD -> Prop) : Prop := if (decide (a_kind = ("seal" : Str))) = true then (p_seal_of_word a_word λ x1 => P (OD.fz ((eO eI) x1))) else (if (([("content" : Str), ("body" : Str), ("signs" : Str)]).any λ y => decide (y = a_kind)) = true then (p_signs_of_word a_word λ x12 => P (OD.ol (OD.fzs (eO eI) x12))) else (if (([("time" : Str), ("blocks" : Str)]).any λ y => decide (y = a_kind)) = true then (p_whole_of a_word λ x23 => P (OD.fz ((eO eI) x23))) else (P (OD.fz (eS a_word)))))
def sp_thing_of (K : Fr) : Sp := λ vs H Q _ => ∃ (Rs : List Res) (a_kind : Str) (a_word : Str) (P : OD -> Prop), vs = [(V.str a_kind), (V.str a_word)] /\ M (Rs) H /\ p_thing_of a_kind a_word P /\ ∀ (r : OD) (v : V) H', P r -> M (odR K v r :: Rs) H' -> Q v H'
theorem len_thing_of {K : Fr} (vs : List V) (H : Hp) (Q : VK) (E : XK) (h : sp_thing_of K vs H Q E) : vs.length = 2 := by
 obtain ⟨Rs, a_kind, a_word, P, rfl, _⟩ := h
 rfl
abbrev t_thing_of_5 (K : Fr) : TS := (tSeq (tIfS (tTest (tOp (uIn K) (tVar 0) (tTup (tCons (tC (.str "time")) (tCons (tC (.str "blocks")) tNil))))) (tRet (tCall (sp_whole_of K) [] E0 (tCons (tVar 1) tNil))) tNext)
 (tRet (tVar 1)))
abbrev t_thing_of_3 (K : Fr) : TS := (tSeq (tIfS (tTest (tOp (uIn K) (tVar 0) (tTup (tCons (tC (.str "content")) (tCons (tC (.str "body")) (tCons (tC (.str "signs")) tNil)))))) (tRet (tCall (sp_signs_of_word K) [] E0 (tCons (tVar 1) tNil))) tNext)
 (t_thing_of_5 K))
abbrev t_thing_of_1 (K : Fr) : TS := (tSeq (tIfS (tTest (tOp (uEq K) (tVar 0) (tC (.str "seal")))) (tRet (tCall (sp_seal_of_word K) [] E0 (tCons (tVar 1) tNil))) tNext)
 (t_thing_of_3 K))
abbrev t_thing_of (K : Fr) : TS := (t_thing_of_1 K)
theorem pure_thing_of {K : Fr} (vs : List V) (H : Hp) (Q : VK) (E : XK) (h : sp_thing_of K vs H Q E) : t_thing_of K { nx := λ _ H' => Q .non H', rt := Q } (L2.start ["kind", "word"] vs) H := by
 obtain ⟨Rs, a_kind, a_word, P, rfl, S0, hf, hk⟩ := h
 show t_thing_of K _ [some (V.str a_kind), some (V.str a_word)] H
 refine g_seq (g_if (g_test (g_op (g_var rfl (g_c (v_eqS (g_bl (v_iff hf (λ _ hf => ?_) (λ _ hf => ?_)))))))))
 ·
  refine g_ret (g_call (g_cons (g_var rfl (g_nil (⟨_, _, _, rfl, S0, hf, λ x1 u4 H3 hf (S2 : M (da K u4 ((eO eI) x1) :: Rs) H3) => ?_⟩)))))
  have S7 : M (odR K u4 (OD.fz ((eO eI) x1)) :: _ :: Rs) H3 := M.addA S2 (EnF.at 0 rfl)
  exact hk _ _ _ hf (M.pk S7 2 [0] rfl)
 ·
  refine g_next (g_nx (g_seq (g_if (g_test (g_op (g_var rfl (g_tup (g_cons (g_c (g_cons (g_c (g_cons (g_c (g_nil (v_tupq S0 (EnF.consA (EnF.all λ _ => .str _) (EnF.consA (EnF.all λ _ => .str _) (EnF.consA (EnF.all λ _ => .str _) EnF.nilA))) (len_ok rfl) λ p8 H10 (S9 : M (da K (V.ref p8) ((eV eS) [("content" : Str), ("body" : Str), ("signs" : Str)]) :: Rs) H10) => ?_)))))))))))))))
  refine v_inV (M.gotA S9 0 rfl) (g_bl (v_iff hf (λ _ hf => ?_) (λ _ hf => ?_)))
  ·
   refine g_ret (g_call (g_cons (g_var rfl (g_nil (⟨_, _, _, rfl, S9, hf, λ x12 u15 H14 hf (S13 : M (acR K u15 (x12.map (eO eI)) :: _ :: Rs) H14) => ?_⟩)))))
   have S18 : M (odR K (V.ref u15) (OD.ol (OD.fzs (eO eI) x12)) :: _ :: Rs) H14 := M.acOD (M.at S13 0 rfl)
   exact hk _ _ _ hf (M.pk S18 2 [0] rfl)
  ·
   refine g_next (g_nx (g_seq (g_if (g_test (g_op (g_var rfl (g_tup (g_cons (g_c (g_cons (g_c (g_nil (v_tupq S9 (EnF.consA (EnF.all λ _ => .str _) (EnF.consA (EnF.all λ _ => .str _) EnF.nilA)) (len_ok rfl) λ p19 H21 (S20 : M (da K (V.ref p19) ((eV eS) [("time" : Str), ("blocks" : Str)]) :: _ :: Rs) H21) => ?_)))))))))))))
   refine v_inV (M.gotA S20 0 rfl) (g_bl (v_iff hf (λ _ hf => ?_) (λ _ hf => ?_)))
   ·
    refine g_ret (g_call (g_cons (g_var rfl (g_nil (⟨_, _, _, rfl, S20, hf, λ x23 u26 H25 hf (S24 : M (da K u26 ((eO eI) x23) :: oo2 Rs) H25) => ?_⟩)))))
    have S29 : M (odR K u26 (OD.fz ((eO eI) x23)) :: oo3 Rs) H25 := M.addA S24 (EnF.at 0 rfl)
    exact hk _ _ _ hf (M.pk S29 4 [0] rfl)
   ·
    refine g_next (g_nx (g_ret (g_var rfl ?_)))
    have S31 : M (odR K (V.str a_word) (OD.fz (eS a_word)) :: oo2 Rs) H21 := M.addA S20 (EnF.all λ _ => .str _)
    exact hk _ _ _ hf (M.pk S31 3 [0] rfl)
def p_read_deed (a_text : Str) (P : OD -> Prop) : Prop := ((a_text).length <= 100000) /\ ∃ x8 : Str, ∃ x9 : (List Str), (Txt.split a_text (" " : Str)) = x8 :: x9 /\ jn (λ k29 => if (((lk gd_MADE_OF x8)).isNone) = true then (k29 true) else (∃ x31 : (List Str), (lk gd_MADE_OF x8) = some x31 /\ k29 (!decide (((x31).length : Int) = ((x9).length : Int))))) λ c25 => if c25 = true then (False) else (∃ x52 : (List Str), (lk gd_MADE_OF x8) = some x52 /\ ((x52.zip x9)).length <= 100000 /\ lcD (λ (x76 : (Str × Str)) (k81 : Option OD -> Prop) => p_thing_of x76.1 x76.2 λ x89 => k81 (some x89)) (x52.zip x9) [] λ acc73 => ([(OD.fz (eS x8))]).length + (acc73).length <= 100000 /\ p_is_deed (((OD.ot ([(OD.fz (eS x8))] ++ acc73))).fgt) λ x110 => if (!x110) = true then (False) else (P (OD.ot ([(OD.fz (eS x8))] ++ acc73))))
def sp_read_deed (K : Fr) : Sp := λ vs H Q _ => ∃ (Rs : List Res) (a_text : Str) (P : OD -> Prop), vs = [(V.str a_text)] /\ M (Rs) H /\ p_read_deed a_text P /\ ∀ (r : OD) (v : V) H', P r -> M (odR K v r :: Rs) H' -> Q v H'
theorem len_read_deed {K : Fr} (vs : List V) (H : Hp) (Q : VK) (E : XK) (h : sp_read_deed K vs H Q E) : vs.length = 1 := by
 obtain ⟨Rs, a_text, P, rfl, _⟩ := h
 rfl
abbrev t_read_deed_8 (K : Fr) : TS := (tSeq (tIfS (tNot (tB (tCall (sp_is_deed K) [] E0 (tCons (tVar 2) tNil)))) tNever tNext)
 (tRet (tVar 2)))
abbrev t_read_deed_7 (K : Fr) : TS := (tSeq (tAsg (tOp (rCatA K) (tTup (tCons (tVar 3) tNil)) (tCB (rTupL K) (tCons (tLc (iZipG K true false (tCons (tVar 1) (tCons (tVar 4) tNil))) (gTup K 2 (gCons (gName 5) (gCons (gName 6) gNil))) tYes (tCall (sp_thing_of K) [] E0 (tCons (tVar 5) (tCons (tVar 6) tNil))) [5, 6]) tNil))) (gName 2))
 (t_read_deed_8 K))
abbrev t_read_deed_5 (K : Fr) : TS := (tSeq (tIfS (tOr (tTest (tOp rIsN (tVar 1) (tC .non))) (tTest (tOp (uNe K) (tCB (uLen K) (tCons (tVar 1) tNil)) (tCB (uLen K) (tCons (tVar 4) tNil))))) tNever tNext)
 (t_read_deed_7 K))
abbrev t_read_deed_4 (K : Fr) : TS := (tSeq (tAsg (tGetG K (gTxts K) (He.ga K "MADE_OF") gd_MADE_OF (tVar 3)) (gName 1))
 (t_read_deed_5 K))
abbrev t_read_deed_3 (K : Fr) : TS := (tSeq (tAsg (tM1 rSplT (tVar 0) (tC (.str " "))) (gStar K 1 (gCons (gName 3) (gCons (gName 4) gNil))))
 (t_read_deed_4 K))
abbrev t_read_deed_1 (K : Fr) : TS := (tSeq (tIfS (tNot (tB (tCB (uIsi K) (tCons (tVar 0) (tCons (tC (.ty "str")) tNil))))) tNever tNext)
 (t_read_deed_3 K))
abbrev t_read_deed (K : Fr) : TS := (t_read_deed_1 K)
theorem pure_read_deed {K : Fr} (T : TxC K) (vs : List V) (H : Hp) (Q : VK) (E : XK) (h : sp_read_deed K vs H Q E) : t_read_deed K { nx := λ _ H' => Q .non H', rt := Q } (L2.start ["text", "kinds", "deed", "word", "words", "kind", "one"] vs) H := by
 obtain ⟨Rs, a_text, P, rfl, S0, hf, hk⟩ := h
 show t_read_deed K _ [some (V.str a_text), none, none, none, none, none, none] H
 refine g_seq (g_if (g_not (g_B (g_cb (g_cons (g_var rfl (g_cons (g_c (g_nil (v_isq (.str _) (by decide) (b := true) rfl (g_bl (v_ifcF (by decide) (g_next (g_nx (g_seq (g_asgX (g_m1 (g_var rfl (v_isS (g_c ?_))))))))))))))))))))
 obtain ⟨h1, hf⟩ := hf
 refine v_splT S0 (by decide) h1 λ p2 H4 (S3 : M (acR K p2 ((Txt.split a_text (" " : Str)).map eS) :: Rs) H4) => ?_
 have S6 : M (da K (V.ref p2) ((eL eS) (Txt.split a_text (" " : Str))) :: Rs) H4 := acR_fixL S3
 obtain ⟨x8, x9, h10, hf⟩ := hf
 have S11 : M (da K (V.ref p2) ((eL eS) (x8 :: x9)) :: _ :: Rs) H4 := M.cstA S6 0 rfl (by rw [h10])
 refine v_star1 S11 0 rfl λ u13 p12 H16 (S15 : M (acR K p12 (x9.map eS) :: da K u13 (eS x8) :: oo2 Rs) H16) => ?_
 refine g_gcons ?_
 obtain rfl := (S15.gotA 1 rfl).strV
 refine g_name (g_gcons ?_)
 have S19 : M (da K (V.ref p12) ((eL eS) x9) :: da K (V.str x8) (eS x8) :: oo2 Rs) H16 := acR_fixL S15
 refine g_name (g_gnil (g_nx ?_))
 show (_ : TS) _ [some (V.str a_text), none, none, some (V.str x8), some (V.ref p12), none, none] _
 have S21 : M (_ :: Rs) H16 := (M.drp (M.drp (M.drp S19 3) 2) 1)
 refine g_seq (g_asg (g_getG (g_var rfl ?_)))
 refine v_getGT S21 λ u22 (S23 : M (da K u22 ((eO (eV eS)) (lk gd_MADE_OF x8)) :: _ :: Rs) H16) => ?_
 refine g_nx ?_
 show (_ : TS) _ [some (V.str a_text), some u22, none, some (V.str x8), some (V.ref p12), none, none] _
 refine g_seq (g_if ?_)
 refine tt_cut hf (λ H => M (da K u22 ((eO (eV eS)) (lk gd_MADE_OF x8)) :: da K (V.ref p12) ((eL eS) x9) :: Rs) H) (λ kk26 P27 hP28 hf => ?_) ?_
 ·
  refine g_or (g_test (g_op (g_var rfl (g_c (v_isOe (λ _ => rfl) (M.gotA S23 0 rfl) (g_bl (v_iff hf (λ _ hf => ?_) (λ _ hf => ?_))))))))
  ·
   exact hP28 _ _ hf (M.pk S23 2 [0, 1] rfl)
  ·
   refine g_test (g_op (g_cb (g_cons (g_var rfl (g_nil ?_)))))
   obtain ⟨x31, h32, hf⟩ := hf
   have S33 : M (da K u22 ((eV eS) x31) :: oo2 Rs) H16 := M.cstA S23 0 rfl (by rw [h32]; rfl)
   refine v_lenv S33 0 rfl (g_cb (g_cons (g_var rfl (g_nil (v_lenN (M.gotA S33 2 rfl) (v_neI (g_bl ?_)))))))
   exact hP28 _ _ hf (M.pk S33 3 [1, 2] rfl)
 intro c25 H36 hf S35
 refine v_iff hf (λ _ hf => ?_) (λ _ hf => ?_)
 ·
  exact hf.elim
 ·
  refine g_next (g_nx (g_seq (g_asg (g_op (g_tup (g_cons (g_var rfl (g_nil ?_))))))))
  refine v_tup S35 (len_ok rfl) λ p37 H39 (S38 : M (pt p37 (.tup [(V.str x8)]) :: da K u22 ((eO (eV eS)) (lk gd_MADE_OF x8)) :: da K (V.ref p12) ((eL eS) x9) :: Rs) H39) => ?_
  have S42 : M (starR (odR K) [] [] :: oo3 Rs) H39 := M.addE S38
  have S44 : M (odR K (V.str x8) (OD.fz (eS x8)) :: oo4 Rs) H39 := M.addA S42 (EnF.all λ _ => .str _)
  have S45 : M (oo5 Rs) H39 := M.at S44 0 rfl
  have S47 : M (starR (odR K) [(V.str x8)] [(OD.fz (eS x8))] :: oo3 Rs) H39 := M.sp' (M.pk S45 5 [0, 1, 2, 3, 4] rfl)
  have S49 : M (odR K (V.ref p37) (OD.ot [(OD.fz (eS x8))]) :: oo2 Rs) H39 := M.odTC (M.pk S47 4 [1, 0, 2, 3] rfl)
  refine g_cb (g_cons (g_lc (g_iZipG (g_cons (g_var rfl ?_)))))
  obtain ⟨x52, h53, hf⟩ := hf
  have S54 : M (da K u22 ((eV eS) x52) :: oo3 Rs) H39 := M.cstA S49 1 rfl (by rw [h53]; rfl)
  refine g_cons (g_var rfl (g_nil ?_))
  obtain ⟨a56, vs57, e_a56, S58⟩ := M.openG true (ds := x52.map eS) (M.addA S54 (EnF.at 0 rfl))
  obtain ⟨a61, vs62, e_a61, S63⟩ := M.openG false (ds := x9.map eS) (M.addA S58 (EnF.at 5 rfl))
  refine lo_zip (K := K) (B := (odR K)) e_a56 e_a61 hf S63 (λ _ S => ⟨S.zl 2 rfl 3 rfl, S.zl 0 rfl 1 rfl⟩) (λ i66 u67 u68 x76 acc73 E74 T84 H83 kk75 N77 hl78 S82 hv69 hx70 hw71 hy72 hf hp79 hn80 => ?_) (λ E74 acc73 H98 hf S97 => ?_)
  ·
   refine g_gtup (.inl (.inl (S82.got 0 rfl))) rfl (g_gcons ?_)
   have S85 := S82.elA 5 rfl hv69 hx70
   obtain rfl := (S85.gotA 0 rfl).strV
   have S86 := S85.tl
   refine g_name (g_gcons ?_)
   have S87 := S86.elA 3 rfl hw71 hy72
   obtain rfl := (S87.gotA 0 rfl).strV
   have S88 := S87.tl
   refine g_name (g_gnil (g_wipe rfl (g_yes (v_ifT (g_call (g_cons (g_var rfl (g_cons (g_var rfl (g_nil (⟨_, _, _, _, rfl, S88, hf, λ x89 u92 H91 hf (S90 : M (odR K u92 x89 :: pt T84 (.tup [(V.str x76.1), (V.str x76.2)]) :: lsR (odR K) E74 acc73 :: rdG K false a61 vs62 :: daA K vs62 (x9.map eS) :: rdG K true a56 vs57 :: daA K vs57 (x52.map eS) :: oo4 Rs) H91) => ?_⟩)))))))))))
   have S94 : M (oo11 Rs) H91 := M.at S90 0 rfl
   refine lsR_put (M.pk S94 11 [0, 2, 1, 3, 4, 5, 6, 7, 8, 9, 10] rfl) hl78 λ H96 (S95 : M (lsR (odR K) E74 (acc73 ++ [x89]) :: oo9 Rs) H96) => ?_
   exact hp79 _ _ hf (M.pk S95 10 [0, 2, 3, 4, 5, 6, 7, 8, 9] rfl)
  refine g_nil (v_tupLO (M.sub (.cons 0 rfl (.refl _)) S97) λ q100 H102 (S101 : M (odR K (V.ref q100) (OD.ot acc73) :: rdG K false a61 vs62 :: daA K vs62 (x9.map eS) :: rdG K true a56 vs57 :: daA K vs57 (x52.map eS) :: oo4 Rs) H102) => ?_)
  obtain ⟨h104, hf⟩ := hf
  refine v_catOT (M.pk S101 9 [6, 0, 1, 2, 3, 4, 5, 7, 8] rfl) h104 λ u105 H107 (S106 : M (odR K u105 (OD.ot ([(OD.fz (eS x8))] ++ acc73)) :: oo7 Rs) H107) => ?_
  refine g_nx ?_
  show (_ : TS) _ [some (V.str a_text), some u22, some u105, some (V.str x8), some (V.ref p12), none, none] _
  have S109 : M (oo7 Rs) H107 := (M.drp S106 6)
  refine g_seq (g_if (g_not (g_B (g_call (g_cons (g_var rfl (g_nil ?_)))))))
  refine ⟨_, _, _, _, rfl, (M.lend (M.pk S109 7 [0, 1, 2, 3, 4, 5, 6] rfl)), hf, λ x110 H111 hf S112 => ?_⟩
  have S113 : M (oo7 Rs) H111 := M.unlend S112
  refine g_bl (v_iff hf (λ _ hf => ?_) (λ _ hf => ?_))
  ·
   exact hf.elim
  ·
   refine g_next (g_nx (g_ret (g_var rfl ?_)))
   exact hk _ _ _ hf (M.pk S113 7 [0] rfl)
theorem jn_ok {β : Type} {f : (β -> Prop) -> Prop} {k : β -> Prop} (G : β -> Prop) (h1 : ∀ kk : β -> Prop, (∀ b, G b -> kk b) -> f kk) (h2 : ∀ b, G b -> k b) : jn f k := h1 k h2
def Sg (ns : List Int) : Prop := 1 <= ns.length /\ ns.length <= 16 /\ ∀ n ∈ ns, 0 <= n /\ n <= 999
def sealN (ns : List Int) : Int := ns.foldr (λ s acc => acc * 1001 + s + 1) 0
theorem sealN_bd : ∀ {ns : List Int}, (∀ n ∈ ns, 0 <= n /\ n <= 999) -> 0 <= sealN ns /\ sealN ns < 1001 ^ ns.length
 | [], _ => by simp [sealN]
 | n :: r, h => by
   obtain ⟨h1, h2⟩ := sealN_bd λ m hm => h m (List.mem_cons_of_mem _ hm)
   have hn := h n List.mem_cons_self
   have e : sealN (n :: r) = sealN r * 1001 + n + 1 := rfl
   rw [e, List.length_cons, Int.pow_succ]
   omega
theorem sealN_pos {n : Int} {r : List Int} (h : ∀ m ∈ n :: r, 0 <= m /\ m <= 999) : 0 < sealN (n :: r) := by
 have h1 := (sealN_bd λ m hm => h m (List.mem_cons_of_mem _ hm)).1
 have hn := h n List.mem_cons_self
 have e : sealN (n :: r) = sealN r * 1001 + n + 1 := rfl
 omega
theorem seal_big {ns : List Int} (g : Sg ns) : (sealN ns).natAbs < 10 ^ 49 := by
 have h := sealN_bd g.2.2
 have h2 : (1001 : Int) ^ ns.length <= 1001 ^ 16 := by
   have := Nat.pow_le_pow_right (n := 1001) (by decide) g.2.1
   exact_mod_cast this
 have h3 : (1001 : Int) ^ 16 < 10 ^ 49 := by decide +kernel
 have h4 : sealN ns < (10 ^ 49 : Int) := by omega
 have h5 : ((sealN ns).natAbs : Int) = sealN ns := Int.natAbs_of_nonneg h.1
 exact_mod_cast (show ((sealN ns).natAbs : Int) < ((10 ^ 49 : Nat) : Int) by rw [h5]; simpa using h4)
def whA : PyData -> Option Int
 | .int n => some n
 | _ => none
def rngA (d : PyData) (lo hi : Int) : Bool := match d with
 | .int n => decide (lo <= n) && decide (n <= hi)
 | _ => false
def signsA (d : PyData) (lo hi : Int) : Bool := match d with
 | .list ds => (decide (lo <= ds.length) && decide ((ds.length : Int) <= hi)) && ds.all λ x => rngA x 0 999
 | _ => false
theorem rngA_int {d : PyData} {lo hi : Int} (h : rngA d lo hi = true) : ∃ n, d = .int n /\ lo <= n /\ n <= hi := by
 cases d with
 | int n =>
   simp only [rngA, Bool.and_eq_true, decide_eq_true_eq] at h
   exact ⟨n, rfl, h⟩
 | _ => cases h
theorem signs_of_all : ∀ {ds : List PyData}, (ds.all λ x => rngA x 0 999) = true -> ∃ ns : List Int, ds = ns.map eI /\ ∀ n ∈ ns, 0 <= n /\ n <= 999
 | [], _ => ⟨[], rfl, λ _ h => nomatch h⟩
 | d :: ds, h => by
   rw [List.all_cons, Bool.and_eq_true] at h
   obtain ⟨n, rfl, h1, h2⟩ := rngA_int h.1
   obtain ⟨ns, rfl, h3⟩ := signs_of_all h.2
   exact ⟨n :: ns, rfl, λ m hm => by
     rcases List.mem_cons.mp hm with rfl | hm
     · exact ⟨h1, h2⟩
     · exact h3 m hm⟩
theorem signsA_list {d : PyData} {lo hi : Int} (h : signsA d lo hi = true) : ∃ ns : List Int, d = eL eI ns /\ lo <= ns.length /\ (ns.length : Int) <= hi /\ ∀ n ∈ ns, 0 <= n /\ n <= 999 := by
 cases d with
 | list ds =>
   simp only [signsA, Bool.and_eq_true, decide_eq_true_eq] at h
   obtain ⟨⟨h1, h2⟩, h3⟩ := h
   obtain ⟨ns, rfl, h4⟩ := signs_of_all h3
   rw [List.length_map] at h1 h2
   exact ⟨ns, rfl, h1, h2, h4⟩
 | _ => cases h
theorem signsA_ok {ns : List Int} {lo hi : Int} (h1 : lo <= ns.length) (h2 : (ns.length : Int) <= hi) (h : ∀ n ∈ ns, 0 <= n /\ n <= 999) : signsA (eL eI ns) lo hi = true := by
 unfold signsA eL
 simp only [List.length_map, Bool.and_eq_true, decide_eq_true_eq, List.all_eq_true]
 refine ⟨⟨h1, h2⟩, λ x hx => ?_⟩
 obtain ⟨n, hn, rfl⟩ := List.mem_map.mp hx
 simp [rngA, h n hn]
theorem rngA_ok {n lo hi : Int} (h1 : lo <= n) (h2 : n <= hi) : rngA (.int n) lo hi = true := by simp [rngA, h1, h2]
theorem isA_int (d : PyData) : ((isA "int" d) && (!(isA "bool" d))) = (whA d).isSome := by cases d <;> rfl
theorem isA_list (d : PyData) : isA "list" d = true -> ∃ ds, d = .list ds := by
 intro h
 cases d with
 | list ds => exact ⟨ds, rfl⟩
 | _ => cases h
theorem jn_self {f : (Bool -> Prop) -> Prop} {P : Bool -> Prop} (h : f P) : jn f (λ c => P c) := h
theorem whole_a {d : PyData} {P : Bool -> Prop} (h : P (whA d).isSome) : p_is_whole d P := by
 unfold p_is_whole
 rw [isA_int]
 exact h
theorem rng_shape {d : PyData} {lo hi : Int} {P : Bool -> Prop} (h : P (rngA d lo hi)) : p_is_whole d λ x8 => if x8 = true then (∃ x12 : Int, d = eI x12 /\ P ((decide (lo <= x12)) && (decide (x12 <= hi)))) else P false := by
 refine whole_a ?_
 cases d with
 | int n => exact ⟨n, rfl, h⟩
 | _ => exact h
theorem sign_a {d : PyData} {P : Bool -> Prop} (h : P (rngA d 0 999)) : p_is_sign d P := by
 unfold p_is_sign
 exact jn_self (rng_shape h)
theorem time_a {d : PyData} {P : Bool -> Prop} (h : P (rngA d 0 1000000)) : p_is_time d P := by
 unfold p_is_time
 exact jn_self (rng_shape h)
theorem signs_go {P : Bool -> Prop} : ∀ {ds : List PyData}, (P (ds.all λ x => rngA x 0 999)) -> forD (λ (x38 : PyData) (s35 : Unit) (k36 : (Unit) -> Prop) => p_is_sign x38 λ x45 => if (!x45) = true then (P false) else (k36 ())) ds () λ s35 => P true
 | [], h => h
 | d :: ds, h => by
   refine sign_a ?_
   rw [List.all_cons] at h
   cases e : rngA d 0 999 with
   | false =>
     rw [e] at h
     exact h
   | true =>
     rw [e] at h
     exact signs_go h
theorem signs_a {d : PyData} {lo hi : Int} {P : Bool -> Prop} (h : P (signsA d lo hi)) : p_are_signs d lo hi P := by
 unfold p_are_signs
 cases d with
 | list ds =>
   unfold signsA at h
   refine jn_ok (λ b => b = !(decide (lo <= ds.length) && decide ((ds.length : Int) <= hi))) (λ kk hk => ?_) λ b hb => ?_
   · refine (if_neg (by rw [show isA "list" (PyData.list ds) = true from rfl]; decide)).mpr ?_
     refine jn_ok (λ b => b = (decide (lo <= ds.length) && decide ((ds.length : Int) <= hi))) (λ kk2 hk2 => ⟨ds, by rw [eL, map_eA], ?_⟩) λ b hb => by subst hb; exact hk _ rfl
     by_cases z : lo <= (ds.length : Int)
     · rw [if_pos (by simp [z])]
       exact hk2 _ (by simp [z])
     · rw [if_neg (by simp [z])]
       exact hk2 _ (by simp [z])
   · subst hb
     dsimp only at h
     cases e : (decide (lo <= (ds.length : Int)) && decide ((ds.length : Int) <= hi)) with
     | false =>
       rw [e] at h
       exact h
     | true =>
       rw [e, Bool.true_and] at h
       refine (if_neg (by decide)).mpr ?_
       exact ⟨ds, by rw [eL, map_eA], signs_go h⟩
 | _ => exact h
theorem is_seal_go {P : Bool -> Prop} (h : P true) : ∀ (xs : List Int) (n : Int) (ns : List Int) (k : Int -> Prop), (∀ m ∈ n :: ns, 0 <= m /\ m <= 999) -> ns.length < xs.length ->
   forD (λ (x17 : Int) (s14 : Int) (k15 : (Int) -> Prop) => ((0 : Int) < 1001) /\ if (decide ((s14 % 1001) = 0)) = true then (P false) else ((CDiv s14 1001) /\ if (decide ((s14 / 1001) = 0)) = true then (P true) else (k15 (s14 / 1001)))) xs (sealN (n :: ns)) k
 | [], _, _, _, _, hl => absurd hl (by simp)
 | x :: xs, n, ns, k, hs, hl => by
   have hn := hs n List.mem_cons_self
   have e1 : sealN (n :: ns) = sealN ns * 1001 + n + 1 := rfl
   have b1 := (sealN_bd λ m hm => hs m (List.mem_cons_of_mem _ hm)).1
   have em : sealN (n :: ns) % 1001 = n + 1 := by rw [e1]; omega
   have ed : sealN (n :: ns) / 1001 = sealN ns := by rw [e1]; omega
   refine ⟨by decide, ?_⟩
   rw [em, if_neg (by simp; omega)]
   refine ⟨⟨by decide, by decide⟩, ?_⟩
   rw [ed]
   cases ns with
   | nil =>
     rw [if_pos (by decide)]
     exact h
   | cons m r =>
     have := sealN_pos (n := m) (r := r) λ z hz => hs z (List.mem_cons_of_mem _ hz)
     rw [if_neg (by simp; omega)]
     exact is_seal_go h xs m r k (λ z hz => hs z (List.mem_cons_of_mem _ hz)) (by simp only [List.length_cons] at hl ⊢; omega)
theorem is_seal_ok {ns : List Int} {P : Bool -> Prop} (g : Sg ns) (h : P true) : p_is_seal (eI (sealN ns)) P := by
 unfold p_is_seal
 obtain ⟨h1, h2, h3⟩ := g
 cases ns with
 | nil => simp at h1
 | cons n r =>
   have hp := sealN_pos h3
   refine jn_ok (λ c => c = false) (λ k1 hk1 => whole_a ?_) λ c hc => ?_
   · refine (if_neg (by simp [whA])).mpr ?_
     exact ⟨_, rfl, hk1 _ (decide_eq_false (by omega))⟩
   subst hc
   rw [if_neg (by decide)]
   exact ⟨_, rfl, by decide, is_seal_go h _ n r _ h3 (by rw [rng_len]; simp only [List.length_cons] at h2; show r.length < 16; omega)⟩
theorem wl_inv {β : Type} {F : β -> (β -> Prop) -> (β -> Prop) -> Prop} {k : β -> Prop} {Inv : Nat -> β -> Prop} {Dn : β -> Prop} (hs : ∀ n s (kk kx : β -> Prop), Inv n s -> (∀ m s', n = m + 1 -> Inv m s' -> kk s') -> (∀ s', Dn s' -> kx s') -> F s kk kx) (hd : ∀ s, Dn s -> k s) : ∀ n s, Inv n s -> wlN F (n + 1) s k
 | 0, s, h => hs 0 s _ _ h (λ m s' e _ => nomatch e) hd
 | n + 1, s, h => hs (n + 1) s _ _ h (λ m s' e hi => by
     have e2 : n = m := Nat.succ.inj e
     subst e2
     exact wl_inv hs hd n s' hi) hd
theorem wlD_inv {β : Type} {F : β -> (β -> Prop) -> (β -> Prop) -> Prop} {k : β -> Prop} (Inv : Nat -> β -> Prop) (Dn : β -> Prop) {n : Nat} {s : β} (h : Inv n s) (hs : ∀ n s (kk kx : β -> Prop), Inv n s -> (∀ m s', n = m + 1 -> Inv m s' -> kk s') -> (∀ s', Dn s' -> kx s') -> F s kk kx) (hd : ∀ s, Dn s -> k s) : wlD F s k := ⟨n + 1, wl_inv hs hd n s h⟩
theorem is_seal_gono {P : Bool -> Prop} (hP : P false) : ∀ (xs : List Int) (s : Int), 0 < s -> (∀ ns : List Int, 1 <= ns.length -> ns.length <= xs.length -> (∀ n ∈ ns, 0 <= n /\ n <= 999) -> s ≠ sealN ns) ->
   forD (λ (x17 : Int) (s14 : Int) (k15 : (Int) -> Prop) => ((0 : Int) < 1001) /\ if (decide ((s14 % 1001) = 0)) = true then (P false) else ((CDiv s14 1001) /\ if (decide ((s14 / 1001) = 0)) = true then (P true) else (k15 (s14 / 1001)))) xs s (λ _ => P false)
 | [], s, _, _ => hP
 | x :: xs, s, h0, hn => by
   refine ⟨by decide, ?_⟩
   by_cases z : s % 1001 = 0
   · rw [if_pos (decide_eq_true z)]
     exact hP
   · rw [if_neg (by simp [z])]
     refine ⟨⟨by decide, by decide⟩, ?_⟩
     by_cases y : s / 1001 = 0
     · exfalso
       refine hn [s % 1001 - 1] (by simp) (by simp) (λ n hn => ?_) ?_
       · rcases List.mem_singleton.mp hn with rfl
         omega
       · have e : sealN [s % 1001 - 1] = 0 * 1001 + (s % 1001 - 1) + 1 := rfl
         omega
     · rw [if_neg (by simp [y])]
       refine is_seal_gono hP xs (s / 1001) (by omega) λ ns l1 l2 g e => ?_
       refine hn ((s % 1001 - 1) :: ns) (by simp) (by simpa using l2) (λ n hn => ?_) ?_
       · rcases List.mem_cons.mp hn with rfl | hn
         · omega
         · exact g n hn
       · have e2 : sealN ((s % 1001 - 1) :: ns) = sealN ns * 1001 + (s % 1001 - 1) + 1 := rfl
         omega
theorem is_seal_no {d : PyData} {P : Bool -> Prop} (h : ∀ ns, Sg ns -> d ≠ eI (sealN ns)) (hP : P false) : p_is_seal d P := by
 unfold p_is_seal
 cases d with
 | int n =>
   refine jn_ok (λ c => c = decide (n < 1)) (λ k1 hk1 => whole_a ?_) λ c hc => ?_
   · exact ⟨_, rfl, hk1 _ rfl⟩
   · subst hc
     by_cases z : n < 1
     · rw [if_pos (decide_eq_true z)]
       exact hP
     · rw [if_neg (by simp; omega)]
       refine ⟨_, rfl, by decide, is_seal_gono hP (rng 16) n (by omega) λ ns l1 l2 g e => ?_⟩
       rw [rng_len] at l2
       exact h ns ⟨l1, l2, g⟩ (by rw [e])
 | _ => exact hP
theorem is_seal_a {d : PyData} {P : Bool -> Prop} (h1 : ∀ ns, Sg ns -> d = eI (sealN ns) -> P true) (h0 : (∀ ns, Sg ns -> d ≠ eI (sealN ns)) -> P false) : p_is_seal d P := by
 by_cases z : ∃ ns, Sg ns /\ d = eI (sealN ns)
 · obtain ⟨ns, g, rfl⟩ := z
   exact is_seal_ok g (h1 ns g rfl)
 · have : ∀ ns, Sg ns -> d ≠ eI (sealN ns) := λ ns g e => z ⟨ns, g, e⟩
   exact is_seal_no this (h0 this)
theorem content_ok {P : List Int -> Prop} (h : ∀ ns, GC ns -> P ns) : p_l_content P := by
 unfold p_l_content
 refine tk (by decide) λ pick l1 u1 => tk (by decide) λ a la ua => tk (by decide) λ b lb ub => tk (by decide) λ c lc uc => tk (by decide) λ w lw uw => ?_
 obtain ⟨x, hx, e⟩ := atI_ex (xs := [a, b, c]) lw (by simpa using uw)
 refine ⟨x, e, ?_⟩
 have hx2 : 0 <= x /\ x <= 48 := by
   simp only [List.mem_cons, List.not_mem_nil, or_false] at hx
   rcases hx with rfl | rfl | rfl <;> omega
 have hl : (rng x).length <= 48 := by
   rw [rng_len]
   omega
 have fin : ∀ {f : Int -> (Option Int -> Prop) -> Prop}, (∀ x, ∀ kk : Option Int -> Prop, (∀ y, 0 <= y /\ y <= 999 -> kk (some y)) -> f x kk) -> ((-(2 ^ 62) : Int) <= x /\ x < (2 ^ 62 : Int)) /\ (rng x).length <= 100000 /\ lcD f (rng x) [] P := by
   intro f hs
   refine ⟨by omega, by omega, lcD_all (λ y => 0 <= y /\ y <= 999) (λ z _ kk hk => hs z kk hk) (λ _ h => nomatch h) λ ys hy hy2 => h ys ⟨?_, hy⟩⟩
   rw [hy2]
   simpa using hl
 have eta : (λ acc => P acc) = P := rfl
 split
 · refine fin λ z kk hk => tk (by decide) λ v lv uv => ?_
   obtain ⟨y, hy, e⟩ := atI_ex (xs := [(1 : Int), 7, 2]) lv (by simpa using uv)
   refine ⟨y, e, hk y ?_⟩
   simp only [List.mem_cons, List.not_mem_nil, or_false] at hy
   rcases hy with rfl | rfl | rfl <;> omega
 · split
   · exact fin λ z kk hk => tk (by decide) λ v lv uv => ⟨cmul (by omega) (by omega), hk _ (by omega)⟩
   · split
     · exact fin λ z kk hk => tk (by decide) λ v lv uv => ⟨cmul (by omega) (by omega), hk _ (by omega)⟩
     · split
       · refine fin λ z kk hk => tk (by decide) λ v lv uv => ?_
         obtain ⟨y, hy, e⟩ := atI_ex (xs := [(0 : Int), 999]) lv (by simpa using uv)
         refine ⟨y, e, hk y ?_⟩
         simp only [List.mem_cons, List.not_mem_nil, or_false] at hy
         rcases hy with rfl | rfl <;> omega
       · exact fin λ z kk hk => tk (by decide) λ v lv uv => hk _ (by omega)
theorem names_ok {k : Int} (hk0 : 0 <= k /\ k <= 12) {P : List Str -> Prop} (h : ∀ ns : List Str, ns.length = k.toNat -> (∀ s ∈ ns, GN s) -> P ns) : p_l_names k P := by
 unfold p_l_names
 refine tk (by decide) λ pick l1 u1 => tk (by decide) λ turn l2 u2 => tk (by decide) λ sz l3 u3 => tk (by omega) λ at_ l4 u4 => ?_
 have hz : (rng (1 + sz)).length = (1 + sz).toNat := rng_len _
 refine ⟨by omega, by omega, lcD_all G1 (λ x _ kk hk => tk (by decide) λ v lv uv => ?_) (λ _ h => nomatch h) λ base hb hl => ?_⟩
 · obtain ⟨c, e, g⟩ := letter_at lv uv
   exact ⟨c, e, hk c g⟩
 have hbl : base.length = (1 + sz).toNat := by rw [hl, hz]; simp
 split
 · refine ⟨by decide, by decide, h _ ?_ ?_⟩
   · rw [cut_lo (by omega), cut_hi hk0.1, List.length_take, List.length_drop]
     show min k.toNat (24 - (turn % 12).toNat) = k.toNat
     have : turn % 12 < 12 := by omega
     have : 0 <= turn % 12 := by omega
     omega
   · intro s hs
     rw [cut_lo (by omega), cut_hi hk0.1] at hs
     have hs2 := List.mem_of_mem_drop (List.mem_of_mem_take hs)
     rcases List.mem_append.mp hs2 with z | z
     · exact words_ok s z
     · exact words_ok s z
 · refine ⟨by omega, by rw [rng_len]; omega, lcD_all GN (λ x hx kk hk => ?_) (λ _ h => nomatch h) λ ys hy hyl => h ys ?_ hy⟩
   · obtain ⟨c, e, g⟩ := letter_at (i := (turn + x) % 26) (by omega) (by omega)
     have e1 : cutL base none (some at_) = base.take at_.toNat := cut_hi l4
     have e2 : cutL base (some (at_ + 1)) none = base.drop (at_ + 1).toNat := cut_lo (by omega)
     have gl : (cat (cat (cutL base none (some at_)) [c]) (cutL base (some (at_ + 1)) none)).length = base.length := by
       rw [e1, e2]
       show ((base.take at_.toNat ++ [c]) ++ base.drop (at_ + 1).toNat).length = _
       rw [List.length_append, List.length_append, List.length_take, List.length_drop]
       simp
       omega
     have ga : ∀ y ∈ cat (cat (cutL base none (some at_)) [c]) (cutL base (some (at_ + 1)) none), G1 y := by
       rw [e1, e2]
       intro y hy
       rcases List.mem_append.mp hy with hy | hy
       · rcases List.mem_append.mp hy with hy | hy
         · exact hb y (List.mem_of_mem_take hy)
         · rw [show y = c by simpa using hy]
           exact g
       · exact hb y (List.mem_of_mem_drop hy)
     have gj : GN (Txt.join ("" : Str) (cat (cat (cutL base none (some at_)) [c]) (cutL base (some (at_ + 1)) none))) := join_GN ga (by rw [gl]; omega) (by rw [gl]; omega)
     have sm : ∀ l : List Str, (∀ y ∈ l, G1 y) -> (l.map (·.length)).sum = l.length := by
       intro l hl
       induction l with
       | nil => rfl
       | cons y r ih =>
         obtain ⟨n, rfl, _⟩ := hl y List.mem_cons_self
         rw [List.map_cons, List.sum_cons, ih λ z hz => hl z (List.mem_cons_of_mem _ hz), List.length_cons]
         show 1 + _ = _
         omega
     refine ⟨by decide, c, e, ?_, ?_, ?_, hk _ gj⟩
     · rw [e1, List.length_take]
       simp
       omega
     · have := gl
       unfold cat at this ⊢
       rw [List.length_append] at this
       omega
     · rw [sm _ ga, gl]
       show base.length + base.length * 0 <= _
       omega
   · rw [hyl, rng_len]
     simp
def ltrs (c : Nat) : Bool := decide (97 <= c) && decide (c <= 122)
def nameB : PyData -> Bool
 | .str s => (decide (1 <= s.length) && decide (s.length <= 8)) && s.cps.toList.all ltrs
 | _ => false
theorem inSt_l (c : Nat) : inSt ⟨#[c]⟩ ("abcdefghijklmnopqrstuvwxyz" : Str) = some (ltrs c) := by
 show some (decide (c ∈ ("abcdefghijklmnopqrstuvwxyz" : Str).cps.toList)) = some (ltrs c)
 congr 1
 unfold ltrs
 by_cases h : 97 <= c /\ c <= 122
 · rw [decide_eq_true (letters_mem h), decide_eq_true h.1, decide_eq_true h.2]
   rfl
 · have all : (("abcdefghijklmnopqrstuvwxyz" : Str).cps.toList.all λ x => decide (97 <= x) && decide (x <= 122)) = true := by decide +kernel
   have n : ¬ c ∈ ("abcdefghijklmnopqrstuvwxyz" : Str).cps.toList := λ z => h (by simpa using List.all_eq_true.mp all c z)
   rw [decide_eq_false n]
   cases e : (decide (97 <= c) && decide (c <= 122)) with
   | false => rfl
   | true => exact absurd (by simpa using e) h
theorem name_go {P : Bool -> Prop} : ∀ {cs : List Nat}, P (cs.all ltrs) -> forD (λ (x30 : Str) (s27 : Unit) (k28 : (Unit) -> Prop) => ∃ c34, inSt x30 ("abcdefghijklmnopqrstuvwxyz" : Str) = some c34 /\ if (!c34) = true then (P false) else (k28 ())) (cs.map λ c => ⟨#[c]⟩) () λ s27 => P true
 | [], h => h
 | c :: cs, h => by
   refine ⟨_, inSt_l c, ?_⟩
   rw [List.all_cons] at h
   cases e : ltrs c with
   | false =>
     rw [e] at h
     exact h
   | true =>
     rw [e] at h
     exact name_go h
def siz : PyData -> Nat
 | .str s => s.length
 | .list ds => ds.length
 | .tuple ds => ds.length
 | _ => 0
theorem name_a {d : PyData} {P : Bool -> Prop} (w : siz d <= 100000) (h : P (nameB d)) : p_is_name d P := by
 unfold p_is_name
 cases d with
 | str s =>
   have h : P ((decide (1 <= s.length) && decide (s.length <= 8)) && s.cps.toList.all ltrs) := h
   have w : s.length <= 100000 := w
   refine jn_ok (λ b => b = !(decide (1 <= s.length) && decide (s.length <= 8))) (λ kk hk => ?_) λ b hb => ?_
   · refine (if_neg (by rw [show isA "str" (PyData.str s) = true from rfl]; decide)).mpr ?_
     refine jn_ok (λ b => b = (decide (1 <= s.length) && decide (s.length <= 8))) (λ kk2 hk2 => ⟨s, rfl, w, ?_⟩) λ b hb => by subst hb; exact hk _ rfl
     by_cases z : 1 <= s.length
     · rw [if_pos (by simp; omega)]
       exact hk2 _ (by rw [decide_eq_true z, Bool.true_and]; exact decide_eq_decide.mpr (by omega))
     · rw [if_neg (by simp; omega)]
       exact hk2 _ (by rw [decide_eq_false z]; rfl)
   · subst hb
     cases e : (decide (1 <= s.length) && decide (s.length <= 8)) with
     | false =>
       rw [e] at h
       exact h
     | true =>
       rw [e, Bool.true_and] at h
       refine (if_neg (by decide)).mpr ?_
       exact ⟨s, rfl, name_go h⟩
 | _ => exact h
theorem all_id {α : Type} (g : α -> Bool) (xs : List α) : (xs.map g).all id = xs.all g := by
 rw [List.all_map]
 rfl
def kindB : PyData -> Bool
 | .str s => ([("full" : Str), ("step" : Str), ("wide" : Str)]).any λ y => decide (y = s)
 | _ => false
theorem kind_a {d : PyData} {P : Bool -> Prop} (h : P (kindB d)) : p_is_kind d P := by
 unfold p_is_kind jn
 cases d with
 | str s => exact ⟨s, rfl, h⟩
 | _ => exact h
theorem body_a {d : PyData} {P : Bool -> Prop} (h : P (signsA d 0 16)) : p_is_body d P := by
 unfold p_is_body
 exact signs_a h
theorem piece_a {d : PyData} {P : Bool -> Prop} (h : P (signsA d 1 16)) : p_is_piece d P := by
 unfold p_is_piece
 exact signs_a h
theorem content_a {d : PyData} {P : Bool -> Prop} (h : P (signsA d 0 48)) : p_is_content d P := by
 unfold p_is_content
 exact signs_a h
theorem blocks_a {d : PyData} {P : Bool -> Prop} (h : P (rngA d 0 60)) : p_is_blocks d P := by
 unfold p_is_blocks
 exact jn_self (rng_shape h)
noncomputable def sealB (d : PyData) : Bool := @decide (∃ ns, Sg ns /\ d = eI (sealN ns)) (Classical.propDecidable _)
theorem sealB_yes {ns : List Int} (g : Sg ns) : sealB (eI (sealN ns)) = true := @decide_eq_true _ (Classical.propDecidable _) ⟨ns, g, rfl⟩
theorem sealB_no {d : PyData} (h : ∀ ns, Sg ns -> d ≠ eI (sealN ns)) : sealB d = false := @decide_eq_false _ (Classical.propDecidable _) λ ⟨ns, g, e⟩ => h ns g e
theorem seal_a {d : PyData} {P : Bool -> Prop} (h : P (sealB d)) : p_is_seal d P := by
 refine is_seal_a (λ ns g e => ?_) λ hn => ?_
 · subst e
   rwa [sealB_yes g] at h
 · rwa [sealB_no hn] at h
theorem seal_le {ns : List Int} (g : Sg ns) : 1 <= sealN ns /\ sealN ns <= 1016120561824376019452881448012369820560120016001 := by
 have hb := sealN_bd g.2.2
 have h2 : (1001 : Int) ^ ns.length <= 1001 ^ 16 := by
   have := Nat.pow_le_pow_right (n := 1001) (by decide) g.2.1
   exact_mod_cast this
 have h3 : (1001 : Int) ^ 16 <= 1016120561824376019452881448012369820560120016001 := by decide +kernel
 have hp : 1 <= sealN ns := by
   match ns, g with
   | [], g => exact absurd g.1 (by simp)
   | n :: r, g => exact sealN_pos g.2.2
 omega
noncomputable def fineB (k : Str) (d : PyData) : Bool :=
 if k = "name" then nameB d else if k = "content" then signsA d 0 48 else if k = "time" then rngA d 0 1000000 else if k = "kind" then kindB d else if k = "seal" then sealB d else if k = "body" then signsA d 0 16 else if k = "signs" then signsA d 1 16 else rngA d 0 60
noncomputable def mt91 (w : Str) (ts : List PyData) : Bool := match lk gd_MADE_OF w with
 | some ks => decide (ks.length = ts.length) && (ks.zip ts).all λ q => fineB q.1 q.2
 | none => false
noncomputable def deedB : PyData -> Bool
 | .tuple (.str w :: ts) => mt91 w ts
 | _ => false
def hd91 : List PyData -> Bool
 | .str _ :: _ => false
 | _ => true
def Kn (k : Str) : Prop := k ∈ (["name", "content", "time", "kind", "seal", "body", "signs", "blocks"] : List Str)
theorem kn_all : ∀ q ∈ gd_MADE_OF, ∀ k ∈ q.2, Kn k := by
 have : (gd_MADE_OF.all λ q => q.2.all λ k => (["name", "content", "time", "kind", "seal", "body", "signs", "blocks"] : List Str).contains k) = true := by decide +kernel
 intro q hq k hk
 have := List.all_eq_true.mp (List.all_eq_true.mp this q hq) k hk
 simpa [Kn] using this
theorem look_a {k : Str} {d : PyData} {P : Bool -> Prop} (hk : Kn k) (w : siz d <= 100000) (h : P (fineB k d)) : ∃ n, lk gd_LOOKS k = some n /\ p_fn_LOOKS n d P := by
 unfold Kn at hk
 simp only [List.mem_cons, List.not_mem_nil, or_false] at hk
 rcases hk with rfl | rfl | rfl | rfl | rfl | rfl | rfl | rfl
 · exact ⟨"is_name", by decide, by unfold p_fn_LOOKS; rw [if_pos rfl]; exact name_a w h⟩
 · exact ⟨"is_content", by decide, by unfold p_fn_LOOKS; rw [if_neg (by decide), if_pos rfl]; exact content_a h⟩
 · exact ⟨"is_time", by decide, by unfold p_fn_LOOKS; rw [if_neg (by decide), if_neg (by decide), if_pos rfl]; exact time_a h⟩
 · exact ⟨"is_kind", by decide, by unfold p_fn_LOOKS; rw [if_neg (by decide), if_neg (by decide), if_neg (by decide), if_pos rfl]; exact kind_a h⟩
 · exact ⟨"is_seal", by decide, by unfold p_fn_LOOKS; rw [if_neg (by decide), if_neg (by decide), if_neg (by decide), if_neg (by decide), if_pos rfl]; exact seal_a h⟩
 · exact ⟨"is_body", by decide, by unfold p_fn_LOOKS; rw [if_neg (by decide), if_neg (by decide), if_neg (by decide), if_neg (by decide), if_neg (by decide), if_pos rfl]; exact body_a h⟩
 · exact ⟨"is_piece", by decide, by unfold p_fn_LOOKS; rw [if_neg (by decide), if_neg (by decide), if_neg (by decide), if_neg (by decide), if_neg (by decide), if_neg (by decide), if_pos rfl]; exact piece_a h⟩
 · exact ⟨"is_blocks", by decide, by unfold p_fn_LOOKS; rw [if_neg (by decide), if_neg (by decide), if_neg (by decide), if_neg (by decide), if_neg (by decide), if_neg (by decide), if_neg (by decide), if_pos rfl]; exact blocks_a h⟩
def Wid (d : PyData) : Prop := siz d <= 100000 /\ ∀ ts, d = .tuple ts -> ∀ t ∈ ts, siz t <= 100000
theorem deed_go {P : Bool -> Prop} : ∀ {ks : List Str} {ts : List PyData}, (∀ k ∈ ks, Kn k) -> (∀ t ∈ ts, siz t <= 100000) -> P ((ks.zip ts).all λ q => fineB q.1 q.2) ->
   forD (λ (x93 : (Str × PyData)) (s90 : Unit) (k91 : (Unit) -> Prop) => ∃ n106, lk gd_LOOKS x93.1 = some n106 /\ p_fn_LOOKS n106 x93.2 λ x111 => if (!x111) = true then (P false) else (k91 ())) (ks.zip ts) () λ s90 => P true
 | [], _, _, _, h => h
 | _ :: _, [], _, _, h => h
 | k :: ks, t :: ts, hk, ht, h => by
   obtain ⟨n, e, hn⟩ := look_a (P := λ x111 => if (!x111) = true then (P false) else forD (λ (x93 : (Str × PyData)) (s90 : Unit) (k91 : (Unit) -> Prop) => ∃ n106, lk gd_LOOKS x93.1 = some n106 /\ p_fn_LOOKS n106 x93.2 λ x111 => if (!x111) = true then (P false) else (k91 ())) (ks.zip ts) () λ s90 => P true) (hk k List.mem_cons_self) (ht t List.mem_cons_self) (by
     rw [List.zip_cons_cons, List.all_cons] at h
     cases z : fineB k t with
     | false =>
       rw [z] at h
       exact h
     | true =>
       rw [z] at h
       exact deed_go (λ k hk' => hk k (List.mem_cons_of_mem _ hk')) (λ t ht' => ht t (List.mem_cons_of_mem _ ht')) h)
   exact ⟨n, e, hn⟩
theorem atI_zero {a : PyData} {r : List PyData} : atI (a :: r) 0 = some a := atI_int (by decide) rfl
theorem isd_a {d : PyData} {P : Bool -> Prop} (w : Wid d) (h : P (deedB d)) : p_is_deed d P := by
 unfold p_is_deed
 cases d with
 | tuple ds =>
   have w2 := w.2 ds rfl
   refine jn_ok (λ c => c = hd91 ds) (λ kk hk => ?_) λ c hc => ?_
   · refine (if_neg (by rw [show isA "tuple" (PyData.tuple ds) = true from rfl]; decide)).mpr ?_
     refine jn_ok (λ c => c = hd91 ds) (λ k1 hk1 => ⟨ds, by unfold eV; rw [map_eA], ?_⟩) λ c hc => by subst hc; exact hk _ rfl
     cases ds with
     | nil => exact hk1 _ rfl
     | cons a r =>
       refine (if_neg (by simp)).mpr ⟨a, atI_zero, ?_⟩
       cases a with
       | str s => exact hk1 _ rfl
       | _ => exact hk1 _ rfl
   · subst hc
     cases ds with
     | nil => exact h
     | cons a r =>
       cases a with
       | str s =>
         refine (if_neg (by simp [hd91])).mpr ⟨_, by unfold eV; rw [map_eA], _, _, rfl, s, rfl, ?_⟩
         have h : P (mt91 s r) := h
         unfold mt91 at h
         cases e : lk gd_MADE_OF s with
         | none =>
           rw [e] at h
           refine jn_ok (λ c => c = true) (λ k1 hk1 => ?_) λ c hc => by subst hc; exact h
           rw [if_pos (by rfl)]
           exact hk1 _ rfl
         | some ks =>
           rw [e] at h
           refine jn_ok (λ c => c = !decide (ks.length = r.length)) (λ k1 hk1 => ?_) λ c hc => ?_
           · rw [if_neg (by simp)]
             exact ⟨ks, rfl, hk1 _ (congrArg (λ b => !b) (decide_eq_decide.mpr (by omega)))⟩
           · subst hc
             dsimp only at h
             cases z : decide (ks.length = r.length) with
             | false =>
               rw [z] at h
               exact h
             | true =>
               rw [z, Bool.true_and] at h
               refine (if_neg (by decide)).mpr ⟨ks, rfl, ?_⟩
               exact deed_go (λ k hk => kn_all _ (lk_mem e) k hk) (λ t ht => w2 t (List.mem_cons_of_mem _ ht)) h
       | _ => exact h
 | _ => exact h
def wds91 : List Str := cat ([("write" : Str), ("write" : Str), ("drop" : Str), ("move" : Str), ("begin" : Str), ("step" : Str), ("step" : Str), ("close" : Str), ("give_up" : Str), ("take" : Str), ("take" : Str), ("forget" : Str)]) ([("merge" : Str), ("hold" : Str), ("release" : Str), ("harm" : Str), ("lose" : Str), ("heal" : Str), ("prune" : Str), ("put_back" : Str)])
theorem words_a {P : List Str -> Prop} (h : P wds91) : p_l_words P := ⟨by decide, h⟩
theorem Shn.txt {s : Str} {n : Nat} (h : ∀ c ∈ s.cps.toList, c < 1000) (hl : s.length <= n) (hn : n <= 30) : Shn 0 400 (.str s) := by
 refine ⟨?_, rfl, by simp [PyData.depth], ?_⟩
 · show SeqAt.shaped (.str s) = true
   unfold SeqAt.shaped
   rw [Bool.and_eq_true]
   refine ⟨?_, by simp [PyData.depth]⟩
   simp only [PyData.canLay0, PyData.strOk]
   rw [Array.all_eq_true']
   intro c hc
   have := h c (by simpa using hc)
   exact decide_eq_true (by omega)
 · have hx : ∀ c ∈ s.cps.toList, c < 16 ^ 8 := λ c hc => by
     have := h c hc
     omega
   have e := PySem.StrLaws.reprText_len s hx
   simp only [PyData.shown]
   omega
theorem app_cps (a b : Str) : (a ++ b).cps.toList = a.cps.toList ++ b.cps.toList := Array.toList_append
theorem repL_mem {α : Type} {xs : List α} {n : Int} {x : α} (h : x ∈ repL xs n) : x ∈ xs := by
 unfold repL at h
 obtain ⟨l, hl, hx⟩ := List.mem_flatten.mp h
 rwa [List.eq_of_mem_replicate hl] at hx
inductive Part : PyData -> Prop
 | int {n : Int} (h : n.natAbs < 10 ^ 60) : Part (.int n)
 | str {s : Str} (h : GN s) : Part (.str s)
 | lst {ns : List Int} (h : GC ns) : Part (eL eI ns)
structure Oth (x : PyData) : Prop where
 sh : Shn 2 12000 x
 sz : siz x <= 1000
theorem Part.oth {d : PyData} (p : Part d) : Oth d := by
 cases p with
 | int h => exact ⟨(Shn.int 60 (by decide) (by decide) h).up (by decide) (by decide), Nat.zero_le _⟩
 | @str s h => exact ⟨h.shn.up (by decide) (by decide), show s.length <= 1000 by have := h.2.1; omega⟩
 | @lst ns h =>
   refine ⟨(Shn.listE (dp := 0) (s := 61) (n := 48) (λ x hx => Shn.int 60 (by decide) (by decide) ?_) h.1).up (by decide) (by decide), ?_⟩
   · have := h.2 x hx
     exact Nat.lt_of_lt_of_le (show x.natAbs < 1000 by omega) (by decide +kernel)
   · show (ns.map eI).length <= 1000
     rw [List.length_map]
     have := h.1
     omega
structure Tiny (x : PyData) : Prop where
 sh : Shn 1 100 x
theorem Oth.lst {ds : List PyData} (hl : ds.length <= 110) (h : ∀ x ∈ ds, Tiny x) : Oth (eL eA ds) := by
 refine ⟨(Shn.listE (e := eA) (λ x hx => (h x hx).sh) hl).up (by decide) (by decide), ?_⟩
 show (ds.map eA).length <= 1000
 rw [List.length_map]
 omega
theorem Tiny.int {n : Int} (h : n.natAbs < 10 ^ 60) : Tiny (eI n) := ⟨(Shn.int 60 (by decide) (by decide) h).up (by decide) (by decide)⟩
theorem any_a {xs : List PyData} {P : PyData -> Prop} (h0 : xs ≠ []) (hl : xs.length < 2 ^ 62) (h : ∀ x ∈ xs, P x) : p_l_any xs P := by
 unfold p_l_any
 have := List.length_pos_iff.mpr h0
 refine tk ⟨by omega, by omega⟩ λ i i0 i1 => ?_
 obtain ⟨x, hx, e⟩ := atI_ex i0 i1
 exact ⟨x, e, h x hx⟩
structure Deed (w : Str) (ts : List PyData) : Prop where
 ok : mt91 w ts = true
 wd : wdb w = true
 pt : ∀ t ∈ ts, Part t
 ln : ts.length <= 4
theorem wd_sz {w : Str} (h : wdb w = true) : w.length <= 16 := by
 simp only [wdb, Bool.and_eq_true, decide_eq_true_eq] at h
 exact h.2.2.2
structure Thg (d : PyData) : Prop where
 sh : Shn 5 300000 d
 wi : Wid d
theorem Thg.tup {ds : List PyData} (hl : ds.length <= 12) (h : ∀ d ∈ ds, Shn 4 20000 d /\ siz d <= 1000) : Thg (.tuple ds) := by
 refine ⟨(Shn.tup (ShnA.all λ d hd => (h d hd).1)).up (by decide) (by omega), ?_, λ ts e t ht => ?_⟩
 · show ds.length <= 100000
   omega
 · injection e with e
   subst e
   exact Nat.le_trans (h t ht).2 (by decide)
theorem Oth.in_ {d : PyData} (h : Oth d) : Shn 4 20000 d /\ siz d <= 1000 := ⟨h.sh.up (by decide) (by decide), h.sz⟩
theorem Deed.el {w : Str} {ts : List PyData} (g : Deed w ts) : ∀ d ∈ PyData.str w :: ts, Oth d := λ d hd => by
 rcases List.mem_cons.mp hd with rfl | hd
 · exact ⟨(Shn.wd g.wd).up (by decide) (by decide), by have := wd_sz g.wd; show w.length <= 1000; omega⟩
 · exact (g.pt d hd).oth
theorem Deed.thg {w : Str} {ts : List PyData} (g : Deed w ts) : Thg (.tuple (.str w :: ts)) := .tup (by rw [List.length_cons]; have := g.ln; omega) λ d hd => (g.el d hd).in_
theorem eV_A (ds : List PyData) : (eV eA) ds = .tuple ds := by unfold eV; rw [map_eA]
theorem eL_A (ds : List PyData) : (eL eA) ds = .list ds := by unfold eL; rw [map_eA]
theorem lseal_of_ok {ns : List Int} {P : Int -> Prop} (g : ∀ n ∈ ns, 0 <= n /\ n <= 999) (hl : ns.length <= 16) (h : P (sealN ns)) : p_l_seal_of ns P := by
 unfold p_l_seal_of
 have go : ∀ (xs : List Int) (s : Int) (k : Int -> Prop), k (xs.foldl (λ acc x => acc * 1001 + x + 1) s) -> forD (λ (x8 : Int) (s5 : Int) (k6 : (Int) -> Prop) => (CMul s5 1001 \/ CMulW s5 1001) /\ k6 (((s5 * 1001) + x8) + 1)) xs s k := by
   intro xs
   induction xs with
   | nil => exact λ s k hk => hk
   | cons x xs ih => exact λ s k hk => ⟨.inl (.inr ⟨by decide, by decide⟩), ih _ _ hk⟩
 refine go _ _ _ ?_
 rw [List.foldl_reverse]
 exact h
theorem lsigns91_ok {k : Int} {P : List Int -> Prop} (hk : k = 0 \/ k = 1) (h : ∀ ns : List Int, k <= ns.length -> ns.length <= 16 -> (∀ n ∈ ns, 0 <= n /\ n <= 999) -> P ns) : p_l_signs k P := by
 unfold p_l_signs
 refine tk (by omega) λ n n0 n1 => ⟨by omega, by rw [rng_len]; omega, ?_⟩
 refine lcD_all (λ x : Int => 0 <= x /\ x <= 999) (λ x _ kk hkk => tk (by decide) λ v v0 v1 => any_a (by simp) (show 5 < 2 ^ 62 by decide) λ y hy => ?_) (λ _ h => nomatch h) λ ys hys hl => ?_
 · simp only [List.mem_cons, List.not_mem_nil, or_false] at hy
   rcases hy with rfl | rfl | rfl | rfl | rfl
   · exact ⟨_, rfl, hkk _ (by decide)⟩
   · exact ⟨_, rfl, hkk _ (by decide)⟩
   · exact ⟨_, rfl, hkk _ (by decide)⟩
   · exact ⟨_, rfl, hkk _ (by decide)⟩
   · exact ⟨_, rfl, hkk _ (by omega)⟩
 · rw [rng_len] at hl
   simp only [List.length_nil] at hl
   exact h ys (by omega) (by omega) hys
def TmI (t : Int) : Prop := 0 <= t /\ t <= 1000000
theorem nameB_of {s : Str} (g : GN s) : nameB (.str s) = true := by
 show ((decide (1 <= s.length) && decide (s.length <= 8)) && s.cps.toList.all ltrs) = true
 rw [decide_eq_true g.1, decide_eq_true g.2.1, Bool.true_and, Bool.true_and, List.all_eq_true]
 intro c hc
 have := g.2.2 c hc
 simp [ltrs, this.1, this.2]
theorem content_of {ns : List Int} (g : GC ns) : signsA (eL eI ns) 0 48 = true := signsA_ok (by omega) (by have := g.1; omega) g.2
theorem TmI.b {t : Int} (g : TmI t) : rngA (.int t) 0 1000000 = true := rngA_ok g.1 g.2
theorem TmI.part {t : Int} (g : TmI t) : Part (.int t) := .int (Nat.lt_of_lt_of_le (show t.natAbs < 10 ^ 7 by obtain ⟨a, b⟩ := g; omega) (by decide +kernel))
theorem seal_part {ns : List Int} (g : Sg ns) : Part (eI (sealN ns)) := .int (Nat.lt_of_lt_of_le (seal_big g) (by decide +kernel))
def kn91 : List Str := [("full" : Str), ("step" : Str), ("step" : Str), ("wide" : Str)]
theorem kn91_ok : ∀ s ∈ kn91, kindB (.str s) = true /\ GN s := by
 intro s hs
 simp only [kn91, List.mem_cons, List.not_mem_nil, or_false] at hs
 rcases hs with rfl | rfl | rfl | rfl
 all_goals exact ⟨by decide +kernel, GNb_ok (by decide +kernel)⟩
theorem deed1 {w : Str} {k : Str} {t : PyData} (e : lk gd_MADE_OF w = some [k]) (hw : wdb w = true) (h : fineB k t = true) (p : Part t) : Deed w [t] := by
 refine ⟨?_, hw, λ x hx => ?_, by show 1 <= 4; decide⟩
 · unfold mt91
   rw [e]
   simp [h]
 · rcases List.mem_singleton.mp hx with rfl
   exact p
theorem deed2 {w : Str} {k l : Str} {t u : PyData} (e : lk gd_MADE_OF w = some [k, l]) (hw : wdb w = true) (h : fineB k t = true) (h2 : fineB l u = true) (p : Part t) (p2 : Part u) : Deed w [t, u] := by
 refine ⟨?_, hw, λ x hx => ?_, by show 2 <= 4; decide⟩
 · unfold mt91
   rw [e]
   simp [h, h2]
 · simp only [List.mem_cons, List.not_mem_nil, or_false] at hx
   rcases hx with rfl | rfl
   · exact p
   · exact p2
theorem fName {d : PyData} (h : nameB d = true) : fineB "name" d = true := by unfold fineB; rw [if_pos rfl]; exact h
theorem fContent {d : PyData} (h : signsA d 0 48 = true) : fineB "content" d = true := by unfold fineB; rw [if_neg (by decide), if_pos rfl]; exact h
theorem fTime {d : PyData} (h : rngA d 0 1000000 = true) : fineB "time" d = true := by unfold fineB; rw [if_neg (by decide), if_neg (by decide), if_pos rfl]; exact h
theorem fKind {d : PyData} (h : kindB d = true) : fineB "kind" d = true := by unfold fineB; rw [if_neg (by decide), if_neg (by decide), if_neg (by decide), if_pos rfl]; exact h
theorem fSeal {d : PyData} (h : sealB d = true) : fineB "seal" d = true := by unfold fineB; rw [if_neg (by decide), if_neg (by decide), if_neg (by decide), if_neg (by decide), if_pos rfl]; exact h
theorem fBody {d : PyData} (h : signsA d 0 16 = true) : fineB "body" d = true := by unfold fineB; rw [if_neg (by decide), if_neg (by decide), if_neg (by decide), if_neg (by decide), if_neg (by decide), if_pos rfl]; exact h
theorem fSigns {d : PyData} (h : signsA d 1 16 = true) : fineB "signs" d = true := by unfold fineB; rw [if_neg (by decide), if_neg (by decide), if_neg (by decide), if_neg (by decide), if_neg (by decide), if_neg (by decide), if_pos rfl]; exact h
theorem fBlocks {d : PyData} (h : rngA d 0 60 = true) : fineB "blocks" d = true := by unfold fineB; rw [if_neg (by decide), if_neg (by decide), if_neg (by decide), if_neg (by decide), if_neg (by decide), if_neg (by decide), if_neg (by decide)]; exact h
theorem anyN {ns : List Str} {P : PyData -> Prop} (h0 : ns ≠ []) (hl : ns.length <= 20) (h : ∀ s ∈ ns, P (.str s)) : p_l_any (ns.map eS) P :=
 any_a (by simp [h0]) (by rw [List.length_map]; omega) λ x hx => by
   obtain ⟨s, hs, rfl⟩ := List.mem_map.mp hx
   exact h s hs
theorem anyI {ns : List Int} {P : PyData -> Prop} (h0 : ns ≠ []) (hl : ns.length <= 20) (h : ∀ s ∈ ns, P (.int s)) : p_l_any (ns.map eI) P :=
 any_a (by simp [h0]) (by rw [List.length_map]; omega) λ x hx => by
   obtain ⟨s, hs, rfl⟩ := List.mem_map.mp hx
   exact h s hs
theorem body91 {ns : List Int} (b1 : ns.length <= 16) (g : ∀ n ∈ ns, 0 <= n /\ n <= 999) : signsA (eL eI ns) 0 16 = true /\ Part (eL eI ns) := ⟨signsA_ok (by omega) (by omega) g, .lst ⟨by omega, g⟩⟩
theorem sign91 {ns : List Int} (b0 : (1 : Int) <= ns.length) (b1 : ns.length <= 16) (g : ∀ n ∈ ns, 0 <= n /\ n <= 999) : signsA (eL eI ns) 1 16 = true := signsA_ok b0 (by omega) g
theorem shaped_ok {ns : List Str} {ts ss : List Int} {P : PyData -> Prop} (n0 : ns ≠ []) (nl : ns.length <= 20) (hn : ∀ s ∈ ns, GN s) (t0 : ts ≠ []) (tl : ts.length <= 20) (ht : ∀ t ∈ ts, TmI t) (s0 : ss ≠ []) (sl : ss.length <= 20) (hs : ∀ s ∈ ss, ∃ ms, Sg ms /\ s = sealN ms)
   (h : ∀ w us, Deed w us -> P (.tuple (.str w :: us))) : p_l_shaped ns ts ss P := by
 unfold p_l_shaped
 refine words_a (any_a (by decide) (by decide) λ x hx => any_a (by simp) (show 4 < 2 ^ 62 by decide) λ y hy => ?_)
 have hy2 : ∃ s ∈ kn91, y = .str s := by
   simp only [List.mem_cons, List.not_mem_nil, or_false] at hy
   rcases hy with rfl | rfl | rfl | rfl
   · exact ⟨"full", by decide, rfl⟩
   · exact ⟨"step", by decide, rfl⟩
   · exact ⟨"step", by decide, rfl⟩
   · exact ⟨"wide", by decide, rfl⟩
 obtain ⟨sy, hsy, rfl⟩ := hy2
 obtain ⟨ky, gy⟩ := kn91_ok sy hsy
 obtain ⟨w, hw, rfl⟩ := List.mem_map.mp hx
 refine ⟨w, rfl, ?_⟩
 have lo : ∀ a b : Prop, (p : Prop) -> [Decidable p] -> a -> (if p then a else b) -> True := λ _ _ _ _ _ _ => trivial
 clear lo
 have mem : ∀ x, x ∈ wds91 -> x = "write" \/ x = "drop" \/ x = "move" \/ x = "begin" \/ x = "step" \/ x = "close" \/ x = "give_up" \/ x = "take" \/ x = "forget" \/ x = "merge" \/ x = "hold" \/ x = "release" \/ x = "harm" \/ x = "lose" \/ x = "heal" \/ x = "prune" \/ x = "put_back" := by
   intro x hx
   simp only [wds91, List.mem_append, List.mem_cons, List.not_mem_nil, or_false] at hx
   rcases hx with (h | h | h | h | h | h | h | h | h | h | h | h) | (h | h | h | h | h | h | h | h) <;> simp [h]
 have none_ : ∀ u : Str, lk gd_MADE_OF u = some [] -> wdb u = true -> P ((eV eS) [u]) := λ u e hu => h u [] ⟨by unfold mt91; rw [e]; rfl, hu, (λ _ q => nomatch q), by decide⟩
 rcases mem w hw with rfl | rfl | rfl | rfl | rfl | rfl | rfl | rfl | rfl | rfl | rfl | rfl | rfl | rfl | rfl | rfl | rfl
 · -- write
   rw [if_neg (by decide +kernel), if_pos (by decide +kernel)]
   exact anyN n0 nl λ s hs => content_ok λ ms g => h "write" _ (deed2 (w := "write") (k := "name") (l := "content") (by decide +kernel) (by decide +kernel) (fName (nameB_of (hn s hs))) (fContent (content_of g)) (.str (hn s hs)) (.lst g))
 · rw [if_neg (by decide +kernel), if_neg (by decide +kernel), if_pos (by decide +kernel)]
   exact anyN n0 nl λ s hs => h "drop" _ (deed1 (w := "drop") (k := "name") (by decide +kernel) (by decide +kernel) (fName (nameB_of (hn s hs))) (.str (hn s hs)))
 · rw [if_neg (by decide +kernel), if_neg (by decide +kernel), if_neg (by decide +kernel), if_pos (by decide +kernel)]
   exact anyN n0 nl λ s hs => anyN n0 nl λ s2 hs2 => h "move" _ (deed2 (w := "move") (k := "name") (l := "name") (by decide +kernel) (by decide +kernel) (fName (nameB_of (hn s hs))) (fName (nameB_of (hn s2 hs2))) (.str (hn s hs)) (.str (hn s2 hs2)))
 · rw [if_neg (by decide +kernel), if_neg (by decide +kernel), if_neg (by decide +kernel), if_neg (by decide +kernel), if_pos (by decide +kernel)]
   exact anyI t0 tl λ t hts => h "begin" _ (deed2 (w := "begin") (k := "time") (l := "kind") (by decide +kernel) (by decide +kernel) (fTime (ht t hts).b) (fKind ky) (ht t hts).part (.str gy))
 · rw [if_pos (by decide +kernel)]
   exact none_ _ (by decide +kernel) (by decide +kernel)
 · rw [if_pos (by decide +kernel)]
   exact none_ _ (by decide +kernel) (by decide +kernel)
 · rw [if_pos (by decide +kernel)]
   exact none_ _ (by decide +kernel) (by decide +kernel)
 · rw [if_neg (by decide +kernel), if_neg (by decide +kernel), if_neg (by decide +kernel), if_neg (by decide +kernel), if_pos (by decide +kernel)]
   exact anyI t0 tl λ t hts => h "take" _ (deed2 (w := "take") (k := "time") (l := "kind") (by decide +kernel) (by decide +kernel) (fTime (ht t hts).b) (fKind ky) (ht t hts).part (.str gy))
 · rw [if_neg (by decide +kernel), if_neg (by decide +kernel), if_neg (by decide +kernel), if_neg (by decide +kernel), if_neg (by decide +kernel), if_pos (by decide +kernel)]
   exact anyI t0 tl λ t hts => h "forget" _ (deed1 (w := "forget") (k := "time") (by decide +kernel) (by decide +kernel) (fTime (ht t hts).b) (ht t hts).part)
 · rw [if_neg (by decide +kernel), if_neg (by decide +kernel), if_neg (by decide +kernel), if_neg (by decide +kernel), if_neg (by decide +kernel), if_pos (by decide +kernel)]
   exact anyI t0 tl λ t hts => h "merge" _ (deed1 (w := "merge") (k := "time") (by decide +kernel) (by decide +kernel) (fTime (ht t hts).b) (ht t hts).part)
 · rw [if_neg (by decide +kernel), if_neg (by decide +kernel), if_neg (by decide +kernel), if_neg (by decide +kernel), if_neg (by decide +kernel), if_neg (by decide +kernel), if_pos (by decide +kernel)]
   exact anyI t0 tl λ t hts => anyN n0 nl λ s hs => h "hold" _ (deed2 (w := "hold") (k := "time") (l := "name") (by decide +kernel) (by decide +kernel) (fTime (ht t hts).b) (fName (nameB_of (hn s hs))) (ht t hts).part (.str (hn s hs)))
 · rw [if_neg (by decide +kernel), if_neg (by decide +kernel), if_neg (by decide +kernel), if_neg (by decide +kernel), if_neg (by decide +kernel), if_neg (by decide +kernel), if_pos (by decide +kernel)]
   exact anyI t0 tl λ t hts => anyN n0 nl λ s hs => h "release" _ (deed2 (w := "release") (k := "time") (l := "name") (by decide +kernel) (by decide +kernel) (fTime (ht t hts).b) (fName (nameB_of (hn s hs))) (ht t hts).part (.str (hn s hs)))
 · -- harm
   rw [if_neg (by decide +kernel), if_neg (by decide +kernel), if_neg (by decide +kernel), if_neg (by decide +kernel), if_neg (by decide +kernel), if_neg (by decide +kernel), if_neg (by decide +kernel), if_neg (by decide +kernel), if_neg (by decide +kernel)]
   refine anyI s0 sl λ s hss => ?_
   obtain ⟨ms, gs, rfl⟩ := hs s hss
   rw [if_neg (by decide +kernel)]
   exact lsigns91_ok (.inl rfl) λ bs b0 b1 gb => h "harm" _ (deed2 (w := "harm") (k := "seal") (l := "body") (by decide +kernel) (by decide +kernel) (fSeal (sealB_yes gs)) (fBody (body91 b1 gb).1) (seal_part gs) (body91 b1 gb).2)
 · -- lose
   rw [if_neg (by decide +kernel), if_neg (by decide +kernel), if_neg (by decide +kernel), if_neg (by decide +kernel), if_neg (by decide +kernel), if_neg (by decide +kernel), if_neg (by decide +kernel), if_neg (by decide +kernel), if_pos (by decide +kernel)]
   refine anyI s0 sl λ s hss => ?_
   obtain ⟨ms, gs, rfl⟩ := hs s hss
   exact h "lose" _ (deed1 (w := "lose") (k := "seal") (by decide +kernel) (by decide +kernel) (fSeal (sealB_yes gs)) (seal_part gs))
 · -- heal
   rw [if_neg (by decide +kernel), if_neg (by decide +kernel), if_neg (by decide +kernel), if_neg (by decide +kernel), if_neg (by decide +kernel), if_neg (by decide +kernel), if_neg (by decide +kernel), if_neg (by decide +kernel), if_neg (by decide +kernel)]
   refine anyI s0 sl λ s hss => ?_
   obtain ⟨ms, gs, rfl⟩ := hs s hss
   rw [if_pos (by decide +kernel)]
   exact lsigns91_ok (.inr rfl) λ bs b0 b1 gb => h "heal" _ (deed2 (w := "heal") (k := "seal") (l := "signs") (by decide +kernel) (by decide +kernel) (fSeal (sealB_yes gs)) (fSigns (sign91 b0 b1 gb)) (seal_part gs) (body91 b1 gb).2)
 · -- prune
   rw [if_neg (by decide +kernel), if_neg (by decide +kernel), if_neg (by decide +kernel), if_neg (by decide +kernel), if_neg (by decide +kernel), if_neg (by decide +kernel), if_neg (by decide +kernel), if_pos (by decide +kernel)]
   refine ⟨by decide, by decide, lcD_all (λ x : Int => 0 <= x /\ x <= 60) (λ x _ kk hkk => tk (by decide) λ v v0 v1 => ?_) (λ _ h => nomatch h) λ ys hys hl => ?_⟩
   · obtain ⟨x, hx, e⟩ := atI_ex (xs := ([3, 61] : List Int)) v0 (by simpa using v1)
     have hx2 : 1 <= x /\ x <= 61 := by
       simp only [List.mem_cons, List.not_mem_nil, or_false] at hx
       omega
     exact ⟨x, e, tk ⟨by omega, by omega⟩ λ u u0 u1 => hkk u ⟨u0, by omega⟩⟩
   · rw [rng_len] at hl
     have l4 : ys.length = 4 := by simpa using hl
     refine ⟨by rw [List.length_map, List.length_map, l4]; decide, ?_⟩
     match ys, l4, hys with
     | [a, b, c, d], _, hys =>
       have pr : ∀ x ∈ [a, b, c, d], fineB "blocks" (.int x) = true /\ Part (.int x) := λ x hx => by
         have := hys x hx
         exact ⟨fBlocks (rngA_ok this.1 this.2), .int (Nat.lt_of_lt_of_le (show x.natAbs < 10 ^ 3 by omega) (by decide +kernel))⟩
       refine h "prune" [.int a, .int b, .int c, .int d] ⟨?_, by decide +kernel, λ x hx => ?_, by show 4 <= 4; decide⟩
       · unfold mt91
         rw [show lk gd_MADE_OF "prune" = some (["blocks", "blocks", "blocks", "blocks"] : List Str) by decide +kernel]
         simp [(pr a (by simp)).1, (pr b (by simp)).1, (pr c (by simp)).1, (pr d (by simp)).1]
       · simp only [List.mem_cons, List.not_mem_nil, or_false] at hx
         rcases hx with rfl | rfl | rfl | rfl
         · exact (pr a (by simp)).2
         · exact (pr b (by simp)).2
         · exact (pr c (by simp)).2
         · exact (pr d (by simp)).2
 · rw [if_neg (by decide +kernel), if_neg (by decide +kernel), if_neg (by decide +kernel), if_neg (by decide +kernel), if_neg (by decide +kernel), if_pos (by decide +kernel)]
   exact anyI t0 tl λ t hts => h "put_back" _ (deed1 (w := "put_back") (k := "time") (by decide +kernel) (by decide +kernel) (fTime (ht t hts).b) (ht t hts).part)
def dig (c : Nat) : Bool := decide (48 <= c) && decide (c <= 57)
theorem inSt_is {s : Str} {p : Nat -> Bool} (h1 : (s.cps.toList.all p) = true) (h2 : ∀ c, p c = true -> c ∈ s.cps.toList) (c : Nat) : inSt ⟨#[c]⟩ s = some (p c) := by
 show some (decide (c ∈ s.cps.toList)) = some (p c)
 congr 1
 cases e : p c with
 | false => exact decide_eq_false λ z => by rw [List.all_eq_true.mp h1 c z] at e; cases e
 | true => exact decide_eq_true (h2 c e)
theorem inSt_d (c : Nat) : inSt ⟨#[c]⟩ ("0123456789" : Str) = some (dig c) := inSt_is (by decide +kernel) (λ c hc => by
 simp only [dig, Bool.and_eq_true, decide_eq_true_eq] at hc
 have : c = 48 \/ c = 49 \/ c = 50 \/ c = 51 \/ c = 52 \/ c = 53 \/ c = 54 \/ c = 55 \/ c = 56 \/ c = 57 := by omega
 rcases this with rfl | rfl | rfl | rfl | rfl | rfl | rfl | rfl | rfl | rfl <;> decide +kernel) c
theorem hex16 {c : Nat} (hc : hexC c = true) : c = 48 \/ c = 49 \/ c = 50 \/ c = 51 \/ c = 52 \/ c = 53 \/ c = 54 \/ c = 55 \/ c = 56 \/ c = 57 \/ c = 97 \/ c = 98 \/ c = 99 \/ c = 100 \/ c = 101 \/ c = 102 := by
 simp only [hexC, decide_eq_true_eq] at hc
 omega
theorem inSt_h (c : Nat) : inSt ⟨#[c]⟩ ("0123456789abcdef" : Str) = some (hexC c) := inSt_is (by decide +kernel) (λ c hc => by
 rcases hex16 hc with rfl | rfl | rfl | rfl | rfl | rfl | rfl | rfl | rfl | rfl | rfl | rfl | rfl | rfl | rfl | rfl <;> decide +kernel) c
theorem len_cps (s : Str) : s.length = s.cps.toList.length := Array.length_toList.symm
theorem strL_len (s : Str) : (strL s).length = s.length := by
 unfold strL
 rw [List.length_map, len_cps]
theorem allsT {p : Nat -> Bool} {z : Str} (hz : ∀ c, inSt ⟨#[c]⟩ z = some (p c)) {s : Str} {k : List Bool -> Prop} (h : k (s.cps.toList.map p)) :
   lcD (λ (x36 : Str) (k43 : Option Bool -> Prop) => ∃ c44, inSt x36 z = some c44 /\ k43 (some c44)) (strL s) [] k := by
 unfold strL
 refine lcD_map (λ x : Str => x.cps.toList.all p) (λ x hx kk hk => ?_) ?_
 · obtain ⟨c, _, rfl⟩ := List.mem_map.mp hx
   exact ⟨_, hz c, by simpa using hk⟩
 · rw [List.nil_append, List.map_map]
   refine Eq.mp (congrArg k ?_) h
   refine List.map_congr_left λ c _ => ?_
   simp
theorem atS_zero {s : Str} (h : 1 <= s.length) (hl : s.length <= 100000) : ∃ c r, s.cps.toList = c :: r /\ atS s 0 = some ⟨#[c]⟩ := by
 rw [len_cps] at h
 cases e : s.cps.toList with
 | nil => rw [e] at h; cases h
 | cons c r =>
   refine ⟨c, r, rfl, ?_⟩
   unfold atS
   rw [if_pos hl, e, atI_int (by decide) rfl]
   rfl
theorem one_eq (c : Nat) : decide ((⟨#[c]⟩ : Str) = ("0" : Str)) = decide (c = 48) := by
 refine decide_eq_decide.mpr ⟨λ h => ?_, λ h => by subst h; rfl⟩
 have := congrArg (λ s : Str => s.cps.toList) h
 have h2 : ([c] : List Nat) = [48] := this
 injection h2
theorem ext_cps {a b : Str} (h : a.cps.toList = b.cps.toList) : a = b := by
 obtain ⟨⟨l⟩⟩ := a
 obtain ⟨⟨m⟩⟩ := b
 have : l = m := h
 rw [this]
def nzH : List Nat -> Bool
 | c :: r => decide (c = 48) && decide (1 < r.length + 1)
 | [] => true
def wh (s : Str) : Option Int := if ((decide (1 <= s.length) && decide (s.length <= 8)) && (!nzH s.cps.toList && s.cps.toList.all dig)) = true then some ((PySem.NumText.digitsVal s.cps.toList : Nat) : Int) else none
theorem all_dig {cs : List Nat} (h : cs.all dig = true) : PySem.NumText.AllDigits cs := λ c hc => by
 have := List.all_eq_true.mp h c hc
 simpa [dig] using this
theorem intT_dig {s : Str} (h1 : 1 <= s.length) (h2 : s.length <= 4300) (h : s.cps.toList.all dig = true) : intT s = some ((PySem.NumText.digitsVal s.cps.toList : Nat) : Int) := by
 unfold intT
 have hd := all_dig h
 have e : s.cps.all (· < 128) = true := by
   rw [<- Array.all_toList, List.all_eq_true]
   intro c hc
   have := hd c hc
   exact decide_eq_true (by omega)
 rw [if_pos ⟨e, by omega⟩]
 refine PySem.intText_digits hd (λ z => ?_) h2
 rw [len_cps, z] at h1
 cases h1
theorem whole_ok {s : Str} {P : Option Int -> Prop} (w : s.length <= 100000) (h : P (wh s)) : p_whole_of s P := by
 unfold p_whole_of
 refine jn_ok (λ b => b = (!(decide (1 <= s.length) && decide (s.length <= 8)) || nzH s.cps.toList)) (λ kk hk => ?_) λ b hb => ?_
 · refine jn_ok (λ b => b = (decide (1 <= s.length) && decide (s.length <= 8))) (λ k2 hk2 => ⟨w, ?_⟩) λ c hc => ?_
   · by_cases z : 1 <= s.length
     · rw [if_pos (by simp; omega)]
       exact hk2 _ (by rw [decide_eq_true z, Bool.true_and]; exact decide_eq_decide.mpr (by omega))
     · rw [if_neg (by simp; omega)]
       exact hk2 _ (by rw [decide_eq_false z, Bool.false_and])
   · subst hc
     cases e : (decide (1 <= s.length) && decide (s.length <= 8)) with
     | false => exact (if_pos rfl).mpr (hk _ (by rw [e]; rfl))
     | true =>
       refine (if_neg (by decide)).mpr ?_
       simp only [Bool.and_eq_true, decide_eq_true_eq] at e
       obtain ⟨c, r, el, ea⟩ := atS_zero e.1 w
       have hl : s.length = r.length + 1 := by rw [len_cps, el]; rfl
       refine jn_ok (λ b => b = nzH s.cps.toList) (λ k3 hk3 => ⟨_, ea, ?_⟩) λ b hb => by
         subst hb
         exact hk _ (by rw [decide_eq_true e.1, decide_eq_true e.2]; rfl)
       rw [one_eq]
       by_cases z : c = 48
       · rw [if_pos (decide_eq_true z)]
         exact ⟨w, hk3 _ (by rw [el]; show _ = (decide (c = 48) && decide (1 < r.length + 1)); rw [decide_eq_true z, Bool.true_and]; exact decide_eq_decide.mpr (by omega))⟩
       · rw [if_neg (by simp [z])]
         exact hk3 _ (by rw [el]; show _ = (decide (c = 48) && _); rw [decide_eq_false z, Bool.false_and])
 · subst hb
   cases e : (!(decide (1 <= s.length) && decide (s.length <= 8)) || nzH s.cps.toList) with
   | true =>
     refine (if_pos rfl).mpr ?_
     have : wh s = none := by
       unfold wh
       rw [if_neg ?_]
       intro q
       simp only [Bool.and_eq_true, Bool.not_eq_true', decide_eq_true_eq] at q
       rw [decide_eq_true q.1.1, decide_eq_true q.1.2, q.2.1] at e
       cases e
     rwa [this] at h
   | false =>
     refine (if_neg (by decide)).mpr ⟨by rw [strL_len]; exact w, allsT inSt_d ?_⟩
     rw [all_id]
     simp only [Bool.or_eq_false_iff, Bool.not_eq_false', Bool.and_eq_true, decide_eq_true_eq] at e
     unfold wh at h
     rw [decide_eq_true e.1.1, decide_eq_true e.1.2, e.2] at h
     cases z : s.cps.toList.all dig with
     | false =>
       rw [z] at h
       exact h
     | true =>
       rw [z] at h
       refine (if_neg (by decide)).mpr ⟨_, intT_dig e.1.1 (by omega) z, h⟩
def nin (top : Int) (s : Str) : Option Int := match wh s with
 | some n => if n <= top then some n else none
 | none => none
def hx16 : Str := "0123456789abcdef"
def hz : List Nat -> Bool
 | c :: _ => decide (c = 48)
 | [] => true
def sw (s : Str) : Option Int := if ((decide (1 <= s.length) && decide (s.length <= 48)) && (!hz s.cps.toList && s.cps.toList.all hexC)) = true then some ((Hx.hexNum s.cps.toList : Nat) : Int) else none
theorem hexT_ok {s : Str} (h1 : 1 <= s.length) (h2 : s.length <= 640) (h : s.cps.toList.all hexC = true) : hexT s = some ((Hx.hexNum s.cps.toList : Nat) : Int) := by
 unfold hexT
 rw [if_pos ⟨λ z => (by rw [len_cps, z] at h1; cases h1), (by rw [<- len_cps]; exact h2), h⟩]
theorem sealw_ok {s : Str} {P : Option Int -> Prop} (w : s.length <= 100000) (h : P (sw s)) : p_seal_of_word s P := by
 unfold p_seal_of_word
 refine jn_ok (λ b => b = (!(decide (1 <= s.length) && decide (s.length <= 48)) || hz s.cps.toList)) (λ kk hk => ?_) λ b hb => ?_
 · refine jn_ok (λ b => b = (decide (1 <= s.length) && decide (s.length <= 48))) (λ k2 hk2 => ⟨w, ?_⟩) λ c hc => ?_
   · by_cases z : 1 <= s.length
     · rw [if_pos (by simp; omega)]
       exact hk2 _ (by rw [decide_eq_true z, Bool.true_and]; exact decide_eq_decide.mpr (by omega))
     · rw [if_neg (by simp; omega)]
       exact hk2 _ (by rw [decide_eq_false z, Bool.false_and])
   · subst hc
     cases e : (decide (1 <= s.length) && decide (s.length <= 48)) with
     | false => exact (if_pos rfl).mpr (hk _ (by rw [e]; rfl))
     | true =>
       refine (if_neg (by decide)).mpr ?_
       have e' := e
       simp only [Bool.and_eq_true, decide_eq_true_eq] at e'
       obtain ⟨c, r, el, ea⟩ := atS_zero e'.1 w
       refine ⟨_, ea, ?_⟩
       rw [one_eq]
       exact hk _ (by rw [e, el]; rfl)
 · subst hb
   cases e : (!(decide (1 <= s.length) && decide (s.length <= 48)) || hz s.cps.toList) with
   | true =>
     refine (if_pos rfl).mpr ?_
     have : sw s = none := by
       unfold sw
       rw [if_neg ?_]
       intro q
       simp only [Bool.and_eq_true, Bool.not_eq_true', decide_eq_true_eq] at q
       rw [decide_eq_true q.1.1, decide_eq_true q.1.2, q.2.1] at e
       cases e
     rwa [this] at h
   | false =>
     refine (if_neg (by decide)).mpr ⟨by rw [strL_len]; exact w, allsT inSt_h ?_⟩
     rw [all_id]
     simp only [Bool.or_eq_false_iff, Bool.not_eq_false', Bool.and_eq_true, decide_eq_true_eq] at e
     unfold sw at h
     rw [decide_eq_true e.1.1, decide_eq_true e.1.2, e.2] at h
     cases z : s.cps.toList.all hexC with
     | false =>
       rw [z] at h
       exact h
     | true =>
       rw [z] at h
       exact (if_neg (by decide)).mpr ⟨_, hexT_ok e.1.1 (by omega) z, h⟩
theorem join_len (sep : Str) : ∀ (x : Str) (r : List Str), (Str.join sep (x :: r)).length = ((x :: r).map (·.length)).sum + r.length * sep.length
 | x, [] => by
   show x.length = _
   simp
 | x, y :: r => by
   have h := join_len sep y r
   show (x ++ sep ++ Str.join sep (y :: r)).length = _
   rw [Str.length_append, Str.length_append, h]
   simp only [List.map_cons, List.sum_cons, List.length_cons, Nat.succ_mul]
   omega
theorem split_ne (x y : Str) : Txt.split x y ≠ [] := by
 unfold Txt.split
 split
 · simp
 · split
   · simp
   · rw [PySem.StrLaws.partsBetween_eq]
     obtain ⟨p, r, e⟩ := PySem.StrLaws.partsFrom_ne x y.length 0 (PySem.Builtin.Str.occurrences x y 0 x.length (x.length + 1))
     rw [e]
     simp
theorem split_tot (x : Str) {y : Str} (hy : y.length = 1) : ((Txt.split x y).map (·.length)).sum + (Txt.split x y).length = x.length + 1 := by
 have e := PySem.StrLaws.join_split x y
 cases q : Txt.split x y with
 | nil => exact absurd q (split_ne x y)
 | cons a r =>
   rw [q] at e
   have h := join_len y a r
   rw [e, hy] at h
   rw [h, List.length_cons]
   omega
theorem sum_mem {p : Str} : ∀ {l : List Str}, p ∈ l -> p.length <= (l.map (·.length)).sum
 | a :: l, h => by
   rw [List.map_cons, List.sum_cons]
   rcases List.mem_cons.mp h with rfl | h
   · omega
   · have := sum_mem h
     omega
theorem split_el {x y p : Str} (hy : y.length = 1) (h : p ∈ Txt.split x y) : p.length <= x.length := by
 have h1 := split_tot x hy
 have h2 := sum_mem h
 have h3 : 1 <= (Txt.split x y).length := List.length_pos_iff.mpr (split_ne x y)
 omega
def ws (w : Str) : List (Option Int) := if w = ("-" : Str) then [] else (Txt.split w ("," : Str)).map wh
theorem signsw_ok {w : Str} {P : List (Option Int) -> Prop} (wl : w.length <= 90000) (h : P (ws w)) : p_signs_of_word w P := by
 unfold p_signs_of_word
 unfold ws at h
 by_cases z : w = ("-" : Str)
 · rw [if_pos (decide_eq_true z)]
   rwa [if_pos z] at h
 · rw [if_neg (by rw [decide_eq_true_eq]; exact z)]
   rw [if_neg z] at h
   have ht := split_tot w (y := ("," : Str)) rfl
   refine ⟨by omega, by omega, lcD_map wh (λ x hx kk hk => whole_ok ?_ hk) (by simpa using h)⟩
   have := split_el (y := ("," : Str)) rfl hx
   omega
theorem layA {n : Nat} : ∀ {ds : List PyData}, (∀ d ∈ ds, d.canLay0 = true /\ d.depth <= n) -> PyData.canLayAll0 ds = true /\ PyData.depthAll ds <= n
 | [], _ => ⟨rfl, Nat.zero_le _⟩
 | d :: ds, h => by
   have h1 := h d List.mem_cons_self
   have h2 := layA λ x hx => h x (List.mem_cons_of_mem _ hx)
   refine ⟨by simp [PyData.canLayAll0, h1.1, h2.1], ?_⟩
   simp only [PyData.depthAll]
   omega
def thg (k w : Str) : PyData := if k = "seal" then eO eI (sw w) else if k = "content" then (eL (eO eI)) (ws w) else if k = "body" then (eL (eO eI)) (ws w) else if k = "signs" then (eL (eO eI)) (ws w) else if k = "time" then eO eI (wh w) else if k = "blocks" then eO eI (wh w) else eS w
theorem GN.lay {s : Str} (h : GN s) : (PyData.str s).canLay0 = true /\ (PyData.str s).depth <= 1 := ⟨SeqAt.canLay_of_shaped h.shn.ok, by simp [PyData.depth]⟩
theorem Part.lay {d : PyData} (p : Part d) : d.canLay0 = true /\ d.depth <= 1 := by
 cases p with
 | int h => exact ⟨rfl, by simp [PyData.depth]⟩
 | str h => exact h.lay
 | @lst ns h =>
   refine ⟨SeqAt.canLay_of_shaped (shaped_ints' ns), ?_⟩
   simp only [eL, PyData.depth]
   have := depth_ints' ns
   have e : PyData.depthAll (ns.map eI) = 0 := this
   omega
theorem nameB_GN {d : PyData} (h : nameB d = true) : ∃ s, d = .str s /\ GN s := by
 cases d with
 | str s =>
   have h : ((decide (1 <= s.length) && decide (s.length <= 8)) && s.cps.toList.all ltrs) = true := h
   simp only [Bool.and_eq_true, decide_eq_true_eq, List.all_eq_true] at h
   refine ⟨s, rfl, h.1.1, h.1.2, λ c hc => ?_⟩
   have := h.2 c hc
   simpa [ltrs] using this
 | _ => cases h
theorem kindB_GN {d : PyData} (h : kindB d = true) : ∃ s, d = .str s /\ GN s := by
 cases d with
 | str s =>
   have h : (([("full" : Str), ("step" : Str), ("wide" : Str)]).any λ y => decide (y = s)) = true := h
   simp only [List.any_cons, List.any_nil, Bool.or_false, Bool.or_eq_true, decide_eq_true_eq] at h
   rcases h with rfl | rfl | rfl
   all_goals exact ⟨_, rfl, GNb_ok (by decide +kernel)⟩
 | _ => cases h
theorem sealB_sg {d : PyData} (h : sealB d = true) : ∃ ns, Sg ns /\ d = eI (sealN ns) := @of_decide_eq_true _ (Classical.propDecidable _) h
noncomputable def okk (l : List (Str × Str)) : Bool := l.all λ q => fineB q.1 (thg q.1 q.2)
def things (l : List (Str × Str)) : List PyData := l.map λ q => thg q.1 q.2
noncomputable def dueW (w0 : Str) (us : List Str) : PyData := match lk gd_MADE_OF w0 with
 | some ks => if (decide (ks.length = us.length) && okk (ks.zip us)) = true then .tuple (.str w0 :: things (ks.zip us)) else .none
 | none => .none
noncomputable def dueD (t : Str) : PyData := match Txt.split t (" " : Str) with
 | w0 :: us => dueW w0 us
 | [] => .none
theorem log_ok {n : Int} (h : n.natAbs < 10 ^ 60) : n.natAbs.log2 < 1920 := by
 rcases Nat.eq_zero_or_pos n.natAbs with e | e
 · rw [e]
   decide
 · refine (Nat.log2_lt (by omega)).mpr (Nat.lt_of_lt_of_le h ?_)
   decide +kernel
theorem strI_len {n : Int} {k : Nat} (h0 : 0 < k) (h : n.natAbs < 10 ^ k) : (strI n).length <= k + 1 := by
 show (Str.ofString (toString n)).length <= _
 rw [PySem.ofString_length]
 exact int_text_length_le10 h0 h
theorem jlen (sep : Str) (ts : List Str) : (Txt.join sep ts).length <= (ts.map (·.length)).sum + ts.length * sep.length := by
 show (PySem.Builtin.Str.glued sep ts).length <= _
 rw [PySem.StrLaws.glued_eq_join]
 exact PySem.StrLaws.join_length_le sep ts
theorem sumB {B : Nat} : ∀ {l : List Str}, (∀ x ∈ l, x.length <= B) -> (l.map (·.length)).sum <= l.length * B
 | [], _ => Nat.zero_le _
 | x :: l, h => by
   have h1 := h x List.mem_cons_self
   have h2 := sumB λ y hy => h y (List.mem_cons_of_mem _ hy)
   rw [List.map_cons, List.sum_cons, List.length_cons, Nat.succ_mul]
   omega
theorem strI_cps (m : Nat) : (strI ((m : Nat) : Int)).cps.toList = (Nat.toDigits 10 m).map Char.toNat := PySem.W.KIN.signs_num m
theorem digit_rng : ∀ d : Nat, d < 10 -> dig (Nat.digitChar d).toNat = true /\ ((Nat.digitChar d).toNat = 48 ↔ d = 0) := by decide
theorem digs_ok (m : Nat) : ((Nat.toDigits 10 m).map Char.toNat).all dig = true /\ ∃ c r, (Nat.toDigits 10 m).map Char.toNat = c :: r /\ (c = 48 -> r = []) /\ (0 < m -> c ≠ 48) := by
 induction m using Nat.strongRecOn with
 | _ m ih =>
   by_cases h : m < 10
   · rw [Nat.toDigits_of_lt_base h]
     have e := digit_rng m h
     refine ⟨by simpa using e.1, _, [], rfl, λ _ => rfl, λ hp z => ?_⟩
     have := e.2.mp z
     omega
   · have hm : m % 10 < 10 := Nat.mod_lt m (by decide)
     have t : Nat.toDigits 10 (m / 10) ++ Nat.toDigits 10 (m % 10) = Nat.toDigits 10 (10 * (m / 10) + m % 10) := Nat.toDigits_append_toDigits (by decide) (by omega) hm
     rw [Nat.div_add_mod] at t
     obtain ⟨i1, c, r, i2, i3, i4⟩ := ih (m / 10) (by omega)
     rw [<- t, List.map_append, Nat.toDigits_of_lt_base hm]
     refine ⟨?_, c, r ++ [(Nat.digitChar (m % 10)).toNat], by rw [i2]; rfl, λ z => absurd z (i4 (by omega)), λ _ => i4 (by omega)⟩
     rw [List.all_append, i1, Bool.true_and]
     simpa using (digit_rng _ hm).1
theorem wh_str {n : Int} (h0 : 0 <= n) (h1 : n <= 1000000) : wh (strI n) = some n := by
 obtain ⟨m, rfl⟩ := Int.eq_ofNat_of_zero_le h0
 have e := strI_cps m
 obtain ⟨d1, c, r, d2, d3, _⟩ := digs_ok m
 have hl : (strI ((m : Nat) : Int)).length <= 8 := strI_len (k := 7) (by decide) (show (m : Int).natAbs < 10 ^ 7 by omega)
 have hl2 : 1 <= (strI ((m : Nat) : Int)).length := by
   rw [len_cps, e, d2]
   simp
 unfold wh
 have hn : nzH ((Nat.toDigits 10 m).map Char.toNat) = false := by
   rw [d2]
   show (decide (c = 48) && decide (1 < r.length + 1)) = false
   by_cases z : c = 48
   · rw [d3 z, decide_eq_true z]
     rfl
   · rw [decide_eq_false z]
     rfl
 rw [e, hn, d1, decide_eq_true hl, decide_eq_true hl2, if_pos (show (true && true && (!false && true)) = true from rfl), PySem.W.KIN.val_back]
theorem strI_dig {n : Int} (h0 : 0 <= n) : ∀ c ∈ (strI n).cps.toList, 48 <= c /\ c <= 57 := by
 obtain ⟨m, rfl⟩ := Int.eq_ofNat_of_zero_le h0
 rw [strI_cps]
 intro c hc
 have := List.all_eq_true.mp (digs_ok m).1 c hc
 simpa [dig] using this
def hd16 (d : Nat) : Nat := if d < 10 then 48 + d else 87 + d
def hexL : Nat -> List Nat -> Nat -> List Nat
 | 0, acc, _ => acc
 | m + 1, acc, r => if 0 < r then hexL m (hd16 (r % 16) :: acc) (r / 16) else acc
def hexS (n : Int) : Str := ⟨(hexL 60 [] n.toNat).toArray⟩
theorem hd16_ok : ∀ d : Nat, d < 16 -> hexC (hd16 d) = true /\ Hx.hv (hd16 d) = d /\ (hd16 d = 48 ↔ d = 0) := by decide
theorem hexL_zero : ∀ (m : Nat) (acc : List Nat), hexL m acc 0 = acc
 | 0, _ => rfl
 | m + 1, acc => by
   unfold hexL
   rw [if_neg (by decide)]
theorem hexN_cons (c : Nat) (l : List Nat) : Hx.hexNum (c :: l) = Hx.hv c * 16 ^ l.length + Hx.hexNum l := by
 have go : ∀ (l : List Nat) (a : Nat), l.foldl (λ a c => a * 16 + Hx.hv c) a = a * 16 ^ l.length + l.foldl (λ a c => a * 16 + Hx.hv c) 0 := by
   intro l
   induction l with
   | nil => intro a; simp
   | cons c l ih =>
     intro a
     rw [List.foldl_cons, List.foldl_cons, ih, ih (0 * 16 + Hx.hv c), List.length_cons, Nat.pow_succ, Nat.add_mul, Nat.zero_mul, Nat.zero_add]
     have : a * 16 * 16 ^ l.length = a * (16 ^ l.length * 16) := by rw [Nat.mul_assoc, Nat.mul_comm 16]
     omega
 unfold Hx.hexNum
 rw [List.foldl_cons, go]
 simp
theorem hexL_val : ∀ (m : Nat) (acc : List Nat) (r : Nat), r < 16 ^ m -> Hx.hexNum (hexL m acc r) = r * 16 ^ acc.length + Hx.hexNum acc
 | 0, acc, r, h => by
   have : r = 0 := by simpa using h
   subst this
   simp [hexL]
 | m + 1, acc, r, h => by
   unfold hexL
   by_cases z : 0 < r
   · rw [if_pos z, hexL_val m _ _ (by rw [Nat.pow_succ] at h; exact Nat.div_lt_of_lt_mul (by omega)), hexN_cons, (hd16_ok _ (Nat.mod_lt r (by decide))).2.1, List.length_cons, Nat.pow_succ]
     have e : r / 16 * (16 ^ acc.length * 16) + r % 16 * 16 ^ acc.length = r * 16 ^ acc.length := by
       rw [Nat.mul_comm (16 ^ acc.length) 16, <- Nat.mul_assoc, <- Nat.add_mul]
       congr 1
       omega
     omega
   · have : r = 0 := by omega
     subst this
     rw [if_neg z]
     simp
theorem hexL_all : ∀ (m : Nat) (acc : List Nat) (r : Nat), acc.all hexC = true -> (hexL m acc r).all hexC = true
 | 0, acc, r, h => h
 | m + 1, acc, r, h => by
   unfold hexL
   split
   · refine hexL_all m _ _ ?_
     rw [List.all_cons, (hd16_ok _ (Nat.mod_lt r (by decide))).1, h]
     rfl
   · exact h
theorem hexL_head : ∀ (m : Nat) (acc : List Nat) (r : Nat), 0 < r -> r < 16 ^ m -> ∃ c t, hexL m acc r = c :: t /\ c ≠ 48
 | 0, acc, r, h0, h => by
   have : r = 0 := by simpa using h
   omega
 | m + 1, acc, r, h0, h => by
   unfold hexL
   rw [if_pos h0]
   by_cases z : 0 < r / 16
   · exact hexL_head m _ _ z (by rw [Nat.pow_succ] at h; exact Nat.div_lt_of_lt_mul (by omega))
   · have e : r / 16 = 0 := by omega
     rw [e, hexL_zero]
     refine ⟨_, _, rfl, λ q => ?_⟩
     have := (hd16_ok _ (Nat.mod_lt r (by decide))).2.2.mp q
     omega
theorem hexL_len : ∀ (m j : Nat) (acc : List Nat) (r : Nat), r < 16 ^ j -> (hexL m acc r).length <= acc.length + j
 | 0, j, acc, r, _ => Nat.le_add_right _ _
 | m + 1, j, acc, r, h => by
   unfold hexL
   split
   · rename_i z
     match j, h with
     | 0, h =>
       have : r = 0 := by simpa using h
       omega
     | j + 1, h =>
       have := hexL_len m j (hd16 (r % 16) :: acc) (r / 16) (by rw [Nat.pow_succ] at h; exact Nat.div_lt_of_lt_mul (by omega))
       rw [List.length_cons] at this
       omega
   · exact Nat.le_add_right _ _
theorem hexS_cps (n : Int) : (hexS n).cps.toList = hexL 60 [] n.toNat := rfl
theorem sw_hex {n : Int} (h0 : 0 < n) (h1 : n < 16 ^ 48) : sw (hexS n) = some n := by
 obtain ⟨m, rfl⟩ := Int.eq_ofNat_of_zero_le (Int.le_of_lt h0)
 have h1 : m < 16 ^ 48 := by exact_mod_cast h1
 have h2 : m < 16 ^ 60 := Nat.lt_of_lt_of_le h1 (Nat.pow_le_pow_right (by decide) (by decide))
 have hm : 0 < m := by omega
 have e : (hexS ((m : Nat) : Int)).cps.toList = hexL 60 [] m := rfl
 have hl := hexL_len 60 48 [] m h1
 obtain ⟨c, t, ec, hc⟩ := hexL_head 60 [] m hm h2
 have ll : (hexS ((m : Nat) : Int)).length = (hexL 60 [] m).length := by rw [len_cps, e]
 unfold sw
 rw [e, hexL_all 60 [] m rfl, decide_eq_true (show (hexS ((m : Nat) : Int)).length <= 48 by rw [ll]; simpa using hl), decide_eq_true (show 1 <= (hexS ((m : Nat) : Int)).length by rw [ll, ec]; simp)]
 have hh : hz (hexL 60 [] m) = false := by
   rw [ec]
   exact decide_eq_false hc
 rw [hh, if_pos (show (true && true && (!false && true)) = true from rfl), hexL_val 60 [] m h2]
 simp [Hx.hexNum]
theorem hex_step {x : Str} {r : Int} (z : 0 < r) : ∃ y : Str, atS ("0123456789abcdef" : Str) (r % 16) = some y /\ y.length = 1 /\ (y ++ x).cps.toList = hd16 (r.toNat % 16) :: x.cps.toList := by
 have key : ∀ d : Nat, d < 16 -> atS ("0123456789abcdef" : Str) (d : Int) = some ⟨#[hd16 d]⟩ := by decide +kernel
 have e : r % 16 = ((r.toNat % 16 : Nat) : Int) := by omega
 rw [e]
 refine ⟨_, key _ (Nat.mod_lt _ (by decide)), rfl, ?_⟩
 rw [app_cps]
 rfl
theorem hexw_ok {C : Int -> Prop} {n : Int} {P : Str -> Prop} (h1 : n < 16 ^ 60) (hC : ∀ r, C r) (h : P (hexS n)) :
   wlD (λ (s1 : Str × Int) (k2 k3 : (Str × Int) -> Prop) => if (decide (0 < s1.2)) = true then (((0 : Int) < 16) /\ ∃ x13, atS ("0123456789abcdef" : Str) (s1.2 % 16) = some x13 /\ ((x13).length + (s1.1).length <= 100000) /\ (C s1.2) /\ k2 ((x13 ++ s1.1), (s1.2 / 16))) else (k3 (s1.1, s1.2))) (("" : Str), n) λ s1 => P s1.1 := by
 refine wlD_inv (λ m s => s.2 < 16 ^ m /\ s.1.length + m <= 60 /\ hexL m s.1.cps.toList s.2.toNat = hexL 60 [] n.toNat) (λ s => s.1.cps.toList = hexL 60 [] n.toNat) (n := 60) ⟨h1, by show (("" : Str)).length + 60 <= 60; decide, rfl⟩ (λ m s kk kx ⟨g0, g1, g2⟩ hk hx => ?_) λ s g => ?_
 · obtain ⟨x, r⟩ := s
   dsimp only at g0 g1 g2 ⊢
   by_cases z : 0 < r
   · rw [if_pos (decide_eq_true z)]
     obtain ⟨y, ey, ly, ea⟩ := hex_step (x := x) z
     refine ⟨by decide, y, ey, by omega, hC _, ?_⟩
     match m, g0, g1, g2, hk with
     | 0, g0, _, _, _ =>
       rw [Int.pow_zero] at g0
       omega
     | m + 1, g0, g1, g2, hk =>
       refine hk m _ rfl ⟨?_, ?_, ?_⟩
       · dsimp only
         rw [Int.pow_succ] at g0
         exact Int.ediv_lt_of_lt_mul (by decide) g0
       · dsimp only
         rw [Str.length_append]
         omega
       · dsimp only
         rw [ea, <- g2]
         show _ = hexL (m + 1) x.cps.toList r.toNat
         unfold hexL
         rw [if_pos (by omega)]
         cases m <;> simp only [hexL] <;> rw [show (r / 16).toNat = r.toNat / 16 by omega]
   · rw [if_neg (by simp; omega)]
     refine hx _ ?_
     dsimp only
     have e : r.toNat = 0 := by omega
     rw [e, hexL_zero] at g2
     exact g2
 · have : s.1 = hexS n := ext_cps g
   rw [this]
   exact h
theorem lhex_ok {n : Int} {P : Str -> Prop} (h1 : n < 16 ^ 60) (h : P (hexS n)) : p_l_hex n P := by
 unfold p_l_hex
 exact hexw_ok (C := λ _ => (0 : Int) < 16 /\ 16 < (2 ^ 64 : Int)) h1 (λ _ => ⟨by decide, by decide⟩) h
theorem shex_ok {n : Int} {P : Str -> Prop} (h1 : n < 16 ^ 60) (h : P (hexS n)) : p_show_seal n P := by
 unfold p_show_seal
 exact hexw_ok (C := λ r => CDiv r 16) h1 (λ _ => ⟨by decide, by decide⟩) h
def sgS (ns : List Int) : Str := if ns = [] then "-" else Txt.join ("," : Str) (ns.map strI)
def wrd (k : Str) : PyData -> Str
 | .str s => s
 | .int n => if k = "seal" then hexS n else strI n
 | .list ds => sgS (ds.filterMap whA)
 | _ => ""
theorem wrd_list (k : Str) (ns : List Int) : wrd k (eL eI ns) = sgS ns := by
 show sgS ((ns.map eI).filterMap whA) = sgS ns
 congr 1
 induction ns with
 | nil => rfl
 | cons n r ih =>
   rw [List.map_cons, List.filterMap_cons]
   show n :: (r.map eI).filterMap whA = _
   rw [ih]
def Sn (c : Nat) : Prop := c ≠ 32 /\ c < 1000
theorem no_comma {n : Int} (h0 : 0 <= n) : ∀ c ∈ (strI n).cps.toList, c ≠ 44 /\ Sn c := λ c hc => by
 have := strI_dig h0 c hc
 exact ⟨by omega, by omega, by omega⟩
theorem split_sg {ns : List Int} (hn : ns ≠ []) (g : ∀ n ∈ ns, 0 <= n /\ n <= 999) : Txt.split (Txt.join ("," : Str) (ns.map strI)) ("," : Str) = ns.map strI := by
 refine TL.split_join (y := ("," : Str)) (s := 44) (S := []) rfl (by decide +kernel) (λ z => hn (List.map_eq_nil_iff.mp z)) λ p hp z => ?_
 obtain ⟨n, hm, rfl⟩ := List.mem_map.mp hp
 exact (no_comma (g n hm).1 44 z).1 rfl
theorem ws_sg {ns : List Int} (g : ∀ n ∈ ns, 0 <= n /\ n <= 999) : ws (sgS ns) = ns.map some := by
 unfold sgS
 by_cases z : ns = []
 · subst z
   rw [if_pos rfl]
   rfl
 · rw [if_neg z]
   have sp := split_sg z g
   have hwh : (ns.map strI).map wh = ns.map some := by
     rw [List.map_map]
     refine List.map_congr_left λ n hm => ?_
     exact wh_str (g n hm).1 (by have := (g n hm).2; omega)
   unfold ws
   rw [if_neg ?_, sp, hwh]
   intro e
   rw [e] at sp
   have e2 : Txt.split ("-" : Str) ("," : Str) = [("-" : Str)] := by decide +kernel
   rw [e2] at sp
   rw [<- sp] at hwh
   have e3 : wh ("-" : Str) = none := by decide +kernel
   rw [List.map_cons, e3] at hwh
   cases ns with
   | nil => exact z rfl
   | cons n r => cases hwh
theorem thg_list {ns : List Int} (g : ∀ n ∈ ns, 0 <= n /\ n <= 999) : (eL (eO eI)) (ws (sgS ns)) = eL eI ns := by
 rw [ws_sg g]
 show PyData.list ((ns.map some).map (eO eI)) = PyData.list (ns.map eI)
 rw [List.map_map]
 rfl
theorem seal_lt {ns : List Int} (g : Sg ns) : 0 < sealN ns /\ sealN ns < 16 ^ 48 := by
 have h := seal_le g
 have h2 : (1016120561824376019452881448012369820560120016001 : Int) < 16 ^ 48 := by decide +kernel
 omega
theorem thg_wrd {k : Str} {d : PyData} (hk : Kn k) (h : fineB k d = true) : thg k (wrd k d) = d := by
 unfold Kn at hk
 simp only [List.mem_cons, List.not_mem_nil, or_false] at hk
 rcases hk with rfl | rfl | rfl | rfl | rfl | rfl | rfl | rfl
 · obtain ⟨s, rfl, g⟩ := nameB_GN h
   rfl
 · obtain ⟨ns, rfl, a, b, g⟩ := signsA_list (lo := 0) (hi := 48) h
   rw [wrd_list]
   exact thg_list g
 · obtain ⟨n, rfl, a, b⟩ := rngA_int (lo := 0) (hi := 1000000) h
   show eO eI (wh (strI n)) = .int n
   rw [wh_str a b]
   rfl
 · obtain ⟨s, rfl, g⟩ := kindB_GN h
   rfl
 · obtain ⟨ns, g, rfl⟩ := sealB_sg h
   have := seal_lt g
   show eO eI (sw (hexS (sealN ns))) = .int (sealN ns)
   rw [sw_hex this.1 this.2]
   rfl
 · obtain ⟨ns, rfl, a, b, g⟩ := signsA_list (lo := 0) (hi := 16) h
   rw [wrd_list]
   exact thg_list g
 · obtain ⟨ns, rfl, a, b, g⟩ := signsA_list (lo := 1) (hi := 16) h
   rw [wrd_list]
   exact thg_list g
 · obtain ⟨n, rfl, a, b⟩ := rngA_int (lo := 0) (hi := 60) h
   show eO eI (wh (strI n)) = .int n
   rw [wh_str a (by omega)]
   rfl
theorem joinP {y : Str} {P : Nat -> Prop} (hy : ∀ c ∈ y.cps.toList, P c) : ∀ {ps : List Str}, (∀ p ∈ ps, ∀ c ∈ p.cps.toList, P c) -> ∀ c ∈ (Txt.join y ps).cps.toList, P c := by
 intro ps
 rw [TL.join_eq]
 induction ps with
 | nil => exact λ _ c hc => nomatch hc
 | cons p r ih =>
   intro h c hc
   cases r with
   | nil => exact h p List.mem_cons_self c hc
   | cons q r =>
     have hc : c ∈ (p ++ y ++ Str.join y (q :: r)).cps.toList := hc
     rw [app_cps, app_cps] at hc
     rcases List.mem_append.mp hc with hc | hc
     · rcases List.mem_append.mp hc with hc | hc
       · exact h p List.mem_cons_self c hc
       · exact hy c hc
     · exact ih (λ z hz => h z (List.mem_cons_of_mem _ hz)) c hc
theorem sg_no {ns : List Int} (g : ∀ n ∈ ns, 0 <= n /\ n <= 999) : ∀ c ∈ (sgS ns).cps.toList, Sn c := by
 unfold sgS
 split
 · intro c hc
   have : c = 45 := by
     have hc : c ∈ ([45] : List Nat) := hc
     simpa using hc
   subst this
   exact ⟨by decide, by decide⟩
 · refine joinP (λ c hc => ?_) λ p hp c hc => ?_
   · have hc : c ∈ ([44] : List Nat) := hc
     have : c = 44 := by simpa using hc
     subst this
     exact ⟨by decide, by decide⟩
   · obtain ⟨n, hm, rfl⟩ := List.mem_map.mp hp
     exact (no_comma (g n hm).1 c hc).2
theorem sg_len {ns : List Int} (g : GC ns) : (sgS ns).length <= 400 := by
 unfold sgS
 split
 · decide
 · have hs := sumB (B := 4) (l := ns.map strI) λ x hx => by
     obtain ⟨n, hm, rfl⟩ := List.mem_map.mp hx
     have := g.2 n hm
     exact strI_len (k := 3) (by decide) (show n.natAbs < 10 ^ 3 by omega)
   have hj := jlen ("," : Str) (ns.map strI)
   rw [show (("," : Str)).length = 1 from rfl, List.length_map] at hj
   rw [List.length_map] at hs
   have := g.1
   omega
theorem hexC_no {c : Nat} (h : hexC c = true) : Sn c := by
 rcases hex16 h with rfl | rfl | rfl | rfl | rfl | rfl | rfl | rfl | rfl | rfl | rfl | rfl | rfl | rfl | rfl | rfl <;> exact ⟨by decide, by decide⟩
theorem hexS_no (n : Int) : ∀ c ∈ (hexS n).cps.toList, Sn c := λ c hc => hexC_no (List.all_eq_true.mp (hexL_all 60 [] n.toNat rfl) c hc)
theorem hexS_len (n : Int) : (hexS n).length <= 60 := by
 rw [len_cps, hexS_cps]
 have go : ∀ (m : Nat) (acc : List Nat) (r : Nat), (hexL m acc r).length <= acc.length + m := by
   intro m
   induction m with
   | zero => exact λ acc r => Nat.le_refl _
   | succ m ih =>
     intro acc r
     unfold hexL
     split
     · have := ih (hd16 (r % 16) :: acc) (r / 16)
       rw [List.length_cons] at this
       omega
     · exact Nat.le_add_right _ _
 have := go 60 [] n.toNat
 simpa using this
theorem GN.no {s : Str} (g : GN s) : ∀ c ∈ s.cps.toList, Sn c := λ c hc => by
 have := g.2.2 c hc
 exact ⟨by omega, by omega⟩
theorem int_word {n : Int} (h0 : 0 <= n) (h1 : n <= 1000000) : (∀ c ∈ (strI n).cps.toList, Sn c) /\ (strI n).length <= 400 :=
 ⟨λ c hc => (no_comma h0 c hc).2, by have := strI_len (n := n) (k := 7) (by decide) (by omega); omega⟩
theorem wrd_ok {k : Str} {d : PyData} (hk : Kn k) (h : fineB k d = true) : (∀ c ∈ (wrd k d).cps.toList, Sn c) /\ (wrd k d).length <= 400 := by
 unfold Kn at hk
 simp only [List.mem_cons, List.not_mem_nil, or_false] at hk
 rcases hk with rfl | rfl | rfl | rfl | rfl | rfl | rfl | rfl
 · obtain ⟨s, rfl, g⟩ := nameB_GN h
   exact ⟨g.no, show s.length <= 400 by have := g.2.1; omega⟩
 · obtain ⟨ns, rfl, a, b, g⟩ := signsA_list (lo := 0) (hi := 48) h
   rw [wrd_list]
   exact ⟨sg_no g, sg_len ⟨by omega, g⟩⟩
 · obtain ⟨n, rfl, a, b⟩ := rngA_int (lo := 0) (hi := 1000000) h
   exact int_word a b
 · obtain ⟨s, rfl, g⟩ := kindB_GN h
   exact ⟨g.no, show s.length <= 400 by have := g.2.1; omega⟩
 · obtain ⟨ns, g, rfl⟩ := sealB_sg h
   exact ⟨hexS_no _, Nat.le_trans (hexS_len _) (by decide)⟩
 · obtain ⟨ns, rfl, a, b, g⟩ := signsA_list (lo := 0) (hi := 16) h
   rw [wrd_list]
   exact ⟨sg_no g, sg_len ⟨by omega, g⟩⟩
 · obtain ⟨ns, rfl, a, b, g⟩ := signsA_list (lo := 1) (hi := 16) h
   rw [wrd_list]
   exact ⟨sg_no g, sg_len ⟨by omega, g⟩⟩
 · obtain ⟨n, rfl, a, b⟩ := rngA_int (lo := 0) (hi := 60) h
   exact int_word a (by omega)
def wds (ks : List Str) (us : List PyData) : List Str := (ks.zip us).map λ q => wrd q.1 q.2
def dText (w : Str) (ks : List Str) (us : List PyData) : Str := Txt.join (" " : Str) (w :: wds ks us)
structure Dk (w : Str) (ks : List Str) (us : List PyData) : Prop where
 d : Deed w us
 e : lk gd_MADE_OF w = some ks
 l : ks.length = us.length
 f : ∀ q ∈ ks.zip us, Kn q.1 /\ fineB q.1 q.2 = true
theorem Deed.dk {w : Str} {us : List PyData} (g : Deed w us) : ∃ ks, Dk w ks us := by
 have h := g.ok
 unfold mt91 at h
 cases e : lk gd_MADE_OF w with
 | none =>
   rw [e] at h
   cases h
 | some ks =>
   rw [e] at h
   simp only [Bool.and_eq_true, decide_eq_true_eq] at h
   exact ⟨ks, g, e, h.1, λ q hq => ⟨kn_all _ (lk_mem e) _ (List.of_mem_zip hq).1, List.all_eq_true.mp h.2 q hq⟩⟩
section
variable {w : Str} {ks : List Str} {us : List PyData}
theorem Dk.ln (g : Dk w ks us) : (wds ks us).length = us.length /\ us.length <= 4 := by
 have := g.l
 unfold wds
 rw [List.length_map, List.length_zip]
 exact ⟨by omega, g.d.ln⟩
theorem Dk.wz (g : Dk w ks us) : ∀ x ∈ w :: wds ks us, (∀ c ∈ x.cps.toList, Sn c) /\ x.length <= 400 := λ x hx => by
 rcases List.mem_cons.mp hx with rfl | hx
 · have hw : (gd_MADE_OF.all λ q => q.1.cps.toList.all λ c => decide (c ≠ 32 /\ c < 1000)) = true := by decide +kernel
   have := List.all_eq_true.mp hw _ (lk_mem g.e)
   exact ⟨λ c hc => of_decide_eq_true (p := c ≠ 32 /\ c < 1000) (List.all_eq_true.mp this c hc), by have := wd_sz g.d.wd; omega⟩
 · obtain ⟨q, hq, rfl⟩ := List.mem_map.mp hx
   exact wrd_ok (g.f q hq).1 (g.f q hq).2
theorem Dk.split (g : Dk w ks us) : Txt.split (dText w ks us) (" " : Str) = w :: wds ks us :=
 TL.split_join (y := (" " : Str)) (s := 32) (S := []) rfl (by decide +kernel) (by simp) λ p hp z => ((g.wz p hp).1 32 z).1 rfl
theorem Dk.sum (g : Dk w ks us) : ((w :: wds ks us).map (·.length)).sum + (w :: wds ks us).length <= 2500 := by
 have h := sumB λ x hx => (g.wz x hx).2
 have l := g.ln
 rw [List.length_cons] at h ⊢
 have : ((wds ks us).length + 1) * 400 <= 5 * 400 := Nat.mul_le_mul_right _ (by omega)
 omega
theorem Dk.len (g : Dk w ks us) : (dText w ks us).length <= 2500 := by
 have h := jlen (" " : Str) (w :: wds ks us)
 rw [show ((" " : Str)).length = 1 from rfl] at h
 have := g.sum
 unfold dText
 omega
theorem Dk.signs (g : Dk w ks us) : ∀ c ∈ (dText w ks us).cps.toList, c < 1000 := joinP (λ c hc => by
 have hc : c ∈ ([32] : List Nat) := hc
 have : c = 32 := by simpa using hc
 subst this
 decide) λ p hp c hc => ((g.wz p hp).1 c hc).2
theorem things_go : ∀ {ks : List Str} {us : List PyData}, ks.length = us.length -> (∀ q ∈ ks.zip us, Kn q.1 /\ fineB q.1 q.2 = true) -> things (ks.zip (wds ks us)) = us /\ okk (ks.zip (wds ks us)) = true
 | [], [], _, _ => ⟨rfl, rfl⟩
 | [], _ :: _, h, _ => nomatch h
 | _ :: _, [], h, _ => nomatch h
 | k :: ks, u :: us, hl, h => by
   have h1 := h (k, u) (by rw [List.zip_cons_cons]; exact List.mem_cons_self)
   obtain ⟨a, b⟩ := things_go (ks := ks) (us := us) (by simpa using hl) λ q hq => h q (by rw [List.zip_cons_cons]; exact List.mem_cons_of_mem _ hq)
   have e := thg_wrd h1.1 h1.2
   have ew : wds (k :: ks) (u :: us) = wrd k u :: wds ks us := rfl
   rw [ew, List.zip_cons_cons]
   refine ⟨?_, ?_⟩
   · show thg k (wrd k u) :: things (ks.zip (wds ks us)) = _
     rw [e, a]
   · show (fineB k (thg k (wrd k u)) && okk (ks.zip (wds ks us))) = true
     rw [e, h1.2, b]
     rfl
theorem Dk.due (g : Dk w ks us) : dueD (dText w ks us) = .tuple (.str w :: us) := by
 unfold dueD
 rw [g.split]
 show dueW w (wds ks us) = _
 unfold dueW
 rw [g.e]
 obtain ⟨a, b⟩ := things_go g.l g.f
 have hl : ks.length = (wds ks us).length := by rw [g.ln.1, g.l]
 dsimp only
 rw [b, decide_eq_true hl, a]
 rfl
end
theorem u_bag {K : Fr} {Rs : List Res} {H : Hp} {a : Addr} {ns : List Int} {Q : VK} {E : XK} (S : M Rs H) (h : Ent Rs (λ H => SqL K H a (ns.map V.int))) (hl : ns.length <= 63) (k : ∀ bag H', M (bagR bag :: Rs) H' -> Q (.ref bag) H') :
   sp_l_bag K ([.ref a] ++ []) H Q E := ⟨Rs, a, ns, rfl, S, h, hl, k⟩
def sp_law (K : Fr) : Sp := λ vs H Q _ => ∃ (a : Addr) (ns : List Int), vs = [.ref a] /\ SqL K H a (ns.map V.int) /\ ns.length <= 63 /\ ∀ H', Q (.bl true) H'
theorem len_law {K : Fr} (vs : List V) (H : Hp) (Q : VK) (E : XK) (h : sp_law K vs H Q E) : vs.length = 1 := by
 obtain ⟨x, y, rfl, _⟩ := h
 rfl
theorem law_start (K : Fr) (H : Hp) (a : Addr) (ns : List Int) (hl : ns.length <= 63) (hS : SqL K H a (ns.map V.int)) : sp_law K [.ref a] H (λ v _ => v = .bl true) λ _ _ _ => False := ⟨a, ns, rfl, hS, hl, λ _ => rfl⟩
def p_law (P : Bool -> Prop) : Prop := p_l_names 4 λ x1 => takeD 1000001 λ n7 => ((-(2 ^ 62) : Int) <= 24 /\ 24 < (2 ^ 62 : Int)) /\ forD (λ (x24 : Int) (s21 : (List (Str × PyData))) (k22 : ((List (Str × PyData))) -> Prop) => p_l_signs 1 λ x36 => p_l_seal_of x36 λ x42 => ((-(2 ^ 63) : Int) <= 16 /\ 16 < (2 ^ 63 : Int) /\ (([999] : List Int)).length * (16 : Int).toNat <= 100000) /\ p_l_seal_of (repL ([999] : List Int) 16) λ x58 => takeD 16 λ n63 => p_l_seal_of ([n63]) λ x73 => p_l_shaped x1 ([0, 1000000, n7]) ([x42, x58, x73, 1]) λ x87 => p_l_written x87 λ x93 => p_l_own x87 λ x98 => ((-(2 ^ 62) : Int) <= 2 /\ 2 < (2 ^ 62 : Int)) /\ forD (λ (x107 : Int) (s104 : Unit) (k105 : (Unit) -> Prop) => jn (λ k117 => p_show_deed x98 λ x120 => ((eS x120) = (eS x93) /\ AlkOk (eS x120)) /\ (EqOk (eA x98) /\ EqOk (eA x87)) /\ k117 (!PyData.eqv (eA x98) (eA x87))) λ c113 => if c113 = true then (P false) else (p_read_deed x93 λ x128 => ((OD.fgt x128) = (eA x87) /\ AlkOk (OD.fgt x128)) /\ ∃ l134 : List OD, x128 = OD.ot l134 /\ forD (λ (x139 : OD) (s136 : Unit) (k137 : (Unit) -> Prop) => if (isA "list" (x139).fgt) = true then (∃ l150 : List OD, x139 = OD.ol l150 /\ (l150).length < 100000 /\ ∃ m166, ixN ((sno l150 (OD.fz (eI 5)))).length 0 = some m166 /\ k137 ()) else (k137 ())) l134 () λ s136 => k105 ())) (rng 2) () λ s104 => (EqOk (eA ((lk s21 x93).getD x87)) /\ EqOk (eA x87)) /\ if (!PyData.eqv (eA ((lk s21 x93).getD x87)) (eA x87)) = true then (P false) else ((s21).length < 100000 /\ k22 (pk s21 x93 x87))) (rng 24) ([] : (List (Str × PyData))) λ s21 => P true
theorem strI_pos {n : Int} (h0 : 0 <= n) : 1 <= (strI n).length := by
 obtain ⟨m, rfl⟩ := Int.eq_ofNat_of_zero_le h0
 obtain ⟨_, c, r, d2, _⟩ := digs_ok m
 rw [len_cps, strI_cps, d2]
 simp
theorem strs_sum {ns : List Int} (g : GC ns) : ((ns.map strI).map (·.length)).sum + (ns.map strI).length <= 400 := by
 have hs := sumB (B := 4) (l := ns.map strI) λ x hx => by
   obtain ⟨n, hm, rfl⟩ := List.mem_map.mp hx
   have := g.2 n hm
   exact strI_len (k := 3) (by decide) (show n.natAbs < 10 ^ 3 by omega)
 rw [List.length_map] at hs ⊢
 have := g.1
 omega
theorem small_log {n : Int} (h : 0 <= n /\ n <= 1000000) : n.natAbs.log2 < 1920 := log_ok (Nat.lt_of_lt_of_le (show n.natAbs < 10 ^ 7 by omega) (by decide +kernel))
theorem ssigns_ok {ns : List Int} {P : Str -> Prop} (g : GC ns) (h : P (sgS ns)) : p_show_signs ns P := by
 unfold p_show_signs
 unfold sgS at h
 by_cases z : ns = []
 · rw [if_pos (decide_eq_true z)]
   rwa [if_pos z] at h
 · rw [if_neg (by rw [decide_eq_true_eq]; exact z)]
   rw [if_neg z] at h
   have hl := g.1
   have hs := strs_sum g
   refine ⟨by omega, lcD_map strI (λ x hx kk hk => ⟨small_log (by have := g.2 x hx; omega), hk⟩) ?_⟩
   rw [List.nil_append, show (("," : Str)).length = 1 from rfl]
   exact ⟨by omega, h⟩
theorem listedX {ns : List Int} {P : Str -> Prop} (g : GC ns) (h : P (sgS ns)) : p_l_listed ns P := by
 unfold p_l_listed
 have hl := g.1
 have hs := strs_sum g
 have hj := jlen ("," : Str) (ns.map strI)
 rw [show (("," : Str)).length = 1 from rfl] at hj
 refine jn_ok (β := Str) (λ x => x = sgS ns) (λ kk hk => ⟨by omega, lcD_map strI (λ x hx k2 hk2 => ⟨small_log (by have := g.2 x hx; omega), hk2⟩) ?_⟩) λ x hx => by subst hx; exact h
 rw [List.nil_append, show (("," : Str)).length = 1 from rfl]
 refine ⟨by omega, by omega, ?_⟩
 cases ns with
 | nil => exact (if_neg (by decide)).mpr (hk _ rfl)
 | cons n r =>
   have h1 : 1 <= (Txt.join ("," : Str) ((n :: r).map strI)).length := by
     rw [TL.join_eq, List.map_cons, join_len, List.map_cons, List.sum_cons]
     have := strI_pos (g.2 n List.mem_cons_self).1
     omega
   rw [if_pos (by rw [decide_eq_false (show ¬ (Txt.join ("," : Str) ((n :: r).map strI)).length = 0 by omega)]; rfl)]
   exact hk _ (if_neg (by simp)).symm
theorem strA_str (s : Str) : strA (.str s) = some s := rfl
theorem strA_int {n : Int} (h : 0 <= n /\ n <= 1000000) : strA (.int n) = some (strI n) := by
 show (if n.natAbs.log2 < 1920 then some (strI n) else none) = _
 rw [if_pos (small_log h)]
theorem seal60 {ns : List Int} (g : Sg ns) : sealN ns < 16 ^ 60 := by
 have h := (seal_lt g).2
 have : (16 : Int) ^ 48 <= 16 ^ 60 := by decide +kernel
 omega
section
variable {w : Str} {ks : List Str} {us : List PyData}
theorem take_next {q : Str × PyData} {l : List (Str × PyData)} {i : Nat} (h : l[i]? = some q) : sno (w :: (l.take i).map λ q => wrd q.1 q.2) (wrd q.1 q.2) = w :: (l.take (i + 1)).map λ q => wrd q.1 q.2 := by
 rw [List.take_add_one, h, List.map_append]
 rfl
theorem Dk.fin (g : Dk w ks us) {i : Nat} (h : (ks.zip us).length <= i) {s : List Str} (e : s = w :: ((ks.zip us).take i).map λ q => wrd q.1 q.2) {P : Str -> Prop} (hP : P (dText w ks us)) : (((s).map (·.length)).sum + (s).length * ((" " : Str)).length <= 16777216) /\ P (Txt.join (" " : Str) s) := by
 rw [List.take_of_length_le h] at e
 have e : s = w :: wds ks us := e
 subst e
 have := g.sum
 rw [show ((" " : Str)).length = 1 from rfl]
 exact ⟨by omega, hP⟩
theorem Dk.short (g : Dk w ks us) {i : Nat} {s : List Str} (e : s = w :: ((ks.zip us).take i).map λ q => wrd q.1 q.2) : s.length < 100000 := by
 subst e
 have := g.ln.2
 have := g.l
 rw [List.length_cons, List.length_map, List.length_take, List.length_zip]
 omega
theorem show_ok {P : Str -> Prop} (g : Dk w ks us) (h : P (dText w ks us)) : p_show_deed (.tuple (.str w :: us)) P := by
 unfold p_show_deed
 refine ⟨.str w :: us, (eV_A _).symm, .str w, us, rfl, w, rfl, ks, g.e, ?_⟩
 refine forD_inv (λ i s => s = w :: ((ks.zip us).take i).map λ q => wrd q.1 q.2) (n := 0) rfl (λ i q s kk hq hI hk => ?_) λ s hI => ?_
 · rw [Nat.zero_add] at hI hk
   have hm := g.f q (List.mem_of_getElem? hq)
   have go : kk (sno s (wrd q.1 q.2)) := hk _ (by rw [hI]; exact take_next hq)
   have hs := g.short hI
   obtain ⟨hkn, hf⟩ := hm
   unfold Kn at hkn
   simp only [List.mem_cons, List.not_mem_nil, or_false] at hkn
   rcases hkn with hk9 | hk9 | hk9 | hk9 | hk9 | hk9 | hk9 | hk9
   · rw [hk9] at hf go ⊢
     obtain ⟨s2, e2, g2⟩ := nameB_GN hf
     rw [e2] at go ⊢
     rw [if_neg (by decide), if_neg (by decide)]
     exact ⟨_, strA_str _, hs, go⟩
   · rw [hk9] at hf go ⊢
     obtain ⟨ns, e2, a, b, g2⟩ := signsA_list (lo := 0) (hi := 48) hf
     rw [e2, wrd_list] at go
     rw [if_neg (by decide), if_pos (by decide)]
     exact ⟨ns, e2, ssigns_ok ⟨by omega, g2⟩ ⟨hs, go⟩⟩
   · rw [hk9] at hf go ⊢
     obtain ⟨n, e2, a, b⟩ := rngA_int (lo := 0) (hi := 1000000) hf
     rw [e2] at go ⊢
     rw [if_neg (by decide), if_neg (by decide)]
     exact ⟨_, strA_int ⟨a, by omega⟩, hs, go⟩
   · rw [hk9] at hf go ⊢
     obtain ⟨s2, e2, g2⟩ := kindB_GN hf
     rw [e2] at go ⊢
     rw [if_neg (by decide), if_neg (by decide)]
     exact ⟨_, strA_str _, hs, go⟩
   · rw [hk9] at hf go ⊢
     obtain ⟨ns, g2, e2⟩ := sealB_sg hf
     rw [e2] at go
     rw [if_pos (by decide)]
     exact ⟨_, e2, shex_ok (seal60 g2) ⟨hs, go⟩⟩
   · rw [hk9] at hf go ⊢
     obtain ⟨ns, e2, a, b, g2⟩ := signsA_list (lo := 0) (hi := 16) hf
     rw [e2, wrd_list] at go
     rw [if_neg (by decide), if_pos (by decide)]
     exact ⟨ns, e2, ssigns_ok ⟨by omega, g2⟩ ⟨hs, go⟩⟩
   · rw [hk9] at hf go ⊢
     obtain ⟨ns, e2, a, b, g2⟩ := signsA_list (lo := 1) (hi := 16) hf
     rw [e2, wrd_list] at go
     rw [if_neg (by decide), if_pos (by decide)]
     exact ⟨ns, e2, ssigns_ok ⟨by omega, g2⟩ ⟨hs, go⟩⟩
   · rw [hk9] at hf go ⊢
     obtain ⟨n, e2, a, b⟩ := rngA_int (lo := 0) (hi := 60) hf
     rw [e2] at go ⊢
     rw [if_neg (by decide), if_neg (by decide)]
     exact ⟨_, strA_int ⟨a, by omega⟩, hs, go⟩
 · rw [Nat.zero_add] at hI
   exact g.fin (Nat.le_refl _) hI h
theorem sealw (e : lk gd_MADE_OF w = some ks) {k : Str} (hk : k ∈ ks) (h1 : k ≠ "body") (h2 : k ≠ "signs") : ([("harm" : Str), ("lose" : Str), ("heal" : Str)].any λ y => decide (y = w)) = decide (k = "seal") := by
 have hA : (gd_MADE_OF.all λ q => q.2.all λ k => ((decide (k = "body") || decide (k = "signs")) || (([("harm" : Str), ("lose" : Str), ("heal" : Str)].any λ y => decide (y = q.1)) == decide (k = "seal")))) = true := by decide +kernel
 have := List.all_eq_true.mp (List.all_eq_true.mp hA _ (lk_mem e)) k hk
 rw [decide_eq_false h1, decide_eq_false h2, Bool.false_or, Bool.false_or] at this
 exact eq_of_beq this
theorem writtenX {P : Str -> Prop} (g : Dk w ks us) (h : P (dText w ks us)) : p_l_written (.tuple (.str w :: us)) P := by
 unfold p_l_written
 have ec : cutL (PyData.str w :: us) (some 1) none = us := by rw [cut_lo (by decide)]; rfl
 refine ⟨.str w, atI_zero, w, rfl, .str w :: us, (eV_A _).symm, ?_⟩
 rw [ec]
 refine forD_inv (λ i s => s = w :: ((ks.zip us).take i).map λ q => wrd q.1 q.2) (n := 0) rfl (λ i q s kk hq hI hk => ?_) λ s hI => ?_
 · rw [Nat.zero_add] at hI hk
   have hi := (List.getElem?_eq_some_iff.mp hq).1
   rw [enumF_len] at hi
   have hi2 : i < (ks.zip us).length := by rw [List.length_zip, g.l]; omega
   have hz : (ks.zip us)[i]? = some ((ks.zip us)[i]) := List.getElem?_eq_getElem hi2
   have hd : ((ks.zip us)[i]).2 = q.2 := by
     rw [enumF_get, List.getElem?_eq_getElem hi] at hq
     have := Option.some.inj hq
     rw [List.getElem_zip, <- this]
   have hm := g.f _ (List.mem_of_getElem? hz)
   have hkm := (List.of_mem_zip (List.mem_of_getElem? hz)).1
   have go : kk (sno s (wrd ((ks.zip us)[i]).1 ((ks.zip us)[i]).2)) := hk _ (by rw [hI]; exact take_next hz)
   have hs := g.short hI
   rw [hd] at hm go
   generalize ((ks.zip us)[i]).1 = k at *
   obtain ⟨q1, d⟩ := q
   obtain ⟨hkn, hf⟩ := hm
   dsimp only at hkn hf go ⊢
   have sw_ := λ h1 h2 => sealw g.e (k := k) hkm h1 h2
   unfold Kn at hkn
   simp only [List.mem_cons, List.not_mem_nil, or_false] at hkn
   have word : ∀ {x : Str} {d : PyData}, isA "list" d = false -> (([("harm" : Str), ("lose" : Str), ("heal" : Str)]).any λ y => decide (y = w)) = false -> strA d = some x -> kk (sno s x) ->
       (if (isA "list" d) = true then (∃ x46 : (List Int), d = (eL eI) x46 /\ p_l_listed x46 λ x51 => (s).length < 100000 /\ kk (sno s x51)) else (∃ x59, atI (PyData.str w :: us) 0 = some x59 /\ ∃ x68 : Str, x59 = eS x68 /\ if (([("harm" : Str), ("lose" : Str), ("heal" : Str)]).any λ y => decide (y = x68)) = true then (∃ x72 : Int, d = eI x72 /\ p_l_hex x72 λ x76 => (s).length < 100000 /\ kk (sno s x76)) else (∃ x84, strA d = some x84 /\ (s).length < 100000 /\ kk (sno s x84)))) := λ h1 h2 h3 h4 => by
     rw [if_neg (by rw [h1]; decide)]
     refine ⟨.str w, atI_zero, w, rfl, ?_⟩
     rw [if_neg (by rw [h2]; decide)]
     exact ⟨_, h3, hs, h4⟩
   rcases hkn with rfl | rfl | rfl | rfl | rfl | rfl | rfl | rfl
   · obtain ⟨s2, rfl, g2⟩ := nameB_GN hf
     exact word rfl ((sw_ (by decide) (by decide)).trans (by decide)) (strA_str _) go
   · obtain ⟨ns, rfl, a, b, g2⟩ := signsA_list (lo := 0) (hi := 48) hf
     rw [wrd_list] at go
     exact (if_pos rfl).mpr ⟨ns, rfl, listedX ⟨by omega, g2⟩ ⟨hs, go⟩⟩
   · obtain ⟨n, rfl, a, b⟩ := rngA_int (lo := 0) (hi := 1000000) hf
     exact word rfl ((sw_ (by decide) (by decide)).trans (by decide)) (strA_int ⟨a, b⟩) go
   · obtain ⟨s2, rfl, g2⟩ := kindB_GN hf
     exact word rfl ((sw_ (by decide) (by decide)).trans (by decide)) (strA_str _) go
   · obtain ⟨ns, g2, rfl⟩ := sealB_sg hf
     refine (if_neg (by rw [show isA "list" (eI (sealN ns)) = false from rfl]; decide)).mpr ⟨.str w, atI_zero, w, rfl, ?_⟩
     rw [if_pos ((sw_ (by decide) (by decide)).trans (by decide))]
     exact ⟨_, rfl, lhex_ok (seal60 g2) ⟨hs, go⟩⟩
   · obtain ⟨ns, rfl, a, b, g2⟩ := signsA_list (lo := 0) (hi := 16) hf
     rw [wrd_list] at go
     exact (if_pos rfl).mpr ⟨ns, rfl, listedX ⟨by omega, g2⟩ ⟨hs, go⟩⟩
   · obtain ⟨ns, rfl, a, b, g2⟩ := signsA_list (lo := 1) (hi := 16) hf
     rw [wrd_list] at go
     exact (if_pos rfl).mpr ⟨ns, rfl, listedX ⟨by omega, g2⟩ ⟨hs, go⟩⟩
   · obtain ⟨n, rfl, a, b⟩ := rngA_int (lo := 0) (hi := 60) hf
     exact word rfl ((sw_ (by decide) (by decide)).trans (by decide)) (strA_int ⟨a, by omega⟩) go
 · rw [Nat.zero_add, enumF_len] at hI
   exact g.fin (by rw [List.length_zip, g.l]; omega) hI h
theorem ownX {ds : List PyData} {P : PyData -> Prop} (hl : ds.length <= 100000) (h : P (.tuple ds)) : p_l_own (.tuple ds) P := by
 unfold p_l_own
 refine ⟨ds, (eV_A _).symm, hl, lcD_map (λ x => x) (λ x hx kk hk => jn_ok (β := PyData) (λ y => y = x) (λ k2 hk2 => ?_) λ y hy => by subst hy; exact hk) ?_⟩
 · by_cases z : isA "list" x = true
   · rw [if_pos z]
     obtain ⟨es, rfl⟩ := isA_list x z
     exact ⟨es, (eL_A es).symm, hk2 _ (eL_A es)⟩
   · rw [if_neg z]
     exact hk2 _ rfl
 · rw [List.nil_append, List.map_id', eV_A]
   exact h
def odg (k x : Str) : OD := if k = "seal" then .fz (eO eI (sw x)) else if k = "content" then .ol (OD.fzs (eO eI) (ws x)) else if k = "body" then .ol (OD.fzs (eO eI) (ws x)) else if k = "signs" then .ol (OD.fzs (eO eI) (ws x)) else if k = "time" then .fz (eO eI (wh x)) else if k = "blocks" then .fz (eO eI (wh x)) else .fz (eS x)
theorem odg_fgt (k x : Str) : (odg k x).fgt = thg k x := by
 unfold odg thg
 split
 · rfl
 · split
   · exact OD.fgt_ol _ _
   · split
     · exact OD.fgt_ol _ _
     · split
       · exact OD.fgt_ol _ _
       · split
         · rfl
         · split
           · rfl
           · rfl
theorem thingO {k x : Str} {P : OD -> Prop} (hk : Kn k) (wl : x.length <= 90000) (h : P (odg k x)) : p_thing_of k x P := by
 unfold Kn at hk
 simp only [List.mem_cons, List.not_mem_nil, or_false] at hk
 unfold p_thing_of
 rcases hk with rfl | rfl | rfl | rfl | rfl | rfl | rfl | rfl
 · rw [if_neg (by decide), if_neg (by decide), if_neg (by decide)]
   exact h
 · rw [if_neg (by decide), if_pos (by decide)]
   exact signsw_ok wl h
 · rw [if_neg (by decide), if_neg (by decide), if_pos (by decide)]
   exact whole_ok (by omega) h
 · rw [if_neg (by decide), if_neg (by decide), if_neg (by decide)]
   exact h
 · rw [if_pos (by decide)]
   exact sealw_ok (by omega) h
 · rw [if_neg (by decide), if_pos (by decide)]
   exact signsw_ok wl h
 · rw [if_neg (by decide), if_pos (by decide)]
   exact signsw_ok wl h
 · rw [if_neg (by decide), if_neg (by decide), if_pos (by decide)]
   exact whole_ok (by omega) h
def odl (w : Str) (ks : List Str) (us : List PyData) : List OD := .fz (eS w) :: (ks.zip (wds ks us)).map λ q => odg q.1 q.2
theorem Dk.fgt (g : Dk w ks us) : (OD.ot (odl w ks us)).fgt = .tuple (.str w :: us) := by
 show PyData.tuple (OD.fgtAll (odl w ks us)) = _
 rw [OD.fgtAll_map]
 have e : (odl w ks us).map OD.fgt = .str w :: us := by
   show eS w :: ((ks.zip (wds ks us)).map λ q => odg q.1 q.2).map OD.fgt = _
   rw [List.map_map]
   have : ((ks.zip (wds ks us)).map (OD.fgt ∘ λ q => odg q.1 q.2)) = things (ks.zip (wds ks us)) := List.map_congr_left λ q _ => odg_fgt q.1 q.2
   rw [this, (things_go g.l g.f).1]
 rw [e]
theorem odg_list {k x : Str} (hx : x.length <= 90000) : (∃ l, odg k x = .ol l /\ l.length < 100000) \/ isA "list" (odg k x).fgt = false := by
 have opt : ∀ y : Option Int, isA "list" (OD.fz (eO eI y)).fgt = false := λ y => by cases y <;> rfl
 have sg : ∃ l, OD.ol (OD.fzs (eO eI) (ws x)) = .ol l /\ l.length < 100000 := by
   refine ⟨_, rfl, ?_⟩
   unfold OD.fzs
   rw [List.length_map]
   unfold ws
   split
   · decide
   · rw [List.length_map]
     have := split_tot x (y := ("," : Str)) rfl
     omega
 unfold odg
 split
 · exact .inr (opt _)
 · split
   · exact .inl sg
   · split
     · exact .inl sg
     · split
       · exact .inl sg
       · split
         · exact .inr (opt _)
         · split
           · exact .inr (opt _)
           · exact .inr rfl
theorem readX {P : OD -> Prop} (g : Dk w ks us) (h : P (OD.ot (odl w ks us))) : p_read_deed (dText w ks us) P := by
 unfold p_read_deed
 have hl := g.len
 have ln := g.ln
 have hkl := g.l
 refine ⟨by omega, w, wds ks us, g.split, jn_ok (λ c => c = false) (λ k1 hk1 => ?_) λ c hc => ?_⟩
 · rw [g.e, if_neg (by simp)]
   exact ⟨ks, rfl, hk1 _ (by rw [decide_eq_true (by omega)]; rfl)⟩
 · subst hc
   refine (if_neg (by decide)).mpr ⟨ks, g.e, by rw [List.length_zip]; omega, lcD_map (λ q : Str × Str => odg q.1 q.2) (λ q hq kk hk => thingO (kn_all _ (lk_mem g.e) _ (List.of_mem_zip hq).1) (Nat.le_trans (g.wz _ (List.mem_cons_of_mem _ (List.of_mem_zip hq).2)).2 (by decide)) hk) ?_⟩
   rw [List.nil_append]
   have e : ([(OD.fz (eS w))] ++ (ks.zip (wds ks us)).map λ q : Str × Str => odg q.1 q.2) = odl w ks us := rfl
   rw [e, g.fgt]
   refine ⟨by rw [List.length_map, List.length_zip]; show 1 + _ <= _; omega, isd_a g.d.thg.wi ?_⟩
   rw [show deedB (.tuple (.str w :: us)) = true from g.d.ok]
   exact (if_neg (by decide)).mpr h
end
theorem txt_alk {s : Str} (h : ∀ c ∈ s.cps.toList, c < 1000) (hl : s.length <= 2500) : AlkOk (.str s) := by
 refine (show Shn 0 100000 (.str s) from ⟨?_, rfl, by simp [PyData.depth], ?_⟩).alk (by decide) (by decide)
 · show SeqAt.shaped (.str s) = true
   unfold SeqAt.shaped
   rw [Bool.and_eq_true]
   refine ⟨?_, by simp [PyData.depth]⟩
   simp only [PyData.canLay0, PyData.strOk]
   rw [Array.all_eq_true']
   intro c hc
   have := h c (by simpa using hc)
   exact decide_eq_true (by omega)
 · have hx : ∀ c ∈ s.cps.toList, c < 16 ^ 8 := λ c hc => by
     have := h c hc
     omega
   have e := PySem.StrLaws.reprText_len s hx
   simp only [PyData.shown]
   omega
theorem deed_eq {w : Str} {us : List PyData} (g : Deed w us) : EqOk (.tuple (.str w :: us)) := by
 have h2 := layA (n := 2) (ds := .str w :: us) λ d hd => by
   rcases List.mem_cons.mp hd with rfl | hd
   · exact ⟨SeqAt.canLay_of_shaped (Shn.wd g.wd).ok, by simp [PyData.depth]⟩
   · have := (g.pt d hd).lay
     exact ⟨this.1, by omega⟩
 show SeqAt.shaped _ = true
 unfold SeqAt.shaped
 rw [Bool.and_eq_true]
 refine ⟨by simpa [PyData.canLay0] using h2.1, decide_eq_true ?_⟩
 simp only [PyData.depth]
 omega
theorem eq_self {d : PyData} (h : EqOk d) : (!PyData.eqv d d) = false := by
 rw [SeqAt.eqv_refl d (SeqAt.canLay_of_shaped h)]
 rfl
theorem law_plain : p_law (λ b => b = true) := by
 unfold p_law
 refine names_ok (by decide) λ ns nl hn => tk (by decide) λ n7 n0 n1 => ⟨by decide, ?_⟩
 have nn : ns ≠ [] := λ z => by rw [z] at nl; cases nl
 have g16 : Sg (repL ([999] : List Int) 16) := ⟨by decide, by decide, λ m hm => by rcases List.mem_singleton.mp (repL_mem hm) with rfl; decide⟩
 refine forD_inv (λ i (s : List (Str × PyData)) => s.length <= i /\ ∀ t d, lk s t = some d -> dueD t = d) (n := 0) ⟨Nat.le_refl _, λ t d h => nomatch h⟩ (λ i x s kk hx hI hk => ?_) λ _ _ => rfl
 have i24 : i < 24 := by
   have := (List.getElem?_eq_some_iff.mp hx).1
   rwa [rng_len] at this
 rw [Nat.zero_add] at hI hk
 refine lsigns91_ok (.inr rfl) λ a a0 a1 ga => lseal_of_ok ga a1 ⟨by decide, lseal_of_ok g16.2.2 (by decide) (tk (by decide) λ n63 m0 m1 => lseal_of_ok (λ m hm => by rcases List.mem_singleton.mp hm with rfl; omega) (show 1 <= 16 by decide) ?_)⟩
 refine shaped_ok nn (by rw [nl]; decide) hn (by simp) (show 3 <= 20 by decide) (λ t ht => ?_) (by simp) (show 4 <= 20 by decide) (λ t ht => ?_) λ w us g => ?_
 · simp only [List.mem_cons, List.not_mem_nil, or_false] at ht
   rcases ht with rfl | rfl | rfl
   · exact ⟨by decide, by decide⟩
   · exact ⟨by decide, by decide⟩
   · exact ⟨n0, by omega⟩
 · simp only [List.mem_cons, List.not_mem_nil, or_false] at ht
   rcases ht with rfl | rfl | rfl | rfl
   · exact ⟨a, ⟨by omega, a1, ga⟩, rfl⟩
   · exact ⟨_, g16, rfl⟩
   · exact ⟨[n63], ⟨Nat.le_refl 1, by show 1 <= 16; decide, λ m hm => by rcases List.mem_singleton.mp hm with rfl; omega⟩, rfl⟩
   · exact ⟨[0], ⟨by decide, by decide, by decide⟩, rfl⟩
 · obtain ⟨ks, gk⟩ := g.dk
   have gt := g.thg
   have ge := deed_eq g
   have l5 : (PyData.str w :: us).length <= 5 := by rw [List.length_cons]; have := g.ln; omega
   refine writtenX gk (ownX (by omega) ⟨by decide, forD_inv (λ _ _ => True) (n := 0) trivial (λ j y s2 k2 _ _ hk2 => ?_) λ _ _ => ?_⟩)
   · refine jn_ok (λ c => c = false) (λ k3 hk3 => show_ok gk ⟨⟨rfl, txt_alk gk.signs gk.len⟩, ⟨ge, ge⟩, hk3 _ (eq_self ge)⟩) λ c hc => ?_
     subst hc
     refine (if_neg (by decide)).mpr (readX gk ⟨⟨gk.fgt, by rw [gk.fgt]; exact gt.sh.alk (by decide) (by decide)⟩, _, rfl, ?_⟩)
     refine forD_inv (λ _ _ => True) (n := 0) trivial (λ m z s3 k3 hz _ hk3 => ?_) λ _ _ => hk2 () trivial
     have hz := List.mem_of_getElem? hz
     have key : (∃ l, z = .ol l /\ l.length < 100000) \/ isA "list" z.fgt = false := by
       rcases List.mem_cons.mp hz with rfl | hz
       · exact .inr rfl
       · obtain ⟨q, hq, rfl⟩ := List.mem_map.mp hz
         exact odg_list (Nat.le_trans (gk.wz _ (List.mem_cons_of_mem _ (List.of_mem_zip hq).2)).2 (by decide))
     by_cases c : isA "list" z.fgt = true
     · rw [if_pos c]
       rcases key with ⟨l, rfl, hl⟩ | q
       · exact ⟨l, rfl, hl, 0, by unfold ixN; simp [sno], hk3 () trivial⟩
       · rw [q] at c
         cases c
     · rw [if_neg c]
       exact hk3 () trivial
   · have e : (lk s (dText w ks us)).getD (.tuple (.str w :: us)) = .tuple (.str w :: us) := by
       cases q : lk s (dText w ks us) with
       | none => rfl
       | some d =>
         have := hI.2 _ _ q
         rw [gk.due] at this
         exact this.symm
     rw [e]
     refine ⟨⟨ge, ge⟩, (if_neg (by rw [show (!PyData.eqv (eA (PyData.tuple (PyData.str w :: us))) (eA (PyData.tuple (PyData.str w :: us)))) = false from eq_self ge]; decide)).mpr ⟨by have := hI.1; omega, hk _ ⟨?_, λ t d h => ?_⟩⟩⟩
     · have := pk_len s (dText w ks us) (PyData.tuple (PyData.str w :: us))
       have := hI.1
       omega
     · rw [lk_pk] at h
       by_cases z : t = dText w ks us
       · rw [if_pos z] at h
         cases h
         rw [z]
         exact gk.due
       · rw [if_neg z] at h
         exact hI.2 t d h
abbrev t_law_18 (K : Fr) : TS := (tSeq (tDrop (tBM K "list" rAppend (tVar 12) (tCons (tC (.int 5)) tNil)))
 (tAsg (tC (.int 6)) (gSub (tVar 12) (tC (.int 0)) uSet)))
abbrev t_law_17 (K : Fr) : TS := (tIfS (tB (tCB (uIsi K) (tCons (tVar 12) (tCons (tC (.ty "list")) tNil)))) (t_law_18 K) tNext)
abbrev t_law_16 (K : Fr) : TS := (tFor (iTup K (tVar 11)) (gName 12) (t_law_17 K))
abbrev t_law_14 (K : Fr) : TS := (tSeq (tIfS (tNot (tB (tCall (sp_l_alike K) [] E0 (tCons (tVar 11) (tCons (tVar 7) tNil))))) (tRet (tC (.bl false))) tNext)
 (t_law_16 K))
abbrev t_law_13 (K : Fr) : TS := (tSeq (tAsg (tCall (sp_read_deed K) [] E0 (tCons (tVar 8) tNil)) (gName 11))
 (t_law_14 K))
abbrev t_law_11 (K : Fr) : TS := (tSeq (tIfS (tOr (tNot (tB (tCall (sp_l_alike K) [] E0 (tCons (tCall (sp_show_deed K) [] E0 (tCons (tVar 9) tNil)) (tCons (tVar 8) tNil))))) (tTest (tOp (uNe K) (tVar 9) (tVar 7)))) (tRet (tC (.bl false))) tNext)
 (t_law_13 K))
abbrev t_law_20 (K : Fr) : TS := (tSeq (tIfS (tTest (tOp (uNe K) (tDGet2 (tVar 4) (tVar 8) (tVar 7)) (tVar 7))) (tRet (tC (.bl false))) tNext)
 (tAsg (tVar 7) (gSub (tVar 4) (tVar 8) uSet)))
abbrev t_law_10 (K : Fr) : TS := (tSeq (tFor (iRng1 (tCons (tC (.int 2)) tNil)) (gName 10) (t_law_11 K))
 (t_law_20 K))
abbrev t_law_9 (K : Fr) : TS := (tSeq (tAsg (tCall (sp_l_own K) [] E0 (tCons (tVar 7) tNil)) (gName 9))
 (t_law_10 K))
abbrev t_law_8 (K : Fr) : TS := (tSeq (tAsg (tCall (sp_l_written K) [] E0 (tCons (tVar 7) tNil)) (gName 8))
 (t_law_9 K))
abbrev t_law_7 (K : Fr) : TS := (tSeq (tAsg (tCall (sp_l_shaped K) [] E0 (tCons (tVar 1) (tCons (tVar 2) (tCons (tVar 3) (tCons (tVar 6) tNil))))) (gName 7))
 (t_law_8 K))
abbrev t_law_6 (K : Fr) : TS := (tSeq (tAsg (tLst (tCons (tCall (sp_l_seal_of K) [] E0 (tCons (tCall (sp_l_signs K) [] E0 (tCons (tVar 1) (tCons (tC (.int 1)) tNil))) tNil)) (tCons (tCall (sp_l_seal_of K) [] E0 (tCons (tOp rRep (tLst (tCons (tC (.int 999)) tNil)) (tC (.int 16))) tNil)) (tCons (tCall (sp_l_seal_of K) [] E0 (tCons (tLst (tCons (tCall (sp_l_take K) [] E0 (tCons (tVar 1) (tCons (tC (.int 16)) tNil))) tNil)) tNil)) (tCons (tC (.int 1)) tNil))))) (gName 6))
 (t_law_7 K))
abbrev t_law_5 (K : Fr) : TS := (tSeq (tFor (iRng1 (tCons (tC (.int 24)) tNil)) (gName 5) (t_law_6 K))
 (tRet (tC (.bl true))))
abbrev t_law_4 (K : Fr) : TS := (tSeq (tAsg tDNewK (gName 4))
 (t_law_5 K))
abbrev t_law_3 (K : Fr) : TS := (tSeq (tAsg (tLst (tCons (tC (.int 0)) (tCons (tC (.int 1000000)) (tCons (tCall (sp_l_take K) [] E0 (tCons (tVar 1) (tCons (tC (.int 1000001)) tNil))) tNil)))) (gName 3))
 (t_law_4 K))
abbrev t_law_2 (K : Fr) : TS := (tSeq (tAsg (tCall (sp_l_names K) [] E0 (tCons (tVar 1) (tCons (tC (.int 4)) tNil))) (gName 2))
 (t_law_3 K))
abbrev t_law_1 (K : Fr) : TS := (tSeq (tAsg (tCall (sp_l_bag K) [] E0 (tCons (tVar 0) tNil)) (gName 1))
 (t_law_2 K))
abbrev t_law (K : Fr) : TS := (t_law_1 K)
theorem pure_law {K : Fr} (vs : List V) (H : Hp) (Q : VK) (E : XK) (h : sp_law K vs H Q E) : t_law K { nx := λ _ H' => Q .non H', rt := Q } (L2.start ["_law_script", "_law_bag_here", "_law_names_here", "_law_times", "_law_texts", "_law_k", "_law_seals", "_law_deed", "_law_text", "_law_handed", "_law_turn", "_law_found", "_law_part"] vs) H := by
 obtain ⟨sc, sn, rfl, hS, hl, k⟩ := h
 have hf := law_plain
 show t_law K _ [some (V.ref sc), none, none, none, none, none, none, none, none, none, none, none, none] H
 refine g_seq (g_asg (g_call (g_cons (g_var rfl (g_nil (u_bag (M.start hS) (λ H S => S.gotR 0 rfl) hl λ bag H1 S1 => ?_))))))
 generalize [rdL K sc (sn.map V.int)] = Rs at S1
 refine g_nx (g_seq (g_asg (g_call (g_cons (g_var rfl (g_cons (g_c (g_nil (⟨_, _, _, _, rfl, (M.at S1 0 rfl), hf, λ x1 u4 H3 hf (S2 : M (da K u4 ((eL eS) x1) :: _ :: Rs) H3) => ?_⟩)))))))))
 refine g_nx ?_
 show (_ : TS) _ [some (V.ref sc), some (V.ref bag), some u4, none, none, none, none, none, none, none, none, none, none] _
 refine g_seq (g_asg (g_lst (g_cons (g_c (g_cons (g_c (g_cons (g_call (g_cons (g_var rfl (g_cons (g_c (g_nil ?_)))))))))))))
 obtain ⟨h6, hf⟩ := hf
 refine u_take (S2.at 1 rfl) h6 λ n7 H9 n7l n7u (S8 : M (oo2 Rs) H9) => ?_
 replace hf := hf n7 n7l n7u
 refine g_nil (v_lsto (ds := ([0, 1000000, n7]).map eI) S8 (EnF.consA (EnF.all λ _ => .int _) (EnF.consA (EnF.all λ _ => .int _) (EnF.consA (EnF.all λ _ => .int _) EnF.nilA))) (len_ok rfl) λ p10 H12 (S11 : M (acR K p10 (([0, 1000000, n7]).map eI) :: oo2 Rs) H12) => ?_)
 have S14 : M (da K (V.ref p10) ((eL eI) ([0, 1000000, n7])) :: oo2 Rs) H12 := acR_fixL S11
 refine g_nx ?_
 show (_ : TS) _ [some (V.ref sc), some (V.ref bag), some u4, some (V.ref p10), none, none, none, none, none, none, none, none, none] _
 refine g_seq (g_asg (v_dnewo S14 λ p16 H18 (S17 : M (adR K iS eA p16 ([] : (List (Str × PyData))) :: oo3 Rs) H18) => ?_))
 refine g_nx ?_
 show (_ : TS) _ [some (V.ref sc), some (V.ref bag), some u4, some (V.ref p10), some (V.ref p16), none, none, none, none, none, none, none, none] _
 obtain ⟨h20, hf⟩ := hf
 refine g_seq (g_for (g_iRng1 (g_cons (g_c (g_nil (v_itR h20 ?_))))))
 refine for_rng (β := (List (Str × PyData))) hf (λ (s21 : (List (Str × PyData))) σ H' => ∃ (o26 : Option V) (o27 : Option V) (o28 : Option V) (o29 : Option V) (o30 : Option V) (o31 : Option V) (o32 : Option V) (o33 : Option V), σ = [some (V.ref sc), some (V.ref bag), some u4, some (V.ref p10), some (V.ref p16), o26, o27, o28, o29, o30, o31, o32, o33] /\ M (adR K iS eA p16 s21 :: da K (V.ref p10) ((eL eI) ([0, 1000000, n7])) :: bagR bag :: da K u4 ((eL eS) x1) :: Rs) H') ⟨_, _, _, _, _, _, _, _, rfl, (M.pk S17 4 [0, 1, 2, 3] rfl)⟩ ?_ ?_
 ·
  rintro x24 s21 _ H35 kk23 ⟨o26, o27, o28, o29, o30, o31, o32, o33, rfl, S34⟩ hf
  refine g_name (g_seq (g_asg (g_lst (g_cons (g_call (g_cons (g_call (g_cons (g_var rfl (g_cons (g_c (g_nil (⟨_, _, _, _, rfl, (M.at S34 2 rfl), hf, λ x36 u39 H38 hf (S37 : M (da K u39 ((eL eI) x36) :: oo4 Rs) H38) => ?_⟩)))))))))))))
  refine g_nil (⟨_, _, _, _, rfl, (M.addA S37 (EnF.at 0 rfl)), hf, λ x42 H44 hf (S43 : M (oo5 Rs) H44) => ?_⟩)
  refine g_cons (g_call (g_cons (g_op (g_lst (g_cons (g_c (g_nil (v_lsto (ds := ([999] : List Int).map eI) S43 (EnF.consA (EnF.all λ _ => .int _) EnF.nilA) (len_ok rfl) λ p46 H48 (S47 : M (acR K p46 (([999] : List Int).map eI) :: oo5 Rs) H48) => ?_))))))))
  refine g_c ?_
  obtain ⟨h50, hf⟩ := hf
  refine v_repO (e := eI) S47 0 rfl h50 λ p51 H53 (S52 : M (acR K p51 ((repL ([999] : List Int) 16).map eI) :: oo6 Rs) H53) => ?_
  have S55 : M (da K (V.ref p51) ((eL eI) (repL ([999] : List Int) 16)) :: oo6 Rs) H53 := acR_fixL S52
  refine g_nil (⟨_, _, _, _, rfl, (M.addA S55 (EnF.at 0 rfl)), hf, λ x58 H60 hf (S59 : M (oo7 Rs) H60) => ?_⟩)
  refine g_cons (g_call (g_cons (g_lst (g_cons (g_call (g_cons (g_var rfl (g_cons (g_c (g_nil ?_))))))))))
  obtain ⟨h62, hf⟩ := hf
  refine u_take (S59.at 3 rfl) h62 λ n63 H65 n63l n63u (S64 : M (oo7 Rs) H65) => ?_
  replace hf := hf n63 n63l n63u
  refine g_nil (v_lsto (ds := ([n63]).map eI) S64 (EnF.consA (EnF.all λ _ => .int _) EnF.nilA) (len_ok rfl) λ p66 H68 (S67 : M (acR K p66 (([n63]).map eI) :: oo7 Rs) H68) => ?_)
  have S70 : M (da K (V.ref p66) ((eL eI) ([n63])) :: oo7 Rs) H68 := acR_fixL S67
  refine g_nil (⟨_, _, _, _, rfl, (M.addA S70 (EnF.at 0 rfl)), hf, λ x73 H75 hf (S74 : M (oo8 Rs) H75) => ?_⟩)
  refine g_cons (g_c (g_nil (v_lsto (ds := ([x42, x58, x73, 1]).map eI) S74 (EnF.consA (EnF.all λ _ => .int _) (EnF.consA (EnF.all λ _ => .int _) (EnF.consA (EnF.all λ _ => .int _) (EnF.consA (EnF.all λ _ => .int _) EnF.nilA)))) (len_ok rfl) λ p77 H79 (S78 : M (acR K p77 (([x42, x58, x73, 1]).map eI) :: oo8 Rs) H79) => ?_)))
  have S81 : M (da K (V.ref p77) ((eL eI) ([x42, x58, x73, 1])) :: oo8 Rs) H79 := acR_fixL S78
  refine g_nx ?_
  show (_ : TS) _ [some (V.ref sc), some (V.ref bag), some u4, some (V.ref p10), some (V.ref p16), some (V.int x24), some (V.ref p77), o28, o29, o30, o31, o32, o33] _
  have S83 : M (oo6 Rs) H79 := (M.drp (M.drp (M.drp S81 5) 3) 1)
  refine g_seq (g_asg (g_call (g_cons (g_var rfl (g_cons (g_var rfl (g_cons (g_var rfl (g_cons (g_var rfl (g_nil (⟨_, _, _, _, _, _, _, _, _, rfl, (M.at (M.addA (M.addA (M.addA S83 (EnF.at 0 rfl)) (EnF.at 5 rfl)) (EnF.at 7 rfl)) 4 rfl), hf, λ x87 u90 H89 hf (S88 : M (da K u90 (eA x87) :: oo6 Rs) H89) => ?_⟩))))))))))))
  refine g_nx ?_
  show (_ : TS) _ [some (V.ref sc), some (V.ref bag), some u4, some (V.ref p10), some (V.ref p16), some (V.int x24), some (V.ref p77), some u90, o29, o30, o31, o32, o33] _
  refine g_seq (g_asg (g_call (g_cons (g_var rfl (g_nil (⟨_, _, _, _, rfl, (M.addA S88 (EnF.at 0 rfl)), hf, λ x93 H95 hf (S94 : M (oo7 Rs) H95) => ?_⟩))))))
  refine g_nx ?_
  show (_ : TS) _ [some (V.ref sc), some (V.ref bag), some u4, some (V.ref p10), some (V.ref p16), some (V.int x24), some (V.ref p77), some u90, some (V.str x93), o30, o31, o32, o33] _
  refine g_seq (g_asg (g_call (g_cons (g_var rfl (g_nil (⟨_, _, _, _, rfl, (M.addA S94 (EnF.at 0 rfl)), hf, λ x98 u101 H100 hf (S99 : M (da K u101 (eA x98) :: oo7 Rs) H100) => ?_⟩))))))
  refine g_nx ?_
  show (_ : TS) _ [some (V.ref sc), some (V.ref bag), some u4, some (V.ref p10), some (V.ref p16), some (V.int x24), some (V.ref p77), some u90, some (V.str x93), some u101, o31, o32, o33] _
  obtain ⟨h103, hf⟩ := hf
  refine g_seq (g_for (g_iRng1 (g_cons (g_c (g_nil (v_itR h103 ?_))))))
  refine for_rng (β := Unit) hf (λ (s104 : Unit) σ H' => ∃ (o108 : Option V) (o109 : Option V) (o110 : Option V), σ = [some (V.ref sc), some (V.ref bag), some u4, some (V.ref p10), some (V.ref p16), some (V.int x24), some (V.ref p77), some u90, some (V.str x93), some u101, o108, o109, o110] /\ M (da K u101 (eA x98) :: da K u90 (eA x87) :: bagR bag :: da K (V.ref p77) ((eL eI) ([x42, x58, x73, 1])) :: acR K p46 (([999] : List Int).map eI) :: adR K iS eA p16 s21 :: da K (V.ref p10) ((eL eI) ([0, 1000000, n7])) :: da K u4 ((eL eS) x1) :: Rs) H') ⟨_, _, _, rfl, (M.pk S99 8 [0, 1, 2, 3, 4, 5, 6, 7] rfl)⟩ ?_ ?_
  ·
   rintro x107 s104 _ H112 kk106 ⟨o108, o109, o110, rfl, S111⟩ hf
   refine g_name (g_seq (g_if ?_))
   refine tt_cut hf (λ H => M (da K u101 (eA x98) :: da K u90 (eA x87) :: bagR bag :: da K (V.ref p77) ((eL eI) ([x42, x58, x73, 1])) :: acR K p46 (([999] : List Int).map eI) :: adR K iS eA p16 s21 :: da K (V.ref p10) ((eL eI) ([0, 1000000, n7])) :: da K u4 ((eL eS) x1) :: Rs) H) (λ kk114 P115 hP116 hf => ?_) ?_
   ·
    refine g_or (g_not (g_B (g_call (g_cons (g_call (g_cons (g_var rfl (g_nil (⟨_, _, _, _, rfl, (M.addA S111 (EnF.at 0 rfl)), hf, λ x120 H122 hf (S121 : M (oo8 Rs) H122) => ?_⟩)))))))))
    refine g_cons (g_var rfl (g_nil ?_))
    obtain ⟨h124, hf⟩ := hf
    refine ⟨_, _, _, rfl, (.str _), (Dn.by_ h124.1 (.str _)), h124.2, ?_⟩
    obtain ⟨h125, hf⟩ := hf
    refine g_bl (v_ifcF (by decide) (g_test (g_op (g_var rfl (g_var rfl (v_neq (M.gotA S121 0 rfl) (M.gotA S121 1 rfl) h125.1 h125.2 (g_bl ?_)))))))
    exact hP116 _ _ hf (M.pk S121 8 [0, 1, 2, 3, 4, 5, 6, 7] rfl)
   intro c113 H127 hf S126
   refine v_iff hf (λ _ hf => ?_) (λ _ hf => ?_)
   ·
    refine g_ret (g_c ?_)
    rw [show false = true from hf]
    exact k _
   ·
    refine g_next (g_nx (g_seq (g_asg (g_call (g_cons (g_var rfl (g_nil (⟨_, _, _, rfl, S126, hf, λ x128 u131 H130 hf (S129 : M (odR K u131 x128 :: da K u101 (eA x98) :: da K u90 (eA x87) :: bagR bag :: da K (V.ref p77) ((eL eI) ([x42, x58, x73, 1])) :: acR K p46 (([999] : List Int).map eI) :: adR K iS eA p16 s21 :: da K (V.ref p10) ((eL eI) ([0, 1000000, n7])) :: da K u4 ((eL eS) x1) :: Rs) H130) => ?_⟩))))))))
    refine g_nx ?_
    show (_ : TS) _ [some (V.ref sc), some (V.ref bag), some u4, some (V.ref p10), some (V.ref p16), some (V.int x24), some (V.ref p77), some u90, some (V.str x93), some u101, some (V.int x107), some u131, o110] _
    refine g_seq (g_if (g_not (g_B (g_call (g_cons (g_var rfl (g_cons (g_var rfl (g_nil ?_)))))))))
    obtain ⟨h133, hf⟩ := hf
    refine ⟨_, _, _, rfl, (M.dnOD S129 0 rfl), (Dn.by_ h133.1 (Dq.dn (M.gotA S129 2 rfl))), h133.2, ?_⟩
    refine g_bl (v_ifcF (by decide) (g_next (g_nx (g_for (g_iTup (g_var rfl ?_))))))
    obtain ⟨l134, h135, hf⟩ := hf
    have S144 : M (odR K u131 (OD.ot l134) :: oo8 Rs) H130 := M.odCst (M.pk S129 9 [0, 1, 2, 3, 4, 5, 6, 7, 8] rfl) h135
    refine for_od (K := K) (β := Unit) (l := l134) hf (λ (X : List Res) (s136 : Unit) σ H' => ∃ (o145 : Option V), σ = [some (V.ref sc), some (V.ref bag), some u4, some (V.ref p10), some (V.ref p16), some (V.int x24), some (V.ref p77), some u90, some (V.str x93), some u101, some (V.int x107), some u131, o145] /\ M (X ++ (da K u101 (eA x98) :: da K u90 (eA x87) :: bagR bag :: da K (V.ref p77) ((eL eI) ([x42, x58, x73, 1])) :: acR K p46 (([999] : List Int).map eI) :: adR K iS eA p16 s21 :: da K (V.ref p10) ((eL eI) ([0, 1000000, n7])) :: da K u4 ((eL eS) x1) :: Rs)) H') ⟨_, rfl, S144⟩ (λ X s σ H h => by obtain ⟨q0, e, S⟩ := h; exact ⟨_, S, λ X' H' S' => ⟨q0, e, S'⟩⟩) ?_ ?_
    ·
     rintro u140 x139 W141 s136 _ H147 kk138 N142 ⟨o145, rfl, S148⟩ hf hN143
     have S146 : M (odR K u140 x139 :: W141 :: da K u101 (eA x98) :: da K u90 (eA x87) :: bagR bag :: da K (V.ref p77) ((eL eI) ([x42, x58, x73, 1])) :: acR K p46 (([999] : List Int).map eI) :: adR K iS eA p16 s21 :: da K (V.ref p10) ((eL eI) ([0, 1000000, n7])) :: da K u4 ((eL eS) x1) :: Rs) H147 := S148
     refine g_name (g_if (g_B (g_cb (g_cons (g_var rfl (g_cons (g_c (g_nil (v_isq (M.dnOD S146 0 rfl) (by decide) rfl (g_bl (v_iff hf (λ _ hf => ?_) (λ _ hf => ?_))))))))))))
     ·
      refine g_seq (g_drop (g_bm (g_var rfl ?_)))
      obtain ⟨l150, h151, hf⟩ := hf
      obtain ⟨p152, rfl, S153⟩ := M.odO (M.at S146 0 rfl) h151
      have S155 : M (lsR (odR K) p152 l150 :: oo9 Rs) H147 := S153
      refine M.tyLs S155 0 rfl (g_cons (g_c (g_nil ?_)))
      have S157 : M (odR K (V.int 5) (OD.fz (eI 5)) :: oo10 Rs) H147 := M.addA S155 (EnF.all λ _ => .int _)
      have S158 : M (oo11 Rs) H147 := M.at S157 0 rfl
      obtain ⟨h159, hf⟩ := hf
      refine v_apLs (M.pk S158 11 [0, 1, 2, 3, 4, 5, 6, 7, 8, 9, 10] rfl) h159 λ H161 (S160 : M (lsR (odR K) p152 (sno l150 (OD.fz (eI 5))) :: oo9 Rs) H161) => ?_
      refine g_nx ?_
      show (_ : TS) _ [some (V.ref sc), some (V.ref bag), some u4, some (V.ref p10), some (V.ref p16), some (V.int x24), some (V.ref p77), some u90, some (V.str x93), some u101, some (V.int x107), some u131, some (V.ref p152)] _
      refine g_asgX (g_c (g_sub (g_var rfl (g_c ?_))))
      have S164 : M (odR K (V.int 6) (OD.fz (eI 6)) :: oo10 Rs) H161 := M.addA S160 (EnF.all λ _ => .int _)
      have S165 : M (oo11 Rs) H161 := M.at S164 0 rfl
      obtain ⟨m166, h167, hf⟩ := hf
      refine v_setLs (M.pk S165 11 [0, 1, 2, 3, 4, 5, 6, 7, 8, 9, 10] rfl) h167 λ H169 (S168 : M (lsR (odR K) p152 ((sno l150 (OD.fz (eI 5))).set m166 (OD.fz (eI 6))) :: oo9 Rs) H169) => ?_
      have S172 : M (odR K (V.ref p152) (OD.ol ((sno l150 (OD.fz (eI 5))).set m166 (OD.fz (eI 6)))) :: oo9 Rs) H169 := M.odC (M.at S168 0 rfl)
      exact hN143 (OD.ol ((sno l150 (OD.fz (eI 5))).set m166 (OD.fz (eI 6)))) _ _ _ hf ⟨_, rfl, (M.pk S172 10 [0, 1, 2, 3, 4, 5, 6, 7, 8, 9] rfl)⟩
     ·
      refine g_next ?_
      exact hN143 x139 _ _ _ hf ⟨_, rfl, (M.pk S146 10 [0, 1, 2, 3, 4, 5, 6, 7, 8, 9] rfl)⟩
    rintro W141 s136 _ H174 hf ⟨o145, rfl, S175⟩
    have S173 : M (da K u101 (eA x98) :: da K u90 (eA x87) :: bagR bag :: da K (V.ref p77) ((eL eI) ([x42, x58, x73, 1])) :: acR K p46 (([999] : List Int).map eI) :: adR K iS eA p16 s21 :: da K (V.ref p10) ((eL eI) ([0, 1000000, n7])) :: da K u4 ((eL eS) x1) :: Rs) H174 := M.tl S175
    exact ⟨_, hf, _, _, _, rfl, (M.pk S173 8 [0, 1, 2, 3, 4, 5, 6, 7] rfl)⟩
  rintro s104 _ H177 hf ⟨o108, o109, o110, rfl, S176⟩
  refine g_nx ?_
  show (_ : TS) _ [some (V.ref sc), some (V.ref bag), some u4, some (V.ref p10), some (V.ref p16), some (V.int x24), some (V.ref p77), some u90, some (V.str x93), some u101, o108, o109, o110] _
  haveI : DecidableEq PyData := λ a b => Classical.propDecidable (a = b)
  refine g_seq (g_if (g_test (g_op (g_dget2 (g_var rfl (v_dget2 (M.dvO S176 5 rfl) λ a178 h179 => ?_))))))
  refine g_var rfl (g_var rfl ?_)
  refine v_getA injS rfl (M.addA S176 (EnF.at 1 rfl)) (show DVs K _ _ iS eA (.ref a178) _ from h179 ▸ (M.dvO S176 5 rfl)) λ u180 (S181 : M (da K u180 (eA ((lk s21 x93).getD x87)) :: oo8 Rs) H177) => ?_
  obtain ⟨h183, hf⟩ := hf
  refine g_var rfl (v_neq (M.gotA S181 0 rfl) (M.gotA S181 2 rfl) h183.1 h183.2 (g_bl (v_iff hf (λ _ hf => ?_) (λ _ hf => ?_))))
  ·
   refine g_ret (g_c ?_)
   rw [show false = true from hf]
   exact k _
  ·
   refine g_next (g_nx (g_asgX (g_var rfl (g_sub (g_var rfl (g_var rfl ?_))))))
   obtain ⟨h184, hf⟩ := hf
   refine v_putdS (e := eA) (x := x87) S181 6 rfl (EnF.at 2 rfl) h184 λ H186 (S185 : M (adR K iS eA p16 (pk s21 x93 x87) :: oo8 Rs) H186) => ?_
   exact ⟨_, hf, _, _, _, _, _, _, _, _, rfl, (M.pk S185 9 [0, 7, 4, 8] rfl)⟩
 rintro s21 _ H189 hf ⟨o26, o27, o28, o29, o30, o31, o32, o33, rfl, S188⟩
 refine g_nx ?_
 show (_ : TS) _ [some (V.ref sc), some (V.ref bag), some u4, some (V.ref p10), some (V.ref p16), o26, o27, o28, o29, o30, o31, o32, o33] _
 refine g_ret (g_c ?_)
 rw [show true = true from hf]
 exact k _
abbrev FunE (K : Fr) (n q : Str) (s : Stmt) (kw : List (Str × V)) (ad : Addr) : Prop := FunD K n q (defArgs s) (defBody s) (defScope s) [] kw ad (fdOf K ad)
structure Txt (K : Fr) (mg : Str -> Option Value) : Prop where
 F_l_bag : FunE K "_law_bag" "_law_bag" s_l_bag [] (He.ga K "_law_bag")
 F_l_take : FunE K "_law_take" "_law_take" s_l_take [] (He.ga K "_law_take")
 F_l_names : FunE K "_law_names" "_law_names" s_l_names [] (He.ga K "_law_names")
 F_l_seal_of : FunE K "_law_seal_of" "_law_seal_of" s_l_seal_of [] (He.ga K "_law_seal_of")
 F_l_any : FunE K "_law_any" "_law_any" s_l_any [] (He.ga K "_law_any")
 F_l_signs : FunE K "_law_signs" "_law_signs" s_l_signs [] (He.ga K "_law_signs")
 F_l_words : FunE K "_law_words" "_law_words" s_l_words [] (He.ga K "_law_words")
 F_l_content : FunE K "_law_content" "_law_content" s_l_content [] (He.ga K "_law_content")
 F_l_shaped : FunE K "_law_shaped" "_law_shaped" s_l_shaped [] (He.ga K "_law_shaped")
 F_l_listed : FunE K "_law_listed" "_law_listed" s_l_listed [] (He.ga K "_law_listed")
 F_l_hex : FunE K "_law_hex" "_law_hex" s_l_hex [] (He.ga K "_law_hex")
 F_l_written : FunE K "_law_written" "_law_written" s_l_written [] (He.ga K "_law_written")
 F_l_own : FunE K "_law_own" "_law_own" s_l_own [] (He.ga K "_law_own")
 F_l_alike : FunE K "_law_alike" "_law_alike" s_l_alike [] (He.ga K "_law_alike")
 F_show_seal : FunE K "show_seal" "show_seal" s_show_seal [] (He.ga K "show_seal")
 F_show_signs : FunE K "show_signs" "show_signs" s_show_signs [] (He.ga K "show_signs")
 F_show_deed : FunE K "show_deed" "show_deed" s_show_deed [] (He.ga K "show_deed")
 F_seal_of_word : FunE K "seal_of_word" "seal_of_word" s_seal_of_word [] (He.ga K "seal_of_word")
 F_whole_of : FunE K "whole_of" "whole_of" s_whole_of [] (He.ga K "whole_of")
 F_signs_of_word : FunE K "signs_of_word" "signs_of_word" s_signs_of_word [] (He.ga K "signs_of_word")
 F_thing_of : FunE K "thing_of" "thing_of" s_thing_of [] (He.ga K "thing_of")
 F_is_name : FunE K "is_name" "is_name" s_is_name [] (He.ga K "is_name")
 F_is_whole : FunE K "is_whole" "is_whole" s_is_whole [] (He.ga K "is_whole")
 F_is_sign : FunE K "is_sign" "is_sign" s_is_sign [] (He.ga K "is_sign")
 F_are_signs : FunE K "are_signs" "are_signs" s_are_signs [] (He.ga K "are_signs")
 F_is_content : FunE K "is_content" "is_content" s_is_content [] (He.ga K "is_content")
 F_is_time : FunE K "is_time" "is_time" s_is_time [] (He.ga K "is_time")
 F_is_kind : FunE K "is_kind" "is_kind" s_is_kind [] (He.ga K "is_kind")
 F_is_seal : FunE K "is_seal" "is_seal" s_is_seal [] (He.ga K "is_seal")
 F_is_body : FunE K "is_body" "is_body" s_is_body [] (He.ga K "is_body")
 F_is_piece : FunE K "is_piece" "is_piece" s_is_piece [] (He.ga K "is_piece")
 F_is_blocks : FunE K "is_blocks" "is_blocks" s_is_blocks [] (He.ga K "is_blocks")
 F_is_deed : FunE K "is_deed" "is_deed" s_is_deed [] (He.ga K "is_deed")
 F_read_deed : FunE K "read_deed" "read_deed" s_read_deed [] (He.ga K "read_deed")
 F_law : FunE K "law" "law" s_law [] (He.ga K "law")
 c_SEAL_FIGURES : ∃ t, mg "SEAL_FIGURES" = some (.str "0123456789abcdef" t)
 c_MOST_SEAL_FIGURES : ∃ t, mg "MOST_SEAL_FIGURES" = some (.int 48 t)
 c_MOST_FIGURES : ∃ t, mg "MOST_FIGURES" = some (.int 8 t)
 c_FIGURES : ∃ t, mg "FIGURES" = some (.str "0123456789" t)
 c_LETTERS : ∃ t, mg "LETTERS" = some (.str "abcdefghijklmnopqrstuvwxyz" t)
 c_LONGEST : ∃ t, mg "LONGEST" = some (.int 8 t)
 c_MOST_SIGN : ∃ t, mg "MOST_SIGN" = some (.int 999 t)
 c_MOST_CONTENT : ∃ t, mg "MOST_CONTENT" = some (.int 48 t)
 c_MOST_TIME : ∃ t, mg "MOST_TIME" = some (.int 1000000 t)
 cg_DEED_KINDS : mg "DEED_KINDS" = some (.ref (He.ga K "DEED_KINDS"))
 ct_DEED_KINDS : ∀ H, SqT K H (He.ga K "DEED_KINDS") [.str "full", .str "step", .str "wide"]
 c_MOST_PIECE : ∃ t, mg "MOST_PIECE" = some (.int 16 t)
 c_BASE : ∃ t, mg "BASE" = some (.int 1001 t)
 c_MOST_BLOCKS : ∃ t, mg "MOST_BLOCKS" = some (.int 60 t)
 cg_MADE_OF : mg "MADE_OF" = some (.ref (He.ga K "MADE_OF"))
 gt_MADE_OF : GTab K (gTxts K) (He.ga K "MADE_OF") ([("write", ["name", "content"]), ("drop", ["name"]), ("move", ["name", "name"]), ("begin", ["time", "kind"]), ("step", []), ("close", []), ("give_up", []), ("take", ["time", "kind"]), ("forget", ["time"]), ("merge", ["time"]), ("hold", ["time", "name"]), ("release", ["time", "name"]), ("harm", ["seal", "body"]), ("lose", ["seal"]), ("heal", ["seal", "signs"]), ("prune", ["blocks", "blocks", "blocks", "blocks"]), ("put_back", ["time"])] : List (Str × List Str))
 cg_LOOKS : mg "LOOKS" = some (.ref (He.ga K "LOOKS"))
 gt_LOOKS : GTab K (gFun K) (He.ga K "LOOKS") ([("name", "is_name"), ("content", "is_content"), ("time", "is_time"), ("kind", "is_kind"), ("seal", "is_seal"), ("body", "is_body"), ("signs", "is_piece"), ("blocks", "is_blocks")] : List (Str × Str))
 g_l_bag : mg "_law_bag" = some (.ref (He.ga K "_law_bag"))
 g_l_take : mg "_law_take" = some (.ref (He.ga K "_law_take"))
 g_l_names : mg "_law_names" = some (.ref (He.ga K "_law_names"))
 g_l_seal_of : mg "_law_seal_of" = some (.ref (He.ga K "_law_seal_of"))
 g_l_any : mg "_law_any" = some (.ref (He.ga K "_law_any"))
 g_l_signs : mg "_law_signs" = some (.ref (He.ga K "_law_signs"))
 g_l_words : mg "_law_words" = some (.ref (He.ga K "_law_words"))
 g_l_content : mg "_law_content" = some (.ref (He.ga K "_law_content"))
 g_l_shaped : mg "_law_shaped" = some (.ref (He.ga K "_law_shaped"))
 g_l_listed : mg "_law_listed" = some (.ref (He.ga K "_law_listed"))
 g_l_hex : mg "_law_hex" = some (.ref (He.ga K "_law_hex"))
 g_l_written : mg "_law_written" = some (.ref (He.ga K "_law_written"))
 g_l_own : mg "_law_own" = some (.ref (He.ga K "_law_own"))
 g_l_alike : mg "_law_alike" = some (.ref (He.ga K "_law_alike"))
 g_show_seal : mg "show_seal" = some (.ref (He.ga K "show_seal"))
 g_show_signs : mg "show_signs" = some (.ref (He.ga K "show_signs"))
 g_show_deed : mg "show_deed" = some (.ref (He.ga K "show_deed"))
 g_seal_of_word : mg "seal_of_word" = some (.ref (He.ga K "seal_of_word"))
 g_whole_of : mg "whole_of" = some (.ref (He.ga K "whole_of"))
 g_signs_of_word : mg "signs_of_word" = some (.ref (He.ga K "signs_of_word"))
 g_thing_of : mg "thing_of" = some (.ref (He.ga K "thing_of"))
 g_is_name : mg "is_name" = some (.ref (He.ga K "is_name"))
 g_is_whole : mg "is_whole" = some (.ref (He.ga K "is_whole"))
 g_is_sign : mg "is_sign" = some (.ref (He.ga K "is_sign"))
 g_are_signs : mg "are_signs" = some (.ref (He.ga K "are_signs"))
 g_is_content : mg "is_content" = some (.ref (He.ga K "is_content"))
 g_is_time : mg "is_time" = some (.ref (He.ga K "is_time"))
 g_is_kind : mg "is_kind" = some (.ref (He.ga K "is_kind"))
 g_is_seal : mg "is_seal" = some (.ref (He.ga K "is_seal"))
 g_is_body : mg "is_body" = some (.ref (He.ga K "is_body"))
 g_is_piece : mg "is_piece" = some (.ref (He.ga K "is_piece"))
 g_is_blocks : mg "is_blocks" = some (.ref (He.ga K "is_blocks"))
 g_is_deed : mg "is_deed" = some (.ref (He.ga K "is_deed"))
 g_read_deed : mg "read_deed" = some (.ref (He.ga K "read_deed"))
 g_law : mg "law" = some (.ref (He.ga K "law"))
 cg_NoText : mg "NoText" = some (.ref (He.ga K "NoText"))
 b_abs : mg "abs" = none
 b_len : mg "len" = none
 b_range : mg "range" = none
 b_tuple : mg "tuple" = none
 b_int : mg "int" = none
 b_str : mg "str" = none
 b_enumerate : mg "enumerate" = none
 b_isinstance : mg "isinstance" = none
 b_list : mg "list" = none
 b_repr : mg "repr" = none
 b_zip : mg "zip" = none
 b_all : mg "all" = none
 b_bool : mg "bool" = none
theorem Txt.c {K : Fr} {mg : Str -> Option Value} (T : Txt K mg) : TxC K := ⟨T.ct_DEED_KINDS⟩
local macro_rules | `(tactic| walk_at "oz") => `(tactic| first | exact Or.inl rfl | exact Or.inr rfl)
local macro_rules | `(tactic| walk_at "fs") => `(tactic| exact ⟨rfl, rfl, rfl, by decide +kernel, rfl, by decide +kernel, by decide +kernel⟩)
theorem nz {p : Prop} (h : false = true) : p := nomatch h
section
variable {P : Program} {w : World} {K : Fr} {mg : Str -> Option Value} {base : Heap}
theorem sc_l_bag : FnScope ["_law_script", "_law_cell"] ["_law_script"] (defScope s_l_bag) := (by walk_at "fs")
theorem bd_l_bag (T : Txt K mg) : Binds K (fdOf K (He.ga K "_law_bag")) ["_law_script"] [] := T.F_l_bag.bindsN λ _ _ _ _ _ _ us hl => match us, hl with | [_], _ => rfl
theorem ok_l_bag (T : Txt K mg) (nd : NDX base) : FnX false P w K mg base CX0 1 (He.ga K "_law_bag") (fdOf K (He.ga K "_law_bag")) ["_law_script"] (sp_l_bag K) := by
 refine okX T.F_l_bag sc_l_bag len_l_bag (λ cdv A outer s H vs Q E hgu0 hr h => ⟨t_l_bag K, PSs.nox ?_, pure_l_bag vs H Q E h⟩)
 exact (pss_one (ps_ret (pe_lst (pa_cons pe_int (pa_cons pe_int (pa_cons pe_int (pa_cons (pe_lc (own := [("_law_cell", 1)]) (g := (gName 1)) (tt := tYes) rfl sc_l_bag.nd (pi_list (pe_slice sl_any (pv 0) po_none (po_some pe_int))) (blkOk_by (own := [("_law_cell", 1)]) (N := ["_law_script", "_law_cell"]) (sc := defScope s_l_bag) (by decide +kernel)) (λ _ _ _ _ _ => (pg_name (i := 1) sc_l_bag.nd rfl (by walk_at "oz"))) (λ _ _ _ _ _ => pts_nil) (λ _ _ _ _ _ => (pe_callB cr_abs (by rfl) T.b_abs (by decide +kernel) (pa_cons (pv 1) pa_nil)))) pa_nil)))))))
theorem sc_l_take : FnScope ["_law_bag_here", "_law_many", "_law_first", "_law_second", "_law_cell", "_law_value"] ["_law_bag_here", "_law_many"] (defScope s_l_take) := (by walk_at "fs")
theorem bd_l_take (T : Txt K mg) : Binds K (fdOf K (He.ga K "_law_take")) ["_law_bag_here", "_law_many"] [] := T.F_l_take.bindsN λ _ _ _ _ _ _ us hl => match us, hl with | [_, _], _ => rfl
theorem ok_l_take (T : Txt K mg) (nd : NDX base) : FnX false P w K mg base CX0 1 (He.ga K "_law_take") (fdOf K (He.ga K "_law_take")) ["_law_bag_here", "_law_many"] (sp_l_take K) := by
 refine okX T.F_l_take sc_l_take len_l_take (λ cdv A outer s H vs Q E hgu0 hr h => ⟨t_l_take K, PSs.nox ?_, pure_l_take vs H Q E h⟩)
 exact (pss_cons (ps_if (pt_cmpR (uo_eq hr.units) (pe_ix ix_any (pv 0) pe_int (λ _ _ => rfl)) pe_int (nomark _)) (pss_cons (ps_set (i := 4) sc_l_take.nd rfl (by walk_at "oz") pe_int)
     (pss_cons (ps_if (pt_cmpR uo_lt (pe_ix ix_any (pv 0) pe_int (λ _ _ => rfl)) (pe_callB cr_len (by rfl) T.b_len (by decide +kernel) (pa_cons (pe_ix ix_any (pv 0) pe_int (λ _ _ => rfl)) pa_nil)) (nomark _)) (pss_one (ps_set (i := 4) sc_l_take.nd rfl (by walk_at "oz") (pe_ix ix_any (pe_ix ix_any (pv 0) pe_int (λ _ _ => rfl)) (pe_ix ix_any (pv 0) pe_int (λ _ _ => rfl)) (λ _ _ => rfl)))) pss_nil)
     (pss_cons (ps_augS (pv 0) pe_int (get_any hr.u1) pe_int (ip_of io_add) (set_any hr.u1))
     (pss_cons (ps_if (pt_cmpR uo_ge (pv 4) pe_int (nomark _)) (pss_one (ps_asg (pv 4) (pg_sub (pv 0) pe_int (set_any hr.u1)))) pss_nil)
     (pss_one (ps_asg (pe_op uo_mod (pe_op uo_add (pe_op uo_add (pe_op uo_mul (pe_ix ix_any (pv 0) pe_int (λ _ _ => rfl)) pe_int) (pe_op uo_mod (pv 4) pe_int)) (pe_op uo_mul pe_int (pe_ix ix_any (pv 0) pe_int (λ _ _ => rfl)))) pe_int) (pg_sub (pv 0) pe_int (set_any hr.u1)))))))) pss_nil)
     (pss_cons (ps_if (pt_cmpR uo_gt (pe_ix ix_any (pv 0) pe_int (λ _ _ => rfl)) pe_int (nomark _)) (pss_cons (ps_set (i := 5) sc_l_take.nd rfl (by walk_at "oz") (pe_op uo_mod (pe_ix ix_any (pv 0) pe_int (λ _ _ => rfl)) (pv 1)))
     (pss_cons (ps_asg (pe_op uo_div (pe_ix ix_any (pv 0) pe_int (λ _ _ => rfl)) (pv 1)) (pg_sub (pv 0) pe_int (set_any hr.u1)))
     (pss_one (ps_ret (pv 5))))) pss_nil)
     (pss_cons (ps_set (i := 2) sc_l_take.nd rfl (by walk_at "oz") (pe_op uo_mod (pe_op uo_mul (pe_op uo_add (pe_ix ix_any (pv 0) pe_int (λ _ _ => rfl)) pe_int) pe_int) pe_int))
     (pss_cons (ps_set (i := 3) sc_l_take.nd rfl (by walk_at "oz") (pe_op uo_mod (pe_op uo_mul (pe_op uo_mod (pe_op uo_mul (pv 2) (pv 2)) pe_int) pe_int) pe_int))
     (pss_cons (ps_if (pt_cmpR uo_gt (pv 1) pe_int (nomark _)) (pss_one (ps_ret (pe_op uo_mod (pe_op uo_add (pe_op uo_mul (pv 3) pe_int) (pv 2)) (pv 1)))) pss_nil)
     (pss_one (ps_ret (pe_op uo_mod (pe_op uo_div (pv 3) pe_int) (pv 1)))))))))
theorem sc_l_names : FnScope ["_law_bag_here", "_law_many", "_law_letters", "_law_words_here", "_law_pick", "_law_turn", "_law_size", "_law_at", "_law_base", "_law_k"] ["_law_bag_here", "_law_many"] (defScope s_l_names) := (by walk_at "fs")
theorem bd_l_names (T : Txt K mg) : Binds K (fdOf K (He.ga K "_law_names")) ["_law_bag_here", "_law_many"] [] := T.F_l_names.bindsN λ _ _ _ _ _ _ us hl => match us, hl with | [_, _], _ => rfl
theorem ok_l_names (T : Txt K mg) (nd : NDX base) : FnX false P w K mg base CX0 2 (He.ga K "_law_names") (fdOf K (He.ga K "_law_names")) ["_law_bag_here", "_law_many"] (sp_l_names K) := by
 refine okX T.F_l_names sc_l_names len_l_names (λ cdv A outer s H vs Q E hgu0 hr h => ⟨t_l_names K, PSs.nox ?_, pure_l_names vs H Q E h⟩)
 exact (pss_cons (ps_set (i := 2) sc_l_names.nd rfl (by walk_at "oz") pe_str)
     (pss_cons (ps_set (i := 3) sc_l_names.nd rfl (by walk_at "oz") (pe_lst (pa_cons pe_str (pa_cons pe_str (pa_cons pe_str (pa_cons pe_str (pa_cons pe_str (pa_cons pe_str (pa_cons pe_str (pa_cons pe_str (pa_cons pe_str (pa_cons pe_str (pa_cons pe_str (pa_cons pe_str pa_nil))))))))))))))
     (pss_cons (ps_set (i := 4) sc_l_names.nd rfl (by walk_at "oz") (pe_callX (ok_l_take T nd) nz hr rfl T.g_l_take T.F_l_take.kp (bd_l_take T) .nil pass0 (pa_cons (pv 0) (pa_cons pe_int pa_nil))))
     (pss_cons (ps_set (i := 5) sc_l_names.nd rfl (by walk_at "oz") (pe_callX (ok_l_take T nd) nz hr rfl T.g_l_take T.F_l_take.kp (bd_l_take T) .nil pass0 (pa_cons (pv 0) (pa_cons pe_int pa_nil))))
     (pss_cons (ps_set (i := 6) sc_l_names.nd rfl (by walk_at "oz") (pe_op uo_add pe_int (pe_callX (ok_l_take T nd) nz hr rfl T.g_l_take T.F_l_take.kp (bd_l_take T) .nil pass0 (pa_cons (pv 0) (pa_cons pe_int pa_nil)))))
     (pss_cons (ps_set (i := 7) sc_l_names.nd rfl (by walk_at "oz") (pe_callX (ok_l_take T nd) nz hr rfl T.g_l_take T.F_l_take.kp (bd_l_take T) .nil pass0 (pa_cons (pv 0) (pa_cons (pv 6) pa_nil))))
     (pss_cons (ps_set (i := 8) sc_l_names.nd rfl (by walk_at "oz") (pe_lc (own := [("_law_k", 9)]) (g := (gName 9)) (tt := tYes) rfl sc_l_names.nd (pi_range1 (by rfl) T.b_range (pa_cons (pv 6) pa_nil)) (blkOk_by (own := [("_law_k", 9)]) (N := ["_law_bag_here", "_law_many", "_law_letters", "_law_words_here", "_law_pick", "_law_turn", "_law_size", "_law_at", "_law_base", "_law_k"]) (sc := defScope s_l_names) (by decide +kernel)) (λ _ _ _ _ _ => (pg_name (i := 9) sc_l_names.nd rfl (by walk_at "oz"))) (λ _ _ _ _ _ => pts_nil) (λ _ _ _ _ _ => (pe_ix ix_any (pv 2) (pe_callX (ok_l_take T nd) nz hr rfl T.g_l_take T.F_l_take.kp (bd_l_take T) .nil pass0 (pa_cons (pv 0) (pa_cons pe_int pa_nil))) (λ _ _ => rfl)))))
     (pss_cons (ps_if (pt_cmpR (uo_eq hr.units) (pv 4) pe_int (nomark _)) (pss_one (ps_ret (pe_slice sl_any (pe_slice sl_any (pe_op uo_add (pv 3) (pv 3)) (po_some (pe_op uo_mod (pv 5) pe_int)) po_none) po_none (po_some (pv 1))))) pss_nil)
     (pss_one (ps_ret (pe_lc (own := [("_law_k", 9)]) (g := (gName 9)) (tt := tYes) rfl sc_l_names.nd (pi_range1 (by rfl) T.b_range (pa_cons (pv 1) pa_nil)) (blkOk_by (own := [("_law_k", 9)]) (N := ["_law_bag_here", "_law_many", "_law_letters", "_law_words_here", "_law_pick", "_law_turn", "_law_size", "_law_at", "_law_base", "_law_k"]) (sc := defScope s_l_names) (by decide +kernel)) (λ _ _ _ _ _ => (pg_name (i := 9) sc_l_names.nd rfl (by walk_at "oz"))) (λ _ _ _ _ _ => pts_nil) (λ _ _ _ _ _ => (pe_join pe_str (pe_op uo_add (pe_op uo_add (pe_slice sl_any (pv 8) po_none (po_some (pv 7))) (pe_lst (pa_cons (pe_ix ix_any (pv 2) (pe_op uo_mod (pe_op uo_add (pv 5) (pv 9)) pe_int) (λ _ _ => rfl)) pa_nil))) (pe_slice sl_any (pv 8) (po_some (pe_op uo_add (pv 7) pe_int)) po_none)))))))))))))))
theorem sc_l_seal_of : FnScope ["_law_signs_here", "_law_found", "_law_sign"] ["_law_signs_here"] (defScope s_l_seal_of) := (by walk_at "fs")
theorem bd_l_seal_of (T : Txt K mg) : Binds K (fdOf K (He.ga K "_law_seal_of")) ["_law_signs_here"] [] := T.F_l_seal_of.bindsN λ _ _ _ _ _ _ us hl => match us, hl with | [_], _ => rfl
theorem ok_l_seal_of (T : Txt K mg) (nd : NDX base) : FnX false P w K mg base CX0 1 (He.ga K "_law_seal_of") (fdOf K (He.ga K "_law_seal_of")) ["_law_signs_here"] (sp_l_seal_of K) := by
 refine okX T.F_l_seal_of sc_l_seal_of len_l_seal_of (λ cdv A outer s H vs Q E hgu0 hr h => ⟨t_l_seal_of K, PSs.nox ?_, pure_l_seal_of vs H Q E h⟩)
 exact (pss_cons (ps_set (i := 1) sc_l_seal_of.nd rfl (by walk_at "oz") pe_int)
     (pss_cons (ps_for PassesOwn.never rfl (pi_list (pe_revL (pv 0))) (pg_name (i := 2) sc_l_seal_of.nd rfl (by walk_at "oz")) (pss_one (ps_set (i := 1) sc_l_seal_of.nd rfl (by walk_at "oz") (pe_op uo_add (pe_op uo_add (pe_op uo_mul (pv 1) pe_int) (pv 2)) pe_int))))
     (pss_one (ps_ret (pv 1)))))
theorem sc_l_any : FnScope ["_law_bag_here", "_law_some"] ["_law_bag_here", "_law_some"] (defScope s_l_any) := (by walk_at "fs")
theorem bd_l_any (T : Txt K mg) : Binds K (fdOf K (He.ga K "_law_any")) ["_law_bag_here", "_law_some"] [] := T.F_l_any.bindsN λ _ _ _ _ _ _ us hl => match us, hl with | [_, _], _ => rfl
theorem ok_l_any (T : Txt K mg) (nd : NDX base) : FnX false P w K mg base CX0 2 (He.ga K "_law_any") (fdOf K (He.ga K "_law_any")) ["_law_bag_here", "_law_some"] (sp_l_any K) := by
 refine okX T.F_l_any sc_l_any len_l_any (λ cdv A outer s H vs Q E hgu0 hr h => ⟨t_l_any K, PSs.nox ?_, pure_l_any vs H Q E h⟩)
 exact (pss_one (ps_ret (pe_ix ix_any (pv 1) (pe_callX (ok_l_take T nd) nz hr rfl T.g_l_take T.F_l_take.kp (bd_l_take T) .nil pass0 (pa_cons (pv 0) (pa_cons (pe_callB cr_len (by rfl) T.b_len (by decide +kernel) (pa_cons (pv 1) pa_nil)) pa_nil))) (λ _ _ => rfl))))
theorem sc_l_signs : FnScope ["_law_bag_here", "_law_least", "_law_k"] ["_law_bag_here", "_law_least"] (defScope s_l_signs) := (by walk_at "fs")
theorem bd_l_signs (T : Txt K mg) : Binds K (fdOf K (He.ga K "_law_signs")) ["_law_bag_here", "_law_least"] [] := T.F_l_signs.bindsN λ _ _ _ _ _ _ us hl => match us, hl with | [_, _], _ => rfl
theorem ok_l_signs (T : Txt K mg) (nd : NDX base) : FnX false P w K mg base CX0 3 (He.ga K "_law_signs") (fdOf K (He.ga K "_law_signs")) ["_law_bag_here", "_law_least"] (sp_l_signs K) := by
 refine okX T.F_l_signs sc_l_signs len_l_signs (λ cdv A outer s H vs Q E hgu0 hr h => ⟨t_l_signs K, PSs.nox ?_, pure_l_signs vs H Q E h⟩)
 exact (pss_one (ps_ret (pe_lc (own := [("_law_k", 2)]) (g := (gName 2)) (tt := tYes) rfl sc_l_signs.nd (pi_range1 (by rfl) T.b_range (pa_cons (pe_op uo_add (pv 1) (pe_callX (ok_l_take T nd) nz (hr.mono (by decide)) rfl T.g_l_take T.F_l_take.kp (bd_l_take T) .nil pass0 (pa_cons (pv 0) (pa_cons (pe_op uo_sub pe_int (pv 1)) pa_nil)))) pa_nil)) (blkOk_by (own := [("_law_k", 2)]) (N := ["_law_bag_here", "_law_least", "_law_k"]) (sc := defScope s_l_signs) (by decide +kernel)) (λ _ _ _ _ _ => (pg_name (i := 2) sc_l_signs.nd rfl (by walk_at "oz"))) (λ _ _ _ _ _ => pts_nil) (λ _ _ _ _ _ => (pe_callX (ok_l_any T nd) nz hr rfl T.g_l_any T.F_l_any.kp (bd_l_any T) .nil pass0 (pa_cons (pv 0) (pa_cons (pe_lst (pa_cons pe_int (pa_cons pe_int (pa_cons pe_int (pa_cons pe_int (pa_cons (pe_callX (ok_l_take T nd) nz (hr.mono (by decide)) rfl T.g_l_take T.F_l_take.kp (bd_l_take T) .nil pass0 (pa_cons (pv 0) (pa_cons pe_int pa_nil))) pa_nil)))))) pa_nil)))))))
theorem sc_l_words : FnScope ["_law_words_here"] [] (defScope s_l_words) := (by walk_at "fs")
theorem bd_l_words (T : Txt K mg) : Binds K (fdOf K (He.ga K "_law_words")) [] [] := T.F_l_words.bindsN λ _ _ _ _ _ _ us hl => match us, hl with | [], _ => rfl
theorem ok_l_words (T : Txt K mg) (nd : NDX base) : FnX false P w K mg base CX0 1 (He.ga K "_law_words") (fdOf K (He.ga K "_law_words")) [] (sp_l_words K) := by
 refine okX T.F_l_words sc_l_words len_l_words (λ cdv A outer s H vs Q E hgu0 hr h => ⟨t_l_words K, PSs.nox ?_, pure_l_words vs H Q E h⟩)
 exact (pss_cons (ps_set (i := 0) sc_l_words.nd rfl (by walk_at "oz") (pe_lst (pa_cons pe_str (pa_cons pe_str (pa_cons pe_str (pa_cons pe_str (pa_cons pe_str (pa_cons pe_str (pa_cons pe_str (pa_cons pe_str (pa_cons pe_str (pa_cons pe_str (pa_cons pe_str (pa_cons pe_str pa_nil))))))))))))))
     (pss_one (ps_ret (pe_op uo_add (pv 0) (pe_lst (pa_cons pe_str (pa_cons pe_str (pa_cons pe_str (pa_cons pe_str (pa_cons pe_str (pa_cons pe_str (pa_cons pe_str (pa_cons pe_str pa_nil)))))))))))))
theorem sc_l_content : FnScope ["_law_bag_here", "_law_pick", "_law_long", "_law_k"] ["_law_bag_here"] (defScope s_l_content) := (by walk_at "fs")
theorem bd_l_content (T : Txt K mg) : Binds K (fdOf K (He.ga K "_law_content")) ["_law_bag_here"] [] := T.F_l_content.bindsN λ _ _ _ _ _ _ us hl => match us, hl with | [_], _ => rfl
theorem ok_l_content (T : Txt K mg) (nd : NDX base) : FnX false P w K mg base CX0 2 (He.ga K "_law_content") (fdOf K (He.ga K "_law_content")) ["_law_bag_here"] (sp_l_content K) := by
 refine okX T.F_l_content sc_l_content len_l_content (λ cdv A outer s H vs Q E hgu0 hr h => ⟨t_l_content K, PSs.nox ?_, pure_l_content vs H Q E h⟩)
 exact (pss_cons (ps_set (i := 1) sc_l_content.nd rfl (by walk_at "oz") (pe_callX (ok_l_take T nd) nz hr rfl T.g_l_take T.F_l_take.kp (bd_l_take T) .nil pass0 (pa_cons (pv 0) (pa_cons pe_int pa_nil))))
     (pss_cons (ps_set (i := 2) sc_l_content.nd rfl (by walk_at "oz") (pe_ix ix_any (pe_lst (pa_cons (pe_callX (ok_l_take T nd) nz hr rfl T.g_l_take T.F_l_take.kp (bd_l_take T) .nil pass0 (pa_cons (pv 0) (pa_cons pe_int pa_nil))) (pa_cons (pe_callX (ok_l_take T nd) nz hr rfl T.g_l_take T.F_l_take.kp (bd_l_take T) .nil pass0 (pa_cons (pv 0) (pa_cons pe_int pa_nil))) (pa_cons (pe_callX (ok_l_take T nd) nz hr rfl T.g_l_take T.F_l_take.kp (bd_l_take T) .nil pass0 (pa_cons (pv 0) (pa_cons pe_int pa_nil))) pa_nil)))) (pe_callX (ok_l_take T nd) nz hr rfl T.g_l_take T.F_l_take.kp (bd_l_take T) .nil pass0 (pa_cons (pv 0) (pa_cons pe_int pa_nil))) (λ _ _ => rfl)))
     (pss_cons (ps_if (pt_cmpR (uo_eq hr.units) (pv 1) pe_int (nomark _)) (pss_one (ps_ret (pe_lc (own := [("_law_k", 3)]) (g := (gName 3)) (tt := tYes) rfl sc_l_content.nd (pi_range1 (by rfl) T.b_range (pa_cons (pv 2) pa_nil)) (blkOk_by (own := [("_law_k", 3)]) (N := ["_law_bag_here", "_law_pick", "_law_long", "_law_k"]) (sc := defScope s_l_content) (by decide +kernel)) (λ _ _ _ _ _ => (pg_name (i := 3) sc_l_content.nd rfl (by walk_at "oz"))) (λ _ _ _ _ _ => pts_nil) (λ _ _ _ _ _ => (pe_ix ix_any (pe_lst (pa_cons pe_int (pa_cons pe_int (pa_cons pe_int pa_nil)))) (pe_callX (ok_l_take T nd) nz hr rfl T.g_l_take T.F_l_take.kp (bd_l_take T) .nil pass0 (pa_cons (pv 0) (pa_cons pe_int pa_nil))) (λ _ _ => rfl)))))) pss_nil)
     (pss_cons (ps_if (pt_cmpR (uo_eq hr.units) (pv 1) pe_int (nomark _)) (pss_one (ps_ret (pe_lc (own := [("_law_k", 3)]) (g := (gName 3)) (tt := tYes) rfl sc_l_content.nd (pi_range1 (by rfl) T.b_range (pa_cons (pv 2) pa_nil)) (blkOk_by (own := [("_law_k", 3)]) (N := ["_law_bag_here", "_law_pick", "_law_long", "_law_k"]) (sc := defScope s_l_content) (by decide +kernel)) (λ _ _ _ _ _ => (pg_name (i := 3) sc_l_content.nd rfl (by walk_at "oz"))) (λ _ _ _ _ _ => pts_nil) (λ _ _ _ _ _ => (pe_op uo_add pe_int (pe_op uo_mul pe_int (pe_callX (ok_l_take T nd) nz hr rfl T.g_l_take T.F_l_take.kp (bd_l_take T) .nil pass0 (pa_cons (pv 0) (pa_cons pe_int pa_nil))))))))) pss_nil)
     (pss_cons (ps_if (pt_cmpR (uo_eq hr.units) (pv 1) pe_int (nomark _)) (pss_one (ps_ret (pe_lc (own := [("_law_k", 3)]) (g := (gName 3)) (tt := tYes) rfl sc_l_content.nd (pi_range1 (by rfl) T.b_range (pa_cons (pv 2) pa_nil)) (blkOk_by (own := [("_law_k", 3)]) (N := ["_law_bag_here", "_law_pick", "_law_long", "_law_k"]) (sc := defScope s_l_content) (by decide +kernel)) (λ _ _ _ _ _ => (pg_name (i := 3) sc_l_content.nd rfl (by walk_at "oz"))) (λ _ _ _ _ _ => pts_nil) (λ _ _ _ _ _ => (pe_op uo_mul pe_int (pe_callX (ok_l_take T nd) nz hr rfl T.g_l_take T.F_l_take.kp (bd_l_take T) .nil pass0 (pa_cons (pv 0) (pa_cons pe_int pa_nil)))))))) pss_nil)
     (pss_cons (ps_if (pt_cmpR (uo_eq hr.units) (pv 1) pe_int (nomark _)) (pss_one (ps_ret (pe_lc (own := [("_law_k", 3)]) (g := (gName 3)) (tt := tYes) rfl sc_l_content.nd (pi_range1 (by rfl) T.b_range (pa_cons (pv 2) pa_nil)) (blkOk_by (own := [("_law_k", 3)]) (N := ["_law_bag_here", "_law_pick", "_law_long", "_law_k"]) (sc := defScope s_l_content) (by decide +kernel)) (λ _ _ _ _ _ => (pg_name (i := 3) sc_l_content.nd rfl (by walk_at "oz"))) (λ _ _ _ _ _ => pts_nil) (λ _ _ _ _ _ => (pe_ix ix_any (pe_lst (pa_cons pe_int (pa_cons pe_int pa_nil))) (pe_callX (ok_l_take T nd) nz hr rfl T.g_l_take T.F_l_take.kp (bd_l_take T) .nil pass0 (pa_cons (pv 0) (pa_cons pe_int pa_nil))) (λ _ _ => rfl)))))) pss_nil)
     (pss_one (ps_ret (pe_lc (own := [("_law_k", 3)]) (g := (gName 3)) (tt := tYes) rfl sc_l_content.nd (pi_range1 (by rfl) T.b_range (pa_cons (pv 2) pa_nil)) (blkOk_by (own := [("_law_k", 3)]) (N := ["_law_bag_here", "_law_pick", "_law_long", "_law_k"]) (sc := defScope s_l_content) (by decide +kernel)) (λ _ _ _ _ _ => (pg_name (i := 3) sc_l_content.nd rfl (by walk_at "oz"))) (λ _ _ _ _ _ => pts_nil) (λ _ _ _ _ _ => (pe_callX (ok_l_take T nd) nz hr rfl T.g_l_take T.F_l_take.kp (bd_l_take T) .nil pass0 (pa_cons (pv 0) (pa_cons pe_int pa_nil)))))))))))))
theorem sc_l_shaped : FnScope ["_law_bag_here", "_law_names_here", "_law_times", "_law_seals", "_law_word", "_law_sort", "_law_k"] ["_law_bag_here", "_law_names_here", "_law_times", "_law_seals"] (defScope s_l_shaped) := (by walk_at "fs")
theorem bd_l_shaped (T : Txt K mg) : Binds K (fdOf K (He.ga K "_law_shaped")) ["_law_bag_here", "_law_names_here", "_law_times", "_law_seals"] [] := T.F_l_shaped.bindsN λ _ _ _ _ _ _ us hl => match us, hl with | [_, _, _, _], _ => rfl
theorem ok_l_shaped (T : Txt K mg) (nd : NDX base) : FnX false P w K mg base CX0 4 (He.ga K "_law_shaped") (fdOf K (He.ga K "_law_shaped")) ["_law_bag_here", "_law_names_here", "_law_times", "_law_seals"] (sp_l_shaped K) := by
 refine okX T.F_l_shaped sc_l_shaped len_l_shaped (λ cdv A outer s H vs Q E hgu0 hr h => ⟨t_l_shaped K, PSs.nox ?_, pure_l_shaped vs H Q E h⟩)
 exact (pss_cons (ps_set (i := 4) sc_l_shaped.nd rfl (by walk_at "oz") (pe_callX (ok_l_any T nd) nz (hr.mono (by decide)) rfl T.g_l_any T.F_l_any.kp (bd_l_any T) .nil pass0 (pa_cons (pv 0) (pa_cons (pe_callX0 (ok_l_words T nd) nz (hr.mono (by decide)) rfl T.g_l_words T.F_l_words.kp (bd_l_words T) .nil pass0) pa_nil))))
     (pss_cons (ps_set (i := 5) sc_l_shaped.nd rfl (by walk_at "oz") (pe_callX (ok_l_any T nd) nz (hr.mono (by decide)) rfl T.g_l_any T.F_l_any.kp (bd_l_any T) .nil pass0 (pa_cons (pv 0) (pa_cons (pe_lst (pa_cons pe_str (pa_cons pe_str (pa_cons pe_str (pa_cons pe_str pa_nil))))) pa_nil))))
     (pss_cons (ps_if (pt_cmpR (uo_inU hr.u65) (pv 4) (pe_tup (pa_cons pe_str (pa_cons pe_str (pa_cons pe_str pa_nil)))) (by rfl)) (pss_one (ps_ret (pe_tup (pa_cons (pv 4) pa_nil)))) pss_nil)
     (pss_cons (ps_if (pt_cmpR (uo_eq hr.units) (pv 4) pe_str (nomark _)) (pss_one (ps_ret (pe_tup (pa_cons (pv 4) (pa_cons (pe_callX (ok_l_any T nd) nz (hr.mono (by decide)) rfl T.g_l_any T.F_l_any.kp (bd_l_any T) .nil pass0 (pa_cons (pv 0) (pa_cons (pv 1) pa_nil))) (pa_cons (pe_callX (ok_l_content T nd) nz (hr.mono (by decide)) rfl T.g_l_content T.F_l_content.kp (bd_l_content T) .nil pass0 (pa_cons (pv 0) pa_nil)) pa_nil)))))) pss_nil)
     (pss_cons (ps_if (pt_cmpR (uo_eq hr.units) (pv 4) pe_str (nomark _)) (pss_one (ps_ret (pe_tup (pa_cons (pv 4) (pa_cons (pe_callX (ok_l_any T nd) nz (hr.mono (by decide)) rfl T.g_l_any T.F_l_any.kp (bd_l_any T) .nil pass0 (pa_cons (pv 0) (pa_cons (pv 1) pa_nil))) pa_nil))))) pss_nil)
     (pss_cons (ps_if (pt_cmpR (uo_eq hr.units) (pv 4) pe_str (nomark _)) (pss_one (ps_ret (pe_tup (pa_cons (pv 4) (pa_cons (pe_callX (ok_l_any T nd) nz (hr.mono (by decide)) rfl T.g_l_any T.F_l_any.kp (bd_l_any T) .nil pass0 (pa_cons (pv 0) (pa_cons (pv 1) pa_nil))) (pa_cons (pe_callX (ok_l_any T nd) nz (hr.mono (by decide)) rfl T.g_l_any T.F_l_any.kp (bd_l_any T) .nil pass0 (pa_cons (pv 0) (pa_cons (pv 1) pa_nil))) pa_nil)))))) pss_nil)
     (pss_cons (ps_if (pt_cmpR (uo_inU hr.u65) (pv 4) (pe_tup (pa_cons pe_str (pa_cons pe_str pa_nil))) (by rfl)) (pss_one (ps_ret (pe_tup (pa_cons (pv 4) (pa_cons (pe_callX (ok_l_any T nd) nz (hr.mono (by decide)) rfl T.g_l_any T.F_l_any.kp (bd_l_any T) .nil pass0 (pa_cons (pv 0) (pa_cons (pv 2) pa_nil))) (pa_cons (pv 5) pa_nil)))))) pss_nil)
     (pss_cons (ps_if (pt_cmpR (uo_inU hr.u65) (pv 4) (pe_tup (pa_cons pe_str (pa_cons pe_str (pa_cons pe_str pa_nil)))) (by rfl)) (pss_one (ps_ret (pe_tup (pa_cons (pv 4) (pa_cons (pe_callX (ok_l_any T nd) nz (hr.mono (by decide)) rfl T.g_l_any T.F_l_any.kp (bd_l_any T) .nil pass0 (pa_cons (pv 0) (pa_cons (pv 2) pa_nil))) pa_nil))))) pss_nil)
     (pss_cons (ps_if (pt_cmpR (uo_inU hr.u65) (pv 4) (pe_tup (pa_cons pe_str (pa_cons pe_str pa_nil))) (by rfl)) (pss_one (ps_ret (pe_tup (pa_cons (pv 4) (pa_cons (pe_callX (ok_l_any T nd) nz (hr.mono (by decide)) rfl T.g_l_any T.F_l_any.kp (bd_l_any T) .nil pass0 (pa_cons (pv 0) (pa_cons (pv 2) pa_nil))) (pa_cons (pe_callX (ok_l_any T nd) nz (hr.mono (by decide)) rfl T.g_l_any T.F_l_any.kp (bd_l_any T) .nil pass0 (pa_cons (pv 0) (pa_cons (pv 1) pa_nil))) pa_nil)))))) pss_nil)
     (pss_cons (ps_if (pt_cmpR (uo_eq hr.units) (pv 4) pe_str (nomark _)) (pss_one (ps_ret (pe_op op_catA (pe_tup (pa_cons (pv 4) pa_nil)) (pe_callTy cr_tupL (by rfl) T.b_tuple (by decide +kernel) (pa_cons (pe_lc (own := [("_law_k", 6)]) (g := (gName 6)) (tt := tYes) rfl sc_l_shaped.nd (pi_range1 (by rfl) T.b_range (pa_cons pe_int pa_nil)) (blkOk_by (own := [("_law_k", 6)]) (N := ["_law_bag_here", "_law_names_here", "_law_times", "_law_seals", "_law_word", "_law_sort", "_law_k"]) (sc := defScope s_l_shaped) (by decide +kernel)) (λ _ _ _ _ _ => (pg_name (i := 6) sc_l_shaped.nd rfl (by walk_at "oz"))) (λ _ _ _ _ _ => pts_nil) (λ _ _ _ _ _ => (pe_callX (ok_l_take T nd) nz (hr.mono (by decide)) rfl T.g_l_take T.F_l_take.kp (bd_l_take T) .nil pass0 (pa_cons (pv 0) (pa_cons (pe_ix ix_any (pe_lst (pa_cons pe_int (pa_cons pe_int pa_nil))) (pe_callX (ok_l_take T nd) nz (hr.mono (by decide)) rfl T.g_l_take T.F_l_take.kp (bd_l_take T) .nil pass0 (pa_cons (pv 0) (pa_cons pe_int pa_nil))) (λ _ _ => rfl)) pa_nil))))) pa_nil))))) pss_nil)
     (pss_cons (ps_if (pt_cmpR (uo_eq hr.units) (pv 4) pe_str (nomark _)) (pss_one (ps_ret (pe_tup (pa_cons (pv 4) (pa_cons (pe_callX (ok_l_any T nd) nz (hr.mono (by decide)) rfl T.g_l_any T.F_l_any.kp (bd_l_any T) .nil pass0 (pa_cons (pv 0) (pa_cons (pv 3) pa_nil))) pa_nil))))) pss_nil)
     (pss_one (ps_ret (pe_tup (pa_cons (pv 4) (pa_cons (pe_callX (ok_l_any T nd) nz (hr.mono (by decide)) rfl T.g_l_any T.F_l_any.kp (bd_l_any T) .nil pass0 (pa_cons (pv 0) (pa_cons (pv 3) pa_nil))) (pa_cons (pe_callX (ok_l_signs T nd) nz hr rfl T.g_l_signs T.F_l_signs.kp (bd_l_signs T) .nil pass0 (pa_cons (pv 0) (pa_cons (pe_callTy cr_intB (by rfl) T.b_int (by decide +kernel) (pa_cons (pe_cmpR (uo_eq hr.units) (pv 4) pe_str (nomark _)) pa_nil)) pa_nil))) pa_nil)))))))))))))))))
theorem sc_l_listed : FnScope ["_law_signs_here", "_law_sign"] ["_law_signs_here"] (defScope s_l_listed) := (by walk_at "fs")
theorem bd_l_listed (T : Txt K mg) : Binds K (fdOf K (He.ga K "_law_listed")) ["_law_signs_here"] [] := T.F_l_listed.bindsN λ _ _ _ _ _ _ us hl => match us, hl with | [_], _ => rfl
theorem ok_l_listed (T : Txt K mg) (nd : NDX base) : FnX false P w K mg base CX0 1 (He.ga K "_law_listed") (fdOf K (He.ga K "_law_listed")) ["_law_signs_here"] (sp_l_listed K) := by
 refine okX T.F_l_listed sc_l_listed len_l_listed (λ cdv A outer s H vs Q E hgu0 hr h => ⟨t_l_listed K, PSs.nox ?_, pure_l_listed vs H Q E h⟩)
 exact (pss_one (ps_ret (pe_orT (pe_join pe_str (pe_lc (own := [("_law_sign", 1)]) (g := (gName 1)) (tt := tYes) rfl sc_l_listed.nd (pi_list (pv 0)) (blkOk_by (own := [("_law_sign", 1)]) (N := ["_law_signs_here", "_law_sign"]) (sc := defScope s_l_listed) (by decide +kernel)) (λ _ _ _ _ _ => (pg_name (i := 1) sc_l_listed.nd rfl (by walk_at "oz"))) (λ _ _ _ _ _ => pts_nil) (λ _ _ _ _ _ => (pe_callTy cr_strA (by rfl) T.b_str (by decide +kernel) (pa_cons (pv 1) pa_nil))))) (pe_one pe_str))))
theorem sc_l_hex : FnScope ["_law_seal", "_law_text", "_law_rest"] ["_law_seal"] (defScope s_l_hex) := (by walk_at "fs")
theorem bd_l_hex (T : Txt K mg) : Binds K (fdOf K (He.ga K "_law_hex")) ["_law_seal"] [] := T.F_l_hex.bindsN λ _ _ _ _ _ _ us hl => match us, hl with | [_], _ => rfl
theorem ok_l_hex (T : Txt K mg) (nd : NDX base) : FnX false P w K mg base CX0 1 (He.ga K "_law_hex") (fdOf K (He.ga K "_law_hex")) ["_law_seal"] (sp_l_hex K) := by
 refine okX T.F_l_hex sc_l_hex len_l_hex (λ cdv A outer s H vs Q E hgu0 hr h => ⟨t_l_hex K, PSs.nox ?_, pure_l_hex vs H Q E h⟩)
 exact (pss_cons (ps_set (i := 1) sc_l_hex.nd rfl (by walk_at "oz") pe_str)
     (pss_cons (ps_set (i := 2) sc_l_hex.nd rfl (by walk_at "oz") (pv 0))
     (pss_cons (ps_while PassesOwn.never (pt_cmpR uo_gt (pv 2) pe_int (nomark _)) (pss_cons (ps_set (i := 1) sc_l_hex.nd rfl (by walk_at "oz") (pe_op uo_add (pe_ix ix_any pe_str (pe_op uo_mod (pv 2) pe_int) (λ _ _ => rfl)) (pv 1)))
     (pss_one (ps_set (i := 2) sc_l_hex.nd rfl (by walk_at "oz") (pe_op uo_div (pv 2) pe_int)))))
     (pss_one (ps_ret (pv 1))))))
theorem sc_l_written : FnScope ["_law_deed", "_law_words_here", "_law_k", "_law_part"] ["_law_deed"] (defScope s_l_written) := (by walk_at "fs")
theorem bd_l_written (T : Txt K mg) : Binds K (fdOf K (He.ga K "_law_written")) ["_law_deed"] [] := T.F_l_written.bindsN λ _ _ _ _ _ _ us hl => match us, hl with | [_], _ => rfl
theorem ok_l_written (T : Txt K mg) (nd : NDX base) : FnX false P w K mg base CX0 2 (He.ga K "_law_written") (fdOf K (He.ga K "_law_written")) ["_law_deed"] (sp_l_written K) := by
 refine okX T.F_l_written sc_l_written len_l_written (λ cdv A outer s H vs Q E hgu0 hr h => ⟨t_l_written K, PSs.nox ?_, pure_l_written vs H Q E h⟩)
 exact (pss_cons (ps_set (i := 1) sc_l_written.nd rfl (by walk_at "oz") (pe_lst (pa_cons (pe_ix ix_any (pv 0) pe_int (λ _ _ => rfl)) pa_nil)))
     (pss_cons (ps_for PassesOwn.never rfl (pi_enumT (by rfl) T.b_enumerate (pa_cons (pe_slice sl_tupA (pv 0) (po_some pe_int) po_none) pa_nil)) (pg_tup rfl (pgs_cons (pg_name (i := 2) sc_l_written.nd rfl (by walk_at "oz")) (pgs_cons (pg_name (i := 3) sc_l_written.nd rfl (by walk_at "oz")) pgs_nil))) (pss_one (ps_if (pt_val (pe_callB cr_isiQ (by rfl) T.b_isinstance (by decide +kernel) (pa_cons (pv 3) (pa_cons (pe_bltn (by rfl) T.b_list (by decide +kernel) rfl) pa_nil)))) (pss_one (ps_expr (pe_bm PySem.F.plainAttrs_list PySem.F.slot_list_append PySem.F.type_list_append mt_append (pv 1) (pa_cons (pe_callX (ok_l_listed T nd) nz hr rfl T.g_l_listed T.F_l_listed.kp (bd_l_listed T) .nil pass0 (pa_cons (pv 3) pa_nil)) pa_nil)))) (pss_one (ps_if (pt_cmpR (uo_inU hr.u65) (pe_ix ix_any (pv 0) pe_int (λ _ _ => rfl)) (pe_tup (pa_cons pe_str (pa_cons pe_str (pa_cons pe_str pa_nil)))) (by rfl)) (pss_one (ps_expr (pe_bm PySem.F.plainAttrs_list PySem.F.slot_list_append PySem.F.type_list_append mt_append (pv 1) (pa_cons (pe_callX (ok_l_hex T nd) nz hr rfl T.g_l_hex T.F_l_hex.kp (bd_l_hex T) .nil pass0 (pa_cons (pv 3) pa_nil)) pa_nil)))) (pss_one (ps_expr (pe_bm PySem.F.plainAttrs_list PySem.F.slot_list_append PySem.F.type_list_append mt_append (pv 1) (pa_cons (pe_callTy cr_strA (by rfl) T.b_str (by decide +kernel) (pa_cons (pv 3) pa_nil)) pa_nil)))))))))
     (pss_one (ps_ret (pe_join pe_str (pv 1))))))
theorem sc_l_own : FnScope ["_law_deed", "_law_part"] ["_law_deed"] (defScope s_l_own) := (by walk_at "fs")
theorem bd_l_own (T : Txt K mg) : Binds K (fdOf K (He.ga K "_law_own")) ["_law_deed"] [] := T.F_l_own.bindsN λ _ _ _ _ _ _ us hl => match us, hl with | [_], _ => rfl
theorem ok_l_own (T : Txt K mg) (nd : NDX base) : FnX false P w K mg base CX0 1 (He.ga K "_law_own") (fdOf K (He.ga K "_law_own")) ["_law_deed"] (sp_l_own K) := by
 refine okX T.F_l_own sc_l_own len_l_own (λ cdv A outer s H vs Q E hgu0 hr h => ⟨t_l_own K, PSs.nox ?_, pure_l_own vs H Q E h⟩)
 exact (pss_one (ps_ret (pe_callTy cr_tupL (by rfl) T.b_tuple (by decide +kernel) (pa_cons (pe_lc (own := [("_law_part", 1)]) (g := (gName 1)) (tt := tYes) rfl sc_l_own.nd (pi_tup (pv 0)) (blkOk_by (own := [("_law_part", 1)]) (N := ["_law_deed", "_law_part"]) (sc := defScope s_l_own) (by decide +kernel)) (λ _ _ _ _ _ => (pg_name (i := 1) sc_l_own.nd rfl (by walk_at "oz"))) (λ _ _ _ _ _ => pts_nil) (λ _ _ _ _ _ => (pe_ifExp (pt_val (pe_callB cr_isiQ (by rfl) T.b_isinstance (by decide +kernel) (pa_cons (pv 1) (pa_cons (pe_bltn (by rfl) T.b_list (by decide +kernel) rfl) pa_nil)))) (pe_callTy cr_list (by rfl) T.b_list (by decide +kernel) (pa_cons (pv 1) pa_nil)) (pv 1)))) pa_nil))))
theorem sc_l_alike : FnScope ["_law_found", "_law_due"] ["_law_found", "_law_due"] (defScope s_l_alike) := (by walk_at "fs")
theorem bd_l_alike (T : Txt K mg) : Binds K (fdOf K (He.ga K "_law_alike")) ["_law_found", "_law_due"] [] := T.F_l_alike.bindsN λ _ _ _ _ _ _ us hl => match us, hl with | [_, _], _ => rfl
theorem ok_l_alike (T : Txt K mg) (nd : NDX base) : FnX true P w K mg base CX0 1 (He.ga K "_law_alike") (fdOf K (He.ga K "_law_alike")) ["_law_found", "_law_due"] (sp_l_alike K) := by
 refine okX T.F_l_alike sc_l_alike len_l_alike (λ cdv A outer s H vs Q E hgu0 hr h => ⟨t_l_alike K, PSs.nox ?_, pure_l_alike vs H Q E h⟩)
 have hgu : (A.deeper (envOfC "_law_alike" (defScope s_l_alike) s.heap.objs.size (He.ga K "_law_alike") cdv)).guards = some [] := hgu0 rfl
 exact (pss_one (ps_ret (pe_and (pe_cmpR (uo_eqQ (units128 hr)) (pv 0) (pv 1) (nomark _)) (pe_one (pe_cmpR (uo_eqQ (units128 hr)) (pe_callB (cr_reprQ nd.2 hgu hr.units) (by rfl) T.b_repr (by decide +kernel) (pa_cons (pv 0) pa_nil)) (pe_callB (cr_reprQ nd.2 hgu hr.units) (by rfl) T.b_repr (by decide +kernel) (pa_cons (pv 1) pa_nil)) (nomark _))))))
theorem sc_show_seal : FnScope ["seal", "text", "rest"] ["seal"] (defScope s_show_seal) := (by walk_at "fs")
theorem bd_show_seal (T : Txt K mg) : Binds K (fdOf K (He.ga K "show_seal")) ["seal"] [] := T.F_show_seal.bindsN λ _ _ _ _ _ _ us hl => match us, hl with | [_], _ => rfl
theorem ok_show_seal (T : Txt K mg) (nd : NDX base) : FnX false P w K mg base CX0 1 (He.ga K "show_seal") (fdOf K (He.ga K "show_seal")) ["seal"] (sp_show_seal K) := by
 refine okX T.F_show_seal sc_show_seal len_show_seal (λ cdv A outer s H vs Q E hgu0 hr h => ⟨t_show_seal K, PSs.nox ?_, pure_show_seal vs H Q E h⟩)
 exact (pss_cons (ps_set (i := 1) sc_show_seal.nd rfl (by walk_at "oz") pe_str)
     (pss_cons (ps_set (i := 2) sc_show_seal.nd rfl (by walk_at "oz") (pv 0))
     (pss_cons (ps_while PassesOwn.never (pt_cmpR uo_gt (pv 2) pe_int (nomark _)) (pss_cons (ps_set (i := 1) sc_show_seal.nd rfl (by walk_at "oz") (pe_op uo_add (pe_ix ix_any (pe_globS rfl T.c_SEAL_FIGURES) (pe_op uo_mod (pv 2) pe_int) (λ _ _ => rfl)) (pv 1)))
     (pss_one (ps_aug (i := 2) sc_show_seal.nd rfl (by walk_at "oz") pe_int (ip_of io_div)))))
     (pss_one (ps_ret (pv 1))))))
theorem sc_show_signs : FnScope ["signs", "sign"] ["signs"] (defScope s_show_signs) := (by walk_at "fs")
theorem bd_show_signs (T : Txt K mg) : Binds K (fdOf K (He.ga K "show_signs")) ["signs"] [] := T.F_show_signs.bindsN λ _ _ _ _ _ _ us hl => match us, hl with | [_], _ => rfl
theorem ok_show_signs (T : Txt K mg) (nd : NDX base) : FnX false P w K mg base CX0 1 (He.ga K "show_signs") (fdOf K (He.ga K "show_signs")) ["signs"] (sp_show_signs K) := by
 refine okX T.F_show_signs sc_show_signs len_show_signs (λ cdv A outer s H vs Q E hgu0 hr h => ⟨t_show_signs K, PSs.nox ?_, pure_show_signs vs H Q E h⟩)
 exact (pss_cons (ps_if (pt_cmpR (uo_eq hr.units) (pv 0) (pe_lst pa_nil) (nomark _)) (pss_one (ps_ret pe_str)) pss_nil)
     (pss_one (ps_ret (pe_join pe_str (pe_lc (own := [("sign", 1)]) (g := (gName 1)) (tt := tYes) rfl sc_show_signs.nd (pi_list (pv 0)) (blkOk_by (own := [("sign", 1)]) (N := ["signs", "sign"]) (sc := defScope s_show_signs) (by decide +kernel)) (λ _ _ _ _ _ => (pg_name (i := 1) sc_show_signs.nd rfl (by walk_at "oz"))) (λ _ _ _ _ _ => pts_nil) (λ _ _ _ _ _ => (pe_callTy cr_strA (by rfl) T.b_str (by decide +kernel) (pa_cons (pv 1) pa_nil))))))))
theorem sc_show_deed : FnScope ["deed", "words", "word", "kind", "thing", "things"] ["deed"] (defScope s_show_deed) := (by walk_at "fs")
theorem bd_show_deed (T : Txt K mg) : Binds K (fdOf K (He.ga K "show_deed")) ["deed"] [] := T.F_show_deed.bindsN λ _ _ _ _ _ _ us hl => match us, hl with | [_], _ => rfl
theorem ok_show_deed (T : Txt K mg) (nd : NDX base) : FnX false P w K mg base CX0 2 (He.ga K "show_deed") (fdOf K (He.ga K "show_deed")) ["deed"] (sp_show_deed K) := by
 refine okX T.F_show_deed sc_show_deed len_show_deed (λ cdv A outer s H vs Q E hgu0 hr h => ⟨t_show_deed K, PSs.nox ?_, pure_show_deed T.c vs H Q E h⟩)
 exact (pss_cons (ps_asg (pv 0) (pg_star rfl (pgs_cons (pg_name (i := 2) sc_show_deed.nd rfl (by walk_at "oz")) (pgs_star (pg_name (i := 5) sc_show_deed.nd rfl (by walk_at "oz")) pgs_nil))))
     (pss_cons (ps_set (i := 1) sc_show_deed.nd rfl (by walk_at "oz") (pe_lst (pa_cons (pv 2) pa_nil)))
     (pss_cons (ps_for PassesOwn.never rfl (pi_zipG true false (by rfl) T.b_zip (pa_cons (pe_ix (ix_gt T.gt_MADE_OF) (pe_glob rfl T.cg_MADE_OF rfl) (pv 2) (λ _ _ => rfl)) (pa_cons (pv 5) pa_nil))) (pg_tup rfl (pgs_cons (pg_name (i := 3) sc_show_deed.nd rfl (by walk_at "oz")) (pgs_cons (pg_name (i := 4) sc_show_deed.nd rfl (by walk_at "oz")) pgs_nil))) (pss_one (ps_if (pt_cmpR (uo_eq hr.units) (pv 3) pe_str (nomark _)) (pss_one (ps_expr (pe_bm PySem.F.plainAttrs_list PySem.F.slot_list_append PySem.F.type_list_append mt_append (pv 1) (pa_cons (pe_callX (ok_show_seal T nd) nz hr rfl T.g_show_seal T.F_show_seal.kp (bd_show_seal T) .nil pass0 (pa_cons (pv 4) pa_nil)) pa_nil)))) (pss_one (ps_if (pt_cmpR (uo_inU hr.u65) (pv 3) (pe_tup (pa_cons pe_str (pa_cons pe_str (pa_cons pe_str pa_nil)))) (by rfl)) (pss_one (ps_expr (pe_bm PySem.F.plainAttrs_list PySem.F.slot_list_append PySem.F.type_list_append mt_append (pv 1) (pa_cons (pe_callX (ok_show_signs T nd) nz hr rfl T.g_show_signs T.F_show_signs.kp (bd_show_signs T) .nil pass0 (pa_cons (pv 4) pa_nil)) pa_nil)))) (pss_one (ps_expr (pe_bm PySem.F.plainAttrs_list PySem.F.slot_list_append PySem.F.type_list_append mt_append (pv 1) (pa_cons (pe_callTy cr_strA (by rfl) T.b_str (by decide +kernel) (pa_cons (pv 4) pa_nil)) pa_nil)))))))))
     (pss_one (ps_ret (pe_join pe_str (pv 1)))))))
theorem sc_seal_of_word : FnScope ["word", "sign"] ["word"] (defScope s_seal_of_word) := (by walk_at "fs")
theorem bd_seal_of_word (T : Txt K mg) : Binds K (fdOf K (He.ga K "seal_of_word")) ["word"] [] := T.F_seal_of_word.bindsN λ _ _ _ _ _ _ us hl => match us, hl with | [_], _ => rfl
theorem ok_seal_of_word (T : Txt K mg) (nd : NDX base) : FnX false P w K mg base CX0 1 (He.ga K "seal_of_word") (fdOf K (He.ga K "seal_of_word")) ["word"] (sp_seal_of_word K) := by
 refine okX T.F_seal_of_word sc_seal_of_word len_seal_of_word (λ cdv A outer s H vs Q E hgu0 hr h => ⟨t_seal_of_word K, PSs.nox ?_, pure_seal_of_word vs H Q E h⟩)
 exact (pss_cons (ps_if (PW.pt (pw_or (pt_not (pt_chain uo_le uo_le pe_int (pe_callB cr_len (by rfl) T.b_len (by decide +kernel) (pa_cons (pv 0) pa_nil)) (pe_globI rfl T.c_MOST_SEAL_FIGURES))) (pw_or1 (pt_cmpR (uo_eq hr.units) (pe_ix ix_any (pv 0) pe_int (λ _ _ => rfl)) pe_str (nomark _))))) (pss_one (ps_ret pe_non)) pss_nil)
     (pss_cons (ps_if (pt_not (pt_val (pe_callB (cr_all rfl) (by rfl) T.b_all (by decide +kernel) (pa_cons (pe_lc (own := [("sign", 1)]) (g := (gName 1)) (tt := tYes) rfl sc_seal_of_word.nd (pi_str (pv 0)) (blkOk_by (own := [("sign", 1)]) (N := ["word", "sign"]) (sc := defScope s_seal_of_word) (by decide +kernel)) (λ _ _ _ _ _ => (pg_name (i := 1) sc_seal_of_word.nd rfl (by walk_at "oz"))) (λ _ _ _ _ _ => pts_nil) (λ _ _ _ _ _ => (pe_cmpR (uo_inU hr.u65) (pv 1) (pe_globS rfl T.c_SEAL_FIGURES) (by rfl)))) pa_nil)))) (pss_one (ps_ret pe_non)) pss_nil)
     (pss_one (ps_ret (pe_callTy call_int_hex (by rfl) T.b_int (by decide +kernel) (pa_cons (pv 0) (pa_cons pe_int pa_nil)))))))
theorem sc_whole_of : FnScope ["word", "sign"] ["word"] (defScope s_whole_of) := (by walk_at "fs")
theorem bd_whole_of (T : Txt K mg) : Binds K (fdOf K (He.ga K "whole_of")) ["word"] [] := T.F_whole_of.bindsN λ _ _ _ _ _ _ us hl => match us, hl with | [_], _ => rfl
theorem ok_whole_of (T : Txt K mg) (nd : NDX base) : FnX false P w K mg base CX0 1 (He.ga K "whole_of") (fdOf K (He.ga K "whole_of")) ["word"] (sp_whole_of K) := by
 refine okX T.F_whole_of sc_whole_of len_whole_of (λ cdv A outer s H vs Q E hgu0 hr h => ⟨t_whole_of K, PSs.nox ?_, pure_whole_of vs H Q E h⟩)
 exact (pss_cons (ps_if (PW.pt (pw_or (pt_not (pt_chain uo_le uo_le pe_int (pe_callB cr_len (by rfl) T.b_len (by decide +kernel) (pa_cons (pv 0) pa_nil)) (pe_globI rfl T.c_MOST_FIGURES))) (pw_or1 (PW.pt (pw_and (pt_cmpR (uo_eq hr.units) (pe_ix ix_any (pv 0) pe_int (λ _ _ => rfl)) pe_str (nomark _)) (pw_and1 (pt_cmpR uo_gt (pe_callB cr_len (by rfl) T.b_len (by decide +kernel) (pa_cons (pv 0) pa_nil)) pe_int (nomark _)))))))) (pss_one (ps_ret pe_non)) pss_nil)
     (pss_cons (ps_if (pt_not (pt_val (pe_callB (cr_all rfl) (by rfl) T.b_all (by decide +kernel) (pa_cons (pe_lc (own := [("sign", 1)]) (g := (gName 1)) (tt := tYes) rfl sc_whole_of.nd (pi_str (pv 0)) (blkOk_by (own := [("sign", 1)]) (N := ["word", "sign"]) (sc := defScope s_whole_of) (by decide +kernel)) (λ _ _ _ _ _ => (pg_name (i := 1) sc_whole_of.nd rfl (by walk_at "oz"))) (λ _ _ _ _ _ => pts_nil) (λ _ _ _ _ _ => (pe_cmpR (uo_inU hr.u65) (pv 1) (pe_globS rfl T.c_FIGURES) (by rfl)))) pa_nil)))) (pss_one (ps_ret pe_non)) pss_nil)
     (pss_one (ps_ret (pe_callTy (cr_intT nd.1) (by rfl) T.b_int (by decide +kernel) (pa_cons (pv 0) pa_nil))))))
theorem sc_signs_of_word : FnScope ["word", "part"] ["word"] (defScope s_signs_of_word) := (by walk_at "fs")
theorem bd_signs_of_word (T : Txt K mg) : Binds K (fdOf K (He.ga K "signs_of_word")) ["word"] [] := T.F_signs_of_word.bindsN λ _ _ _ _ _ _ us hl => match us, hl with | [_], _ => rfl
theorem ok_signs_of_word (T : Txt K mg) (nd : NDX base) : FnX false P w K mg base CX0 2 (He.ga K "signs_of_word") (fdOf K (He.ga K "signs_of_word")) ["word"] (sp_signs_of_word K) := by
 refine okX T.F_signs_of_word sc_signs_of_word len_signs_of_word (λ cdv A outer s H vs Q E hgu0 hr h => ⟨t_signs_of_word K, PSs.nox ?_, pure_signs_of_word vs H Q E h⟩)
 exact (pss_cons (ps_if (pt_cmpR (uo_eq hr.units) (pv 0) pe_str (nomark _)) (pss_one (ps_ret (pe_lst pa_nil))) pss_nil)
     (pss_one (ps_ret (pe_lc (own := [("part", 1)]) (g := (gName 1)) (tt := tYes) rfl sc_signs_of_word.nd (pi_list (pe_splT (pv 0) pe_str)) (blkOk_by (own := [("part", 1)]) (N := ["word", "part"]) (sc := defScope s_signs_of_word) (by decide +kernel)) (λ _ _ _ _ _ => (pg_name (i := 1) sc_signs_of_word.nd rfl (by walk_at "oz"))) (λ _ _ _ _ _ => pts_nil) (λ _ _ _ _ _ => (pe_callX (ok_whole_of T nd) nz hr rfl T.g_whole_of T.F_whole_of.kp (bd_whole_of T) .nil pass0 (pa_cons (pv 1) pa_nil)))))))
theorem sc_thing_of : FnScope ["kind", "word"] ["kind", "word"] (defScope s_thing_of) := (by walk_at "fs")
theorem bd_thing_of (T : Txt K mg) : Binds K (fdOf K (He.ga K "thing_of")) ["kind", "word"] [] := T.F_thing_of.bindsN λ _ _ _ _ _ _ us hl => match us, hl with | [_, _], _ => rfl
theorem ok_thing_of (T : Txt K mg) (nd : NDX base) : FnX false P w K mg base CX0 3 (He.ga K "thing_of") (fdOf K (He.ga K "thing_of")) ["kind", "word"] (sp_thing_of K) := by
 refine okX T.F_thing_of sc_thing_of len_thing_of (λ cdv A outer s H vs Q E hgu0 hr h => ⟨t_thing_of K, PSs.nox ?_, pure_thing_of vs H Q E h⟩)
 exact (pss_cons (ps_if (pt_cmpR (uo_eq hr.units) (pv 0) pe_str (nomark _)) (pss_one (ps_ret (pe_callX (ok_seal_of_word T nd) nz (hr.mono (by decide)) rfl T.g_seal_of_word T.F_seal_of_word.kp (bd_seal_of_word T) .nil pass0 (pa_cons (pv 1) pa_nil)))) pss_nil)
     (pss_cons (ps_if (pt_cmpR (uo_inU hr.u65) (pv 0) (pe_tup (pa_cons pe_str (pa_cons pe_str (pa_cons pe_str pa_nil)))) (by rfl)) (pss_one (ps_ret (pe_callX (ok_signs_of_word T nd) nz hr rfl T.g_signs_of_word T.F_signs_of_word.kp (bd_signs_of_word T) .nil pass0 (pa_cons (pv 1) pa_nil)))) pss_nil)
     (pss_cons (ps_if (pt_cmpR (uo_inU hr.u65) (pv 0) (pe_tup (pa_cons pe_str (pa_cons pe_str pa_nil))) (by rfl)) (pss_one (ps_ret (pe_callX (ok_whole_of T nd) nz (hr.mono (by decide)) rfl T.g_whole_of T.F_whole_of.kp (bd_whole_of T) .nil pass0 (pa_cons (pv 1) pa_nil)))) pss_nil)
     (pss_one (ps_ret (pv 1))))))
theorem sc_is_name : FnScope ["thing", "letter"] ["thing"] (defScope s_is_name) := (by walk_at "fs")
theorem bd_is_name (T : Txt K mg) : Binds K (fdOf K (He.ga K "is_name")) ["thing"] [] := T.F_is_name.bindsN λ _ _ _ _ _ _ us hl => match us, hl with | [_], _ => rfl
theorem ok_is_name (T : Txt K mg) (nd : NDX base) : FnX false P w K mg base CX0 1 (He.ga K "is_name") (fdOf K (He.ga K "is_name")) ["thing"] (sp_is_name K) := by
 refine okX T.F_is_name sc_is_name len_is_name (λ cdv A outer s H vs Q E hgu0 hr h => ⟨t_is_name K, PSs.nox ?_, pure_is_name vs H Q E h⟩)
 exact (pss_cons (ps_if (PW.pt (pw_or (pt_not (pt_val (pe_callB cr_isiQ (by rfl) T.b_isinstance (by decide +kernel) (pa_cons (pv 0) (pa_cons (pe_bltn (by rfl) T.b_str (by decide +kernel) rfl) pa_nil))))) (pw_or1 (pt_not (pt_chain uo_le uo_le pe_int (pe_callB cr_len (by rfl) T.b_len (by decide +kernel) (pa_cons (pv 0) pa_nil)) (pe_globI rfl T.c_LONGEST)))))) (pss_one (ps_ret pe_bl)) pss_nil)
     (pss_cons (ps_for PassesOwn.never rfl (pi_str (pv 0)) (pg_name (i := 1) sc_is_name.nd rfl (by walk_at "oz")) (pss_one (ps_if (pt_cmpR (uo_notinU hr.u65) (pv 1) (pe_globS rfl T.c_LETTERS) (by rfl)) (pss_one (ps_ret pe_bl)) pss_nil)))
     (pss_one (ps_ret pe_bl))))
theorem sc_is_whole : FnScope ["thing"] ["thing"] (defScope s_is_whole) := (by walk_at "fs")
theorem bd_is_whole (T : Txt K mg) : Binds K (fdOf K (He.ga K "is_whole")) ["thing"] [] := T.F_is_whole.bindsN λ _ _ _ _ _ _ us hl => match us, hl with | [_], _ => rfl
theorem ok_is_whole (T : Txt K mg) (nd : NDX base) : FnX false P w K mg base CX0 1 (He.ga K "is_whole") (fdOf K (He.ga K "is_whole")) ["thing"] (sp_is_whole K) := by
 refine okX T.F_is_whole sc_is_whole len_is_whole (λ cdv A outer s H vs Q E hgu0 hr h => ⟨t_is_whole K, PSs.nox ?_, pure_is_whole vs H Q E h⟩)
 exact (pss_one (ps_ret (pe_and (pe_callB cr_isiQ (by rfl) T.b_isinstance (by decide +kernel) (pa_cons (pv 0) (pa_cons (pe_bltn (by rfl) T.b_int (by decide +kernel) rfl) pa_nil))) (pe_one (pe_not (pe_callB cr_isiQ (by rfl) T.b_isinstance (by decide +kernel) (pa_cons (pv 0) (pa_cons (pe_bltn (by rfl) T.b_bool (by decide +kernel) rfl) pa_nil))))))))
theorem sc_is_sign : FnScope ["thing"] ["thing"] (defScope s_is_sign) := (by walk_at "fs")
theorem bd_is_sign (T : Txt K mg) : Binds K (fdOf K (He.ga K "is_sign")) ["thing"] [] := T.F_is_sign.bindsN λ _ _ _ _ _ _ us hl => match us, hl with | [_], _ => rfl
theorem ok_is_sign (T : Txt K mg) (nd : NDX base) : FnX false P w K mg base CX0 2 (He.ga K "is_sign") (fdOf K (He.ga K "is_sign")) ["thing"] (sp_is_sign K) := by
 refine okX T.F_is_sign sc_is_sign len_is_sign (λ cdv A outer s H vs Q E hgu0 hr h => ⟨t_is_sign K, PSs.nox ?_, pure_is_sign vs H Q E h⟩)
 exact (pss_one (ps_ret (pe_and (pe_callX (ok_is_whole T nd) nz hr rfl T.g_is_whole T.F_is_whole.kp (bd_is_whole T) .nil pass0 (pa_cons (pv 0) pa_nil)) (pe_one (pe_chain uo_le uo_le pe_int (pv 0) (pe_globI rfl T.c_MOST_SIGN))))))
theorem sc_are_signs : FnScope ["thing", "fewest", "most", "sign"] ["thing", "fewest", "most"] (defScope s_are_signs) := (by walk_at "fs")
theorem bd_are_signs (T : Txt K mg) : Binds K (fdOf K (He.ga K "are_signs")) ["thing", "fewest", "most"] [] := T.F_are_signs.bindsN λ _ _ _ _ _ _ us hl => match us, hl with | [_, _, _], _ => rfl
theorem ok_are_signs (T : Txt K mg) (nd : NDX base) : FnX false P w K mg base CX0 3 (He.ga K "are_signs") (fdOf K (He.ga K "are_signs")) ["thing", "fewest", "most"] (sp_are_signs K) := by
 refine okX T.F_are_signs sc_are_signs len_are_signs (λ cdv A outer s H vs Q E hgu0 hr h => ⟨t_are_signs K, PSs.nox ?_, pure_are_signs vs H Q E h⟩)
 exact (pss_cons (ps_if (PW.pt (pw_or (pt_not (pt_val (pe_callB cr_isiQ (by rfl) T.b_isinstance (by decide +kernel) (pa_cons (pv 0) (pa_cons (pe_bltn (by rfl) T.b_list (by decide +kernel) rfl) pa_nil))))) (pw_or1 (pt_not (pt_chain uo_le uo_le (pv 1) (pe_callB cr_len (by rfl) T.b_len (by decide +kernel) (pa_cons (pv 0) pa_nil)) (pv 2)))))) (pss_one (ps_ret pe_bl)) pss_nil)
     (pss_cons (ps_for PassesOwn.never rfl (pi_list (pv 0)) (pg_name (i := 3) sc_are_signs.nd rfl (by walk_at "oz")) (pss_one (ps_if (pt_not (pt_val (pe_callX (ok_is_sign T nd) nz hr rfl T.g_is_sign T.F_is_sign.kp (bd_is_sign T) .nil pass0 (pa_cons (pv 3) pa_nil)))) (pss_one (ps_ret pe_bl)) pss_nil)))
     (pss_one (ps_ret pe_bl))))
theorem sc_is_content : FnScope ["thing"] ["thing"] (defScope s_is_content) := (by walk_at "fs")
theorem bd_is_content (T : Txt K mg) : Binds K (fdOf K (He.ga K "is_content")) ["thing"] [] := T.F_is_content.bindsN λ _ _ _ _ _ _ us hl => match us, hl with | [_], _ => rfl
theorem ok_is_content (T : Txt K mg) (nd : NDX base) : FnX false P w K mg base CX0 4 (He.ga K "is_content") (fdOf K (He.ga K "is_content")) ["thing"] (sp_is_content K) := by
 refine okX T.F_is_content sc_is_content len_is_content (λ cdv A outer s H vs Q E hgu0 hr h => ⟨t_is_content K, PSs.nox ?_, pure_is_content vs H Q E h⟩)
 exact (pss_one (ps_ret (pe_callX (ok_are_signs T nd) nz hr rfl T.g_are_signs T.F_are_signs.kp (bd_are_signs T) .nil pass0 (pa_cons (pv 0) (pa_cons pe_int (pa_cons (pe_globI rfl T.c_MOST_CONTENT) pa_nil))))))
theorem sc_is_time : FnScope ["thing"] ["thing"] (defScope s_is_time) := (by walk_at "fs")
theorem bd_is_time (T : Txt K mg) : Binds K (fdOf K (He.ga K "is_time")) ["thing"] [] := T.F_is_time.bindsN λ _ _ _ _ _ _ us hl => match us, hl with | [_], _ => rfl
theorem ok_is_time (T : Txt K mg) (nd : NDX base) : FnX false P w K mg base CX0 2 (He.ga K "is_time") (fdOf K (He.ga K "is_time")) ["thing"] (sp_is_time K) := by
 refine okX T.F_is_time sc_is_time len_is_time (λ cdv A outer s H vs Q E hgu0 hr h => ⟨t_is_time K, PSs.nox ?_, pure_is_time vs H Q E h⟩)
 exact (pss_one (ps_ret (pe_and (pe_callX (ok_is_whole T nd) nz hr rfl T.g_is_whole T.F_is_whole.kp (bd_is_whole T) .nil pass0 (pa_cons (pv 0) pa_nil)) (pe_one (pe_chain uo_le uo_le pe_int (pv 0) (pe_globI rfl T.c_MOST_TIME))))))
theorem sc_is_kind : FnScope ["thing"] ["thing"] (defScope s_is_kind) := (by walk_at "fs")
theorem bd_is_kind (T : Txt K mg) : Binds K (fdOf K (He.ga K "is_kind")) ["thing"] [] := T.F_is_kind.bindsN λ _ _ _ _ _ _ us hl => match us, hl with | [_], _ => rfl
theorem ok_is_kind (T : Txt K mg) (nd : NDX base) : FnX false P w K mg base CX0 1 (He.ga K "is_kind") (fdOf K (He.ga K "is_kind")) ["thing"] (sp_is_kind K) := by
 refine okX T.F_is_kind sc_is_kind len_is_kind (λ cdv A outer s H vs Q E hgu0 hr h => ⟨t_is_kind K, PSs.nox ?_, pure_is_kind T.c vs H Q E h⟩)
 exact (pss_one (ps_ret (pe_and (pe_callB cr_isiQ (by rfl) T.b_isinstance (by decide +kernel) (pa_cons (pv 0) (pa_cons (pe_bltn (by rfl) T.b_str (by decide +kernel) rfl) pa_nil))) (pe_one (pe_cmpR (uo_inU hr.u65) (pv 0) (pe_glob rfl T.cg_DEED_KINDS rfl) (by rfl))))))
theorem sc_is_seal : FnScope ["thing", "rest", "turn"] ["thing"] (defScope s_is_seal) := (by walk_at "fs")
theorem bd_is_seal (T : Txt K mg) : Binds K (fdOf K (He.ga K "is_seal")) ["thing"] [] := T.F_is_seal.bindsN λ _ _ _ _ _ _ us hl => match us, hl with | [_], _ => rfl
theorem ok_is_seal (T : Txt K mg) (nd : NDX base) : FnX false P w K mg base CX0 2 (He.ga K "is_seal") (fdOf K (He.ga K "is_seal")) ["thing"] (sp_is_seal K) := by
 refine okX T.F_is_seal sc_is_seal len_is_seal (λ cdv A outer s H vs Q E hgu0 hr h => ⟨t_is_seal K, PSs.nox ?_, pure_is_seal vs H Q E h⟩)
 exact (pss_cons (ps_if (PW.pt (pw_or (pt_not (pt_val (pe_callX (ok_is_whole T nd) nz hr rfl T.g_is_whole T.F_is_whole.kp (bd_is_whole T) .nil pass0 (pa_cons (pv 0) pa_nil)))) (pw_or1 (pt_cmpR uo_lt (pv 0) pe_int (nomark _))))) (pss_one (ps_ret pe_bl)) pss_nil)
     (pss_cons (ps_set (i := 1) sc_is_seal.nd rfl (by walk_at "oz") (pv 0))
     (pss_cons (ps_for PassesOwn.never rfl (pi_range1 (by rfl) T.b_range (pa_cons (pe_globI rfl T.c_MOST_PIECE) pa_nil)) (pg_name (i := 2) sc_is_seal.nd rfl (by walk_at "oz")) (pss_cons (ps_if (pt_cmpR (uo_eq hr.units) (pe_op uo_mod (pv 1) (pe_globI rfl T.c_BASE)) pe_int (nomark _)) (pss_one (ps_ret pe_bl)) pss_nil)
     (pss_cons (ps_aug (i := 1) sc_is_seal.nd rfl (by walk_at "oz") (pe_globI rfl T.c_BASE) (ip_of io_div))
     (pss_one (ps_if (pt_cmpR (uo_eq hr.units) (pv 1) pe_int (nomark _)) (pss_one (ps_ret pe_bl)) pss_nil)))))
     (pss_one (ps_ret pe_bl)))))
theorem sc_is_body : FnScope ["thing"] ["thing"] (defScope s_is_body) := (by walk_at "fs")
theorem bd_is_body (T : Txt K mg) : Binds K (fdOf K (He.ga K "is_body")) ["thing"] [] := T.F_is_body.bindsN λ _ _ _ _ _ _ us hl => match us, hl with | [_], _ => rfl
theorem ok_is_body (T : Txt K mg) (nd : NDX base) : FnX false P w K mg base CX0 4 (He.ga K "is_body") (fdOf K (He.ga K "is_body")) ["thing"] (sp_is_body K) := by
 refine okX T.F_is_body sc_is_body len_is_body (λ cdv A outer s H vs Q E hgu0 hr h => ⟨t_is_body K, PSs.nox ?_, pure_is_body vs H Q E h⟩)
 exact (pss_one (ps_ret (pe_callX (ok_are_signs T nd) nz hr rfl T.g_are_signs T.F_are_signs.kp (bd_are_signs T) .nil pass0 (pa_cons (pv 0) (pa_cons pe_int (pa_cons pe_int pa_nil))))))
theorem sc_is_piece : FnScope ["thing"] ["thing"] (defScope s_is_piece) := (by walk_at "fs")
theorem bd_is_piece (T : Txt K mg) : Binds K (fdOf K (He.ga K "is_piece")) ["thing"] [] := T.F_is_piece.bindsN λ _ _ _ _ _ _ us hl => match us, hl with | [_], _ => rfl
theorem ok_is_piece (T : Txt K mg) (nd : NDX base) : FnX false P w K mg base CX0 4 (He.ga K "is_piece") (fdOf K (He.ga K "is_piece")) ["thing"] (sp_is_piece K) := by
 refine okX T.F_is_piece sc_is_piece len_is_piece (λ cdv A outer s H vs Q E hgu0 hr h => ⟨t_is_piece K, PSs.nox ?_, pure_is_piece vs H Q E h⟩)
 exact (pss_one (ps_ret (pe_callX (ok_are_signs T nd) nz hr rfl T.g_are_signs T.F_are_signs.kp (bd_are_signs T) .nil pass0 (pa_cons (pv 0) (pa_cons pe_int (pa_cons pe_int pa_nil))))))
theorem sc_is_blocks : FnScope ["thing"] ["thing"] (defScope s_is_blocks) := (by walk_at "fs")
theorem bd_is_blocks (T : Txt K mg) : Binds K (fdOf K (He.ga K "is_blocks")) ["thing"] [] := T.F_is_blocks.bindsN λ _ _ _ _ _ _ us hl => match us, hl with | [_], _ => rfl
theorem ok_is_blocks (T : Txt K mg) (nd : NDX base) : FnX false P w K mg base CX0 2 (He.ga K "is_blocks") (fdOf K (He.ga K "is_blocks")) ["thing"] (sp_is_blocks K) := by
 refine okX T.F_is_blocks sc_is_blocks len_is_blocks (λ cdv A outer s H vs Q E hgu0 hr h => ⟨t_is_blocks K, PSs.nox ?_, pure_is_blocks vs H Q E h⟩)
 exact (pss_one (ps_ret (pe_and (pe_callX (ok_is_whole T nd) nz hr rfl T.g_is_whole T.F_is_whole.kp (bd_is_whole T) .nil pass0 (pa_cons (pv 0) pa_nil)) (pe_one (pe_chain uo_le uo_le pe_int (pv 0) (pe_globI rfl T.c_MOST_BLOCKS))))))
theorem sc_is_deed : FnScope ["thing", "kinds", "word", "kind", "one", "look", "things"] ["thing"] (defScope s_is_deed) := (by walk_at "fs")
theorem bd_is_deed (T : Txt K mg) : Binds K (fdOf K (He.ga K "is_deed")) ["thing"] [] := T.F_is_deed.bindsN λ _ _ _ _ _ _ us hl => match us, hl with | [_], _ => rfl
theorem ok_is_deed (T : Txt K mg) (nd : NDX base) : FnX false P w K mg base CX0 5 (He.ga K "is_deed") (fdOf K (He.ga K "is_deed")) ["thing"] (sp_is_deed K) := by
 refine okX T.F_is_deed sc_is_deed len_is_deed (λ cdv A outer s H vs Q E hgu0 hr h => ⟨t_is_deed K, PSs.nox ?_, pure_is_deed T.c vs H Q E h⟩)
 exact (pss_cons (ps_if (PW.pt (pw_or (pt_not (pt_val (pe_callB cr_isiQ (by rfl) T.b_isinstance (by decide +kernel) (pa_cons (pv 0) (pa_cons (pe_bltn (by rfl) T.b_tuple (by decide +kernel) rfl) pa_nil))))) (pw_or (pt_cmpR (uo_eqT0 (units128 hr)) (pv 0) (pe_tup pa_nil) (nomark _)) (pw_or1 (pt_not (pt_val (pe_callB cr_isiQ (by rfl) T.b_isinstance (by decide +kernel) (pa_cons (pe_ix ix_any (pv 0) pe_int (λ _ _ => rfl)) (pa_cons (pe_bltn (by rfl) T.b_str (by decide +kernel) rfl) pa_nil))))))))) (pss_one (ps_ret pe_bl)) pss_nil)
     (pss_cons (ps_asg (pv 0) (pg_star rfl (pgs_cons (pg_name (i := 2) sc_is_deed.nd rfl (by walk_at "oz")) (pgs_star (pg_name (i := 6) sc_is_deed.nd rfl (by walk_at "oz")) pgs_nil))))
     (pss_cons (ps_set (i := 1) sc_is_deed.nd rfl (by walk_at "oz") (pe_getG T.gt_MADE_OF rfl T.cg_MADE_OF (pv 2) ⟨by rfl, by rfl, by rfl, by rfl⟩))
     (pss_cons (ps_if (PW.pt (pw_or (pt_cmpR op_isN' (pv 1) pe_non (nomark _)) (pw_or1 (pt_cmpR (uo_ne hr.units) (pe_callB cr_len (by rfl) T.b_len (by decide +kernel) (pa_cons (pv 1) pa_nil)) (pe_callB cr_len (by rfl) T.b_len (by decide +kernel) (pa_cons (pv 6) pa_nil)) (nomark _))))) (pss_one (ps_ret pe_bl)) pss_nil)
     (pss_cons (ps_for PassesOwn.never rfl (pi_zipG true false (by rfl) T.b_zip (pa_cons (pv 1) (pa_cons (pv 6) pa_nil))) (pg_tup rfl (pgs_cons (pg_name (i := 3) sc_is_deed.nd rfl (by walk_at "oz")) (pgs_cons (pg_name (i := 4) sc_is_deed.nd rfl (by walk_at "oz")) pgs_nil))) (pss_cons (ps_set (i := 5) sc_is_deed.nd rfl (by walk_at "oz") (pe_ix (ix_gt T.gt_LOOKS) (pe_glob rfl T.cg_LOOKS rfl) (pv 3) (λ _ _ => rfl)))
     (pss_one (ps_if (pt_not (pt_val (pe_callV (i := 5) (fs := fs_LOOKS K) (E := E0) (λ f sp h => h.elim (λ h => by obtain ⟨rfl, rfl⟩ := h; exact callF (ok_is_name T nd) nz (hr.mono (by decide)) T.F_is_name.kp (bd_is_name T) pass0) λ h => h.elim (λ h => by obtain ⟨rfl, rfl⟩ := h; exact callF (ok_is_content T nd) nz hr T.F_is_content.kp (bd_is_content T) pass0) λ h => h.elim (λ h => by obtain ⟨rfl, rfl⟩ := h; exact callF (ok_is_time T nd) nz (hr.mono (by decide)) T.F_is_time.kp (bd_is_time T) pass0) λ h => h.elim (λ h => by obtain ⟨rfl, rfl⟩ := h; exact callF (ok_is_kind T nd) nz (hr.mono (by decide)) T.F_is_kind.kp (bd_is_kind T) pass0) λ h => h.elim (λ h => by obtain ⟨rfl, rfl⟩ := h; exact callF (ok_is_seal T nd) nz (hr.mono (by decide)) T.F_is_seal.kp (bd_is_seal T) pass0) λ h => h.elim (λ h => by obtain ⟨rfl, rfl⟩ := h; exact callF (ok_is_body T nd) nz hr T.F_is_body.kp (bd_is_body T) pass0) λ h => h.elim (λ h => by obtain ⟨rfl, rfl⟩ := h; exact callF (ok_is_piece T nd) nz hr T.F_is_piece.kp (bd_is_piece T) pass0) λ h => by obtain ⟨rfl, rfl⟩ := h; exact callF (ok_is_blocks T nd) nz (hr.mono (by decide)) T.F_is_blocks.kp (bd_is_blocks T) pass0) rfl (by first | exact .inl rfl | exact .inr (.inl rfl) | exact .inr (.inr rfl)) (pa_cons (pv 4) pa_nil)))) (pss_one (ps_ret pe_bl)) pss_nil))))
     (pss_one (ps_ret pe_bl)))))))
theorem sc_read_deed : FnScope ["text", "kinds", "deed", "word", "words", "kind", "one"] ["text"] (defScope s_read_deed) := (by walk_at "fs")
theorem bd_read_deed (T : Txt K mg) : Binds K (fdOf K (He.ga K "read_deed")) ["text"] [] := T.F_read_deed.bindsN λ _ _ _ _ _ _ us hl => match us, hl with | [_], _ => rfl
theorem ok_read_deed (T : Txt K mg) (nd : NDX base) : FnX false P w K mg base CX0 6 (He.ga K "read_deed") (fdOf K (He.ga K "read_deed")) ["text"] (sp_read_deed K) := by
 refine okX T.F_read_deed sc_read_deed len_read_deed (λ cdv A outer s H vs Q E hgu0 hr h => ⟨t_read_deed K, PSs.nox ?_, pure_read_deed T.c vs H Q E h⟩)
 exact (pss_cons (ps_if (pt_not (pt_val (pe_callB cr_isiQ (by rfl) T.b_isinstance (by decide +kernel) (pa_cons (pv 0) (pa_cons (pe_bltn (by rfl) T.b_str (by decide +kernel) rfl) pa_nil))))) (pss_one ps_never) pss_nil)
     (pss_cons (ps_asg (pe_splT (pv 0) pe_str) (pg_star rfl (pgs_cons (pg_name (i := 3) sc_read_deed.nd rfl (by walk_at "oz")) (pgs_star (pg_name (i := 4) sc_read_deed.nd rfl (by walk_at "oz")) pgs_nil))))
     (pss_cons (ps_set (i := 1) sc_read_deed.nd rfl (by walk_at "oz") (pe_getG T.gt_MADE_OF rfl T.cg_MADE_OF (pv 3) ⟨by rfl, by rfl, by rfl, by rfl⟩))
     (pss_cons (ps_if (PW.pt (pw_or (pt_cmpR op_isN' (pv 1) pe_non (nomark _)) (pw_or1 (pt_cmpR (uo_ne hr.units) (pe_callB cr_len (by rfl) T.b_len (by decide +kernel) (pa_cons (pv 1) pa_nil)) (pe_callB cr_len (by rfl) T.b_len (by decide +kernel) (pa_cons (pv 4) pa_nil)) (nomark _))))) (pss_one ps_never) pss_nil)
     (pss_cons (ps_set (i := 2) sc_read_deed.nd rfl (by walk_at "oz") (pe_op op_catA (pe_tup (pa_cons (pv 3) pa_nil)) (pe_callTy cr_tupL (by rfl) T.b_tuple (by decide +kernel) (pa_cons (pe_lc (own := [("kind", 5), ("one", 6)]) (g := (gTup K 2 (gCons (gName 5) (gCons (gName 6) gNil)))) (tt := tYes) rfl sc_read_deed.nd (pi_zipG true false (by rfl) T.b_zip (pa_cons (pv 1) (pa_cons (pv 4) pa_nil))) (blkOk_by (own := [("kind", 5), ("one", 6)]) (N := ["text", "kinds", "deed", "word", "words", "kind", "one"]) (sc := defScope s_read_deed) (by decide +kernel)) (λ _ _ _ _ _ => (pg_tup rfl (pgs_cons (pg_name (i := 5) sc_read_deed.nd rfl (by walk_at "oz")) (pgs_cons (pg_name (i := 6) sc_read_deed.nd rfl (by walk_at "oz")) pgs_nil)))) (λ _ _ _ _ _ => pts_nil) (λ _ _ _ _ _ => (pe_callX (ok_thing_of T nd) nz (hr.mono (by decide)) rfl T.g_thing_of T.F_thing_of.kp (bd_thing_of T) .nil pass0 (pa_cons (pv 5) (pa_cons (pv 6) pa_nil))))) pa_nil))))
     (pss_cons (ps_if (pt_not (pt_val (pe_callX (ok_is_deed T nd) nz hr rfl T.g_is_deed T.F_is_deed.kp (bd_is_deed T) .nil pass0 (pa_cons (pv 2) pa_nil)))) (pss_one ps_never) pss_nil)
     (pss_one (ps_ret (pv 2)))))))))
theorem sc_law : FnScope ["_law_script", "_law_bag_here", "_law_names_here", "_law_times", "_law_texts", "_law_k", "_law_seals", "_law_deed", "_law_text", "_law_handed", "_law_turn", "_law_found", "_law_part"] ["_law_script"] (defScope s_law) := (by walk_at "fs")
theorem ok_law (T : Txt K mg) (nd : NDX base) : FnX true P w K mg base CX0 7 (He.ga K "law") (fdOf K (He.ga K "law")) ["_law_script"] (sp_law K) := by
 refine okX T.F_law sc_law len_law (λ cdv A outer s H vs Q E hgu0 hr h => ⟨t_law K, PSs.nox ?_, pure_law vs H Q E h⟩)
 have hgu : (A.deeper (envOfC "law" (defScope s_law) s.heap.objs.size (He.ga K "law") cdv)).guards = some [] := hgu0 rfl
 exact (pss_cons (ps_set (i := 1) sc_law.nd rfl (by walk_at "oz") (pe_callX (ok_l_bag T nd) nz (hr.mono (by decide)) rfl T.g_l_bag T.F_l_bag.kp (bd_l_bag T) .nil pass0 (pa_cons (pv 0) pa_nil)))
     (pss_cons (ps_set (i := 2) sc_law.nd rfl (by walk_at "oz") (pe_callX (ok_l_names T nd) nz (hr.mono (by decide)) rfl T.g_l_names T.F_l_names.kp (bd_l_names T) .nil pass0 (pa_cons (pv 1) (pa_cons pe_int pa_nil))))
     (pss_cons (ps_set (i := 3) sc_law.nd rfl (by walk_at "oz") (pe_lst (pa_cons pe_int (pa_cons pe_int (pa_cons (pe_callX (ok_l_take T nd) nz (hr.mono (by decide)) rfl T.g_l_take T.F_l_take.kp (bd_l_take T) .nil pass0 (pa_cons (pv 1) (pa_cons pe_int pa_nil))) pa_nil)))))
     (pss_cons (ps_set (i := 4) sc_law.nd rfl (by walk_at "oz") pe_dnewK)
     (pss_cons (ps_for PassesOwn.never rfl (pi_range1 (by rfl) T.b_range (pa_cons pe_int pa_nil)) (pg_name (i := 5) sc_law.nd rfl (by walk_at "oz")) (pss_cons (ps_set (i := 6) sc_law.nd rfl (by walk_at "oz") (pe_lst (pa_cons (pe_callX (ok_l_seal_of T nd) nz (hr.mono (by decide)) rfl T.g_l_seal_of T.F_l_seal_of.kp (bd_l_seal_of T) .nil pass0 (pa_cons (pe_callX (ok_l_signs T nd) nz (hr.mono (by decide)) rfl T.g_l_signs T.F_l_signs.kp (bd_l_signs T) .nil pass0 (pa_cons (pv 1) (pa_cons pe_int pa_nil))) pa_nil)) (pa_cons (pe_callX (ok_l_seal_of T nd) nz (hr.mono (by decide)) rfl T.g_l_seal_of T.F_l_seal_of.kp (bd_l_seal_of T) .nil pass0 (pa_cons (pe_op op_rep (pe_lst (pa_cons pe_int pa_nil)) pe_int) pa_nil)) (pa_cons (pe_callX (ok_l_seal_of T nd) nz (hr.mono (by decide)) rfl T.g_l_seal_of T.F_l_seal_of.kp (bd_l_seal_of T) .nil pass0 (pa_cons (pe_lst (pa_cons (pe_callX (ok_l_take T nd) nz (hr.mono (by decide)) rfl T.g_l_take T.F_l_take.kp (bd_l_take T) .nil pass0 (pa_cons (pv 1) (pa_cons pe_int pa_nil))) pa_nil)) pa_nil)) (pa_cons pe_int pa_nil))))))
     (pss_cons (ps_set (i := 7) sc_law.nd rfl (by walk_at "oz") (pe_callX (ok_l_shaped T nd) nz (hr.mono (by decide)) rfl T.g_l_shaped T.F_l_shaped.kp (bd_l_shaped T) .nil pass0 (pa_cons (pv 1) (pa_cons (pv 2) (pa_cons (pv 3) (pa_cons (pv 6) pa_nil))))))
     (pss_cons (ps_set (i := 8) sc_law.nd rfl (by walk_at "oz") (pe_callX (ok_l_written T nd) nz (hr.mono (by decide)) rfl T.g_l_written T.F_l_written.kp (bd_l_written T) .nil pass0 (pa_cons (pv 7) pa_nil)))
     (pss_cons (ps_set (i := 9) sc_law.nd rfl (by walk_at "oz") (pe_callX (ok_l_own T nd) nz (hr.mono (by decide)) rfl T.g_l_own T.F_l_own.kp (bd_l_own T) .nil pass0 (pa_cons (pv 7) pa_nil)))
     (pss_cons (ps_for PassesOwn.never rfl (pi_range1 (by rfl) T.b_range (pa_cons pe_int pa_nil)) (pg_name (i := 10) sc_law.nd rfl (by walk_at "oz")) (pss_cons (ps_if (PW.pt (pw_or (pt_not (pt_val (pe_callX (ok_l_alike T nd) (λ _ => hgu) (hr.mono (by decide)) rfl T.g_l_alike T.F_l_alike.kp (bd_l_alike T) .nil pass0 (pa_cons (pe_callX (ok_show_deed T nd) nz (hr.mono (by decide)) rfl T.g_show_deed T.F_show_deed.kp (bd_show_deed T) .nil pass0 (pa_cons (pv 9) pa_nil)) (pa_cons (pv 8) pa_nil))))) (pw_or1 (pt_cmpR (uo_ne hr.units) (pv 9) (pv 7) (nomark _))))) (pss_one (ps_ret pe_bl)) pss_nil)
     (pss_cons (ps_set (i := 11) sc_law.nd rfl (by walk_at "oz") (pe_callX (ok_read_deed T nd) nz hr rfl T.g_read_deed T.F_read_deed.kp (bd_read_deed T) .nil pass0 (pa_cons (pv 8) pa_nil)))
     (pss_cons (ps_if (pt_not (pt_val (pe_callX (ok_l_alike T nd) (λ _ => hgu) (hr.mono (by decide)) rfl T.g_l_alike T.F_l_alike.kp (bd_l_alike T) .nil pass0 (pa_cons (pv 11) (pa_cons (pv 7) pa_nil))))) (pss_one (ps_ret pe_bl)) pss_nil)
     (pss_one (ps_for PassesOwn.never rfl (pi_tup (pv 11)) (pg_name (i := 12) sc_law.nd rfl (by walk_at "oz")) (pss_one (ps_if (pt_val (pe_callB cr_isiQ (by rfl) T.b_isinstance (by decide +kernel) (pa_cons (pv 12) (pa_cons (pe_bltn (by rfl) T.b_list (by decide +kernel) rfl) pa_nil)))) (pss_cons (ps_expr (pe_bm PySem.F.plainAttrs_list PySem.F.slot_list_append PySem.F.type_list_append mt_append (pv 12) (pa_cons pe_int pa_nil)))
     (pss_one (ps_asg pe_int (pg_sub (pv 12) pe_int (set_any hr.u1))))) pss_nil))))))))
     (pss_cons (ps_if (pt_cmpR (uo_ne hr.units) (pe_dget2 hr.u1 (pv 4) (pv 8) (pv 7) ⟨by rfl, by rfl, by rfl, by rfl⟩) (pv 7) (nomark _)) (pss_one (ps_ret pe_bl)) pss_nil)
     (pss_one (ps_asg (pv 7) (pg_sub (pv 4) (pv 8) (set_any hr.u1)))))))))))
     (pss_one (ps_ret pe_bl)))))))
end
theorem txt {K : Fr} {h : Heap} {mg : Str -> Option Value} (X : K.In h) (G : h.Ns mainGlobals mg) (c : SaysF fa fn K) : Txt K mg where
 F_l_bag := fd_of (c.def_ 0 (d := d_l_bag) rfl)
 F_l_take := fd_of (c.def_ 1 (d := d_l_take) rfl)
 F_l_names := fd_of (c.def_ 2 (d := d_l_names) rfl)
 F_l_seal_of := fd_of (c.def_ 3 (d := d_l_seal_of) rfl)
 F_l_any := fd_of (c.def_ 4 (d := d_l_any) rfl)
 F_l_signs := fd_of (c.def_ 5 (d := d_l_signs) rfl)
 F_l_words := fd_of (c.def_ 6 (d := d_l_words) rfl)
 F_l_content := fd_of (c.def_ 7 (d := d_l_content) rfl)
 F_l_shaped := fd_of (c.def_ 8 (d := d_l_shaped) rfl)
 F_l_listed := fd_of (c.def_ 9 (d := d_l_listed) rfl)
 F_l_hex := fd_of (c.def_ 10 (d := d_l_hex) rfl)
 F_l_written := fd_of (c.def_ 11 (d := d_l_written) rfl)
 F_l_own := fd_of (c.def_ 12 (d := d_l_own) rfl)
 F_l_alike := fd_of (c.def_ 13 (d := d_l_alike) rfl)
 F_show_seal := fd_of (c.def_ 14 (d := d_show_seal) rfl)
 F_show_signs := fd_of (c.def_ 15 (d := d_show_signs) rfl)
 F_show_deed := fd_of (c.def_ 16 (d := d_show_deed) rfl)
 F_seal_of_word := fd_of (c.def_ 17 (d := d_seal_of_word) rfl)
 F_whole_of := fd_of (c.def_ 18 (d := d_whole_of) rfl)
 F_signs_of_word := fd_of (c.def_ 19 (d := d_signs_of_word) rfl)
 F_thing_of := fd_of (c.def_ 20 (d := d_thing_of) rfl)
 F_is_name := fd_of (c.def_ 21 (d := d_is_name) rfl)
 F_is_whole := fd_of (c.def_ 22 (d := d_is_whole) rfl)
 F_is_sign := fd_of (c.def_ 23 (d := d_is_sign) rfl)
 F_are_signs := fd_of (c.def_ 24 (d := d_are_signs) rfl)
 F_is_content := fd_of (c.def_ 25 (d := d_is_content) rfl)
 F_is_time := fd_of (c.def_ 26 (d := d_is_time) rfl)
 F_is_kind := fd_of (c.def_ 27 (d := d_is_kind) rfl)
 F_is_seal := fd_of (c.def_ 28 (d := d_is_seal) rfl)
 F_is_body := fd_of (c.def_ 29 (d := d_is_body) rfl)
 F_is_piece := fd_of (c.def_ 30 (d := d_is_piece) rfl)
 F_is_blocks := fd_of (c.def_ 31 (d := d_is_blocks) rfl)
 F_is_deed := fd_of (c.def_ 32 (d := d_is_deed) rfl)
 F_read_deed := fd_of (c.def_ 33 (d := d_read_deed) rfl)
 F_law := fd_of (c.def_ 34 (d := d_law) rfl)
 c_SEAL_FIGURES := He.str_ok X G (c.fact 0 (f := (λ K => (He.Fa.str "SEAL_FIGURES" "0123456789abcdef").ok K)) rfl)
 c_MOST_SEAL_FIGURES := He.int_ok X G (c.fact 1 (f := (λ K => (He.Fa.int "MOST_SEAL_FIGURES" 48).ok K)) rfl)
 c_MOST_FIGURES := He.int_ok X G (c.fact 2 (f := (λ K => (He.Fa.int "MOST_FIGURES" 8).ok K)) rfl)
 c_FIGURES := He.str_ok X G (c.fact 3 (f := (λ K => (He.Fa.str "FIGURES" "0123456789").ok K)) rfl)
 c_LETTERS := He.str_ok X G (c.fact 4 (f := (λ K => (He.Fa.str "LETTERS" "abcdefghijklmnopqrstuvwxyz").ok K)) rfl)
 c_LONGEST := He.int_ok X G (c.fact 5 (f := (λ K => (He.Fa.int "LONGEST" 8).ok K)) rfl)
 c_MOST_SIGN := He.int_ok X G (c.fact 6 (f := (λ K => (He.Fa.int "MOST_SIGN" 999).ok K)) rfl)
 c_MOST_CONTENT := He.int_ok X G (c.fact 7 (f := (λ K => (He.Fa.int "MOST_CONTENT" 48).ok K)) rfl)
 c_MOST_TIME := He.int_ok X G (c.fact 8 (f := (λ K => (He.Fa.int "MOST_TIME" 1000000).ok K)) rfl)
 cg_DEED_KINDS := He.glo_ok X G (c.fact 9 (f := (λ K => (He.Fa.glo "DEED_KINDS").ok K)) rfl)
 ct_DEED_KINDS := He.tupB_ok (c.fact 10 (f := (λ K => He.tupB K "DEED_KINDS" [.str "full", .str "step", .str "wide"])) rfl)
 c_MOST_PIECE := He.int_ok X G (c.fact 11 (f := (λ K => (He.Fa.int "MOST_PIECE" 16).ok K)) rfl)
 c_BASE := He.int_ok X G (c.fact 12 (f := (λ K => (He.Fa.int "BASE" 1001).ok K)) rfl)
 c_MOST_BLOCKS := He.int_ok X G (c.fact 13 (f := (λ K => (He.Fa.int "MOST_BLOCKS" 60).ok K)) rfl)
 cg_MADE_OF := He.glo_ok X G (c.fact 14 (f := (λ K => (He.Fa.glo "MADE_OF").ok K)) rfl)
 gt_MADE_OF := gtabT_ok (c.fact 15 (f := (λ K => gtabB K "MADE_OF" (lTxts K) ([("write", ["name", "content"]), ("drop", ["name"]), ("move", ["name", "name"]), ("begin", ["time", "kind"]), ("step", []), ("close", []), ("give_up", []), ("take", ["time", "kind"]), ("forget", ["time"]), ("merge", ["time"]), ("hold", ["time", "name"]), ("release", ["time", "name"]), ("harm", ["seal", "body"]), ("lose", ["seal"]), ("heal", ["seal", "signs"]), ("prune", ["blocks", "blocks", "blocks", "blocks"]), ("put_back", ["time"])] : List (Str × List Str)))) rfl)
 cg_LOOKS := He.glo_ok X G (c.fact 16 (f := (λ K => (He.Fa.glo "LOOKS").ok K)) rfl)
 gt_LOOKS := gtabF_ok (c.fact 17 (f := (λ K => gtabB K "LOOKS" (lFun K) ([("name", "is_name"), ("content", "is_content"), ("time", "is_time"), ("kind", "is_kind"), ("seal", "is_seal"), ("body", "is_body"), ("signs", "is_piece"), ("blocks", "is_blocks")] : List (Str × Str)))) rfl)
 g_l_bag := He.glo_ok X G (c.fact 18 (f := (λ K => (He.Fa.glo "_law_bag").ok K)) rfl)
 g_l_take := He.glo_ok X G (c.fact 19 (f := (λ K => (He.Fa.glo "_law_take").ok K)) rfl)
 g_l_names := He.glo_ok X G (c.fact 20 (f := (λ K => (He.Fa.glo "_law_names").ok K)) rfl)
 g_l_seal_of := He.glo_ok X G (c.fact 21 (f := (λ K => (He.Fa.glo "_law_seal_of").ok K)) rfl)
 g_l_any := He.glo_ok X G (c.fact 22 (f := (λ K => (He.Fa.glo "_law_any").ok K)) rfl)
 g_l_signs := He.glo_ok X G (c.fact 23 (f := (λ K => (He.Fa.glo "_law_signs").ok K)) rfl)
 g_l_words := He.glo_ok X G (c.fact 24 (f := (λ K => (He.Fa.glo "_law_words").ok K)) rfl)
 g_l_content := He.glo_ok X G (c.fact 25 (f := (λ K => (He.Fa.glo "_law_content").ok K)) rfl)
 g_l_shaped := He.glo_ok X G (c.fact 26 (f := (λ K => (He.Fa.glo "_law_shaped").ok K)) rfl)
 g_l_listed := He.glo_ok X G (c.fact 27 (f := (λ K => (He.Fa.glo "_law_listed").ok K)) rfl)
 g_l_hex := He.glo_ok X G (c.fact 28 (f := (λ K => (He.Fa.glo "_law_hex").ok K)) rfl)
 g_l_written := He.glo_ok X G (c.fact 29 (f := (λ K => (He.Fa.glo "_law_written").ok K)) rfl)
 g_l_own := He.glo_ok X G (c.fact 30 (f := (λ K => (He.Fa.glo "_law_own").ok K)) rfl)
 g_l_alike := He.glo_ok X G (c.fact 31 (f := (λ K => (He.Fa.glo "_law_alike").ok K)) rfl)
 g_show_seal := He.glo_ok X G (c.fact 32 (f := (λ K => (He.Fa.glo "show_seal").ok K)) rfl)
 g_show_signs := He.glo_ok X G (c.fact 33 (f := (λ K => (He.Fa.glo "show_signs").ok K)) rfl)
 g_show_deed := He.glo_ok X G (c.fact 34 (f := (λ K => (He.Fa.glo "show_deed").ok K)) rfl)
 g_seal_of_word := He.glo_ok X G (c.fact 35 (f := (λ K => (He.Fa.glo "seal_of_word").ok K)) rfl)
 g_whole_of := He.glo_ok X G (c.fact 36 (f := (λ K => (He.Fa.glo "whole_of").ok K)) rfl)
 g_signs_of_word := He.glo_ok X G (c.fact 37 (f := (λ K => (He.Fa.glo "signs_of_word").ok K)) rfl)
 g_thing_of := He.glo_ok X G (c.fact 38 (f := (λ K => (He.Fa.glo "thing_of").ok K)) rfl)
 g_is_name := He.glo_ok X G (c.fact 39 (f := (λ K => (He.Fa.glo "is_name").ok K)) rfl)
 g_is_whole := He.glo_ok X G (c.fact 40 (f := (λ K => (He.Fa.glo "is_whole").ok K)) rfl)
 g_is_sign := He.glo_ok X G (c.fact 41 (f := (λ K => (He.Fa.glo "is_sign").ok K)) rfl)
 g_are_signs := He.glo_ok X G (c.fact 42 (f := (λ K => (He.Fa.glo "are_signs").ok K)) rfl)
 g_is_content := He.glo_ok X G (c.fact 43 (f := (λ K => (He.Fa.glo "is_content").ok K)) rfl)
 g_is_time := He.glo_ok X G (c.fact 44 (f := (λ K => (He.Fa.glo "is_time").ok K)) rfl)
 g_is_kind := He.glo_ok X G (c.fact 45 (f := (λ K => (He.Fa.glo "is_kind").ok K)) rfl)
 g_is_seal := He.glo_ok X G (c.fact 46 (f := (λ K => (He.Fa.glo "is_seal").ok K)) rfl)
 g_is_body := He.glo_ok X G (c.fact 47 (f := (λ K => (He.Fa.glo "is_body").ok K)) rfl)
 g_is_piece := He.glo_ok X G (c.fact 48 (f := (λ K => (He.Fa.glo "is_piece").ok K)) rfl)
 g_is_blocks := He.glo_ok X G (c.fact 49 (f := (λ K => (He.Fa.glo "is_blocks").ok K)) rfl)
 g_is_deed := He.glo_ok X G (c.fact 50 (f := (λ K => (He.Fa.glo "is_deed").ok K)) rfl)
 g_read_deed := He.glo_ok X G (c.fact 51 (f := (λ K => (He.Fa.glo "read_deed").ok K)) rfl)
 g_law := He.glo_ok X G (c.fact 52 (f := (λ K => (He.Fa.glo "law").ok K)) rfl)
 cg_NoText := He.glo_ok X G (c.fact 53 (f := (λ K => (He.Fa.glo "NoText").ok K)) rfl)
 b_abs := He.free_ok X G (c.fact 54 (f := (λ K => (He.Fa.free "abs").ok K)) rfl)
 b_len := He.free_ok X G (c.fact 55 (f := (λ K => (He.Fa.free "len").ok K)) rfl)
 b_range := He.free_ok X G (c.fact 56 (f := (λ K => (He.Fa.free "range").ok K)) rfl)
 b_tuple := He.free_ok X G (c.fact 57 (f := (λ K => (He.Fa.free "tuple").ok K)) rfl)
 b_int := He.free_ok X G (c.fact 58 (f := (λ K => (He.Fa.free "int").ok K)) rfl)
 b_str := He.free_ok X G (c.fact 59 (f := (λ K => (He.Fa.free "str").ok K)) rfl)
 b_enumerate := He.free_ok X G (c.fact 60 (f := (λ K => (He.Fa.free "enumerate").ok K)) rfl)
 b_isinstance := He.free_ok X G (c.fact 61 (f := (λ K => (He.Fa.free "isinstance").ok K)) rfl)
 b_list := He.free_ok X G (c.fact 62 (f := (λ K => (He.Fa.free "list").ok K)) rfl)
 b_repr := He.free_ok X G (c.fact 63 (f := (λ K => (He.Fa.free "repr").ok K)) rfl)
 b_zip := He.free_ok X G (c.fact 64 (f := (λ K => (He.Fa.free "zip").ok K)) rfl)
 b_all := He.free_ok X G (c.fact 65 (f := (λ K => (He.Fa.free "all").ok K)) rfl)
 b_bool := He.free_ok X G (c.fact 66 (f := (λ K => (He.Fa.free "bool").ok K)) rfl)
end RC
open PySem PySem.W PySem.Calls PyProof.Rows
set_option maxRecDepth 100000 in
set_option maxHeartbeats 0 in
theorem PySem.Challenge.cw_restorechain_k92_deeds_written_and_read_holds : PySem.Challenge.rw_restorechain_k92_deeds_written_and_read.Holds := by
  w_on; o_law
  refine HandSHeadRun.head_any (r := OpenLaw.row PySem.Challenge.rw_restorechain_k92_deeds_written_and_read) (q := view (OpenLaw.row PySem.Challenge.rw_restorechain_k92_deeds_written_and_read).prog [55]) (H := RC.hk) (ob := RC.ob) (M := 20000) (loose := RC.names)
    (d := HandSHeadRun.topDef (OpenLaw.row PySem.Challenge.rw_restorechain_k92_deeds_written_and_read).prog 55) (kwd := []) RC.ob_eq (by kernel_rfl) (fun s => by kernel_rfl) RC.run
    (by kernel_rfl) (by kernel_rfl) (by kernel_rfl) (by rfl) (by first | assumption | decide +kernel) (by decide +kernel) ⟨rfl, rfl, rfl, rfl, rfl, by decide +kernel⟩ ?hw ?hc
  case hw => w_witness2
  case hc =>
    refine RC.walk_S (hi := by kernel_rfl) (l := PySem.Challenge.rw_restorechain_k92_deeds_written_and_read) (n := 63) (k := 7) (x := "_law_script") (CX := fun _ => L2.CX0) rfl (by decide) (by kernel_rfl) ⟨rfl, by decide, by decide⟩ ?F (fun _ _ _ _ _ z => z)
    intro w mg fa h Y G hmg0
    obtain ⟨K, KX, c⟩ := Y
    have hmg : mg ("law" : PySem.Str) = some (.ref fa) := by
      have e : (HandSHeadRun.topDef (OpenLaw.row PySem.Challenge.rw_restorechain_k92_deeds_written_and_read).prog 55).name = ("law" : PySem.Str) := by kernel_rfl
      rw [← e]
      exact hmg0
    have T := RC.txt KX G c
    have e := hmg.symm.trans T.g_law
    cases e
    exact ⟨K, _, RC.sp_law K, KX, fun s v => L2.FunD.bindsA (ps := ["_law_script"]) T.F_law (fun _ _ _ _ _ _ us hl => match us, hl with | [_], _ => rfl) s [v] rfl,
      RC.law_start K, fun base _ _ nd => RC.ok_law T nd⟩
