import PyProof.Rows.All
import Wide.All
import OpenK.AllK
import Wide.FinOn
import KE.KStateDown
import HandS.ForMost
import HandS.More
import HandS.Walk
import HandS.Wide
import HandS.IsInst
import HandS.RaiseMore
import HandS.Style
import HandS.Deep
import HandS.MakeKwOnly
import HandS.WordsExc
import HandS.Defaults
import HandS.Head0
import HandS.Head1
import HandS.Head2
import HandS.HeadEnd
import HandS.HeadHook1
import HandS.HeadHook2
import HandS.Codes
import HandS.WideMore
import KE.KIntText
import HandS.ExcInit
import HandS.ExcField
import HandS.ExcIs
import HandS.ExcOwn
import HandS.TryMany
import HandS.HotCalls
import HandS.Flow
import KE.KTryMore
import KE.KExcInit
import KE.KExcIs
import PyProof.Conv_int_bool
import HandS.DictComp
import HandS.DeepEq
import HandS.TupAny
import HandS.Conv
import HandS.TupSets
import PyProof.SeqIndex
import PyProof.Rows.SortShellAny
import HandS.DictTup
import HandS.SortOrd
import KE.KSortTupAny
import HandS.NoneIn
import PyProof.FString5
import HandS.DictEq
import PyProof.CollectIter
import PyProof.WalksMore
import HandS.Finally
import PyProof.SliceMore
import HandS.Zip
import HandS.SetBool
import HandS.Comp
import KE.KDictList
import PyProof.SetRoads
import PyProof.EqAt
import PyProof.EqKinds
import KE.KDictPairs
import HandS.FStr
import PySem.Challenge.RW_restorechain_k71_rules_told
set_option Elab.async false
set_option linter.all false
set_option maxRecDepth 100000
set_option maxHeartbeats 0
namespace RC
abbrev Fr := PySem.W.Frag
end RC
namespace RC
open PySem PySem.Spec PyProof.Rows L2
abbrev Cell := Addr × HO
def Ext (F F' : Hp) : Prop := ∀ a o, F a = some o -> F' a = some o
theorem Ext.refl (F : Hp) : Ext F F := λ _ _ h => h
theorem Ext.trans {F G H : Hp} (a : Ext F G) (b : Ext G H) : Ext F H := λ x o h => b x o (a x o h)
theorem Ext.new {H : Hp} {p : Addr} {o : HO} (h : H p = none) : Ext H (upd H p o) := λ a u e => by
 rw [upd_ne (ne_of_none e h)]
 exact e
theorem Ext.rd {H H' : Hp} {a : Addr} {u : HO} (e : Ext H H') (h : Rd H a u) : Rd H' a u := by
 rcases h with h | ⟨o, h⟩
 · exact Or.inl (e a _ h)
 · exact Or.inr ⟨o, e a _ h⟩
theorem Ext.sqL {K : Fr} {H H' : Hp} {a : Addr} {xs : List V} (e : Ext H H') (h : SqL K H a xs) : SqL K H' a xs := by
 rcases h with h | h
 · exact Or.inl (e.rd h)
 · exact Or.inr h
theorem Ext.sqT {K : Fr} {H H' : Hp} {a : Addr} {xs : List V} (e : Ext H H') (h : SqT K H a xs) : SqT K H' a xs := by
 rcases h with h | h
 · exact Or.inl (e.rd h)
 · exact Or.inr h
mutual
theorem Dp_ext {K : Fr} {H H' : Hp} (e : Ext H H') : ∀ {v : V} {d : PyData}, Dp K H v d -> Dp K H' v d
 | _, _, .non => .non
 | _, _, .bl b => .bl b
 | _, _, .int i => .int i
 | _, _, .str x => .str x
 | _, _, .lst h ds => .lst (e.sqL h) (DpAll_ext e ds)
 | _, _, .tup h ds => .tup (e.sqT h) (DpAll_ext e ds)
theorem DpAll_ext {K : Fr} {H H' : Hp} (e : Ext H H') : ∀ {vs : List V} {ds : List PyData}, DpAll K H vs ds -> DpAll K H' vs ds
 | _, _, .nil => .nil
 | _, _, .cons h r => .cons (Dp_ext e h) (DpAll_ext e r)
end
structure Res where
 on : Hp -> List Cell -> Prop
 mono : ∀ F F' l, Ext F F' -> on F l -> on F' l
def pt (p : Addr) (o : HO) : Res := ⟨λ _ l => l = [(p, o)], λ _ _ _ _ h => h⟩
def fz (p : Addr) (o : HO) : Res := ⟨λ F l => l = [] /\ F p = some o, λ _ _ _ e h => ⟨h.1, e _ _ h.2⟩⟩
def sp2 (R S : Res) : Res := ⟨λ F l => ∃ l1 l2, l = l1 ++ l2 /\ R.on F l1 /\ S.on F l2, λ _ _ _ e ⟨l1, l2, h, a, b⟩ => ⟨l1, l2, h, R.mono _ _ _ e a, S.mono _ _ _ e b⟩⟩
def exi {α : Type} (R : α -> Res) : Res := ⟨λ F l => ∃ x, (R x).on F l, λ _ _ _ e ⟨x, h⟩ => ⟨x, (R x).mono _ _ _ e h⟩⟩
def prp (φ : Prop) (R : Res) : Res := ⟨λ F l => φ /\ R.on F l, λ _ _ _ e h => ⟨h.1, R.mono _ _ _ e h.2⟩⟩
def Sat (F : Hp) : List Res -> List Cell -> Prop
 | [], l => l = []
 | R :: Rs, l => ∃ l1 l2, l = l1 ++ l2 /\ R.on F l1 /\ Sat F Rs l2
theorem Sat.mono {F F' : Hp} (e : Ext F F') : ∀ {Rs : List Res} {l : List Cell}, Sat F Rs l -> Sat F' Rs l
 | [], _, h => h
 | R :: _, _, ⟨l1, l2, h, a, b⟩ => ⟨l1, l2, h, R.mono _ _ _ e a, Sat.mono e b⟩
theorem Sat.perm {F : Hp} {Rs Rs' : List Res} (p : Rs.Perm Rs') : ∀ {l : List Cell}, Sat F Rs l -> ∃ l', l.Perm l' /\ Sat F Rs' l' := by
 induction p with
 | nil => exact λ h => ⟨_, .refl _, h⟩
 | cons R _ ih =>
   rintro l ⟨l1, l2, rfl, a, b⟩
   obtain ⟨l3, q, c⟩ := ih b
   exact ⟨l1 ++ l3, .append_left _ q, l1, l3, rfl, a, c⟩
 | swap R S Rs =>
   rintro l ⟨l1, l2, rfl, a, l3, l4, rfl, b, c⟩
   refine ⟨l3 ++ (l1 ++ l4), ?_, l3, l1 ++ l4, rfl, b, l1, l4, rfl, a, c⟩
   rw [<- List.append_assoc, <- List.append_assoc]
   exact List.Perm.append_right _ List.perm_append_comm
 | trans _ _ ih1 ih2 =>
   intro l h
   obtain ⟨l1, p1, h1⟩ := ih1 h
   obtain ⟨l2, p2, h2⟩ := ih2 h1
   exact ⟨l2, p1.trans p2, h2⟩
structure MemC (F : Hp) (L : List Cell) (H : Hp) : Prop where
 ex : Ext F H
 own : ∀ c ∈ L, H c.1 = some c.2 /\ F c.1 = none
 nd : (L.map (·.1)).Nodup
theorem MemC.perm {F : Hp} {L L' : List Cell} {H : Hp} (h : MemC F L H) (p : L.Perm L') : MemC F L' H :=
 ⟨h.ex, λ c hc => h.own c (p.mem_iff.mpr hc), (p.map _).nodup_iff.mp h.nd⟩
def M (Rs : List Res) (H : Hp) : Prop := ∃ F L, Sat F Rs L /\ MemC F L H
section
variable {Rs Rs' : List Res} {R S : Res} {H : Hp} {p : Addr} {o o' : HO}
theorem M.perm (h : M Rs H) (q : Rs.Perm Rs') : M Rs' H := by
 obtain ⟨F, L, a, b⟩ := h
 obtain ⟨L', q', a'⟩ := a.perm q
 exact ⟨F, L', a', b.perm q'⟩
theorem M.nil : M [] H := ⟨λ _ => none, [], rfl, ⟨(λ _ _ h => nomatch h), (λ _ h => nomatch h), List.nodup_nil⟩⟩
theorem M.tl (h : M (R :: Rs) H) : M Rs H := by
 obtain ⟨F, L, ⟨l1, l2, rfl, a, b⟩, m⟩ := h
 refine ⟨F, l2, b, m.ex, λ c hc => m.own c (List.mem_append_right _ hc), ?_⟩
 have := m.nd
 rw [List.map_append] at this
 exact (List.nodup_append.mp this).2.1
theorem perm_at : ∀ {Rs : List Res} (i : Nat) {R : Res}, Rs[i]? = some R -> Rs.Perm (R :: Rs.eraseIdx i)
 | [], i, R, h => by simp at h
 | S :: Rs, 0, R, h => by
   have e : S = R := Option.some.inj h
   subst e
   exact .refl _
 | S :: Rs, i + 1, R, h => by
   have ih := perm_at (Rs := Rs) i (R := R) (by simpa using h)
   exact (List.Perm.cons S ih).trans (List.Perm.swap R S _)
theorem M.at (h : M Rs H) (i : Nat) (e : Rs[i]? = some R) : M (R :: Rs.eraseIdx i) H := h.perm (perm_at i e)
theorem M.hd (h : M (pt p o :: Rs) H) : H p = some o := by
 obtain ⟨F, L, ⟨l1, l2, rfl, rfl, b⟩, m⟩ := h
 exact (m.own (p, o) (by simp)).1
theorem M.hdF (h : M (fz p o :: Rs) H) : H p = some o := by
 obtain ⟨F, L, ⟨l1, l2, rfl, ⟨_, e⟩, b⟩, m⟩ := h
 exact m.ex _ _ e
theorem M.got (h : M Rs H) (i : Nat) (e : Rs[i]? = some (pt p o)) : H p = some o := (h.at i e).hd
theorem M.gotF (h : M Rs H) (i : Nat) (e : Rs[i]? = some (fz p o)) : H p = some o := (h.at i e).hdF
theorem M.new (h : M Rs H) (hp : H p = none) : M (pt p o :: Rs) (upd H p o) := by
 obtain ⟨F, L, a, m⟩ := h
 have fp : F p = none := by
   cases q : F p with
   | none => rfl
   | some u => rw [m.ex _ _ q] at hp; cases hp
 refine ⟨F, (p, o) :: L, ⟨[(p, o)], L, rfl, rfl, a⟩, ⟨m.ex.trans (Ext.new hp), λ c hc => ?_, ?_⟩⟩
 · rcases List.mem_cons.mp hc with rfl | hc
   · exact ⟨upd_same, fp⟩
   · have q := m.own c hc
     refine ⟨?_, q.2⟩
     rw [upd_ne (ne_of_none q.1 hp)]
     exact q.1
 · rw [List.map_cons, List.nodup_cons]
   refine ⟨λ hm => ?_, m.nd⟩
   obtain ⟨c, hc, e⟩ := List.mem_map.mp hm
   have q := (m.own c hc).1
   rw [e, hp] at q
   cases q
theorem M.put (h : M (pt p o :: Rs) H) : M (pt p o' :: Rs) (upd H p o') := by
 obtain ⟨F, L, ⟨l1, l2, rfl, rfl, b⟩, m⟩ := h
 have fp : F p = none := (m.own (p, o) (by simp)).2
 have nd := m.nd
 rw [List.map_append] at nd
 have nd2 : ((p :: l2.map (·.1)) : List Addr).Nodup := nd
 have np := (List.nodup_cons.mp nd2).1
 refine ⟨F, (p, o') :: l2, ⟨[(p, o')], l2, rfl, rfl, b⟩, ⟨λ a u e => ?_, λ c hc => ?_, nd2⟩⟩
 · have : a ≠ p := λ z => by rw [z, fp] at e; cases e
   rw [upd_ne this]
   exact m.ex _ _ e
 · rcases List.mem_cons.mp hc with rfl | hc
   · exact ⟨upd_same, fp⟩
   · have q := m.own c (List.mem_append_right _ hc)
     refine ⟨?_, q.2⟩
     have : c.1 ≠ p := λ z => np (List.mem_map.mpr ⟨c, hc, z⟩)
     rw [upd_ne this]
     exact q.1
theorem M.fix (h : M (pt p o :: Rs) H) : M (fz p o :: Rs) H := by
 obtain ⟨F, L, ⟨l1, l2, rfl, rfl, b⟩, m⟩ := h
 have hp := m.own (p, o) (by simp)
 have nd := m.nd
 rw [List.map_append] at nd
 have nd2 : ((p :: l2.map (·.1)) : List Addr).Nodup := nd
 have np := (List.nodup_cons.mp nd2).1
 have ex : Ext F (upd F p o) := Ext.new hp.2
 refine ⟨upd F p o, l2, ⟨[], l2, rfl, ⟨rfl, upd_same⟩, b.mono ex⟩, ⟨λ a u e => ?_, λ c hc => ?_, (List.nodup_cons.mp nd2).2⟩⟩
 · by_cases z : a = p
   · subst z
     rw [upd_same] at e
     cases e
     exact hp.1
   · rw [upd_ne z] at e
     exact m.ex _ _ e
 · have q := m.own c (List.mem_append_right _ hc)
   refine ⟨q.1, ?_⟩
   have : c.1 ≠ p := λ z => np (List.mem_map.mpr ⟨c, hc, z⟩)
   rw [upd_ne this]
   exact q.2
theorem M.sp (h : M (sp2 R S :: Rs) H) : M (R :: S :: Rs) H := by
 obtain ⟨F, L, ⟨l1, l2, rfl, ⟨l3, l4, rfl, a, b⟩, c⟩, m⟩ := h
 exact ⟨F, _, ⟨l3, l4 ++ l2, by rw [List.append_assoc], a, l4, l2, rfl, b, c⟩, m⟩
theorem M.sp' (h : M (R :: S :: Rs) H) : M (sp2 R S :: Rs) H := by
 obtain ⟨F, L, ⟨l1, l2, rfl, a, l3, l4, rfl, b, c⟩, m⟩ := h
 exact ⟨F, _, ⟨l1 ++ l3, l4, by rw [List.append_assoc], ⟨l1, l3, rfl, a, b⟩, c⟩, m⟩
theorem M.ex {α : Type} {T : α -> Res} (h : M (exi T :: Rs) H) : ∃ x, M (T x :: Rs) H := by
 obtain ⟨F, L, ⟨l1, l2, rfl, ⟨x, a⟩, c⟩, m⟩ := h
 exact ⟨x, F, _, ⟨l1, l2, rfl, a, c⟩, m⟩
theorem M.ex' {α : Type} {T : α -> Res} (x : α) (h : M (T x :: Rs) H) : M (exi T :: Rs) H := by
 obtain ⟨F, L, ⟨l1, l2, rfl, a, c⟩, m⟩ := h
 exact ⟨F, _, ⟨l1, l2, rfl, ⟨x, a⟩, c⟩, m⟩
theorem M.pr {φ : Prop} (h : M (prp φ R :: Rs) H) : φ /\ M (R :: Rs) H := by
 obtain ⟨F, L, ⟨l1, l2, rfl, ⟨x, a⟩, c⟩, m⟩ := h
 exact ⟨x, F, _, ⟨l1, l2, rfl, a, c⟩, m⟩
theorem M.pr' {φ : Prop} (x : φ) (h : M (R :: Rs) H) : M (prp φ R :: Rs) H := by
 obtain ⟨F, L, ⟨l1, l2, rfl, a, c⟩, m⟩ := h
 exact ⟨F, _, ⟨l1, l2, rfl, ⟨x, a⟩, c⟩, m⟩
theorem perm_set : ∀ {Rs : List Res} (i : Nat) {R S : Res}, Rs[i]? = some R -> (S :: Rs.eraseIdx i).Perm (Rs.set i S)
 | [], i, R, S, h => by simp at h
 | T :: Rs, 0, R, S, h => .refl _
 | T :: Rs, i + 1, R, S, h => by
   have ih := perm_set (Rs := Rs) i (R := R) (S := S) (by simpa using h)
   exact (List.Perm.swap T S _).trans (List.Perm.cons T ih)
theorem M.putAt (h : M Rs H) (i : Nat) (e : Rs[i]? = some (pt p o)) : M (Rs.set i (pt p o')) (upd H p o') := ((h.at i e).put (o' := o')).perm (perm_set i e)
end
end RC

namespace RC
open PySem PySem.Spec PyProof.Rows L2
structure FnX (g : Bool) (P : Program) (w : World) (K : Fr) (mg : Str -> Option Value) (base : Heap) (CX : CXT) (k : Nat) (f : Addr) (fd : FuncData) (ps : List Str) (sp : Sp) : Prop where
 lenG : ∀ vs H Q E, sp vs H Q E -> vs.length = ps.length
 runG : ∀ (B : Around) (out : List Env) (t : Shared) (H : Hp) (args : Args) (bs : List (Str × Value)) (us : List Value) (vs : List V) (Q : VK) (E : XK), (g = true -> B.guards = some []) -> Room k B -> Env0 P w K mg base B out t H ->
   BindsTo t fd args bs -> bs.Perm (ps.zip us) -> Vals vs us -> sp vs H Q E -> codeAny (model P w) B (.call (.ref f) args) (CR CX out P w H t Q E) t
theorem zip_names {α β : Type} : ∀ (as : List α) (bs : List β), (as.zip bs).map (·.1) = as.take bs.length
 | [], _ => by simp
 | _ :: _, [] => rfl
 | a :: as, b :: bs => by
   show a :: (as.zip bs).map (·.1) = a :: as.take bs.length
   rw [zip_names as bs]
theorem bindL_perm {kd : Str -> Option NameKind} {l l' : List (Str × Value)} (p : l.Perm l') : (l.map (·.1)).Nodup -> ∀ m, bindL kd l m = bindL kd l' m := by
 induction p with
 | nil => exact λ _ _ => rfl
 | cons x _ ih =>
   intro nd m
   obtain ⟨n, v⟩ := x
   have nd2 := (List.nodup_cons.mp nd).2
   unfold bindL
   split <;> exact ih nd2 _
 | swap x y l =>
   intro nd m
   obtain ⟨n, v⟩ := x
   obtain ⟨n', v'⟩ := y
   have ne : n' ≠ n := λ e => (List.nodup_cons.mp nd).1 (by rw [e]; exact List.mem_cons_self)
   show bindL kd ((n', v') :: (n, v) :: l) m = bindL kd ((n, v) :: (n', v') :: l) m
   unfold bindL
   unfold bindL
   by_cases h1 : kd n' = some .local <;> by_cases h2 : kd n = some .local <;> simp only [h1, h2, if_true, if_false]
   all_goals try rfl
   congr 1
   funext z
   by_cases e1 : z = n
   · subst e1
     simp [Ne.symm ne]
   · simp [e1]
 | trans p q ih1 ih2 =>
   intro nd m
   rw [ih1 nd m, ih2 ((p.map _).nodup_iff.mp nd) m]
theorem bindC_perm {kd : Str -> Option NameKind} {l l' : List (Str × Value)} (p : l.Perm l') : (l.map (·.1)).Nodup -> ∀ m, bindC kd l m = bindC kd l' m := by
 induction p with
 | nil => exact λ _ _ => rfl
 | cons x _ ih =>
   intro nd m
   obtain ⟨n, v⟩ := x
   have nd2 := (List.nodup_cons.mp nd).2
   unfold bindC
   split <;> exact ih nd2 _
 | swap x y l =>
   intro nd m
   obtain ⟨n, v⟩ := x
   obtain ⟨n', v'⟩ := y
   have ne : n' ≠ n := λ e => (List.nodup_cons.mp nd).1 (by rw [e]; exact List.mem_cons_self)
   show bindC kd ((n', v') :: (n, v) :: l) m = bindC kd ((n, v) :: (n', v') :: l) m
   unfold bindC
   unfold bindC
   by_cases h1 : kd n' = some .local <;> by_cases h2 : kd n = some .local <;> simp only [h1, h2, if_true, if_false]
   all_goals try rfl
   congr 1
   funext z
   by_cases e1 : z = n
   · subst e1
     simp [Ne.symm ne]
   · simp [e1]
 | trans p q ih1 ih2 =>
   intro nd m
   rw [ih1 nd m, ih2 ((p.map _).nodup_iff.mp nd) m]
section
variable {g : Bool} {P : Program} {w : World} {K : Fr} {mg : Str -> Option Value} {base : Heap} {CX : CXT} {k : Nat} {f : Addr} {fd : FuncData} {ps : List Str} {sp : Sp}
theorem FnX.ok (F : FnX false P w K mg base CX k f fd ps sp) : FnOk P w K mg base CX k f fd ps sp :=
 ⟨F.lenG, λ B out t H args us vs Q E hr e b r h => F.runG B out t H args _ us vs Q E (λ z => nomatch z) hr e b (.refl _) r h⟩
theorem FnX.up {g' : Bool} (F : FnX g P w K mg base CX k f fd ps sp) (h : g = true -> g' = true) : FnX g' P w K mg base CX k f fd ps sp :=
 ⟨F.lenG, λ B out t H args bs us vs Q E gu hr e b p r hs => F.runG B out t H args bs us vs Q E (λ z => gu (h z)) hr e b p r hs⟩
theorem FnX.mono {j : Nat} (F : FnX g P w K mg base CX j f fd ps sp) (h : j <= k) : FnX g P w K mg base CX k f fd ps sp :=
 ⟨F.lenG, λ B out t H args bs us vs Q E gu hr e b p r hs => F.runG B out t H args bs us vs Q E gu (hr.mono h) e b p r hs⟩
theorem okX {x qual : Str} {params : Arguments} {body : List Stmt} {scope : Scope} {dvs : List V} {kws : List (Str × V)} {N : List Str} (D : FunD K x qual params body scope dvs kws f fd) (S : FnScope N ps scope)
   (hlen : ∀ vs H Q E, sp vs H Q E -> vs.length = ps.length)
   (hbody : ∀ (cdv : Value) (B : Around) (out : List Env) (t : Shared) (H : Hp) (vs : List V) (Q : VK) (E : XK), (g = true -> B.guards = some []) -> Room k (B.deeper (envOfC qual scope t.heap.objs.size f cdv)) -> sp vs H Q E ->
     ∃ tr, PSs (cxOf CX P w K mg base N qual scope f cdv B out t H E) body tr /\ tr { nx := λ _ H' => Q .non H', rt := Q } (start N vs) H) :
   FnX g P w K mg base CX (k + 1) f fd ps sp := by
 obtain ⟨⟨oc, od, dV, kV, doc, pm, an, cdv, ct, osl, rfl, lk, hcd, _, _⟩, _⟩ := D
 constructor
 · exact hlen
 intro B out t H args bs us vs Q E hg hr env hb hperm rel hsp
 have hin : K.In t.heap := env.mod.kin.keeps λ b o q => (env.bs b o q).1
 have hno : t.heap.NoLimit := env.mod.nolimit.keeps λ b o q => (env.bs b o q).1
 have hll := hlen _ _ _ _ hsp
 have nd : (bs.map (·.1)).Nodup := by
   refine (hperm.map _).nodup_iff.mpr ?_
   rw [zip_names, List.take_of_length_le (by rw [<- rel.length, hll]; exact Nat.le_refl _), <- S.pre]
   exact S.nd.sublist (List.take_sublist _ _)
 have hk : ∀ y ∈ bs, scope.names.lookup y.1 = some .local \/
     (scope.names.lookup y.1 = some .cell /\ ((cellsFrom (t.heap.objs.size + 1) scope.names []).lookup y.1).isSome = true) := by
   rintro ⟨n, v⟩ hy
   cases S.par n (List.of_mem_zip (hperm.mem_iff.mp hy)).1 with
   | inl q => exact .inl q
   | inr q => exact .inr ⟨q, PySem.W.cellsFrom_some _ _ _ (.inl q)⟩
 refine codeAny_call_function hr.depth (hin _ _ lk) rfl S.co S.gen rfl
   (PySem.W.codeRec_of hin hcd) (hb _ _ _ _ ?_)
 refine wpAny_newFunctionEnv_cells S.kind hk λ ev hev t1 ic => ?_
 subst hev
 rw [bindL_perm hperm nd, bindC_perm hperm nd] at ic
 refine ⟨hno.keeps ic.toInCall.keep, codeAny_func ?_⟩
 obtain ⟨tr, htr, hq⟩ := hbody cdv B out t H vs Q E hg (hr.deeper _) hsp
 have J : Inv (cxOf CX P w K mg base N qual scope f cdv B out t H E) [] (start N vs) H t1 :=
   inv_start S hr.hd env hll rel ic
 refine wpAny_mono (htr.run [] t1 (start N vs) H _ J hq) (λ fl t2 z => ?_) λ _ _ z => z
 cases fl with
 | next =>
   obtain ⟨s2, H2, J2, q2⟩ := z
   exact ⟨V.non, H2, J2.os, J2.bare, J2.base, J2.hok, rfl, q2⟩
 | ret u =>
   obtain ⟨v2, s2, H2, J2, r2, q2⟩ := z
   exact ⟨v2, H2, J2.os, J2.bare, J2.base, J2.hok, r2, q2⟩
 | brk =>
   obtain ⟨_, _, _, q2⟩ := z
   cases q2
 | cont =>
   obtain ⟨_, _, _, q2⟩ := z
   cases q2
end
section
variable {X : Cx} {g : Bool} {CX : CXT} {k n : Nat} {f : Addr} {fd : FuncData} {ps ps' ks : List Str} {sp : Sp} {ds : List Value} {dvs : List V} {E : XK}
theorem runX_fn {pins : List (Addr × Obj)} {σ : L2.St} {H : Hp} {s : Shared} {Q : VK} {us : List Value} {vs : List V} (F : FnX g X.prog X.w X.K X.mg X.base CX k f fd ps sp) (hg : g = true -> X.A.guards = some []) (hr : Room k X.A)
   (hb : Binds X.K fd ps ds) (hd : Vals dvs ds) (hx : Passes CX X E) (I : Inv X pins σ H s) (r : Vals vs us) (h : sp (vs ++ dvs) H Q E) :
   wpAny (model X.prog X.w) X.A (call (.ref f) us) (EP X pins σ Q) X.xe s := by
 have rr : Vals (vs ++ dvs) (us ++ ds) := r.append hd
 have ll : (us ++ ds).length = ps.length := rr.length.symm.trans (F.lenG _ _ _ _ h)
 have go := F.runG X.A X.stack s H ⟨us, []⟩ _ (us ++ ds) (vs ++ dvs) Q E hg hr I.env0 (hb s us I.kIn ll) (.refl _) rr h
 refine wpAny_call (codeAny_mono go λ res s' hq => ?_)
 match res, hq with
 | .error e, hq => exact hx pins σ H s e s' I hq
 | .ok (.ret u), hq => exact I.after hq
 | .ok .next, hq => cases hq
 | .ok .brk, hq => cases hq
 | .ok .cont, hq => cases hq
theorem pe_callX {x : Str} {e : Expr} {es : List Expr} {t : TA} {p pos : Pos} (F : FnX g X.prog X.w X.K X.mg X.base CX k f fd ps sp) (hgu : g = true -> X.A.guards = some []) (hr : Room k X.A) (hg : Gl X x) (hm : X.mg x = some (.ref f))
   (hk : PySem.W.keepIn X.K (.ref f) = true) (hb : Binds X.K fd ps ds) (hd : Vals dvs ds) (hx : Passes CX X E)
   (ha : PA X (e :: es) t) (hdb : (x == ("__debug__" : Str)) = false := by decide) (he : starEach (e :: es) X.env = (false, eval e X.env) :: starEach es X.env := by rfl)
   (hpl : (backTo pos (starEach es X.env)).any (·.1) = false := by rfl) : PE X (.Call (.Name x p) (e :: es) [] pos) (tCall sp dvs E t) := by
 constructor
 intro pins s σ H Q I h
 refine wpAny_Call_Name_kw (ld_glob I hg hm ?_ hdb)
 have body := thn (ha.run pos pins s σ H _ I h) (Q' := λ us s1 => X.K.In s1.heap /\ wpAny (model X.prog X.w) X.A (call (.ref f) us) (EP X pins σ Q) X.xe s1)
   λ us s1 ⟨vs, H1, I1, r1, q1⟩ => ⟨I1.kIn, runX_fn F hgu hr hb hd hx I1 r1 q1⟩
 exact PySem.W.callWith_K (h₀ := X.base) I.ok.mod.kin hk body he hpl
end
def pickL {α : Type} (is : List Nat) (l : List α) : List α := is.filterMap λ i => l[i]?
theorem pickL_vals {vs : List V} {us : List Value} (r : Vals vs us) : ∀ is : List Nat, Vals (pickL is vs) (pickL is us)
 | [] => .nil
 | i :: is => by
   unfold pickL
   cases e : vs[i]? with
   | none =>
     rw [List.filterMap_cons, List.filterMap_cons, e, r.none_of e]
     exact pickL_vals r is
   | some v =>
     obtain ⟨u, hu, ru⟩ := r.get e
     rw [List.filterMap_cons, List.filterMap_cons, e, hu]
     exact .cons ru (pickL_vals r is)
theorem law_callN {ND : Heap -> Prop} {P : Program} {w : World} {K : Fr} {mg mb : Str -> Option Value} {CX : CXT} {k : Nat} {fa a : Addr} {fd : FuncData} {x : Str} {sp : Sp} {s1 : Shared} {vs : List Value} {ns : List Int}
   (KX : K.In s1.heap) (hns : s1.heap.Ns mainGlobals mg) (hb : s1.heap.Ns builtinsNs mb) (hbb : ∀ x : Str, x ≠ "__name__" -> mb x = bootBuiltins x) (hlim : s1.heap.NoLimit) (hdig : ∀ h' : Heap, (∀ b o es ep, s1.heap.get? b = some o -> o.data = .dict es ep -> h'.get? b = some o) -> ND h') (hg : s1.gens = #[])
   (ha : s1.heap.get? a = some { cls := .type "list", data := .seq vs.toArray }) (hi : IntsAre vs ns) (hl : ns.length <= sizeLine) (hr : Room k callerA)
   (F : ∀ base : Heap, K.In base -> base.Ns mainGlobals mg -> ND base -> FnX true P w K mg base CX k fa fd [x] sp)
   (hbind : ∀ (s : Shared) (u : Value), BindsTo s fd ⟨[u], []⟩ [(x, u)])
   (hsp : ∀ H : Hp, SqL K H a (ns.map V.int) -> sp [.ref a] H (λ v _ => v = .bl true) λ _ _ _ => False)
   (hCX : ∀ H e s', CX [] H s1 (λ _ _ _ => False) e s' -> False) :
   codeAny (model P w) callerA (.call (.ref fa) ⟨[.ref a], []⟩) (λ r s' => r = .ok (.ret (.bool true)) /\ OldK s1.heap s'.heap /\ s'.os = s1.os /\ AllBare s'.gens) s1 := by
 have rv := vals_ints hi
 -- the abstract heap: the script alone, locked, unless it is one of the module's own objects
 obtain ⟨H, hS, hok, hA, hK, hO⟩ : ∃ H : Hp, SqL K H a (ns.map V.int) /\ HOk P w H s1.heap /\ (∀ b, H b ≠ none -> b = a) /\ (H a ≠ none -> K.lookup a = none) /\
     ∀ b u, H b = some u -> ∃ o v, u = .frz o v := by
   cases hk : K.lookup a with
   | some o =>
     have e := KX a o hk
     rw [ha] at e
     cases e
     refine ⟨λ _ => none, .inr ⟨_, vs.toArray, _, hk, rfl, rfl, rfl, ?_, by simpa using rv⟩, ?_, ?_, ?_, ?_⟩
     · rw [List.size_toArray, hi.length]
       exact hl
     · intro b u z
       cases (show (none : Option HO) = some u from z)
     · intro b z
       exact absurd rfl z
     · intro z
       exact absurd rfl z
     · intro b u z
       cases (show (none : Option HO) = some u from z)
   | none =>
     have at1 : upd (λ _ => none) a (.frz { cls := .type "list", data := .seq vs.toArray } (.lst (ns.map V.int))) a = some (HO.frz { cls := .type "list", data := .seq vs.toArray } (.lst (ns.map V.int))) := upd_same
     have at2 : ∀ b u, upd (λ _ => none) a (.frz { cls := .type "list", data := .seq vs.toArray } (.lst (ns.map V.int))) b = some u -> b = a /\ u = HO.frz { cls := .type "list", data := .seq vs.toArray } (.lst (ns.map V.int)) := by
       intro b u z
       by_cases q : b = a
       · subst q
         rw [upd_same] at z
         exact ⟨rfl, (Option.some.inj z).symm⟩
       · rw [upd_ne q] at z
         cases z
     refine ⟨_, .inl (.inr ⟨_, at1⟩), ?_, ?_, λ _ => rfl, ?_⟩
     · intro b u z
       obtain ⟨rfl, rfl⟩ := at2 b u z
       refine ⟨ha, ?_, vs, _, rv, ha⟩
       rw [List.length_map]
       exact hl
     · intro b z
       cases q : upd (λ _ => none) a (.frz { cls := .type "list", data := .seq vs.toArray } (.lst (ns.map V.int))) b with
       | none => exact absurd q z
       | some u => exact (at2 b u q).1
     · intro b u z
       exact ⟨_, _, (at2 b u z).2⟩
 have off : ∀ {b : Addr} {o : Obj} {es : Array DictEntry} {ep : Nat}, s1.heap.get? b = some o -> o.data = .dict es ep -> H b = none := by
   intro b o es ep e d
   cases q : H b with
   | none => rfl
   | some u =>
     have z : b = a := hA b (by rw [q]; simp)
     subst z
     rw [ha] at e
     cases e
     cases (show Data.seq vs.toArray _ = Data.dict es ep from d)
 have nsH : ∀ {b : Addr} {m : Str -> Option Value}, s1.heap.Ns b m -> (hidT s1.heap H).Ns b m := by
   rintro b m ⟨o, es, ep, e, d, r⟩
   exact ⟨o, es, ep, hidT_get e (off e d), d, r⟩
 have hKb : K.In (hidT s1.heap H) := by
   intro b o e
   refine hidT_get (KX b o e) ?_
   cases q : H b with
   | none => rfl
   | some u =>
     have z : b = a := hA b (by rw [q]; simp)
     subst z
     rw [hK (by rw [q]; simp)] at e
     cases e
 have hM : Mod K mg (hidT s1.heap H) := by
   obtain ⟨mc, h1, h2⟩ := hlim
   exact ⟨hKb, nsH hns, ⟨mb, nsH hb, hbb⟩, ⟨mc, nsH h1, h2⟩⟩
 have e0 : Env0 P w K mg (hidT s1.heap H) callerA [] s1 H := by
   refine ⟨rfl, hM, λ b o e => of_hidT e, Nat.le_of_eq (hidT_size _ _), trivial, λ b hb => ?_, hok, .of_eq hg⟩
   cases (show b ∈ ([] : List Addr) from hb)
 have go := (F _ hKb (nsH hns) (hdig _ λ b o es ep e d => hidT_get e (off e d))).runG callerA [] s1 H ⟨[.ref a], []⟩ _ [.ref a] [.ref a] _ _ (λ _ => rfl) hr e0 (hbind s1 (.ref a)) (.refl _) (.cons rfl .nil) (hsp H hS)
 refine codeAny_mono go λ res s' h => ?_
 match res, h with
 | .error e, h => exact (hCX H e s' h).elim
 | .ok .next, h => cases h
 | .ok .brk, h => cases h
 | .ok .cont, h => cases h
 | .ok (.ret u), h =>
   obtain ⟨v, H', os, bare, un, hok', r', q⟩ := h
   cases (show v = .bl true from q)
   cases (show u = Value.bool true from r')
   refine ⟨rfl, OldK.of_keep λ b o e => ?_, os, bare⟩
   cases q : H b with
   | none =>
     refine un.keep b o e q (λ z => ?_) (by simp)
     cases (show b ∈ ([] : List Addr) from z)
   | some u =>
     obtain ⟨ob, v2, rfl⟩ := hO b u q
     have z2 := un.frzs b ob _ q
     obtain ⟨e1, _⟩ := hok b _ q
     obtain ⟨e2, _⟩ := hok' b _ z2
     rw [e] at e1
     cases e1
     exact e2
theorem nd_keep {h h' : Heap} (x : h.NoDigits) (k : ∀ b o es ep, h.get? b = some o -> o.data = .dict es ep -> h'.get? b = some o) : h'.NoDigits := by
 obtain ⟨mc, ⟨o, es, ep, e, d, r⟩, q⟩ := x
 exact ⟨mc, ⟨o, es, ep, k _ _ _ _ e d, d, r⟩, q⟩
end RC

namespace RC
open PySem PySem.Spec PySem.Calls PySem.NumText PyProof.Rows L2
structure HidL (p : Prop) : Prop where
 out : p
def rRepS : R2 := λ x y H Q => ∃ (c : Nat) (n : Int), x = .str (SX.S [c]) /\ y = .int n /\ 1 <= n /\ n <= 100000 /\ Q (.str (SX.S (List.replicate n.toNat c))) H
theorem rep_one (c : Nat) : ∀ (k : Nat) (acc : Array Nat), (List.replicate k #[c]).foldl (· ++ ·) acc = acc ++ (List.replicate k c).toArray
 | 0, acc => by simp
 | k + 1, acc => by
   rw [List.replicate_succ, List.foldl_cons, rep_one c k, List.replicate_succ]
   refine Array.toList_inj.mp ?_
   simp only [Array.toList_append, List.toList_toArray, List.append_assoc]
   rfl
theorem op_repS {X : Cx} : OpR X (binaryOp .Mult) rRepS := by
 intro pins s σ H x y v u Q I rx ry h
 obtain ⟨c, n, rfl, rfl, h1, h2, q⟩ := h
 obtain ⟨t, rfl⟩ := rx
 obtain ⟨t2, rfl⟩ := ry
 have hl : (SX.S [c]).length = 1 := SX.S_len [c]
 refine PySem.P.mul_str (by rw [decide_eq_false (by omega), decide_eq_false (by omega)]; rfl) (λ _ _ => ?_) (λ _ _ => ?_) ?_
 · rw [hl]
   have : (1 : Int) <= (2 ^ 63 - 1) / n := (Int.le_ediv_iff_mul_le (by omega)).mpr (by omega)
   omega
 · rw [hl]
   unfold Builtin.Str.tooLong
   rw [decide_eq_false]
   have := sizeLine_eq
   omega
 · rw [if_neg (by omega)]
   by_cases e : n = 1
   · subst e
     rw [if_pos (by rfl)]
     exact ⟨.str _, H, I, ⟨_, rfl⟩, q⟩
   · rw [if_neg (by rw [hl]; simp [e])]
     have e2 : (⟨(List.replicate n.toNat (SX.S [c]).cps).foldl (· ++ ·) #[]⟩ : Str) = SX.S (List.replicate n.toNat c) := by
       show (⟨(List.replicate n.toNat #[c]).foldl (· ++ ·) #[]⟩ : Str) = _
       rw [rep_one]
       simp
     rw [e2]
     refine ⟨?_, ⟨.str _, H, I.tok _, ⟨_, rfl⟩, q⟩⟩
     rw [SX.S_len, List.length_replicate]
     have := sizeLine_eq
     omega
end RC

namespace RC
open PySem PySem.Spec PyProof.Rows L2
section
variable {X : Cx}
def rCatS (K : Fr) : R2 := λ x y H Q => ∃ l b xs zs, x = .ref l /\ y = .ref b /\ SqL K H l xs /\ SqL K H b zs /\ xs.length + zs.length <= sizeLine /\ ∀ p, H p = none -> Q (.ref p) (upd H p (.lst (xs ++ zs)))
theorem op_catS : OpR X (binaryOp .Add) (rCatS X.K) := by
 intro pins s σ H x y v u Q I rx ry h
 obtain ⟨l, b, xs, zs, rfl, rfl, hH, hB, hz, q⟩ := h
 cases rx
 cases ry
 obtain ⟨its, r, ⟨⟨cls, dd, data, sl⟩, n, ho, hc, _, hd⟩, _⟩ := I.list hH
 obtain ⟨its2, r2, ⟨⟨cls2, dd2, data2, sl2⟩, n2, ho2, hc2, _, hd2⟩, _⟩ := I.list hB
 simp only at hc hd hc2 hd2
 subst hc hd hc2 hd2
 have ea : its.toArray ++ its2.toArray = (its ++ its2).toArray := by simp
 have l1 := r.length
 have l2 := r2.length
 refine concat_meets ⟨_, ho, rfl⟩ ⟨_, ho2, rfl⟩ noFill_list_add seq_list_add PySem.F.slot_list_add PySem.F.entry_list_add (PySem.F.args_list_add_2 _ _) (list_addW l b its.toArray its2.toArray n n2 dd dd2 sl sl2 (by rw [List.size_toArray, List.size_toArray]; omega)) ⟨ho, ho2, ?_⟩
 rw [ea]
 exact ⟨.ref _, _, I.lnew (t' := s.toks) (r.append r2) (by rw [List.length_append]; omega), rfl, q _ I.fresh⟩
def uAdd (K : Fr) : R2 := λ x y H Q => rI0 (λ i j => .int (i + j)) x y H Q \/ (∃ i j, x = .str i /\ y = .str j /\ i.length + j.length <= sizeLine /\ Q (.str (i ++ j)) H) \/ rCatS K x y H Q \/ rCatT K x y H Q
theorem uo_add : OpR X (binaryOp .Add) (uAdd X.K) := op_add.or (op_add_str.or (op_catS.or op_catT))
def uSub : R2 := rI0 λ i j => .int (i - j)
theorem uo_sub : OpR X (binaryOp .Sub) uSub := op_sub
def uMul : R2 := λ x y H Q => rI CMul (λ i j => .int (i * j)) x y H Q \/ rI CMulW (λ i j => .int (i * j)) x y H Q \/ rRep x y H Q \/ rRepS x y H Q
theorem uo_mul : OpR X (binaryOp .Mult) uMul := op_mul.or (op_mulW.or (op_rep.or op_repS))
def uMod : R2 := rI (λ _ j => 0 < j) λ i j => .int (i % j)
theorem uo_mod : OpR X (binaryOp .Mod) uMod := op_mod
def uDiv : R2 := rI CDivW λ i j => .int (i / j)
theorem uo_div : OpR X (binaryOp .FloorDiv) uDiv := op_fdivW
def uPow : R2 := rI CPow λ i j => .int (i ^ j.toNat)
theorem uo_pow : OpR X (binaryOp .Pow) uPow := op_pow
def iAdd : R2 := λ x y H Q => rI0 (λ i j => .int (i + j)) x y H Q \/ rExt2 x y H Q
theorem io_add : OpR X (inplaceOp .Add) iAdd := iop_add.or iop_ext
def iSub : R2 := rI0 λ i j => .int (i - j)
theorem io_sub : OpR X (inplaceOp .Sub) iSub := iop_sub
def iMul : R2 := rI CMul λ i j => .int (i * j)
def iDiv : R2 := rI CDiv λ i j => .int (i / j)
def uEq (K : Fr) : R2 := λ x y H Q => rEq x y H Q \/ rEqD K x y H Q
theorem uo_eq (hu : X.A.units + 64 < cLine) : OpR X (compareOp .Eq) (uEq X.K) := op_eq.or (op_eqD hu)
def uNe (K : Fr) : R2 := λ x y H Q => rNe x y H Q \/ rNeD K x y H Q
theorem uo_ne (hu : X.A.units + 64 < cLine) : OpR X (compareOp .NotEq) (uNe X.K) := op_ne.or (op_neD hu)
def uLt : R2 := rI0 λ i j => .bl (decide (i < j))
def uLe : R2 := rI0 λ i j => .bl (decide (i <= j))
def uGt : R2 := rI0 λ i j => .bl (decide (j < i))
def uGe : R2 := rI0 λ i j => .bl (decide (j <= i))
theorem uo_lt : OpR X (compareOp .Lt) uLt := op_lt
theorem uo_le : OpR X (compareOp .LtE) uLe := op_le
theorem uo_gt : OpR X (compareOp .Gt) uGt := op_gt
theorem uo_ge : OpR X (compareOp .GtE) uGe := op_ge
def gIx (K : Fr) : V -> V -> Hp -> VK -> Prop := λ o i H Q => (∃ (p : Addr) (xs : List V) (n : Int) (v : V), o = .ref p /\ i = .int n /\ SqL K H p xs /\ 0 <= n /\ xs[n.toNat]? = some v /\ Q v H) \/ ∃ p v, o = .ref p /\ DGet H p i (some v) /\ Q v H
theorem get_any (hu : X.A.units + 1 < cLine) : PGet X (gIx X.K) := by
 intro pins s σ H o i ov iv Q I r1 r2 h
 rcases h with ⟨p, xs, n, v, rfl, rfl, hs, h0, hx, q⟩ | ⟨p, v, rfl, hd, q⟩
 · cases (show ov = Value.ref p from r1)
   obtain ⟨tk, rfl⟩ := r2
   obtain ⟨its, rv, pl, hz⟩ := I.list hs
   obtain ⟨u, hu, ru⟩ := rv.get hx
   have hlt : n.toNat < xs.length := (List.getElem?_eq_some_iff.mp hx).1
   have hle : n < 2 ^ 63 := by
     have := line63
     omega
   exact wpAny_getItem_list pl.isList h0 hle (by simpa using hu) ⟨v, H, I, ru, q⟩
 · cases (show ov = Value.ref p from r1)
   exact d_getItem hu I hd r2 λ w' s' I' rw' => ⟨v, H, I', rw', q⟩
def uSet : V -> V -> V -> Hp -> (Hp -> Prop) -> Prop := λ o i v H Q => rSetL o i v H Q \/ ∃ p H', o = .ref p /\ DPut H p i v H' /\ Q H'
theorem set_any (hu : X.A.units + 1 < cLine) : PSet X uSet := by
 intro pins s σ H o i v ov iv u Q I r1 r2 r3 h
 rcases h with h | ⟨p, H', rfl, hd, q⟩
 · exact set_list pins s σ H o i v ov iv u Q I r1 r2 r3 h
 · cases (show ov = Value.ref p from r1)
   exact d_setItem hu I hd r2 r3 λ s' I' => ⟨H', I', q⟩
theorem ip_of {op : Operator} {r : R2} (h : OpR X (inplaceOp op) r) : PIp X op r := λ pins s σ H x y v u Q I a b q => h pins s σ H x y v u Q I a b q
def uLen (K : Fr) : List V -> Hp -> VK -> Prop := λ xs H Q => (∃ x n, xs = [x] /\ LenV K x H n /\ Q (.int n) H) \/ ∃ d kvs, xs = [.ref d] /\ Rd H d (.dK kvs) /\ Q (.int (kvs.length : Nat)) H
theorem call_lenRd : CallR X (.builtin "len") (λ xs H Q => ∃ a kvs, xs = [V.ref a] /\ Rd H a (.dK kvs) /\ Q (.int (kvs.length : Nat)) H) := by
 intro pins s σ H xs us Q I r h
 obtain ⟨a, kvs, rfl, ha, q⟩ := h
 obtain ⟨u, rfl, ru⟩ := vals1 r
 cases ru
 exact d_len I ha λ t s' I' => ⟨.int kvs.length, H, I', ⟨t, rfl⟩, q⟩
theorem cr_len : CallR X (.builtin "len") (uLen X.K) := call_len.or call_lenRd
theorem pe_globI {x : Str} {i : Int} {pos : Pos} (hg : Gl X x) (hm : ∃ t, X.mg x = some (.int i t)) (hd : (x == ("__debug__" : Str)) = false := by decide) : PE X (.Name x pos) (tC (.int i)) := by
 obtain ⟨t, hm⟩ := hm
 exact pe_glob hg hm ⟨t, rfl⟩ hd
def uIx (K : Fr) : R2 := rIx K
theorem ix_any : IxR X (uIx X.K) := ix_seq
def uSl (K : Fr) : V -> Option Int -> Option Int -> Hp -> VK -> Prop := λ x lo hi H Q => rSlL K x lo hi H Q \/ rSlT K x lo hi H Q
theorem sl_any : SlR X (uSl X.K) := sl_list.or sl_tup
end
section
variable {K : Fr} {σ : L2.St} {H : Hp} {Q : VK} {D : Ends} {t u : TS} {te ta tb tc : TE} {tt : TT} {Rs : List Res} {E : XK}
theorem g_seq (k : t { D with nx := u D } σ H) : tSeq t u D σ H := k
theorem g_next (k : D.nx σ H) : tNext D σ H := k
theorem g_asg {i : Nat} (k : te σ H λ x H1 => D.nx (σ.set i (some x)) H1) : tAsg te (gName i) D σ H := k
theorem g_asgX {g : TG} (k : te σ H λ x H1 => g x σ H1 D.nx) : tAsg te g D σ H := k
theorem g_drop (k : te σ H λ _ H1 => D.nx σ H1) : tDrop te D σ H := k
theorem g_ret (k : te σ H D.rt) : tRet te D σ H := k
theorem g_retN (k : D.rt .non H) : tRetN D σ H := k
theorem g_if (k : tt σ H λ b H1 => if b = true then t D σ H1 else u D σ H1) : tIfS tt t u D σ H := k
theorem g_nx {f r b c} (k : f σ H) : (Ends.mk f r b c).nx σ H := k
theorem g_rt {f b c} {r : VK} {v : V} (k : r v H) : (Ends.mk f r b c).rt v H := k
theorem g_bk {f b c} {r : VK} (k : b σ H) : (Ends.mk f r b c).bk σ H := k
theorem g_ct {f b c} {r : VK} (k : c σ H) : (Ends.mk f r b c).ct σ H := k
theorem g_var {i : Nat} {v : V} (h : σ[i]? = some (some v)) (k : Q v H) : tVar i σ H Q := ⟨v, h, k⟩
theorem g_c {v : V} (k : Q v H) : tC v σ H Q := k
theorem g_op {r : R2} (k : ta σ H λ x H1 => tb σ H1 λ y H2 => r x y H2 Q) : tOp r ta tb σ H Q := k
theorem g_un {r : V -> Hp -> VK -> Prop} (k : ta σ H λ x H1 => r x H1 Q) : tUn r ta σ H Q := k
theorem g_nil {Q : List V -> Hp -> Prop} (k : Q [] H) : tNil σ H Q := k
theorem g_cons {tr : TA} {Q : List V -> Hp -> Prop} (k : ta σ H λ x H1 => tr σ H1 λ xs H2 => Q (x :: xs) H2) : tCons ta tr σ H Q := k
theorem g_cb {r : List V -> Hp -> VK -> Prop} {t : TA} (k : t σ H λ vs H1 => r vs H1 Q) : tCB r t σ H Q := k
theorem g_call {sp : Sp} {dvs : List V} {t : TA} (k : t σ H λ vs H1 => sp (vs ++ dvs) H1 Q E) : tCall sp dvs E t σ H Q := k
def LstK (Q : VK) : List V -> Hp -> Prop := λ xs H1 => xs.length <= sizeLine /\ ∀ p, H1 p = none -> Q (.ref p) (upd H1 p (.lst xs))
def TupK (Q : VK) : List V -> Hp -> Prop := λ xs H1 => xs.length <= sizeLine /\ ∀ p, H1 p = none -> Q (.ref p) (upd H1 p (.tup xs))
theorem g_lst {t : TA} (k : t σ H (LstK Q)) : tLst t σ H Q := k
theorem g_tup {t : TA} (k : t σ H (TupK Q)) : tTup t σ H Q := k
theorem v_lst {xs : List V} (S : M Rs H) (hn : xs.length <= 100000) (k : ∀ p H', M (pt p (.lst xs) :: Rs) H' -> Q (.ref p) H') : LstK Q xs H :=
 ⟨Nat.le_trans hn (by decide), λ p hp => k p _ (S.new hp)⟩
theorem v_tup {xs : List V} (S : M Rs H) (hn : xs.length <= 100000) (k : ∀ p H', M (pt p (.tup xs) :: Rs) H' -> Q (.ref p) H') : TupK Q xs H :=
 ⟨Nat.le_trans hn (by decide), λ p hp => k p _ (S.new hp)⟩
theorem g_test {Q : Bool -> Hp -> Prop} (k : te σ H λ x H' => ∃ b, x = .bl b /\ Q b H') : tTest te σ H Q := k
theorem g_B {Q : Bool -> Hp -> Prop} (k : te σ H λ x H' => ∃ b, x = .bl b /\ Q b H') : tB te σ H Q := k
theorem g_bl {b : Bool} {Q : Bool -> Prop} (k : Q b) : ∃ c, V.bl b = .bl c /\ Q c := ⟨b, rfl, k⟩
theorem g_and {s : TT} {Q : Bool -> Hp -> Prop} (k : tt σ H λ c H1 => if c = true then s σ H1 Q else Q false H1) : tAnd tt s σ H Q := k
theorem g_or {s : TT} {Q : Bool -> Hp -> Prop} (k : tt σ H λ c H1 => if c = true then Q true H1 else s σ H1 Q) : tOr tt s σ H Q := k
theorem g_not {Q : Bool -> Hp -> Prop} (k : tt σ H λ c H1 => Q (!c) H1) : tNot tt σ H Q := k
theorem g_andV (k : ta σ H λ x H1 => ∃ c, x = .bl c /\ if c = true then tb σ H1 Q else Q (.bl false) H1) : tAndV ta tb σ H Q := k
theorem g_orV (k : ta σ H λ x H1 => ∃ c, x = .bl c /\ if c = true then Q (.bl true) H1 else tb σ H1 Q) : tOrV ta tb σ H Q := k
theorem g_notV (k : ta σ H λ x H1 => ∃ c, x = .bl c /\ Q (.bl (!c)) H1) : tNotV ta σ H Q := k
theorem g_ifE (k : tt σ H λ c H1 => if c = true then ta σ H1 Q else tb σ H1 Q) : tIf tt ta tb σ H Q := k
theorem g_chain {r r' : R2} (k : ta σ H λ x H1 => tb σ H1 λ y H2 => r x y H2 λ z H3 => ∃ k, z = .bl k /\ (if k = true then tc σ H3 λ w' H4 => r' y w' H4 Q else Q (.bl false) H3)) : tChain r r' ta tb tc σ H Q := k
theorem g_aug {i : Nat} {ti : TIp} {v : V} (h : σ[i]? = some (some v)) (k : te σ H λ y H1 => ti v y H1 λ z H2 => D.nx (σ.set i (some z)) H2) : tAug i te ti D σ H := ⟨v, h, k⟩
theorem g_augS {tget : V -> V -> Hp -> VK -> Prop} {tip : TIp} {tset : TSet} (k : ta σ H λ o H1 => tb σ H1 λ i H2 => tget o i H2 λ x H3 => te σ H3 λ y H4 => tip x y H4 λ z H5 => tset o i z H5 λ H6 => D.nx σ H6) :
   tAugS ta tb te tget tip tset D σ H := k
theorem g_sub {t3 : TSet} {v : V} {Q : L2.St -> Hp -> Prop} (k : ta σ H λ o H1 => tb σ H1 λ i H2 => t3 o i v H2 λ H3 => Q σ H3) : gSub ta tb t3 v σ H Q := k
theorem g_sl {r : V -> Option Int -> Option Int -> Hp -> VK -> Prop} {tl th : TO} (k : te σ H λ x H1 => tl σ H1 λ l H2 => th σ H2 λ u H3 => r x l u H3 Q) : tSl r te tl th σ H Q := k
theorem g_noPart {Q : Option Int -> Hp -> Prop} (k : Q none H) : tNoPart σ H Q := k
theorem g_part {Q : Option Int -> Hp -> Prop} (k : te σ H λ x H1 => ∃ i, x = .int i /\ Q (some i) H1) : tPart te σ H Q := k
theorem g_int {i : Int} {Q : Int -> Prop} (k : Q i) : ∃ j, V.int i = .int j /\ Q j := ⟨i, rfl, k⟩
theorem v_add {i j : Int} (k : Q (.int (i + j)) H) : uAdd K (.int i) (.int j) H Q := .inl ⟨i, j, rfl, rfl, k⟩
theorem v_sub {i j : Int} (k : Q (.int (i - j)) H) : uSub (.int i) (.int j) H Q := ⟨i, j, rfl, rfl, k⟩
theorem v_mul {i j : Int} (h : CMul i j \/ CMulW i j) (k : Q (.int (i * j)) H) : uMul (.int i) (.int j) H Q := h.elim (λ h => .inl ⟨i, j, rfl, rfl, h, k⟩) λ h => .inr (.inl ⟨i, j, rfl, rfl, h, k⟩)
theorem v_mod {i j : Int} (h : 0 < j) (k : Q (.int (i % j)) H) : uMod (.int i) (.int j) H Q := ⟨i, j, rfl, rfl, h, k⟩
theorem div_ok {i j : Int} (h : 0 < j /\ j < 2 ^ 64) : CDivW i j := wide_div (b := 64) h.1 (by omega) (by decide) (by decide)
theorem v_div {i j : Int} (h : 0 < j /\ j < 2 ^ 64) (k : Q (.int (i / j)) H) : uDiv (.int i) (.int j) H Q := ⟨i, j, rfl, rfl, div_ok h, k⟩
theorem v_iadd {i j : Int} (k : Q (.int (i + j)) H) : iAdd (.int i) (.int j) H Q := .inl ⟨i, j, rfl, rfl, k⟩
theorem v_isub {i j : Int} (k : Q (.int (i - j)) H) : iSub (.int i) (.int j) H Q := ⟨i, j, rfl, rfl, k⟩
theorem v_imul {i j : Int} (h : CMul i j) (k : Q (.int (i * j)) H) : iMul (.int i) (.int j) H Q := ⟨i, j, rfl, rfl, h, k⟩
theorem v_idiv {i j : Int} (h : CDiv i j) (k : Q (.int (i / j)) H) : iDiv (.int i) (.int j) H Q := ⟨i, j, rfl, rfl, h, k⟩
theorem v_lt {i j : Int} (k : Q (.bl (decide (i < j))) H) : uLt (.int i) (.int j) H Q := ⟨i, j, rfl, rfl, k⟩
theorem v_le {i j : Int} (k : Q (.bl (decide (i <= j))) H) : uLe (.int i) (.int j) H Q := ⟨i, j, rfl, rfl, k⟩
theorem v_gt {i j : Int} (k : Q (.bl (decide (j < i))) H) : uGt (.int i) (.int j) H Q := ⟨i, j, rfl, rfl, k⟩
theorem v_ge {i j : Int} (k : Q (.bl (decide (j <= i))) H) : uGe (.int i) (.int j) H Q := ⟨i, j, rfl, rfl, k⟩
theorem v_eqI {i j : Int} (k : Q (.bl (decide (i = j))) H) : uEq K (.int i) (.int j) H Q := .inl ⟨rfl, by
 have e : decide (V.int i = V.int j) = decide (i = j) := decide_eq_decide.mpr ⟨λ h => V.int.inj h, λ h => by rw [h]⟩
 rw [e]
 exact k⟩
theorem v_neI {i j : Int} (k : Q (.bl (!decide (i = j))) H) : uNe K (.int i) (.int j) H Q := .inl ⟨rfl, by
 have e : decide (V.int i = V.int j) = decide (i = j) := decide_eq_decide.mpr ⟨λ h => V.int.inj h, λ h => by rw [h]⟩
 rw [e]
 exact k⟩
theorem v_eqS {i j : Str} (k : Q (.bl (decide (i = j))) H) : uEq K (.str i) (.str j) H Q := .inl ⟨rfl, by
 have e : decide (V.str i = V.str j) = decide (i = j) := decide_eq_decide.mpr ⟨λ h => V.str.inj h, λ h => by rw [h]⟩
 rw [e]
 exact k⟩
theorem v_eqB {i j : Bool} (k : Q (.bl (decide (i = j))) H) : uEq K (.bl i) (.bl j) H Q := .inl ⟨rfl, by
 have e : decide (V.bl i = V.bl j) = decide (i = j) := decide_eq_decide.mpr ⟨λ h => V.bl.inj h, λ h => by rw [h]⟩
 rw [e]
 exact k⟩
theorem v_neB {i j : Bool} (k : Q (.bl (!decide (i = j))) H) : uNe K (.bl i) (.bl j) H Q := .inl ⟨rfl, by
 have e : decide (V.bl i = V.bl j) = decide (i = j) := decide_eq_decide.mpr ⟨λ h => V.bl.inj h, λ h => by rw [h]⟩
 rw [e]
 exact k⟩
theorem v_eqD {x y : V} {d e : PyData} (h1 : Dp K H x d) (h2 : Dp K H y e) (s1 : SeqAt.shaped d = true) (s2 : SeqAt.shaped e = true) (k : Q (.bl (PyData.eqv d e)) H) : uEq K x y H Q := .inr ⟨d, e, h1, h2, s1, s2, k⟩
theorem v_neD {x y : V} {d e : PyData} (h1 : Dp K H x d) (h2 : Dp K H y e) (s1 : SeqAt.shaped d = true) (s2 : SeqAt.shaped e = true) (k : Q (.bl (!PyData.eqv d e)) H) : uNe K x y H Q := .inr ⟨d, e, h1, h2, s1, s2, k⟩
theorem v_ixL {p : Addr} {xs : List V} {i : Int} {v : V} (h : SqL K H p xs) (ha : atI xs i = some v) (k : Q v H) : uIx K (.ref p) (.int i) H Q := .inl ⟨p, xs, i, v, rfl, rfl, h, ha, k⟩
theorem v_ixT {p : Addr} {xs : List V} {i : Int} {v : V} (h : SqT K H p xs) (ha : atI xs i = some v) (k : Q v H) : uIx K (.ref p) (.int i) H Q := .inr (.inl ⟨p, xs, i, v, rfl, rfl, h, ha, k⟩)
theorem v_get {p : Addr} {xs : List V} {n : Int} {v : V} (h : SqL K H p xs) (h0 : 0 <= n) (ha : xs[n.toNat]? = some v) (k : Q v H) : gIx K (.ref p) (.int n) H Q := .inl ⟨p, xs, n, v, rfl, rfl, h, h0, ha, k⟩
theorem ixN_int {n : Nat} {i : Int} (h0 : 0 <= i) (h1 : i < n) : ixN n i = some i.toNat := by
 unfold ixN
 rw [if_pos h0, if_pos h1]
theorem atI_int {α : Type} {xs : List α} {i : Int} {v : α} (h0 : 0 <= i) (h : xs[i.toNat]? = some v) : atI xs i = some v := by
 have hl := (List.getElem?_eq_some_iff.mp h).1
 unfold atI
 rw [ixN_int h0 (by omega)]
 exact h
theorem atI_ints {ns : List Int} {i : Int} (h0 : 0 <= i) (h1 : i < ns.length) : atI (ns.map V.int) i = some (.int (ns.getD i.toNat 0)) := by
 refine atI_int h0 ?_
 have hl : i.toNat < ns.length := by omega
 rw [List.getElem?_map, List.getElem?_eq_getElem hl, List.getD_eq_getElem?_getD, List.getElem?_eq_getElem hl]
 rfl
theorem v_set {p : Addr} {xs : List V} {n : Int} {j : Nat} {v : V} {Q : Hp -> Prop} (S : M Rs H) (i : Nat) (e : Rs[i]? = some (pt p (.lst xs))) (hj : ixN xs.length n = some j) (k : ∀ H', M (Rs.set i (pt p (.lst (xs.set j v)))) H' -> Q H') :
   uSet (.ref p) (.int n) v H Q := .inl ⟨p, xs, n, j, rfl, rfl, S.got i e, hj, k _ (S.putAt i e)⟩
theorem v_slL {a : Addr} {xs : List V} {lo hi : Option Int} (S : M Rs H) (h : SqL K H a xs) (k : ∀ p H', M (pt p (.lst (cutV xs lo hi)) :: Rs) H' -> Q (.ref p) H') : uSl K (.ref a) lo hi H Q :=
 .inl ⟨a, xs, rfl, h, λ p hp => k p _ (S.new hp)⟩
def RevK (K : Fr) (Q : VK) : VK := λ x H1 => ∃ a xs, x = .ref a /\ SqL K H1 a xs /\ ∀ p, H1 p = none -> Q (.ref p) (upd H1 p (.lst xs.reverse))
theorem g_rev (k : te σ H (RevK K Q)) : tRevL K te σ H Q := k
theorem v_lenL {a : Addr} {xs : List V} (h : SqL K H a xs) (k : Q (.int (xs.length : Nat)) H) : uLen K [.ref a] H Q := .inl ⟨_, _, rfl, .inl ⟨xs, h, rfl⟩, k⟩
theorem g_bm {T : String} {r : V -> List V -> Hp -> VK -> Prop} {t : TA} (k : te σ H λ x H1 => tyV K T x H1 /\ t σ H1 λ xs H2 => r x xs H2 Q) : tBM K T r te t σ H Q := k
theorem g_bm0 {T : String} {r : V -> List V -> Hp -> VK -> Prop} (k : te σ H λ x H1 => tyV K T x H1 /\ r x [] H1 Q) : tBM0 K T r te σ H Q := k
theorem v_ifD {c : Prop} [Decidable c] {A B : Prop} (h1 : c -> A) (h2 : ¬ c -> B) : if decide c = true then A else B := by
 by_cases h : c
 · rw [decide_eq_true h]
   exact h1 h
 · rw [decide_eq_false h]
   exact h2 h
theorem v_ifT {A B : Prop} (k : A) : if true = true then A else B := k
theorem v_ifF {A B : Prop} (k : B) : if false = true then A else B := k
end
end RC
namespace RC
open PySem PySem.Spec PyProof.Rows L2
def fdOf (K : Fr) (f : Addr) : FuncData := match K.lookup f with
 | some ⟨_, _, .func fd, _⟩ => fd
 | _ => PySem.W.fnOf "" "" ⟨[], [], none, [], [], none, []⟩ [] ⟨.function, [], false, false, []⟩ .none .none .none .none none .none .none
theorem fd_of {K : Fr} {x q : Str} {ar : Arguments} {bd : List Stmt} {sc : Scope} {dvs : List V} {kws : List (Str × V)} {f : Addr} (h : ∃ fd, FunD K x q ar bd sc dvs kws f fd) : FunD K x q ar bd sc dvs kws f (fdOf K f) := by
 obtain ⟨fd, F⟩ := h
 have e : fdOf K f = fd := by
   obtain ⟨⟨oc, od, dV, kV, doc, pm, an, cdv, ct, osl, rfl, lk, _, _, _⟩, _⟩ := F
   unfold fdOf
   rw [lk]
 rw [e]
 exact F
def rdL (K : Fr) (a : Addr) (xs : List V) : Res := ⟨λ F l => l = [] /\ SqL K F a xs, λ _ _ _ e h => ⟨h.1, e.sqL h.2⟩⟩
theorem M.start {K : Fr} {H : Hp} {a : Addr} {xs : List V} (h : SqL K H a xs) : M [rdL K a xs] H :=
 ⟨H, [], ⟨[], [], rfl, ⟨rfl, h⟩, rfl⟩, ⟨Ext.refl H, (λ _ h => nomatch h), List.nodup_nil⟩⟩
theorem M.gotR {K : Fr} {Rs : List Res} {H : Hp} {a : Addr} {xs : List V} (h : M Rs H) (i : Nat) (e : Rs[i]? = some (rdL K a xs)) : SqL K H a xs := by
 obtain ⟨F, L, ⟨l1, l2, rfl, ⟨_, q⟩, b⟩, m⟩ := h.at i e
 exact m.ex.sqL q
def Ent (Rs : List Res) (φ : Hp -> Prop) : Prop := ∀ H, M Rs H -> φ H
def rAbs : List V -> Hp -> VK -> Prop := λ xs H Q => ∃ i, xs = [.int i] /\ Q (.int (if i < 0 then -i else i)) H
theorem cr_abs {X : Cx} : CallR X (.builtin "abs") rAbs := call_abs
def rListOf (K : Fr) : List V -> Hp -> VK -> Prop := λ xs H Q => ∃ p ys, xs = [.ref p] /\ (SqL K H p ys \/ SqT K H p ys) /\ ∀ l, H l = none -> Q (.ref l) (upd H l (.lst ys))
theorem cr_list {X : Cx} : CallR X (.type "list") (rListOf X.K) := call_list_of
theorem v_abs {i : Int} {H : Hp} {Q : VK} (k : Q (.int (if i < 0 then -i else i)) H) : rAbs [.int i] H Q := ⟨i, rfl, k⟩
theorem v_list {K : Fr} {Rs : List Res} {H : Hp} {Q : VK} {a : Addr} {xs : List V} (S : M Rs H) (h : SqL K H a xs \/ SqT K H a xs) (k : ∀ p H', M (pt p (.lst xs) :: Rs) H' -> Q (.ref p) H') : rListOf K [.ref a] H Q :=
 ⟨a, xs, rfl, h, λ p hp => k p _ (S.new hp)⟩
def rIsN : R2 := λ x y H Q => y = .non /\ Q (.bl (decide (x = .non))) H
def rNotN : R2 := λ x y H Q => y = .non /\ Q (.bl (!decide (x = .non))) H
end RC
namespace RC
open PySem PySem.Spec PyProof.Rows L2
def ForW (J : It) (g : TG) (tb : TS) (D : Ends) (σ : L2.St) (H1 : Hp) : Prop := ∃ W : Nat -> Nat -> L2.St -> Hp -> Prop, (∃ m, W 0 m σ H1) /\ ∀ i m σ H, W i m σ H ->
 (J.stop i H /\ D.nx σ H) \/ (J.go i H /\ ∃ N : L2.St -> Hp -> Prop, (∀ σ' H', N σ' H' -> ∃ m', m' < m /\ W (i + 1) m' σ' H') /\ ∀ x H', J.yld i H x H' -> g x σ H' λ σ2 H2 => tb { D with nx := N, ct := N, bk := D.nx } σ2 H2)
def LcW (J : It) (g : TG) (tt : TT) (te : TE) (vs : List Nat) (σ : L2.St) (Q : VK) (H1 : Hp) : Prop := ∀ D, H1 D = none -> ∃ W : Nat -> Nat -> Hp -> Prop, (∃ m, W 0 m (upd H1 D (.lst []))) /\ ∀ i m H, W i m H ->
 (J.stop i H /\ Q (.ref D) H) \/ (J.go i H /\ ∃ Nx : Hp -> Prop, (∀ H', Nx H' -> ∃ m', m' < m /\ W (i + 1) m' H') /\ ∀ x H', J.yld i H x H' -> g x (wipe σ vs) H' λ σ2 H2 => wipe σ2 vs = wipe σ vs /\ tt σ2 H2 λ b H3 =>
   if b = true then te σ2 H3 λ y H4 => ∃ acc, H4 D = some (.lst acc) /\ acc.length < sizeLine /\ Nx (upd H4 D (.lst (acc ++ [y]))) else Nx H3)
section
variable {K : Fr} {σ : L2.St} {H : Hp} {Q : VK} {D : Ends} {tb : TS} {te tl : TE} {ta : TA} {tt : TT} {g : TG} {vs : List Nat} {wi : TI} {J : It} {R : It -> Hp -> Prop} {a : Addr} {xs : List V} {Rs : List Res}
theorem g_for (k : wi σ H λ J H1 => ForW J g tb D σ H1) : tFor wi g tb D σ H := k
theorem g_lc (k : wi σ H λ J H1 => LcW J g tt te vs σ Q H1) : tLc wi g tt te vs σ H Q := k
def ItL (K : Fr) (R : It -> Hp -> Prop) : VK := λ x H1 => ∃ a, x = .ref a /\ (∃ xs, SqL K H1 a xs) /\ R (Itl K a) H1
def ItR (R : It -> Hp -> Prop) : List V -> Hp -> Prop := λ vs H1 => ∃ j : Int, vs = [.int j] /\ -(2 ^ 62) <= j /\ j < 2 ^ 62 /\ R (Itr 0 j.toNat) H1
def ItV (K : Fr) (R : It -> Hp -> Prop) : List V -> Hp -> Prop := λ vs H1 => ∃ (a : Addr) (xs : List V), vs = [.ref a] /\ SqL K H1 a xs /\ R (Itv K a xs.length) H1
theorem g_iList (k : tl σ H (ItL K R)) : iList K tl σ H R := k
theorem v_itL (h : SqL K H a xs) (k : R (Itl K a) H) : ItL K R (.ref a) H := ⟨a, rfl, ⟨xs, h⟩, k⟩
theorem g_iRng1 (k : ta σ H (ItR R)) : iRng1 ta σ H R := k
theorem v_itR {j : Int} (h : -(2 ^ 62) <= j /\ j < 2 ^ 62) (k : R (Itr 0 j.toNat) H) : ItR R [V.int j] H := ⟨j, rfl, h.1, h.2, k⟩
theorem g_iRev (k : ta σ H (ItV K R)) : iRev K ta σ H R := k
theorem for_W {n : Nat} {G : Hp -> Prop} {Y : Nat -> Hp -> V -> Hp -> Prop} (w : Walk J n G Y) (Pv : Nat -> L2.St -> Hp -> Prop) (h0 : Pv 0 σ H) (hG : ∀ i σ H, i <= n -> Pv i σ H -> G H)
   (hs : ∀ i x σ H H', i < n -> Pv i σ H -> Y i H x H' -> g x σ H' λ σ2 H2 => tb { D with nx := Pv (i + 1), ct := Pv (i + 1), bk := D.nx } σ2 H2) (hd : ∀ σ H, Pv n σ H -> D.nx σ H) : ForW J g tb D σ H := for_it w Pv h0 hG hs hd
def PvM (P : Nat -> List V -> Prop) (E : Addr) (Rs : List Res) (i : Nat) (H : Hp) : Prop := ∃ acc, P i acc /\ M (pt E (.lst acc) :: Rs) H
def LcK (N : Hp -> Prop) (E : Addr) : VK := λ y H4 => ∃ acc, H4 E = some (.lst acc) /\ acc.length < sizeLine /\ N (upd H4 E (.lst (acc ++ [y])))
theorem lc_W {n : Nat} {G : Hp -> Prop} {Y : Nat -> Hp -> V -> Hp -> Prop} (w : Walk J n G Y) (S : M Rs H) (P : Nat -> List V -> Prop) (h0 : P 0 []) (hG : ∀ H, M Rs H -> G H)
   (hs : ∀ i x acc E H H', i < n -> P i acc -> M (pt E (.lst acc) :: Rs) H -> Y i H x H' -> g x (wipe σ vs) H' λ σ2 H2 => wipe σ2 vs = wipe σ vs /\ tt σ2 H2 λ b H3 => if b = true then te σ2 H3 (LcK (PvM P E Rs (i + 1)) E) else PvM P E Rs (i + 1) H3)
   (hd : ∀ E acc H, P n acc -> M (pt E (.lst acc) :: Rs) H -> Q (.ref E) H) : LcW J g tt te vs σ Q H := by
 intro E hE
 refine lc_it w (PvM P E Rs) ⟨[], h0, S.new hE⟩ (λ i H _ ⟨acc, _, S⟩ => hG H S.tl) (λ i x H H' hi ⟨acc, hp, S⟩ y => hs i x acc E H H' hi hp S y) λ H ⟨acc, hp, S⟩ => hd E acc H hp S
theorem lc_next {N : Hp -> Prop} {E : Addr} {y : V} {acc : List V} (S : M Rs H) (i : Nat) (e : Rs[i]? = some (pt E (.lst acc))) (hz : acc.length < 100000) (k : ∀ H', M (Rs.set i (pt E (.lst (acc ++ [y])))) H' -> N H') : LcK N E y H :=
 ⟨acc, S.got i e, Nat.lt_of_lt_of_le hz (by decide), k _ (S.putAt i e)⟩
theorem g_yes {Q : Bool -> Hp -> Prop} (k : Q true H) : tYes σ H Q := k
theorem g_name {i : Nat} {v : V} {Q : L2.St -> Hp -> Prop} (k : Q (σ.set i (some v)) H) : gName i v σ H Q := k
end
theorem ints_get {ns : List Int} {i : Nat} {x : V} (h : (ns.map V.int)[i]? = some x) : ∃ n, ns[i]? = some n /\ x = .int n := by
 rw [List.getElem?_map] at h
 cases e : ns[i]? with
 | none =>
   rw [e] at h
   cases h
 | some n =>
   rw [e] at h
   exact ⟨n, rfl, (Option.some.inj h).symm⟩
end RC
namespace RC
open PySem PySem.Spec PyProof.Rows L2
theorem cut_to (xs : List V) (k : Nat) : cutV xs none (some (k : Int)) = xs.take k := by
 unfold cutV
 rw [HT.sIx_none, HT.sIx_nat, List.drop_zero, Nat.sub_zero]
 rcases Nat.le_total k xs.length with h | h
 · rw [Nat.min_eq_left h]
 · rw [Nat.min_eq_right h, List.take_of_length_le (Nat.le_refl _), List.take_of_length_le h]
theorem g_wipe {a b : L2.St} {φ : Prop} (h : a = b) (k : φ) : a = b /\ φ := ⟨h, k⟩
end RC
namespace RC
open PySem PySem.Spec PyProof.Rows L2
def AllI (P : Int -> Prop) : List V -> Prop
 | [] => True
 | .int n :: r => P n /\ AllI P r
 | _ => False
theorem AllI.get {P : Int -> Prop} : ∀ {xs : List V}, AllI P xs -> ∀ {j : Nat}, j < xs.length -> ∃ n, P n /\ xs[j]? = some (.int n)
 | [], _, j, h => absurd h (Nat.not_lt_zero _)
 | .int n :: r, h, 0, _ => ⟨n, h.1, rfl⟩
 | .int n :: r, h, j + 1, hj => by
   obtain ⟨m, a, b⟩ := AllI.get h.2 (Nat.lt_of_succ_lt_succ hj)
   exact ⟨m, a, by simpa using b⟩
 | .non :: _, h, _, _ => h.elim
 | .bl _ :: _, h, _, _ => h.elim
 | .str _ :: _, h, _, _ => h.elim
 | .byt _ :: _, h, _, _ => h.elim
 | .flt _ :: _, h, _, _ => h.elim
 | .ref _ :: _, h, _, _ => h.elim
 | .ty _ :: _, h, _, _ => h.elim
end RC
namespace RC
theorem v_ifNT {A B : Prop} (k : B) : if (!true) = true then A else B := k
theorem v_ifNF {A B : Prop} (k : A) : if (!false) = true then A else B := k
end RC
namespace RC
open PySem PySem.Spec PyProof.Rows L2
def Sub (Rs' Rs : List Res) : Prop := ∀ F L, Sat F Rs L -> ∃ L1 L2, L.Perm (L1 ++ L2) /\ Sat F Rs' L1
theorem Sub.refl (Rs : List Res) : Sub Rs Rs := λ _ L h => ⟨L, [], by rw [List.append_nil], h⟩
theorem Sub.nil (Rs : List Res) : Sub [] Rs := λ _ L _ => ⟨[], L, .refl _, rfl⟩
theorem Sub.cons {Rs Rs' : List Res} {R : Res} (i : Nat) (e : Rs[i]? = some R) (h : Sub Rs' (Rs.eraseIdx i)) : Sub (R :: Rs') Rs := by
 intro F L s
 obtain ⟨L0, p0, l1, l2, rfl, a, b⟩ := s.perm (perm_at i e)
 obtain ⟨L1, L2, p1, c⟩ := h F l2 b
 refine ⟨l1 ++ L1, L2, p0.trans ?_, l1, L1, rfl, a, c⟩
 rw [List.append_assoc]
 exact p1.append_left l1
theorem Sub.tl {Rs Rs' : List Res} {R : Res} (h : Sub Rs' Rs) : Sub Rs' (R :: Rs) := by
 rintro F L ⟨l1, l2, rfl, a, b⟩
 obtain ⟨L1, L2, p1, c⟩ := h F l2 b
 refine ⟨L1, l1 ++ L2, (p1.append_left l1).trans ?_, c⟩
 rw [<- List.append_assoc, <- List.append_assoc]
 exact List.Perm.append_right _ List.perm_append_comm
theorem M.sub {Rs Rs' : List Res} {H : Hp} (q : Sub Rs' Rs) (h : M Rs H) : M Rs' H := by
 obtain ⟨F, L, a, m⟩ := h
 obtain ⟨L1, L2, p, b⟩ := q F L a
 have m2 := m.perm p
 refine ⟨F, L1, b, m2.ex, λ c hc => m2.own c (List.mem_append_left _ hc), ?_⟩
 have nd := m2.nd
 rw [List.map_append] at nd
 exact (List.nodup_append.mp nd).1
end RC
namespace RC
open PySem PySem.Spec PyProof.Rows L2
section
variable {X : Cx}
end
section
variable {K : Fr} {σ : L2.St} {H : Hp} {Q : VK} {D : Ends} {Rs : List Res} {E : XK}
theorem v_neg {i : Int} (k : Q (.int (-i)) H) : rU (λ i => .int (-i)) (.int i) H Q := ⟨i, rfl, k⟩
theorem v_isN {x : V} (k : Q (.bl (decide (x = .non))) H) : rIsN x .non H Q := ⟨rfl, k⟩
theorem v_notN {x : V} (k : Q (.bl (!decide (x = .non))) H) : rNotN x .non H Q := ⟨rfl, k⟩
theorem g_par {i j : Nat} {ta : TA} (k : ta σ H λ vs H1 => ∃ v w, vs = [v, w] /\ D.nx ((σ.set i (some v)).set j (some w)) H1) : tPar i j ta D σ H := k
theorem v_two {x y : V} {P : V -> V -> Prop} (k : P x y) : ∃ v w, [x, y] = [v, w] /\ P v w := ⟨x, y, rfl, k⟩
theorem g_callN {n m : Nat} {sp : Sp} {gV : List V -> List V -> List V} {t tk : TA} (k : t σ H λ vs H1 => tk σ H1 λ zs H2 => vs.length = n /\ zs.length = m /\ sp (gV vs zs) H2 Q E) : tCallN n m sp gV E t tk σ H Q := k
theorem v_lens {a b : List V} {n m : Nat} {P : Prop} (h1 : a.length = n) (h2 : b.length = m) (k : P) : a.length = n /\ b.length = m /\ P := ⟨h1, h2, k⟩
theorem g_gtup {n : Nat} {t : TGs} {a : Addr} {xs : List V} {Q : L2.St -> Hp -> Prop} (h : SqT K H a xs) (hn : xs.length = n) (k : t xs σ H Q) : gTup K n t (.ref a) σ H Q := ⟨a, xs, rfl, h, hn, k⟩
theorem g_gnil {Q : L2.St -> Hp -> Prop} (k : Q σ H) : gNil [] σ H Q := ⟨rfl, k⟩
theorem g_gcons {t : TG} {u : TGs} {v : V} {r : List V} {Q : L2.St -> Hp -> Prop} (k : t v σ H λ σ' H' => u r σ' H' Q) : gCons t u (v :: r) σ H Q := ⟨v, r, rfl, k⟩
end
end RC
namespace RC
open PySem PySem.Spec PyProof.Rows L2
theorem lc_X {H : Hp} {σ : L2.St} {Q : VK} {te : TE} {tt : TT} {g : TG} {vs : List Nat} {J : It} {n : Nat} {G : Hp -> Prop} {Y : Nat -> Hp -> V -> Hp -> Prop} (w : Walk J n G Y) (Pv : Addr -> Nat -> Hp -> Prop) (h0 : ∀ E, H E = none -> Pv E 0 (upd H E (.lst [])))
   (hG : ∀ E i H, i <= n -> Pv E i H -> G H)
   (hs : ∀ E i x H H', i < n -> Pv E i H -> Y i H x H' -> g x (wipe σ vs) H' λ σ2 H2 => wipe σ2 vs = wipe σ vs /\ tt σ2 H2 λ b H3 => if b = true then te σ2 H3 (LcK (Pv E (i + 1)) E) else Pv E (i + 1) H3)
   (hd : ∀ E H, Pv E n H -> Q (.ref E) H) : LcW J g tt te vs σ Q H := by
 intro E hE
 exact lc_it w (Pv E) (h0 E hE) (hG E) (hs E) (hd E)
end RC
namespace RC
open PySem PySem.Spec PyProof.Rows L2
section
variable {K : Fr} {σ : L2.St} {H : Hp} {Q : VK} {D : Ends} {Rs : List Res}
theorem v_pow {i j : Int} (h : 0 <= j /\ j <= 1000000 /\ i.natAbs < 2 ^ 64) (k : Q (.int (i ^ j.toNat)) H) : uPow (.int i) (.int j) H Q := ⟨i, j, rfl, rfl, h, k⟩
def WhW (c : TT) (tb : TS) (D : Ends) (σ : L2.St) (H : Hp) : Prop := ∃ W : Nat -> L2.St -> Hp -> Prop, (∃ m, W m σ H) /\ ∀ m σ H, W m σ H ->
 c σ H λ b H1 => if b = true then ∃ N : L2.St -> Hp -> Prop, (∀ σ' H', N σ' H' -> ∃ m', m' < m /\ W m' σ' H') /\ tb { D with nx := N, ct := N, bk := D.nx } σ H1 else D.nx σ H1
theorem g_while {c : TT} {tb : TS} (k : WhW c tb D σ H) : tWhile c tb D σ H := k
end
end RC

namespace RC
open PySem PySem.Spec PyProof.Rows L2
theorem pas0 {X : Cx} {σ : L2.St} {E : XK} : PassesAt CX0 X σ E := λ _ _ _ _ _ _ z => z.elim
section
variable {X : Cx} {g : Bool} {CX : CXT} {k n : Nat} {f C : Addr} {fd : FuncData} {ps ps' ks : List Str} {sp : Sp} {ds : List Value} {dvs : List V} {W : WX} {x m : Str} {p pos apos : Pos} {e o : Expr} {es : List Expr} {ta : TE} {t : TA}
theorem ended {pins : List (Addr × Obj)} {σ : L2.St} {H : Hp} {s : Shared} {Q : VK} {E : XK} {c : Code} (I : Inv X pins σ H s) (hx : PassesAt CX X σ E) (h : codeAny (model X.prog X.w) X.A c (CR CX X.stack X.prog X.w H s Q E) s) :
   codeAny (model X.prog X.w) X.A c (λ r s' => match r with | .ok (.ret u) => EP X pins σ Q u s' | .ok _ => False | .error u => X.xe u s') s := by
 refine codeAny_mono h λ res s' hq => ?_
 match res, hq with
 | .error u, hq => exact hx pins H s u s' I hq
 | .ok (.ret u), hq => exact I.after hq
 | .ok .next, hq => cases hq
 | .ok .brk, hq => cases hq
 | .ok .cont, hq => cases hq
theorem runW {pins : List (Addr × Obj)} {σ : L2.St} {H : Hp} {s : Shared} {Q : VK} {E : XK} {us : List Value} {vs : List V} (F : FnX g X.prog X.w X.K X.mg X.base CX k f fd ps sp) (hg : g = true -> X.A.guards = some []) (hr : Room k X.A)
   (hb : Binds X.K fd ps ds) (hd : Vals dvs ds) (hx : PassesAt CX X σ E) (I : Inv X pins σ H s) (r : Vals vs us) (h : sp (vs ++ dvs) H Q E) :
   wpAny (model X.prog X.w) X.A (call (.ref f) us) (EP X pins σ Q) X.xe s := by
 have rr : Vals (vs ++ dvs) (us ++ ds) := r.append hd
 have ll : (us ++ ds).length = ps.length := rr.length.symm.trans (F.lenG _ _ _ _ h)
 have go := ended I hx (F.runG X.A X.stack s H ⟨us, []⟩ _ (us ++ ds) (vs ++ dvs) Q E hg hr I.env0 (hb s us I.kIn ll) (.refl _) rr h)
 refine wpAny_call (codeAny_mono go λ res s' hq => ?_)
 match res, hq with
 | .error _, hq => exact hq
 | .ok (.ret _), hq => exact hq
def tCallW (W : WX) (sp : Sp) (dvs : List V) (t : TA) : TE := λ σ H Q => t σ H λ vs H1 => sp (vs ++ dvs) H1 Q (WE W σ)
theorem pe_callW (F : FnX g X.prog X.w X.K X.mg X.base CX k f fd ps sp) (hgu : g = true -> X.A.guards = some []) (hr : Room k X.A) (hg : Gl X x) (hm : X.mg x = some (.ref f))
   (hk : PySem.W.keepIn X.K (.ref f) = true) (hb : Binds X.K fd ps ds) (hd : Vals dvs ds) (hx : ∀ σ, PassesAt CX X σ (WE W σ))
   (ha : PA X (e :: es) t) (hdb : (x == ("__debug__" : Str)) = false := by decide) (he : starEach (e :: es) X.env = (false, eval e X.env) :: starEach es X.env := by rfl)
   (hpl : (backTo pos (starEach es X.env)).any (·.1) = false := by rfl) : PE X (.Call (.Name x p) (e :: es) [] pos) (tCallW W sp dvs t) := by
 constructor
 intro pins s σ H Q I h
 refine wpAny_Call_Name_kw (ld_glob I hg hm ?_ hdb)
 have body := thn (ha.run pos pins s σ H _ I h) (Q' := λ us s1 => X.K.In s1.heap /\ wpAny (model X.prog X.w) X.A (call (.ref f) us) (EP X pins σ Q) X.xe s1)
   λ us s1 ⟨vs, H1, I1, r1, q1⟩ => ⟨I1.kIn, runW F hgu hr hb hd (hx σ) I1 r1 q1⟩
 exact PySem.W.callWith_K (h₀ := X.base) I.ok.mod.kin hk body he hpl
def tMethW (W : WX) (C : Addr) (m : Str) (sp : Sp) (dvs : List V) (ta : TE) (t : TA) : TE := λ σ H Q => ta σ H λ x H1 => ∃ a dx fs, x = .ref a /\ H1 a = some (.ins C dx fs) /\ fs.lookup m = none /\ t σ H1 λ vs H2 => sp (x :: (vs ++ dvs)) H2 Q (WE W σ)
theorem pe_methW0 {pl : Sem Bool} (he : PE X o ta) (c : Cls X.K C) (hm : Meth X.K C m f) (F : FnX g X.prog X.w X.K X.mg X.base CX k f fd ps sp) (hgu : g = true -> X.A.guards = some []) (hr : Room k X.A) (hb : Binds X.K fd ps ds) (hd : Vals dvs ds)
   (hx : ∀ σ, PassesAt CX X σ (WE W σ))
   (ht : eval (.Call (.Attribute o m apos) [] [] pos) X.env = (do
     let ov <- eval o X.env
     standAt apos.atName
     let (f, first) <- holding [ov] (getMethod ov m pl)
     callWith pos f first (backTo pos (starEach [] X.env)) (backToKw pos (keywordEach [] X.env))) := by rfl) : PE X (.Call (.Attribute o m apos) [] [] pos) (tMethW W C m sp dvs ta tNil) := by
 constructor
 intro pins s σ H Q I h
 refine PySem.W.methodCall_KW (pl := pl) (thn (he.run pins s σ H _ I h) ?_) ht
 rintro u s1 ⟨x, H1, I1, rx, a, dx, fs, rfl, ea, hl, q⟩
 cases (show u = Value.ref a from rx)
 exact getmeth_ok I1 ea c hm hl (PySem.W.callWith_K0 (first := [.ref a]) I1.kIn hm.kp (runW (us := [.ref a]) (vs := [.ref a]) F hgu hr hb hd (hx σ) I1 (.cons rfl .nil) q))
def tMakeW (W : WX) (C : Addr) (sp : Sp) (dvs : List V) (t : TA) : TE := λ σ H Q => t σ H λ vs H1 => ∀ x dx, H1 x = none -> H1 dx = none -> dx ≠ x ->
 sp (.ref x :: (vs ++ dvs)) (upd (upd H1 dx (.own x)) x (.ins C dx [])) (λ v H2 => v = .non /\ Q (.ref x) H2) (WE W σ)
theorem runMk {pins : List (Addr × Obj)} {σ : L2.St} {H : Hp} {s : Shared} {Q : VK} {E : XK} {us : List Value} {vs : List V} (M : Mk X.K C f) (F : FnX g X.prog X.w X.K X.mg X.base CX k f fd ps sp) (hgu : g = true -> ((X.A.under (.builtin "type.__call__" ⟨.ref C :: us, []⟩)).guards = some []))
   (hr : Room (k + 1) X.A) (hb : Binds X.K fd ps ds) (hd : Vals dvs ds) (hx : PassesAt CX X σ E) (I : Inv X pins σ H s) (r : Vals vs us)
   (h : ∀ x dx, H x = none -> H dx = none -> dx ≠ x -> sp (.ref x :: (vs ++ dvs)) (upd (upd H dx (.own x)) x (.ins C dx [])) (λ v H2 => v = .non /\ Q (.ref x) H2) E) :
   wpAny (model X.prog X.w) X.A (call (.ref C) us) (EP X pins σ Q) X.xe s := by
 have hq := h (s.heap.objs.size + 1) s.heap.objs.size (I.hok.fresh (Nat.le_succ _)) (I.hok.fresh (Nat.le_refl _)) (Nat.ne_of_lt (Nat.lt_succ_self _))
 have I2 := Inv.made (C := C) I
 have r2 : Vals (V.ref (s.heap.objs.size + 1) :: (vs ++ dvs)) (Value.ref (s.heap.objs.size + 1) :: (us ++ ds)) := .cons rfl (r.append hd)
 have hl : (Value.ref (s.heap.objs.size + 1) :: us ++ ds).length = ps.length := r2.length.symm.trans (F.lenG _ _ _ _ hq)
 have go := F.runG (X.A.under (.builtin "type.__call__" ⟨.ref C :: us, []⟩)) X.stack _ _ ⟨Value.ref (s.heap.objs.size + 1) :: us, []⟩ _ (Value.ref (s.heap.objs.size + 1) :: (us ++ ds)) _ _ E hgu (hr.make C us []) (I2.env0.make C us [])
   (hb _ (Value.ref (s.heap.objs.size + 1) :: us) I2.kIn hl) (.refl _) r2 hq
 refine wpAny_call (make_map (f := f) I.kIn M.makes M.init (beq_iff_eq.mp M.fn) (codeAny_mono go λ res s' hq' => ?_))
 match res, hq' with
 | .error u, hq' => exact hx pins _ _ u s' I2 hq'
 | .ok (.ret u), hq' =>
   obtain ⟨v, H', I3, rv, ev, q3⟩ := I2.after hq'
   subst ev
   exact ⟨rv, ⟨V.ref (s.heap.objs.size + 1), H', I3, rfl, q3⟩⟩
 | .ok .next, hq' => cases hq'
 | .ok .brk, hq' => cases hq'
 | .ok .cont, hq' => cases hq'
theorem pe_makeW0 (M : Mk X.K C f) (F : FnX false X.prog X.w X.K X.mg X.base CX k f fd ps sp) (hr : Room (k + 1) X.A) (hg : Gl X x) (hm : X.mg x = some (.ref C)) (hb : Binds X.K fd ps ds) (hd : Vals dvs ds) (hx : ∀ σ, PassesAt CX X σ (WE W σ))
   (hdb : (x == ("__debug__" : Str)) = false := by decide) : PE X (.Call (.Name x p) [] [] pos) (tMakeW W C sp dvs tNil) := by
 constructor
 intro pins s σ H Q I h
 refine wpAny_Call_Name_kw (ld_glob I hg hm ?_ hdb)
 exact PySem.W.callWith_K0 I.kIn M.kp (runMk (us := []) M F (λ z => nomatch z) hr hb hd (hx σ) I .nil h)
end
end RC

namespace RC
open PySem PySem.Spec PyProof.Rows L2
structure XcB (K : Fr) (C : Addr) (B newId initId : String) (bmB : List Value) : Prop where
 fb : ExcBaseFacts B newId initId bmB
 sf : StoreFacts B bmB "object.__setattr__" "object"
 ini : PySem.W.excInitIn K C bmB newId = true
 ovr : PySem.W.excOver K C bmB = true
 hd : PySem.W.hasDictIn K C = true
 sa : PySem.W.findIn K (.ref C) "__setattr__" = some (some (.builtin "object.__setattr__"))
 exC : PySem.W.subIn K (.ref C) (.type "BaseException") = some true
 tyC : PySem.W.typeIn K (.ref C) = some (.type "type")
 kC : PySem.W.keepIn K (.ref C) = true
theorem upd_self {H : Hp} {a : Addr} {o : HO} (e : H a = some o) : upd H a o = H := by
 funext b
 by_cases hb : b = a
 · rw [hb, upd_same, e]
 · rw [upd_ne hb]
section
variable {X : Cx} {pins : List (Addr × Obj)} {σ : L2.St} {H : Hp} {s : Shared} {a C : Addr} {f : Str} {y : V} {u : Value} {A : Around} {E : Value -> Shared -> Prop} {B newId initId : String} {bmB : List Value}
theorem x_set {Q : Unit -> Shared -> Prop} (T : XcB X.K C B newId initId bmB) (I : Inv X pins σ H s) (e : H a = some (exo a C none)) (hno : PySem.W.findIn X.K (.ref C) f = some none) (ry : RelV y u)
   (h : ∀ dx s', H dx = none -> dx ≠ a -> Inv X pins σ (upd (upd H dx (exd dx [(f, y)])) a (exo a C (some dx))) s' -> Q () s') : wpAny (model X.prog X.w) A (setAttr (.ref a) f u) Q E s := by
 obtain ⟨t1, ho⟩ := exo_at I.hok e
 obtain ⟨hp, g, d, t, os⟩ := s
 have ho2 : hp.get? a = some (PySem.W.excObj C t1 none .none) := ho
 obtain ⟨cd, hc, hcd⟩ := PySem.W.any_some T.hd
 refine PySem.W.set_plain I.kIn (ox := PySem.W.excObj C t1 none .none) (od := none) ⟨ho2, rfl, rfl, trivial⟩ T.sa ?_
 refine PySem.W.osa_openX (od := none) T.sf I.kIn ⟨ho2, rfl, rfl, trivial⟩ T.ovr (NoAttr.taker hno) λ b => ?_
 refine wpAny_bind (wpAny_pure (wpAny_bind (PySem.W.instanceDict_exc ho2 (PySem.W.looks_clsIn I.kIn hc) hcd ?_)))
 have hxs : a ≠ hp.objs.size := Nat.ne_of_lt (Heap.lt_size ho)
 refine HandSPX.store_in_new ?_ ?_
 · exact ⟨_, #[], _, (Heap.get?_update_ne _ _ _ _ hxs.symm).trans (Heap.get?_push_at rfl rfl), rfl, λ e he => absurd he (by simp), λ _ => rfl⟩
 intro h' tk' hn hs
 have hx1 : (hp.push (PySem.W.dictOf [] 0)).get? a = some (PySem.W.excObj C t1 none .none) := Heap.get?_push_of_some _ ho2
 have kp : ∀ b o, b ≠ a -> hp.get? b = some o -> h'.get? b = some o := λ b o hb q =>
   (hs.2 b (Nat.ne_of_lt (Heap.lt_size q))).trans ((Heap.get?_update_ne _ _ _ _ hb).trans (Heap.get?_push_of_some _ q))
 have hx : h'.get? a = some ({ cls := .ref C, dict := some hp.objs.size, data := .fields #[.ref t1, .none, .none, .none, .bool false, .none] } : Obj) := (hs.2 a hxs).trans (Heap.get?_update_self _ hx1 rfl)
 have hnd : H hp.objs.size = none := I.hok.fresh (Nat.le_refl _)
 have nd : ∀ {b : Addr} {o : Obj}, hp.get? b = some o -> b ≠ hp.objs.size := λ q => Nat.ne_of_lt (Heap.lt_size q)
 have na : ∀ {b : Addr}, H b = none -> b ≠ a := λ n z => by
   rw [z, e] at n
   cases n
 have un : Un X.fs [] H (upd (upd H hp.objs.size (exd hp.objs.size [(f, y)])) a (exo a C (some hp.objs.size))) hp h' := by
   constructor
   · exact λ b o q n _ _ => kp b o (na n) q
   · exact λ b o q n _ _ => ⟨o.slots, kp b o (na n) q⟩
   · intro b o q n _
     rw [upd_ne (na n), upd_ne (nd q)]
     exact n
   · intro b o q _
     by_cases hb : b = a
     · subst hb
       exact ⟨_, hx⟩
     · exact ⟨o, kp b o hb q⟩
   · intro b xs q
     rw [upd_ne (at_ne e q exo_tup), upd_ne (ne_of_none q hnd)]
     exact q
   · intro b o v q
     rw [upd_ne (at_ne e q exo_frz), upd_ne (ne_of_none q hnd)]
     exact q
   · intro b ps q
     refine ⟨#[], ?_⟩
     rw [upd_ne (at_ne e q exo_tbl), upd_ne (ne_of_none q hnd), q]
     simp
 refine h hp.objs.size _ hnd hxs.symm (I.un (t' := tk') un λ b o q => ?_)
 by_cases hb : b = a
 · subst hb
   rw [upd_same] at q
   cases q
   exact exo_ok hx
 rw [upd_ne hb] at q
 by_cases hd : b = hp.objs.size
 · subst hd
   rw [upd_same] at q
   cases q
   exact exd_ok hn (relO_put (fs := []) ry λ g => True.intro)
 rw [upd_ne hd] at q
 refine (I.hok b o q).stay (λ c v hc z => kp c v ?_ z) (λ c hc => ?_) (λ c xs hc => ?_)
 · rcases hc with hc | hc
   · subst hc
     exact hb
   · exact at_ne e hc exo_own
 · rw [upd_ne (at_ne e hc exo_own), upd_ne (ne_of_none hc hnd)]
   exact hc
 · rw [upd_ne (at_ne e hc exo_tup), upd_ne (ne_of_none hc hnd)]
   exact hc
theorem x_init {us : List Value} {Q : Value -> Shared -> Prop} (T : XcB X.K C B newId initId bmB) (I : Inv X pins σ H s) (e : H a = some (exo a C none)) (hl : us.length <= sizeLine) (h : ∀ s', Inv X pins σ H s' -> Q .none s') :
   wpAny (model X.prog X.w) A (call (.builtin initId) (.ref a :: us)) Q E s := by
 obtain ⟨nm, N, qn, bs, bm, hdct, sn, sub, ab, col, dd, k0, k1, k2, k3, k5, hC, hT⟩ := PySem.W.excInit_of I.kIn T.ini
 obtain ⟨t1, ho⟩ := exo_at I.hok e
 obtain ⟨hp, g, d, t, os⟩ := s
 refine wpAny_call (HandSPX.init_base T.fb hT hC ho hl λ h' t2 k hx => ?_)
 have J := I.write (t' := t) (x := a) (e := a) (o := exo a C none) (by rw [e]; exact True.intro) (.inl rfl) k ⟨_, hx⟩ (exo_ok hx)
 rw [upd_self e] at J
 exact h _ J
end
structure XcI (K : Fr) (D : Addr) (initId : String) : Prop where
 ga : PySem.W.specialIn K (.ref D) "__getattribute__" = some (some (.builtin "type.__getattribute__"))
 ty : PySem.W.typeIn K (.ref D) = some (.type "type")
 rd : PySem.W.readsIn K D (.type "type") = true
 fi : PySem.W.findCls K (.ref D) (.type "type") "__init__" = some (.val (.builtin initId))
def tXi (K : Fr) (initId : String) (ta : TA) : TE := λ σ H Q => ta σ H λ vs H1 => ∃ (a C : Addr) (ws : List V) (B newId : String) (bmB : List Value), vs = .ref a :: ws /\ ws.length <= 1000 /\ XcB K C B newId initId bmB /\ H1 a = some (exo a C none) /\ Q .non H1
def tXs (K : Fr) (f : Str) (to te : TE) : TS := λ D σ H => te σ H λ y H1 => to σ H1 λ x H2 => ∃ (a C : Addr) (B newId initId : String) (bmB : List Value), x = .ref a /\ XcB K C B newId initId bmB /\ PySem.W.findIn K (.ref C) f = some none /\
 H2 a = some (exo a C none) /\ ∀ dx, H2 dx = none -> dx ≠ a -> D.nx σ (upd (upd H2 dx (exd dx [(f, y)])) a (exo a C (some dx)))
def tXm (C : Addr) (sp : Sp) (ta : TA) : L2.St -> Hp -> XK -> Prop := λ σ H Q => ta σ H λ vs H1 => vs.length <= 1000 /\ ∀ a, H1 a = none -> sp (.ref a :: vs) (upd H1 a (exo a C none))
 (λ v H2 => v = .non /\ ∃ (d : Addr) (fs : List (Str × V)), H2 a = some (exo a C (some d)) /\ H2 d = some (exd d fs) /\ H1 d = none /\ Q (.ref C) (some d) (upd (del H2 a) d (.xd fs))) (λ _ _ _ => False)
section
variable {X : Cx} {o e : Expr} {es : List Expr} {to te : TE} {ta : TA} {f P : Str} {p p' p1 p2 pos : Pos} {C D : Addr} {initId : String}
theorem pe_xi {pl : Sem Bool} (hg : Gl X P) (hm : X.mg P = some (.ref D)) (T : XcI X.K D initId) (ha : PA X (e :: es) ta)
   (hc : eval (.Call (.Attribute (.Name P p1) "__init__" p2) (e :: es) [] pos) X.env = (do
     let ov <- eval (.Name P p1) X.env
     standAt p2.atName
     let (f, first) <- holding [ov] (getMethod ov "__init__" pl)
     callWith pos f first (backTo pos (starEach (e :: es) X.env)) (backToKw pos (keywordEach [] X.env))) := by rfl)
   (hh : PySem.W.handedIn (.builtin initId) = true := by decide +kernel) (hdb : (P == ("__debug__" : Str)) = false := by decide)
   (he : starEach (e :: es) X.env = (false, eval e X.env) :: starEach es X.env := by rfl) (hpl : (backTo pos (starEach es X.env)).any (·.1) = false := by rfl) :
   PE X (.Call (.Attribute (.Name P p1) "__init__" p2) (e :: es) [] pos) (tXi X.K initId ta) := by
 constructor
 intro pins s σ H Q I h
 refine PySem.W.methodCall_KW (ld_glob I hg hm ?_ hdb) hc
 obtain ⟨m, fr⟩ := I.fr
 refine PySem.W.method_of_cls fr I.ok.mod.kin T.ga (PySem.W.cls_val fr I.ok.mod.kin T.ty T.rd T.fi hh ?_)
 show wpAny _ _ (callWith pos (Value.builtin initId) [] (backTo pos (starEach (e :: es) X.env)) []) _ _ _
 refine PyProof.Rows.callWith_method1 (thn (ha.run pos pins _ σ H _ (I.tok _) h) ?_) he hpl
 rintro us s1 ⟨vs, H1, I1, r1, a, C, ws, B, newId, bmB, rfl, hl, T, ea, q⟩
 cases r1 with
 | @cons _ u0 _ ur ra rw' =>
   cases (show u0 = Value.ref a from ra)
   have hlen : ur.length <= sizeLine := by
     rw [<- Paired.length rw', sizeLine_eq]
     omega
   exact x_init T I1 ea hlen λ s' J => ⟨.non, H1, J, rfl, q⟩
theorem ps_xs (ho : PE X o to) (he : PE X e te) (hs : swapsWith e (some (.Attribute o f p')) pos.line X.env = pure false := by rfl) : PS X (.Assign [.Attribute o f p'] e pos) (tXs X.K f to te) := by
 constructor
 intro pins s σ H D I h
 refine plainObj_wpAny_Assign_Attribute (thn (he.run pins s σ H _ I h) ?_) hs
 rintro v s1 ⟨y, H1, I1, r1, q1⟩
 refine thn (ho.run pins s1 σ H1 _ I1 q1) ?_
 rintro u s2 ⟨x, H2, I2, r2, a, C, B, newId, initId, bmB, rfl, T, hno, ea, q⟩
 cases (show u = Value.ref a from r2)
 exact x_set T I2 ea hno r1 λ dx s' n ne J => ⟨σ, _, J, q dx n ne⟩
theorem pmk_x {CX : CXT} {x : Str} {C fI : Addr} {k : Nat} {fd : FuncData} {ps : List Str} {sp : Sp} {B newId : String} {bmB : List Value} (T : XcB X.K C B newId initId bmB) (iC : PySem.W.findIn X.K (.ref C) "__init__" = some (some (.ref fI))) (tI : PySem.W.typeIn X.K (.ref fI) = some (.type "function"))
   (F : FnX false X.prog X.w X.K X.mg X.base CX k fI fd ps sp) (hr : Room (k + 1) X.A) (hb : Binds X.K fd ps []) (hx : Passes CX X (λ _ _ _ => False)) (hg : Gl X x) (hm : X.mg x = some (.ref C)) (ha : PA X (e :: es) ta)
   (hdb : (x == ("__debug__" : Str)) = false := by decide) (he : starEach (e :: es) X.env = (false, eval e X.env) :: starEach es X.env := by rfl) (hpl : (backTo pos (starEach es X.env)).any (·.1) = false := by rfl) :
   PMk X (.Call (.Name x p) (e :: es) [] pos) (tXm C sp ta) := by
 intro pins s σ H Q I h
 refine wpAny_Call_Name_kw (ld_glob I hg hm ?_ hdb)
 refine PySem.W.callWith_K (h₀ := X.base) I.ok.mod.kin T.kC (thn (ha.run pos pins s σ H _ I h) ?_) he hpl
 rintro us s1 ⟨vs, H1, I1, r1, hz, q1⟩
 refine ⟨I1.kIn, ?_⟩
 show wpAny _ _ (call (.ref C) us) _ _ _
 obtain ⟨nm, N, qn, bs, bm, hdct, sn, sub, ab, col, dd, k0, k1, k2, k3, k5, hC, hT⟩ := PySem.W.excInit_of I1.kIn T.ini
 obtain ⟨hp, g, dr, tk, os⟩ := s1
 have hsz : hp.objs.size <= hp.objs.size + 1 := Nat.le_succ _
 have hq := q1 (hp.objs.size + 1) (I1.hok.fresh hsz)
 have kk : ∀ b o, hp.get? b = some o -> ((hp.push (PySem.W.kdv_tup us)).push (HandSPX.excO C hp.objs.size)).get? b = some o := λ b o z => Heap.get?_push_of_some _ (Heap.get?_push_of_some _ z)
 have hget : ((hp.push (PySem.W.kdv_tup us)).push (HandSPX.excO C hp.objs.size)).get? (hp.objs.size + 1) = some (HandSPX.excO C hp.objs.size) := by heap_get
 have I2 := I1.laid (t' := tk) (a := hp.objs.size + 1) (o := exo (hp.objs.size + 1) C none) (h' := (hp.push (PySem.W.kdv_tup us)).push (HandSPX.excO C hp.objs.size)) kk hsz (exo_ok hget)
 have r2 : Vals (V.ref (hp.objs.size + 1) :: vs) (Value.ref (hp.objs.size + 1) :: us) := .cons rfl r1
 have hl : (Value.ref (hp.objs.size + 1) :: us ++ []).length = ps.length := by
   rw [List.append_nil]
   exact r2.length.symm.trans (F.lenG _ _ _ _ hq)
 have hus : us.length <= sizeLine := by
   rw [<- Paired.length r1, sizeLine_eq]
   omega
 have hb2 := hb ⟨(hp.push (PySem.W.kdv_tup us)).push (HandSPX.excO C hp.objs.size), g, dr, tk, os⟩ (Value.ref (hp.objs.size + 1) :: us) I2.kIn hl
 rw [List.append_nil] at hb2
 have go := F.runG (X.A.under (.builtin "type.__call__" ⟨.ref C :: us, []⟩)) X.stack _ _ ⟨Value.ref (hp.objs.size + 1) :: us, []⟩ _ (Value.ref (hp.objs.size + 1) :: us) _ _ (λ _ _ _ => False) (λ z => nomatch z) (hr.make C us []) (I2.env0.make C us []) hb2 (.refl _) r2 hq
 refine wpAny_call (HandSPX.call_own T.fb hT hC (PySem.W.looks_findIn I1.kIn iC) (λ self => PySem.W.bind_fn I1.kIn self tI) hus (codeAny_mono go λ r s' hq' => ?_))
 match r, hq' with
 | .error er, hq' => exact hx pins σ _ _ er s' I2 hq'
 | .ok (.ret u), hq' =>
   obtain ⟨v, H2, os2, bare2, un2, hok2, rv, rfl, d, fs, ea, ed, hd1, q2⟩ := hq'
   obtain ⟨h2, g2, d2, t2, os'⟩ := s'
   exact ⟨rv, mk_end (raises_own T.exC T.tyC) I1 hsz kk un2 hok2 os2 bare2 ea ed hd1 q2⟩
 | .ok .next, hq' => cases hq'
 | .ok .brk, hq' => cases hq'
 | .ok .cont, hq' => cases hq'
end
end RC

namespace RC
open PySem PySem.Spec PyProof.Rows L2
def spX (C : Addr) (f : Str) : Sp := λ vs H Q _ => ∃ (a : Addr) (v : V), vs = [.ref a, v] /\ H a = some (exo a C none) /\ ∀ dx, H dx = none -> dx ≠ a -> Q .non (upd (upd H dx (exd dx [(f, v)])) a (exo a C (some dx)))
theorem lenX {C : Addr} {f : Str} (vs : List V) (H : Hp) (Q : VK) (E : XK) (h : spX C f vs H Q E) : vs.length = 2 := by
 obtain ⟨a, v, rfl, _⟩ := h
 rfl
def tXz (C : Addr) (f : Str) (te : TE) : L2.St -> Hp -> XK -> Prop := λ σ H Q => te σ H λ v H1 => ∀ d, H1 d = none -> Q (.ref C) (some d) (upd H1 d (.xd [(f, v)]))
theorem PE.wk {X : Cx} {e : Expr} {te : TE} (h : PE X e te) : PE X e (λ σ H Q => ∃ R : VK, te σ H R /\ ∀ v H1, R v H1 -> Q v H1) :=
 ⟨λ pins s σ H _ I ⟨R, h1, h2⟩ => thn (h.run pins s σ H R I h1) λ _ _ ⟨v, H1, I1, r, q⟩ => ⟨v, H1, I1, r, h2 v H1 q⟩⟩
theorem pmk_xz {X : Cx} {CX : CXT} {x f : Str} {C fI : Addr} {k : Nat} {fd : FuncData} {ps : List Str} {B newId initId : String} {bmB : List Value} {e : Expr} {te : TE} {p pos : Pos} (T : XcB X.K C B newId initId bmB) (iC : PySem.W.findIn X.K (.ref C) "__init__" = some (some (.ref fI)))
   (tI : PySem.W.typeIn X.K (.ref fI) = some (.type "function")) (F : FnX false X.prog X.w X.K X.mg X.base CX k fI fd ps (spX C f)) (hr : Room (k + 1) X.A) (hb : Binds X.K fd ps []) (hx : Passes CX X (λ _ _ _ => False)) (hg : Gl X x) (hm : X.mg x = some (.ref C)) (ha : PE X e te)
   (hdb : (x == ("__debug__" : Str)) = false := by decide) (he : starEach [e] X.env = (false, eval e X.env) :: starEach [] X.env := by rfl) :
   PMk X (.Call (.Name x p) [e] [] pos) (tXz C f te) := by
 have key : ∀ (Q : XK) (v : V) (H1 : Hp), (∀ d, H1 d = none -> Q (.ref C) (some d) (upd H1 d (.xd [(f, v)]))) -> [v].length <= 1000 /\ ∀ a, H1 a = none -> spX C f (.ref a :: [v]) (upd H1 a (exo a C none))
     (λ v H2 => v = .non /\ ∃ (d : Addr) (fs : List (Str × V)), H2 a = some (exo a C (some d)) /\ H2 d = some (exd d fs) /\ H1 d = none /\ Q (.ref C) (some d) (upd (del H2 a) d (.xd fs))) (λ _ _ _ => False) := by
   intro Q v H1 q
   refine ⟨by simp, λ a na => ⟨a, v, rfl, upd_same, λ dx hdx hne => ⟨rfl, dx, [(f, v)], upd_same, ?_, ?_, ?_⟩⟩⟩
   · rw [upd_ne hne, upd_same]
   · rw [upd_ne hne] at hdx
     exact hdx
   · have e1 : upd (del (upd (upd (upd H1 a (exo a C none)) dx (exd dx [(f, v)])) a (exo a C (some dx))) a) dx (.xd [(f, v)]) = upd H1 dx (.xd [(f, v)]) := by
       funext b
       by_cases hb : b = dx
       · subst hb
         rw [upd_same, upd_same]
       · rw [upd_ne hb, upd_ne hb]
         by_cases hba : b = a
         · subst hba
           rw [del_same, na]
         · rw [del_ne hba, upd_ne hba, upd_ne hb, upd_ne hba]
     rw [e1]
     rw [upd_ne hne] at hdx
     exact q dx hdx
 intro pins s σ H Q I h
 have hp := pa_cons (PE.wk ha) (pa_nil (X := X)) he
 exact pmk_x (p := p) (pos := pos) T iC tI F hr hb hx hg hm hp hdb he rfl pins s σ H Q I ⟨_, h, λ v H1 q => key Q v H1 q⟩
def tRz (W : WX) (C : Addr) (f : Str) (te : TE) : TS := λ _ σ H => te σ H λ v H1 => ∀ d, H1 d = none -> W (.ref C) (some d) σ (upd H1 d (.xd [(f, v)]))
theorem ps_rz {X : Cx} {W : WX} {CX : CXT} {x f : Str} {C fI : Addr} {k : Nat} {fd : FuncData} {ps : List Str} {B newId initId : String} {bmB : List Value} {e : Expr} {te : TE} {p pos pos' : Pos} (hc : X.calm = true) (tk : Takes X W) (T : XcB X.K C B newId initId bmB)
   (iC : PySem.W.findIn X.K (.ref C) "__init__" = some (some (.ref fI))) (tI : PySem.W.typeIn X.K (.ref fI) = some (.type "function")) (F : FnX false X.prog X.w X.K X.mg X.base CX k fI fd ps (spX C f)) (hr : Room (k + 1) X.A) (hb : Binds X.K fd ps []) (hx : Passes CX X (λ _ _ _ => False))
   (hg : Gl X x) (hm : X.mg x = some (.ref C)) (ha : PE X e te) (hdb : (x == ("__debug__" : Str)) = false := by decide) (he : starEach [e] X.env = (false, eval e X.env) :: starEach [] X.env := by rfl) :
   PS X (.Raise (some (.Call (.Name x p) [e] [] pos)) none pos') (tRz W C f te) := ps_raise hc tk (pmk_xz T iC tI F hr hb hx hg hm ha hdb he)
theorem pureX {K : Fr} {C : Addr} {f msg : Str} {B newId initId : String} {bmB : List Value} {N : List Str} (hN : start N [] = [none, none]) (T : XcB K C B newId initId bmB) (hno : PySem.W.findIn K (.ref C) f = some none) (vs : List V) (H : Hp) (Q : VK) (E : XK) (h : spX C f vs H Q E) :
   tSeq (tDrop (tXi K initId (tCons (tVar 0) (tCons (tC (.str msg)) tNil)))) (tXs K f (tVar 0) (tVar 1)) { nx := λ _ H' => Q .non H', rt := Q } (start N vs) H := by
 obtain ⟨a, v, rfl, ha, q⟩ := h
 have e : start N [V.ref a, v] = [some (V.ref a), some v] := by
   have l : N.length = 2 := by
     have := congrArg List.length hN
     simpa [L2.start] using this
   simp [L2.start, l]
 rw [e]
 exact ⟨_, rfl, a, C, [.str msg], B, newId, bmB, rfl, by simp, T, ha, v, rfl, _, rfl, a, C, B, newId, initId, bmB, rfl, T, hno, ha, q⟩

def TestOk (X : Cx) (t : Expr) (cs : List Value) : Prop := ∀ (a : Addr) (oe : Obj) (pn pins : List (Addr × Obj)) (σ : L2.St) (H : Hp) (s : Shared) (cls : Value) (b : Bool) (Q : Bool -> Shared -> Prop) (E : Value -> Shared -> Prop),
 Inv (X.suite a ((a, oe) :: pn)) pins σ H s -> PySem.W.Looks (model X.prog X.w) s.heap (typeOf (.ref a)) cls -> PySem.W.exmAny X.K cls cs = some b ->
   (∀ h', (∀ q o, s.heap.get? q = some o -> h'.get? q = some o) -> Q b { s with heap := h' }) ->
     wpAny (model X.prog X.w) (X.A.mark (some (.ref a))) (eval t X.env) (λ c s1 => wpAny (model X.prog X.w) (X.A.mark (some (.ref a))) (excMatches (.ref a) c) Q E s1) E s
section
variable {X : Cx} {x1 x2 x3 : Str} {c1 c2 c3 : Value} {p1 p2 p3 tp : Pos} {kk : Nat}
theorem nameAt {a : Addr} {oe : Obj} {pn pins : List (Addr × Obj)} {σ : L2.St} {H : Hp} {s : Shared} {Q : Value -> Shared -> Prop} {E : Value -> Shared -> Prop} (hc : Names X x1 c1) (I : Inv (X.suite a ((a, oe) :: pn)) pins σ H s) (q : Q c1 s) :
   wpAny (model X.prog X.w) (X.A.mark (some (.ref a))) (eval (.Name x1 p1) X.env) Q E s := by
 obtain ⟨hg, hdbg, hm | ⟨hm, hv, hnn⟩⟩ := hc
 · exact ld_glob (X := X.suite a ((a, oe) :: pn)) I hg hm q hdbg
 · exact ld_blt (X := X.suite a ((a, oe) :: pn)) I hg hm hv q hnn hdbg
theorem test1 (hc : Names X x1 c1) : TestOk X (.Name x1 p1) [c1] := by
 intro a oe pn pins σ H s cls b Q E I LT he q
 obtain ⟨b1, d1, e1, e2, rfl⟩ := PySem.W.exmAny_cons he
 cases e2
 rw [Bool.or_false] at q
 exact nameAt hc I ((PySem.W.exm_one I.kIn LT e1).here (q s.heap λ _ _ z => z))
end
structure Hd where
 cs : List Value
 sl : Option Nat
 ts : Addr -> Value -> Option Addr -> TS
def Hd.put (σ : L2.St) (a : Addr) : Option Nat -> L2.St
 | none => σ
 | some i => σ.set i (some (.ref a))
def Hd.ends (D : Ends) : Option Nat -> Ends
 | none => D
 | some i => { nx := λ σ' H' => D.nx (σ'.set i none) H', rt := D.rt, bk := λ σ' H' => D.bk (σ'.set i none) H', ct := λ σ' H' => D.ct (σ'.set i none) H' }
def wTry (K : Fr) (W : WX) (D : Ends) : List Hd -> WX
 | [] => W
 | h :: r => λ cls d σ H => ∃ b, PySem.W.exmAny K cls h.cs = some b /\ (b = true -> ∀ a, H a = none -> h.ts a cls d (Hd.ends D h.sl) (Hd.put σ a h.sl) H) /\ (b = false -> wTry K W D r cls d σ H)
inductive HdOk (X : Cx) : List ExceptHandler -> List Hd -> Prop
 | nil : HdOk X [] []
 | plain {t : Expr} {cs : List Value} {ts : Addr -> Value -> Option Addr -> TS} {b₀ : Stmt} {suite : List Stmt} {pos : Pos} {hds : List ExceptHandler} {l : List Hd} (ht : TestOk X t cs)
     (hsu : ∀ (a : Addr) (oe : Obj) (cls : Value) (d : Option Addr) (pn : List (Addr × Obj)), Zc cls d oe -> (∃ vs, oe.data = .fields vs) -> PSs (X.suite a ((a, oe) :: pn)) (b₀ :: suite) (ts a cls d)) (r : HdOk X hds l) :
     HdOk X (.ExceptHandler (some t) none (b₀ :: suite) pos :: hds) (⟨cs, none, ts⟩ :: l)
 | named {t : Expr} {cs : List Value} {n : Str} {i : Nat} {ts : Addr -> Value -> Option Addr -> TS} {b₀ : Stmt} {suite : List Stmt} {pos : Pos} {hds : List ExceptHandler} {l : List Hd} (ht : TestOk X t cs) (hi : X.N[i]? = some n) (hln : X.env.kindOf n = some .local)
     (hsu : ∀ (a : Addr) (oe : Obj) (cls : Value) (d : Option Addr) (pn : List (Addr × Obj)), Zc cls d oe -> (∃ vs, oe.data = .fields vs) -> PSs (X.suite a ((a, oe) :: pn)) (b₀ :: suite) (ts a cls d)) (r : HdOk X hds l) :
     HdOk X (.ExceptHandler (some t) (some n) (b₀ :: suite) pos :: hds) (⟨cs, some i, ts⟩ :: l)
theorem flying_kept {B : Heap} {l : List Env} {a : Addr} {Z : Obj -> Prop} {h h' : Heap} (fl : HandSPX.FlyingZ B l a Z h) (k : ∀ b o, h.get? b = some o -> h'.get? b = some o) : HandSPX.FlyingZ B l a Z h' := by
 obtain ⟨f1, f2, f3, oe, vs, T, oT, ts, he, hz, hd, h1, hn, hne, hT, hdT, h3⟩ := fl
 exact ⟨λ b o q => k b o (f1 b o q), f2, f3.of_keeps λ b o q _ => ⟨o, k b o q, rfl⟩, oe, vs, T, oT, ts, k _ _ he, hz, hd, h1, hn, hne, k _ _ hT, hdT, h3⟩
section
variable {X : Cx} {body : List Stmt} {h₀ : ExceptHandler} {hds : List ExceptHandler} {l : List Hd} {pos : Pos} {tb : WX -> TS} {W : WX}
theorem ps_tryG (hs : X.stack = X.env :: X.outer) (hf : X.env.frame = some X.env.locals) (hN : X.N.Nodup) (tk : Takes X W)
   (hb : ∀ (W' : WX) (pn : List (Addr × Obj)) (xe : Value -> Shared -> Prop), Takes (X.tr pn xe) W' -> PassesOwn (model X.prog X.w) X.A X.env xe -> PSs (X.tr pn xe) body (tb W'))
   (hh : HdOk X (h₀ :: hds) l) : PS X (.Try body (h₀ :: hds) [] [] pos) (λ D σ H => tb (wTry X.K W D l) D σ H) := by
 constructor
 intro pins s σ H D I h
 have ok := I.ok
 have hfr : X.A.frames = some (X.env :: X.outer) := ok.frames.trans (by rw [hs])
 refine wpAny_Try_except ?_
 let xe : Value -> Shared -> Prop := λ e s₁ => wpAny (model X.prog X.w) X.A (noteFrame e X.env) (λ _ s₂ => wpAny (model X.prog X.w) X.A (setFlight e none)
   (λ _ s₃ => wpAny (model X.prog X.w) X.A (handleBy e X.env (h₀ :: hds)) (SP X pins D) X.xe s₃) X.xe s₂) X.xe s₁
 have tkb : Takes (X.tr (X.pn ++ pins) xe) (wTry X.K W D l) := by
   rintro u s' ⟨a, B, sI, pins', σ', H', cls, d, rfl, J', nb, up, sky, na, os, ag, w⟩
   have J : Inv X pins σ' H' sI := J'.ofTry ok
   have sky' : Sky B (X.env :: X.outer) a (Zc cls d) X.env.locals s'.heap := hs ▸ sky
   show wpAny (model X.prog X.w) X.A (noteFrame (.ref a) X.env) _ _ _
   refine Sky.land Zc.steady hfr hf sky' λ h3 fl3 up3 => ?_
   have main : ∀ {hds' : List ExceptHandler} {l' : List Hd}, HdOk X hds' l' -> wTry X.K W D l' cls d σ' H' -> ∀ h3, HandSPX.FlyingZ B (X.env :: X.outer) a (Zc cls d) h3 -> sI.heap.UpToSlots h3 ->
       wpAny (model X.prog X.w) X.A (handleBy (.ref a) X.env hds') (SP X pins D) X.xe { s' with heap := h3 } := by
     intro hds' l' hk
     have place : ∀ {h3 : Heap}, HandSPX.FlyingZ B (X.env :: X.outer) a (Zc cls d) h3 -> sI.heap.UpToSlots h3 ->
         ∃ oe, Zc cls d oe /\ (∃ vs, oe.data = .fields vs) /\ Inv (X.suite a ((a, oe) :: (X.pn ++ pins))) [] σ' H' { s' with heap := h3 } /\ PySem.W.Looks (model X.prog X.w) h3 (typeOf (.ref a)) cls := by
       intro h3 fl up
       have J3 : Inv X pins σ' H' { s' with heap := h3 } := J.landed nb fl.1 up os ag
       obtain ⟨oe, vs, he, hz, hd⟩ := fl.there
       have nfr : a ∉ frs (X.env :: X.outer) := λ hm => by
         obtain ⟨_, o', e', hnf⟩ := fl.2.2.1.mem hm
         rw [he] at e'
         cases e'
         exact hnf _ hd
       have nL : a ≠ X.env.locals := λ z => nfr (List.mem_filterMap.mpr ⟨X.env, List.mem_cons_self, by rw [hf, z]⟩)
       have nF : a ∉ X.fs := λ hm => by
         obtain ⟨e, he, q⟩ := List.mem_filterMap.mp hm
         exact nfr (List.mem_filterMap.mpr ⟨e, List.mem_cons_of_mem _ he, q⟩)
       exact ⟨oe, hz, ⟨vs, hd⟩, J3.suite he hd na nL nF, λ A Q E s k q => wpAny_typeOf_ref (k _ _ he) (by rw [hz.1]; exact q)⟩
     induction hk with
     | nil =>
       intro w h3 fl3 up3
       refine wpAny_handleBy_nil ?_
       obtain ⟨k1, k2, k3, oe, vs, T, oT, ts', he, hz, hd, h1, hr⟩ := id fl3
       unfold PySem.passOn
       refine wpAny_bind (wpAny_field he hd h1 ?_)
       rw [if_neg (show ¬ ((Value.ref T == Value.none) = true) from by simp)]
       have fin : wpAny (model X.prog X.w) X.A (setFlight (.ref a) X.env.frame) (λ _ s4 => wpAny (model X.prog X.w) X.A (throw (.ref a) : Sem Flow) (SP X pins D) X.xe s4) X.xe { s' with heap := h3 } := by
         rw [hf]
         refine HandSPX.setFlight_upZ fl3 λ h4 hh4 up4 => wpAny_throw (tk _ _ ⟨a, B, sI, pins, σ', H', cls, d, rfl, J, nb, up3.trans up4, .inr (.inr ?_), na, os, ag, w⟩)
         rw [hs]
         exact hh4
       first
         | exact wpAny_bind (wpAny_pure (wpAny_bind fin))
         | exact wpAny_bind fin
     | @plain t cs ts b₀ suite pos hds2 l2 ht hsu r ih =>
       rintro ⟨b, hb1, hyes, hno⟩ h3 fl3 up3
       obtain ⟨oe3, _, _, S3, LT⟩ := place fl3 up3
       refine wpAny_handleBy_cons (codeAny_handlers_test (ht a oe3 _ [] σ' H' _ cls b _ _ S3 LT hb1 λ h4 k4 => ?_)) (by intro q; cases q)
       have fl4 := flying_kept fl3 k4
       have up4 := up3.trans (Heap.UpToSlots.of_keeps k4)
       cases b with
       | true =>
         refine codeAny_handlers_suite ?_
         refine HandSPX.lands_againZ fl4 λ h5 fl5 up5 => ?_
         obtain ⟨oe5, hz5, hd5, S5, _⟩ := place fl5 (up4.trans up5)
         refine wpAny_mono ((hsu a oe5 cls d (X.pn ++ pins) hz5 hd5).run [] _ _ H' _ S5 (hyes rfl a na)) (λ f s6 hsp => ?_) (λ _ _ z => False.elim z)
         match f, hsp with
         | .next, ⟨σ6, H6, S6, q6⟩ => exact ⟨_, _, S6.unsuite ok, q6⟩
         | .brk, ⟨σ6, H6, S6, q6⟩ => exact ⟨_, _, S6.unsuite ok, q6⟩
         | .cont, ⟨σ6, H6, S6, q6⟩ => exact ⟨_, _, S6.unsuite ok, q6⟩
         | .ret u, ⟨v6, σ6, H6, S6, r6, q6⟩ => exact ⟨_, _, _, S6.unsuite ok, r6, q6⟩
       | false => exact ih (hno rfl) h4 fl4 up4
     | @named t cs n i ts b₀ suite pos hds2 l2 ht hi hln hsu r ih =>
       rintro ⟨b, hb1, hyes, hno⟩ h3 fl3 up3
       obtain ⟨oe3, _, _, S3, LT⟩ := place fl3 up3
       refine wpAny_handleBy_cons (codeAny_handlers_test (ht a oe3 _ [] σ' H' _ cls b _ _ S3 LT hb1 λ h4 k4 => ?_)) (by intro q; cases q)
       have fl4 := flying_kept fl3 k4
       have up4 := up3.trans (Heap.UpToSlots.of_keeps k4)
       cases b with
       | true =>
         refine codeAny_handlers_suite_as ?_
         refine HandSPX.lands_againZ fl4 λ h5 fl5 up5 => ?_
         obtain ⟨oe5, hz5, hd5, S5, _⟩ := place fl5 (up4.trans up5)
         refine store_ok (X := X.suite a ((a, oe5) :: (X.pn ++ pins))) (v := .ref a) S5 hN hi (.inl hln) rfl (λ s7 S7 => ?_) (.inr hln)
         refine wpAny_mono ((hsu a oe5 cls d (X.pn ++ pins) hz5 hd5).run [] s7 _ H' _ S7 (hyes rfl a na)) (λ f s6 hsp => ?_) (λ _ _ z => False.elim z)
         have end_ : ∀ {σ6 : L2.St} {H6 : Hp} {Q : Shared -> Prop}, Inv (X.suite a ((a, oe5) :: (X.pn ++ pins))) [] σ6 H6 s6 -> (∀ s7, Inv X pins (σ6.set i none) H6 s7 -> Q s7) ->
             wpAny (model X.prog X.w) X.A (do bindName X.env n .none; unbindBehindTheSuite X.env n pos) (λ _ s7 => Q s7) X.xe s6 := λ S6 hq => gone_ok (S6.unsuite ok) hN hi hln hq
         match f, hsp with
         | .next, ⟨σ6, H6, S6, q6⟩ => exact end_ S6 λ s7 J7 => ⟨_, _, J7, q6⟩
         | .brk, ⟨σ6, H6, S6, q6⟩ => exact end_ S6 λ s7 J7 => ⟨_, _, J7, q6⟩
         | .cont, ⟨σ6, H6, S6, q6⟩ => exact end_ S6 λ s7 J7 => ⟨_, _, J7, q6⟩
         | .ret u, ⟨v6, σ6, H6, S6, r6, q6⟩ => exact end_ S6 λ s7 J7 => ⟨_, _, _, J7, r6, q6⟩
       | false => exact ih (hno rfl) h4 fl4 up4
   exact main hh w h3 fl3 (up.trans up3)
 refine wpAny_mono ((hb (wTry X.K W D l) (X.pn ++ pins) xe tkb PassesOwn.looking).run [] s σ H D (I.toTry _) h) (λ f s1 hsp => ?_) (λ e s1 he => he)
 match f, hsp with
 | .next, ⟨σ', H', J', q⟩ => exact wpAny_execs_nil ⟨σ', H', J'.ofTry ok, q⟩
 | .brk, ⟨σ', H', J', q⟩ => exact ⟨σ', H', J'.ofTry ok, q⟩
 | .cont, ⟨σ', H', J', q⟩ => exact ⟨σ', H', J'.ofTry ok, q⟩
 | .ret u, ⟨v, σ', H', J', r, q⟩ => exact ⟨v, σ', H', J'.ofTry ok, r, q⟩
end
end RC

namespace RC
open PySem PySem.Spec PyProof.Rows L2
def tXg (K : Fr) (a : Addr) (cls : Value) (d : Option Addr) (n : Str) (te : TE) : TE := λ σ H Q => te σ H λ x H1 => x = .ref a /\ ∃ D dd fs v, cls = .ref D /\ ExcC K D /\ PySem.W.findIn K (.ref D) n = some none /\ d = some dd /\ H1 dd = some (.xd fs) /\ fs.lookup n = some v /\ Q v H1
section
variable {X : Cx} {a D : Addr} {oe : Obj} {cls : Value} {d : Option Addr}
theorem pe_xg {e : Expr} {te : TE} {pos : Pos} {n : Str} (hp : (a, oe) ∈ X.pn) (hz : Zc cls d oe) (hf : ∃ vs, oe.data = .fields vs) (he : PE X e te) (hb : attributeBase e n X.env (eval e X.env) = eval e X.env := by rfl) :
   PE X (.Attribute e n pos) (tXg X.K a cls d n te) := by
 constructor
 intro pins s σ H Q I h
 refine attr_of hb (thn (he.run pins s σ H _ I h) ?_)
 rintro u s1 ⟨x, H1, I1, rx, rfl, D, dd, fs, v, rfl, C, hno, rfl, ea, l, q⟩
 cases (show u = Value.ref a from rx)
 obtain ⟨ha, _⟩ := I1.pin (a, oe) (List.mem_append_left _ hp)
 obtain ⟨vs, hv⟩ := hf
 obtain ⟨mA, hns, hr⟩ := (show ObjOk X.prog X.w H1 s1.heap dd (.xd fs) from I1.hok dd _ ea)
 obtain ⟨od, ho, hl⟩ := lookIn_ns hns
 obtain ⟨u, hu, ru⟩ := RelO.some_of (v := v) (o := mA n) (by rw [<- l]; exact hr n)
 have nc : PySem.W.notCls oe = true := by
   unfold PySem.W.notCls
   rw [hv] <;> rfl
 have J : PySem.W.InstAt s1.heap a oe D (some od) := ⟨ha, hz.1, nc, by rw [hz.2]; exact ho⟩
 exact HandSPX.exc_get I1.kIn J C.hg C.hk C.hs (PySem.W.findObj_own C.hd hno rfl (by rw [hl, hu])) (handed_of ru) ⟨v, H1, I1.tok _, ru, q⟩
end
structure FnE (P : Program) (w : World) (K : Fr) (mg : Str -> Option Value) (base : Heap) (k : Nat) (f : Addr) (fd : FuncData) (x : Str) (sp : Addr -> Value -> Option Addr -> Hp -> VK -> Prop) : Prop where
 run : ∀ (A : Around) (outer : List Env) (s : Shared) (H : Hp) (args : Args) (Q : VK) (a : Addr) (oe : Obj) (cls : Value) (d : Option Addr), L2H.RoomH k A -> Zc cls d oe -> (∃ vs, oe.data = .fields vs) -> L2H.PinOk outer H s (a, oe) -> Env0 P w K mg base A outer s H ->
   BindsTo s fd args [(x, .ref a)] -> sp a cls d H Q -> codeAny (model P w) A (.call (.ref f) args) (CR CX0 outer P w H s Q E0) s
def tCallE (a : Addr) (cls : Value) (d : Option Addr) (sp : Addr -> Value -> Option Addr -> Hp -> VK -> Prop) (te : TE) : TE := λ σ H Q => te σ H λ x H1 => x = .ref a /\ sp a cls d H1 Q
def obsF (fa : List (Fr -> Bool)) (fn : List He.DefD) (K : Fr) : He.AlD := ((fa.all λ f => f K) && fn.all λ d => d.ok K, fn.map λ d => He.fnW K d.at_)
def SaysF (fa : List (Fr -> Bool)) (fn : List He.DefD) (K : Fr) : Prop := obsF fa fn K = He.valD fn
section
variable {fa : List (Fr -> Bool)} {fn : List He.DefD} {K : Fr}
theorem SaysF.fact (c : SaysF fa fn K) (i : Nat) {f : Fr -> Bool} (h : fa[i]? = some f := by rfl) : f K = true := by
 have c1 : ((fa.all λ f => f K) && fn.all λ d => d.ok K) = true := congrArg (λ z : He.AlD => z.1) c
 exact List.all_eq_true.mp (Bool.and_eq_true_iff.mp c1).1 f (List.mem_of_getElem? h)
theorem SaysF.def_ (c : SaysF fa fn K) (i : Nat) {d : He.DefD} (h : fn[i]? = some d := by rfl) : ∃ fd, FunD K d.name d.qual d.params d.body d.scope (d.dvs K) (d.kws K) (He.fAd K d.at_) fd := by
 have c1 : ((fa.all λ f => f K) && fn.all λ d => d.ok K) = true := congrArg (λ z : He.AlD => z.1) c
 have e : fn.map (λ d => He.fnW K d.at_) = fn.map He.DefD.val := congrArg (λ z : He.AlD => z.2) c
 have e2 : (fn.map λ d => He.fnW K d.at_)[i]? = (fn.map He.DefD.val)[i]? := by rw [e]
 rw [List.getElem?_map, List.getElem?_map, h] at e2
 exact He.DefD.funD (Option.some.inj e2) (List.all_eq_true.mp (Bool.and_eq_true_iff.mp c1).2 d (List.mem_of_getElem? h))
end
end RC

theorem L2H.RoomH.units {k : Nat} {A : PySem.Around} (r : L2H.RoomH k A) : A.units + 64 < PySem.cLine := by
 have := r.un
 omega
theorem L2H.RoomH.u1 {k : Nat} {A : PySem.Around} (r : L2H.RoomH k A) : A.units + 1 < PySem.cLine := by
 have := r.un
 omega
theorem L2.Room.u1 {k : Nat} {A : PySem.Around} (r : L2.Room k A) : A.units + 1 < PySem.cLine := by
 have := r.un
 omega
namespace RC
open PySem PySem.Spec PyProof.Rows L2
def W0 : WX := λ _ _ _ _ => False
abbrev WT (E : XK) : WX := λ cls d _ H => E cls d H
theorem tk0 {X : Cx} : Takes X W0 := takes_none5
theorem okW {g : Bool} {P : Program} {w : World} {K : Fr} {mg : Str -> Option Value} {base : Heap} {k : Nat} {f : Addr} {fd : FuncData} {ps : List Str} {sp : Sp} {x qual : Str} {params : Arguments} {body : List Stmt} {scope : Scope} {dvs : List V} {kws : List (Str × V)} {N : List Str}
   (D : FunD K x qual params body scope dvs kws f fd) (S : FnScope N ps scope) (hlen : ∀ vs H Q E, sp vs H Q E -> vs.length = ps.length)
   (hbody : ∀ (cdv : Value) (B : Around) (out : List Env) (t : Shared) (H : Hp) (vs : List V) (Q : VK) (E : XK), (g = true -> B.guards = some []) -> Room k (B.deeper (envOfC qual scope t.heap.objs.size f cdv)) -> sp vs H Q E ->
     Takes (cxOf (L2.CX P w) P w K mg base N qual scope f cdv B out t H E) (WT E) -> PassesOwn (model P w) (cxOf (L2.CX P w) P w K mg base N qual scope f cdv B out t H E).A (cxOf (L2.CX P w) P w K mg base N qual scope f cdv B out t H E).env (cxOf (L2.CX P w) P w K mg base N qual scope f cdv B out t H E).xe ->
     ∃ tr, PSs (cxOf (L2.CX P w) P w K mg base N qual scope f cdv B out t H E) body tr /\ tr { nx := λ _ H' => Q .non H', rt := Q } (L2.start N vs) H) :
   FnX g P w K mg base (L2.CX P w) (k + 1) f fd ps sp :=
 okX D S hlen λ cdv B out t H vs Q E hg hr hs => hbody cdv B out t H vs Q E hg hr hs (takes_of rfl rfl rfl rfl) (passes_of rfl)
section
variable {X : Cx}
def rIxK : R2 := λ x y H Q => ∃ a v, x = .ref a /\ DGet H a y (some v) /\ Q v H
end
def clsB : Stmt -> List Stmt
 | .ClassDef _ _ _ body _ _ _ _ _ _ _ => body
 | _ => []
abbrev mA (K : Fr) (c m : Str) : Addr := He.ma K (He.ga K c) m
def chB (K : Fr) (x : Str) (bmB : List Value) (newId : String) : Bool := PySem.W.excInitIn K (He.ga K x) bmB newId && (PySem.W.excOver K (He.ga K x) bmB && (PySem.W.hasDictIn K (He.ga K x) && (He.eqO (PySem.W.findIn K (.ref (He.ga K x)) "__setattr__") (some (some (.builtin "object.__setattr__"))) &&
 (decide (PySem.W.subIn K (.ref (He.ga K x)) (.type "BaseException") = some true) && (decide (PySem.W.typeIn K (.ref (He.ga K x)) = some (.type "type")) && PySem.W.keepIn K (.ref (He.ga K x)))))))
theorem chB_ok {K : Fr} {x : Str} {B newId initId : String} {bmB : List Value} (fb : ExcBaseFacts B newId initId bmB) (sf : StoreFacts B bmB "object.__setattr__" "object") (h : chB K x bmB newId = true) : XcB K (He.ga K x) B newId initId bmB := by
 obtain ⟨h1, h⟩ := He.ba h
 obtain ⟨h2, h⟩ := He.ba h
 obtain ⟨h3, h⟩ := He.ba h
 obtain ⟨h4, h⟩ := He.ba h
 obtain ⟨h5, h⟩ := He.ba h
 obtain ⟨h6, h7⟩ := He.ba h
 exact ⟨fb, sf, h1, h2, h3, He.eqO_ok h4, of_decide_eq_true h5, of_decide_eq_true h6, h7⟩
abbrev tlB (B : String) : List Value := [.type B, .type "Exception", .type "BaseException", .type "object"]
theorem chB_VE {K : Fr} {x : Str} (h : chB K x (tlB "ValueError") "ValueError.__new__" = true) : XcB K (He.ga K x) "ValueError" "ValueError.__new__" "ValueError.__init__" (tlB "ValueError") := chB_ok PySem.F.excBase_ValueError PySem.F.store_ValueError h
def chI (K : Fr) (x : Str) (initId : String) : Bool := He.eqO (PySem.W.specialIn K (.ref (He.ga K x)) "__getattribute__") (some (some (.builtin "type.__getattribute__"))) && (decide (PySem.W.typeIn K (.ref (He.ga K x)) = some (.type "type")) && (PySem.W.readsIn K (He.ga K x) (.type "type") &&
 (match PySem.W.findCls K (.ref (He.ga K x)) (.type "type") "__init__" with
   | some (.val (.builtin n)) => decide (n = initId)
   | _ => false)))
theorem chI_ok {K : Fr} {x : Str} {initId : String} (h : chI K x initId = true) : XcI K (He.ga K x) initId := by
 obtain ⟨h1, h⟩ := He.ba h
 obtain ⟨h2, h⟩ := He.ba h
 obtain ⟨h3, h4⟩ := He.ba h
 refine ⟨He.eqO_ok h1, of_decide_eq_true h2, h3, ?_⟩
 split at h4
 · rename_i n e
   rw [e, of_decide_eq_true h4]
 · cases h4
def chC (K : Fr) (x : Str) : Bool := He.eqO (PySem.W.findIn K (.ref (He.ga K x)) "__getattribute__") (some (some (.builtin "BaseException.__getattribute__"))) && (He.eqO (PySem.W.findIn K (.ref (He.ga K x)) "__getattr__") (some none) &&
 (decide (PySem.W.subIn K (.ref (He.ga K x)) (.type "BaseException") = some true) && (PySem.W.hasDictIn K (He.ga K x) && (He.eqO (PySem.W.findIn K (.ref (He.ga K x)) "__class__") (some (some (.builtin "object.__class__"))) &&
 (He.eqO (PySem.W.specialIn K (.builtin "object.__class__") "__get__") (some (some (.builtin "getset_descriptor.__get__"))) && (decide (PySem.W.takesIn K (.builtin "object.__class__") = some true) && decide (PySem.W.mroIn K (He.ga K x) (.type "object") = some true)))))))
theorem chC_ok {K : Fr} {x : Str} (h : chC K x = true) : ExcC K (He.ga K x) := by
 obtain ⟨h1, h⟩ := He.ba h
 obtain ⟨h2, h⟩ := He.ba h
 obtain ⟨h3, h⟩ := He.ba h
 obtain ⟨h4, h⟩ := He.ba h
 obtain ⟨h5, h⟩ := He.ba h
 obtain ⟨h6, h⟩ := He.ba h
 obtain ⟨h7, h8⟩ := He.ba h
 exact ⟨He.eqO_ok h1, He.eqO_ok h2, of_decide_eq_true h3, h4, He.eqO_ok h5, He.eqO_ok h6, of_decide_eq_true h7, of_decide_eq_true h8⟩
def chN (K : Fr) (x f : Str) : Bool := He.eqO (PySem.W.findIn K (.ref (He.ga K x)) f) (some none)
theorem chN_ok {K : Fr} {x f : Str} (h : chN K x f = true) : PySem.W.findIn K (.ref (He.ga K x)) f = some none := He.eqO_ok h
def chF (K : Fr) (x : Str) : Bool := He.eqO (PySem.W.findIn K (.ref (He.ga K x)) "__init__") (some (some (.ref (mA K x "__init__")))) && decide (PySem.W.typeIn K (.ref (mA K x "__init__")) = some (.type "function"))
theorem chF_ok {K : Fr} {x : Str} (h : chF K x = true) : PySem.W.findIn K (.ref (He.ga K x)) "__init__" = some (some (.ref (mA K x "__init__"))) /\ PySem.W.typeIn K (.ref (mA K x "__init__")) = some (.type "function") := ⟨He.eqO_ok (He.ba h).1, of_decide_eq_true (He.ba h).2⟩
def chM (K : Fr) (x y : Str) (b : Bool) : Bool := decide (PySem.W.exmOne K (.ref (He.ga K x)) (.ref (He.ga K y)) = some b)
theorem chM_ok {K : Fr} {x y : Str} {b : Bool} (h : chM K x y b = true) : PySem.W.exmOne K (.ref (He.ga K x)) (.ref (He.ga K y)) = some b := of_decide_eq_true h
def chK (K : Fr) (x y : Str) (b : Bool) : Bool := decide (PySem.W.kitOne K (.ref (He.ga K x)) (.ref (He.ga K y)) = some b)
theorem chK_ok {K : Fr} {x y : Str} {b : Bool} (h : chK K x y b = true) : PySem.W.kitOne K (.ref (He.ga K x)) (.ref (He.ga K y)) = some b := of_decide_eq_true h
theorem exm_cons {K : Fr} {cls c : Value} {cs : List Value} {b d : Bool} (h : PySem.W.exmOne K cls c = some b) (h2 : PySem.W.exmAny K cls cs = some d) : PySem.W.exmAny K cls (c :: cs) = some (b || d) := by
 unfold PySem.W.exmAny
 rw [h, h2]
theorem pasF {X : Cx} {σ : L2.St} : PassesAt (L2.CX X.prog X.w) X σ (WE W0 σ) := λ _ _ _ _ _ _ ⟨_, _, _, _, _, _, _, _, _, _, _, _, z⟩ => z.elim
def tTry (K : Fr) (W : WX) (tb : WX -> TS) (l : List Hd) : TS := λ D σ H => tb (wTry K W D l) D σ H
theorem ps_tryT {X : Cx} {body : List Stmt} {h₀ : ExceptHandler} {hds : List ExceptHandler} {l : List Hd} {pos : Pos} {tb : WX -> TS} {W : WX} (hs : X.stack = X.env :: X.outer) (hf : X.env.frame = some X.env.locals) (hN : X.N.Nodup) (tk : Takes X W)
   (hb : ∀ (W' : WX) (pn : List (Addr × Obj)) (xe : Value -> Shared -> Prop), Takes (X.tr pn xe) W' -> PassesOwn (model X.prog X.w) X.A X.env xe -> PSs (X.tr pn xe) body (tb W'))
   (hh : HdOk X (h₀ :: hds) l) : PS X (.Try body (h₀ :: hds) [] [] pos) (tTry X.K W tb l) := ps_tryG hs hf hN tk hb hh
end RC

namespace RC
open PySem PySem.Spec PyProof.Rows L2
def seenB (m a : Nat) : Bool := Nat.beq (Nat.land (Nat.shiftRight m a) 1) 1
def addNew {β : Type} : List Addr -> Nat -> List Addr -> (Nat -> List Addr -> β) -> β
 | [], m, acc, k => k m acc
 | a :: as, m, acc, k => match seenB m a with
   | true => addNew as m acc k
   | false => HandSHeadRun.frNat (Nat.lor m (Nat.shiftLeft 1 a)) λ m => addNew as m (a :: acc) k
def growB {β : Type} (g : Addr -> Option Obj) : List Addr -> Nat -> List Addr -> (Nat -> List Addr -> β) -> β
 | [], m, acc, k => k m acc
 | a :: as, m, acc, k => match g a with
   | some o => addNew (He.refsD o) m acc λ m acc => growB g as m acc k
   | none => growB g as m acc k
def levB (g : Addr -> Option Obj) : Nat -> List Addr -> Nat -> List Addr -> List Addr
 | 0, fr, _, all => all ++ fr
 | n + 1, fr, m, all => growB g fr m [] λ m f2 => levB g n f2 m (all ++ fr)
def startsB (g : Addr -> Option Obj) (n : Nat) : List Addr := levB g n [mainGlobals, cStatics] 0 []
def obsB (n : Nat) (fa : List (Fr -> Bool)) (fn : List He.DefD) (g : Addr -> Option Obj) : He.AlD := obsF fa fn (He.frG g (startsB g n))
def hookB (n : Nat) (fa : List (Fr -> Bool)) (fn : List He.DefD) : PySem.W.Hook where
 α := He.AlD
 obs := λ s => obsB n fa fn s.heap.get?
 val := λ _ => He.valD fn
 says := λ _ h => ∃ K : Fr, K.In h /\ SaysF fa fn K
 of := λ _ _ e => ⟨_, He.frG_in, e⟩
 keeps := λ _ _ _ ⟨K, hK, c⟩ k => ⟨K, PySem.W.Frag.In.keeps hK k, c⟩
theorem obsB_eq {n : Nat} {fa : List (Fr -> Bool)} {fn : List He.DefD} {g : Addr -> Option Obj} {s : Shared} (h : ∀ a, g a = s.heap.get? a) : obsB n fa fn g = (hookB n fa fn).obs s := by
 have e : g = s.heap.get? := funext h
 rw [e] <;> rfl
theorem mp3 {α β γ δ : Type} {x : Option α} {f : α -> β} {g : α -> γ} {h : α -> δ} {a : β} {b : γ} {c : δ} (h1 : x.map (λ s => (f s, g s)) = some (a, b)) (h2 : x.map h = some c) : x.map (λ s => (f s, g s, h s)) = some (a, b, c) := by
 cases x with
 | none => cases h1
 | some s =>
   cases h1
   cases h2
   rfl
section
open PySem.W PySem.Calls HandSHeadRun
theorem runEq {r : OpenRow} {q : Program} {H : Hook} {ob : SharedT -> H.α} {M : Nat} {loose : List PySem.Str} {w : World}
   (h1 : ∀ os, (endF (stepQ (denQ tabQ) r.prog w) M r.prog w os).map (λ s => (looksF r.prog (boot_heap w.params) s.abs, seenQ q loose (importedModules r.prog.main.body) (λ s => xlAt q [] s && recOk r.toRowW.records s) s.abs)) = some (true, openGood q loose))
   (h3 : ∀ os, (endF (stepQ (denQ tabQ) r.prog w) M r.prog w os).map (λ s => ob s) = some (H.val w)) : RunEq r q H ob M loose w := λ os => mp3 (h1 os) (h3 os)
end
end RC


namespace RC
open PySem PySem.Spec PyProof.Rows L2
def chY (K : Fr) (x : Str) : Bool := (He.eqO (PySem.W.findIn K (.ref (He.ga K x)) "__class__") (some (some (.builtin "object.__class__"))) && He.eqO (PySem.W.specialIn K (.builtin "object.__class__") "__get__") (some (some (.builtin "getset_descriptor.__get__")))) &&
 (decide (PySem.W.takesIn K (.builtin "object.__class__") = some true) && decide (PySem.W.mroIn K (He.ga K x) (.type "object") = some true))
def chDN (K : Fr) (x : Str) : Bool := (["NoneType", "bool", "int", "str", "list", "tuple", "dict"] : List String).all λ t => decide (PySem.W.kitOne K (.type t) (.ref (He.ga K x)) = some false)
def chMo (K : Fr) (x : Str) : Bool := decide (PySem.W.mroIn K (He.ga K x) (.type "object") = some true)
def chNe (K : Fr) (x : Str) : Bool := (match PySem.W.findIn K (.ref (He.ga K x)) "__ne__" with | some (some (.builtin n)) => decide (n = "object.__ne__") | _ => false)
end RC
namespace RC
open PySem PySem.Spec PyProof.Rows L2
def top (i : Nat) : Stmt := PySem.Challenge.pw_restorechain_k71_rules_told.main.body.getD i (.Pass ⟨0, 0, 0, 0⟩)
def meth (i j : Nat) : Stmt := (clsB (top i)).getD j (.Pass ⟨0, 0, 0, 0⟩)
abbrev s_l_bag : Stmt := top 14
abbrev s_l_alike : Stmt := top 16
abbrev s_Rule_numbers : Stmt := meth 12 3
abbrev s_as_told : Stmt := top 11
abbrev s_is_whole : Stmt := top 4
abbrev s_is_number_of_blocks : Stmt := top 10
abbrev s_Rule___init__ : Stmt := meth 12 0
abbrev s_Rule___repr__ : Stmt := meth 12 2
abbrev s_l_take : Stmt := top 15
abbrev s_l_numbers : Stmt := top 18
abbrev s_l_rule : Stmt := top 19
abbrev s_l_made : Stmt := top 20
abbrev s_Rule___eq__ : Stmt := meth 12 1
abbrev s_l_twins : Stmt := top 23
abbrev s_l_any : Stmt := top 17
abbrev s_l_refused : Stmt := top 21
abbrev s_l_wrong : Stmt := top 22
abbrev s_law : Stmt := top 24
abbrev s_Wrong___init__ : Stmt := meth 2 0
def d_l_bag : He.DefD := ⟨("_law_bag", none), "_law_bag", "_law_bag", defArgs s_l_bag, defBody s_l_bag, defScope s_l_bag, [], []⟩
def d_l_alike : He.DefD := ⟨("_law_alike", none), "_law_alike", "_law_alike", defArgs s_l_alike, defBody s_l_alike, defScope s_l_alike, [], []⟩
def d_Rule_numbers : He.DefD := ⟨("Rule", some "numbers"), "numbers", "Rule.numbers", defArgs s_Rule_numbers, defBody s_Rule_numbers, defScope s_Rule_numbers, [], []⟩
def d_as_told : He.DefD := ⟨("as_told", none), "as_told", "as_told", defArgs s_as_told, defBody s_as_told, defScope s_as_told, [], []⟩
def d_is_whole : He.DefD := ⟨("is_whole", none), "is_whole", "is_whole", defArgs s_is_whole, defBody s_is_whole, defScope s_is_whole, [], []⟩
def d_is_number_of_blocks : He.DefD := ⟨("is_number_of_blocks", none), "is_number_of_blocks", "is_number_of_blocks", defArgs s_is_number_of_blocks, defBody s_is_number_of_blocks, defScope s_is_number_of_blocks, [], []⟩
def d_Rule___init__ : He.DefD := ⟨("Rule", some "__init__"), "__init__", "Rule.__init__", defArgs s_Rule___init__, defBody s_Rule___init__, defScope s_Rule___init__, [], [("last", .int 0), ("days", .int 0), ("weeks", .int 0), ("months", .int 0)]⟩
def d_Rule___repr__ : He.DefD := ⟨("Rule", some "__repr__"), "__repr__", "Rule.__repr__", defArgs s_Rule___repr__, defBody s_Rule___repr__, defScope s_Rule___repr__, [], []⟩
def d_l_take : He.DefD := ⟨("_law_take", none), "_law_take", "_law_take", defArgs s_l_take, defBody s_l_take, defScope s_l_take, [], []⟩
def d_l_numbers : He.DefD := ⟨("_law_numbers", none), "_law_numbers", "_law_numbers", defArgs s_l_numbers, defBody s_l_numbers, defScope s_l_numbers, [], []⟩
def d_l_rule : He.DefD := ⟨("_law_rule", none), "_law_rule", "_law_rule", defArgs s_l_rule, defBody s_l_rule, defScope s_l_rule, [], []⟩
def d_l_made : He.DefD := ⟨("_law_made", none), "_law_made", "_law_made", defArgs s_l_made, defBody s_l_made, defScope s_l_made, [], []⟩
def d_Rule___eq__ : He.DefD := ⟨("Rule", some "__eq__"), "__eq__", "Rule.__eq__", defArgs s_Rule___eq__, defBody s_Rule___eq__, defScope s_Rule___eq__, [], []⟩
def d_l_twins : He.DefD := ⟨("_law_twins", none), "_law_twins", "_law_twins", defArgs s_l_twins, defBody s_l_twins, defScope s_l_twins, [], []⟩
def d_l_any : He.DefD := ⟨("_law_any", none), "_law_any", "_law_any", defArgs s_l_any, defBody s_l_any, defScope s_l_any, [], []⟩
def d_l_refused : He.DefD := ⟨("_law_refused", none), "_law_refused", "_law_refused", defArgs s_l_refused, defBody s_l_refused, defScope s_l_refused, [], []⟩
def d_l_wrong : He.DefD := ⟨("_law_wrong", none), "_law_wrong", "_law_wrong", defArgs s_l_wrong, defBody s_l_wrong, defScope s_l_wrong, [], []⟩
def d_law : He.DefD := ⟨("law", none), "law", "law", defArgs s_law, defBody s_law, defScope s_law, [], []⟩
def d_Wrong___init__ : He.DefD := ⟨("Wrong", some "__init__"), "__init__", "Wrong.__init__", defArgs s_Wrong___init__, defBody s_Wrong___init__, defScope s_Wrong___init__, [], []⟩
def fn0 : List He.DefD := ([d_l_bag, d_l_alike, d_Rule_numbers, d_as_told, d_is_whole, d_is_number_of_blocks, d_Rule___init__, d_Rule___repr__, d_l_take, d_l_numbers, d_l_rule, d_l_made, d_Rule___eq__, d_l_twins, d_l_any, d_l_refused, d_l_wrong, d_law, d_Wrong___init__] : List He.DefD)
def fa0 : List (Fr -> Bool) := ([(λ K => (He.Fa.int "MOST_ASKED" 60).ok K), (λ K => (He.Fa.int "DAY" 24).ok K), (λ K => (He.Fa.int "WEEK" 168).ok K), (λ K => (He.Fa.int "MONTH" 672).ok K), (λ K => (He.Fa.glo "_law_bag").ok K), (λ K => (He.Fa.glo "_law_alike").ok K), (λ K => (He.Fa.glo "as_told").ok K), (λ K => (He.Fa.glo "is_whole").ok K), (λ K => (He.Fa.glo "is_number_of_blocks").ok K), (λ K => (He.Fa.glo "_law_take").ok K), (λ K => (He.Fa.glo "_law_numbers").ok K), (λ K => (He.Fa.glo "_law_rule").ok K), (λ K => (He.Fa.glo "_law_made").ok K), (λ K => (He.Fa.glo "_law_twins").ok K), (λ K => (He.Fa.glo "_law_any").ok K), (λ K => (He.Fa.glo "_law_refused").ok K), (λ K => (He.Fa.glo "_law_wrong").ok K), (λ K => (He.Fa.glo "law").ok K), (λ K => (He.Fa.glo "Wrong").ok K), (λ K => (He.Fa.glo "Rule").ok K), (λ K => (He.Fa.glo "StoreError").ok K), (λ K => (He.Fa.cls "Rule").ok K), (λ K => (He.Fa.mkr "Rule").ok K), (λ K => (He.Fa.noat "Rule" "asked_of").ok K), (λ K => (He.Fa.meth "Rule" "numbers").ok K), (λ K => (He.Fa.meth "Rule" "__repr__").ok K), (λ K => (He.Fa.meth "Rule" "__eq__").ok K), (λ K => chB K "Wrong" (tlB "ValueError") "ValueError.__new__"), (λ K => chF K "Wrong"), (λ K => chC K "Wrong")] : List (Fr -> Bool)) ++ ([(λ K => chN K "Wrong" "at"), (λ K => chI K "StoreError" "ValueError.__init__"), (λ K => chM K "Wrong" "Wrong" true), (λ K => chY K "Rule"), (λ K => chK K "Rule" "Rule" true), (λ K => chDN K "Rule"), (λ K => chMo K "Rule"), (λ K => chNe K "Rule"), (λ K => (He.Fa.free "abs").ok K), (λ K => (He.Fa.free "repr").ok K), (λ K => (He.Fa.free "isinstance").ok K), (λ K => (He.Fa.free "int").ok K), (λ K => (He.Fa.free "bool").ok K), (λ K => (He.Fa.free "zip").ok K), (λ K => (He.Fa.free "len").ok K), (λ K => (He.Fa.free "range").ok K), (λ K => (He.Fa.free "tuple").ok K), (λ K => (He.Fa.free "list").ok K), (λ K => (He.Fa.free "min").ok K), (λ K => (He.Fa.free "all").ok K)] : List (Fr -> Bool))
def fn : List He.DefD := fn0
def fa : List (Fr -> Bool) := fa0
def names : List Str := (["StoreError", "Wrong", "is_whole", "DAY", "WEEK", "MONTH", "MOST_ASKED", "is_number_of_blocks", "as_told", "Rule", "_law_bag", "_law_take", "_law_alike", "_law_any", "_law_numbers", "_law_rule", "_law_made", "_law_refused", "_law_wrong", "_law_twins"] : List Str)
abbrev R : PySem.W.OpenRow := PySem.W.OpenLaw.row PySem.Challenge.rw_restorechain_k71_rules_told
abbrev hk : PySem.W.Hook := hookB 5 fa fn
def ob (s : PySem.W.SharedT) : He.AlD := obsB 5 fa fn (HandSHeadRun.getT s)
theorem ob_eq (s : PySem.W.SharedT) : ob s = hk.obs s.abs := obsB_eq (HandSHeadRun.getT_eq s)
section
open PySem.W PySem.Calls HandSHeadRun
theorem runL (w : World) (os : OsState) : (endF (stepQ (denQ tabQ) R.prog w) 4000 R.prog w os).map (λ s => (looksF R.prog (boot_heap w.params) s.abs, seenQ (view R.prog [24]) names (importedModules R.prog.main.body) (λ s => xlAt (view R.prog [24]) [] s && recOk R.toRowW.records s) s.abs)) = some (true, openGood (view R.prog [24]) names) := by kernel_rfl
theorem runO0 (w : World) (os : OsState) : (endF (stepQ (denQ tabQ) R.prog w) 4000 R.prog w os).map (λ s => obsB 5 fa0 fn0 (getT s)) = some (He.valD fn0) := by kernel_rfl
theorem runO (w : World) (os : OsState) : (endF (stepQ (denQ tabQ) R.prog w) 4000 R.prog w os).map (λ s => ob s) = some (hk.val w) := runO0 w os
theorem run (w : World) : RunEq R (view R.prog [24]) hk ob 4000 names w := runEq (runL w) (runO w)
end
end RC
namespace RC
open PySem PySem.Spec PyProof.Rows L2
section
variable {K : Fr} {σ : L2.St} {H : Hp} {Q : VK} {D : Ends} {Rs : List Res} {E : XK} {W : WX} {sp : Sp} {dvs : List V} {t : TA} {ta te tb tc : TE} {C a : Addr} {m f : Str} {v : V}
theorem g_callW (k : t σ H λ vs H1 => sp (vs ++ dvs) H1 Q (WE W σ)) : tCallW W sp dvs t σ H Q := k
def MethK (W : WX) (C : Addr) (m : Str) (sp : Sp) (dvs : List V) (t : TA) (σ : L2.St) (Q : VK) : VK := λ x H1 => ∃ a dx fs, x = .ref a /\ H1 a = some (.ins C dx fs) /\ fs.lookup m = none /\ t σ H1 λ vs H2 => sp (x :: (vs ++ dvs)) H2 Q (WE W σ)
theorem g_meth (k : ta σ H (MethK W C m sp dvs t σ Q)) : tMethW W C m sp dvs ta t σ H Q := k
theorem v_meth {dx : Addr} {fs : List (Str × V)} (h : H a = some (.ins C dx fs)) (l : fs.lookup m = none) (k : t σ H λ vs H2 => sp (.ref a :: (vs ++ dvs)) H2 Q (WE W σ)) : MethK W C m sp dvs t σ Q (.ref a) H := ⟨a, dx, fs, rfl, h, l, k⟩
def MakeK (W : WX) (C : Addr) (sp : Sp) (dvs : List V) (σ : L2.St) (Q : VK) : List V -> Hp -> Prop := λ vs H1 => ∀ x dx, H1 x = none -> H1 dx = none -> dx ≠ x -> sp (.ref x :: (vs ++ dvs)) (upd (upd H1 dx (.own x)) x (.ins C dx [])) (λ v H2 => v = .non /\ Q (.ref x) H2) (WE W σ)
theorem g_make (k : t σ H (MakeK W C sp dvs σ Q)) : tMakeW W C sp dvs t σ H Q := k
theorem v_make {vs : List V} (S : M Rs H) (k : ∀ x dx H', M (pt x (.ins C dx []) :: pt dx (.own x) :: Rs) H' -> sp (.ref x :: (vs ++ dvs)) H' (λ v H2 => v = .non /\ Q (.ref x) H2) (WE W σ)) : MakeK W C sp dvs σ Q vs H := by
 intro x dx hx hdx hne
 exact k x dx _ ((S.new hdx).new (by rw [upd_ne (λ z => hne z.symm)]; exact hx))
def FldK (K : Fr) (f : Str) (Q : VK) : VK := λ x H1 => ∃ a C dx fs v, x = .ref a /\ H1 a = some (.ins C dx fs) /\ Cls K C /\ NoAttr K C f /\ fs.lookup f = some v /\ Q v H1
theorem g_fld (k : ta σ H (FldK K f Q)) : tFld K ta f σ H Q := k
theorem v_fld {dx : Addr} {fs : List (Str × V)} (h : H a = some (.ins C dx fs)) (c : Cls K C) (n : NoAttr K C f) (l : fs.lookup f = some v) (k : Q v H) : FldK K f Q (.ref a) H := ⟨a, C, dx, fs, v, rfl, h, c, n, l, k⟩
def SFldK (K : Fr) (f : Str) (y : V) (σ : L2.St) (D : Ends) : VK := λ x H2 => ∃ a C dx fs, x = .ref a /\ H2 a = some (.ins C dx fs) /\ Cls K C /\ NoAttr K C f /\ fs.length < 1000 /\ D.nx σ (upd H2 a (.ins C dx (putF f y fs)))
theorem g_sfld (k : te σ H λ y H1 => ta σ H1 (SFldK K f y σ D)) : sFld K ta te f D σ H := k
theorem v_sfld {dx : Addr} {fs : List (Str × V)} {y : V} (S : M Rs H) (i : Nat) (e : Rs[i]? = some (pt a (.ins C dx fs))) (c : Cls K C) (n : NoAttr K C f) (l : fs.length < 1000) (k : ∀ H', M (Rs.set i (pt a (.ins C dx (putF f y fs)))) H' -> D.nx σ H') : SFldK K f y σ D (.ref a) H :=
 ⟨a, C, dx, fs, rfl, S.got i e, c, n, l, k _ (S.putAt i e)⟩
def RzK (W : WX) (C : Addr) (f : Str) (σ : L2.St) : VK := λ v H1 => ∀ d, H1 d = none -> W (.ref C) (some d) σ (upd H1 d (.xd [(f, v)]))
theorem g_rz (k : te σ H (RzK W C f σ)) : tRz W C f te D σ H := k
theorem v_rz (S : M Rs H) (k : ∀ d H', M (pt d (.xd [(f, v)]) :: Rs) H' -> W (.ref C) (some d) σ H') : RzK W C f σ v H := λ d hd => k d _ (S.new hd)
theorem v_dnew (S : M Rs H) (k : ∀ d H', M (pt d (.dK []) :: Rs) H' -> Q (.ref d) H') : tDNewK σ H Q := λ d hd => k d _ (S.new hd)
def Pop1K (ty : TE) (σ : L2.St) (Q : VK) : VK := λ x H1 => ∃ a, x = .ref a /\ IsD H1 a /\ ty σ H1 λ y H2 => ∃ kvs k v, H2 a = some (.dK kvs) /\ y = kV k /\ valV kvs k = some v /\ Q v (upd H2 a (.dK (dropK kvs k)))
theorem g_dpop (k : ta σ H (Pop1K tb σ Q)) : tDPop1 ta tb σ H Q := k
theorem v_isi {x : V} {ty : Value} {c : String} {b : Bool} (h : TyX K H x ty) (e : PySem.W.kitOne K ty (.type c) = some b) (k : Q (.bl b) H) : rIsi K [x, .ty c] H Q := ⟨x, .ty c, ty, _, b, rfl, .ty c, h, e, k⟩
theorem g_callE {cls : Value} {d : Option Addr} {sp : Addr -> Value -> Option Addr -> Hp -> VK -> Prop} (k : te σ H λ x H1 => x = .ref a /\ sp a cls d H1 Q) : tCallE a cls d sp te σ H Q := k
theorem g_xg {cls : Value} {d : Option Addr} {n : Str} (k : te σ H λ x H1 => x = .ref a /\ ∃ D dd fs v, cls = .ref D /\ ExcC K D /\ PySem.W.findIn K (.ref D) n = some none /\ d = some dd /\ H1 dd = some (.xd fs) /\ fs.lookup n = some v /\ Q v H1) : tXg K a cls d n te σ H Q := k
theorem v_xg {D dd : Addr} {fs : List (Str × V)} {n : Str} (c : ExcC K D) (hn : PySem.W.findIn K (.ref D) n = some none) (h : H dd = some (.xd fs)) (l : fs.lookup n = some v) (k : Q v H) :
   V.ref a = .ref a /\ ∃ D' dd' fs' v', Value.ref D = .ref D' /\ ExcC K D' /\ PySem.W.findIn K (.ref D') n = some none /\ some dd = some dd' /\ H dd' = some (.xd fs') /\ fs'.lookup n = some v' /\ Q v' H := ⟨rfl, D, dd, fs, v, rfl, c, hn, rfl, h, l, k⟩
theorem g_try {tb : WX -> TS} {l : List Hd} (k : tb (wTry K W D l) D σ H) : tTry K W tb l D σ H := k
end
theorem Ent.tl {Rs : List Res} {R : Res} {φ : Hp -> Prop} (h : Ent Rs φ) : Ent (R :: Rs) φ := λ H S => h H S.tl
theorem Ent.imp {Rs : List Res} {φ ψ : Hp -> Prop} (h : Ent Rs φ) (i : ∀ H, φ H -> ψ H) : Ent Rs ψ := λ H S => i H (h H S)
end RC

namespace RC
open PySem PySem.Spec PyProof.Rows L2
end RC

namespace RC
open PySem PySem.Spec PyProof.Rows L2
def kD : Key -> PyData
 | .inl i => .int i
 | .inr x => .str x
mutual
inductive Dq (K : Fr) (H : Hp) : V -> PyData -> Prop
 | non : Dq K H .non .none
 | bl (b : Bool) : Dq K H (.bl b) (.bool b)
 | int (i : Int) : Dq K H (.int i) (.int i)
 | str (x : Str) : Dq K H (.str x) (.str x)
 | lst {a : Addr} {vs : List V} {ds : List PyData} (h : SqL K H a vs) (q : DqAll K H vs ds) : Dq K H (.ref a) (.list ds)
 | tup {a : Addr} {vs : List V} {ds : List PyData} (h : SqT K H a vs) (q : DqAll K H vs ds) : Dq K H (.ref a) (.tuple ds)
 | dct {a : Addr} {od : Obj} {kvs : List (Key × V)} {ds : List (PyData × PyData)} (h : H a = some (.frz od (.dK kvs))) (q : DqKv K H kvs ds) : Dq K H (.ref a) (.dict ds)
inductive DqAll (K : Fr) (H : Hp) : List V -> List PyData -> Prop
 | nil : DqAll K H [] []
 | cons {v : V} {vs : List V} {d : PyData} {ds : List PyData} (h : Dq K H v d) (r : DqAll K H vs ds) : DqAll K H (v :: vs) (d :: ds)
inductive DqKv (K : Fr) (H : Hp) : List (Key × V) -> List (PyData × PyData) -> Prop
 | nil : DqKv K H [] []
 | cons {k : Key} {v : V} {vs : List (Key × V)} {d : PyData} {ds : List (PyData × PyData)} (h : Dq K H v d) (r : DqKv K H vs ds) : DqKv K H ((k, v) :: vs) ((kD k, d) :: ds)
end
mutual
theorem Dq_ext {K : Fr} {H H' : Hp} (e : Ext H H') : ∀ {v : V} {d : PyData}, Dq K H v d -> Dq K H' v d
 | _, _, .non => .non
 | _, _, .bl b => .bl b
 | _, _, .int i => .int i
 | _, _, .str x => .str x
 | _, _, .lst h q => .lst (e.sqL h) (DqAll_ext e q)
 | _, _, .tup h q => .tup (e.sqT h) (DqAll_ext e q)
 | _, _, .dct h q => .dct (e _ _ h) (DqKv_ext e q)
theorem DqAll_ext {K : Fr} {H H' : Hp} (e : Ext H H') : ∀ {vs : List V} {ds : List PyData}, DqAll K H vs ds -> DqAll K H' vs ds
 | _, _, .nil => .nil
 | _, _, .cons h r => .cons (Dq_ext e h) (DqAll_ext e r)
theorem DqKv_ext {K : Fr} {H H' : Hp} (e : Ext H H') : ∀ {vs : List (Key × V)} {ds : List (PyData × PyData)}, DqKv K H vs ds -> DqKv K H' vs ds
 | _, _, .nil => .nil
 | _, _, .cons h r => .cons (Dq_ext e h) (DqKv_ext e r)
end
mutual
theorem Dq.dp {K : Fr} {H : Hp} : ∀ {v : V} {d : PyData}, Dq K H v d -> d.hasDict = false -> Dp K H v d
 | _, _, .non, _ => .non
 | _, _, .bl b, _ => .bl b
 | _, _, .int i, _ => .int i
 | _, _, .str x, _ => .str x
 | _, _, .lst h q, n => .lst h (DqAll.dp q (by simpa only [PyData.hasDict] using n))
 | _, _, .tup h q, n => .tup h (DqAll.dp q (by simpa only [PyData.hasDict] using n))
 | _, _, .dct h q, n => by simp [PyData.hasDict] at n
theorem DqAll.dp {K : Fr} {H : Hp} : ∀ {vs : List V} {ds : List PyData}, DqAll K H vs ds -> PyData.hasDictAll ds = false -> DpAll K H vs ds
 | _, _, .nil, _ => .nil
 | _, _, .cons h r, n => by
   simp only [PyData.hasDictAll, Bool.or_eq_false_iff] at n
   exact .cons (Dq.dp h n.1) (DqAll.dp r n.2)
end
mutual
theorem Dp.dq {K : Fr} {H : Hp} : ∀ {v : V} {d : PyData}, Dp K H v d -> Dq K H v d
 | _, _, .non => .non
 | _, _, .bl b => .bl b
 | _, _, .int i => .int i
 | _, _, .str x => .str x
 | _, _, .lst h q => .lst h (DpAll.dq q)
 | _, _, .tup h q => .tup h (DpAll.dq q)
theorem DpAll.dq {K : Fr} {H : Hp} : ∀ {vs : List V} {ds : List PyData}, DpAll K H vs ds -> DqAll K H vs ds
 | _, _, .nil => .nil
 | _, _, .cons h r => .cons (Dp.dq h) (DpAll.dq r)
end
mutual
inductive Dn (K : Fr) (H : Hp) : V -> PyData -> Prop
 | non : Dn K H .non .none
 | bl (b : Bool) : Dn K H (.bl b) (.bool b)
 | int (i : Int) : Dn K H (.int i) (.int i)
 | str (x : Str) : Dn K H (.str x) (.str x)
 | lst {a : Addr} {vs : List V} {ds : List PyData} (h : SqL K H a vs) (q : DnAll K H vs ds) : Dn K H (.ref a) (.list ds)
 | tup {a : Addr} {vs : List V} {ds : List PyData} (h : SqT K H a vs) (q : DnAll K H vs ds) : Dn K H (.ref a) (.tuple ds)
 | dct {a : Addr} {kvs : List (Key × V)} {ds : List (PyData × PyData)} (h : Rd H a (.dK kvs)) (q : DnKv K H kvs ds) : Dn K H (.ref a) (.dict ds)
inductive DnAll (K : Fr) (H : Hp) : List V -> List PyData -> Prop
 | nil : DnAll K H [] []
 | cons {v : V} {vs : List V} {d : PyData} {ds : List PyData} (h : Dn K H v d) (r : DnAll K H vs ds) : DnAll K H (v :: vs) (d :: ds)
inductive DnKv (K : Fr) (H : Hp) : List (Key × V) -> List (PyData × PyData) -> Prop
 | nil : DnKv K H [] []
 | cons {k : Key} {v : V} {vs : List (Key × V)} {d : PyData} {ds : List (PyData × PyData)} (h : Dn K H v d) (r : DnKv K H vs ds) : DnKv K H ((k, v) :: vs) ((kD k, d) :: ds)
end
mutual
theorem Dq.dn {K : Fr} {H : Hp} : ∀ {v : V} {d : PyData}, Dq K H v d -> Dn K H v d
 | _, _, .non => .non
 | _, _, .bl b => .bl b
 | _, _, .int i => .int i
 | _, _, .str x => .str x
 | _, _, .lst h q => .lst h (DqAll.dn q)
 | _, _, .tup h q => .tup h (DqAll.dn q)
 | _, _, .dct h q => .dct (.inr ⟨_, h⟩) (DqKv.dn q)
theorem DqAll.dn {K : Fr} {H : Hp} : ∀ {vs : List V} {ds : List PyData}, DqAll K H vs ds -> DnAll K H vs ds
 | _, _, .nil => .nil
 | _, _, .cons h r => .cons (Dq.dn h) (DqAll.dn r)
theorem DqKv.dn {K : Fr} {H : Hp} : ∀ {vs : List (Key × V)} {ds : List (PyData × PyData)}, DqKv K H vs ds -> DnKv K H vs ds
 | _, _, .nil => .nil
 | _, _, .cons h r => .cons (Dq.dn h) (DqKv.dn r)
end
mutual
theorem Dn.dp {K : Fr} {H : Hp} : ∀ {v : V} {d : PyData}, Dn K H v d -> d.hasDict = false -> Dp K H v d
 | _, _, .non, _ => .non
 | _, _, .bl b, _ => .bl b
 | _, _, .int i, _ => .int i
 | _, _, .str x, _ => .str x
 | _, _, .lst h q, n => .lst h (DnAll.dp q (by simpa only [PyData.hasDict] using n))
 | _, _, .tup h q, n => .tup h (DnAll.dp q (by simpa only [PyData.hasDict] using n))
 | _, _, .dct h q, n => by simp [PyData.hasDict] at n
theorem DnAll.dp {K : Fr} {H : Hp} : ∀ {vs : List V} {ds : List PyData}, DnAll K H vs ds -> PyData.hasDictAll ds = false -> DpAll K H vs ds
 | _, _, .nil, _ => .nil
 | _, _, .cons h r, n => by
   simp only [PyData.hasDictAll, Bool.or_eq_false_iff] at n
   exact .cons (Dn.dp h n.1) (DnAll.dp r n.2)
end
abbrev eI : Int -> PyData := PyData.int
abbrev eB : Bool -> PyData := PyData.bool
abbrev eS : Str -> PyData := PyData.str
abbrev eN : Unit -> PyData := λ _ => PyData.none
abbrev eA : PyData -> PyData := id
def eL {α : Type} (e : α -> PyData) (xs : List α) : PyData := .list (xs.map e)
def eV {α : Type} (e : α -> PyData) (xs : List α) : PyData := .tuple (xs.map e)
def eT3 {α β γ : Type} (e : α -> PyData) (f : β -> PyData) (g : γ -> PyData) (x : α × β × γ) : PyData := .tuple [e x.1, f x.2.1, g x.2.2]
def eT4 {α β γ δ : Type} (e : α -> PyData) (f : β -> PyData) (g : γ -> PyData) (h : δ -> PyData) (x : α × β × γ × δ) : PyData := .tuple [e x.1, f x.2.1, g x.2.2.1, h x.2.2.2]
abbrev iS : Str -> Key := Sum.inr
def eD {κ α : Type} (ik : κ -> Key) (e : α -> PyData) (m : List (κ × α)) : PyData := .dict (m.map λ p => (kD (ik p.1), e p.2))
def da (K : Fr) (v : V) (d : PyData) : Res := ⟨λ F l => l = [] /\ Dq K F v d, λ _ _ _ e h => ⟨h.1, Dq_ext e h.2⟩⟩
def daA (K : Fr) (vs : List V) (ds : List PyData) : Res := ⟨λ F l => l = [] /\ DqAll K F vs ds, λ _ _ _ e h => ⟨h.1, DqAll_ext e h.2⟩⟩
def EnF (Rs : List Res) (φ : Hp -> Prop) : Prop := ∀ F L, Sat F Rs L -> φ F
theorem Sat.get {F : Hp} : ∀ {Rs : List Res} {L : List Cell} (i : Nat) {R : Res}, Sat F Rs L -> Rs[i]? = some R -> ∃ l, R.on F l
 | [], L, i, R, _, e => by simp at e
 | S :: Rs, L, 0, R, ⟨l1, l2, _, a, _⟩, e => by
   have e : S = R := Option.some.inj e
   subst e
   exact ⟨l1, a⟩
 | S :: Rs, L, i + 1, R, ⟨l1, l2, _, _, b⟩, e => Sat.get i b (by simpa using e)
section
variable {K : Fr} {Rs R0 : List Res} {H : Hp} {v : V} {d : PyData} {vs : List V} {ds : List PyData} {φ ψ : Hp -> Prop}
theorem M.gotA (S : M Rs H) (i : Nat) (e : Rs[i]? = some (da K v d)) : Dq K H v d := by
 obtain ⟨F, L, s, m⟩ := S
 obtain ⟨l, h⟩ := s.get i e
 exact Dq_ext m.ex h.2
theorem EnF.at (i : Nat) (e : Rs[i]? = some (da K v d)) : EnF Rs (λ F => Dq K F v d) := λ F L s => by
 obtain ⟨l, h⟩ := s.get i e
 exact h.2
theorem EnF.all (h : ∀ F, φ F) : EnF Rs φ := λ F _ _ => h F
theorem EnF.imp (h : EnF Rs φ) (k : ∀ F, φ F -> ψ F) : EnF Rs ψ := λ F L s => k F (h F L s)
theorem EnF.tl {R : Res} (h : EnF Rs φ) : EnF (R :: Rs) φ := λ F L ⟨_, l2, _, _, b⟩ => h F l2 b
theorem EnF.nilA : EnF Rs (λ F => DqAll K F [] []) := λ _ _ _ => .nil
theorem EnF.consA (h : EnF Rs (λ F => Dq K F v d)) (r : EnF Rs (λ F => DqAll K F vs ds)) : EnF Rs (λ F => DqAll K F (v :: vs) (d :: ds)) := λ F L s => .cons (h F L s) (r F L s)
theorem M.of (S : M Rs H) (h : EnF Rs φ) (mono : ∀ F, Ext F H -> φ F -> ψ H) : ψ H := by
 obtain ⟨F, L, s, m⟩ := S
 exact mono F m.ex (h F L s)
theorem M.dq (S : M Rs H) (h : EnF Rs (λ F => Dq K F v d)) : Dq K H v d := by
 obtain ⟨F, L, s, m⟩ := S
 exact Dq_ext m.ex (h F L s)
theorem M.addA (S : M Rs H) (h : EnF Rs (λ F => Dq K F v d)) : M (da K v d :: Rs) H := by
 obtain ⟨F, L, s, m⟩ := S
 exact ⟨F, L, ⟨[], L, rfl, ⟨rfl, h F L s⟩, s⟩, m⟩
end
end RC

namespace RC
open PySem PySem.Spec PyProof.Rows L2
def forD {α β : Type} (f : α -> β -> (β -> Prop) -> Prop) : List α -> β -> (β -> Prop) -> Prop
 | [], s, k => k s
 | x :: xs, s, k => f x s λ s' => forD f xs s' k
def lcD {α β : Type} (f : α -> (Option β -> Prop) -> Prop) : List α -> List β -> (List β -> Prop) -> Prop
 | [], acc, k => k acc
 | x :: xs, acc, k => f x λ y => lcD f xs (acc ++ y.toList) k
def jn {β : Type} (m : (β -> Prop) -> Prop) (k : β -> Prop) : Prop := m k
abbrev cat {α : Type} (xs ys : List α) : List α := xs ++ ys
def takeD (n : Int) (k : Int -> Prop) : Prop := (0 < n /\ n < 2 ^ 62) /\ ∀ v, 0 <= v -> v < n -> k v
def rng (n : Int) : List Int := (List.range n.toNat).map λ i => (0 : Int) + (i : Nat)
def cutL {α : Type} (xs : List α) (lo hi : Option Int) : List α := (xs.drop (HT.sIx xs.length 0 lo)).take (HT.sIx xs.length xs.length hi - HT.sIx xs.length 0 lo)
section
variable {K : Fr} {σ : L2.St} {H : Hp} {Q : VK} {D : Ends} {Rs : List Res} {E : XK} {t u : TS} {α β : Type}
theorem v_iff {b : Bool} {A B X Y : Prop} (hf : if b = true then X else Y) (h1 : b = true -> X -> A) (h2 : b = false -> Y -> B) : if b = true then A else B := by
 cases b with
 | true => exact h1 rfl (by simpa using hf)
 | false => exact h2 rfl (by simpa using hf)
theorem jn_cut {m : (β -> Prop) -> Prop} {KK : β -> Prop} (hf : jn m KK) (Inv : β -> L2.St -> Hp -> Prop)
   (h1 : ∀ (kk : β -> Prop) (N : L2.St -> Hp -> Prop), (∀ s σ H, kk s -> Inv s σ H -> N σ H) -> m kk -> t ⟨N, D.rt, D.bk, D.ct⟩ σ H)
   (h2 : ∀ s σ H, KK s -> Inv s σ H -> u D σ H) : tSeq t u D σ H := h1 KK (u D) h2 hf
theorem M.openQ {v : V} {ds : List PyData} (S : M (da K v (.list ds) :: Rs) H) : ∃ a vs, v = .ref a /\ M (rdL K a vs :: daA K vs ds :: Rs) H := by
 obtain ⟨F, L, ⟨l1, l2, rfl, ⟨rfl, e⟩, b⟩, m⟩ := S
 cases e with
 | lst h1 h2 => exact ⟨_, _, rfl, F, l2, ⟨[], l2, rfl, ⟨rfl, h1⟩, [], l2, rfl, ⟨rfl, h2⟩, b⟩, m⟩
theorem DqAll.len : ∀ {vs : List V} {ds : List PyData}, DqAll K H vs ds -> vs.length = ds.length
 | _, _, .nil => rfl
 | _, _, .cons _ r => by rw [List.length_cons, List.length_cons, DqAll.len r]
theorem DqAll.at : ∀ {vs : List V} {ds : List PyData}, DqAll K H vs ds -> ∀ {i : Nat} {v : V} {d : PyData}, vs[i]? = some v -> ds[i]? = some d -> Dq K H v d
 | _, _, .nil, i, v, d, h, _ => by simp at h
 | _, _, .cons a r, 0, v, d, h, g => by
   cases (Option.some.inj (show some _ = some v from h))
   cases (Option.some.inj (show some _ = some d from g))
   exact a
 | _, _, .cons a r, i + 1, v, d, h, g => DqAll.at r (by simpa using h) (by simpa using g)
theorem M.gotAA {vs : List V} {ds : List PyData} (S : M Rs H) (i : Nat) (e : Rs[i]? = some (daA K vs ds)) : DqAll K H vs ds := by
 obtain ⟨F, L, s, m⟩ := S
 obtain ⟨l, h⟩ := s.get i e
 exact DqAll_ext m.ex h.2
theorem M.elA {e : α -> PyData} {vs : List V} {xs : List α} {i : Nat} {v : V} {x : α} (S : M Rs H) (j : Nat) (hj : Rs[j]? = some (daA K vs (xs.map e))) (hv : vs[i]? = some v) (hx : xs[i]? = some x) : M (da K v (e x) :: Rs) H :=
 S.addA λ F L s => by
   obtain ⟨l, h⟩ := s.get j hj
   exact h.2.at hv (by rw [List.getElem?_map, hx]; rfl)
theorem for_lst {F : α -> β -> (β -> Prop) -> Prop} {e : α -> PyData} {xs : List α} {vs : List V} {s0 : β} {KK : β -> Prop} {a : Addr} {g : TG} {tb : TS} (hf : forD F xs s0 KK) (Inv : β -> L2.St -> Hp -> Prop) (h0 : Inv s0 σ H)
   (hrd : ∀ s σ H, Inv s σ H -> SqL K H a vs /\ DqAll K H vs (xs.map e))
   (hs : ∀ (i : Nat) v x s σ H (kk : β -> Prop), Inv s σ H -> vs[i]? = some v -> xs[i]? = some x -> F x s kk -> g v σ H λ σ2 H2 => tb ⟨λ σ H => ∃ s', kk s' /\ Inv s' σ H, D.rt, D.nx, λ σ H => ∃ s', kk s' /\ Inv s' σ H⟩ σ2 H2)
   (hd : ∀ s σ H, KK s -> Inv s σ H -> D.nx σ H) : ForW (Itl K a) g tb D σ H := by
 have hl : vs.length = xs.length := by
   have := (hrd s0 σ H h0).2.len
   rwa [List.length_map] at this
 refine for_W walk_list (λ i σ H => ∃ s, forD F (xs.drop i) s KK /\ Inv s σ H) ⟨s0, by simpa using hf, h0⟩ (λ i σ H _ ⟨s, _, h⟩ => (hrd s σ H h).1) ?_ ?_
 · rintro i v σ H H' hi ⟨s, hf, h⟩ ⟨rfl, hv⟩
   have hi2 : i < xs.length := by omega
   rw [List.drop_eq_getElem_cons hi2] at hf
   exact hs i v _ s σ H' _ h hv (List.getElem?_eq_getElem hi2) hf
 · rintro σ H ⟨s, hf, h⟩
   rw [hl, List.drop_length] at hf
   exact hd s σ H hf h
theorem rng_len (n : Int) : (rng n).length = n.toNat := by simp [rng]
theorem rng_get {n : Int} {i : Nat} (h : i < n.toNat) : (rng n)[i]? = some ((0 : Int) + (i : Nat)) := by
 unfold rng
 rw [List.getElem?_map, List.getElem?_range h]
 rfl
theorem for_rng {F : Int -> β -> (β -> Prop) -> Prop} {n : Int} {s0 : β} {KK : β -> Prop} {g : TG} {tb : TS} (hf : forD F (rng n) s0 KK) (Inv : β -> L2.St -> Hp -> Prop) (h0 : Inv s0 σ H)
   (hs : ∀ x s σ H (kk : β -> Prop), Inv s σ H -> F x s kk -> g (.int x) σ H λ σ2 H2 => tb ⟨λ σ H => ∃ s', kk s' /\ Inv s' σ H, D.rt, D.nx, λ σ H => ∃ s', kk s' /\ Inv s' σ H⟩ σ2 H2)
   (hd : ∀ s σ H, KK s -> Inv s σ H -> D.nx σ H) : ForW (Itr 0 n.toNat) g tb D σ H := by
 refine for_W walk_range (λ i σ H => ∃ s, forD F ((rng n).drop i) s KK /\ Inv s σ H) ⟨s0, by simpa using hf, h0⟩ (λ _ _ _ _ _ => trivial) ?_ ?_
 · rintro i v σ H H' hi ⟨s, hf, h⟩ ⟨rfl, rfl⟩
   have hi2 : i < (rng n).length := by rw [rng_len]; exact hi
   rw [List.drop_eq_getElem_cons hi2] at hf
   have e : (rng n)[i] = (0 : Int) + (i : Nat) := Option.some.inj ((List.getElem?_eq_getElem hi2).symm.trans (rng_get hi))
   rw [e] at hf
   exact hs _ s σ H' _ h hf
 · rintro σ H ⟨s, hf, h⟩
   rw [<- rng_len, List.drop_length] at hf
   exact hd s σ H hf h
def acR (K : Fr) (E : Addr) (ds : List PyData) : Res := exi λ vs => sp2 (pt E (.lst vs)) (daA K vs ds)
theorem acR_nil {E : Addr} (S : M (pt E (.lst []) :: Rs) H) : M (acR K E [] :: Rs) H := by
 obtain ⟨F, L, ⟨l1, l2, rfl, a, b⟩, m⟩ := S
 exact ⟨F, _, ⟨l1, l2, rfl, ⟨[], l1, [], by simp, a, rfl, .nil⟩, b⟩, m⟩
theorem acR_fix {E : Addr} {ds : List PyData} (S : M (acR K E ds :: Rs) H) : M (da K (.ref E) (.list ds) :: Rs) H := by
 obtain ⟨vs, S⟩ := S.ex
 obtain ⟨F, L, ⟨l1, l2, rfl, ⟨rfl, fp⟩, l3, l4, rfl, ⟨rfl, q⟩, b⟩, m⟩ := S.sp.fix
 exact ⟨F, l4, ⟨[], l4, rfl, ⟨rfl, .lst (.inl (.inl fp)) q⟩, b⟩, m⟩
theorem DqAll.snoc {v : V} {d : PyData} (h : Dq K H v d) : ∀ {vs : List V} {ds : List PyData}, DqAll K H vs ds -> DqAll K H (vs ++ [v]) (ds ++ [d])
 | _, _, .nil => .cons h .nil
 | _, _, .cons a r => .cons a (DqAll.snoc h r)
theorem acR_put {N : Hp -> Prop} {E : Addr} {ds : List PyData} {y : V} {d : PyData} (S : M Rs H) (j : Nat) (hj : Rs[j]? = some (acR K E ds)) (h : EnF Rs (λ F => Dq K F y d)) (hz : ds.length < 100000) (k : ∀ H', M (acR K E (ds ++ [d]) :: Rs.eraseIdx j) H' -> N H') : LcK N E y H := by
 have S0 : M (da K y d :: Rs) H := S.addA h
 have S1 : M (acR K E ds :: da K y d :: Rs.eraseIdx j) H := (S0.at (j + 1) (by simpa using hj))
 obtain ⟨vs, S2⟩ := S1.ex
 have S3 := S2.sp
 have hl : vs.length = ds.length := (S3.gotAA 1 rfl).len
 refine ⟨vs, S3.got 0 rfl, Nat.lt_of_lt_of_le (by rw [hl]; exact hz) (by decide), k _ ?_⟩
 have S4 := S3.putAt (o' := .lst (vs ++ [y])) 0 rfl
 obtain ⟨F, L, ⟨l1, l2, rfl, a, l3, l4, rfl, ⟨rfl, q⟩, l5, l6, rfl, ⟨rfl, q2⟩, b⟩, m⟩ := S4
 exact ⟨F, _, ⟨l1, l6, by simp, ⟨vs ++ [y], l1, [], by simp, a, rfl, DqAll.snoc q2 q⟩, b⟩, m⟩
theorem lc_rng {te : TE} {tt : TT} {g : TG} {ws : List Nat} {F : Int -> (Option β -> Prop) -> Prop} {e' : β -> PyData} {n : Int} {KK : List β -> Prop} (hf : (rng n).length <= 100000 /\ lcD F (rng n) [] KK) (S : M Rs H)
   (hs : ∀ x (acc : List β) E H (kk : Option β -> Prop) (N : Hp -> Prop), (acc.map e').length < 100000 -> M (acR K E (acc.map e') :: Rs) H -> F x kk ->
     (∀ y H, kk (some y) -> M (acR K E (acc.map e' ++ [e' y]) :: Rs) H -> N H) -> (∀ H, kk none -> M (acR K E (acc.map e') :: Rs) H -> N H) -> g (.int x) (wipe σ ws) H λ σ2 H2 => wipe σ2 ws = wipe σ ws /\ tt σ2 H2 λ b H3 =>
     if b = true then te σ2 H3 (LcK N E) else N H3)
   (hd : ∀ E (acc : List β) H, KK acc -> M (acR K E (acc.map e') :: Rs) H -> Q (.ref E) H) : LcW (Itr 0 n.toNat) g tt te ws σ Q H := by
 obtain ⟨hz, hf⟩ := hf
 rw [rng_len] at hz
 refine lc_X walk_range (λ E i H => ∃ acc, lcD F ((rng n).drop i) acc KK /\ acc.length <= i /\ M (acR K E (acc.map e') :: Rs) H) (λ E hE => ⟨[], by simpa using hf, Nat.le_refl _, acR_nil (S.new hE)⟩) (λ E i H _ _ => trivial) ?_ ?_
 · rintro E i v H H' hi ⟨acc, hf, ha, S⟩ ⟨rfl, rfl⟩
   have hi2 : i < (rng n).length := by rw [rng_len]; exact hi
   rw [List.drop_eq_getElem_cons hi2] at hf
   have e : (rng n)[i] = (0 : Int) + (i : Nat) := Option.some.inj ((List.getElem?_eq_getElem hi2).symm.trans (rng_get hi))
   rw [e] at hf
   refine hs _ acc E H' _ _ (by rw [List.length_map]; omega) S hf (λ y H hk S => ⟨acc ++ [y], hk, by rw [List.length_append]; simpa using ha, by rw [List.map_append]; exact S⟩) (λ H hk S => ⟨acc, ?_, by omega, S⟩)
   simpa using hk
 · rintro E H ⟨acc, hf, ha, S⟩
   rw [<- rng_len, List.drop_length] at hf
   exact hd E acc H hf S
theorem M.fixG {p : Addr} {o : HO} {R : Res} {φ : Hp -> Prop} (S : M (pt p o :: Rs) H) (h : EnF Rs φ) (k : ∀ F, φ F -> F p = some o -> R.on F []) : M (R :: Rs) H := by
 obtain ⟨F, L, ⟨l1, l2, rfl, ⟨rfl, fp⟩, s⟩, m⟩ := S.fix
 exact ⟨F, l2, ⟨[], l2, rfl, k F (h F l2 s) fp, s⟩, m⟩
theorem M.own {p : Addr} {vs : List V} {ds : List PyData} (S : M (pt p (.lst vs) :: Rs) H) (h : EnF Rs (λ F => DqAll K F vs ds)) : M (acR K p ds :: Rs) H := by
 obtain ⟨F, L, ⟨l1, l2, rfl, a, b⟩, m⟩ := S
 exact ⟨F, _, ⟨l1, l2, rfl, ⟨vs, l1, [], by simp, a, rfl, h F l2 b⟩, b⟩, m⟩
theorem v_lsto {vs : List V} {ds : List PyData} (S : M Rs H) (h : EnF Rs (λ F => DqAll K F vs ds)) (hn : vs.length <= 100000) (k : ∀ p H', M (acR K p ds :: Rs) H' -> Q (.ref p) H') : LstK Q vs H :=
 v_lst S hn λ p H' S' => k p H' (S'.own h)
theorem v_tupq {vs : List V} {ds : List PyData} (S : M Rs H) (h : EnF Rs (λ F => DqAll K F vs ds)) (hn : vs.length <= 100000) (k : ∀ p H', M (da K (.ref p) (.tuple ds) :: Rs) H' -> Q (.ref p) H') : TupK Q vs H :=
 v_tup S hn λ p H' S' => k p H' (S'.fixG h λ F q fp => ⟨rfl, .tup (.inl (.inl fp)) q⟩)
theorem atI_get {γ : Type} {xs : List γ} {i : Int} {x : γ} (h : atI xs i = some x) : ∃ j, ixN xs.length i = some j /\ xs[j]? = some x := by
 unfold atI at h
 cases e : ixN xs.length i with
 | none => rw [e] at h; cases h
 | some j => rw [e] at h; exact ⟨j, rfl, h⟩
theorem atI_of {γ : Type} {xs : List γ} {i : Int} {x : γ} {j : Nat} (h1 : ixN xs.length i = some j) (h2 : xs[j]? = some x) : atI xs i = some x := by
 unfold atI
 rw [h1]
 exact h2
theorem DqAll.get {vs : List V} {ds : List PyData} {j : Nat} {d : PyData} (q : DqAll K H vs ds) (h : ds[j]? = some d) : ∃ v, vs[j]? = some v /\ Dq K H v d := by
 have hj : j < vs.length := by rw [q.len]; exact (List.getElem?_eq_some_iff.mp h).1
 exact ⟨_, List.getElem?_eq_getElem hj, q.at (List.getElem?_eq_getElem hj) h⟩
theorem v_ixq {v : V} {ds : List PyData} {i : Int} {d : PyData} (S : M Rs H) (hj : EnF Rs (λ F => Dq K F v (.list ds)) \/ EnF Rs (λ F => Dq K F v (.tuple ds))) (hx : atI ds i = some d) (k : ∀ u, M (da K u d :: Rs) H -> Q u H) : uIx K v (.int i) H Q := by
 obtain ⟨j, h1, h2⟩ := atI_get hx
 obtain ⟨F, L, s, m⟩ := S
 rcases hj with hj | hj
 · cases hj F L s with
   | lst a q =>
     obtain ⟨u, h3, h4⟩ := q.get h2
     exact v_ixL (m.ex.sqL a) (atI_of (by rw [q.len]; exact h1) h3) (k u ⟨F, L, ⟨[], L, rfl, ⟨rfl, h4⟩, s⟩, m⟩)
 · cases hj F L s with
   | tup a q =>
     obtain ⟨u, h3, h4⟩ := q.get h2
     exact v_ixT (m.ex.sqT a) (atI_of (by rw [q.len]; exact h1) h3) (k u ⟨F, L, ⟨[], L, rfl, ⟨rfl, h4⟩, s⟩, m⟩)
theorem atI_map {γ δ : Type} {f : γ -> δ} {xs : List γ} {i : Int} {x : γ} (h : atI xs i = some x) : atI (xs.map f) i = some (f x) := by
 obtain ⟨j, h1, h2⟩ := atI_get h
 exact atI_of (by rw [List.length_map]; exact h1) (by rw [List.getElem?_map, h2]; rfl)
theorem v_ixl {e : α -> PyData} {v : V} {xs : List α} {i : Int} {x : α} (S : M Rs H) (j : Nat) (hj : Rs[j]? = some (da K v (eL e xs))) (hx : atI xs i = some x) (k : ∀ u, M (da K u (e x) :: Rs) H -> Q u H) : uIx K v (.int i) H Q :=
 v_ixq S (.inl (EnF.at j hj)) (atI_map hx) k
theorem v_ixv {e : α -> PyData} {v : V} {xs : List α} {i : Int} {x : α} (S : M Rs H) (j : Nat) (hj : Rs[j]? = some (da K v (eV e xs))) (hx : atI xs i = some x) (k : ∀ u, M (da K u (e x) :: Rs) H -> Q u H) : uIx K v (.int i) H Q :=
 v_ixq S (.inr (EnF.at j hj)) (atI_map hx) k
theorem Dq.intV {v : V} {i : Int} (h : Dq K H v (.int i)) : v = .int i := by cases h; rfl
theorem Dq.strV {v : V} {i : Str} (h : Dq K H v (.str i)) : v = .str i := by cases h; rfl
theorem Dq.blV {v : V} {i : Bool} (h : Dq K H v (.bool i)) : v = .bl i := by cases h; rfl
theorem DqAll.takeA : ∀ {vs : List V} {ds : List PyData}, DqAll K H vs ds -> ∀ n, DqAll K H (vs.take n) (ds.take n)
 | _, _, .nil, n => by
   rw [List.take_nil, List.take_nil]
   exact .nil
 | _, _, .cons a r, 0 => .nil
 | _, _, .cons a r, n + 1 => .cons a (DqAll.takeA r n)
theorem DqAll.dropA : ∀ {vs : List V} {ds : List PyData}, DqAll K H vs ds -> ∀ n, DqAll K H (vs.drop n) (ds.drop n)
 | _, _, .nil, n => by
   rw [List.drop_nil, List.drop_nil]
   exact .nil
 | _, _, .cons a r, 0 => .cons a r
 | _, _, .cons a r, n + 1 => DqAll.dropA r n
theorem DqAll.app : ∀ {vs ws : List V} {ds es : List PyData}, DqAll K H vs ds -> DqAll K H ws es -> DqAll K H (vs ++ ws) (ds ++ es)
 | _, _, _, _, .nil, h => h
 | _, _, _, _, .cons a r, h => .cons a (DqAll.app r h)
theorem DqAll.cut {vs : List V} {ds : List PyData} (q : DqAll K H vs ds) (lo hi : Option Int) : DqAll K H (cutV vs lo hi) (cutL ds lo hi) := by
 unfold cutV cutL
 rw [q.len]
 exact (q.dropA _).takeA _
theorem cutL_map {γ δ : Type} (f : γ -> δ) (xs : List γ) (lo hi : Option Int) : cutL (xs.map f) lo hi = (cutL xs lo hi).map f := by
 unfold cutL
 rw [List.length_map, List.map_take, List.map_drop]
theorem len_ok {n : Nat} (h : Nat.ble n 100000 = true) : n <= 100000 := Nat.le_of_ble_eq_true h
theorem acR_fixL {e : α -> PyData} {E : Addr} {xs : List α} (S : M (acR K E (xs.map e) :: Rs) H) : M (da K (.ref E) (eL e xs) :: Rs) H := acR_fix S
theorem v_liq {e : α -> PyData} {v : V} {xs : List α} (S : M Rs H) (h : EnF Rs (λ F => Dq K F v (eL e xs)) \/ EnF Rs (λ F => Dq K F v (eV e xs))) (k : ∀ p H', M (acR K p (xs.map e) :: Rs) H' -> Q (.ref p) H') : rListOf K [v] H Q := by
 obtain ⟨F, L, s, m⟩ := S
 obtain ⟨a, vs, rfl, hs, q⟩ : ∃ a vs, v = .ref a /\ (SqL K F a vs \/ SqT K F a vs) /\ DqAll K F vs (xs.map e) := by
   rcases h with h | h
   · cases h F L s with
     | lst a q => exact ⟨_, _, rfl, .inl a, q⟩
   · cases h F L s with
     | tup a q => exact ⟨_, _, rfl, .inr a, q⟩
 refine v_list (⟨F, L, ⟨[], L, rfl, ⟨rfl, q⟩, s⟩, m⟩ : M (daA K _ (xs.map e) :: Rs) H) (hs.imp (λ z => m.ex.sqL z) (λ z => m.ex.sqT z)) λ p H' S' => k p H' ?_
 obtain ⟨F, L, ⟨l1, l2, rfl, a1, l3, l4, rfl, ⟨rfl, q1⟩, b⟩, m⟩ := S'
 exact ⟨F, _, ⟨l1, l4, rfl, ⟨_, l1, [], by simp, a1, rfl, q1⟩, b⟩, m⟩
theorem v_lenq {v : V} {ds : List PyData} (S : M Rs H) (h : EnF Rs (λ F => Dq K F v (.list ds)) \/ EnF Rs (λ F => Dq K F v (.tuple ds))) (k : Q (.int (ds.length : Nat)) H) : uLen K [v] H Q := by
 obtain ⟨F, L, s, m⟩ := S
 rcases h with h | h
 · cases h F L s with
   | lst a q => exact .inl ⟨_, _, rfl, .inl ⟨_, m.ex.sqL a, q.len.symm⟩, k⟩
 · cases h F L s with
   | tup a q => exact .inl ⟨_, _, rfl, .inr ⟨_, m.ex.sqT a, q.len.symm⟩, k⟩
theorem v_lenl {e : α -> PyData} {v : V} {xs : List α} (S : M Rs H) (j : Nat) (hj : Rs[j]? = some (da K v (eL e xs))) (k : Q (.int (xs.length : Nat)) H) : uLen K [v] H Q :=
 v_lenq S (.inl (EnF.at j hj)) (by rw [List.length_map]; exact k)
theorem DqAll.setA {v : V} {d : PyData} (h : Dq K H v d) : ∀ {vs : List V} {ds : List PyData}, DqAll K H vs ds -> ∀ n, DqAll K H (vs.set n v) (ds.set n d)
 | _, _, .nil, _ => .nil
 | _, _, .cons a r, 0 => .cons h r
 | _, _, .cons a r, n + 1 => .cons a (DqAll.setA h r n)
theorem v_setl {e : α -> PyData} {p : Addr} {xs : List α} {y : V} {x : α} {i : Int} {n : Nat} {Q : Hp -> Prop} (S : M Rs H) (j : Nat) (hj : Rs[j]? = some (acR K p (xs.map e))) (hx : ixN xs.length i = some n) (h : EnF Rs (λ F => Dq K F y (e x)))
   (k : ∀ H', M (acR K p ((xs.set n x).map e) :: Rs.eraseIdx j) H' -> Q H') : uSet (.ref p) (.int i) y H Q := by
 have S0 : M (da K y (e x) :: Rs) H := S.addA h
 have S1 : M (acR K p (xs.map e) :: da K y (e x) :: Rs.eraseIdx j) H := (S0.at (j + 1) (by simpa using hj))
 obtain ⟨vs, S2⟩ := S1.ex
 have S3 := S2.sp
 have hl : vs.length = xs.length := by
   have := (S3.gotAA 1 rfl).len
   rwa [List.length_map] at this
 refine v_set S3 0 rfl (j := n) (by rw [hl]; exact hx) λ H' S4 => k H' ?_
 obtain ⟨F, L, ⟨l1, l2, rfl, a, l3, l4, rfl, ⟨rfl, q⟩, l5, l6, rfl, ⟨rfl, q2⟩, b⟩, m⟩ := S4
 exact ⟨F, _, ⟨l1, l6, by simp, ⟨vs.set n y, l1, [], by simp, a, rfl, by rw [List.map_set]; exact DqAll.setA q2 q n⟩, b⟩, m⟩
end
end RC

namespace RC
open PySem PySem.Spec PyProof.Rows L2
section
variable {κ α : Type} [DecidableEq κ]
def lk (m : List (κ × α)) (k : κ) : Option α := (m.find? λ p => decide (p.1 = k)).map (·.2)
def pk (m : List (κ × α)) (k : κ) (x : α) : List (κ × α) := if (m.any λ p => decide (p.1 = k)) = true then m.map (λ p => if p.1 = k then (p.1, x) else p) else m ++ [(k, x)]
def dk (m : List (κ × α)) (k : κ) : List (κ × α) := m.filter λ p => decide (p.1 ≠ k)
def ks (m : List (κ × α)) : List κ := m.map (·.1)
theorem lk_cons (p : κ × α) (m : List (κ × α)) (k : κ) : lk (p :: m) k = if p.1 = k then some p.2 else lk m k := by
 unfold lk
 rw [List.find?_cons]
 by_cases h : p.1 = k
 · simp [h]
 · simp [h]
theorem any_lk (m : List (κ × α)) (k : κ) : (m.any λ p => decide (p.1 = k)) = (lk m k).isSome := by
 induction m with
 | nil => rfl
 | cons p m ih =>
   rw [List.any_cons, ih, lk_cons]
   by_cases h : p.1 = k
   · simp [h]
   · simp [h]
end
inductive TKv {κ α : Type} (K : Fr) (H : Hp) (ik : κ -> Key) (e : α -> PyData) : List (Key × V) -> List (κ × α) -> Prop
 | nil : TKv K H ik e [] []
 | cons {k : κ} {v : V} {x : α} {r : List (Key × V)} {m : List (κ × α)} (h : Dq K H v (e x)) (t : TKv K H ik e r m) : TKv K H ik e ((ik k, v) :: r) ((k, x) :: m)
section
variable {κ α : Type} {K : Fr} {H H' : Hp} {ik : κ -> Key} {e : α -> PyData} {kvs : List (Key × V)} {m : List (κ × α)}
theorem TKv.ext (x : Ext H H') : ∀ {kvs : List (Key × V)} {m : List (κ × α)}, TKv K H ik e kvs m -> TKv K H' ik e kvs m
 | _, _, .nil => .nil
 | _, _, .cons h t => .cons (Dq_ext x h) (TKv.ext x t)
theorem TKv.kv : ∀ {kvs : List (Key × V)} {m : List (κ × α)}, TKv K H ik e kvs m -> DqKv K H kvs (m.map λ p => (kD (ik p.1), e p.2))
 | _, _, .nil => .nil
 | _, _, .cons h t => .cons h (TKv.kv t)
theorem TKv.len : ∀ {kvs : List (Key × V)} {m : List (κ × α)}, TKv K H ik e kvs m -> kvs.length = m.length
 | _, _, .nil => rfl
 | _, _, .cons h t => by rw [List.length_cons, List.length_cons, TKv.len t]
variable [DecidableEq κ]
theorem TKv.some (inj : ∀ a b, ik a = ik b -> a = b) {k : κ} {x : α} : ∀ {kvs : List (Key × V)} {m : List (κ × α)}, TKv K H ik e kvs m -> lk m k = some x -> ∃ v, valV kvs (ik k) = Option.some v /\ Dq K H v (e x)
 | _, _, .nil, h => by cases h
 | _, _, .cons (k := k') h t, g => by
   rw [lk_cons] at g
   by_cases z : k' = k
   · subst z
     rw [if_pos rfl] at g
     cases g
     exact ⟨_, valV_pos rfl, h⟩
   · rw [if_neg z] at g
     obtain ⟨v, a, b⟩ := TKv.some inj t g
     exact ⟨v, by rw [valV_neg (λ q => z (inj _ _ q))]; exact a, b⟩
theorem TKv.none (inj : ∀ a b, ik a = ik b -> a = b) {k : κ} : ∀ {kvs : List (Key × V)} {m : List (κ × α)}, TKv K H ik e kvs m -> lk m k = none -> valV kvs (ik k) = Option.none
 | _, _, .nil, h => rfl
 | _, _, .cons (k := k') h t, g => by
   rw [lk_cons] at g
   by_cases z : k' = k
   · subst z
     rw [if_pos rfl] at g
     cases g
   · rw [if_neg z] at g
     rw [valV_neg (λ q => z (inj _ _ q))]
     exact TKv.none inj t g
theorem TKv.isSome (inj : ∀ a b, ik a = ik b -> a = b) (t : TKv K H ik e kvs m) (k : κ) : (valV kvs (ik k)).isSome = (lk m k).isSome := by
 cases h : lk m k with
 | none =>
   rw [t.none inj h]
   rfl
 | some x =>
   obtain ⟨v, a, _⟩ := t.some inj h
   rw [a]
   rfl
theorem TKv.app {r : List (Key × V)} {n : List (κ × α)} (b : TKv K H ik e r n) : ∀ {kvs : List (Key × V)} {m : List (κ × α)}, TKv K H ik e kvs m -> TKv K H ik e (kvs ++ r) (m ++ n)
 | _, _, .nil => b
 | _, _, .cons h t => .cons h (TKv.app b t)
theorem TKv.upd (inj : ∀ a b, ik a = ik b -> a = b) {k : κ} {x : α} {v : V} (d : Dq K H v (e x)) : ∀ {kvs : List (Key × V)} {m : List (κ × α)}, TKv K H ik e kvs m ->
   TKv K H ik e (kvs.map λ kv => if kv.1 = ik k then (kv.1, v) else kv) (m.map λ p => if p.1 = k then (p.1, x) else p)
 | _, _, .nil => .nil
 | _, _, .cons (k := k') h t => by
   rw [List.map_cons, List.map_cons]
   by_cases z : k' = k
   · subst z
     rw [if_pos rfl, if_pos rfl]
     exact .cons d (TKv.upd inj d t)
   · rw [if_neg (λ q => z (inj _ _ q)), if_neg z]
     exact .cons h (TKv.upd inj d t)
theorem TKv.put (inj : ∀ a b, ik a = ik b -> a = b) {k : κ} {x : α} {v : V} (t : TKv K H ik e kvs m) (d : Dq K H v (e x)) : TKv K H ik e (putK kvs (ik k) v) (pk m k x) := by
 unfold putK pk
 rw [any_lk m k, valV_any (ik k) kvs, t.isSome inj]
 cases lk m k with
 | none =>
   rw [if_neg (by simp), if_neg (by simp)]
   exact TKv.app (.cons d .nil) t
 | some y =>
   rw [if_pos (by rfl), if_pos (by rfl)]
   exact TKv.upd inj d t
theorem TKv.drop (inj : ∀ a b, ik a = ik b -> a = b) {k : κ} : ∀ {kvs : List (Key × V)} {m : List (κ × α)}, TKv K H ik e kvs m -> TKv K H ik e (dropK kvs (ik k)) (dk m k)
 | _, _, .nil => .nil
 | _, _, .cons (k := k') h t => by
   have ih := TKv.drop (k := k) inj t
   unfold dropK dk at ih ⊢
   by_cases z : k' = k
   · subst z
     rw [List.filter_cons_of_neg (by simp), List.filter_cons_of_neg (by simp)]
     exact ih
   · rw [List.filter_cons_of_pos (by simpa using λ q => z (inj _ _ q)), List.filter_cons_of_pos (by simpa using z)]
     exact .cons h ih
end
theorem injS (a b : Str) (h : iS a = iS b) : a = b := Sum.inr.inj h
section
variable {κ α : Type} {K : Fr} {ik : κ -> Key} {e : α -> PyData} {m : List (κ × α)} {Rs : List Res} {H : Hp} {Q : VK} {σ : L2.St} {D : Ends} {p : Addr}
def tkR (K : Fr) (ik : κ -> Key) (e : α -> PyData) (kvs : List (Key × V)) (m : List (κ × α)) : Res := ⟨λ F l => l = [] /\ TKv K F ik e kvs m, λ _ _ _ x h => ⟨h.1, TKv.ext x h.2⟩⟩
def adR (K : Fr) (ik : κ -> Key) (e : α -> PyData) (p : Addr) (m : List (κ × α)) : Res := exi λ kvs => sp2 (pt p (.dK kvs)) (tkR K ik e kvs m)
theorem adR_open (S : M Rs H) (j : Nat) (hj : Rs[j]? = some (adR K ik e p m)) : ∃ kvs, M (pt p (.dK kvs) :: tkR K ik e kvs m :: Rs.eraseIdx j) H := by
 obtain ⟨kvs, S1⟩ := (S.at j hj).ex
 exact ⟨kvs, S1.sp⟩
theorem v_dnewo (S : M Rs H) (k : ∀ p H', M (adR K ik e p ([] : List (κ × α)) :: Rs) H' -> Q (.ref p) H') : tDNewK σ H Q := v_dnew S λ p H' S' => k p H' (by
 obtain ⟨F, L, ⟨l1, l2, rfl, a, b⟩, mm⟩ := S'
 exact ⟨F, _, ⟨l1, l2, rfl, ⟨[], l1, [], by simp, a, rfl, .nil⟩, b⟩, mm⟩)
variable [DecidableEq κ]
def FzK (Q : VK) : VK := λ v H => Q v H \/ ∃ d u, H d = some u /\ Mut (some u) /\ ∀ od, Q v (upd H d (.frz od u))
def tFzE (t : TE) : TE := λ σ H Q => t σ H (FzK Q)
theorem pe_fz {X : Cx} {x : Expr} {t : TE} (h : PE X x t) : PE X x (tFzE t) := ⟨λ pins s σ H Q I hw => thn (h.run pins s σ H _ I hw) λ v s1 ⟨y, H1, I1, r, q⟩ => by
 rcases q with q | ⟨d, u, hd, mu, q⟩
 · exact ⟨y, H1, I1, r, q⟩
 · obtain ⟨od, I2⟩ := I1.lock hd mu
   exact ⟨y, _, I2, r, q od⟩⟩
theorem adR_frz {kvs : List (Key × V)} {od : Obj} (S : M (pt p (.dK kvs) :: tkR K ik e kvs m :: Rs) H) : M (da K (.ref p) (eD ik e m) :: Rs) (upd H p (.frz od (.dK kvs))) := by
 have S1 : M (pt p (.frz od (.dK kvs)) :: tkR K ik e kvs m :: Rs) (upd H p (.frz od (.dK kvs))) := S.putAt 0 rfl
 obtain ⟨F, L, ⟨l1, l2, rfl, ⟨rfl, fp⟩, l3, l4, rfl, ⟨rfl, t⟩, b⟩, mm⟩ := S1.fix
 exact ⟨F, l4, ⟨[], l4, rfl, ⟨rfl, .dct fp t.kv⟩, b⟩, mm⟩
theorem v_fzD {v : V} (S : M Rs H) (j : Nat) (hj : Rs[j]? = some (adR K ik e p m)) (k : ∀ H', M (da K (.ref p) (eD ik e m) :: Rs.eraseIdx j) H' -> Q v H') : FzK Q v H := by
 obtain ⟨kvs, S1⟩ := adR_open S j hj
 exact .inr ⟨p, .dK kvs, S1.got 0 rfl, trivial, λ od => k _ (adR_frz S1)⟩
end
end RC
namespace RC
open PySem PySem.Spec PyProof.Rows L2
def leS (a b : Str) : Bool := !ltCps b.cps.toList a.cps.toList
def srtS' (xs : List Str) : List Str := xs.mergeSort leS
section
variable {α : Type} {K : Fr} {e : α -> PyData} {Rs : List Res} {H : Hp} {Q : VK} {p : Addr}
theorem DqAll.ints : ∀ {xs : List Int} {vs : List V}, DqAll K H vs (xs.map eI) -> vs = xs.map V.int
 | [], _, h => by cases h; rfl
 | x :: r, _, h => by
   cases h with
   | cons a t => rw [a.intV, DqAll.ints t]; rfl
theorem Dq.lstI {v : V} {xs : List Int} (d : Dq K H v (eL eI xs)) : ∃ a, v = .ref a /\ SqL K H a (xs.map V.int) := by
 cases d with
 | lst h q => exact ⟨_, rfl, by rw [<- q.ints]; exact h⟩
end
end RC

namespace RC
open PySem PySem.Spec PyProof.Rows L2
section
variable {α β : Type} {K : Fr} {σ : L2.St} {H : Hp} {Q : VK} {D : Ends} {Rs : List Res} {ta tb tc te : TE} {tt s : TT} {c1 c2 : Bool} {x y z : V} {p : Addr}
def Pu (te : TE) (σ : L2.St) (H : Hp) (x : V) : Prop := ∀ P : VK, P x H -> te σ H P
theorem g_andVP (h1 : Pu ta σ H (.bl c1)) (h2 : Pu tb σ H (.bl c2)) (k : Q (.bl (c1 && c2)) H) : tAndV ta tb σ H Q := h1 _ ⟨c1, rfl, by
 cases c1 with
 | true => exact h2 _ k
 | false => exact k⟩
theorem g_chainP {r r' : R2} (ha : Pu ta σ H x) (hb : Pu tb σ H y) (h1 : ∀ P : VK, P (.bl c1) H -> r x y H P) (hc : Pu tc σ H z) (h2 : ∀ P : VK, P (.bl c2) H -> r' y z H P) (k : Q (.bl (c1 && c2)) H) : tChain r r' ta tb tc σ H Q :=
 ha _ (hb _ (h1 _ ⟨c1, rfl, by
   cases c1 with
   | true => exact hc _ (h2 _ k)
   | false => exact k⟩))
theorem tt_cut {P : Bool -> Hp -> Prop} {m : (Bool -> Prop) -> Prop} {KK : Bool -> Prop} (hf : jn m KK) (Inv : Hp -> Prop) (h1 : ∀ (kk : Bool -> Prop) (P' : Bool -> Hp -> Prop), (∀ c H, kk c -> Inv H -> P' c H) -> m kk -> tt σ H P')
   (h2 : ∀ c H, KK c -> Inv H -> P c H) : tt σ H P := h1 KK P h2 hf
theorem te_cut {m : (Bool -> Prop) -> Prop} {KK : Bool -> Prop} (hf : jn m KK) (Inv : Hp -> Prop) (h1 : ∀ (kk : Bool -> Prop) (P' : VK), (∀ c H, kk c -> Inv H -> P' (.bl c) H) -> m kk -> te σ H P')
   (h2 : ∀ c H, KK c -> Inv H -> Q (.bl c) H) : te σ H Q := h1 KK Q h2 hf
theorem M.gotO {ds : List PyData} (S : M Rs H) (j : Nat) (hj : Rs[j]? = some (acR K p ds)) : Dq K H (.ref p) (.list ds) := by
 obtain ⟨vs, S1⟩ := (S.at j hj).ex
 exact .lst (SqL.of (S1.sp.got 0 rfl)) (S1.sp.gotAA 1 rfl)
abbrev EqOk (d : PyData) : Prop := SeqAt.shaped d = true
theorem EqOk.nodict {d : PyData} (h : EqOk d) : d.hasDict = false := PyData.hasDict_of_canLay d (SeqAt.canLay_of_shaped h)
theorem v_eqq {d e : PyData} (h1 : Dq K H x d) (h2 : Dq K H y e) (s1 : EqOk d) (s2 : EqOk e) (k : Q (.bl (PyData.eqv d e)) H) : uEq K x y H Q := v_eqD (h1.dp s1.nodict) (h2.dp s2.nodict) s1 s2 k
theorem v_neq {d e : PyData} (h1 : Dq K H x d) (h2 : Dq K H y e) (s1 : EqOk d) (s2 : EqOk e) (k : Q (.bl (!PyData.eqv d e)) H) : uNe K x y H Q := v_neD (h1.dp s1.nodict) (h2.dp s2.nodict) s1 s2 k
theorem v_itLe {a : Addr} {xs : List V} {v : V} {R : It -> Hp -> Prop} (e : v = .ref a) (h : SqL K H a xs) (k : R (Itl K a) H) : ItL K R v H := ⟨a, e, ⟨xs, h⟩, k⟩
theorem sqL_ty {a : Addr} {xs : List V} (h : SqL K H a xs) : TyX K H (.ref a) (.type "list") := by
 rcases h with (h | ⟨o, h⟩) | ⟨o, its, n, h, hc, _⟩
 · exact .base (.lst h)
 · exact .base (.frz h)
 · exact .kList h hc
theorem sqT_ty {a : Addr} {xs : List V} (h : SqT K H a xs) : TyX K H (.ref a) (.type "tuple") := by
 rcases h with (h | ⟨o, h⟩) | ⟨o, its, n, h, hc, _⟩
 · exact .base (.tup h)
 · exact .fTuple h
 · exact .kTuple h hc
def tyN : PyData -> String
 | .none => "NoneType"
 | .bool _ => "bool"
 | .int _ => "int"
 | .str _ => "str"
 | .list _ => "list"
 | .tuple _ => "tuple"
 | .dict _ => "dict"
def isA (c : String) (d : PyData) : Bool := decide (tyN d = c) || (decide (tyN d = "bool") && decide (c = "int"))
def rIsiD (K : Fr) : List V -> Hp -> VK -> Prop := λ xs H Q => ∃ (a : Addr) (kvs : List (Key × V)) (c : V) (u : Value) (b : Bool), xs = [.ref a, c] /\ ClsV c u /\ Rd H a (.dK kvs) /\ PySem.W.kitOne K (.type "dict") u = some b /\ Q (.bl b) H
theorem cr_isiD {X : Cx} : CallR X (.builtin "isinstance") (rIsiD X.K) := by
 intro pins s σ H xs us Q I r h
 obtain ⟨a, kvs, c, u, b, rfl, hc, hr, e, q⟩ := h
 obtain ⟨u1, u2, rfl, r1, r2⟩ := vals2 r
 cases (show u1 = Value.ref a from r1)
 have e2 := hc.eq r2
 subst e2
 obtain ⟨_, _, vs, _, o, es, ep, h1, h2, _⟩ := dk_rd I.hok hr
 exact PySem.W.kia_one PySem.W.kitx_dict I.kIn ⟨o, h1, h2.1⟩ e (λ z => nomatch z) λ tk => ⟨.bl b, H, I.tok tk, rfl, q⟩
def uIsi (K : Fr) : List V -> Hp -> VK -> Prop := λ xs H Q => rIsi K xs H Q \/ rIsiD K xs H Q
theorem cr_isiQ {X : Cx} : CallR X (.builtin "isinstance") (uIsi X.K) := call_isi.or cr_isiD
theorem Dn.ty {v : V} {d : PyData} (h : Dn K H v d) : TyX K H v (.type (tyN d)) \/ (∃ a kvs, v = .ref a /\ Rd H a (.dK kvs) /\ tyN d = "dict") := by
 cases h with
 | non => exact .inl (.base .non)
 | bl b => exact .inl (.base (.bl b))
 | int i => exact .inl (.base (.int i))
 | str x => exact .inl (.base (.str x))
 | lst h _ => exact .inl (sqL_ty h)
 | tup h _ => exact .inl (sqT_ty h)
 | dct h _ => exact .inr ⟨_, _, rfl, h, rfl⟩
theorem kit_all : ∀ t ∈ ["NoneType", "bool", "int", "str", "list", "tuple", "dict"], ∀ c ∈ ["int", "bool", "str", "list", "tuple", "dict"], kitB t c = some (decide (t = c) || (decide (t = "bool") && decide (c = "int"))) := by decide +kernel
theorem v_isq {v : V} {d : PyData} {c : String} {b : Bool} (h : Dn K H v d) (hc : c ∈ ["int", "bool", "str", "list", "tuple", "dict"]) (hb : isA c d = b) (k : Q (.bl b) H) : uIsi K [v, .ty c] H Q := by
 subst hb
 have kk := kit_ty (K := K) (kit_all (tyN d) (by cases d <;> simp [tyN]) c hc)
 rcases h.ty with z | ⟨a, kvs, rfl, hr, e⟩
 · exact .inl (v_isi z kk k)
 · rw [e] at kk
   refine .inr ⟨a, kvs, .ty c, _, _, rfl, .ty c, hr, kk, ?_⟩
   unfold isA at k
   rw [e] at k
   exact k
def DatN (K : Fr) (C : Addr) : Prop := ∀ t ∈ ["NoneType", "bool", "int", "str", "list", "tuple", "dict"], PySem.W.kitOne K (.type t) (.ref C) = some false
theorem v_isqC {v : V} {d : PyData} {C : Addr} (h : Dn K H v d) (n : DatN K C) (k : Q (.bl false) H) : uIsi K [v, .ref C] H Q := by
 have kk := n (tyN d) (by cases d <;> simp [tyN])
 rcases h.ty with z | ⟨a, kvs, rfl, hr, e⟩
 · exact .inl ⟨v, .ref C, _, .ref C, false, rfl, .own C, z, kk, k⟩
 · rw [e] at kk
   exact .inr ⟨a, kvs, .ref C, .ref C, false, rfl, .own C, hr, kk, k⟩
theorem M.spN2 {A B : Res} (S : M (sp2 A B :: Rs) H) : M (A :: B :: Rs) H := S.sp
theorem M.spN3 {A B C : Res} (S : M (sp2 A (sp2 B C) :: Rs) H) : M (A :: B :: C :: Rs) H := M.sub (.cons 2 rfl (.refl _)) (S.sp.at 1 rfl).spN2
theorem M.spM2 {A B : Res} (S : M (A :: B :: Rs) H) : M (sp2 A B :: Rs) H := S.sp'
theorem M.spM3 {A B C : Res} (S : M (A :: B :: C :: Rs) H) : M (sp2 A (sp2 B C) :: Rs) H := ((M.spM2 (M.sub (.cons 1 rfl (.cons 1 rfl (.refl _))) S)).at 1 rfl).sp'
end
end RC

namespace RC
open PySem PySem.Spec PyProof.Rows L2
structure Fl {α : Type} (e : α -> PyData) (sv : α -> V) : Prop where
 to : ∀ {K : Fr} {H : Hp} {v : V} {x : α}, Dq K H v (e x) -> v = sv x
 of : ∀ (K : Fr) (H : Hp) (x : α), Dq K H (sv x) (e x)
theorem flI : Fl eI V.int := ⟨Dq.intV, λ _ _ x => .int x⟩
theorem flS : Fl eS V.str := ⟨Dq.strV, λ _ _ x => .str x⟩
theorem flB : Fl eB V.bl := ⟨Dq.blV, λ _ _ x => .bl x⟩
section
variable {α β : Type} {e : α -> PyData} {sv : α -> V} {K : Fr} {σ : L2.St} {H : Hp} {Q : VK} {D : Ends} {Rs : List Res} {v w : V} {xs ys : List α} {p : Addr}
theorem Fl.all (f : Fl e sv) : ∀ {vs : List V} {xs : List α}, DqAll K H vs (xs.map e) -> vs = xs.map sv
 | _, [], h => by cases h; rfl
 | _, x :: r, h => by
   cases h with
   | cons a t => rw [f.to a, Fl.all f t]; rfl
theorem Fl.ofA (f : Fl e sv) : ∀ xs : List α, DqAll K H (xs.map sv) (xs.map e)
 | [] => .nil
 | x :: r => .cons (f.of K H x) (Fl.ofA f r)
theorem Fl.lst (f : Fl e sv) (d : Dq K H v (eL e xs)) : ∃ a, v = .ref a /\ SqL K H a (xs.map sv) := by
 cases d with
 | lst h q => exact ⟨_, rfl, by rw [<- f.all q]; exact h⟩
theorem v_ixN (f : Fl e sv) (d : Dq K H v (eL e xs)) {i : Int} {x : α} (hx : atI xs i = some x) (k : Q (sv x) H) : uIx K v (.int i) H Q := by
 obtain ⟨a, rfl, h⟩ := f.lst d
 exact v_ixL h (atI_map hx) k
theorem for_N (f : Fl e sv) {F : α -> β -> (β -> Prop) -> Prop} {s0 : β} {KK : β -> Prop} {g : TG} {tb : TS} (hf : forD F xs s0 KK) (Inv : β -> L2.St -> Hp -> Prop) (h0 : Inv s0 σ H)
   (hrd : ∀ s σ H, Inv s σ H -> Dq K H v (eL e xs))
   (hs : ∀ x s σ H (kk : β -> Prop), Inv s σ H -> F x s kk -> g (sv x) σ H λ σ2 H2 => tb ⟨λ σ H => ∃ s', kk s' /\ Inv s' σ H, D.rt, D.nx, λ σ H => ∃ s', kk s' /\ Inv s' σ H⟩ σ2 H2)
   (hd : ∀ s σ H, KK s -> Inv s σ H -> D.nx σ H) : ItL K (λ J H1 => ForW J g tb D σ H1) v H := by
 obtain ⟨a, rfl, h⟩ := f.lst (hrd s0 σ H h0)
 have hrd' : ∀ s σ H, Inv s σ H -> SqL K H a (xs.map sv) := λ s σ H h => by
   obtain ⟨b, eb, q⟩ := f.lst (hrd s σ H h)
   cases eb
   exact q
 refine v_itL h (for_lst (e := e) hf Inv h0 (λ s σ H h => ⟨hrd' s σ H h, f.ofA xs⟩) (λ i v x s σ H kk h hv hx hF => ?_) hd)
 rw [List.getElem?_map, hx] at hv
 cases hv
 exact hs x s σ H kk h hF
end
end RC

namespace RC
open PySem PySem.Spec PyProof.Rows L2 SeqAt
section
variable {prog : Program} {w : World}
theorem tupEq (p q : Addr) (xs ys : Array Value) (m k : Nat) (dp dq : Option Addr) (tp tq : Array (Option Value)) (hz : xs.size = ys.size) : MeetsIn prog w (Builtin.«tuple.__eq__» ⟨[.ref p, .ref q], []⟩) (λ A R s => s.heap.get? p = some ⟨.type "tuple", dp, .seq xs m, tp⟩ /\ s.heap.get? q = some ⟨.type "tuple", dq, .seq ys k, tq⟩ /\
   (∀ j (i1 : j < xs.size) (i2 : j < ys.size), EqP prog w A.in1 s xs[j] ys[j] true) /\ R (.ok (.ret (.bool true))) s) := by
 intro A R s hh
 obtain ⟨h0, g0, d0, t0, o0⟩ := s
 obtain ⟨e1, e2, he, hR⟩ := hh
 have sb := AutoSeq1.sub_tuple_tuple
 have hl : (xs.toList.zip ys.toList).length = xs.size := by simp [hz]
 wp_walk using wpAny_loadPart' e1, wpAny_loadPart' e2, wpAny_forIn_list _ (λ r b s' => b.1 = none /\ s' = ⟨h0, g0, d0, t0, o0⟩ /\ ∃ i, r = (xs.toList.zip ys.toList).drop i) _
 case turn =>
   rintro ⟨x, y⟩ r b s' ⟨hb, rfl, i, hi⟩
   have lt : i < (xs.toList.zip ys.toList).length := by
     rcases Nat.lt_or_ge i (xs.toList.zip ys.toList).length with z | z
     · exact z
     · rw [List.drop_of_length_le z] at hi
       cases hi
   rw [List.drop_eq_getElem_cons lt] at hi
   obtain ⟨hxy, hr⟩ := List.cons.inj hi
   have i1 : i < xs.size := by omega
   have i2 : i < ys.size := by omega
   have ex : x = xs[i] := by simpa using congrArg Prod.fst hxy
   have ey : y = ys[i] := by simpa using congrArg Prod.snd hxy
   subst ex ey
   refine wpAny_bind (he i i1 i2 _ _ ?_)
   wp_walk
   exact ⟨rfl, rfl, i + 1, hr⟩
 case fin =>
   rintro ⟨b1, b2⟩ s' ⟨hb, rfl, i, hi⟩
   simp only at hb
   subst hb
   wp_walk
   show R (.ok (.ret (.bool (xs.size == ys.size)))) _
   rw [hz]
   simpa using hR
 case h => exact ⟨rfl, rfl, 0, rfl⟩
variable {A : Around} {s : Shared} {p q : Addr} {xs ys : Array Value}
theorem rc_tupEq (hp : s.heap.IsTuple p xs) (hq : s.heap.IsTuple q ys) (hz : xs.size = ys.size) (hu : A.units < cLine) (he : ∀ j (i1 : j < xs.size) (i2 : j < ys.size), EqP prog w A.in1 s xs[j] ys[j] true) (E Q : Value -> Shared -> Prop) (h : Q (.bool true) s) :
   wpAny (model prog w) A (richCompare .Eq (.ref p) (.ref q)) Q E s := by
 obtain ⟨⟨c1, d1, a1, b1⟩, o1, k1, n1, z1⟩ := id hp
 obtain ⟨⟨c2, d2, a2, b2⟩, o2, k2, n2, z2⟩ := id hq
 simp only at k1 z1 k2 z2
 subst k1 z1 k2 z2
 have t1 : s.TypeIs (.ref p) "tuple" := ⟨_, o1, rfl⟩
 have t2 : s.TypeIs (.ref q) "tuple" := ⟨_, o2, rfl⟩
 exact wpAny_richCompare_same_room (op := .Eq) t1 t2 F.slot_tuple_eq (call_meetsIn F.slot_tuple_eq t1 F.entry_tuple_eq (F.args_tuple_eq_2 _ _) (tupEq p q xs ys n1 n2 d1 d2 b1 b2 hz) ⟨o1, o2, he, (λ x => nomatch x), h⟩) hu
end
section
variable {prog : Program} {w : World} {A : Around} {s : Shared} {K : Type} [DecidableEq K] {knd : KeyKind prog w K}
end
end RC

namespace RC
open PySem PySem.Spec PyProof.Rows L2
def SysD (h : Heap) : Prop := ∃ o es ep, h.get? sysModules = some o /\ o.data = .dict es ep
def NDX (h : Heap) : Prop := h.NoDigits /\ SysD h
theorem SysD.keep {h h' : Heap} (x : SysD h) (k : ∀ b o, h.get? b = some o -> h'.get? b = some o) : SysD h' := by
 obtain ⟨o, es, ep, a, b⟩ := x
 exact ⟨o, es, ep, k _ _ a, b⟩
theorem SysD.ne {h : Heap} (x : SysD h) {a : Addr} {o : Obj} {vs : Array Value} {n : Nat} (e : h.get? a = some o) (d : o.data = .seq vs n) : a ≠ sysModules := by
 rintro rfl
 obtain ⟨o', es, ep, a1, b1⟩ := x
 rw [e] at a1
 cases a1
 rw [d] at b1
 cases b1
section
variable {X : Cx} {pins : List (Addr × Obj)} {σ : L2.St} {H : Hp} {s : Shared}
theorem key_reads {k : Key} {u : Value} {h : Heap} (hk : keyIs k u = true) : Reads h u (kD k) [] := by
 rcases keyIs_shape hk with ⟨i, t, rfl, rfl⟩ | ⟨x, t, rfl, rfl⟩
 · exact .int i t
 · exact .str x t
mutual
theorem Dn.reads (I : Inv X pins σ H s) (sy : SysD s.heap) : ∀ {v : V} {d : PyData}, Dn X.K H v d -> ∀ {u : Value}, RelV v u -> ∃ as, Reads s.heap u d as /\ sysModules ∉ as
 | _, _, .non, _, r => by cases r; exact ⟨_, .none, by simp⟩
 | _, _, .bl b, _, r => by cases r; exact ⟨_, .bool b, by simp⟩
 | _, _, .int i, _, r => by obtain ⟨t, rfl⟩ := r; exact ⟨_, .int i t, by simp⟩
 | _, _, .str x, _, r => by obtain ⟨t, rfl⟩ := r; exact ⟨_, .str x t, by simp⟩
 | _, _, .lst h q, _, r => by
   cases r
   obtain ⟨its, rv, ⟨o, n, ho, hc, _, hd⟩, _⟩ := I.list h
   obtain ⟨as, hr, hn⟩ := DnAll.reads I sy q rv
   refine ⟨_, .list ho hc hd hr, ?_⟩
   intro z
   rcases List.mem_cons.mp z with z | z
   · exact sy.ne ho hd z.symm
   · exact hn z
 | _, _, .tup h q, _, r => by
   cases r
   obtain ⟨its, rv, ⟨o, ho, hc, n, hd⟩, _⟩ := I.tuple h
   obtain ⟨as, hr, hn⟩ := DnAll.reads I sy q rv
   exact ⟨_, .tuple ho hc hd hr, hn⟩
 | _, _, .dct h q, _, r => by
   cases r
   obtain ⟨_, hm, vs, rv, o, es, ep, ho, hx, hd, hk, hp, _⟩ := dk_rd I.hok h
   obtain ⟨as, bs, h1, h2, n1, n2⟩ := DnKv.reads I sy q rv hp
   refine ⟨_, .dict ho hx.1 hd h1 h2, ?_⟩
   intro z
   rcases List.mem_cons.mp z with z | z
   · rw [<- z] at hm
     simp at hm
   · rcases List.mem_append.mp z with z | z
     · exact n1 z
     · exact n2 z
theorem DnAll.reads (I : Inv X pins σ H s) (sy : SysD s.heap) : ∀ {vs : List V} {ds : List PyData}, DnAll X.K H vs ds -> ∀ {us : List Value}, Vals vs us -> ∃ as, ReadsAll s.heap us ds as /\ sysModules ∉ as
 | _, _, .nil, _, r => by cases r; exact ⟨_, .nil, by simp⟩
 | _, _, .cons h t, _, r => by
   cases r with
   | cons r1 r2 =>
     obtain ⟨as, h1, n1⟩ := Dn.reads I sy h r1
     obtain ⟨bs, h2, n2⟩ := DnAll.reads I sy t r2
     exact ⟨_, .cons h1 h2, by simp [n1, n2]⟩
theorem DnKv.reads (I : Inv X pins σ H s) (sy : SysD s.heap) : ∀ {kvs : List (Key × V)} {ds : List (PyData × PyData)}, DnKv X.K H kvs ds -> ∀ {vs : List (Key × Value)} {es : List DictEntry}, KV kvs vs -> Pairs (mixKind X.prog X.w) es vs ->
   ∃ as bs, ReadsAll s.heap (es.map (·.key)) (ds.map (·.1)) as /\ ReadsAll s.heap (es.map (·.val)) (ds.map (·.2)) bs /\ sysModules ∉ as /\ sysModules ∉ bs
 | _, _, .nil, _, _, r, p => by
   cases r
   cases p
   exact ⟨_, _, .nil, .nil, by simp, by simp⟩
 | _, _, .cons h t, _, _, r, p => by
   cases r with
   | cons r1 r2 =>
     cases p with
     | cons k1 v1 p2 =>
       obtain ⟨e1, e2⟩ := r1
       obtain ⟨as, bs, h1, h2, n1, n2⟩ := DnKv.reads I sy t r2 p2
       rw [<- v1] at e2
       obtain ⟨cs, h3, n3⟩ := Dn.reads I sy h e2
       rw [<- e1] at k1
       exact ⟨_, _, .cons (key_reads k1) h1, .cons h3 h2, by simpa using n1, by simp [n3, n2]⟩
end
end
section
variable {X : Cx}
theorem SysD.now {pins : List (Addr × Obj)} {σ : L2.St} {H : Hp} {s : Shared} (x : SysD X.base) (I : Inv X pins σ H s) : SysD s.heap := x.keep λ b o e => (I.env0.bs b o e).1
def rReprQ (K : Fr) : List V -> Hp -> VK -> Prop := λ xs H Q => ∃ v d, xs = [v] /\ Dn K H v d /\ d.showable = true /\ d.depth <= 60 /\ d.shown.length <= sizeLine /\ Q (.str d.shown) H
theorem cr_reprQ (hy : SysD X.base) (hg : X.A.guards = some []) (hu : X.A.units + 64 < cLine) : CallR X (.builtin "repr") (rReprQ X.K) := by
 intro pins s σ H xs us Q I r h
 obtain ⟨v, d, rfl, hd, hs, hp, hz, q⟩ := h
 obtain ⟨u, rfl, ru⟩ := vals1 r
 obtain ⟨as, rd, ns⟩ := hd.reads I (hy.now I) ru
 cases hd with
 | non =>
   cases (show u = Value.none from ru)
   refine PySem.P.repr_of_none ⟨.str _, H, I.tok _, ⟨_, rfl⟩, ?_⟩
   simpa only [PyData.shown] using q
 | bl b =>
   cases (show u = Value.bool b from ru)
   refine PySem.P.repr_of_bool ⟨.str _, H, I.tok _, ⟨_, rfl⟩, ?_⟩
   simpa only [PyData.shown] using q
 | int i =>
   obtain ⟨t, rfl⟩ := ru
   refine PySem.P.repr_of_int (by simpa [PyData.showable] using hs) ⟨.str _, H, I.tok _, ⟨_, rfl⟩, ?_⟩
   simpa only [PyData.shown] using q
 | str x =>
   obtain ⟨t, rfl⟩ := ru
   refine PySem.P.repr_of_str ⟨.str _, H, I.tok _, ⟨_, rfl⟩, ?_⟩ (by simpa only [PyData.shown] using hz)
   simpa only [PyData.shown] using q
 | lst h1 h2 =>
   cases ru
   exact repr_of_reads' rd hs (λ _ => ns) hg (by omega) (λ _ _ e => e) (λ h' u tk k => ⟨.str _, H, I.kept k, ⟨_, rfl⟩, q⟩) hz
 | tup h1 h2 =>
   cases ru
   exact repr_of_reads' rd hs (λ _ => ns) hg (by omega) (λ _ _ e => e) (λ h' u tk k => ⟨.str _, H, I.kept k, ⟨_, rfl⟩, q⟩) hz
 | dct h1 h2 =>
   cases ru
   exact repr_of_reads' rd hs (λ _ => ns) hg (by omega) (λ _ _ e => e) (λ h' u tk k => ⟨.str _, H, I.kept k, ⟨_, rfl⟩, q⟩) hz
end
def EqQ (K : Fr) (H : Hp) (E : V -> V -> Prop) (x y : V) : Prop := EqR K H E x y \/
 (∃ a b ks ls, x = .ref a /\ y = .ref b /\ Rd H a (.dK ks) /\ Rd H b (.dK ls) /\ ks.length = ls.length /\ ∀ p ∈ ks, ∃ u, valV ls p.1 = some u /\ E p.2 u) \/
 ∃ a b xs ys, x = .ref a /\ y = .ref b /\ SqT K H a xs /\ SqT K H b ys /\ Paired E xs ys
theorem eqQ_run {X : Cx} {pins : List (Addr × Obj)} {σ : L2.St} {H : Hp} {s : Shared} (I : Inv X pins σ H s) {A : Around} {F : V -> V -> Prop} (hu : A.units < cLine)
   (ih : ∀ x y v u, F x y -> RelV x v -> RelV y u -> SeqAt.EqP X.prog X.w A.in1 s v u true) {x y : V} {v u : Value} (h : EqQ X.K H F x y) (rx : RelV x v) (ry : RelV y u) (E Q : Value -> Shared -> Prop) (q : Q (.bool true) s) :
   wpAny (model X.prog X.w) A (richCompare .Eq v u) Q E s := by
 rcases h with h | ⟨a, b, ks, ls, rfl, rfl, ha, hb, hl, hp⟩ | ⟨a, b, xs, ys, rfl, rfl, ha, hb, hp⟩
 · exact eqR_run I hu ih h rx ry E Q q
 · obtain rfl : v = Value.ref a := rx
   obtain rfl : u = Value.ref b := ry
   obtain ⟨_, na, wa, ka, oa⟩ := dk_rd I.hok ha
   obtain ⟨_, nb, wb, kb, ob⟩ := dk_rd I.hok hb
   have hz : wa.length = wb.length := by rw [<- ka.length, <- kb.length]; exact hl
   refine PySem.W.rcP_dicts na nb oa ob hu (λ _ => hits_run ih kb ka hp) E Q ?_
   simpa [hz] using q
 · obtain rfl : v = Value.ref a := rx
   obtain rfl : u = Value.ref b := ry
   obtain ⟨us, r1, p1, _⟩ := I.tuple ha
   obtain ⟨ws, r2, p2, _⟩ := I.tuple hb
   have hsz : us.toArray.size = ws.toArray.size := by
     rw [List.size_toArray, List.size_toArray, <- r1.length, <- r2.length]
     exact Paired.length hp
   refine rc_tupEq p1 p2 hsz hu (λ j h1 h2 => ?_) E Q q
   simpa using items_run ih hp r1 r2 j (by simpa using h1) (by simpa using h2)
def EqW (K : Fr) (H : Hp) : Nat -> V -> V -> Prop
 | 0 => λ _ _ => False
 | n + 1 => λ x y => (∃ d, Dp K H x d /\ Dp K H y d /\ SeqAt.shaped d = true) \/ EqQ K H (EqW K H n) x y
theorem shaped_depth {d : PyData} (h : SeqAt.shaped d = true) : d.canLay0 = true /\ d.depth <= 64 := by
 unfold SeqAt.shaped at h
 rw [Bool.and_eq_true] at h
 exact ⟨h.1, of_decide_eq_true h.2⟩
section
variable {X : Cx} {pins : List (Addr × Obj)} {σ : L2.St} {H : Hp} {s : Shared}
theorem eqW_run (I : Inv X pins σ H s) : ∀ (n : Nat) (A : Around), A.units + n + 65 < cLine -> ∀ (x y : V) (v u : Value), EqW X.K H n x y -> RelV x v -> RelV y u -> SeqAt.EqP X.prog X.w A s v u true
 | 0, _, _, _, _, _, _, h, _, _ => (show False from h).elim
 | n + 1, A, hu, x, y, v, u, h, rx, ry => by
   rcases h with ⟨d, d1, d2, sh⟩ | h
   · obtain ⟨as, r1⟩ := Dp.reads I d x v d1 rx
     obtain ⟨bs, r2⟩ := Dp.reads I d y u d2 ry
     have hd := shaped_depth sh
     have := SeqAt.eqAt_reads d d A s v u as bs r1 r2 hd.1 hd.1 (by omega)
     rw [SeqAt.eqv_refl d hd.1] at this
     exact this.eqP
   · have step := eqQ_run I (A := A) (by omega) (eqW_run I n A.in1 (by show A.units + 1 + n + 65 < cLine; omega)) h rx ry
     obtain ⟨a, b, rfl, rfl⟩ : ∃ a b, x = .ref a /\ y = .ref b := by
       rcases h with (⟨a, b, _, _, e1, e2, _⟩ | ⟨a, b, _, _, e1, e2, _⟩) | ⟨a, b, _, _, e1, e2, _⟩ | ⟨a, b, _, _, e1, e2, _⟩
       · exact ⟨a, b, e1, e2⟩
       · exact ⟨a, b, e1, e2⟩
       · exact ⟨a, b, e1, e2⟩
       · exact ⟨a, b, e1, e2⟩
     cases (show v = Value.ref a from rx)
     cases (show u = Value.ref b from ry)
     by_cases e : a = b
     · subst e
       exact (SeqAt.EqAt.same _).eqP
     · exact SeqAt.eqP_refs e step
end
mutual
def dOk : PyData -> Prop
 | .list ds => dOkA ds
 | .dict kvs => (kvs.map (·.1)).Nodup /\ dOkK kvs
 | .tuple ds => dOkA ds
 | .none => True
 | .bool _ => True
 | .int _ => True
 | .str x => SeqAt.shaped (.str x) = true
def dOkA : List PyData -> Prop
 | [] => True
 | d :: r => dOk d /\ dOkA r
def dOkK : List (PyData × PyData) -> Prop
 | [] => True
 | p :: r => dOk p.2 /\ dOkK r
end
section
variable {K : Fr} {H : Hp}
theorem kD_inj {a b : Key} (h : kD a = kD b) : a = b := by
 cases a <;> cases b <;> simp [kD] at h <;> rw [h]
theorem DnKv.key : ∀ {kvs : List (Key × V)} {ds : List (PyData × PyData)}, DnKv K H kvs ds -> ds.map (·.1) = (kvs.map (·.1)).map kD
 | _, _, .nil => rfl
 | _, _, .cons h t => by
   have := DnKv.key t
   simp only [List.map_cons] at this ⊢
   rw [this]
theorem nd_of_map {γ δ : Type} (f : γ -> δ) : ∀ {l : List γ}, (l.map f).Nodup -> l.Nodup
 | [], _ => List.nodup_nil
 | x :: r, h => by
   rw [List.map_cons, List.nodup_cons] at h
   exact List.nodup_cons.mpr ⟨λ z => h.1 (List.mem_map.mpr ⟨x, z, rfl⟩), nd_of_map f h.2⟩
theorem valV_nd : ∀ {ls : List (Key × V)} {i : Nat} {k : Key} {u : V}, (ls.map (·.1)).Nodup -> ls[i]? = some (k, u) -> valV ls k = some u
 | [], i, k, u, _, h => by simp at h
 | q :: r, 0, k, u, _, h => by
   cases (Option.some.inj (show some q = some (k, u) from h))
   exact valV_pos rfl
 | q :: r, i + 1, k, u, nd, h => by
   have nd' := List.nodup_cons.mp nd
   have h' : r[i]? = some (k, u) := by simpa using h
   rw [valV_neg]
   · exact valV_nd nd'.2 h'
   · intro e
     exact nd'.1 (List.mem_map.mpr ⟨(k, u), List.mem_of_getElem? h', e.symm⟩)
mutual
theorem Dn.eqW : ∀ {x y : V} {d : PyData} {n : Nat}, Dn K H x d -> Dn K H y d -> dOk d -> d.depth < n -> EqW K H n x y
 | _, _, _, 0, _, _, _, hn => absurd hn (Nat.not_lt_zero _)
 | _, _, _, n + 1, .non, h, _, _ => by cases h; exact .inl ⟨_, .non, .non, by decide⟩
 | _, _, _, n + 1, .bl b, h, _, _ => by cases h; exact .inl ⟨_, .bl b, .bl b, by cases b <;> decide⟩
 | _, _, _, n + 1, .int i, h, _, _ => by cases h; exact .inl ⟨_, .int i, .int i, rfl⟩
 | _, _, _, n + 1, .str z, h, ok, _ => by cases h; exact .inl ⟨_, .str z, .str z, ok⟩
 | _, _, _, n + 1, .tup a q, h, ok, hn => by
   cases h with
   | tup b q2 => exact .inr (.inr (.inr ⟨_, _, _, _, rfl, rfl, a, b, DnAll.eqW q q2 ok (by simpa [PyData.depth] using hn)⟩))
 | _, _, _, n + 1, .lst a q, h, ok, hn => by
   cases h with
   | lst b q2 => exact .inr (.inl (.inl ⟨_, _, _, _, rfl, rfl, a, b, DnAll.eqW q q2 ok (by simpa [PyData.depth] using hn)⟩))
 | _, _, _, n + 1, .dct (ds := ds) a q, h, ok, hn => by
   cases h with
   | @dct _ kvs2 _ b q2 =>
     have ok' : (ds.map (·.1)).Nodup /\ dOkK ds := ok
     have hl : PyData.depthKv ds < n := by simpa [PyData.depth] using hn
     obtain ⟨h1, h2⟩ := DnKv.eqW q q2 ok'.2 hl
     refine .inr (.inr (.inl ⟨_, _, _, _, rfl, rfl, a, b, h1, λ p hp => ?_⟩))
     obtain ⟨i, hi⟩ := List.getElem?_of_mem hp
     obtain ⟨u, hu, hw⟩ := h2 i p hi
     refine ⟨u, ?_, hw⟩
     have nd : (kvs2.map (·.1)).Nodup := by
       have := ok'.1
       rw [q2.key] at this
       exact nd_of_map _ this
     exact valV_nd nd hu
theorem DnKv.eqW : ∀ {xs ys : List (Key × V)} {ds : List (PyData × PyData)} {n : Nat}, DnKv K H xs ds -> DnKv K H ys ds -> dOkK ds -> PyData.depthKv ds < n ->
   xs.length = ys.length /\ ∀ (i : Nat) (p : Key × V), xs[i]? = some p -> ∃ u, ys[i]? = some (p.1, u) /\ EqW K H n p.2 u
 | _, _, _, _, .nil, h, _, _ => by
   cases h
   exact ⟨rfl, λ i p h => by simp at h⟩
 | _, _, _, n, .cons (k := k) (d := d) a t, h, ok, hn => by
   generalize hds : ((kD k, d) :: _ : List (PyData × PyData)) = dd at h
   cases h with
   | nil => cases hds
   | cons a2 t2 =>
     injection hds with e1 e2
     injection e1 with e3 e4
     have e5 := kD_inj e3
     subst e5
     subst e4
     subst e2
     have hn' := hn
     simp only [PyData.depthKv] at hn'
     obtain ⟨h1, h2⟩ := DnKv.eqW (n := n) t t2 ok.2 (by omega)
     refine ⟨by rw [List.length_cons, List.length_cons, h1], λ i p hp => ?_⟩
     cases i with
     | zero =>
       cases hp
       exact ⟨_, rfl, Dn.eqW a a2 ok.1 (show d.depth < n by omega)⟩
     | succ i =>
       obtain ⟨u, hu, hw⟩ := h2 i p (by simpa using hp)
       exact ⟨u, by simpa using hu, hw⟩
theorem DnAll.eqW : ∀ {xs ys : List V} {ds : List PyData} {n : Nat}, DnAll K H xs ds -> DnAll K H ys ds -> dOkA ds -> PyData.depthAll ds < n -> Paired (EqW K H n) xs ys
 | _, _, _, _, .nil, h, _, _ => by cases h; exact .nil
 | _, _, _, _, .cons a t, h, ok, hn => by
   cases h with
   | cons a2 t2 =>
     have hn' := hn
     simp only [PyData.depthAll] at hn'
     exact .cons (Dn.eqW a a2 ok.1 (by omega)) (DnAll.eqW t t2 ok.2 (by omega))
end
end
section
variable {X : Cx}
def rEqW (K : Fr) : R2 := λ x y H Q => ∃ d, Dn K H x d /\ Dn K H y d /\ dOk d /\ d.depth <= 60 /\ Q (.bl true) H
theorem op_eqW (hu : X.A.units + 128 < cLine) : OpR X (compareOp .Eq) (rEqW X.K) := by
 intro pins s σ H x y v u Q I rx ry h
 obtain ⟨d, d1, d2, ok, hd, q⟩ := h
 have w := Dn.eqW (n := 61) d1 d2 ok (by omega)
 rcases w with ⟨d', e1, e2, sh⟩ | w
 · refine op_eqD (X := X) (by omega) pins s σ H x y v u Q I rx ry ⟨d', d', e1, e2, sh, sh, ?_⟩
   rw [SeqAt.eqv_refl d' (shaped_depth sh).1]
   exact q
 · exact eqQ_run I (A := X.A) (by omega) (eqW_run I 60 X.A.in1 (by show X.A.units + 1 + 60 + 65 < cLine; omega)) w rx ry _ _ ⟨.bl true, H, I, rfl, q⟩
def uEqQ (K : Fr) : R2 := λ x y H Q => uEq K x y H Q \/ rEqW K x y H Q
theorem uo_eqQ (hu : X.A.units + 128 < cLine) : OpR X (compareOp .Eq) (uEqQ X.K) := (uo_eq (by omega)).or (op_eqW hu)
theorem units128 {k : Nat} {A : Around} (hr : Room k A) : A.units + 128 < cLine := by
 have := hr.un
 have := hr.dp
 omega
end
end RC

namespace RC
open PySem PySem.Spec PyProof.Rows L2
section
variable {κ α : Type} {K : Fr} {ik : κ -> Key} {e : α -> PyData} {m : List (κ × α)} {Rs : List Res} {H : Hp} {Q : VK} {σ : L2.St} {D : Ends} {p : Addr}
abbrev OE := Str × Addr × List Int
variable {es : List OE} {om : List (Str × List Int)}
end
section
variable {α β : Type} {K : Fr} {e : α -> PyData} {Rs : List Res} {H : Hp} {Q : VK} {σ : L2.St} {D : Ends} {p : Addr}
end
theorem Dn.by_ {K : Fr} {H : Hp} {v : V} {d e : PyData} (h : d = e) (q : Dn K H v e) : Dn K H v d := h ▸ q
structure AlkOk (d : PyData) : Prop where
 ok : dOk d
 sh : d.showable = true
 dp : d.depth <= 60
 ln : d.shown.length <= sizeLine
structure ShQ (dp bk : Nat) (d : PyData) : Prop where
 ok : dOk d
 sh : d.showable = true
 lf : d.leavesShort 400 = true
 dp : d.depth <= dp
 bk : d.bulk <= bk
theorem ShQ.alk {dp bk : Nat} {d : PyData} (h : ShQ dp bk d) (h1 : dp <= 60) (h2 : bk <= 40000) : AlkOk d := by
 refine ⟨h.ok, h.sh, Nat.le_trans h.dp h1, ?_⟩
 have z := PyData.shown_le_bulk 400 (by decide) d h.lf
 have b := h.bk
 rw [sizeLine_eq]
 omega
theorem ShQ.up {dp bk dp' bk' : Nat} {d : PyData} (h : ShQ dp bk d) (h1 : dp <= dp') (h2 : bk <= bk') : ShQ dp' bk' d := ⟨h.ok, h.sh, h.lf, Nat.le_trans h.dp h1, Nat.le_trans h.bk h2⟩
theorem log2_lt {n : Int} (h : n.natAbs < 2 ^ 1000) : n.natAbs.log2 < 1920 := by
 rcases Nat.eq_zero_or_pos n.natAbs with e | e
 · rw [e]
   decide
 · have := (Nat.log2_lt (by omega)).mpr h
   omega
theorem ShQ.int {n : Int} (h : n.natAbs < 2 ^ 1000) : ShQ 0 0 (.int n) := by
 have l := log2_lt h
 refine ⟨trivial, by simpa [PyData.showable] using l, ?_, by simp [PyData.depth], by simp [PyData.bulk]⟩
 have q : (2 : Nat) ^ 1000 < 10 ^ 310 := by decide +kernel
 have z : (PySem.Str.ofString (toString n)).length <= 311 := by
   have := int_text_length_le10 (a := n) (k := 310) (by decide) (by omega)
   rw [PySem.ofString_length]
   exact this
 simp only [PyData.leavesShort, PyData.shown]
 exact decide_eq_true (Nat.le_trans z (show 311 <= 400 by decide))
theorem ShQ.all {dp bk : Nat} : ∀ {ds : List PyData}, (∀ d ∈ ds, ShQ dp bk d) -> dOkA ds /\ PyData.showableAll ds = true /\ PyData.leavesShortAll 400 ds = true /\ PyData.depthAll ds <= dp /\ PyData.bulkAll ds <= ds.length * (bk + 1)
 | [], _ => ⟨trivial, rfl, rfl, Nat.zero_le _, by simp [PyData.bulkAll]⟩
 | d :: ds, h => by
   have a := h d List.mem_cons_self
   obtain ⟨h0, h1, h2, h3, h4⟩ := ShQ.all λ x hx => h x (List.mem_cons_of_mem _ hx)
   refine ⟨⟨a.ok, h0⟩, by simp [PyData.showableAll, a.sh, h1], by simp [PyData.leavesShortAll, a.lf, h2], ?_, ?_⟩
   · simp only [PyData.depthAll]
     have := a.dp
     omega
   · simp only [PyData.bulkAll, List.length_cons]
     have := a.bk
     rw [Nat.add_mul]
     omega
theorem ShQ.list {dp bk : Nat} {ds : List PyData} (h : ∀ d ∈ ds, ShQ dp bk d) : ShQ (dp + 1) (ds.length * (bk + 1)) (.list ds) := by
 obtain ⟨h0, h1, h2, h3, h4⟩ := ShQ.all h
 refine ⟨h0, by simpa [PyData.showable] using h1, by simpa [PyData.leavesShort] using h2, ?_, by simpa [PyData.bulk] using h4⟩
 simp only [PyData.depth]
 omega
end RC

namespace RC
open PySem PySem.Spec PyProof.Rows L2
theorem walk_S {l : PySem.W.OpenLaw} {n k : Nat} {q : Program} {loose : List Str} {XP : (Str -> Option Value) -> Heap -> Prop} {YP : World -> Heap -> Prop} {d : DefRec} {CX : World -> CXT} {x : Str}
   (hi : importsNone q = true) (hn : l.most = some n) (hn2 : n <= sizeLine) (hdf : d.params.defaults = []) (hr : Room k callerA)
   (F : ∀ (w : World) (mg : Str -> Option Value) (fa : Addr) (h : Heap), YP w h -> h.Ns mainGlobals mg -> mg d.name = some (.ref fa) ->
     ∃ (K : Fr) (fd : FuncData) (sp : Sp), K.In h /\ (∀ (s : Shared) (u : Value), BindsTo s fd ⟨[u], []⟩ [(x, u)]) /\
       (∀ (H : Hp) (a : Addr) (ns : List Int), ns.length <= n -> SqL K H a (ns.map V.int) -> sp [.ref a] H (λ v _ => v = .bl true) λ _ _ _ => False) /\
       ∀ base : Heap, K.In base -> base.Ns mainGlobals mg -> NDX base -> FnX true l.prog w K mg base (CX w) k fa fd [x] sp)
   (hCX : ∀ (w : World) (H : Hp) (s : Shared) (e : Value) (s' : Shared), CX w [] H s (λ _ _ _ => False) e s' -> False) :
   PySem.W.WalkO q loose XP YP l.row.toRowW d [] (λ f vs => PySem.call f vs) := by
 refine Att.attach_call hn hdf ?_
 intro w s0 s1 mg mb fa o pm cd doc a vs ns G Y ho hd hcd hmg hobj hints hlen hgen
 obtain ⟨K, fd, sp, KX, hb, hsp, hF⟩ := F w mg fa _ Y G.T.g hmg
 exact law_callN KX G.T.g G.T.b G.T.builtins G.T.nolimit (λ h' kp => ⟨nd_keep G.T.nodigits kp, by
     obtain ⟨mm, ⟨o, es, ep, e, d, _⟩, _⟩ := (G.T.seer hi).mods
     exact ⟨o, es, ep, kp _ _ _ _ e d, d⟩⟩) hgen hobj hints
   (Nat.le_trans hlen hn2) hr hF hb (λ H hS => hsp H a ns hlen hS) (λ H e s' => hCX w H s1 e s')
end RC

namespace RC
open PySem PySem.Spec PyProof.Rows L2
def anyAt : PyData -> Int -> Option PyData
 | .list ds, i => atI ds i
 | .tuple ds, i => atI ds i
 | _, _ => none
section
variable {α β γ : Type} {K : Fr} {Rs : List Res} {H : Hp} {σ : L2.St} {Q : VK} {D : Ends} {v w : V} {d d' : PyData} {p : Addr} {e : α -> PyData} {xs ys : List α}
theorem M.cstA (S : M Rs H) (i : Nat) (h0 : Rs[i]? = some (da K v d)) (h : d = d') : M (da K v d' :: Rs) H := h ▸ M.addA S (EnF.at i h0)
theorem v_ixa {i : Int} {x : PyData} (S : M Rs H) (j : Nat) (hj : Rs[j]? = some (da K v d)) (hx : anyAt d i = some x) (k : ∀ u, M (da K u x :: Rs) H -> Q u H) : uIx K v (.int i) H Q := by
 cases d with
 | list ds => exact v_ixq S (.inl (EnF.at j hj)) hx k
 | tuple ds => exact v_ixq S (.inr (EnF.at j hj)) hx k
 | _ => cases hx
theorem DqAll.fixT {F : Hp} {L : List Cell} {vs : List V} {ds : List PyData} (s : Sat F Rs L) (m : MemC F L H) (q : DqAll K F vs ds) (k : ∀ p H', M (da K (.ref p) (.tuple ds) :: Rs) H' -> Q (.ref p) H') : ∀ p, H p = none -> Q (.ref p) (upd H p (.tup vs)) := by
 intro p hp
 have S1 : M (daA K vs ds :: Rs) H := ⟨F, L, ⟨[], L, rfl, ⟨rfl, q⟩, s⟩, m⟩
 refine k p _ ?_
 have S2 : M (pt p (.tup vs) :: daA K vs ds :: Rs) (upd H p (.tup vs)) := S1.new hp
 have S3 : M (da K (.ref p) (.tuple ds) :: daA K vs ds :: Rs) (upd H p (.tup vs)) := S2.fixG (R := da K (.ref p) (.tuple ds)) (φ := λ F => DqAll K F vs ds) (λ F L ⟨_, _, _, a, _⟩ => a.2) λ F q e => ⟨rfl, .tup (.inl (.inl e)) q⟩
 exact M.sub (.cons 0 rfl (.tl (.refl _))) S3
theorem v_slA {lo hi : Option Int} (S : M Rs H) (j : Nat) (hj : Rs[j]? = some (da K v (eV e xs))) (k : ∀ u H', M (da K u (eV e (cutL xs lo hi)) :: Rs) H' -> Q u H') : rSlA K v lo hi H Q := by
 obtain ⟨F, L, s, m⟩ := id S
 have d0 := EnF.at j hj F L s
 cases d0 with
 | tup a q =>
   rename_i vs
   refine ⟨_, _, rfl, m.ex.sqT a, λ hw => ?_, λ _ => ?_⟩
   · have hl : vs.length = xs.length := by have := q.len; rwa [List.length_map] at this
     have e1 : cutL xs lo hi = xs := by
       unfold cutL
       rw [<- hl, hw.1, hw.2]
       simp [hl]
     refine k _ H ?_
     rw [e1]
     exact S.addA (EnF.at j hj)
   · refine DqAll.fixT s m (q.cut lo hi) λ p H' S' => k _ H' ?_
     unfold eV
     rw [<- cutL_map]
     exact S'
theorem v_catA (S : M Rs H) (i j : Nat) (hi : Rs[i]? = some (da K v (eV e xs))) (hj : Rs[j]? = some (da K w (eV e ys))) (hz : xs.length + ys.length <= 100000) (k : ∀ u H', M (da K u (eV e (xs ++ ys)) :: Rs) H' -> Q u H') : rCatA K v w H Q := by
 obtain ⟨F, L, s, m⟩ := id S
 have d0 := EnF.at i hi F L s
 have d1 := EnF.at j hj F L s
 cases d0 with
 | tup a q =>
   cases d1 with
   | tup a' q' =>
     rename_i vs _ ws
     have l1 := q.len
     have l2 := q'.len
     rw [List.length_map] at l1 l2
     refine ⟨_, _, _, _, rfl, rfl, m.ex.sqT a, m.ex.sqT a', Nat.le_trans (by rw [l1, l2]; exact hz) (by decide), λ z => ?_, λ _ z => ?_, λ _ _ => ?_⟩
     · subst z
       have : xs = [] := List.length_eq_zero_iff.mp l1.symm
       subst this
       exact k _ H (S.addA (EnF.at j hj))
     · subst z
       have : ys = [] := List.length_eq_zero_iff.mp l2.symm
       subst this
       refine k _ H ?_
       rw [List.append_nil]
       exact S.addA (EnF.at i hi)
     · refine DqAll.fixT s m (q.app q') λ p H' S' => k _ H' ?_
       unfold eV
       rw [List.map_append]
       exact S'
theorem v_all {bs : List Bool} (h : Dq K H v (eL eB bs)) (k : Q (.bl (bs.all id)) H) : rAll K [v] H Q := by
 obtain ⟨a, rfl, hs⟩ := flB.lst h
 exact ⟨a, bs, rfl, hs, k⟩
theorem eV_any (e : α -> PyData) (xs : List α) : eV e xs = eV eA (xs.map e) := by
 unfold eV
 rw [List.map_map]
 rfl
theorem v_hdY {W : WX} {cs : List Value} {sl : Option Nat} {ts : Addr -> Value -> Option Addr -> TS} {r : List Hd} {cls : Value} {dd : Option Addr} (h : PySem.W.exmAny K cls cs = some true) (k : ∀ a, ts a cls dd (Hd.ends D sl) (Hd.put σ a sl) H) : wTry K W D (⟨cs, sl, ts⟩ :: r) cls dd σ H :=
 ⟨true, h, λ _ a _ => k a, λ z => nomatch z⟩
theorem g_xgv {a C dd : Addr} {fs : List (Str × V)} {n : Str} {i : Nat} (hv : σ[i]? = some (some (.ref a))) (c : ExcC K C) (hn : PySem.W.findIn K (.ref C) n = some none) (h : H dd = some (.xd fs)) (l : fs.lookup n = some v) (k : Q v H) : tXg K a (.ref C) (some dd) n (tVar i) σ H Q :=
 g_xg (g_var hv (v_xg c hn h l k))
end
end RC

namespace RC
open PySem PySem.Spec PyProof.Rows L2
section
variable {X : Cx} {CX : CXT} {g : Bool} {k n : Nat} {f C : Addr} {fd : FuncData} {ps ks : List Str} {sp : Sp} {W : WX} {x m : Str} {p pos apos : Pos} {o e : Expr} {es : List Expr} {kws : List Keyword} {t tk : TA} {ta : TE} {gg : List Value -> List Value -> List Value} {gV : List V -> List V -> List V}
end
theorem Sat.got {F : Hp} : ∀ {Rs : List Res} {L : List Cell} (i : Nat) {R : Res}, Sat F Rs L -> Rs[i]? = some R -> ∃ l, R.on F l /\ ∀ c ∈ l, c ∈ L
 | [], L, i, R, _, e => by simp at e
 | S :: Rs, L, 0, R, ⟨l1, l2, h, a, _⟩, e => by
   have e : S = R := Option.some.inj e
   subst e
   exact ⟨l1, a, λ c hc => h ▸ List.mem_append_left _ hc⟩
 | S :: Rs, L, i + 1, R, ⟨l1, l2, h, _, b⟩, e => by
   obtain ⟨l, h1, h2⟩ := Sat.got i b (by simpa using e)
   exact ⟨l, h1, λ c hc => h ▸ List.mem_append_right _ (h2 c hc)⟩
section
variable {K : Fr} {κ α β : Type} {ik : κ -> Key} {e : α -> PyData} {Rs : List Res} {H : Hp} {Q : VK} {v : V} {p : Addr} {m : List (κ × α)} {σ : L2.St}
def DVs (K : Fr) (Rs : List Res) (H : Hp) (ik : κ -> Key) (e : α -> PyData) (v : V) (m : List (κ × α)) : Prop :=
 ∃ p kvs F L, v = .ref p /\ Rd H p (.dK kvs) /\ Sat F Rs L /\ MemC F L H /\ TKv K F ik e kvs m
inductive DF where
 | own
 | lck (p : Addr) (od : Obj) (kvs : List (Key × V))
 | dat
 | fzd (p : Addr) (od : Obj) (kvs : List (Key × V))
theorem DVs.len (D : DVs K Rs H ik e v m) (k : Q (.int (m.length : Nat)) H) : uLen K [v] H Q := by
 obtain ⟨p, kvs, F, L, rfl, h, _, _, t⟩ := D
 exact .inr ⟨p, kvs, rfl, h, by rw [t.len]; exact k⟩
variable [DecidableEq κ]
theorem DVs.at (inj : ∀ a b, ik a = ik b -> a = b) {k : κ} {x : α} (D : DVs K Rs H ik e v m) (hx : lk m k = some x) : ∃ p kvs u, v = .ref p /\ Rd H p (.dK kvs) /\ valV kvs (ik k) = some u /\ M (da K u (e x) :: Rs) H := by
 obtain ⟨p, kvs, F, L, rfl, h, s, mm, t⟩ := D
 obtain ⟨u, h1, h2⟩ := t.some inj hx
 exact ⟨p, kvs, u, rfl, h, h1, F, L, ⟨[], L, rfl, ⟨rfl, h2⟩, s⟩, mm⟩
end
section
variable {K : Fr} {α β : Type} {e : α -> PyData} {Rs : List Res} {H : Hp} {Q : VK} {v : V} {p : Addr} {σ : L2.St}
end
section
variable {K : Fr} {κ α β : Type} {ik : κ -> Key} {e : α -> PyData} {Rs : List Res} {H : Hp} {Q : VK} {v : V} {p : Addr} {m : List (κ × α)} {σ : L2.St} {od : Obj} {kvs : List (Key × V)}
end
end RC

namespace RC
open PySem PySem.Spec PyProof.Rows L2
section
variable {K : Fr} {α β : Type} {e : α -> PyData} {Rs : List Res} {H : Hp} {Q : VK} {v w : V} {p : Addr} {σ : L2.St}
theorem eqvA_ints : ∀ xs ys : List Int, PyData.eqvAll (xs.map eI) (ys.map eI) = decide (xs = ys)
 | [], [] => rfl
 | [], y :: ys => by simp [PyData.eqvAll]
 | x :: xs, [] => by simp [PyData.eqvAll]
 | x :: xs, y :: ys => by
   have ih := eqvA_ints xs ys
   simp only [List.map_cons, PyData.eqvAll, ih]
   by_cases z : x = y
   · subst z
     simp [PyData.eqv]
   · simp [PyData.eqv, z]
theorem v_ifcF {A B : Prop} {b : Bool} (h : b = false) (k : B) : if b = true then A else B := by rw [h]; exact k
theorem v_powc {a b n : Int} (h : (0 : Int) <= b /\ b <= 1000000 /\ a.natAbs < 2 ^ 64) (e : a ^ b.toNat = n) (k : Q (.int n) H) : uPow (.int a) (.int b) H Q := v_pow h (by rw [e]; exact k)
theorem M.drp (S : M Rs H) (i : Nat) : M (Rs.eraseIdx i) H := by
 cases h : Rs[i]? with
 | none =>
   rw [List.eraseIdx_of_length_le (by simpa using h)]
   exact S
 | some R => exact (S.at i h).tl
end
end RC

namespace RC
open PySem PySem.Spec PyProof.Rows L2
theorem forD_inv {α β : Type} {f : α -> β -> (β -> Prop) -> Prop} (Inv : Nat -> β -> Prop) : ∀ {xs : List α} {s : β} {k : β -> Prop} {n : Nat}, Inv n s ->
   (∀ (i : Nat) x s (kk : β -> Prop), xs[i]? = some x -> Inv (n + i) s -> (∀ s', Inv (n + i + 1) s' -> kk s') -> f x s kk) -> (∀ s, Inv (n + xs.length) s -> k s) -> forD f xs s k
 | [], s, k, n, h0, _, hd => hd s h0
 | x :: xs, s, k, n, h0, hs, hd => by
   refine hs 0 x s _ rfl h0 λ s' h' => ?_
   refine forD_inv Inv (n := n + 1) h' (λ i y s kk hy hi hk => ?_) (λ s hi => hd s ?_)
   · refine hs (i + 1) y s kk (by simpa using hy) ?_ λ s' hs' => hk s' ?_
     · rw [show n + (i + 1) = n + 1 + i by omega]
       exact hi
     · rw [show n + 1 + i + 1 = n + (i + 1) + 1 by omega]
       exact hs'
   · rw [List.length_cons, show n + (xs.length + 1) = n + 1 + xs.length by omega]
     exact hi
theorem lcD_all {α β : Type} {f : α -> (Option β -> Prop) -> Prop} {k : List β -> Prop} (G : β -> Prop) : ∀ {xs : List α} {acc : List β}, (∀ x ∈ xs, ∀ kk : Option β -> Prop, (∀ y, G y -> kk (some y)) -> f x kk) -> (∀ y ∈ acc, G y) ->
   (∀ ys, (∀ y ∈ ys, G y) -> ys.length = acc.length + xs.length -> k ys) -> lcD f xs acc k
 | [], acc, _, ha, h => h acc ha rfl
 | x :: xs, acc, hs, ha, h => by
   refine hs x List.mem_cons_self _ λ y hy => ?_
   refine lcD_all G (λ z hz => hs z (List.mem_cons_of_mem _ hz)) (λ z hz => ?_) λ ys hys hl => h ys hys ?_
   · rcases List.mem_append.mp hz with hz | hz
     · exact ha z hz
     · have : z = y := by simpa using hz
       rw [this]
       exact hy
   · rw [hl]
     simp
     omega
def GN (s : Str) : Prop := 1 <= s.length /\ s.length <= 8 /\ ∀ c ∈ s.cps.toList, 97 <= c /\ c <= 122
def GC (ns : List Int) : Prop := ns.length <= 48 /\ ∀ n ∈ ns, 0 <= n /\ n <= 999
theorem tk {n : Int} {k : Int -> Prop} (h : 0 < n /\ n < 2 ^ 62) (g : ∀ v, 0 <= v -> v < n -> k v) : takeD n k := ⟨h, g⟩
theorem atI_ex {α : Type} {xs : List α} {i : Int} (h0 : 0 <= i) (h1 : i < xs.length) : ∃ x ∈ xs, atI xs i = some x := by
 have hl : i.toNat < xs.length := by omega
 exact ⟨xs[i.toNat], List.getElem_mem hl, atI_int h0 (List.getElem?_eq_getElem hl)⟩
theorem rng_mem {n x : Int} (h : x ∈ rng n) : 0 <= x /\ x < n := by
 unfold rng at h
 obtain ⟨i, hi, rfl⟩ := List.mem_map.mp h
 have := List.mem_range.mp hi
 omega
structure GF (m : List (Str × List Int)) : Prop where
 nd : (ks m).Nodup
 nm : ∀ q ∈ m, GN q.1 /\ GC q.2
 ln : m.length <= 8
theorem GF.nil : GF [] := ⟨List.nodup_nil, (λ _ h => nomatch h), by decide⟩
theorem lk_some {κ γ : Type} [DecidableEq κ] {m : List (κ × γ)} {n : κ} (h : n ∈ ks m) : ∃ x, lk m n = some x := by
 induction m with
 | nil => cases h
 | cons q m ih =>
   rw [lk_cons]
   by_cases z : q.1 = n
   · exact ⟨_, if_pos z⟩
   · rw [if_neg z]
     exact ih ((List.mem_cons.mp h).resolve_left λ e => z e.symm)
theorem pk_keys {κ γ : Type} [DecidableEq κ] {m : List (κ × γ)} {n : κ} {x : γ} : ks (pk m n x) = if (lk m n).isSome then ks m else ks m ++ [n] := by
 unfold pk
 rw [any_lk]
 split
 · unfold ks
   rw [List.map_map]
   refine List.map_congr_left λ q _ => ?_
   show (if q.1 = n then (q.1, x) else q).1 = q.1
   split <;> rfl
 · simp [ks]
theorem not_mem_of_lk {κ γ : Type} [DecidableEq κ] {m : List (κ × γ)} {n : κ} (h : lk m n = none) : n ∉ ks m := λ z => by
 obtain ⟨x, e⟩ := lk_some z
 rw [h] at e
 cases e
theorem GF.put {m : List (Str × List Int)} {n : Str} {ns : List Int} (g : GF m) (hn : GN n) (hc : GC ns) (hl : (lk m n).isSome = true \/ m.length < 8) : GF (pk m n ns) := by
 refine ⟨?_, λ q hq => ?_, ?_⟩
 · rw [pk_keys]
   cases e : lk m n with
   | none =>
     simp only [Option.isSome, Bool.false_eq_true, if_false]
     exact List.nodup_append.mpr ⟨g.nd, by simp, λ a ha b hb z => not_mem_of_lk e (by rw [<- show b = n by simpa using hb, <- z]; exact ha)⟩
   | some x => exact g.nd
 · unfold pk at hq
   split at hq
   · obtain ⟨p, hp, rfl⟩ := List.mem_map.mp hq
     have := g.nm p hp
     split
     · exact ⟨this.1, hc⟩
     · exact this
   · rcases List.mem_append.mp hq with hq | hq
     · exact g.nm q hq
     · rw [show q = (n, ns) by simpa using hq]
       exact ⟨hn, hc⟩
 · unfold pk
   rw [any_lk]
   have := g.ln
   split
   · rw [List.length_map]
     exact this
   · rename_i z
     rw [List.length_append]
     simp
     rcases hl with h | h
     · exact absurd h z
     · omega
def cont (m : List (Str × List Int)) : List (Str × List Int) := (srtS' (ks m)).map λ n => (n, (lk m n).getD [])
theorem GN.shq {s : Str} (g : GN s) : ShQ 0 8 (.str s) := by
 refine ⟨?_, rfl, ?_, by simp [PyData.depth], ?_⟩
 · show SeqAt.shaped (.str s) = true
   unfold SeqAt.shaped
   rw [Bool.and_eq_true]
   refine ⟨?_, by simp [PyData.depth]⟩
   simp only [PyData.canLay0, PyData.strOk]
   rw [Array.all_eq_true']
   intro c hc
   have := g.2.2 c (by simpa using hc)
   exact decide_eq_true (by omega)
 · simp only [PyData.leavesShort, List.all_eq_true]
   intro c hc
   have := g.2.2 c hc
   exact decide_eq_true (by omega)
 · exact g.2.1
theorem GC.shq {ns : List Int} (g : GC ns) : ShQ 1 48 (eL eI ns) := by
 have h := ShQ.list (dp := 0) (bk := 0) (ds := ns.map eI) λ d hd => by
   obtain ⟨n, hn, rfl⟩ := List.mem_map.mp hd
   have := g.2 n hn
   exact ShQ.int (Nat.lt_of_lt_of_le (show n.natAbs < 2 ^ 10 by omega) (by decide))
 rw [List.length_map] at h
 exact h.up (Nat.le_refl _) (by have := g.1; omega)
theorem nd_map {α β : Type} {f : α -> β} (inj : ∀ a b, f a = f b -> a = b) : ∀ {l : List α}, l.Nodup -> (l.map f).Nodup
 | [], _ => List.nodup_nil
 | x :: r, h => by
   obtain ⟨h1, h2⟩ := List.nodup_cons.mp h
   rw [List.map_cons]
   refine List.nodup_cons.mpr ⟨λ z => ?_, nd_map inj h2⟩
   obtain ⟨y, hy, e⟩ := List.mem_map.mp z
   rw [inj _ _ e] at hy
   exact h1 hy
end RC

namespace RC
open PySem PySem.Spec PyProof.Rows L2
section
variable {κ α β γ : Type} [DecidableEq κ]
def tr (f : α -> β) (m : List (κ × α)) : List (κ × β) := m.map λ p => (p.1, f p.2)
@[simp] theorem ks_tr (f : α -> β) (m : List (κ × α)) : ks (tr f m) = ks m := by simp [ks, tr]
@[simp] theorem len_tr (f : α -> β) (m : List (κ × α)) : (tr f m).length = m.length := by simp [tr]
@[simp] theorem lk_nil (k : κ) : lk ([] : List (κ × α)) k = none := rfl
end
theorem ShQ.tup {dp bk : Nat} {ds : List PyData} (h : ∀ d ∈ ds, ShQ dp bk d) : ShQ (dp + 1) (ds.length * (bk + 1)) (.tuple ds) := by
 obtain ⟨h0, h1, h2, h3, h4⟩ := ShQ.all h
 refine ⟨h0, by simpa [PyData.showable] using h1, by simpa [PyData.leavesShort] using h2, ?_, by simpa [PyData.bulk] using h4⟩
 simp only [PyData.depth]
 omega
theorem ShQ.non : ShQ 0 0 .none := ⟨trivial, rfl, rfl, by simp [PyData.depth], by simp [PyData.bulk]⟩
theorem ShQ.bl (b : Bool) : ShQ 0 0 (.bool b) := ⟨trivial, rfl, rfl, by simp [PyData.depth], by simp [PyData.bulk]⟩
theorem ShQ.ints {ns : List Int} (h : ∀ n ∈ ns, n.natAbs < 2 ^ 1000) : ShQ 1 ns.length (eL eI ns) := by
 have := ShQ.list (dp := 0) (bk := 0) (ds := ns.map eI) (λ d hd => by
   obtain ⟨n, hn, rfl⟩ := List.mem_map.mp hd
   exact ShQ.int (h n hn))
 simpa [eL] using this
def wdb (s : Str) : Bool := SeqAt.shaped (.str s) && ((PyData.str s).showable && ((PyData.str s).leavesShort 400 && decide (s.length <= 16)))
theorem ShQ.wd {s : Str} (h : wdb s = true) : ShQ 0 16 (.str s) := by
 simp only [wdb, Bool.and_eq_true, decide_eq_true_eq] at h
 exact ⟨h.1, h.2.1, h.2.2.1, by simp [PyData.depth], h.2.2.2⟩
end RC

namespace RC
open PySem PySem.Spec PyProof.Rows L2
structure Shn (dp sz : Nat) (d : PyData) : Prop where
 ok : dOk d
 sh : d.showable = true
 dp : d.depth <= dp
 ln : d.shown.length <= sz
structure ShnA (dp sz : Nat) (ds : List PyData) : Prop where
 ok : dOkA ds
 sh : PyData.showableAll ds = true
 dp : PyData.depthAll ds <= dp
 ln : ((PyData.shownAll ds).map (·.length)).sum + 2 * ds.length <= sz
theorem Shn.up {dp sz dp' sz' : Nat} {d : PyData} (h : Shn dp sz d) (h1 : dp <= dp') (h2 : sz <= sz') : Shn dp' sz' d := ⟨h.ok, h.sh, Nat.le_trans h.dp h1, Nat.le_trans h.ln h2⟩
theorem Shn.alk {dp sz : Nat} {d : PyData} (h : Shn dp sz d) (h1 : dp <= 60) (h2 : sz <= 16000000) : AlkOk d := ⟨h.ok, h.sh, Nat.le_trans h.dp h1, Nat.le_trans h.ln (Nat.le_trans h2 (by rw [sizeLine_eq]; decide))⟩
theorem ShQ.shn {dp bk : Nat} {d : PyData} (h : ShQ dp bk d) : Shn dp (402 * bk + 400) d := by
 refine ⟨h.ok, h.sh, h.dp, ?_⟩
 have z := PyData.shown_le_bulk 400 (by decide) d h.lf
 have b := h.bk
 omega
theorem ShnA.nil : ShnA 0 0 [] := ⟨trivial, rfl, Nat.le_refl _, Nat.le_refl _⟩
theorem ShnA.up {dp sz dp' sz' : Nat} {d : List PyData} (h : ShnA dp sz d) (h1 : dp <= dp') (h2 : sz <= sz') : ShnA dp' sz' d := ⟨h.ok, h.sh, Nat.le_trans h.dp h1, Nat.le_trans h.ln h2⟩
theorem ShnA.cons {dp s s' : Nat} {d : PyData} {ds : List PyData} (a : Shn dp s d) (b : ShnA dp s' ds) : ShnA dp (s + 2 + s') (d :: ds) := by
 have h1 := a.dp
 have h2 := b.dp
 have h3 := a.ln
 have h4 := b.ln
 refine ⟨⟨a.ok, b.ok⟩, by simp [PyData.showableAll, a.sh, b.sh], ?_, ?_⟩
 · simp only [PyData.depthAll]
   omega
 · simp only [PyData.shownAll, List.map_cons, List.sum_cons, List.length_cons]
   omega
theorem ShnA.all {dp s : Nat} : ∀ {ds : List PyData}, (∀ d ∈ ds, Shn dp s d) -> ShnA dp (ds.length * (s + 2)) ds
 | [], _ => ShnA.nil.up (Nat.zero_le _) (Nat.zero_le _)
 | d :: ds, h => by
   have a := h d List.mem_cons_self
   have b := ShnA.all λ x hx => h x (List.mem_cons_of_mem _ hx)
   refine (ShnA.cons a b).up (Nat.le_refl _) ?_
   rw [List.length_cons, Nat.add_mul]
   omega
theorem ShnA.app {dp s s' : Nat} : ∀ {ds es : List PyData}, ShnA dp s ds -> ShnA dp s' es -> ShnA dp (s + s') (ds ++ es)
 | [], es, a, b => b.up (Nat.le_refl _) (by omega)
 | d :: ds, es, a, b => by
   have h1 := a.dp
   have h4 := a.ln
   have h0 := a.ok
   have hs := a.sh
   simp only [PyData.depthAll] at h1
   simp only [PyData.shownAll, List.map_cons, List.sum_cons, List.length_cons] at h4
   simp only [PyData.showableAll, Bool.and_eq_true] at hs
   have c : ShnA dp (((PyData.shownAll ds).map (·.length)).sum + 2 * ds.length) ds := ⟨h0.2, hs.2, by omega, Nat.le_refl _⟩
   have e : Shn dp d.shown.length d := ⟨h0.1, hs.1, by omega, Nat.le_refl _⟩
   exact (ShnA.cons e (ShnA.app c b)).up (Nat.le_refl _) (by omega)
theorem Shn.list {dp s : Nat} {ds : List PyData} (h : ShnA dp s ds) : Shn (dp + 1) (s + 3) (.list ds) := by
 have h1 := h.dp
 have h2 := listText_len_le (PyData.shownAll ds)
 have h3 := PyData.shownAll_length ds
 have h4 := h.ln
 refine ⟨h.ok, by simpa [PyData.showable] using h.sh, ?_, ?_⟩
 · simp only [PyData.depth]
   omega
 · simp only [PyData.shown]
   omega
theorem Shn.tup {dp s : Nat} {ds : List PyData} (h : ShnA dp s ds) : Shn (dp + 1) (s + 3) (.tuple ds) := by
 have h1 := h.dp
 have h2 := tupleText_len_le (PyData.shownAll ds)
 have h3 := PyData.shownAll_length ds
 have h4 := h.ln
 refine ⟨h.ok, by simpa [PyData.showable] using h.sh, ?_, ?_⟩
 · simp only [PyData.depth]
   omega
 · simp only [PyData.shown]
   omega
theorem Shn.int {n : Int} (k : Nat) (h0 : 0 < k) (hk : k <= 500) (h : n.natAbs < 10 ^ k) : Shn 0 (k + 1) (.int n) := by
 have l : n.natAbs.log2 < 1920 := by
   rcases Nat.eq_zero_or_pos n.natAbs with e | e
   · rw [e]
     decide
   · refine (Nat.log2_lt (by omega)).mpr (Nat.lt_of_lt_of_le h ?_)
     exact Nat.le_trans (Nat.pow_le_pow_right (by decide) hk) (by decide +kernel)
 refine ⟨trivial, by simpa [PyData.showable] using l, by simp [PyData.depth], ?_⟩
 have := int_text_length_le10 (a := n) (k := k) h0 h
 simp only [PyData.shown]
 rw [PySem.ofString_length]
 exact this
theorem Shn.non : Shn 0 4 .none := ⟨trivial, rfl, by simp [PyData.depth], by decide⟩
theorem Shn.bl (b : Bool) : Shn 0 5 (.bool b) := ⟨trivial, rfl, by simp [PyData.depth], by cases b <;> decide⟩
theorem Shn.wd {s : Str} (h : wdb s = true) : Shn 0 200 (.str s) := by
 simp only [wdb, Bool.and_eq_true, decide_eq_true_eq] at h
 refine ⟨h.1, h.2.1, by simp [PyData.depth], ?_⟩
 have hx : ∀ c ∈ s.cps.toList, c < 16 ^ 8 := by simpa only [PyData.leavesShort, List.all_eq_true, decide_eq_true_eq] using h.2.2.1
 have e := PySem.StrLaws.reprText_len s hx
 have l : s.length <= 16 := h.2.2.2
 simp only [PyData.shown]
 omega
theorem GN.shn {s : Str} (g : GN s) : Shn 0 100 (.str s) := by
 have q := g.shq
 refine ⟨q.ok, q.sh, q.dp, ?_⟩
 have hx : ∀ c ∈ s.cps.toList, c < 16 ^ 8 := λ c hc => by
   have := (g.2.2 c hc).2
   omega
 have e := PySem.StrLaws.reprText_len s hx
 have l : s.length <= 8 := g.2.1
 simp only [PyData.shown]
 omega
theorem Shn.dict {α : Type} {e : α -> PyData} {dp s n : Nat} {m : List (Str × α)} (nd : (ks m).Nodup) (h : ∀ q ∈ m, GN q.1 /\ Shn dp s (e q.2)) (hl : m.length <= n) : Shn (dp + 1) (n * (s + 104) + 3) (eD iS e m) := by
 have key : ∀ {m : List (Str × α)}, (∀ q ∈ m, GN q.1 /\ Shn dp s (e q.2)) -> dOkK (m.map λ p => (kD (iS p.1), e p.2)) /\ PyData.showableKv (m.map λ p => (kD (iS p.1), e p.2)) = true /\
     PyData.depthKv (m.map λ p => (kD (iS p.1), e p.2)) <= dp /\ ((PyData.shownKv (m.map λ p => (kD (iS p.1), e p.2))).map (·.length)).sum + 2 * m.length <= m.length * (s + 104) := by
   intro m
   induction m with
   | nil => exact λ _ => ⟨trivial, rfl, Nat.zero_le _, Nat.zero_le _⟩
   | cons q m ih =>
     intro h
     obtain ⟨h0, h1, h3, h4⟩ := ih λ z hz => h z (List.mem_cons_of_mem _ hz)
     obtain ⟨a, b⟩ := h q List.mem_cons_self
     have sa : Shn 0 100 (kD (iS q.1)) := a.shn
     have b1 := b.ln
     have b2 := sa.ln
     have b3 := b.dp
     have b4 := sa.dp
     refine ⟨⟨b.ok, h0⟩, ?_, ?_, ?_⟩
     · simp [PyData.showableKv, sa.sh, b.sh, h1]
     · simp only [List.map_cons, PyData.depthKv]
       omega
     · have e2 : ((kD (iS q.1)).shown ++ ": " ++ (e q.2).shown).length = (kD (iS q.1)).shown.length + 2 + (e q.2).shown.length := by
         rw [PySem.strLen_append, PySem.strLen_append]
         rfl
       simp only [List.map_cons, PyData.shownKv, List.sum_cons, List.length_cons]
       rw [Nat.add_mul]
       omega
 obtain ⟨h0, h1, h3, h4⟩ := key h
 have h5 := dictText_len_le (PyData.shownKv (m.map λ p => (kD (iS p.1), e p.2)))
 have h6 := PyData.shownKv_length (m.map λ p => (kD (iS p.1), e p.2))
 rw [List.length_map] at h6
 have h7 := Nat.mul_le_mul_right (s + 104) hl
 refine ⟨⟨?_, h0⟩, by simpa [PyData.showable, eD] using h1, ?_, ?_⟩
 · rw [List.map_map]
   have e : ((λ x : PyData × PyData => x.1) ∘ λ p : Str × α => (kD (iS p.1), e p.2)) = (λ n : Str => kD (iS n)) ∘ (λ p : Str × α => p.1) := rfl
   rw [e, <- List.map_map]
   exact nd_map (λ a b z => injS _ _ (kD_inj z)) nd
 · simp only [eD, PyData.depth]
   omega
 · simp only [eD, PyData.shown]
   omega
end RC

namespace RC
open PySem PySem.Spec PyProof.Rows L2
def stp (m : Nat) : Nat -> Nat -> Nat
 | 0, i => i
 | n + 1, i => stp m n ((i * 5 + 1) % (m + 1))
structure MOk (m : Nat) : Prop where
 get : ∀ j, j <= m -> ∃ b, b < m + 1 /\ stp m b 0 = j
 back : stp m (m + 1) 0 = 0
def occ (m : Nat) (ow : Array (Option Nat)) : List Nat := (List.range (m + 1)).filterMap λ j => ow.getD j none
structure OwI (m : Nat) (ow : Array (Option Nat)) (k : Nat) : Prop where
 sz : ow.size = m + 1
 pm : (occ m ow).Perm (List.range k)
theorem fm_congr {α β : Type} {f g : α -> Option β} : ∀ {l : List α}, (∀ x ∈ l, f x = g x) -> l.filterMap f = l.filterMap g
 | [], _ => rfl
 | x :: l, h => by
   rw [List.filterMap_cons, List.filterMap_cons, h x List.mem_cons_self, fm_congr λ y hy => h y (List.mem_cons_of_mem _ hy)]
theorem OwI.put {m k q : Nat} {ow : Array (Option Nat)} (h : OwI m ow k) (hq : (ow.getD q (some 0)).isNone = true) : OwI m (ow.setIfInBounds q (some k)) (k + 1) := by
 have hlt : q < ow.size := by
   rcases Nat.lt_or_ge q ow.size with z | z
   · exact z
   · simp [Array.getD, Nat.not_lt.mpr z] at hq
 have hn : ow.getD q none = none := by
   have e : ow.getD q none = ow.getD q (some 0) := by simp [Array.getD, hlt]
   rw [e]
   simpa using hq
 refine ⟨by simp [h.sz], ?_⟩
 have hs := h.sz
 have sp : List.range (m + 1) = List.range q ++ q :: (List.range' (q + 1) (m - q)) := by
   rw [List.range_eq_range', show m + 1 = q + (1 + (m - q)) by omega, <- List.range'_append_1, <- List.range'_append_1, List.range_eq_range']
   simp
 have ne : ∀ j, j ≠ q -> (ow.setIfInBounds q (some k)).getD j none = ow.getD j none := λ j hj => by
   simp only [Array.getD_eq_getD_getElem?]
   rw [Array.getElem?_setIfInBounds_ne (λ z => hj z.symm)]
 have same : (ow.setIfInBounds q (some k)).getD q none = some k := by
   simp only [Array.getD_eq_getD_getElem?]
   rw [Array.getElem?_setIfInBounds_self_of_lt hlt]
   rfl
 have a : occ m (ow.setIfInBounds q (some k)) = (List.range q).filterMap (λ j => ow.getD j none) ++ k :: (List.range' (q + 1) (m - q)).filterMap (λ j => ow.getD j none) := by
   unfold occ
   rw [sp, List.filterMap_append, List.filterMap_cons_some (f := λ j => (ow.setIfInBounds q (some k)).getD j none) same]
   congr 1
   · exact fm_congr λ j hj => ne j (by have := List.mem_range.mp hj; omega)
   · congr 1
     exact fm_congr λ j hj => ne j (by have := List.mem_range'_1.mp hj; omega)
 have b : occ m ow = (List.range q).filterMap (λ j => ow.getD j none) ++ (List.range' (q + 1) (m - q)).filterMap (λ j => ow.getD j none) := by
   unfold occ
   rw [sp, List.filterMap_append, List.filterMap_cons_none (f := λ j => ow.getD j none) hn]
 rw [a, List.range_succ]
 have p := h.pm
 rw [b] at p
 exact (List.perm_middle.trans (p.cons k)).trans (List.perm_append_singleton _ _).symm
end RC

namespace RC
open PySem PySem.Spec PyProof.Rows L2
def kyM : Value -> Key
 | .int i _ => .inl i
 | .str x _ => .inr x
 | _ => .inl 0
def GdM (w : World) (e : Int × Value) : Prop := keyIs (kyM e.2) e.2 = true /\ e.1 = keyH w (kyM e.2)
def kys (es : Array (Int × Value)) : List Key := es.toList.map λ e => kyM e.2
def SM (w : World) (h : Heap) (a : Addr) (L : List Key) : Prop :=
 ∃ o es ep t, h.get? a = some o /\ o.ExactSet /\ o.data = .set es ep t /\ (∀ e ∈ es.toList, GdM w e) /\ kys es = L /\ L.Nodup /\ es.size < scanBound /\ t.fits es.size = true /\ Ris t.place.toList /\ (w.params.followText "set-order" = true \/ t.led = true)
section
variable {P : Program} {w : World} {h h' : Heap} {a : Addr} {L : List Key}
theorem SM.keep (R : SM w h a L) (k : ∀ o, h.get? a = some o -> h'.get? a = some o) : SM w h' a L := by
 obtain ⟨o, es, ep, t, ho, r⟩ := R
 exact ⟨o, es, ep, t, k o ho, r⟩
end
section
variable {P : Program} {w : World} {A : Around} {E : Value -> Shared -> Prop} {s : Shared} {a : Addr} {L : List Key}
end
end RC

namespace RC
open PySem PySem.Spec PyProof.Rows L2
structure SX (w : World) (h : Heap) (a : Addr) (es : Array (Int × Value)) (ep : Nat) (t : SetTable) : Prop where
 ob : ∃ o, h.get? a = some o /\ o.ExactSet /\ o.data = .set es ep t
 gd : ∀ e ∈ es.toList, GdM w e
 nd : (kys es).Nodup
 sz : es.size < scanBound
 ft : t.fits es.size = true
 rs : Ris t.place.toList
 ld : w.params.followText "set-order" = true \/ t.led = true
theorem SX.keep {w : World} {h h' : Heap} {a : Addr} {es : Array (Int × Value)} {ep : Nat} {t : SetTable} (R : SX w h a es ep t) (k : ∀ o, h.get? a = some o -> h'.get? a = some o) : SX w h' a es ep t := by
 obtain ⟨o, a1, a2, a3⟩ := R.ob
 exact ⟨⟨o, k o a1, a2, a3⟩, R.gd, R.nd, R.sz, R.ft, R.rs, R.ld⟩
section
variable {P : Program} {w : World} {A : Around} {E : Value -> Shared -> Prop} {s : Shared} {a : Addr} {es : Array (Int × Value)} {ep : Nat} {t : SetTable}
end
section
variable {P : Program} {w : World} {A : Around} {E : Value -> Shared -> Prop} {s : Shared} {a b : Addr} {es eo : Array (Int × Value)} {ep eq : Nat} {t to : SetTable}
end
end RC

namespace RC
open PySem PySem.Spec PyProof.Rows L2
theorem nodup_le {α : Type} : ∀ {l m : List α}, l.Nodup -> (∀ x ∈ l, x ∈ m) -> l.length <= m.length
 | [], m, _, _ => Nat.zero_le _
 | x :: l, m, nd, h => by
   obtain ⟨n1, n2⟩ := List.nodup_cons.mp nd
   obtain ⟨a, b, rfl⟩ := List.append_of_mem (h x List.mem_cons_self)
   have := nodup_le (m := a ++ b) n2 λ y hy => by
     have := h y (List.mem_cons_of_mem _ hy)
     rcases List.mem_append.mp this with z | z
     · exact List.mem_append_left _ z
     · rcases List.mem_cons.mp z with z | z
       · exact absurd (z ▸ hy) n1
       · exact List.mem_append_right _ z
   rw [List.length_append] at this
   rw [List.length_cons, List.length_append, List.length_cons]
   omega
section
variable {P : Program} {w : World} {A : Around} {E : Value -> Shared -> Prop} {s : Shared} {a b : Addr} {es eo : Array (Int × Value)} {ep eq : Nat} {t to : SetTable}
structure Got (L0 : List Key) (ks L : List Key) : Prop where
 nd : L.Nodup
 mem : ∀ k, k ∈ L ↔ k ∈ L0 \/ k ∈ ks
theorem Got.nil {L0 : List Key} (h : L0.Nodup) : Got L0 [] L0 := ⟨h, λ k => by simp⟩
theorem Got.len {L0 ks L : List Key} (g : Got L0 ks L) : L.length <= L0.length + ks.length := by
 have := nodup_le g.nd λ k hk => List.mem_append.mpr ((g.mem k).mp hk)
 rwa [List.length_append] at this
end
end RC

namespace RC
open PySem PySem.Spec PyProof.Rows L2
section
variable {P : Program} {w : World} {A : Around} {E : Value -> Shared -> Prop} {s : Shared}
variable {a d : Addr} {es : Array (Int × Value)} {ep : Nat} {t : SetTable} {vs : List (Key × Value)}
end
end RC

namespace RC
open PySem PySem.Spec PyProof.Rows L2
section
variable {P : Program} {w : World} {A : Around} {E : Value -> Shared -> Prop} {s : Shared} {a b : Addr} {ea eb : Array (Int × Value)} {pa pb : Nat} {ta tb : SetTable}
end
end RC

namespace RC
open PySem PySem.Spec PyProof.Rows L2
section
variable {P : Program} {w : World} {A : Around} {E : Value -> Shared -> Prop} {s : Shared} {a : Addr} {es : Array (Int × Value)} {ep : Nat} {t : SetTable}
end
section
variable {P : Program} {w : World} {A : Around} {E : Value -> Shared -> Prop} {s : Shared}
end
def SetH (w : World) (a : Addr) (L : List Key) : HO := .ext λ h => SM w h a L
section
variable {X : Cx}
def rSetL (K : Fr) (w : World) : List V -> Hp -> VK -> Prop := λ xs H Q => ∃ (l : Addr) (ks : List Key), xs = [.ref l] /\ SqL K H l (ks.map kV) /\ ks.length < 4000 /\ ∀ p L, H p = none -> Got [] ks L -> Q (.ref p) (upd H p (SetH w p L))
end
end RC

namespace RC
open PySem PySem.Spec PyProof.Rows L2
section
variable {P : Program} {w : World} {A : Around} {E : Value -> Shared -> Prop} {s : Shared} {a b : Addr} {ea eb : Array (Int × Value)} {pa pb : Nat} {ta tb : SetTable} {es : Array (Int × Value)} {ep : Nat} {t : SetTable}
end
section
variable {P : Program} {w : World} {A : Around} {E : Value -> Shared -> Prop} {s : Shared} {a b : Addr} {ea eb : Array (Int × Value)} {pa pb : Nat} {ta tb : SetTable} {es : Array (Int × Value)} {ep : Nat} {t : SetTable}
structure Left (L0 ks L : List Key) : Prop where
 nd : L.Nodup
 mem : ∀ k, k ∈ L ↔ k ∈ L0 /\ k ∉ ks
end
section
variable {P : Program} {w : World} {A : Around} {E : Value -> Shared -> Prop} {s : Shared} {a b : Addr} {ea eb : Array (Int × Value)} {pa pb : Nat} {ta tb : SetTable}
end
end RC

namespace RC
open PySem PySem.Spec PyProof.Rows L2
def dd {α : Type} [DecidableEq α] : List α -> List α
 | [] => []
 | x :: xs => x :: (dd xs).filter λ y => decide (y ≠ x)
structure SIs {κ : Type} (ik : κ -> Key) (L : List Key) (xs : List κ) : Prop where
 nd : L.Nodup
 mem : ∀ q, q ∈ L ↔ q ∈ xs.map ik
theorem SIs.len {κ : Type} {ik : κ -> Key} {L : List Key} {xs : List κ} (h : SIs ik L xs) : L.length <= xs.length := by
 have := nodup_le h.nd λ q hq => (h.mem q).mp hq
 rwa [List.length_map] at this
theorem perm_of {α : Type} {l m : List α} (h1 : l.Nodup) (h2 : m.Nodup) (h : ∀ x, x ∈ l ↔ x ∈ m) : l.Perm m := by
 induction l generalizing m with
 | nil =>
   have : m = [] := List.eq_nil_iff_forall_not_mem.mpr λ x hx => nomatch (h x).mpr hx
   rw [this]
 | cons x l ih =>
   obtain ⟨n1, n2⟩ := List.nodup_cons.mp h1
   obtain ⟨a, b, rfl⟩ := List.append_of_mem ((h x).mp List.mem_cons_self)
   have nd2 : (x :: (a ++ b)).Nodup := List.perm_middle.nodup_iff.mp h2
   obtain ⟨n3, n4⟩ := List.nodup_cons.mp nd2
   refine (List.Perm.cons x (ih n2 n4 λ y => ?_)).trans List.perm_middle.symm
   constructor
   · intro hy
     have := (h y).mp (List.mem_cons_of_mem _ hy)
     rcases List.mem_append.mp this with z | z
     · exact List.mem_append_left _ z
     · rcases List.mem_cons.mp z with z | z
       · exact absurd (z ▸ hy) n1
       · exact List.mem_append_right _ z
   · intro hy
     have : y ∈ a ++ x :: b := by
       rcases List.mem_append.mp hy with z | z
       · exact List.mem_append_left _ z
       · exact List.mem_append_right _ (List.mem_cons_of_mem _ z)
     rcases List.mem_cons.mp ((h y).mpr this) with z | z
     · exact absurd (z ▸ hy) n3
     · exact z
section
variable {K : Fr} {α : Type} {e : α -> PyData} {Rs : List Res} {H : Hp} {Q : VK} {v : V} {a b : Addr} {σ : L2.St} {w : World}
end
end RC

namespace RC
open PySem PySem.Spec PyProof.Rows L2
def tkey (h : Heap) : Value -> Str
 | .ref a => match h.get? a with
   | some o => match o.data with
     | .seq xs _ => match (xs[0]? : Option Value) with
       | some (Value.str y _) => y
       | _ => ""
     | _ => ""
   | none => ""
 | _ => ""
def TxP (h : Heap) (v : Value) (y : Str) (u : Value) : Prop := ∃ a o t n, v = .ref a /\ h.get? a = some o /\ o.cls = .type "tuple" /\ o.data = .seq #[.str y t, u] n
theorem TxP.key {h : Heap} {v : Value} {y : Str} {u : Value} (p : TxP h v y u) : tkey h v = y := by
 obtain ⟨a, o, t, n, rfl, ho, hc, hd⟩ := p
 unfold tkey
 simp only [ho, hd]
 rfl
theorem TxP.keeps {h h' : Heap} {v : Value} {y : Str} {u : Value} (p : TxP h v y u) (k : ∀ b o, v = .ref b -> h.get? b = some o -> h'.get? b = some o) : TxP h' v y u := by
 obtain ⟨a, o, t, n, rfl, ho, hc, hd⟩ := p
 exact ⟨a, o, t, n, rfl, k _ _ rfl ho, hc, hd⟩
section
variable {prog : Program} {w : World} {A : Around} {s : Shared}
end
section
variable {X : Cx}
end
end RC

namespace RC
open PySem PySem.Spec PyProof.Rows L2
section
variable {K : Fr} {α : Type} {e : α -> PyData} {Rs : List Res} {H H' : Hp} {Q : VK} {v : V} {p : Addr}
end
section
variable {K : Fr} {α : Type} {e : α -> PyData} {Rs : List Res} {H H' : Hp} {Q : VK} {v : V} {p : Addr} {σ : L2.St}
end
section
variable {K : Fr} {α β γ : Type} {ea : α -> PyData} {eb : β -> PyData} {ec : γ -> PyData} {Rs : List Res} {H H' : Hp} {Q : VK} {v : V} {p : Addr} {σ : L2.St}
end
section
variable {K : Fr} {Rs : List Res} {H : Hp} {Q : VK} {v : V} {d : PyData} {ta tb : TE} {σ : L2.St}
end
section
variable {K : Fr} {α κ : Type} {ik ik' : κ -> Key} {e e' : α -> PyData} {Rs : List Res} {H : Hp} {Q : VK} {v : V} {p : Addr} {m : List (κ × α)}
end
section
variable {β : Type} {F : β -> (β -> Prop) -> (β -> Prop) -> Prop} {s0 : β} {KK : β -> Prop} {tc : TT} {tb : TS} {D : Ends} {σ : L2.St} {H : Hp}
end
section
variable {K : Fr} {κ α β : Type} {ik : κ -> Key} {e : α -> PyData} {Rs : List Res} {H : Hp} {v : V} {m : List (κ × α)} {σ : L2.St} {f : DF}
end
end RC

namespace RC
open PySem PySem.Spec PyProof.Rows L2
section
variable {X : Cx}
end
section
variable {α β : Type} {K : Fr} {Rs : List Res} {H : Hp} {σ : L2.St} {Q : VK} {v : V} {p : Addr} {e : α -> PyData}
end
end RC

namespace RC
open PySem PySem.Spec PyProof.Rows L2
def dEq {κ α : Type} [DecidableEq κ] [DecidableEq α] (m n : List (κ × α)) : Bool := (m.length == n.length) && m.all λ p => decide (lk n p.1 = some p.2)
inductive HitsV (K : Fr) (H : Hp) (ls : List (Key × V)) : List (Key × V) -> Bool -> Prop
 | nil : HitsV K H ls [] true
 | miss {k : Key} {v : V} {r : List (Key × V)} (h : valV ls k = none) : HitsV K H ls ((k, v) :: r) false
 | hit {k : Key} {v u : V} {r : List (Key × V)} {d e : PyData} {b : Bool} (h : valV ls k = some u) (h1 : Dp K H v d) (h2 : Dp K H u e) (s1 : SeqAt.shaped d = true) (s2 : SeqAt.shaped e = true) (t : HitsV K H ls r b) : HitsV K H ls ((k, v) :: r) (PyData.eqv d e && b)
section
variable {X : Cx} {pins : List (Addr × Obj)} {σ : L2.St} {H : Hp} {s : Shared}
end
section
variable {X : Cx}
end
structure EqT {α : Type} [DecidableEq α] (e : α -> PyData) : Prop where
 sh : ∀ x, EqOk (e x)
 ev : ∀ x y, PyData.eqv (e x) (e y) = decide (x = y)
section
variable {κ α β : Type} [DecidableEq κ] [DecidableEq α] {K : Fr} {Rs : List Res} {H F : Hp} {σ : L2.St} {Q : VK} {v w : V} {p : Addr} {e : α -> PyData} {ik : κ -> Key} {m n : List (κ × α)}
theorem DVs.get {a : Addr} {k : κ} (inj : ∀ a b, ik a = ik b -> a = b) (D : DVs K Rs H ik e (.ref a) m) : ∃ o, DGet H a (kV (ik k)) o /\ ((lk m k = none /\ o = none) \/ ∃ x u, lk m k = some x /\ o = some u /\ M (da K u (e x) :: Rs) H) := by
 obtain ⟨p, kvs, F, L, e0, h1, s1, m1, t1⟩ := D
 cases e0
 refine ⟨valV kvs (ik k), .inl ⟨kvs, ik k, h1, rfl, rfl⟩, ?_⟩
 cases z : lk m k with
 | none => exact .inl ⟨rfl, t1.none inj z⟩
 | some x =>
   obtain ⟨u, hu, hd⟩ := t1.some inj z
   exact .inr ⟨x, u, rfl, hu, F, L, ⟨[], L, rfl, ⟨rfl, hd⟩, s1⟩, m1⟩
end
section
variable {κ α : Type} [DecidableEq κ] {K : Fr} {Rs : List Res} {H : Hp} {Q : VK}
end
end RC

namespace RC
open PySem PySem.Spec PyProof.Rows L2
end RC

namespace RC
open PySem PySem.Spec PyProof.Rows L2
section
variable {prog : Program} {w : World} {A : Around} {I : Addr} {fp wr : List Addr} {n : Nat} {P : Nat -> Value -> Prop} {St : Nat -> Heap -> Prop}
end
section
variable {prog : Program} {w : World} {A : Around} {E : Value -> Shared -> Prop} {s : Shared}
end
end RC

namespace RC
open PySem PySem.Spec PyProof.Rows L2
section
variable {X : Cx}
end
section
variable {κ α : Type} {K : Fr} {Rs : List Res} {H : Hp} {Q : VK} {v : V} {e : α -> PyData}
end
end RC

namespace RC
open PySem PySem.Spec PyProof.Rows L2
section
variable {α β γ : Type} {e : α -> PyData} {sv : α -> V} {K : Fr} {σ : L2.St} {H : Hp} {Q : VK} {D : Ends} {Rs : List Res} {v w : V} {xs ys : List α} {p : Addr}
end
end RC

namespace RC
open PySem PySem.Spec PyProof.Rows L2
section
variable {K : Fr} {H : Hp} {v w : V} {Q : VK} {Rs : List Res} {σ : L2.St} {D : Ends} {α β : Type} {e : α -> PyData} {xs : List α}
theorem div_okB {i j : Int} (h : 0 < j /\ j < 2 ^ 200) : CDivW i j := wide_div (b := 200) h.1 (by omega) (by decide) (by decide)
theorem v_divB {i j : Int} (h : 0 < j /\ j < 2 ^ 200) (k : Q (.int (i / j)) H) : uDiv (.int i) (.int j) H Q := ⟨i, j, rfl, rfl, div_okB h, k⟩
end
end RC

namespace RC
open PySem PySem.Spec PyProof.Rows L2
def rTupL (K : Fr) : List V -> Hp -> VK -> Prop := λ xs H Q => ∃ p ys, xs = [.ref p] /\ ((SqL K H p ys /\ ∀ l, H l = none -> Q (.ref l) (upd H l (.tup ys))) \/ (SqT K H p ys /\ Q (.ref p) H))
theorem cr_tupL {X : Cx} : CallR X (.type "tuple") (rTupL X.K) := call_tuple_of
section
variable {K : Fr} {H : Hp} {v w : V} {Q : VK} {Rs : List Res} {σ : L2.St} {α β : Type}
end
end RC

namespace RC
open PySem PySem.Spec PyProof.Rows L2
section
variable {X : Cx} {x : Str} {C fI : Addr} {k : Nat} {fd : FuncData} {ps : List Str} {B newId initId : String} {bmB : List Value} {p pos pos' : Pos}
end
def emR : Res := ⟨λ _ l => l = [], λ _ _ _ _ h => h⟩
section
variable {K : Fr} {H : Hp} {Q : VK} {a D : Addr} {b : Bool}
end
end RC

namespace RC
open PySem PySem.Spec PyProof.Rows L2
section
variable {K : Fr} {H : Hp} {Q : VK} {Rs : List Res} {σ : L2.St} {κ α : Type} [DecidableEq κ] {ik : κ -> Key} {e : α -> PyData} {p : Addr}
inductive Prs (K : Fr) (F : Hp) (ik : κ -> Key) (e : α -> PyData) : List (V × V) -> List (κ × α) -> Prop
 | nil : Prs K F ik e [] []
 | cons {k : κ} {x : α} {v : V} {r : List (V × V)} {m : List (κ × α)} (h : Dq K F v (e x)) (t : Prs K F ik e r m) : Prs K F ik e ((kV (ik k), v) :: r) ((k, x) :: m)
end
end RC

namespace RC
open PySem PySem.Spec PyProof.Rows L2
section
variable {X : Cx} {CX : CXT} {g : Bool} {k n : Nat} {f C : Addr} {fd : FuncData} {ps ks : List Str} {sp : Sp} {W : WX} {x m : Str} {p pos apos : Pos} {o e : Expr} {es : List Expr} {kws : List Keyword} {t tk : TA} {gg : List Value -> List Value -> List Value} {gV : List V -> List V -> List V}
def tMakeWN (n l : Nat) (W : WX) (C : Addr) (sp : Sp) (gV : List V -> List V -> List V) (t tk : TA) : TE := λ σ H Q => t σ H λ vs H1 => tk σ H1 λ zs H2 => vs.length + 1 = n /\ zs.length = l /\ ∀ x dx, H2 x = none -> H2 dx = none -> dx ≠ x ->
 sp (gV (.ref x :: vs) zs) (upd (upd H2 dx (.own x)) x (.ins C dx [])) (λ v H3 => v = .non /\ Q (.ref x) H3) (WE W σ)
theorem runMkN {pins : List (Addr × Obj)} {σ : L2.St} {H : Hp} {s : Shared} {Q : VK} {E : XK} {us ws : List Value} {vs zs : List V} (M : Mk X.K C f) (F : FnX false X.prog X.w X.K X.mg X.base CX k f fd ps sp) (hr : Room (k + 1) X.A) (hb : KBn X.K fd ps n ks gg gV) (hx : PassesAt CX X σ E)
   (I : Inv X pins σ H s) (r : Vals vs us) (rz : Vals zs ws) (l1 : vs.length + 1 = n) (l2 : zs.length = ks.length)
   (h : ∀ x dx, H x = none -> H dx = none -> dx ≠ x -> sp (gV (.ref x :: vs) zs) (upd (upd H dx (.own x)) x (.ins C dx [])) (λ v H2 => v = .non /\ Q (.ref x) H2) E) :
   wpAny (model X.prog X.w) X.A (call (.ref C) us (ks.zip ws)) (EP X pins σ Q) X.xe s := by
 have hq := h (s.heap.objs.size + 1) s.heap.objs.size (I.hok.fresh (Nat.le_succ _)) (I.hok.fresh (Nat.le_refl _)) (Nat.ne_of_lt (Nat.lt_succ_self _))
 have I2 := Inv.made (C := C) I
 have r1 : Vals (V.ref (s.heap.objs.size + 1) :: vs) (Value.ref (s.heap.objs.size + 1) :: us) := .cons rfl r
 have n1 : (Value.ref (s.heap.objs.size + 1) :: us).length = n := by rw [List.length_cons, <- r.length, l1]
 have go := F.runG (X.A.under (.builtin "type.__call__" ⟨.ref C :: us, ks.zip ws⟩)) X.stack _ _ ⟨Value.ref (s.heap.objs.size + 1) :: us, ks.zip ws⟩ _ (gg (Value.ref (s.heap.objs.size + 1) :: us) ws) _ _ E (λ z => nomatch z) (hr.make C us (ks.zip ws)) (I2.env0.make C us (ks.zip ws))
   (hb.to _ (Value.ref (s.heap.objs.size + 1) :: us) ws I2.kIn n1 (rz.length.symm.trans l2)) (.refl _) (hb.rel r1 rz) hq
 refine wpAny_call (make_map (f := f) I.kIn M.makes M.init (beq_iff_eq.mp M.fn) (codeAny_mono go λ res s' hq' => ?_))
 match res, hq' with
 | .error u, hq' => exact hx pins _ _ u s' I2 hq'
 | .ok (.ret u), hq' =>
   obtain ⟨v, H', I3, rv, ev, q3⟩ := I2.after hq'
   subst ev
   exact ⟨rv, ⟨V.ref (s.heap.objs.size + 1), H', I3, rfl, q3⟩⟩
 | .ok .next, hq' => cases hq'
 | .ok .brk, hq' => cases hq'
 | .ok .cont, hq' => cases hq'
theorem pe_makeWN0 (M : Mk X.K C f) (F : FnX false X.prog X.w X.K X.mg X.base CX k f fd ps sp) (hr : Room (k + 1) X.A) (hg : Gl X x) (hm : X.mg x = some (.ref C)) (hb : KBn X.K fd ps n ks gg gV) (hx : ∀ σ, PassesAt CX X σ (WE W σ)) (hkw : PK X kws tk)
   (hall : (backToKw pos (keywordEach kws X.env)).all (·.1.isSome) = true := by rfl) (hks : (backToKw pos (keywordEach kws X.env)).filterMap (·.1) = ks := by rfl) (hdb : (x == ("__debug__" : Str)) = false := by decide)
   (hpl : ((backTo pos (starEach [] X.env)).any (·.1) || (backToKw pos (keywordEach kws X.env)).any (·.1.isNone)) = false := by rfl) :
   PE X (.Call (.Name x p) [] kws pos) (tMakeWN n ks.length W C sp gV tNil tk) := by
 constructor
 intro pins s σ H Q I h
 refine wpAny_Call_Name_kw (ld_glob I hg hm ?_ hdb)
 refine PySem.W.callWith_KW0 (h₀ := X.base) I.ok.mod.kin M.kp hall ?_ hpl
 refine thn (hkw.run pos pins s σ H _ I h) λ ws s2 ⟨zs, H2, I2, rz, l1, l2, q2⟩ => ⟨I2.kIn, ?_⟩
 rw [hks]
 exact runMkN (us := []) (vs := []) M F hr hb (hx σ) I2 .nil rz l1 l2 q2
variable {σ : L2.St} {H : Hp} {Q : VK} {Rs : List Res} {l : Nat}
def MakeKN (n l : Nat) (W : WX) (C : Addr) (sp : Sp) (gV : List V -> List V -> List V) (σ : L2.St) (Q : VK) (vs zs : List V) (H2 : Hp) : Prop := ∀ x dx, H2 x = none -> H2 dx = none -> dx ≠ x -> sp (gV (.ref x :: vs) zs) (upd (upd H2 dx (.own x)) x (.ins C dx [])) (λ v H3 => v = .non /\ Q (.ref x) H3) (WE W σ)
theorem g_makeWN (k : t σ H λ vs H1 => tk σ H1 λ zs H2 => vs.length + 1 = n /\ zs.length = l /\ MakeKN n l W C sp gV σ Q vs zs H2) : tMakeWN n l W C sp gV t tk σ H Q := k
theorem v_makeN {vs zs : List V} (S : M Rs H) (k : ∀ a dx H', M (pt a (.ins C dx []) :: pt dx (.own a) :: Rs) H' -> sp (gV (.ref a :: vs) zs) H' (λ v H3 => v = .non /\ Q (.ref a) H3) (WE W σ)) : MakeKN n l W C sp gV σ Q vs zs H := by
 intro x dx hx hd hne
 have S1 := S.new (o := .own x) hd
 exact k x dx _ (S1.new (by rw [upd_ne (Ne.symm hne)]; exact hx))
end
end RC

namespace RC
open PySem PySem.Spec PyProof.Rows L2
section
variable {K : Fr} {α β γ δ : Type} {Rs : List Res} {H : Hp} {A : V -> α -> Res} {B : V -> β -> Res} {C : V -> γ -> Res} {D : V -> δ -> Res} {T : Addr -> α -> Res} {p : Addr} {Q : VK}
end
end RC

namespace RC
open PySem PySem.Spec PyProof.Rows L2
section
variable {κ α : Type} [DecidableEq κ]
end
section
variable {K : Fr} {κ α : Type} {Rs : List Res} {H : Hp} {A : V -> α -> Res} {ik : κ -> Key} {p : Addr} {Q : VK}
variable [DecidableEq κ]
end
section
variable {K : Fr} {α : Type} {Rs : List Res} {H : Hp} {A : V -> α -> Res} {p : Addr} {Q : VK}
end
section
variable {K : Fr} {κ α : Type} [DecidableEq κ] {Rs : List Res} {H : Hp} {A : V -> α -> Res} {ik : κ -> Key} {p : Addr} {Q : VK}
end
end RC
namespace RC
open PySem PySem.Spec PyProof.Rows L2
section
variable {K : Fr} {κ α : Type} {Rs : List Res} {H : Hp} {A : V -> α -> Res} {ik : κ -> Key} {p : Addr} {Q : VK}
end
section
variable {K : Fr} {Rs : List Res} {H : Hp} {Q : VK} {v : V} {α : Type} {σ : L2.St} {tb : TE}
theorem v_tupL {e : α -> PyData} {xs : List α} (S : M Rs H) (j : Nat) (hj : Rs[j]? = some (da K v (eL e xs))) (k : ∀ p H', M (da K (.ref p) (eV e xs) :: Rs) H' -> Q (.ref p) H') : rTupL K [v] H Q := by
 obtain ⟨F, L, s, m⟩ := id S
 cases EnF.at j hj F L s with
 | lst a q =>
   refine ⟨_, _, rfl, .inl ⟨m.ex.sqL a, λ l hl => ?_⟩⟩
   have hn : F l = none := by
     cases e : F l with
     | none => rfl
     | some o => rw [m.ex _ _ e] at hl; cases hl
   rename_i vs
   have S9 : M (daA K vs (xs.map e) :: Rs) H := ⟨F, L, ⟨[], L, rfl, ⟨rfl, q⟩, s⟩, m⟩
   have S10 := S9.new (o := .tup vs) hl
   have S11 : M (da K (.ref l) (.tuple (xs.map e)) :: _) _ := S10.fixG (φ := λ F => DqAll K F vs (xs.map e)) (R := da K (.ref l) (.tuple (xs.map e))) (λ F L s => by
     obtain ⟨l, h⟩ := s.get 0 rfl
     exact h.2) λ F q fp => ⟨rfl, .tup (.inl (.inl fp)) q⟩
   exact k l _ (M.sub (.cons 0 rfl (.tl (.refl _))) S11)
end
end RC

namespace RC
open PySem PySem.Spec PyProof.Rows L2
inductive OD where
 | fz (d : PyData)
 | ol (l : List OD)
 | ot (l : List OD)
mutual
def OD.fgt : OD -> PyData
 | .fz d => d
 | .ol l => .list (OD.fgtAll l)
 | .ot l => .tuple (OD.fgtAll l)
def OD.fgtAll : List OD -> List PyData
 | [] => []
 | x :: xs => x.fgt :: OD.fgtAll xs
end
mutual
def odR (K : Fr) : V -> OD -> Res
 | v, .fz d => da K v d
 | v, .ol l => exi λ p => prp (v = .ref p) (exi λ vs => sp2 (pt p (.lst vs)) (odRs K vs l))
 | v, .ot l => exi λ p => prp (v = .ref p) (exi λ vs => sp2 (pt p (.tup vs)) (odRs K vs l))
def odRs (K : Fr) : List V -> List OD -> Res
 | [], [] => emR
 | v :: vs, x :: xs => sp2 (odR K v x) (odRs K vs xs)
 | [], _ :: _ => prp False emR
 | _ :: _, [] => prp False emR
end
section
variable {K : Fr} {Rs : List Res} {H : Hp} {Q : VK} {v : V} {p : Addr}
mutual
theorem M.gotOD : ∀ {x : OD} {v : V} {Rs : List Res}, M (odR K v x :: Rs) H -> Dn K H v x.fgt
 | .fz d, v, Rs, S => Dq.dn (M.gotA S 0 rfl)
 | .ol l, v, Rs, S => by
   obtain ⟨p, S1⟩ := S.ex
   obtain ⟨e, S2⟩ := S1.pr
   obtain ⟨vs, S3⟩ := S2.ex
   subst e
   exact .lst (SqL.of (S3.sp.got 0 rfl)) (M.gotODs (S3.sp.at 1 rfl))
 | .ot l, v, Rs, S => by
   obtain ⟨p, S1⟩ := S.ex
   obtain ⟨e, S2⟩ := S1.pr
   obtain ⟨vs, S3⟩ := S2.ex
   subst e
   exact .tup (.inl (.inl (S3.sp.got 0 rfl))) (M.gotODs (S3.sp.at 1 rfl))
theorem M.gotODs : ∀ {l : List OD} {vs : List V} {Rs : List Res}, M (odRs K vs l :: Rs) H -> DnAll K H vs (OD.fgtAll l)
 | [], [], _, _ => .nil
 | x :: xs, v :: vs, _, S => .cons (M.gotOD S.sp) (M.gotODs (S.sp.at 1 rfl))
 | _ :: _, [], _, S => (S.pr).1.elim
 | [], _ :: _, _, S => (S.pr).1.elim
end
mutual
theorem M.frzOD : ∀ {x : OD} {v : V} {Rs : List Res}, M (odR K v x :: Rs) H -> M (da K v x.fgt :: Rs) H
 | .fz d, v, Rs, S => S
 | .ol l, v, Rs, S => by
   obtain ⟨p, S1⟩ := S.ex
   obtain ⟨e, S2⟩ := S1.pr
   obtain ⟨vs, S3⟩ := S2.ex
   subst e
   have S4 := M.frzODs (S3.sp.at 1 rfl)
   have S5 : M (pt p (.lst vs) :: daA K vs (OD.fgtAll l) :: Rs) H := S4.at 1 rfl
   exact M.sub (.cons 0 rfl (.tl (.refl _))) (S5.fixG (φ := λ F => DqAll K F vs (OD.fgtAll l)) (R := da K (.ref p) (.list (OD.fgtAll l))) (λ F L s => by
     obtain ⟨l, h⟩ := s.get 0 rfl
     exact h.2) λ F q fp => ⟨rfl, .lst (.inl (.inl fp)) q⟩)
 | .ot l, v, Rs, S => by
   obtain ⟨p, S1⟩ := S.ex
   obtain ⟨e, S2⟩ := S1.pr
   obtain ⟨vs, S3⟩ := S2.ex
   subst e
   have S4 := M.frzODs (S3.sp.at 1 rfl)
   have S5 : M (pt p (.tup vs) :: daA K vs (OD.fgtAll l) :: Rs) H := S4.at 1 rfl
   exact M.sub (.cons 0 rfl (.tl (.refl _))) (S5.fixG (φ := λ F => DqAll K F vs (OD.fgtAll l)) (R := da K (.ref p) (.tuple (OD.fgtAll l))) (λ F L s => by
     obtain ⟨l, h⟩ := s.get 0 rfl
     exact h.2) λ F q fp => ⟨rfl, .tup (.inl (.inl fp)) q⟩)
theorem M.frzODs : ∀ {l : List OD} {vs : List V} {Rs : List Res}, M (odRs K vs l :: Rs) H -> M (daA K vs (OD.fgtAll l) :: Rs) H
 | [], [], _, S => by
   obtain ⟨F, L, ⟨l1, l2, e, a, s⟩, m⟩ := S
   exact ⟨F, L, ⟨l1, l2, e, ⟨a, .nil⟩, s⟩, m⟩
 | x :: xs, v :: vs, Rs, S => by
   have S1 := M.frzOD S.sp
   have S2 := M.frzODs (S1.at 1 rfl)
   have S3 : M (da K v x.fgt :: daA K vs (OD.fgtAll xs) :: Rs) H := S2.at 1 rfl
   obtain ⟨F, L, ⟨l1, l2, rfl, ⟨rfl, h⟩, l3, l4, rfl, ⟨rfl, q⟩, s⟩, m⟩ := S3
   exact ⟨F, l4, ⟨[], l4, rfl, ⟨rfl, .cons h q⟩, s⟩, m⟩
 | _ :: _, [], _, S => (S.pr).1.elim
 | [], _ :: _, _, S => (S.pr).1.elim
end
def OD.at : OD -> Int -> Option OD
 | .fz d, i => (anyAt d i).map .fz
 | .ol l, i => atI l i
 | .ot l, i => atI l i
end
section
variable {K : Fr} {α : Type} {Rs : List Res} {H : Hp} {A : V -> α -> Res} {p : Addr}
end
end RC

namespace RC
open PySem PySem.Spec PyProof.Rows L2
section
variable {σ : L2.St} {H : Hp} {D : Ends} {i j k : Nat} {ta : TA}
end
end RC

namespace RC
open PySem PySem.Spec PyProof.Rows L2
section
variable {K : Fr} {κ α : Type} {ik : κ -> Key} {e : α -> PyData} {m m2 : List (κ × α)} {Rs : List Res} {H : Hp} {Q : VK} {p : Addr} {v : V}
end
section
variable {X : Cx} {CX : CXT} {g : Bool} {k : Nat} {f : Addr} {fd : FuncData} {ps : List Str} {sp : Sp} {ds : List Value} {dvs : List V} {E : XK} {W : WX} {x : Str} {p pos : Pos}
end
section
variable {α : Type} {K : Fr} {Rs : List Res} {H : Hp} {Q : VK} {v : V} {e : α -> PyData}
end
end RC

namespace RC
open PySem PySem.Spec PyProof.Rows L2
section
open PySem.SeqAt AutoSeq1 MeetsSeq MeetsSeq2 MeetsSeq3 SeqRoads2
variable {prog : Program} {w : World}
end
inductive EqTD : PyData -> PyData -> Bool -> Prop
 | same {d : PyData} (h : dOk d) (hd : d.depth <= 60) : EqTD d d true
 | word {s t : Str} {x y : PyData} (h : s ≠ t) (h1 : EqOk (eS s)) (h2 : EqOk (eS t)) : EqTD (.tuple [.str s, x]) (.tuple [.str t, y]) false
 | dict {s : Str} {m n : List (Str × List Int)} (h : m ≠ n) (h1 : EqOk (eS s)) (hd : dEq m n = false) : EqTD (.tuple [.str s, eD iS (eL eI) m]) (.tuple [.str s, eD iS (eL eI) n]) false
section
variable {X : Cx} {pins : List (Addr × Obj)} {σ : L2.St} {H : Hp} {s : Shared}
end
section
variable {X : Cx}
end
end RC

namespace RC
open PySem PySem.Spec PyProof.Rows L2
section
variable {K : Fr} {α β γ : Type} {Rs : List Res} {H : Hp} {σ : L2.St} {D : Ends} {A : V -> α -> Res} {B : V -> β -> Res} {p : Addr} {Q : VK} {vs : List V} {xs : List α}
end
end RC

namespace RC
open PySem PySem.Spec PyProof.Rows L2
section
variable {prog : Program} {w : World} {A : Around} {E : Value -> Shared -> Prop} {s : Shared}
end
section
variable {X : Cx}
end
section
variable {K : Fr} {F : Hp}
end
section
variable {K : Fr} {Rs : List Res} {H : Hp} {σ : L2.St} {α : Type} {e : α -> PyData} {l b : Addr} {xs ys : List α} {Q : L2.St -> Hp -> Prop}
end
end RC

namespace RC
open PySem PySem.Spec PyProof.Rows L2
section
variable {X : Cx}
end
section
variable {K : Fr} {α β γ : Type} {Rs : List Res} {H : Hp} {σ : L2.St} {a b : Addr} {Q : VK} {vs us : List V} {xs : List α} {ys : List γ}
end
section
variable {K : Fr} {κ α κ2 γ : Type} [DecidableEq κ] [DecidableEq κ2] {Rs : List Res} {H : Hp} {σ : L2.St} {p : Addr} {Q : VK} {od : Obj} {kvs : List (Key × V)} {ik : κ -> Key} {m : List (κ × α)}
end
end RC

namespace RC
open PySem PySem.Spec PyProof.Rows L2
section
variable {K : Fr} {α : Type} {H : Hp} {A : V -> α -> Res} {p : Addr} {e : α -> PyData}
end
theorem M.openT4 {K : Fr} {α β γ δ : Type} {e1 : α -> PyData} {e2 : β -> PyData} {e3 : γ -> PyData} {e4 : δ -> PyData} {x : α × β × γ × δ} {v : V} {R0 : List Res} {H : Hp} (S : M R0 H) (i : Nat) (e : R0[i]? = some (da K v (eT4 e1 e2 e3 e4 x))) :
   ∃ a u1 u2 u3 u4, v = .ref a /\ SqT K H a [u1, u2, u3, u4] /\ M (da K u1 (e1 x.1) :: da K u2 (e2 x.2.1) :: da K u3 (e3 x.2.2.1) :: da K u4 (e4 x.2.2.2) :: R0) H := by
 obtain ⟨F, L, s, m⟩ := S
 obtain ⟨l, h⟩ := s.get i e
 obtain ⟨rfl, h⟩ := h
 cases h with
 | tup h q =>
   cases q with
   | cons a1 q =>
     cases q with
     | cons a2 q =>
       cases q with
       | cons a3 q =>
         cases q with
         | cons a4 q =>
           cases q
           exact ⟨_, _, _, _, _, rfl, m.ex.sqT h, F, L, ⟨[], L, rfl, ⟨rfl, a1⟩, [], L, rfl, ⟨rfl, a2⟩, [], L, rfl, ⟨rfl, a3⟩, [], L, rfl, ⟨rfl, a4⟩, s⟩, m⟩
end RC

namespace RC
open PySem PySem.Spec PyProof.Rows L2
def tkeyI (h : Heap) : Value -> Int
 | .ref a => match h.get? a with
   | some o => match o.data with
     | .seq xs _ => match (xs[0]? : Option Value) with
       | some (Value.int y _) => y
       | _ => 0
     | _ => 0
   | none => 0
 | _ => 0
def TxPI (h : Heap) (v : Value) (y : Int) (u : Value) : Prop := ∃ a o t n, v = .ref a /\ h.get? a = some o /\ o.cls = .type "tuple" /\ o.data = .seq #[.int y t, u] n
theorem TxPI.key {h : Heap} {v : Value} {y : Int} {u : Value} (p : TxPI h v y u) : tkeyI h v = y := by
 obtain ⟨a, o, t, n, rfl, ho, hc, hd⟩ := p
 unfold tkeyI
 simp only [ho, hd]
 rfl
theorem TxPI.keeps {h h' : Heap} {v : Value} {y : Int} {u : Value} (p : TxPI h v y u) (k : ∀ b o, v = .ref b -> h.get? b = some o -> h'.get? b = some o) : TxPI h' v y u := by
 obtain ⟨a, o, t, n, rfl, ho, hc, hd⟩ := p
 exact ⟨a, o, t, n, rfl, k _ _ rfl ho, hc, hd⟩
section
variable {prog : Program} {w : World} {A : Around} {s : Shared}
end
section
variable {X : Cx}
end
section
variable {K : Fr} {α : Type} {e : α -> PyData} {Rs : List Res} {H H' : Hp} {Q : VK} {v : V} {p : Addr}
end
section
variable {α : Type} {A : V -> α -> Res} {p : Addr} {Rs : List Res} {H : Hp}
end
end RC

namespace RC
open PySem PySem.Spec PyProof.Rows L2
open PySem.Sem (wp)
def sSq : Bool -> String
 | true => "tuple"
 | false => "list"
def sIt : Bool -> String
 | true => "tuple_iterator"
 | false => "list_iterator"
def SSq (f : Bool) (h : Heap) (a : Addr) (items : Array Value) : Prop := ∃ o, h.get? a = some o /\ o.cls = .type (sSq f) /\ ∃ n, o.data = .seq items n
def SIt (f : Bool) (h : Heap) (a l : Addr) (i : Nat) : Prop := ∃ o, h.get? a = some o /\ o.cls = .type (sIt f) /\ o.data = .fields #[.ref l, .int i 0]
theorem SSq.extBut {f : Bool} {h h' : Heap} {a b : Addr} {items : Array Value} (x : SSq f h a items) (hs : Heap.ExtBut b h h') (hab : a ≠ b) : SSq f h' a items := let ⟨o, ho, r⟩ := x; ⟨o, hs _ _ hab ho, r⟩
theorem SIt.extBut {f : Bool} {h h' : Heap} {a b l : Addr} {i : Nat} (x : SIt f h a l i) (hs : Heap.ExtBut b h h') (hab : a ≠ b) : SIt f h' a l i := let ⟨o, ho, r⟩ := x; ⟨o, hs _ _ hab ho, r⟩
theorem SIt.at {f : Bool} {h h' : Heap} {a l : Addr} {i : Nat} (x : SIt f h a l i) (e : ∀ o, h.get? a = some o -> h'.get? a = some o) : SIt f h' a l i := let ⟨o, ho, r⟩ := x; ⟨o, e _ ho, r⟩
def SqG (K : Fr) (f : Bool) (H : Hp) (a : Addr) (xs : List V) : Prop := match f with
 | true => SqT K H a xs
 | false => SqL K H a xs
section
variable {prog : Program} {w : World} {A : Around} {E : Value -> Shared -> Prop} {s : Shared}
theorem s_item {f : Bool} {it l : Addr} {i : Nat} {items : Array Value} {x : Value} {Q : Value -> Shared -> Prop} (hit : SIt f s.heap it l i) (hl : SSq f s.heap l items) (hx : items[i]? = some x)
   (hQ : ∀ h', SIt f h' it l (i + 1) -> Heap.SameBut it s.heap h' -> Q x { s with heap := h' }) : wpAny (model prog w) A (Builtin.SmallTypes.nextOf (.ref it)) Q E s := by
 cases f with
 | true => exact RZ.nextOf_tuple_item hit hl hx hQ
 | false => exact wpAny_nextOf_list_item hit hl hx hQ
theorem s_end {f : Bool} {it l : Addr} {i : Nat} {items : Array Value} {Q : Value -> Shared -> Prop} (hh : A.handled = none) (hit : SIt f s.heap it l i) (hl : SSq f s.heap l items) (hx : items[i]? = none)
   (hE : ∀ h' e, Heap.ExtBut it s.heap h' -> (∃ o, h'.get? e = some o /\ o.cls = .type "StopIteration") -> E (.ref e) { s with heap := h' }) : wpAny (model prog w) A (Builtin.SmallTypes.nextOf (.ref it)) Q E s := by
 cases f with
 | true => exact RZ.nextOf_tuple_end hh hit hl hx hE
 | false => exact wpAny_nextOf_list_end hh hit hl hx hE
theorem zipS_next_item {f1 f2 : Bool} {z TI TO i1 i2 l1 l2 : Addr} {k1 k2 : Nat} {xs ys : Array Value} {x y a b : Value} {Q : Value -> Shared -> Prop} (D : ZipApart z TI TO i1 i2 l1 l2)
   (hz : IsZip s.heap z TI TO .none) (hTI : IsPair s.heap TI (.ref i1) (.ref i2)) (hTO : IsPair s.heap TO a b)
   (h1 : SIt f1 s.heap i1 l1 k1) (h2 : SIt f2 s.heap i2 l2 k2) (hl1 : SSq f1 s.heap l1 xs) (hl2 : SSq f2 s.heap l2 ys) (hx : xs[k1]? = some x) (hy : ys[k2]? = some y)
   (hQ : ∀ h', IsZip h' z TI TO (rawInt s.heap.objs.size) -> IsPair h' TO x y -> SIt f1 h' i1 l1 (k1 + 1) -> SIt f2 h' i2 l2 (k2 + 1) -> IsPair h' s.heap.objs.size x y -> h'.objs.size = s.heap.objs.size + 1 ->
     (∀ c o, c ≠ z -> c ≠ TO -> c ≠ i1 -> c ≠ i2 -> s.heap.get? c = some o -> h'.get? c = some o) -> Q (.ref s.heap.objs.size) { s with heap := h' }) :
   wpAny (model prog w) A (Builtin.«zip.__next__» ⟨[.ref z], []⟩) (λ fin s' => ∃ v, fin = .done (.ret v) /\ Q v s') E s := by
 show wpAny _ _ (field (.ref z) 2 >>= _) _ _ _
 refine wpAny_bind (wpAny_field hz rfl (x := .bool false) rfl ?_)
 show wpAny _ _ (field (.ref z) 3 >>= _) _ _ _
 refine wpAny_bind (wpAny_field hz rfl (x := .ref TI) rfl ?_)
 refine wpAny_bind (wpAny_seqItems hTI rfl ?_)
 show wpAny _ _ (Builtin.SmallTypes.ownedTupleIsFree (.ref z) >>= _) _ _ _
 refine wpAny_bind ?_
 unfold Builtin.SmallTypes.ownedTupleIsFree
 refine wpAny_bind (wpAny_field hz rfl (x := .none) rfl (wpAny_pure ?_))
 simp only [if_true]
 refine wpAny_bind (wpAny_rule ?_)
 refine wpAny_bind (wpAny_field hz rfl (x := .ref TO) rfl ?_)
 refine wpAny_bind (wpAny_setField_rec hz (by simp) λ h₁ hz₁ hs₁ => ?_)
 replace hz₁ : IsZip h₁ z TI TO .ellipsis := hz₁
 refine wpAny_bind ?_
 simp only [List.zipIdx_cons, List.zipIdx_nil, List.forIn_cons, List.forIn_nil]

 refine wpAny_bind (wpAny_bind (wpAny_onRaise ?_))
 show wpAny _ _ (Builtin.SmallTypes.nextOf (.ref i1) >>= _) _ _ _
 refine wpAny_bind (s_item (h1.extBut hs₁.extBut D.i1z) (hl1.extBut hs₁.extBut D.l1z) hx λ h₂ h1₂ hs₂ => wpAny_pure ?_)
 have hTO₂ : IsPair h₂ TO a b := hs₂.extBut _ _ D.TOi1 (hs₁.extBut _ _ D.TOz hTO)
 refine wpAny_bind (wpAny_seqItems hTO₂ rfl ?_)
 refine wpAny_bind (wpAny_updateSeq_pair hTO₂ λ h₃ hTO₃ hs₃ => ?_)
 replace hTO₃ : IsPair h₃ TO x b := hTO₃
 refine wpAny_bind (wpAny_letGo (wpAny_pure ?_))

 refine wpAny_bind (wpAny_bind (wpAny_onRaise ?_))
 show wpAny _ _ (Builtin.SmallTypes.nextOf (.ref i2) >>= _) _ _ _
 refine wpAny_bind (s_item (((h2.extBut hs₁.extBut D.i2z).extBut hs₂.extBut D.i12.symm).extBut hs₃.extBut D.TOi2.symm)
   (((hl2.extBut hs₁.extBut D.l2z).extBut hs₂.extBut D.l2i1).extBut hs₃.extBut D.l2TO) hy λ h₄ h2₄ hs₄ => wpAny_pure ?_)
 have hTO₄ : IsPair h₄ TO x b := hs₄.extBut _ _ D.TOi2 hTO₃
 refine wpAny_bind (wpAny_seqItems hTO₄ rfl ?_)
 refine wpAny_bind (wpAny_updateSeq_pair hTO₄ λ h₅ hTO₅ hs₅ => ?_)
 replace hTO₅ : IsPair h₅ TO x y := hTO₅
 refine wpAny_bind (wpAny_letGo (wpAny_pure (wpAny_pure ?_)))

 refine wpAny_bind (wpAny_seqItems hTO₅ rfl ?_)
 refine wpAny_bind (wpAny_newTuple ?_)
 have hsz : h₅.objs.size = s.heap.objs.size := by rw [hs₅.1, hs₄.1, hs₃.1, hs₂.1, hs₁.1]
 have hz₅ : IsZip h₅ z TI TO .ellipsis := hs₅.extBut _ _ D.TOz.symm (hs₄.extBut _ _ D.i2z.symm (hs₃.extBut _ _ D.TOz.symm (hs₂.extBut _ _ D.i1z.symm hz₁)))
 have hk₅ : ∀ c o, c ≠ z -> c ≠ TO -> c ≠ i1 -> c ≠ i2 -> s.heap.get? c = some o -> h₅.get? c = some o := λ c o c1 c2 c3 c4 e =>
   hs₅.extBut _ _ c2 (hs₄.extBut _ _ c4 (hs₃.extBut _ _ c2 (hs₂.extBut _ _ c3 (hs₁.extBut _ _ c1 e))))
 have h1₅ : SIt f1 h₅ i1 l1 (k1 + 1) := ((h1₂.extBut hs₃.extBut D.TOi1.symm).extBut hs₄.extBut D.i12).extBut hs₅.extBut D.TOi1.symm
 have h2₅ : SIt f2 h₅ i2 l2 (k2 + 1) := h2₄.extBut hs₅.extBut D.TOi2.symm
 have hzlt : z < h₅.objs.size := Heap.lt_size hz₅
 have hTOlt : TO < h₅.objs.size := Heap.lt_size hTO₅
 have hi1lt : i1 < h₅.objs.size := by obtain ⟨_, e, _⟩ := h1₅; exact Heap.lt_size e
 have hi2lt : i2 < h₅.objs.size := by obtain ⟨_, e, _⟩ := h2₅; exact Heap.lt_size e
 show wpAny _ _ (Builtin.SmallTypes.ownedTupleHandOut (.ref z) (.ref h₅.objs.size) >>= _) _ _ _
 refine wpAny_bind ?_
 unfold Builtin.SmallTypes.ownedTupleHandOut
 have hz₆ : IsZip (h₅.push { cls := .type "tuple", data := .seq #[x, y] }) z TI TO .ellipsis := Heap.get?_push_of_some _ hz₅
 refine wpAny_bind (wpAny_setField_rec hz₆ (by simp) λ h₇ hz₇ hs₇ => ?_)
 replace hz₇ : IsZip h₇ z TI TO (rawInt h₅.objs.size) := hz₇
 refine wpAny_setField_rec hz₇ (by simp) λ h₈ hz₈ hs₈ => ?_
 replace hz₈ : IsZip h₈ z TI TO (rawInt h₅.objs.size) := hz₈
 have up : ∀ c o, c ≠ z -> h₅.get? c = some o -> h₈.get? c = some o := λ c o c1 e => hs₈.extBut _ _ c1 (hs₇.extBut _ _ c1 (Heap.get?_push_of_some _ e))
 have hT₈ : IsPair h₈ h₅.objs.size x y := hs₈.extBut _ _ (Nat.ne_of_gt hzlt) (hs₇.extBut _ _ (Nat.ne_of_gt hzlt) (Heap.get?_push_size _ rfl))
 have hz8 : h₈.objs.size = h₅.objs.size + 1 := by rw [hs₈.1, hs₇.1, Heap.size_push]
 rw [hsz] at hz₈ hT₈ hz8
 refine wpAny_pure ⟨_, rfl, ?_⟩
 show Q (.ref h₅.objs.size) _
 rw [hsz]
 exact hQ h₈ hz₈ (up _ _ D.TOz hTO₅) (h1₅.at λ o e => up _ o D.i1z e) (h2₅.at λ o e => up _ o D.i2z e) hT₈ hz8 λ c o c1 c2 c3 c4 e => up c o c1 (hk₅ c o c1 c2 c3 c4 e)

theorem zipS_next_end {f1 f2 : Bool} {z TI TO i1 i2 l1 l2 : Addr} {k1 k2 : Nat} {xs ys : Array Value} {a b : Value} {Q : Fin -> Shared -> Prop} (hh : A.handled = none) (D : ZipApart z TI TO i1 i2 l1 l2)
   (hz : IsZip s.heap z TI TO .none) (hTI : IsPair s.heap TI (.ref i1) (.ref i2)) (hTO : IsPair s.heap TO a b)
   (h1 : SIt f1 s.heap i1 l1 k1) (h2 : SIt f2 s.heap i2 l2 k2) (hl1 : SSq f1 s.heap l1 xs) (hl2 : SSq f2 s.heap l2 ys) (hend : xs[k1]? = none \/ ys[k2]? = none)
   (hE : ∀ h' e, (∀ c o, c ≠ z -> c ≠ TO -> c ≠ i1 -> c ≠ i2 -> s.heap.get? c = some o -> h'.get? c = some o) -> (∃ o, h'.get? e = some o /\ o.cls = .type "StopIteration") -> E (.ref e) { s with heap := h' }) :
   wpAny (model prog w) A (Builtin.«zip.__next__» ⟨[.ref z], []⟩) Q E s := by
 show wpAny _ _ (field (.ref z) 2 >>= _) _ _ _
 refine wpAny_bind (wpAny_field hz rfl (x := .bool false) rfl ?_)
 show wpAny _ _ (field (.ref z) 3 >>= _) _ _ _
 refine wpAny_bind (wpAny_field hz rfl (x := .ref TI) rfl ?_)
 refine wpAny_bind (wpAny_seqItems hTI rfl ?_)
 show wpAny _ _ (Builtin.SmallTypes.ownedTupleIsFree (.ref z) >>= _) _ _ _
 refine wpAny_bind ?_
 unfold Builtin.SmallTypes.ownedTupleIsFree
 refine wpAny_bind (wpAny_field hz rfl (x := .none) rfl (wpAny_pure ?_))
 simp only [if_true]
 refine wpAny_bind (wpAny_rule ?_)
 refine wpAny_bind (wpAny_field hz rfl (x := .ref TO) rfl ?_)
 refine wpAny_bind (wpAny_setField_rec hz (by simp) λ h₁ hz₁ hs₁ => ?_)
 replace hz₁ : IsZip h₁ z TI TO .ellipsis := hz₁
 refine wpAny_bind ?_
 simp only [List.zipIdx_cons, List.zipIdx_nil, List.forIn_cons, List.forIn_nil]
 refine wpAny_bind (wpAny_bind (wpAny_onRaise ?_))
 show wpAny _ _ (Builtin.SmallTypes.nextOf (.ref i1) >>= _) _ _ _
 cases hx : xs[k1]? with
 | none =>
   refine wpAny_bind (s_end hh (h1.extBut hs₁.extBut D.i1z) (hl1.extBut hs₁.extBut D.l1z) hx λ h₂ e hs₂ he => ?_)
   obtain ⟨oe, hoe, hce⟩ := he
   have hz₂ : IsZip h₂ z TI TO .ellipsis := hs₂ _ _ D.i1z.symm hz₁
   have hez : e ≠ z := λ x => by subst x; rw [hz₂] at hoe; cases hoe; simp at hce
   refine wpAny_setField_rec hz₂ (by simp) λ h₃ _ hs₃ => hE h₃ e (λ c o c1 _ c3 _ x => hs₃.extBut _ _ c1 (hs₂ _ _ c3 (hs₁.extBut _ _ c1 x))) ⟨oe, hs₃.extBut _ _ hez hoe, hce⟩
 | some x =>
   have hy : ys[k2]? = none := by rcases hend with h | h; rw [hx] at h; cases h; exact h
   refine wpAny_bind (s_item (h1.extBut hs₁.extBut D.i1z) (hl1.extBut hs₁.extBut D.l1z) hx λ h₂ h1₂ hs₂ => wpAny_pure ?_)
   have hTO₂ : IsPair h₂ TO a b := hs₂.extBut _ _ D.TOi1 (hs₁.extBut _ _ D.TOz hTO)
   refine wpAny_bind (wpAny_seqItems hTO₂ rfl ?_)
   refine wpAny_bind (wpAny_updateSeq_pair hTO₂ λ h₃ hTO₃ hs₃ => ?_)
   refine wpAny_bind (wpAny_letGo (wpAny_pure ?_))
   refine wpAny_bind (wpAny_bind (wpAny_onRaise ?_))
   show wpAny _ _ (Builtin.SmallTypes.nextOf (.ref i2) >>= _) _ _ _
   refine wpAny_bind (s_end hh (((h2.extBut hs₁.extBut D.i2z).extBut hs₂.extBut D.i12.symm).extBut hs₃.extBut D.TOi2.symm)
     (((hl2.extBut hs₁.extBut D.l2z).extBut hs₂.extBut D.l2i1).extBut hs₃.extBut D.l2TO) hy λ h₄ e hs₄ he => ?_)
   obtain ⟨oe, hoe, hce⟩ := he
   have hz₄ : IsZip h₄ z TI TO .ellipsis := hs₄ _ _ D.i2z.symm (hs₃.extBut _ _ D.TOz.symm (hs₂.extBut _ _ D.i1z.symm hz₁))
   have hez : e ≠ z := λ x => by subst x; rw [hz₄] at hoe; cases hoe; simp at hce
   refine wpAny_setField_rec hz₄ (by simp) λ h₅ _ hs₅ => hE h₅ e (λ c o c1 c2 c3 c4 x => hs₅.extBut _ _ c1 (hs₄ _ _ c4 (hs₃.extBut _ _ c2 (hs₂.extBut _ _ c3 (hs₁.extBut _ _ c1 x))))) ⟨oe, hs₅.extBut _ _ hez hoe, hce⟩

theorem pyNext_zipS_item {f1 f2 : Bool} {z TI TO i1 i2 l1 l2 : Addr} {k1 k2 : Nat} {xs ys : Array Value} {x y a b : Value} {Q : Option Value -> Shared -> Prop} (D : ZipApart z TI TO i1 i2 l1 l2)
   (hz : IsZip s.heap z TI TO .none) (hTI : IsPair s.heap TI (.ref i1) (.ref i2)) (hTO : IsPair s.heap TO a b)
   (h1 : SIt f1 s.heap i1 l1 k1) (h2 : SIt f2 s.heap i2 l2 k2) (hl1 : SSq f1 s.heap l1 xs) (hl2 : SSq f2 s.heap l2 ys) (hx : xs[k1]? = some x) (hy : ys[k2]? = some y)
   (hQ : ∀ h', IsZip h' z TI TO (rawInt s.heap.objs.size) -> IsPair h' TO x y -> SIt f1 h' i1 l1 (k1 + 1) -> SIt f2 h' i2 l2 (k2 + 1) -> IsPair h' s.heap.objs.size x y -> h'.objs.size = s.heap.objs.size + 1 ->
     (∀ c o, c ≠ z -> c ≠ TO -> c ≠ i1 -> c ≠ i2 -> s.heap.get? c = some o -> h'.get? c = some o) -> Q (some (.ref s.heap.objs.size)) { s with heap := h' }) :
   wpAny (model prog w) A (pyNext (.ref z)) Q E s := by
 have hT : s.TypeIs (.ref z) "zip" := ⟨_, hz, rfl⟩
 unfold pyNext
 exact wpAny_bind (wpAny_attempt (wpAny_callSpecial?_slot (name := Str.ofString "__next__") hT F.slot_zip_next
   (wpAny_call_entry F.slot_zip_next hT F.entry_zip_next
     (zipS_next_item D hz hTI hTO h1 h2 hl1 hl2 hx hy λ h' a1 a2 a3 a4 a5 a6 a7 => wpAny_pure (hQ h' a1 a2 a3 a4 a5 a6 a7)) (F.args_zip_next_1 _))))

theorem pyNext_zipS_end {f1 f2 : Bool} {z TI TO i1 i2 l1 l2 : Addr} {k1 k2 : Nat} {xs ys : Array Value} {a b : Value} {Q : Option Value -> Shared -> Prop} (hh : A.handled = none) (D : ZipApart z TI TO i1 i2 l1 l2)
   (hz : IsZip s.heap z TI TO .none) (hTI : IsPair s.heap TI (.ref i1) (.ref i2)) (hTO : IsPair s.heap TO a b)
   (h1 : SIt f1 s.heap i1 l1 k1) (h2 : SIt f2 s.heap i2 l2 k2) (hl1 : SSq f1 s.heap l1 xs) (hl2 : SSq f2 s.heap l2 ys) (hend : xs[k1]? = none \/ ys[k2]? = none)
   (hQ : ∀ h', (∀ c o, c ≠ z -> c ≠ TO -> c ≠ i1 -> c ≠ i2 -> s.heap.get? c = some o -> h'.get? c = some o) -> Q none { s with heap := h' }) : wpAny (model prog w) A (pyNext (.ref z)) Q E s := by
 have hT : s.TypeIs (.ref z) "zip" := ⟨_, hz, rfl⟩
 unfold pyNext
 refine wpAny_bind (wpAny_attempt (wpAny_callSpecial?_slot (name := Str.ofString "__next__") hT F.slot_zip_next
   (wpAny_call_entry F.slot_zip_next hT F.entry_zip_next (zipS_next_end hh D hz hTI hTO h1 h2 hl1 hl2 hend λ h' e hk he => ?_) (F.args_zip_next_1 _))))
 obtain ⟨o, ho, hc⟩ := he
 refine wpAny_bind (wpAny_isInstance (T := "StopIteration") (b := true) ⟨o, ho, hc⟩ isSubtype_stop ?_)
 exact wpAny_pure (hQ _ hk)
end
abbrev zipSH1 (f1 : Bool) (h : Heap) (l1 : Addr) : Heap := h.push { cls := .type (sIt f1), data := .fields #[.ref l1, .int 0 0] }
abbrev zipSH2 (f1 f2 : Bool) (h : Heap) (l1 l2 : Addr) : Heap := (zipSH1 f1 h l1).push { cls := .type (sIt f2), data := .fields #[.ref l2, .int 0 0] }
abbrev zipSH3 (f1 f2 : Bool) (h : Heap) (l1 l2 : Addr) : Heap := (zipSH2 f1 f2 h l1 l2).push { cls := .type "tuple", data := .seq #[.ref h.objs.size, .ref (zipSH1 f1 h l1).objs.size] }
abbrev zipSH4 (f1 f2 : Bool) (h : Heap) (l1 l2 : Addr) : Heap := (zipSH3 f1 f2 h l1 l2).push { cls := .type "tuple", data := .seq #[.none, .none] }
abbrev zipSH5 (f1 f2 : Bool) (h : Heap) (l1 l2 : Addr) : Heap := (zipSH4 f1 f2 h l1 l2).push { cls := .type "zip", data := .fields #[.none, .bool false, .bool false, .ref (zipSH2 f1 f2 h l1 l2).objs.size, .ref (zipSH3 f1 f2 h l1 l2).objs.size] }

theorem meets_zipS_new (f1 f2 : Bool) (l1 l2 : Addr) (xs ys : Array Value) :
   Meets (Builtin.«zip.__new__» ⟨[.type "zip", .ref l1, .ref l2], []⟩) (λ _ R s => SSq f1 s.heap l1 xs /\ SSq f2 s.heap l2 ys /\
     R (.ok (.ret (.ref (zipSH4 f1 f2 s.heap l1 l2).objs.size))) { s with heap := zipSH5 f1 f2 s.heap l1 l2 }) :=
 .of_wp λ prog w A R s h => by
   obtain ⟨hp, g, d, tk, os⟩ := s; obtain ⟨hl1, hl2, h⟩ := h
   have hsub := sub_zip
   cases f1 <;> cases f2
   · have hL1 : Heap.IsList (Shared.heap ⟨hp, g, d, tk, os⟩) l1 xs := hl1
     have hL2 : Heap.IsList (Shared.heap ⟨hp.push { cls := .type "list_iterator", data := .fields #[.ref l1, .int 0 0] }, g, d, tk, os⟩) l2 ys := Heap.IsList.push hl2 _
     wp_walk using wpAny_pyIter_list hL1, wpAny_pyIter_list hL2
     exact ⟨_, rfl, h⟩
   · have hL1 : Heap.IsList (Shared.heap ⟨hp, g, d, tk, os⟩) l1 xs := hl1
     have hL2 : Heap.IsTuple (Shared.heap ⟨hp.push { cls := .type "list_iterator", data := .fields #[.ref l1, .int 0 0] }, g, d, tk, os⟩) l2 ys := Heap.IsTuple.push hl2 _
     wp_walk using wpAny_pyIter_list hL1, wpAny_pyIter_tuple hL2
     exact ⟨_, rfl, h⟩
   · have hL1 : Heap.IsTuple (Shared.heap ⟨hp, g, d, tk, os⟩) l1 xs := hl1
     have hL2 : Heap.IsList (Shared.heap ⟨hp.push { cls := .type "tuple_iterator", data := .fields #[.ref l1, .int 0 0] }, g, d, tk, os⟩) l2 ys := Heap.IsList.push hl2 _
     wp_walk using wpAny_pyIter_tuple hL1, wpAny_pyIter_list hL2
     exact ⟨_, rfl, h⟩
   · have hL1 : Heap.IsTuple (Shared.heap ⟨hp, g, d, tk, os⟩) l1 xs := hl1
     have hL2 : Heap.IsTuple (Shared.heap ⟨hp.push { cls := .type "tuple_iterator", data := .fields #[.ref l1, .int 0 0] }, g, d, tk, os⟩) l2 ys := Heap.IsTuple.push hl2 _
     wp_walk using wpAny_pyIter_tuple hL1, wpAny_pyIter_tuple hL2
     exact ⟨_, rfl, h⟩
section
variable {prog : Program} {w : World} {A : Around} {E : Value -> Shared -> Prop} {s : Shared}

theorem call_zipS {f1 f2 : Bool} {l1 l2 : Addr} {xs ys : Array Value} {Q : Value -> Shared -> Prop} (hl1 : SSq f1 s.heap l1 xs) (hl2 : SSq f2 s.heap l2 ys)
   (h : ∀ h', IsZip h' (s.heap.objs.size + 4) (s.heap.objs.size + 2) (s.heap.objs.size + 3) .none -> IsPair h' (s.heap.objs.size + 2) (.ref s.heap.objs.size) (.ref (s.heap.objs.size + 1)) ->
     IsPair h' (s.heap.objs.size + 3) .none .none -> SIt f1 h' s.heap.objs.size l1 0 -> SIt f2 h' (s.heap.objs.size + 1) l2 0 -> h'.objs.size = s.heap.objs.size + 5 ->
     (∀ c o, s.heap.get? c = some o -> h'.get? c = some o) -> Q (.ref (s.heap.objs.size + 4)) { s with heap := h' }) :
   wpAny (model prog w) A (call (.type "zip") [.ref l1, .ref l2]) Q E s := by
 refine callType_new F.called_zip (by decide) (F.typeCall_zip_2 _ _) (F.newCall_zip_2 _ _) (λ obj => F.args_object_init_3 obj _ _) F.entry_zip_new
   (meets_zipS_new f1 f2 l1 l2 xs ys) ⟨hl1, hl2, ?_⟩
 have z1 : (zipSH1 f1 s.heap l1).objs.size = s.heap.objs.size + 1 := Heap.size_push ..
 have z2 : (zipSH2 f1 f2 s.heap l1 l2).objs.size = s.heap.objs.size + 2 := by rw [Heap.size_push, z1]
 have z3 : (zipSH3 f1 f2 s.heap l1 l2).objs.size = s.heap.objs.size + 3 := by rw [Heap.size_push, z2]
 have z4 : (zipSH4 f1 f2 s.heap l1 l2).objs.size = s.heap.objs.size + 4 := by rw [Heap.size_push, z3]
 have z5 : (zipSH5 f1 f2 s.heap l1 l2).objs.size = s.heap.objs.size + 5 := by rw [Heap.size_push, z4]
 have g5 : (zipSH5 f1 f2 s.heap l1 l2).get? (zipSH4 f1 f2 s.heap l1 l2).objs.size = some _ := Heap.get?_push_size _ rfl
 have g4 : (zipSH5 f1 f2 s.heap l1 l2).get? (zipSH3 f1 f2 s.heap l1 l2).objs.size = some _ := Heap.get?_push_of_some _ (Heap.get?_push_size _ rfl)
 have g3 : (zipSH5 f1 f2 s.heap l1 l2).get? (zipSH2 f1 f2 s.heap l1 l2).objs.size = some _ := Heap.get?_push_of_some _ (Heap.get?_push_of_some _ (Heap.get?_push_size _ rfl))
 have g2 : (zipSH5 f1 f2 s.heap l1 l2).get? (zipSH1 f1 s.heap l1).objs.size = some _ := Heap.get?_push_of_some _ (Heap.get?_push_of_some _ (Heap.get?_push_of_some _ (Heap.get?_push_size _ rfl)))
 have g1 : (zipSH5 f1 f2 s.heap l1 l2).get? s.heap.objs.size = some _ := Heap.get?_push_of_some _ (Heap.get?_push_of_some _ (Heap.get?_push_of_some _ (Heap.get?_push_of_some _ (Heap.get?_push_size _ rfl))))
 show _ /\ _
 rw [z2, z3, z4] at g5
 rw [z1, z2] at g3
 rw [z3] at g4
 rw [z1] at g2
 rw [z4]
 exact ⟨⟨_, g5, rfl⟩, h _ g5 g3 g4 ⟨_, g1, rfl, rfl⟩ ⟨_, g2, rfl, rfl⟩ z5 λ c o x =>
   Heap.get?_push_of_some _ (Heap.get?_push_of_some _ (Heap.get?_push_of_some _ (Heap.get?_push_of_some _ (Heap.get?_push_of_some _ x))))⟩
end
section
variable {X : Cx} {pins : List (Addr × Obj)} {σ : L2.St} {H : Hp} {s : Shared} {f : Bool} {a : Addr} {xs ys : List V}
theorem sq_get (I : Inv X pins σ H s) (h : SqG X.K f H a xs) : ∃ its, Vals xs its /\ SSq f s.heap a its.toArray /\ xs.length <= sizeLine := by
 cases f with
 | true => exact I.tuple h
 | false =>
   obtain ⟨its, rv, p, z⟩ := I.list h
   exact ⟨its, rv, p.isList, z⟩
theorem sq_inj (I : Inv X pins σ H s) (h : SqG X.K f H a xs) (h2 : SqG X.K f H a ys) : xs = ys := by
 cases f with
 | true => exact I.tuple_inj h h2
 | false => exact I.list_inj h h2
end
def ItzS (K : Fr) (f1 f2 : Bool) (a b : Addr) : It :=
 ⟨λ i H => ∃ (xs ys : List V) (x y : V), SqG K f1 H a xs /\ SqG K f2 H b ys /\ xs[i]? = some x /\ ys[i]? = some y,
   λ i H v H' => ∃ T x y, v = .ref T /\ H T = none /\ H' = upd H T (.tup [x, y]) /\ (∀ xs, SqG K f1 H a xs -> xs[i]? = some x) /\ ∀ ys, SqG K f2 H b ys -> ys[i]? = some y,
   λ i H => ∃ xs ys : List V, SqG K f1 H a xs /\ SqG K f2 H b ys /\ (xs.length <= i \/ ys.length <= i)⟩
theorem turn_zipS {f1 f2 : Bool} {P : Program} {w : World} {K : Fr} {elts : List Expr} {kk : Nat} {tpos : Pos} {a b z TI TO i1 i2 : Addr} (D : ZipApart z TI TO i1 i2 a b) :
   Turn P w K (.Tuple elts kk tpos) (ItzS K f1 f2 a b) [z, TI, TO, i1, i2] z (λ i h => IsZip h z TI TO .none /\ IsPair h TI (.ref i1) (.ref i2) /\ (∃ x y, IsPair h TO x y) /\ SIt f1 h i1 a i /\ SIt f2 h i2 b i) where
 mem := by simp
 obj := λ i h st c hc => by
   obtain ⟨hz, hTI, ⟨x, y, hTO⟩, ⟨o1, e1, _, d1⟩, ⟨o2, e2, _, d2⟩⟩ := st
   have e' : c = z \/ c = TI \/ c = TO \/ c = i1 \/ c = i2 := by simpa using hc
   rcases e' with q | q | q | q | q
   · rw [q]; exact ⟨_, hz, λ v q => nomatch q⟩
   · rw [q]; exact ⟨_, hTI, λ v q => nomatch q⟩
   · rw [q]; exact ⟨_, hTO, λ v q => nomatch q⟩
   · rw [q]; exact ⟨o1, e1, λ v q => by rw [d1] at q; cases q⟩
   · rw [q]; exact ⟨o2, e2, λ v q => by rw [d2] at q; cases q⟩
 keep := λ i h h' st k => by
   obtain ⟨hz, hTI, ⟨x, y, hTO⟩, h1, h2⟩ := st
   exact ⟨k z (by simp) _ hz, k TI (by simp) _ hTI, ⟨x, y, k TO (by simp) _ hTO⟩, h1.at λ o q => k i1 (by simp) o q, h2.at λ o q => k i2 (by simp) o q⟩
 item := by
   intro X hP hw hK hc i pins s σ H E I hf st hg
   subst hP hw hK
   obtain ⟨hz, hTI, ⟨x0, y0, hTO⟩, h1, h2⟩ := st
   obtain ⟨xs, ys, x, y, hqx, hqy, hx, hy⟩ := hg
   obtain ⟨its, rv, p, _⟩ := sq_get I hqx
   obtain ⟨its2, rv2, p2, _⟩ := sq_get I hqy
   obtain ⟨u, hu, ru⟩ := rv.get hx
   obtain ⟨u2, hu2, ru2⟩ := rv2.get hy
   have hzl : z < s.heap.objs.size := Heap.lt_size hz
   refine pyNext_zipS_item D hz hTI hTO h1 h2 p p2 (x := u) (y := u2) (by simpa using hu) (by simpa using hu2) λ h' z' TO' h1' h2' hT hsz hk => ?_
   refine ⟨_, rfl, wpAny_letOwnedTupleGo_zip (s := { s with heap := h' }) z' λ h'' z'' sb => ?_⟩
   have hT2 : h''.get? s.heap.objs.size = some { cls := .type "tuple", data := .seq #[u, u2] } := (sb.2 _ (Nat.ne_of_gt hzl)).trans hT
   have new : ObjOk X.prog X.w (upd H s.heap.objs.size (.tup [x, y])) h'' s.heap.objs.size (.tup [x, y]) :=
     ⟨by show 2 <= sizeLine; decide, [u, u2], .cons ru (.cons ru2 .nil), ⟨_, hT2, rfl, _, rfl⟩⟩
   have I1 : Inv X pins σ (upd H s.heap.objs.size (.tup [x, y])) { s with heap := h'' } :=
     I.turnedNew (t' := s.toks) (ch := [z, TI, TO, i1, i2]) (λ c o hb q => (sb.2 c (λ q' => hb (by simp [q']))).trans (hk c o (λ q' => hb (by simp [q'])) (λ q' => hb (by simp [q'])) (λ q' => hb (by simp [q'])) (λ q' => hb (by simp [q'])) q)) hf (Nat.le_refl _) new
   refine ⟨.ref s.heap.objs.size, _, I1, rfl, ⟨_, x, y, rfl, I.hok.fresh (Nat.le_refl _), rfl, λ l hl => by rw [sq_inj I hl hqx]; exact hx, λ l hl => by rw [sq_inj I hl hqy]; exact hy⟩, ⟨z'', ?_, ⟨u, u2, ?_⟩, ?_, ?_⟩, λ c hcm => ?_⟩
   · exact (sb.2 _ D.TIz).trans (hk _ _ D.TIz D.TITO D.TIi1 D.TIi2 hTI)
   · exact (sb.2 _ D.TOz).trans TO'
   · exact h1'.at λ o q => (sb.2 _ D.i1z).trans q
   · exact h2'.at λ o q => (sb.2 _ D.i2z).trans q
   · have hlt : c < s.heap.objs.size := by
       have e' : c = z \/ c = TI \/ c = TO \/ c = i1 \/ c = i2 := by simpa using hcm
       rcases e' with q | q | q | q | q
       · rw [q]; exact hzl
       · rw [q]; exact Heap.lt_size hTI
       · rw [q]; exact Heap.lt_size hTO
       · rw [q]; obtain ⟨_, e1, _⟩ := h1; exact Heap.lt_size e1
       · rw [q]; obtain ⟨_, e2, _⟩ := h2; exact Heap.lt_size e2
     rw [upd_ne (Nat.ne_of_lt hlt)]
     exact (hf c hcm).1
 done := by
   intro X hP hw hK hc i pins s σ H E I hf st hg
   subst hP hw hK
   obtain ⟨hz, hTI, ⟨x0, y0, hTO⟩, h1, h2⟩ := st
   obtain ⟨xs, ys, hqx, hqy, hend⟩ := hg
   obtain ⟨its, rv, p, _⟩ := sq_get I hqx
   obtain ⟨its2, rv2, p2, _⟩ := sq_get I hqy
   have l1 := rv.length
   have l2 := rv2.length
   have he : its.toArray[i]? = none \/ its2.toArray[i]? = none := by
     rcases hend with q | q
     · exact .inl (by simp; omega)
     · exact .inr (by simp; omega)
   exact pyNext_zipS_end (I.ok.hd hc) D hz hTI hTO h1 h2 p p2 he λ h' hk => ⟨rfl, I.turnedL (t' := s.toks) (ch := [z, TI, TO, i1, i2]) (λ c o hb q =>
     hk c o (λ q' => hb (by simp [q'])) (λ q' => hb (by simp [q'])) (λ q' => hb (by simp [q'])) (λ q' => hb (by simp [q'])) q) hf⟩
 self := λ A i s Q E st h => wpAny_pyIter_zip st.1 h

def iZipG (K : Fr) (f1 f2 : Bool) (ta : TA) : TI := λ σ H R => ta σ H λ vs H1 => ∃ a b xs ys, vs = [.ref a, .ref b] /\ SqG K f1 H1 a xs /\ SqG K f2 H1 b ys /\ R (ItzS K f1 f2 a b) H1
theorem pi_zipG (f1 f2 : Bool) {X : Cx} {e e2 : Expr} {ta : TA} {p pos tpos : Pos} {elts : List Expr} {kk : Nat} (hg : Gl X "zip") (hm : X.mg "zip" = none) (ha : PA X [e, e2] ta)
   (hs : starEach [e, e2] X.env = (false, eval e X.env) :: starEach [e2] X.env := by rfl) (hpl : (backTo pos (starEach [e2] X.env)).any (·.1) = false := by rfl) :
   PI X (.Tuple elts kk tpos) (.Call (.Name "zip" p) [e, e2] [] pos) (iZipG X.K f1 f2 ta) := by
 refine ⟨λ pins s σ H R I h => ?_⟩
 refine Call_ (ld_blt I hg hm PyProof.Rows.boot_zip (PyProof.Rows.callWith_type1 (thn (ha.run pos pins s σ H _ I h) λ us s1 ⟨vs, H1, I1, r1, q1⟩ => ?_) hs hpl))
 obtain ⟨a, b, xs, ys, ex, hqx, hqy, q⟩ := q1
 subst ex
 cases r1 with
 | cons r rr =>
   cases rr with
   | cons r' rr =>
     cases rr
     cases r
     cases r'
     have fr : ∀ c, c ∈ [s1.heap.objs.size + 4, s1.heap.objs.size + 2, s1.heap.objs.size + 3, s1.heap.objs.size, s1.heap.objs.size + 1] -> FpOk X pins H1 c := λ c hcm => by
       have hle : s1.heap.objs.size <= c := by
         simp only [List.mem_cons, List.not_mem_nil, or_false] at hcm
         omega
       exact I1.fpOk hle (I1.hok.fresh hle)
     obtain ⟨its, rv, p1, _⟩ := sq_get I1 hqx
     obtain ⟨its2, rv2, p2, _⟩ := sq_get I1 hqy
     obtain ⟨o1, ho1, _⟩ := id p1
     obtain ⟨o2, ho2, _⟩ := id p2
     refine call_zipS p1 p2 λ h' hz hTI hTO h1 h2 hsz hk => wpAny_pyIter_zip hz ?_
     have I2 : Inv X pins σ H1 { s1 with heap := h' } := I1.kept (t' := s1.toks) hk
     exact ⟨s1.heap.objs.size + 4, [s1.heap.objs.size + 4, s1.heap.objs.size + 2, s1.heap.objs.size + 3, s1.heap.objs.size, s1.heap.objs.size + 1], _, _, H1, rfl, I2, turn_zipS (PySem.W.ktu_apart s1.heap.objs.size a b (Heap.lt_size ho1) (Heap.lt_size ho2)), ⟨hz, hTI, ⟨_, _, hTO⟩, h1, h2⟩, fr, q⟩
section
variable {K : Fr} {f1 f2 f : Bool} {a b : Addr} {vs us : List V} {Rs : List Res} {H : Hp} {σ : L2.St} {Q : VK} {α γ β : Type} {xs : List α} {ys : List γ} {D : Ends}
theorem walk_zipS {n : Nat} (hn : n = min vs.length us.length) : Walk (ItzS K f1 f2 a b) n (λ H => SqG K f1 H a vs /\ SqG K f2 H b us) (YPair (λ i => vs[i]?) (λ i => us[i]?)) := by
 subst hn
 refine ⟨λ i H hi q => ⟨vs, us, vs[i]'(by omega), us[i]'(by omega), q.1, q.2, by simp [show i < vs.length by omega], by simp [show i < us.length by omega]⟩, λ H q => ⟨vs, us, q.1, q.2, by omega⟩, λ i H x H' hi q y => ?_⟩
 obtain ⟨T, x1, y1, e, hT, e2, hx, hy⟩ := y
 exact ⟨T, x1, y1, e, hT, e2, hx vs q.1, hy us q.2⟩
def seqD : Bool -> List PyData -> PyData
 | true => .tuple
 | false => .list
theorem sqG_ext {H H' : Hp} (e : Ext H H') (h : SqG K f H a vs) : SqG K f H' a vs := by
 cases f with
 | true => exact e.sqT h
 | false => exact e.sqL h
def rdG (K : Fr) (f : Bool) (a : Addr) (xs : List V) : Res := ⟨λ F l => l = [] /\ SqG K f F a xs, λ _ _ _ e h => ⟨h.1, sqG_ext e h.2⟩⟩
theorem M.openG (f : Bool) {v : V} {ds : List PyData} (S : M (da K v (seqD f ds) :: Rs) H) : ∃ a vs, v = .ref a /\ M (rdG K f a vs :: daA K vs ds :: Rs) H := by
 obtain ⟨F, L, ⟨l1, l2, rfl, ⟨rfl, d⟩, s⟩, m⟩ := S
 cases f with
 | true =>
   cases d with
   | tup h q => exact ⟨_, _, rfl, F, l2, ⟨[], l2, rfl, ⟨rfl, h⟩, [], l2, rfl, ⟨rfl, q⟩, s⟩, m⟩
 | false =>
   cases d with
   | lst h q => exact ⟨_, _, rfl, F, l2, ⟨[], l2, rfl, ⟨rfl, h⟩, [], l2, rfl, ⟨rfl, q⟩, s⟩, m⟩
theorem M.gotG {a : Addr} (S : M Rs H) (j : Nat) (hj : Rs[j]? = some (rdG K f a vs)) : SqG K f H a vs := by
 obtain ⟨F, L, s, m⟩ := S
 obtain ⟨l, h⟩ := s.get j hj
 exact sqG_ext m.ex h.2
theorem M.zl {e : α -> PyData} (S : M Rs H) (i : Nat) (hi : Rs[i]? = some (rdG K f a vs)) (j : Nat) (hj : Rs[j]? = some (daA K vs (xs.map e))) : SqG K f H a vs /\ vs.length = xs.length := by
 refine ⟨S.gotG i hi, ?_⟩
 have := (S.gotAA j hj).len
 rwa [List.length_map] at this
def ItZG (K : Fr) (f1 f2 : Bool) (R : It -> Hp -> Prop) : List V -> Hp -> Prop := λ vs H1 => ∃ a b xs ys, vs = [.ref a, .ref b] /\ SqG K f1 H1 a xs /\ SqG K f2 H1 b ys /\ R (ItzS K f1 f2 a b) H1
theorem g_iZipG {ta : TA} {R : It -> Hp -> Prop} (k : ta σ H (ItZG K f1 f2 R)) : iZipG K f1 f2 ta σ H R := k
theorem for_zipG {F : α × γ -> β -> (β -> Prop) -> Prop} {s0 : β} {KK : β -> Prop} {g : TG} {tb : TS} {v w : V} (e1 : v = .ref a) (e2 : w = .ref b) (hf : forD F (xs.zip ys) s0 KK) (Inv : β -> L2.St -> Hp -> Prop) (h0 : Inv s0 σ H)
   (hrd : ∀ s σ H, Inv s σ H -> (SqG K f1 H a vs /\ vs.length = xs.length) /\ SqG K f2 H b us /\ us.length = ys.length)
   (hs : ∀ (i : Nat) v u (q : α × γ) s σ H T (kk : β -> Prop), Inv s σ H -> H T = none -> vs[i]? = some v -> xs[i]? = some q.1 -> us[i]? = some u -> ys[i]? = some q.2 -> F q s kk -> g (.ref T) σ (upd H T (.tup [v, u])) λ σ2 H2 => tb ⟨λ σ H => ∃ s', kk s' /\ Inv s' σ H, D.rt, D.nx, λ σ H => ∃ s', kk s' /\ Inv s' σ H⟩ σ2 H2)
   (hd : ∀ s σ H, KK s -> Inv s σ H -> D.nx σ H) : ItZG K f1 f2 (λ J H1 => ForW J g tb D σ H1) [v, w] H := by
 subst e1 e2
 obtain ⟨⟨q1, hl⟩, q2, hl2⟩ := hrd _ _ _ h0
 have hn : (xs.zip ys).length = min vs.length us.length := by rw [List.length_zip, hl, hl2]
 refine ⟨a, b, vs, us, rfl, q1, q2, for_W (walk_zipS hn) (λ i σ H => ∃ s, forD F ((xs.zip ys).drop i) s KK /\ Inv s σ H) ⟨s0, by simpa using hf, h0⟩ (λ i σ H _ ⟨s, _, h⟩ => ⟨(hrd s σ H h).1.1, (hrd s σ H h).2.1⟩) ?_ ?_⟩
 · rintro i p σ H H' hi ⟨s, hf, h⟩ ⟨T, v, u, rfl, hT, rfl, hv, hu⟩
   rw [List.drop_eq_getElem_cons hi] at hf
   have hzi := hi
   rw [List.length_zip] at hzi
   have h1 : i < xs.length := by omega
   have h2 : i < ys.length := by omega
   have e0 : (xs.zip ys)[i] = (xs[i], ys[i]) := List.getElem_zip
   rw [e0] at hf
   exact hs i v u (xs[i], ys[i]) s σ H T _ h hT hv (List.getElem?_eq_getElem h1) hu (List.getElem?_eq_getElem h2) hf
 · rintro σ H ⟨s, hf, h⟩
   rw [List.drop_length] at hf
   exact hd s σ H hf h
end
end RC

namespace RC
open PySem PySem.Spec PyProof.Rows L2
section
variable {P : Program} {w : World} {A : Around} {E : Value -> Shared -> Prop} {s : Shared} {a : Addr} {es : Array (Int × Value)} {ep : Nat} {t : SetTable}
end
section
variable {X : Cx}
end
section
variable {K : Fr} {α : Type} {e : α -> PyData} {Rs : List Res} {H : Hp} {Q : VK} {v : V} {a b : Addr} {σ : L2.St} {w : World}
end
section
variable {prog : Program} {w : World} {A : Around} {R : Result -> Shared -> Prop} {s : Shared} {elt t0 i0 t1 i1 : Expr} {ifs0 ifs1 : List Expr} {scope : Scope} {pos : Pos} {it acc : Value} {env : Env}
end

section
variable {X : Cx}
end
end RC

namespace RC
open PySem PySem.Spec PyProof.Rows L2
section
variable {K : Fr} {w : World} {Rs : List Res} {H : Hp} {σ : L2.St} {Q : VK} {α κ : Type} {vs : List V} {xs : List α} {a p D : Addr} {e : α -> PyData} {L : List Key} {acc : List Int}
end
structure InsY (K : Fr) (C : Addr) : Prop where
 ha : PySem.W.findIn K (.ref C) "__class__" = some (some (.builtin "object.__class__"))
 hn : PySem.W.specialIn K (.builtin "object.__class__") "__get__" = some (some (.builtin "getset_descriptor.__get__"))
 ht : PySem.W.takesIn K (.builtin "object.__class__") = some true
 hm : PySem.W.mroIn K C (.type "object") = some true
theorem chY_ok {K : Fr} {x : Str} (h : chY K x = true) : InsY K (He.ga K x) :=
 ⟨He.eqO_ok (He.ba (He.ba h).1).1, He.eqO_ok (He.ba (He.ba h).1).2, of_decide_eq_true (He.ba (He.ba h).2).1, of_decide_eq_true (He.ba (He.ba h).2).2⟩
theorem v_isI {K : Fr} {H : Hp} {a C C2 : Addr} {dx : Addr} {fs : List (Str × V)} {b : Bool} {Q : VK} (h : H a = some (.ins C dx fs)) (c : Cls K C) (y : InsY K C) (hk : PySem.W.kitOne K (.ref C) (.ref C2) = some b) (k : Q (.bl b) H) : uIsi K [.ref a, .ref C2] H Q :=
 .inl ⟨.ref a, .ref C2, .ref C, .ref C2, b, rfl, .own _, .base (.ins h c y.ha y.hn y.ht y.hm), hk, k⟩
end RC

namespace RC
open PySem PySem.Spec PyProof.Rows L2
section
variable {K : Fr} {κ α β γ κ2 : Type} [DecidableEq κ] [DecidableEq κ2] {Rs : List Res} {H : Hp} {σ : L2.St} {p : Addr} {Q : VK} {od : Obj} {kvs : List (Key × V)} {ik : κ -> Key} {m : List (κ × α)} {e : α -> PyData} {sv : κ -> V} {D : Ends}
end
end RC

namespace RC
open PySem PySem.Spec PyProof.Rows L2
section
variable {K : Fr} {Rs : List Res} {H : Hp} {Q : VK} {p q : Addr} {m : List ((Int × Int) × Bool)} {x : Int × Int} {σ : L2.St}
end
section
variable {X : Cx}
end
section
variable {K : Fr} {α κ : Type} {ik : κ -> Key} {e : α -> PyData} {Rs : List Res} {H H' : Hp} {Q : VK} {v : V} {p : Addr} {m : List (κ × α)}
end
section
variable {K : Fr} {α β : Type} {A : V -> α -> Res} {B : List V -> β -> Res} {e : α -> PyData} {es : β -> List PyData} {Rs : List Res} {H : Hp} {p : Addr}
end
section
variable {K : Fr} {α : Type} {A : V -> α -> Res} {Rs : List Res} {H : Hp} {p : Addr}
end
end RC

namespace RC
open PySem PySem.Spec PyProof.Rows L2
section
variable {K : Fr} {α : Type} {e : α -> PyData} {Rs : List Res} {H : Hp} {p : Addr} {vs : List V} {xs : List α} {Q : VK}
end
section
variable {K : Fr} {H : Hp} {Q : VK} {v w : V}
end
end RC

namespace RC
open PySem PySem.Spec PyProof.Rows L2
section
variable {X : Cx}
end
section
variable {K : Fr} {Rs : List Res} {H : Hp} {Q : VK} {w : World} {a b : Addr}
end
section
variable {Rs : List Res} {H : Hp}
end
end RC

namespace RC
open PySem PySem.Spec PyProof.Rows L2
section
variable {K : Fr} {Rs : List Res} {H : Hp} {σ : L2.St} {Q : VK} {α β γ : Type} {xs : List α} {ys : List β} {a q D : Addr} {e : α -> PyData} {eb : β -> PyData} {e' : γ -> PyData} {sv : α -> V} {svb : β -> V} {acc : List γ}
end
section
variable {X : Cx}
end
end RC

namespace RC
open PySem PySem.Spec PyProof.Rows L2
section
variable {K : Fr} {Rs : List Res} {H : Hp} {σ : L2.St} {Q : VK} {α β γ : Type} {xs : List α} {ys : List β} {a q D : Addr} {e : α -> PyData} {eb : β -> PyData} {e' : γ -> PyData} {sv : α -> V} {svb : β -> V} {acc : List γ}
end
section
variable {K : Fr} {κ α β : Type} {ik : κ -> Key} {A : V -> α -> Res} {Rs : List Res} {H : Hp} {p : Addr} {m : List (κ × α)} {σ : L2.St} {od : Obj} {kvs : List (Key × V)} {Q : VK}
variable [DecidableEq κ]
end
end RC

namespace RC
open PySem PySem.Spec PyProof.Rows L2
section
variable {K : Fr} {α : Type} {e : α -> PyData} {Rs : List Res} {H : Hp} {Q : VK} {p q : Addr}
end
end RC

namespace RC
open PySem PySem.Spec PyProof.Rows L2
def nthR : List Res -> Nat -> Option Res
 | [], _ => none
 | R :: _, 0 => some R
 | _ :: Rs, n + 1 => nthR Rs n
def dropR : Nat -> List Res -> List Res
 | 0, Rs => Rs
 | _ + 1, [] => []
 | n + 1, _ :: Rs => dropR n Rs
def pkL (Bs tl : List Res) : List Nat -> List Res
 | [] => tl
 | j :: js => match nthR Bs j with
   | some R => R :: pkL Bs tl js
   | none => pkL Bs tl js
def notIn (j : Nat) : List Nat -> Bool
 | [] => true
 | i :: is => !(Nat.beq i j) && notIn j is
def okJ (n : Nat) : List Nat -> Bool
 | [] => true
 | j :: js => Nat.blt j n && (notIn j js && okJ n js)
theorem nthR_eq : ∀ (Bs : List Res) (n : Nat), nthR Bs n = Bs[n]?
 | [], n => by cases n <;> rfl
 | R :: Bs, 0 => rfl
 | R :: Bs, n + 1 => by
   rw [nthR, nthR_eq Bs n, List.getElem?_cons_succ]
theorem dropR_eq : ∀ (n : Nat) (Bs : List Res), dropR n Bs = Bs.drop n
 | 0, Bs => rfl
 | n + 1, [] => rfl
 | n + 1, R :: Bs => by
   rw [dropR, dropR_eq n Bs, List.drop_succ_cons]
theorem pkL_eq (Bs tl : List Res) : ∀ js : List Nat, pkL Bs tl js = js.filterMap (λ i => Bs[i]?) ++ tl
 | [] => rfl
 | j :: js => by
   rw [pkL, nthR_eq, pkL_eq Bs tl js, List.filterMap_cons]
   cases Bs[j]? <;> rfl
theorem notIn_ok {j : Nat} : ∀ {is : List Nat}, notIn j is = true -> j ∉ is
 | [], _ => λ h => nomatch h
 | i :: is, h => by
   obtain ⟨h1, h2⟩ := Bool.and_eq_true_iff.mp h
   intro hm
   rcases List.mem_cons.mp hm with e | e
   · subst e
     rw [show Nat.beq j j = true from Nat.beq_refl j] at h1
     cases h1
   · exact notIn_ok h2 e
theorem okJ_ok {n : Nat} : ∀ {js : List Nat}, okJ n js = true -> js.Nodup /\ ∀ j ∈ js, j < n
 | [], _ => ⟨List.nodup_nil, λ _ h => nomatch h⟩
 | j :: js, h => by
   obtain ⟨h1, h2⟩ := Bool.and_eq_true_iff.mp h
   obtain ⟨h3, h4⟩ := Bool.and_eq_true_iff.mp h2
   obtain ⟨i1, i2⟩ := okJ_ok h4
   refine ⟨List.nodup_cons.mpr ⟨notIn_ok h3, i1⟩, λ i hi => ?_⟩
   rcases List.mem_cons.mp hi with e | e
   · rw [e]
     exact Nat.le_of_ble_eq_true h1
   · exact i2 i e
theorem take_fm (Bs : List Res) (n : Nat) : (List.range n).filterMap (λ i => Bs[i]?) = Bs.take n := by
 induction n with
 | zero => rfl
 | succ n ih =>
   rw [List.range_succ, List.filterMap_append, ih, List.take_succ]
   cases e : Bs[n]? <;> simp [e]
theorem Sub.left (rest : List Res) : ∀ As : List Res, Sub As (As ++ rest)
 | [] => Sub.nil _
 | a :: As => Sub.cons 0 rfl (Sub.left rest As)
theorem M.pk {Bs : List Res} {H : Hp} (S : M Bs H) (n : Nat) (js : List Nat) (h : okJ n js = true) : M (pkL Bs (dropR n Bs) js) H := by
 obtain ⟨h1, h2⟩ := okJ_ok h
 rw [pkL_eq, dropR_eq]
 have hp : (js ++ (List.range n).filter λ i => !decide (i ∈ js)).Perm (List.range n) := by
   refine perm_of ?_ List.nodup_range λ x => ?_
   · refine List.nodup_append.mpr ⟨h1, List.nodup_range.sublist List.filter_sublist, λ a ha b hb e => ?_⟩
     subst e
     simp [ha] at hb
   · rw [List.mem_append, List.mem_filter, List.mem_range]
     constructor
     · rintro (h | h)
       · exact h2 x h
       · exact h.1
     · intro h
       by_cases z : x ∈ js
       · exact .inl z
       · exact .inr ⟨h, by simpa using z⟩
 have hq := (hp.filterMap λ i => Bs[i]?)
 rw [List.filterMap_append, take_fm] at hq
 have hr : ((js.filterMap (λ i => Bs[i]?) ++ Bs.drop n) ++ ((List.range n).filter λ i => !decide (i ∈ js)).filterMap (λ i => Bs[i]?)).Perm Bs := by
   have h3 := hq.append_right (Bs.drop n)
   rw [List.take_append_drop] at h3
   refine List.Perm.trans ?_ h3
   rw [List.append_assoc, List.append_assoc]
   exact List.Perm.append_left _ List.perm_append_comm
 refine M.sub (λ F L s => ?_) S
 obtain ⟨L0, p0, s0⟩ := s.perm hr.symm
 obtain ⟨L1, L2, p1, s1⟩ := Sub.left _ _ F L0 s0
 exact ⟨L1, L2, p0.trans p1, s1⟩
end RC

namespace RC
open PySem PySem.Spec PyProof.Rows L2
end RC

namespace RC
open PySem PySem.Spec PyProof.Rows L2
def rEqM (C : Addr) (sp : Sp) : R2 := λ x y H Q => ∃ a b dx dy fs gs, x = .ref a /\ y = .ref b /\ H a = some (.ins C dx fs) /\ H b = some (.ins C dy gs) /\ sp [.ref a, .ref b] H (λ v H' => ∃ r : Bool, v = .bl r /\ Q (.bl r) H') (λ _ _ _ => False)
theorem op_eqM {X : Cx} {g : Bool} {k : Nat} {C f : Addr} {fd : FuncData} {ps : List Str} {sp : Sp} (hm : Meth X.K C "__eq__" f) (F : FnX g X.prog X.w X.K X.mg X.base CX0 k f fd ps sp) (hgu : g = true -> X.A.guards = some []) (hr : Room k X.A) (hb : Binds X.K fd ps []) : OpR X (compareOp .Eq) (rEqM C sp) := by
 intro pins s σ H x y v u Q I rx ry hq
 obtain ⟨a, b, dx, dy, fs, gs, rfl, rfl, ha, hb', hq⟩ := hq
 cases rx
 cases ry
 obtain ⟨mA, J, _⟩ := ins_get I.hok ha
 obtain ⟨mB, J', _⟩ := ins_get I.hok hb'
 obtain ⟨od, J, _⟩ := J.look
 obtain ⟨od', J', _⟩ := J'.look
 obtain ⟨m, hF⟩ := I.fr
 show wpAny (model X.prog X.w) X.A (richCompare .Eq (.ref a) (.ref b)) (EP X pins σ Q) X.xe s
 refine PySem.W.cmp_K (op := .Eq) (tb := .ref C) hr.units0 hF I.ok.mod.kin J J'.type (by simp [PySem.W.notFirst]) hm.at_ hm.fn ?_
 refine wpAny_mono (runW (us := [.ref a, .ref b]) (vs := [.ref a, .ref b]) F hgu hr hb .nil pas0 I (.cons rfl (.cons rfl .nil)) hq) (λ w s' z => ?_) λ _ _ x => x
 obtain ⟨y, H', I', ry, r, rfl, q⟩ := z
 cases ry
 exact ⟨.bl r, H', I', rfl, q⟩
section
variable {K : Fr} {α : Type} {Rs : List Res} {H : Hp} {T : Addr -> α -> Res} {p : Addr} {Q : VK}
end
end RC

namespace RC
open PySem PySem.Spec PyProof.Rows L2
theorem FnX.or {g : Bool} {P : Program} {w : World} {K : Fr} {mg : Str -> Option Value} {base : Heap} {CX : CXT} {k : Nat} {f : Addr} {fd : FuncData} {ps : List Str} {s1 s2 : Sp}
   (F1 : FnX g P w K mg base CX k f fd ps s1) (F2 : FnX g P w K mg base CX k f fd ps s2) : FnX g P w K mg base CX k f fd ps (λ vs H Q E => s1 vs H Q E \/ s2 vs H Q E) :=
 ⟨λ vs H Q E h => h.elim (F1.lenG vs H Q E) (F2.lenG vs H Q E), λ B out t H args bs us vs Q E a b c d e f h => h.elim (F1.runG B out t H args bs us vs Q E a b c d e f) (F2.runG B out t H args bs us vs Q E a b c d e f)⟩
section
variable {K : Fr} {H : Hp} {v w : V} {Q : VK} {Rs : List Res} {σ : L2.St} {α β : Type}
end
section
variable {κ α : Type} [DecidableEq κ] {K : Fr} {ik : κ -> Key} {e : α -> PyData} {m : List (κ × α)} {Rs : List Res} {H : Hp} {Q : VK} {σ : L2.St} {p : Addr}
end
end RC

namespace RC
open PySem PySem.Spec PyProof.Rows L2
section
variable {X : Cx}
end
section
variable {α : Type} {K : Fr} {e : α -> PyData} {m : List (Int × α)} {Rs : List Res} {H : Hp} {Q : VK} {p : Addr}
end
section
variable {α : Type} {K : Fr} {Rs : List Res} {H : Hp} {Q : VK} {v w : V} {p : Addr} {e : α -> PyData}
end
end RC

namespace RC
open PySem PySem.Spec PyProof.Rows L2
section
variable {K : Fr} {κ α β : Type} {ik : κ -> Key} {A : V -> α -> Res} {e : α -> PyData} {Rs : List Res} {H : Hp} {p : Addr} {m : List (κ × α)} {σ : L2.St} {od : Obj} {kvs : List (Key × V)} {Q : VK}
end
end RC

namespace RC
open PySem PySem.Spec PyProof.Rows L2
section
variable {K : Fr} {α : Type} {A : V -> α -> Res} {Rs : List Res} {H : Hp} {p : Addr} {Q : VK}
variable {vs : List V} {xs : List α} {n m : Nat} {u1 u2 : V} {x1 x2 y1 y2 : α}
end
section
open PySem.SeqAt PySem.AutoSeq1 PySem.MeetsSeq PySem.MeetsSeq2 PySem.MeetsSeq3
end
section
variable {K : Fr} {α : Type} {e : α -> PyData} {Rs : List Res} {H : Hp} {p : Addr} {Q : VK} {om : List (Str × List Int)}
end
section
variable {w : World} {K : Fr} {α κ : Type} {Rs : List Res} {H : Hp} {Q : VK} {σ : L2.St} {p q : Addr} {od : Obj} {kvs : List (Key × V)} {ik : κ -> Key} {m : List (κ × α)} {D : Addr} {L : List Key} {acc : List Int} {β : Type} {eb : β -> PyData} {svb : β -> V} {ys : List β}
end
section
variable {K : Fr} {κ α : Type} {ik : κ -> Key} {e : α -> PyData} {Rs : List Res} {H : Hp} {p b : Addr} {m m2 : List (κ × α)} {Q : VK}
end
end RC

namespace RC
open PySem PySem.Spec PyProof.Rows L2
section
variable {K : Fr} {H : Hp} {Q : VK} {Rs : List Res} {p : Addr}
end
end RC

namespace RC
open PySem PySem.Spec PyProof.Rows L2
def ForUG (G : Hp -> Prop) (g : TG) (tb : TS) (D : Ends) : List V -> L2.St -> Hp -> Prop
 | [], σ, H => G H /\ D.nx σ H
 | v :: r, σ, H => G H /\ g v σ H λ σ2 H2 => tb { D with nx := λ σ' H' => ForUG G g tb D r σ' H', ct := λ σ' H' => ForUG G g tb D r σ' H', bk := D.nx } σ2 H2
theorem ForUG.g {G : Hp -> Prop} {g : TG} {tb : TS} {D : Ends} : ∀ {vs : List V} {σ : L2.St} {H : Hp}, ForUG G g tb D vs σ H -> G H
 | [], _, _, h => h.1
 | _ :: _, _, _, h => h.1
def LcU (G : Hp -> Prop) (g : TG) (tt : TT) (te : TE) (ws : List Nat) (σ : L2.St) (E : Addr) (Z : Hp -> Prop) : List V -> Hp -> Prop
 | [], H => G H /\ Z H
 | v :: r, H => G H /\ g v (wipe σ ws) H λ σ2 H2 => wipe σ2 ws = wipe σ ws /\ tt σ2 H2 λ b H3 => if b = true then te σ2 H3 (LcK (λ H4 => LcU G g tt te ws σ E Z r H4) E) else LcU G g tt te ws σ E Z r H3
theorem LcU.g {G : Hp -> Prop} {g : TG} {tt : TT} {te : TE} {ws : List Nat} {σ : L2.St} {E : Addr} {Z : Hp -> Prop} : ∀ {vs : List V} {H : Hp}, LcU G g tt te ws σ E Z vs H -> G H
 | [], _, h => h.1
 | _ :: _, _, h => h.1
section
variable {K : Fr} {a : Addr} {vs : List V} {g : TG} {tt : TT} {te : TE} {ws : List Nat} {σ : L2.St} {Q : VK} {H : Hp}
end
section
variable {α : Type} {A : V -> α -> Res} {p : Addr} {x y z : α} {xs : List α} {Rs : List Res} {H : Hp}
end
end RC
namespace RC
open PySem PySem.Spec PyProof.Rows L2
end RC

namespace RC
open PySem PySem.Spec PyProof.Rows L2
section
variable {X : Cx} {pins : List (Addr × Obj)} {σ : L2.St} {H : Hp} {s : Shared}
end
section
variable {α : Type} {A : V -> α -> Res} {p : Addr} {x y : α} {Rs : List Res} {H : Hp}
end
end RC

namespace RC
open PySem PySem.Spec PyProof.Rows L2
section
variable {X : Cx}
end
section
variable {α : Type} {K : Fr} {e : α -> PyData} {m : List (Int × α)} {Rs : List Res} {H : Hp} {Q : VK} {v : V}
end
end RC

namespace RC
open PySem PySem.Spec PyProof.Rows L2
section
variable {α β γ : Type} {e : α -> PyData} {sv : α -> V} {K : Fr} {σ : L2.St} {H : Hp} {Q : VK} {D : Ends} {Rs : List Res} {v w : V} {xs ys : List α} {p : Addr}
end
section
variable {K : Fr} {Rs : List Res} {H : Hp} {v : V} {vs : List V}
end
end RC

namespace RC
open PySem PySem.Spec PyProof.Rows L2
section
variable {K : Fr} {Rs : List Res} {H : Hp} {Q : VK} {p : Addr} {xs : List Str} {x : Str}
end
end RC

namespace RC
open PySem PySem.Spec PyProof.Rows L2
section
variable {Rs : List Res} {H : Hp} {K : Fr} {κ α : Type} [DecidableEq κ] [DecidableEq α] {ik : κ -> Key} {e : α -> PyData} {m : List (κ × Option α)} {Q : VK}
end
section
variable {K : Fr} {α : Type} {A : V -> α -> Res} {Rs : List Res} {H : Hp} {p : Addr}
end
section
variable {σ : L2.St} {H : Hp} {D : Ends} {ta : TA} {R : It -> Hp -> Prop}
end
end RC

namespace RC
open PySem PySem.Spec PyProof.Rows L2
section
variable {K : Fr} {Rs : List Res} {H : Hp} {v u u1 u2 : V} {vs : List V} {p q : Addr} {d d1 d2 : PyData} {l : List OD} {xs : List Int}
end
section
variable {K : Fr} {H : Hp} {Q : VK} {Rs : List Res} {p : Addr}
end
end RC

namespace RC
open PySem PySem.Spec PyProof.Rows L2
section
variable {K : Fr} {α : Type} {f : α -> V} {Rs : List Res} {H : Hp} {Q : VK} {p q : Addr} {m : List ((Int × Int) × α)} {x : Int × Int} {σ : L2.St}
end
end RC

namespace RC
open PySem PySem.Spec PyProof.Rows L2
section
variable {X : Cx}
end
end RC

namespace RC
open PySem PySem.Spec PyProof.Rows L2
@[reducible] def teKT (K : Fr) (i : Nat) (tf : TE) : TE := tOp (uAdd K) (tVar i) (tTup (tCons (tOp rIxK tf (tVar i)) tNil))
section
variable {K : Fr} {Rs : List Res} {σ : L2.St} {E a p : Addr} {m : List ((Int × Int) × Int)} {i : Nat} {tf : TE} {ws : List Nat} {Z : Hp -> Prop} {k : Addr -> Int × Int} {all : List V}
end
end RC
namespace RC
open PySem PySem.Spec PyProof.Rows L2
section
variable {K : Fr} {Rs : List Res} {H : Hp} {Q : VK} {σ : L2.St} {p : Addr} {m : List ((Int × Int) × Int)} {i : Nat} {tf : TE} {ws : List Nat}
end
end RC
namespace RC
open PySem PySem.Spec PyProof.Rows L2
section
variable {β : Type} {K : Fr} {Rs : List Res} {σ : L2.St} {H : Hp} {Q : VK} {ws : List Nat}
end
end RC
namespace RC
open PySem PySem.Spec PyProof.Rows L2
end RC
namespace RC
open PySem PySem.Spec PyProof.Rows L2
end RC

namespace RC
open PySem PySem.Spec PyProof.Rows L2
section
variable {X : Cx}
end
end RC
namespace RC
open PySem PySem.Spec PyProof.Rows L2
section
variable {K : Fr} {Rs : List Res} {H : Hp} {Q : VK} {p : Addr}
end
end RC
namespace RC
open PySem PySem.Spec PyProof.Rows L2
section
variable {α β : Type} {K : Fr} {Rs : List Res} {σ : L2.St} {H : Hp} {Q : VK} {p : Addr} {vs : List V} {xs : List α}
end
end RC

namespace RC
open PySem PySem.Spec PyProof.Rows L2
def mnI : List Int -> Option Int
 | [] => none
 | x :: xs => some (xs.foldl min x)
theorem foldl_min : ∀ (xs : List Int) (a : Int), xs.foldl min a <= a /\ (∀ y ∈ xs, xs.foldl min a <= y) /\ (xs.foldl min a = a \/ xs.foldl min a ∈ xs)
 | [], a => ⟨by simp, by simp, by simp⟩
 | x :: xs, a => by
   obtain ⟨h1, h2, h3⟩ := foldl_min xs (min a x)
   simp only [List.foldl_cons, List.mem_cons, forall_eq_or_imp]
   refine ⟨by omega, ⟨by omega, h2⟩, ?_⟩
   rcases h3 with h3 | h3
   · rw [h3]
     rcases Int.le_total a x with z | z
     · exact .inl (by omega)
     · exact .inr (.inl (by omega))
   · exact .inr (.inr h3)
theorem mnI_ok {xs : List Int} {m : Int} (h : mnI xs = some m) : m ∈ xs /\ ∀ y ∈ xs, m <= y := by
 cases xs with
 | nil => cases h
 | cons x xs =>
   obtain ⟨h1, h2, h3⟩ := foldl_min xs x
   have h : xs.foldl min x = m := Option.some.inj h
   subst h
   refine ⟨?_, ?_⟩
   · rcases h3 with h3 | h3
     · rw [h3]
       exact List.mem_cons_self
     · exact List.mem_cons_of_mem _ h3
   · intro y hy
     rcases List.mem_cons.mp hy with rfl | hy
     · exact h1
     · exact h2 y hy
section
variable {K : Fr} {H : Hp} {Q : VK} {v : V}
theorem v_min {xs : List Int} {m : Int} (h : Dq K H v (eL eI xs)) (e : mnI xs = some m) (k : Q (.int m) H) : rMin K [v] H Q := by
 obtain ⟨a, rfl, hs⟩ := flI.lst h
 have hm := mnI_ok e
 refine ⟨a, xs, rfl, hs, List.length_pos_of_mem hm.1, λ z hz hle => ?_⟩
 have := hm.2 z hz
 have := hle m hm.1
 have : z = m := by omega
 subst this
 exact k
end
end RC

namespace RC
open PySem PySem.Spec PyProof.Rows L2
section
variable {K : Fr} {Rs : List Res} {H : Hp} {Q : VK} {σ : L2.St}
end
end RC

namespace RC
open PySem PySem.Spec PyProof.Rows L2
theorem chDN_ok {K : Fr} {x : Str} (h : chDN K x = true) : DatN K (He.ga K x) := λ t ht => of_decide_eq_true (List.all_eq_true.mp h t ht)
end RC

namespace RC
open PySem PySem.Spec PyProof.Rows L2
section
variable {g : TG} {tt : TT} {te : TE} {ws : List Nat} {σ : L2.St} {Q : VK} {H : Hp} {n : Nat}
end
section
variable {K : Fr} {H : Hp} {Q : VK} {v : V}
end
end RC

namespace RC
open PySem PySem.Spec PyProof.Rows L2
section
variable {X : Cx}
end
section
variable {K : Fr} {H : Hp} {Q : VK} {v w : V}
end
end RC

namespace RC
open PySem PySem.Spec PyProof.Rows L2 PySem.SeqAt
section
variable {M : Model} {prog : Program} {w : World} {A : Around} {E : Value -> Shared -> Prop} {s : Shared} {K : Fr} {x C L f : Addr} {ox : Obj} {od : Option Obj} {h₀ : Heap} {m : Str -> Option Value} {b tb : Value}
theorem ifBound_objNe {args : List Value} {Q : Option Value -> Shared -> Prop} (X : K.In s.heap) (I : PySem.W.InstAt s.heap x ox C od) (hs : PySem.W.findIn K (.ref C) "__ne__" = some (some (.builtin "object.__ne__")))
   (h : wpAny M A (call (.builtin "object.__ne__") (.ref x :: args)) (λ v => Q (some v)) E s) : wpAny M A (callSpecialIfBound? (.ref x) "__ne__" args) Q E s := by
 simp only [callSpecialIfBound?, bindSpecialIfBound?]
 refine wpAny_holding (wpAny_bind (wpAny_bind (wpAny_bind (I.type.here ((PySem.W.looks_findIn X hs).here ?_)))))
 refine wpAny_bind (wpAny_askSetting (wpAny_ite ?_))
 have fin : wpAny M A (call (.builtin "object.__ne__") ([.ref x] ++ args) >>= λ v => pure (some v)) Q E s := wpAny_bind (wpAny_mono h (λ v s' h' => wpAny_pure h') λ _ _ h' => h')
 split
 · exact wpAny_bind (wpAny_of_eq (F.cmp_object.ne.bind _) (wpAny_pure (by exact fin)))
 · exact wpAny_tryCatch (wpAny_bind (wpAny_of_eq (F.cmp_object.ne.bind _) (wpAny_pure (by exact fin))))
theorem call_objNe {Q : Value -> Shared -> Prop} (hu : A.units + 1 < cLine) (X : K.In s.heap) (I : PySem.W.InstAt s.heap x ox C od) (hm : PySem.W.mroIn K C (.type "object") = some true)
   (hs : PySem.W.findIn K (.ref C) "__eq__" = some (some (.ref f))) (hf : PySem.W.isFn K (.ref f) = true)
   (h : wpAny (model prog w) A.in1 (call (.ref f) [.ref x, b]) (λ v s' => ∃ r : Bool, v = .bool r /\ Q (.bool (!r)) s') E s) :
   wpAny (model prog w) A (call (.builtin "object.__ne__") [.ref x, b]) Q E s := by
 refine wpAny_call (codeAny_call_builtin F.cmp_object.ne.plain F.cmpEntry_ne (PySem.W.check_slot F.cmpKind_ne F.cmpSplit_ne (I.type.andThen (PySem.W.looks_mroIn X hm)) (F.cmpArgs_ne _ _) ?_))
 unfold Builtin.«object.__ne__»
 have hu1 : A.in1.units < cLine := hu
 have go : wpAny (model prog w) A.in1 (callSpecialIfBound? (.ref x) "__eq__" [b]) (λ o s' => ∃ r : Bool, o = some (.bool r) /\ Q (.bool (!r)) s') E s :=
   PySem.W.ifBound_K X I hs hf (wpAny_mono h (λ v s' z => by obtain ⟨r, e, q⟩ := z; exact ⟨r, by rw [e], q⟩) λ _ _ z => z)
 have last : ∀ (r : Bool) (s' : Shared), Q (.bool (!r)) s' -> wpAny (model prog w) A.in1 (do
     let d <- truthy (.bool r)
     ret (.bool !d)) (λ fin s' => ∃ v, fin = .done (.ret v) /\ Q v s') E s' := λ r s' q => by
   repeat wp_step
   exact ⟨_, rfl, q⟩
 refine wpAny_mono (Q := λ fin s' => ∃ v, fin = .done (.ret v) /\ Q v s') (E := E) ?_ (λ fin s' z => by obtain ⟨v, rfl, q⟩ := z; exact q) (λ _ _ z => z)
 repeat (first | with_reducible refine wpAny_cRoomFor hu1 ?_ | with_reducible refine wpAny_mono go ?_ (λ _ _ z => z) | wp_step)
 rintro o s' ⟨r, rfl, q⟩
 exact last r s' q
theorem cmpNe_K {Q : Value -> Shared -> Prop} (hu : A.units + 1 < cLine) (F : PyProof.Rows.Fr h₀ L s.heap m) (X₀ : K.In h₀) (I : PySem.W.InstAt s.heap x ox C od) (hb : PySem.W.Looks (model prog w) s.heap (typeOf b) tb) (hn : PySem.W.notFirst K C tb = true)
   (hm : PySem.W.mroIn K C (.type "object") = some true) (hne : PySem.W.findIn K (.ref C) "__ne__" = some (some (.builtin "object.__ne__"))) (hs : PySem.W.findIn K (.ref C) "__eq__" = some (some (.ref f))) (hf : PySem.W.isFn K (.ref f) = true)
   (h : wpAny (model prog w) A.in1 (call (.ref f) [.ref x, b]) (λ v s' => ∃ r : Bool, v = .bool r /\ Q (.bool (!r)) s') E s) : wpAny (model prog w) A (richCompare .NotEq (.ref x) b) Q E s := by
 have X := X₀.keeps F.keep
 have one : wpAny (model prog w) A (tryCompare (.ref x) (cmpInfo .NotEq).2.1 b) (λ r s' => ∃ v, r = some v /\ Q v s') E s := by
   unfold tryCompare
   refine wpAny_bind (ifBound_objNe X I hne ?_)
   have c1 : wpAny (model prog w) A (call (.builtin "object.__ne__") [.ref x, b]) (λ v s' => ∃ r : Bool, v = .bool r /\ Q v s') E s :=
     call_objNe (Q := λ v s' => ∃ r : Bool, v = .bool r /\ Q v s') hu X I hm hs hf (wpAny_mono h (λ v s' z => by obtain ⟨r, e, q⟩ := z; exact ⟨r, e, !r, rfl, q⟩) λ _ _ e => e)
   refine wpAny_mono c1 (λ v s' z => ?_) λ _ _ e => e
   obtain ⟨r, e, q⟩ := z
   subst e
   exact wpAny_pure ⟨_, rfl, q⟩
 unfold richCompare
 simp only [oneThing_ref]
 refine wpAny_holding (wpAny_bind (wpAny_cRoomFor (Nat.lt_of_succ_lt hu) ?_))
 refine wpAny_bind (I.type.here (wpAny_bind (hb.here ?_)))
 split
 · rename_i q
   have e : PySem.W.subIn K tb (.ref C) = some false := by
     rcases Bool.or_eq_true_iff.mp hn with e | e
     · rw [beq_iff_eq.mp e] at q; simp at q
     · exact beq_iff_eq.mp e
   refine wpAny_bind ((PySem.W.looks_subIn X e).here ?_)
   simp only [Bool.false_eq_true, if_false]
   refine wpAny_bind (wpAny_mono one (λ r s' z => ?_) λ _ _ e => e)
   obtain ⟨v, rfl, hq⟩ := z
   exact wpAny_pure hq
 · refine wpAny_bind (wpAny_pure ?_)
   simp only [Bool.false_eq_true, if_false]
   refine wpAny_bind (wpAny_mono one (λ r s' z => ?_) λ _ _ e => e)
   obtain ⟨v, rfl, hq⟩ := z
   exact wpAny_pure hq
end
def rNeM (C : Addr) (sp : Sp) : R2 := λ x y H Q => ∃ a b dx dy fs gs, x = .ref a /\ y = .ref b /\ H a = some (.ins C dx fs) /\ H b = some (.ins C dy gs) /\ sp [.ref a, .ref b] H (λ v H' => ∃ r : Bool, v = .bl r /\ Q (.bl (!r)) H') (λ _ _ _ => False)
theorem op_neM {X : Cx} {g : Bool} {k : Nat} {C f : Addr} {fd : FuncData} {ps : List Str} {sp : Sp} (hm : Meth X.K C "__eq__" f) (hmr : PySem.W.mroIn X.K C (.type "object") = some true)
   (hne : PySem.W.findIn X.K (.ref C) "__ne__" = some (some (.builtin "object.__ne__"))) (F : FnX g X.prog X.w X.K X.mg X.base CX0 k f fd ps sp) (hgu : g = true -> X.A.guards = some []) (hr : Room (k + 1) X.A) (hb : Binds X.K fd ps []) : OpR X (compareOp .NotEq) (rNeM C sp) := by
 intro pins s σ H x y v u Q I rx ry hq
 obtain ⟨a, b, dx, dy, fs, gs, rfl, rfl, ha, hb', hq⟩ := hq
 cases rx
 cases ry
 obtain ⟨mA, J, _⟩ := ins_get I.hok ha
 obtain ⟨mB, J', _⟩ := ins_get I.hok hb'
 obtain ⟨od, J, _⟩ := J.look
 obtain ⟨od', J', _⟩ := J'.look
 obtain ⟨m, hF⟩ := I.fr
 show wpAny (model X.prog X.w) X.A (richCompare .NotEq (.ref a) (.ref b)) (EP X pins σ Q) X.xe s
 refine cmpNe_K (tb := .ref C) (by have := hr.units; omega) hF I.ok.mod.kin J J'.type (by simp [PySem.W.notFirst]) hmr hne hm.at_ hm.fn ?_
 have e0 : Env0 X.prog X.w X.K X.mg X.base X.A.in1 X.stack s H := by
   have e := I.env0
   exact ⟨e.frames, e.mod, e.bs, e.bsz, e.funs, e.frf, e.hok, e.bare⟩
 have hl := F.lenG _ _ _ _ hq
 have go := F.runG X.A.in1 X.stack s _ ⟨[.ref a, .ref b], []⟩ _ [.ref a, .ref b] [.ref a, .ref b] _ _ hgu hr.in1 e0 (by simpa using hb s [.ref a, .ref b] I.kIn (by simpa using hl)) (.refl _) (.cons rfl (.cons rfl .nil)) hq
 refine wpAny_call (codeAny_mono go λ res s' z => ?_)
 match res, z with
 | .error e, z => exact z.elim
 | .ok (.ret u), z =>
   obtain ⟨y, H', I', ry, r, rfl, q⟩ := I.after z
   cases ry
   exact ⟨r, rfl, .bl (!r), H', I', rfl, q⟩
 | .ok .next, z => cases z
 | .ok .brk, z => cases z
 | .ok .cont, z => cases z
theorem sub_bt {K : Fr} {C : Addr} : ∀ n ∈ ["NoneType", "bool", "int", "str", "list", "tuple", "dict"], PySem.W.subIn K (.type n) (.ref C) = some false := by
 have go : ∀ (n : String) (ts : List String), fastBuiltinMro n = some (ts.map Value.type) -> PySem.W.subIn K (.type n) (.ref C) = some false := λ n ts e => by
   show (fastBuiltinMro n).map (·.contains (.ref C)) = some false
   rw [e]
   show some ((ts.map Value.type).contains (.ref C)) = some false
   congr 1
   induction ts with
   | nil => rfl
   | cons t ts ih => simp
 intro n hn
 simp only [List.mem_cons, List.not_mem_nil, or_false] at hn
 rcases hn with rfl | rfl | rfl | rfl | rfl | rfl | rfl
 · exact go _ ["NoneType", "object"] (by decide +kernel)
 · exact go _ ["bool", "int", "object"] (by decide +kernel)
 · exact go _ ["int", "object"] (by decide +kernel)
 · exact go _ ["str", "object"] (by decide +kernel)
 · exact go _ ["list", "object"] (by decide +kernel)
 · exact go _ ["tuple", "object"] (by decide +kernel)
 · exact go _ ["dict", "object"] (by decide +kernel)
theorem looks_dn {X : Cx} {pins : List (Addr × Obj)} {σ : L2.St} {H : Hp} {s : Shared} {y : V} {u : Value} {d : PyData} (I : Inv X pins σ H s) (r : RelV y u) (h : Dn X.K H y d) :
   ∃ n ∈ ["NoneType", "bool", "int", "str", "list", "tuple", "dict"], ∀ M, PySem.W.Looks M s.heap (typeOf u) (.type n) := by
 refine ⟨tyN d, by cases d <;> simp [tyN], λ M => ?_⟩
 rcases h.ty with z | ⟨a, kvs, rfl, hr, e⟩
 · obtain ⟨P, Z, p, _⟩ := kit_of I r z
   exact Z.ty M _ I.kIn p
 · cases (show u = Value.ref a from r)
   obtain ⟨_, _, vs, _, o, es, ep, h1, h2, _⟩ := dk_rd I.hok hr
   rw [e]
   exact PySem.W.kitx_dict.ty M _ I.kIn ⟨o, h1, h2.1⟩
def rCmD (K : Fr) (neg : Bool) (C : Addr) (sp : Sp) : R2 := λ x y H Q => ∃ a d dx fs, x = .ref a /\ H a = some (.ins C dx fs) /\ Dn K H y d /\ sp [.ref a, y] H (λ v H' => ∃ r : Bool, v = .bl r /\ Q (.bl (if neg then !r else r)) H') (λ _ _ _ => False)
theorem op_eqD {X : Cx} {g : Bool} {k : Nat} {C f : Addr} {fd : FuncData} {ps : List Str} {sp : Sp} (hm : Meth X.K C "__eq__" f) (F : FnX g X.prog X.w X.K X.mg X.base CX0 k f fd ps sp) (hgu : g = true -> X.A.guards = some []) (hr : Room k X.A) (hb : Binds X.K fd ps []) : OpR X (compareOp .Eq) (rCmD X.K false C sp) := by
 intro pins s σ H x y v u Q I rx ry hq
 obtain ⟨a, d, dx, fs, rfl, ha, hd, hq⟩ := hq
 cases rx
 obtain ⟨mA, J, _⟩ := ins_get I.hok ha
 obtain ⟨od, J, _⟩ := J.look
 obtain ⟨m, hF⟩ := I.fr
 obtain ⟨n, hn, hl⟩ := looks_dn I ry hd
 show wpAny (model X.prog X.w) X.A (richCompare .Eq (.ref a) u) (EP X pins σ Q) X.xe s
 refine PySem.W.cmp_K (op := .Eq) (tb := .type n) hr.units0 hF I.ok.mod.kin J (hl _) (by unfold PySem.W.notFirst; rw [sub_bt n hn]; simp) hm.at_ hm.fn ?_
 refine wpAny_mono (runW (us := [.ref a, u]) (vs := [.ref a, y]) F hgu hr hb .nil pas0 I (.cons rfl (.cons ry .nil)) hq) (λ w s' z => ?_) λ _ _ x => x
 obtain ⟨y, H', I', ry, r, rfl, q⟩ := z
 cases ry
 exact ⟨.bl r, H', I', rfl, q⟩
theorem op_neD {X : Cx} {g : Bool} {k : Nat} {C f : Addr} {fd : FuncData} {ps : List Str} {sp : Sp} (hm : Meth X.K C "__eq__" f) (hmr : PySem.W.mroIn X.K C (.type "object") = some true)
   (hne : PySem.W.findIn X.K (.ref C) "__ne__" = some (some (.builtin "object.__ne__"))) (F : FnX g X.prog X.w X.K X.mg X.base CX0 k f fd ps sp) (hgu : g = true -> X.A.guards = some []) (hr : Room (k + 1) X.A) (hb : Binds X.K fd ps []) : OpR X (compareOp .NotEq) (rCmD X.K true C sp) := by
 intro pins s σ H x y v u Q I rx ry hq
 obtain ⟨a, d, dx, fs, rfl, ha, hd, hq⟩ := hq
 cases rx
 obtain ⟨mA, J, _⟩ := ins_get I.hok ha
 obtain ⟨od, J, _⟩ := J.look
 obtain ⟨m, hF⟩ := I.fr
 obtain ⟨n, hn, hl⟩ := looks_dn I ry hd
 show wpAny (model X.prog X.w) X.A (richCompare .NotEq (.ref a) u) (EP X pins σ Q) X.xe s
 refine cmpNe_K (tb := .type n) (by have := hr.units; omega) hF I.ok.mod.kin J (hl _) (by unfold PySem.W.notFirst; rw [sub_bt n hn]; simp) hmr hne hm.at_ hm.fn ?_
 have e0 : Env0 X.prog X.w X.K X.mg X.base X.A.in1 X.stack s H := by
   have e := I.env0
   exact ⟨e.frames, e.mod, e.bs, e.bsz, e.funs, e.frf, e.hok, e.bare⟩
 have hl := F.lenG _ _ _ _ hq
 have go := F.runG X.A.in1 X.stack s _ ⟨[.ref a, u], []⟩ _ [.ref a, u] [.ref a, y] _ _ hgu hr.in1 e0 (by simpa using hb s [.ref a, u] I.kIn (by simpa using hl)) (.refl _) (.cons rfl (.cons ry .nil)) hq
 refine wpAny_call (codeAny_mono go λ res s' z => ?_)
 match res, z with
 | .error e, z => exact z.elim
 | .ok (.ret u), z =>
   obtain ⟨y, H', I', ry, r, rfl, q⟩ := I.after z
   cases ry
   exact ⟨r, rfl, .bl (!r), H', I', rfl, q⟩
 | .ok .next, z => cases z
 | .ok .brk, z => cases z
 | .ok .cont, z => cases z
def uEqI (K : Fr) (C : Addr) (sp : Sp) : R2 := λ x y H Q => rEqM C sp x y H Q \/ rCmD K false C sp x y H Q
def uNeI (K : Fr) (C : Addr) (sp : Sp) : R2 := λ x y H Q => rNeM C sp x y H Q \/ rCmD K true C sp x y H Q
theorem op_eqI {X : Cx} {g : Bool} {k : Nat} {C f : Addr} {fd : FuncData} {ps : List Str} {sp : Sp} (hm : Meth X.K C "__eq__" f) (F : FnX g X.prog X.w X.K X.mg X.base CX0 k f fd ps sp) (hgu : g = true -> X.A.guards = some []) (hr : Room k X.A) (hb : Binds X.K fd ps []) : OpR X (compareOp .Eq) (uEqI X.K C sp) := (op_eqM hm F hgu hr hb).or (op_eqD hm F hgu hr hb)
theorem op_neI {X : Cx} {g : Bool} {k : Nat} {C f : Addr} {fd : FuncData} {ps : List Str} {sp : Sp} (hm : Meth X.K C "__eq__" f) (hmr : PySem.W.mroIn X.K C (.type "object") = some true)
   (hne : PySem.W.findIn X.K (.ref C) "__ne__" = some (some (.builtin "object.__ne__"))) (F : FnX g X.prog X.w X.K X.mg X.base CX0 k f fd ps sp) (hgu : g = true -> X.A.guards = some []) (hr : Room (k + 1) X.A) (hb : Binds X.K fd ps []) : OpR X (compareOp .NotEq) (uNeI X.K C sp) := (op_neM hm hmr hne F hgu hr hb).or (op_neD hm hmr hne F hgu hr hb)
theorem chMo_ok {K : Fr} {x : Str} (h : chMo K x = true) : PySem.W.mroIn K (He.ga K x) (.type "object") = some true := of_decide_eq_true h
theorem chNe_ok {K : Fr} {x : Str} (h : chNe K x = true) : PySem.W.findIn K (.ref (He.ga K x)) "__ne__" = some (some (.builtin "object.__ne__")) := by
 unfold chNe at h
 split at h
 · rename_i n e
   rw [e, of_decide_eq_true h]
 · cases h
end RC

namespace RC
open PySem PySem.Spec PyProof.Rows L2
def rReprI (C : Addr) (sp : Sp) : List V -> Hp -> VK -> Prop := λ xs H Q => ∃ a dx fs, xs = [.ref a] /\ H a = some (.ins C dx fs) /\ sp [.ref a] H (λ v H' => ∃ y : Str, v = .str y /\ Q (.str y) H') (λ _ _ _ => False)
theorem cr_reprI {X : Cx} {g : Bool} {k : Nat} {C f : Addr} {fd : FuncData} {ps : List Str} {sp : Sp} (hm : Meth X.K C "__repr__" f) (F : FnX g X.prog X.w X.K X.mg X.base CX0 k f fd ps sp) (hgu : g = true -> X.A.guards = some []) (hr : Room (k + 1) X.A) (hb : Binds X.K fd ps []) : CallR X (.builtin "repr") (rReprI C sp) := by
 intro pins s σ H xs us Q I r hq
 obtain ⟨a, dx, fs, rfl, ha, hq⟩ := hq
 obtain ⟨u, rfl, ru⟩ := vals1 r
 cases (show u = Value.ref a from ru)
 obtain ⟨mA, J, _⟩ := ins_get I.hok ha
 obtain ⟨od, J, _⟩ := J.look
 obtain ⟨m, hF⟩ := I.fr
 refine PySem.W.repr_K (by have := hr.in1.units; omega) hF I.ok.mod.kin J hm.at_ hm.fn ?_
 have e0 : Env0 X.prog X.w X.K X.mg X.base X.A.in1 X.stack s H := by
   have e := I.env0
   exact ⟨e.frames, e.mod, e.bs, e.bsz, e.funs, e.frf, e.hok, e.bare⟩
 have hl := F.lenG _ _ _ _ hq
 have go := F.runG X.A.in1 X.stack s _ ⟨[.ref a], []⟩ _ [.ref a] [.ref a] _ _ hgu hr.in1 e0 (by simpa using hb s [.ref a] I.kIn (by simpa using hl)) (.refl _) (.cons rfl .nil) hq
 refine wpAny_call (codeAny_mono go λ res s' z => ?_)
 match res, z with
 | .error e, z => exact z.elim
 | .ok (.ret u), z =>
   obtain ⟨y, H', I', ry, w, rfl, q⟩ := I.after z
   obtain ⟨t, rfl⟩ := ry
   exact ⟨.str w, H', I', ⟨t, rfl⟩, q⟩
 | .ok .next, z => cases z
 | .ok .brk, z => cases z
 | .ok .cont, z => cases z
def tFst (ts : List TE) : TE := λ σ H Q => tJs ts Str.empty σ H λ out H1 => Q (.str out) H1
theorem pe_fst {X : Cx} {v1 v2 : Expr} {rest : List Expr} {ts : List TE} {pos : Pos} (h : PJ X (v1 :: v2 :: rest) ts) : PE X (.JoinedStr (v1 :: v2 :: rest) pos) (tFst ts) := pe_joined h
section
variable {σ : L2.St} {H : Hp} {Q : VK} {R : Str -> Hp -> Prop} {t : TE} {ts : List TE} {acc y : Str} {i : Int}
theorem g_fst (h : tJs ts Str.empty σ H λ out H1 => Q (.str out) H1) : tFst ts σ H Q := h
theorem g_jnil (h : R acc H) : tJs [] acc σ H R := h
def JsK (ts : List TE) (acc : Str) (σ : L2.St) (R : Str -> Hp -> Prop) : VK := λ x H1 => ∃ y : Str, x = .str y /\ (acc ++ y).length <= sizeLine /\ tJs ts (acc ++ y) σ H1 R
theorem g_jcons (h : t σ H (JsK ts acc σ R)) : tJs (t :: ts) acc σ H R := h
theorem v_js (hl : (acc ++ y).length <= sizeLine) (h : tJs ts (acc ++ y) σ H R) : JsK ts acc σ R (.str y) H := ⟨y, rfl, hl, h⟩
def FmtK (Q : VK) : VK := λ x H1 => (∃ y : Str, x = .str y /\ y.length <= sizeLine /\ Q (.str y) H1) \/ ∃ i : Int, x = .int i /\ i.natAbs.log2 < 1920 /\ Q (.str (toString i)) H1
theorem g_fmt (h : t σ H (FmtK Q)) : tFmt t σ H Q := h
abbrev fmtI (i : Int) : Str := (toString i : String)
theorem v_fmtI (hl : i.natAbs.log2 < 1920) (h : Q (.str (fmtI i)) H) : FmtK Q (.int i) H := .inr ⟨i, rfl, hl, h⟩
end
end RC

namespace RC
open PySem PySem.Spec PyProof.Rows L2
def gIxN (K : Fr) : V -> V -> Hp -> VK -> Prop := λ o i H Q => gIx K o i H Q \/ rIxL K o i H Q
theorem get_listN {X : Cx} : PGet X (rIxL X.K) := by
 intro pins s σ H x y v u Q I rx ry h
 obtain ⟨p, xs, i, z, rfl, rfl, hq, he, q⟩ := h
 cases rx
 obtain ⟨t, rfl⟩ := ry
 obtain ⟨its, r, pl, hz⟩ := I.list hq
 obtain ⟨j, h1, h2, h3, h4, h5⟩ := L2.atI_get he
 obtain ⟨w, ew, rw'⟩ := r.get h2
 have hl := r.length
 have hn := line63
 have fin : EP X pins σ Q w s := ⟨z, H, I, rw', q⟩
 by_cases h0 : 0 <= i
 · have hj : i.toNat = j := by
     rw [seqIndex_of h0 h5] at h1
     exact Option.some.inj h1
   exact wpAny_getItem_list pl.isList h0 (by omega) (by rw [hj]; simpa using ew) fin
 · have hj : (i + (its.toArray.size : Int)).toNat = j := by
     rw [seqIndex_neg (by omega) h4] at h1
     rw [List.size_toArray, <- hl]
     exact Option.some.inj h1
   exact wpAny_getItem_list_neg pl.isList (by omega) (by rw [List.size_toArray] <;> omega) (by omega) (by rw [hj]; simpa using ew) fin
theorem get_anyN {X : Cx} (hu : X.A.units + 1 < cLine) : PGet X (gIxN X.K) := λ pins s σ H o i ov iv Q I r1 r2 h => h.elim (get_any hu pins s σ H o i ov iv Q I r1 r2) (get_listN pins s σ H o i ov iv Q I r1 r2)
theorem v_gixN {K : Fr} {H : Hp} {Q : VK} {Rs : List Res} {p : Addr} {xs : List Int} {i x : Int} (S : M Rs H) (j : Nat) (hj : Rs[j]? = some (acR K p (xs.map eI))) (h : atI xs i = some x) (k : Q (.int x) H) : gIxN K (.ref p) (.int i) H Q := by
 refine .inr ⟨p, xs.map V.int, i, .int x, rfl, rfl, ?_, ?_, k⟩
 · obtain ⟨a, e, s⟩ := Dq.lstI (S.gotO j hj)
   cases e
   exact s
 · unfold atI at h ⊢
   rw [List.length_map]
   cases e : ixN xs.length i with
   | none =>
     rw [e] at h
     cases h
   | some m =>
     rw [e] at h
     have h : xs[m]? = some x := h
     show (xs.map V.int)[m]? = some (V.int x)
     rw [List.getElem?_map, h]
     rfl
end RC

namespace RC
open PySem PySem.Spec PyProof.Rows L2 HT
section
variable {prog : Program} {w : World} {A : Around} {E : Value -> Shared -> Prop} {s : Shared}
theorem adjust_rev (n : Nat) : Builtin.Slice.sliceAdjust none none (-1) (n : Int) = ((n : Int) - 1, -1) := by
 unfold Builtin.Slice.sliceAdjust
 have h1 : ((-1 : Int) < 0) := by omega
 simp only [h1, if_true]
theorem places_rev (n : Nat) : Builtin.Slice.slicePlaces ((n : Int) - 1) (-1) (-1) = n := by
 unfold Builtin.Slice.slicePlaces
 have h1 : ¬ ((-1 : Int) > 0) := by omega
 simp only [h1, if_false, Int.neg_neg, Int.ediv_one]
 split <;> omega
theorem applied_rev {sl : Addr} {vl vu vs : Value} {n : Nat} {Q : Int × Int × Nat -> Shared -> Prop} (hs : s.heap.IsSliceOf sl vl vu vs) (pl : IsPart vl none) (pu : IsPart vu none) (ps : IsPart vs (some (-1)))
   (h : Q ((n : Int) - 1, -1, n) s) : wpAny (model prog w) A (Builtin.Slice.sliceApplied (.ref sl) (pure (n : Int))) Q E s := by
 obtain ⟨os, hos, hcs, hds⟩ := id hs
 unfold Builtin.Slice.sliceApplied Builtin.Slice.sliceFields
 refine wpAny_bind (wpAny_bind (wpAny_field hos hds (x := vl) rfl (wpAny_bind (wpAny_field hos hds (x := vu) rfl (wpAny_bind (wpAny_field hos hds (x := vs) rfl (wpAny_pure ?_)))))))
 refine wpAny_bind (slicePart_ ps ?_)
 show wpAny _ _ (if ((-1 : Int) == 0) = true then _ else _) _ _ s
 rw [if_neg (by decide)]
 refine wpAny_bind (slicePart_ pl (wpAny_bind (slicePart_ pu (wpAny_bind (wpAny_pure ?_)))))
 show wpAny _ _ (match Builtin.Slice.sliceAdjust none none (-1) (n : Int) with | (lo, hi) => pure (lo, (-1 : Int), Builtin.Slice.slicePlaces lo hi (-1))) _ _ s
 rw [adjust_rev n]
 show wpAny _ _ (pure ((n : Int) - 1, (-1 : Int), Builtin.Slice.slicePlaces ((n : Int) - 1) (-1) (-1))) _ _ s
 rw [places_rev]
 exact wpAny_pure h
theorem pick_rev (xs : Array Value) : ((List.range xs.size).filterMap λ (m : Nat) => xs[(((xs.size : Nat) : Int) - 1 + (m : Int) * (-1)).toNat]?).toArray = xs.toList.reverse.toArray := by
 congr 1
 have e : ∀ k, k <= xs.size -> (List.range k).filterMap (λ (m : Nat) => xs[(((xs.size : Nat) : Int) - 1 + (m : Int) * (-1)).toNat]?) = xs.toList.reverse.take k := by
   intro k
   induction k with
   | zero => intro _; simp
   | succ k ih =>
     intro hk
     rw [List.range_succ, List.filterMap_append, ih (by omega)]
     have hk2 : k < xs.toList.reverse.length := by rw [List.length_reverse, Array.length_toList]; omega
     rw [List.take_succ_eq_append_getElem hk2]
     congr 1
     have e1 : (((xs.size : Nat) : Int) - 1 + (k : Int) * (-1)).toNat = xs.size - 1 - k := by omega
     have e2 : xs[xs.size - 1 - k]? = some (xs.toList.reverse[k]) := by
       rw [List.getElem_reverse, <- Array.getElem?_toList, List.getElem?_eq_getElem (by rw [Array.length_toList]; omega)]
       simp
     simp only [List.filterMap_cons, List.filterMap_nil, e1, e2]
 rw [e xs.size (Nat.le_refl _), List.take_of_length_le (by rw [List.length_reverse, Array.length_toList]; exact Nat.le_refl _)]
theorem getItem_tuple_rev {t sl : Addr} {items : Array Value} {vl vu vs : Value} {Q : Value -> Shared -> Prop} (ht : IsTup s.heap t items) (hs : s.heap.IsSliceOf sl vl vu vs) (pl : IsPart vl none) (pu : IsPart vu none) (ps : IsPart vs (some (-1)))
   (h : Q (.ref s.heap.objs.size) { s with heap := s.heap.push { cls := .type "tuple", data := .seq items.toList.reverse.toArray } })
   (hsz : items.size <= sizeLine) : wpAny (model prog w) A (getItem (.ref t) (.ref sl)) Q E s := by
 have htake : sizeOk (.seq items.toList.reverse.toArray) := by
   show items.toList.reverse.toArray.size <= sizeLine
   rw [List.size_toArray, List.length_reverse, Array.length_toList]
   omega
 obtain ⟨os, hos, hcs, hds⟩ := id hs
 have hTs : s.TypeIs (.ref sl) "slice" := ⟨os, hos, hcs⟩
 unfold getItem
 try with_reducible refine wpAny_holding ?_
 first | refine wpAny_bind (wpAny_pure ?_) | skip
 refine wpAny_bind (wpAny_sequenceKey ht.typeIs (by decide) ?_)
 refine wpAny_bind (wpAny_callSpecial?_slot (name := Str.ofString "__getitem__") ht.typeIs PyProof.Rows.slot_tuple_getitem
   (wpAny_call_entry PyProof.Rows.slot_tuple_getitem ht.typeIs entry_tuple_getitem ?_ (args_tuple_getitem _ _)))
 show wpAny _ _ (Builtin.Tuple.tupleItemsOf (.ref t) >>= _) _ _ s
 refine wpAny_bind (tupleItemsOf_ ht ?_)
 refine wpAny_bind (wpAny_typeOf hTs ?_)
 rw [if_pos (by decide)]
 refine wpAny_bind (applied_rev (n := items.size) hs pl pu ps ?_)
 have hno : ¬ ((((items.size : Nat) : Int) - 1 == 0 && (-1 : Int) == 1 && items.size == items.size) = true) := by simp
 show wpAny _ _ (if (((items.size : Nat) : Int) - 1 == 0 && (-1 : Int) == 1 && items.size == items.size) = true then _ else _) _ _ s
 rw [if_neg hno, pick_rev]
 first
   | exact wpAny_bind (m := Builtin.Tuple.tupleExact _) (wpAny_newObj_type (wpAny_pure ⟨_, rfl, wpAny_pure h⟩) htake)
   | exact wpAny_bind (m := Builtin.Tuple.tupleExact _) (wpAny_newObj_type (wpAny_bind (wpAny_pure (wpAny_pure ⟨_, rfl, wpAny_pure h⟩))) htake)
   | exact wpAny_bind (wpAny_bind (m := Builtin.Tuple.tupleExact _) (wpAny_newObj_type (wpAny_pure (wpAny_pure ⟨_, rfl, wpAny_pure h⟩)) htake))
   | exact wpAny_bind (wpAny_bind (m := Builtin.Tuple.tupleExact _) (wpAny_newObj_type (wpAny_pure ⟨_, rfl, wpAny_pure h⟩) htake))
end
def tRevT (K : Fr) (te : TE) : TE := λ σ H Q => te σ H λ x H1 => ∃ a xs, x = .ref a /\ SqT K H1 a xs /\ ∀ p, H1 p = none -> Q (.ref p) (upd H1 p (.tup xs.reverse))
theorem pe_revT {X : Cx} {e : Expr} {te : TE} {k : Nat} {p1 p2 p3 pos : Pos} (he : PE X e te) : PE X (.Subscript e (.Slice none none (some (.UnaryOp .USub (.Constant (.int 1) k p1) p2)) p3) pos) (tRevT X.K te) := by
 refine ⟨λ pins s σ H Q I h => ?_⟩
 refine Subscript_ (thn (he.run pins s σ H _ I h) λ v s1 ⟨x, H1, I1, r1, q1⟩ => ?_)
 obtain ⟨a, xs, ex, hx, q⟩ := q1
 subst ex
 cases r1
 have hst : PO X (some (.UnaryOp .USub (.Constant (.int 1) k p1) p2)) (tPart (tUn (rU λ i => .int (-i)) (tC (.int 1)))) := po_some (pe_un un_neg pe_int)
 refine wpAny_Slice (thn (po_none.run pins s1 σ H1 (λ o H2 => o = none /\ H2 = H1) I1 ⟨rfl, rfl⟩) λ vl s2 ⟨l, H2, I2, pl, el, e2⟩ => ?_)
 subst el e2
 refine thn (po_none.run pins s2 σ H2 (λ o H3 => o = none /\ H3 = H2) I2 ⟨rfl, rfl⟩) λ vu s3 ⟨u, H3, I3, pu, eu, e3⟩ => ?_
 subst eu e3
 refine thn (hst.run pins s3 σ H3 (λ o H4 => o = some (-1) /\ H4 = H3) I3 ⟨1, rfl, -1, rfl, rfl, rfl⟩) λ vs s4 ⟨o, H4, I4, ps, eo, e4⟩ => ?_
 subst eo e4
 have I5 : Inv X pins σ H4 { s4 with heap := s4.heap.push { cls := .type "slice", data := .fields #[vl, vu, vs] } } := I4.kept (t' := s4.toks) λ b ob q => Heap.get?_push_of_some _ q
 obtain ⟨its, r, ht, hz⟩ := I5.tuple hx
 have hlen := r.length
 show wpAny (model X.prog X.w) X.A (subscriptTail e (.Slice none none (some (.UnaryOp .USub (.Constant (.int 1) k p1) p2)) p3) (.ref a) (.ref s4.heap.objs.size)) (EP X pins σ Q) X.xe { s4 with heap := s4.heap.push { cls := .type "slice", data := .fields #[vl, vu, vs] } }
 refine tail_any (ops := [.ref a, .ref s4.heap.objs.size]) ht.typeIs (PyProof.Rows.slot_tuple_getitem.lookup) ?_ (by with_unfolding_all rfl)
 refine getItem_tuple_rev ht (Heap.IsSliceOf.new _ vl vu vs) pl pu ps ?_ (by rw [List.size_toArray]; omega)
 refine ⟨.ref _, _, I5.laid (t' := s4.toks) (o := .tup xs.reverse) (λ b ob q => Heap.get?_push_of_some _ q) (Nat.le_refl _) ?_, rfl, q _ (I5.hok.fresh (Nat.le_refl _))⟩
 exact ⟨by rw [List.length_reverse]; exact hz, _, r.reverse, IsTup.new _ _⟩
section
variable {α : Type} {K : Fr} {Rs : List Res} {H : Hp} {σ : L2.St} {Q : VK} {v : V} {e : α -> PyData} {xs : List α} {te : TE}
def RevTK (K : Fr) (Q : VK) : VK := λ x H1 => ∃ a xs, x = .ref a /\ SqT K H1 a xs /\ ∀ p, H1 p = none -> Q (.ref p) (upd H1 p (.tup xs.reverse))
theorem g_revT (h : te σ H (RevTK K Q)) : tRevT K te σ H Q := h
theorem v_revT (S : M Rs H) (j : Nat) (hj : Rs[j]? = some (da K v (eV e xs))) (k : ∀ u H', M (da K u (eV e xs.reverse) :: Rs) H' -> Q u H') : RevTK K Q v H := by
 obtain ⟨F, L, s, m⟩ := id S
 have d0 := EnF.at j hj F L s
 cases d0 with
 | tup a q =>
   rename_i vs
   have hr : ∀ {vs : List V} {ds : List PyData}, DqAll K F vs ds -> DqAll K F vs.reverse ds.reverse := by
     intro vs ds h
     induction vs generalizing ds with
     | nil => cases h; exact .nil
     | cons v r ih =>
       cases h with
       | cons a t =>
         rw [List.reverse_cons, List.reverse_cons]
         exact DqAll.snoc a (ih t)
   refine ⟨_, _, rfl, m.ex.sqT a, DqAll.fixT s m (hr q) λ p H' S' => k _ H' ?_⟩
   unfold eV
   rw [List.map_reverse]
   exact S'
end
end RC

namespace RC
open PySem PySem.Spec PyProof.Rows L2
@[reducible] def oo2 {a0 a1 : Res} (r : List Res) : List Res := a0 :: a1 :: r
@[reducible] def oo3 {a0 a1 a2 : Res} (r : List Res) : List Res := a0 :: a1 :: a2 :: r
@[reducible] def oo4 {a0 a1 a2 a3 : Res} (r : List Res) : List Res := a0 :: a1 :: a2 :: a3 :: r
@[reducible] def oo5 {a0 a1 a2 a3 a4 : Res} (r : List Res) : List Res := a0 :: a1 :: a2 :: a3 :: a4 :: r
@[reducible] def oo6 {a0 a1 a2 a3 a4 a5 : Res} (r : List Res) : List Res := a0 :: a1 :: a2 :: a3 :: a4 :: a5 :: r
@[reducible] def oo7 {a0 a1 a2 a3 a4 a5 a6 : Res} (r : List Res) : List Res := a0 :: a1 :: a2 :: a3 :: a4 :: a5 :: a6 :: r
@[reducible] def oo8 {a0 a1 a2 a3 a4 a5 a6 a7 : Res} (r : List Res) : List Res := a0 :: a1 :: a2 :: a3 :: a4 :: a5 :: a6 :: a7 :: r
@[reducible] def oo9 {a0 a1 a2 a3 a4 a5 a6 a7 a8 : Res} (r : List Res) : List Res := a0 :: a1 :: a2 :: a3 :: a4 :: a5 :: a6 :: a7 :: a8 :: r
@[reducible] def oo10 {a0 a1 a2 a3 a4 a5 a6 a7 a8 a9 : Res} (r : List Res) : List Res := a0 :: a1 :: a2 :: a3 :: a4 :: a5 :: a6 :: a7 :: a8 :: a9 :: r
@[reducible] def oo11 {a0 a1 a2 a3 a4 a5 a6 a7 a8 a9 a10 : Res} (r : List Res) : List Res := a0 :: a1 :: a2 :: a3 :: a4 :: a5 :: a6 :: a7 :: a8 :: a9 :: a10 :: r
@[reducible] def oo12 {a0 a1 a2 a3 a4 a5 a6 a7 a8 a9 a10 a11 : Res} (r : List Res) : List Res := a0 :: a1 :: a2 :: a3 :: a4 :: a5 :: a6 :: a7 :: a8 :: a9 :: a10 :: a11 :: r
@[reducible] def oo13 {a0 a1 a2 a3 a4 a5 a6 a7 a8 a9 a10 a11 a12 : Res} (r : List Res) : List Res := a0 :: a1 :: a2 :: a3 :: a4 :: a5 :: a6 :: a7 :: a8 :: a9 :: a10 :: a11 :: a12 :: r
@[reducible] def oo14 {a0 a1 a2 a3 a4 a5 a6 a7 a8 a9 a10 a11 a12 a13 : Res} (r : List Res) : List Res := a0 :: a1 :: a2 :: a3 :: a4 :: a5 :: a6 :: a7 :: a8 :: a9 :: a10 :: a11 :: a12 :: a13 :: r
local macro_rules | `(tactic| walk_at "S") => `(tactic| assumption)
local macro_rules | `(tactic| walk_at "hp") => `(tactic| first
 | assumption
 | exact M.got (by assumption) 0 rfl | exact M.got (by assumption) 1 rfl | exact M.got (by assumption) 2 rfl | exact M.got (by assumption) 3 rfl | exact M.got (by assumption) 4 rfl
 | exact M.got (by assumption) 5 rfl | exact M.got (by assumption) 6 rfl | exact M.got (by assumption) 7 rfl | exact M.got (by assumption) 8 rfl
 | exact M.gotF (by assumption) 0 rfl | exact M.gotF (by assumption) 1 rfl | exact M.gotF (by assumption) 2 rfl | exact M.gotF (by assumption) 3 rfl | exact M.gotF (by assumption) 4 rfl
 | exact M.gotF (by assumption) 5 rfl | exact M.gotF (by assumption) 6 rfl | exact M.gotF (by assumption) 7 rfl | exact M.gotF (by assumption) 8 rfl)
local macro_rules | `(tactic| walk_at "sl") => `(tactic| first
 | assumption
 | exact SqL.of (by walk_at "hp")
 | exact M.gotR (by assumption) 0 rfl | exact M.gotR (by assumption) 1 rfl | exact M.gotR (by assumption) 2 rfl | exact M.gotR (by assumption) 3 rfl)
local macro_rules | `(tactic| walk_at "mul") => `(tactic| first
 | exact Or.inl (Or.inr ⟨by decide, by decide⟩) | exact Or.inl (Or.inl ⟨by decide, by decide⟩) | exact Or.inl (Or.inr ⟨by omega, by omega⟩) | exact Or.inl (Or.inl ⟨by omega, by omega⟩))
local macro_rules | `(tactic| walk_at "sq") => `(tactic| first | assumption | exact SqT.of (by walk_at "hp"))
local macro_rules | `(tactic| walk_at "sts") => `(tactic| first
 | with_reducible refine g_asg ?_
 | with_reducible refine g_asgX ?_
 | with_reducible refine g_drop ?_
 | with_reducible refine g_ret ?_
 | with_reducible refine g_retN ?_
 | with_reducible refine g_if ?_
 | with_reducible refine g_next ?_
 | with_reducible refine g_bk ?_
 | with_reducible refine g_ct ?_
 | with_reducible refine g_augS ?_
 | with_reducible refine g_for ?_
 | with_reducible refine g_while ?_
 | with_reducible refine g_par ?_
 | ((with_reducible refine' g_aug ?hh ?kk); (case hh => exact rfl)))
local macro_rules | `(tactic| walk_at "ev1") => `(tactic| first
 | with_reducible refine g_rt ?_
 | with_reducible refine g_lc ?_
 | with_reducible refine g_iList ?_
 | with_reducible refine g_iRng1 ?_
 | with_reducible refine g_iRev ?_
 | with_reducible refine g_yes ?_
 | ((with_reducible refine' g_wipe ?hh ?kk); (case hh => exact rfl))
 | with_reducible refine g_name ?_
 | ((with_reducible refine' g_var ?hh ?kk); (case hh => exact rfl))
 | with_reducible refine g_c ?_
 | with_reducible refine g_op ?_
 | with_reducible refine g_un ?_
 | with_reducible refine g_nil ?_
 | with_reducible refine g_cons ?_
 | with_reducible refine g_cb ?_
 | with_reducible refine g_call ?_
 | with_reducible refine g_lst ?_
 | with_reducible refine g_tup ?_
 | with_reducible refine g_test ?_
 | with_reducible refine g_B ?_
 | with_reducible refine g_bl ?_
 | with_reducible refine g_int ?_
 | with_reducible refine g_and ?_
 | with_reducible refine g_or ?_
 | with_reducible refine g_not ?_
 | with_reducible refine g_andV ?_
 | with_reducible refine g_orV ?_
 | with_reducible refine g_notV ?_
 | with_reducible refine g_ifE ?_
 | with_reducible refine g_chain ?_
 | with_reducible refine g_sub ?_
 | with_reducible refine g_sl ?_
 | with_reducible refine g_noPart ?_
 | with_reducible refine g_part ?_
 | with_reducible refine g_rev ?_
 | with_reducible refine g_bm ?_
 | with_reducible refine g_bm0 ?_
 | with_reducible refine v_add ?_
 | with_reducible refine v_sub ?_
 | with_reducible refine v_iadd ?_
 | with_reducible refine v_isub ?_
 | with_reducible refine v_lt ?_
 | with_reducible refine v_le ?_
 | with_reducible refine v_gt ?_
 | with_reducible refine v_ge ?_
 | with_reducible refine v_eqI ?_
 | with_reducible refine v_neI ?_
 | with_reducible refine v_eqS ?_
 | with_reducible refine v_eqB ?_
 | with_reducible refine v_neB ?_
 | ((with_reducible refine' v_mod ?hh ?kk); (case hh => first | decide | omega))
 | ((with_reducible refine' v_mul ?hh ?kk); (case hh => walk_at "mul"))
 | ((with_reducible refine' v_imul ?hh ?kk); (case hh => first | exact Or.inr ⟨by decide, by decide⟩ | exact Or.inl ⟨by decide, by decide⟩ | exact Or.inr ⟨by omega, by omega⟩ | exact Or.inl ⟨by omega, by omega⟩))
 | ((with_reducible refine' v_div ?hh ?kk); (case hh => first | decide | exact ⟨by omega, by omega⟩))
 | ((with_reducible refine' v_divB ?hh ?kk); (case hh => first | decide | exact ⟨by omega, by omega⟩))
 | ((with_reducible refine' v_idiv ?hh ?kk); (case hh => first | exact ⟨by decide, by decide⟩ | exact ⟨by omega, by omega⟩))
 | ((with_reducible refine' v_ixL ?hs ?hh ?kk); (case hs => walk_at "sl"); (case hh => exact rfl))
 | ((with_reducible refine' v_ixT ?hs ?hh ?kk); (case hs => walk_at "sq"); (case hh => exact rfl))
 | ((with_reducible refine' v_get ?hs ?h0 ?hh ?kk); (case hs => walk_at "sl"); (case h0 => decide); (case hh => exact rfl))
 | ((with_reducible refine' v_lenL ?hs ?kk); (case hs => walk_at "sl"))
 | ((with_reducible refine' v_pow ?hh ?kk); (case hh => decide +kernel))
 | with_reducible refine v_abs ?_
 | with_reducible refine v_neg ?_
 | with_reducible refine v_isN ?_
 | with_reducible refine v_notN ?_
 | with_reducible refine v_two ?_
 | with_reducible refine g_callN ?_
 | ((with_reducible refine' v_lens ?h1 ?h2 ?kk); (case h1 => exact rfl); (case h2 => exact rfl))
 | ((with_reducible refine' g_gtup ?h1 ?h2 ?kk); (case h1 => walk_at "sq"); (case h2 => exact rfl))
 | with_reducible refine g_gcons ?_
 | with_reducible refine g_gnil ?_
 | with_reducible refine v_ifNT ?_
 | with_reducible refine v_ifNF ?_
 | with_reducible refine v_ifT ?_
 | with_reducible refine v_ifF ?_)
local macro_rules | `(tactic| walk_at "ev") => `(tactic| repeat walk_at "ev1")
local macro_rules | `(tactic| walk_at "nx") => `(tactic| repeat with_reducible refine g_nx ?_)
local macro_rules | `(tactic| walk_at "st") => `(tactic| ((repeat first | with_reducible refine g_nx ?_ | with_reducible refine g_seq ?_); walk_at "sts"; walk_at "ev"))
local macro_rules | `(tactic| walk_at "go1") => `(tactic| first | with_reducible refine g_nx ?_ | with_reducible refine g_seq ?_ | walk_at "sts" | walk_at "ev1")
local macro_rules | `(tactic| walk_at "go") => `(tactic| repeat walk_at "go1")
local macro_rules | `(tactic| walk_at "sub1") => `(tactic| first
 | exact Sub.refl _ | exact Sub.nil _
 | refine Sub.cons 0 rfl ?_ | refine Sub.cons 1 rfl ?_ | refine Sub.cons 2 rfl ?_ | refine Sub.cons 3 rfl ?_ | refine Sub.cons 4 rfl ?_ | refine Sub.cons 5 rfl ?_ | refine Sub.cons 6 rfl ?_ | refine Sub.cons 7 rfl ?_
 | refine Sub.cons 8 rfl ?_ | refine Sub.cons 9 rfl ?_ | refine Sub.cons 10 rfl ?_ | refine Sub.cons 11 rfl ?_ | refine Sub.cons 12 rfl ?_ | refine Sub.cons 13 rfl ?_ | refine Sub.cons 14 rfl ?_ | refine Sub.cons 15 rfl ?_ | refine Sub.tl ?_)
local macro_rules | `(tactic| walk_at "sub") => `(tactic| (refine M.sub ?_ (by assumption); repeat walk_at "sub1"))
local macro_rules | `(tactic| walk_at "sts") => `(tactic| first
 | with_reducible refine g_sfld ?_
 | with_reducible refine g_rz ?_
 | with_reducible refine g_try ?_)
local macro_rules | `(tactic| walk_at "ev1") => `(tactic| first
 | with_reducible refine g_callW ?_
 | with_reducible refine g_meth ?_
 | with_reducible refine g_make ?_
 | with_reducible refine g_fld ?_
 | with_reducible refine g_dpop ?_
 | with_reducible refine g_callE ?_
 | with_reducible refine g_xg ?_)
abbrev bagO (x y z : Int) (cl : Addr) : HO := .lst [.int x, .int y, .int z, .ref cl]
structure BagOk (x y z : Int) (ns : List Int) : Prop where
 x0 : 0 <= x
 y0 : 0 <= y
 y1 : y < 2147483647
 z0 : 0 <= z
 nn : ∀ n ∈ ns, (0 : Int) <= n
def bagR (bag : Addr) : Res := exi λ (b : Int × Int × Int × Addr × List Int) => prp (BagOk b.1 b.2.1 b.2.2.1 b.2.2.2.2) (sp2 (pt bag (bagO b.1 b.2.1 b.2.2.1 b.2.2.2.1)) (pt b.2.2.2.1 (.lst (b.2.2.2.2.map V.int))))
theorem bag_open {bag : Addr} {Rs : List Res} {H : Hp} (S : M (bagR bag :: Rs) H) : ∃ x y z cl ns, BagOk x y z ns /\ M (pt bag (bagO x y z cl) :: pt cl (.lst (ns.map V.int)) :: Rs) H := by
 obtain ⟨⟨x, y, z, cl, ns⟩, S⟩ := S.ex
 obtain ⟨ok, S⟩ := S.pr
 exact ⟨x, y, z, cl, ns, ok, S.sp⟩
theorem bag_close {bag cl : Addr} {x y z : Int} {ns : List Int} {Rs : List Res} {H : Hp} (ok : BagOk x y z ns) (S : M (pt bag (bagO x y z cl) :: pt cl (.lst (ns.map V.int)) :: Rs) H) : M (bagR bag :: Rs) H :=
 M.ex' (T := λ (b : Int × Int × Int × Addr × List Int) => prp (BagOk b.1 b.2.1 b.2.2.1 b.2.2.2.2) (sp2 (pt bag (bagO b.1 b.2.1 b.2.2.1 b.2.2.2.1)) (pt b.2.2.2.1 (.lst (b.2.2.2.2.map V.int))))) (x, y, z, cl, ns) (M.pr' ok S.sp')
def sp_l_take (K : Fr) : Sp := λ vs H Q _ => ∃ (Rs : List Res) (bag : Addr) (many : Int), vs = [.ref bag, .int many] /\ M (bagR bag :: Rs) H /\ 0 < many /\ many < 2 ^ 120 /\
 ∀ v H', 0 <= v -> v < many -> M (bagR bag :: Rs) H' -> Q (.int v) H'
abbrev t_l_take_6 (K : Fr) : TS := (tSeq (tIfS (tTest (tOp uGe (tVar 4) (tC (.int 1000000000000000000)))) (tAsg (tVar 4) (gSub (tVar 0) (tC (.int 0)) uSet)) tNext)
 (tAsg (tOp uMod (tOp (uAdd K) (tOp (uAdd K) (tOp uMul (tOp (uIx K) (tVar 0) (tC (.int 1))) (tC (.int 48271))) (tOp uMod (tVar 4) (tC (.int 2147483647)))) (tOp uMul (tC (.int 7919)) (tOp (uIx K) (tVar 0) (tC (.int 2))))) (tC (.int 2147483647))) (gSub (tVar 0) (tC (.int 1)) uSet)))
abbrev t_l_take_5 (K : Fr) : TS := (tSeq (tAugS (tVar 0) (tC (.int 2)) (tC (.int 1)) (gIx K) iAdd uSet)
 (t_l_take_6 K))
abbrev t_l_take_3 (K : Fr) : TS := (tSeq (tIfS (tTest (tOp uLt (tOp (uIx K) (tVar 0) (tC (.int 2))) (tCB (uLen K) (tCons (tOp (uIx K) (tVar 0) (tC (.int 3))) tNil)))) (tAsg (tOp (uIx K) (tOp (uIx K) (tVar 0) (tC (.int 3))) (tOp (uIx K) (tVar 0) (tC (.int 2)))) (gName 4)) tNext)
 (t_l_take_5 K))
abbrev t_l_take_2 (K : Fr) : TS := (tSeq (tAsg (tC (.int 0)) (gName 4))
 (t_l_take_3 K))
abbrev t_l_take_11 (K : Fr) : TS := (tSeq (tAsg (tOp uDiv (tOp (uIx K) (tVar 0) (tC (.int 0))) (tVar 1)) (gSub (tVar 0) (tC (.int 0)) uSet))
 (tRet (tVar 5)))
abbrev t_l_take_10 (K : Fr) : TS := (tSeq (tAsg (tOp uMod (tOp (uIx K) (tVar 0) (tC (.int 0))) (tVar 1)) (gName 5))
 (t_l_take_11 K))
abbrev t_l_take_15 (K : Fr) : TS := (tSeq (tIfS (tTest (tOp uGt (tVar 1) (tC (.int 1000000)))) (tRet (tOp uMod (tOp (uAdd K) (tOp uMul (tVar 3) (tC (.int 1000000007))) (tVar 2)) (tVar 1))) tNext)
 (tRet (tOp uMod (tOp uDiv (tVar 3) (tC (.int 7))) (tVar 1))))
abbrev t_l_take_14 (K : Fr) : TS := (tSeq (tAsg (tOp uMod (tOp uMul (tOp uMod (tOp uMul (tVar 2) (tVar 2)) (tC (.int 998244353))) (tC (.int 30011))) (tC (.int 998244353))) (gName 3))
 (t_l_take_15 K))
abbrev t_l_take_13 (K : Fr) : TS := (tSeq (tAsg (tOp uMod (tOp uMul (tOp (uAdd K) (tOp (uIx K) (tVar 0) (tC (.int 1))) (tC (.int 1))) (tC (.int 39373))) (tC (.int 1000000007))) (gName 2))
 (t_l_take_14 K))
abbrev t_l_take_9 (K : Fr) : TS := (tSeq (tIfS (tTest (tOp uGt (tOp (uIx K) (tVar 0) (tC (.int 0))) (tC (.int 0)))) (t_l_take_10 K) tNext)
 (t_l_take_13 K))
abbrev t_l_take_1 (K : Fr) : TS := (tSeq (tIfS (tTest (tOp (uEq K) (tOp (uIx K) (tVar 0) (tC (.int 0))) (tC (.int 0)))) (t_l_take_2 K) tNext)
 (t_l_take_9 K))
abbrev t_l_take (K : Fr) : TS := (t_l_take_1 K)
theorem take_tail {K : Fr} {Q : VK} {Rs : List Res} {bag cl : Addr} {many x y z : Int} {ns : List Int} {c : Option V} {H : Hp} (m0 : 0 < many) (m1 : many < 2 ^ 120) (ok : BagOk x y z ns)
   (k : ∀ v H', 0 <= v -> v < many -> M (bagR bag :: Rs) H' -> Q (.int v) H') (S : M (pt bag (bagO x y z cl) :: pt cl (.lst (ns.map V.int)) :: Rs) H) :
   t_l_take_9 K { nx := λ _ H' => Q .non H', rt := Q } [some (V.ref bag), some (V.int many), none, none, c, none] H := by
 have x0 := ok.x0
 have y0 := ok.y0
 have y1 := ok.y1
 walk_at "go"
 refine v_ifD (λ h => ?_) (λ h => ?_)
 · walk_at "go"
   refine v_set S 0 rfl rfl λ H' S' => ?_
   have S2 : M (pt bag (bagO (x / many) y z cl) :: pt cl (.lst (ns.map V.int)) :: Rs) H' := S'
   walk_at "go"
   exact k _ _ (Int.emod_nonneg _ (by omega)) (Int.emod_lt_of_pos _ m0) (bag_close ⟨Int.ediv_nonneg x0 (Int.le_of_lt m0), y0, y1, ok.z0, ok.nn⟩ S2)
 · walk_at "go"
   have f0 := Int.emod_nonneg ((y + 1) * 39373) (show (1000000007 : Int) ≠ 0 by decide)
   have f1 := Int.emod_lt_of_pos ((y + 1) * 39373) (show (0 : Int) < 1000000007 by decide)
   walk_at "go"
   have g0 := Int.emod_nonneg ((y + 1) * 39373 % 1000000007 * ((y + 1) * 39373 % 1000000007) % 998244353 * 30011) (show (998244353 : Int) ≠ 0 by decide)
   have g1 := Int.emod_lt_of_pos ((y + 1) * 39373 % 1000000007 * ((y + 1) * 39373 % 1000000007) % 998244353 * 30011) (show (0 : Int) < 998244353 by decide)
   refine v_ifD (λ h => ?_) (λ h => ?_)
   · walk_at "go"
     exact k _ _ (Int.emod_nonneg _ (by omega)) (Int.emod_lt_of_pos _ m0) (bag_close ok S)
   · walk_at "go"
     exact k _ _ (Int.emod_nonneg _ (by omega)) (Int.emod_lt_of_pos _ m0) (bag_close ok S)
theorem take_mid {K : Fr} {Q : VK} {Rs : List Res} {bag cl : Addr} {many y z c : Int} {ns : List Int} {H : Hp} (m0 : 0 < many) (m1 : many < 2 ^ 120) (ok : BagOk 0 y z ns) (c0 : 0 <= c)
   (k : ∀ v H', 0 <= v -> v < many -> M (bagR bag :: Rs) H' -> Q (.int v) H') (S : M (pt bag (bagO 0 y z cl) :: pt cl (.lst (ns.map V.int)) :: Rs) H) :
   t_l_take_5 K { nx := t_l_take_9 K { nx := λ _ H' => Q .non H', rt := Q }, rt := Q } [some (V.ref bag), some (V.int many), none, none, some (.int c), none] H := by
 have y0 := ok.y0
 have y1 := ok.y1
 have z0 := ok.z0
 have fin : ∀ {x : Int} {H' : Hp}, 0 <= x -> M (pt bag (bagO x y (z + 1) cl) :: pt cl (.lst (ns.map V.int)) :: Rs) H' ->
     tAsg (tOp uMod (tOp (uAdd K) (tOp (uAdd K) (tOp uMul (tOp (uIx K) (tVar 0) (tC (.int 1))) (tC (.int 48271))) (tOp uMod (tVar 4) (tC (.int 2147483647)))) (tOp uMul (tC (.int 7919)) (tOp (uIx K) (tVar 0) (tC (.int 2))))) (tC (.int 2147483647))) (gSub (tVar 0) (tC (.int 1)) uSet)
       { nx := t_l_take_9 K { nx := λ _ H' => Q .non H', rt := Q }, rt := Q } [some (V.ref bag), some (V.int many), none, none, some (.int c), none] H' := by
   intro x H' x0 S
   walk_at "go"
   refine v_set S 0 rfl rfl λ H2 S' => ?_
   have S2 : M (pt bag (bagO x ((y * 48271 + c % 2147483647 + 7919 * (z + 1)) % 2147483647) (z + 1) cl) :: pt cl (.lst (ns.map V.int)) :: Rs) H2 := S'
   walk_at "nx"
   exact take_tail m0 m1 ⟨x0, Int.emod_nonneg _ (by decide), Int.emod_lt_of_pos _ (by decide), by omega, ok.nn⟩ k S2
 walk_at "go"
 refine v_set S 0 rfl rfl λ H' S' => ?_
 have S2 : M (pt bag (bagO 0 y (z + 1) cl) :: pt cl (.lst (ns.map V.int)) :: Rs) H' := S'
 walk_at "go"
 refine v_ifD (λ h => ?_) (λ h => ?_)
 · walk_at "go"
   refine v_set S2 0 rfl rfl λ H2 S' => ?_
   have S3 : M (pt bag (bagO c y (z + 1) cl) :: pt cl (.lst (ns.map V.int)) :: Rs) H2 := S'
   exact fin c0 S3
 · walk_at "st"
   exact fin (Int.le_refl 0) S2
theorem len_l_take {K : Fr} (vs : List V) (H : Hp) (Q : VK) (E : XK) (h : sp_l_take K vs H Q E) : vs.length = 2 := by
 obtain ⟨Rs, bag, many, rfl, _⟩ := h
 rfl
theorem pure_l_take {K : Fr} (vs : List V) (H : Hp) (Q : VK) (E : XK) (h : sp_l_take K vs H Q E) : t_l_take K { nx := λ _ H' => Q .non H', rt := Q } (start ["_law_bag_here", "_law_many", "_law_first", "_law_second", "_law_cell", "_law_value"] vs) H := by
 obtain ⟨Rs, bag, many, rfl, S, m0, m1, k⟩ := h
 obtain ⟨x, y, z, cl, ns, ok, S⟩ := bag_open S
 show t_l_take K _ [some (V.ref bag), some (V.int many), none, none, none, none] H
 walk_at "go"
 refine v_ifD (λ h => ?_) (λ h => ?_)
 · subst h
   walk_at "go"
   refine v_ifD (λ h => ?_) (λ h => ?_)
   · rw [List.length_map] at h
     walk_at "go"
     refine v_ixL (SqL.of (S.got 1 rfl)) (atI_ints ok.z0 h) ?_
     walk_at "nx"
     refine take_mid m0 m1 ok ?_ k S
     rw [List.getD_eq_getElem?_getD]
     cases e : ns[z.toNat]? with
     | none => exact Int.le_refl 0
     | some n => exact ok.nn n (List.mem_of_getElem? e)
   · walk_at "st"
     exact take_mid m0 m1 ok (Int.le_refl 0) k S
 · walk_at "st"
   exact take_tail m0 m1 ok k S
def sp_l_bag (K : Fr) : Sp := λ vs H Q _ => ∃ (Rs : List Res) (a : Addr) (ns : List Int), vs = [.ref a] /\ M Rs H /\ Ent Rs (λ H => SqL K H a (ns.map V.int)) /\ ns.length <= 63 /\ ∀ bag H', M (bagR bag :: Rs) H' -> Q (.ref bag) H'
theorem len_l_bag {K : Fr} (vs : List V) (H : Hp) (Q : VK) (E : XK) (h : sp_l_bag K vs H Q E) : vs.length = 1 := by
 obtain ⟨Rs, a, ns, rfl, _⟩ := h
 rfl
abbrev t_l_bag (K : Fr) : TS := (tRet (tLst (tCons (tC (.int 0)) (tCons (tC (.int 1234567891)) (tCons (tC (.int 0)) (tCons (tLc (iList K (tSl (uSl K) (tVar 0) tNoPart (tPart (tC (.int 63))))) (gName 1) tYes (tCB rAbs (tCons (tVar 1) tNil)) [1]) tNil))))))
theorem pure_l_bag {K : Fr} (vs : List V) (H : Hp) (Q : VK) (E : XK) (h : sp_l_bag K vs H Q E) : t_l_bag K { nx := λ _ H' => Q .non H', rt := Q } (start ["_law_script", "_law_cell"] vs) H := by
 obtain ⟨Rs, a, ns, rfl, S, hS, hl, k⟩ := h
 show t_l_bag K _ [some (V.ref a), none] H
 walk_at "go"
 refine v_slL S (hS H S) λ q H1 S1 => ?_
 rw [show cutV (ns.map V.int) none (some 63) = (ns.map V.int).take 63 from cut_to _ 63, <- List.map_take] at S1
 refine v_itL (SqL.of (S1.got 0 rfl)) ?_
 refine lc_W walk_list S1 (λ i acc => ∃ ms : List Int, acc = ms.map V.int /\ ms.length <= i /\ ∀ n ∈ ms, 0 <= n) ⟨[], rfl, Nat.le_refl _, (λ _ h => nomatch h)⟩ (λ H S => SqL.of (S.got 0 rfl)) ?_ ?_
 · intro i x acc E H H' hi hp S y
   obtain ⟨rfl, hx⟩ := y
   obtain ⟨n, _, rfl⟩ := ints_get hx
   obtain ⟨ms, rfl, hm, hn⟩ := hp
   walk_at "go"
   have hz : i < 63 := by
     rw [List.length_map, List.length_take] at hi
     omega
   refine lc_next S 0 rfl (by rw [List.length_map]; omega) λ H' S' => ?_
   refine ⟨_, ⟨ms ++ [if n < 0 then -n else n], by simp, by simp; omega, λ m h => ?_⟩, S'⟩
   rcases List.mem_append.mp h with h | h
   · exact hn m h
   · cases List.mem_singleton.mp h
     split <;> omega
 · rintro E acc H ⟨ms, rfl, _, hn⟩ S
   walk_at "go"
   refine v_lst S (by simp) λ p H' S' => ?_
   walk_at "go"
   have S2 : M (pt p (bagO 0 1234567891 0 E) :: pt E (.lst (ms.map V.int)) :: Rs) H' := (S'.at 2 rfl).tl
   exact k p H' (bag_close ⟨by decide, by decide, by decide, by decide, hn⟩ S2)
theorem u_take {K : Fr} {Rs : List Res} {H : Hp} {bag : Addr} {many : Int} {Q : VK} {E : XK} (S : M (bagR bag :: Rs) H) (h : 0 < many /\ many < 2 ^ 62) (k : ∀ v H', 0 <= v -> v < many -> M (bagR bag :: Rs) H' -> Q (.int v) H') :
   sp_l_take K ([.ref bag, .int many] ++ []) H Q E := ⟨Rs, bag, many, rfl, S, h.1, by omega, k⟩
def sp_l_alike (K : Fr) : Sp := λ vs H Q _ => ∃ (x y : V) (d : PyData), vs = [x, y] /\ Dn K H x d /\ Dn K H y d /\ AlkOk d /\ Q (.bl true) H
theorem len_l_alike {K : Fr} (vs : List V) (H : Hp) (Q : VK) (E : XK) (h : sp_l_alike K vs H Q E) : vs.length = 2 := by
 obtain ⟨x, y, d, rfl, _⟩ := h
 rfl
abbrev t_l_alike (K : Fr) : TS := (tRet (tAndV (tOp (uEqQ K) (tVar 0) (tVar 1)) (tOp (uEqQ K) (tCB (rReprQ K) (tCons (tVar 0) tNil)) (tCB (rReprQ K) (tCons (tVar 1) tNil)))))
theorem pure_l_alike {K : Fr} (vs : List V) (H : Hp) (Q : VK) (E : XK) (h : sp_l_alike K vs H Q E) : t_l_alike K { nx := λ _ H' => Q .non H', rt := Q } (L2.start ["_law_found", "_law_due"] vs) H := by
 obtain ⟨x, y, d, rfl, h1, h2, ok, k⟩ := h
 show t_l_alike K _ [some x, some y] H
 refine g_ret (g_andV (g_op (g_var rfl (g_var rfl (.inr ⟨d, h1, h2, ok.ok, ok.dp, g_bl (v_ifT ?_)⟩)))))
 refine g_op (g_cb (g_cons (g_var rfl (g_nil ⟨x, d, rfl, h1, ok.sh, ok.dp, ok.ln, ?_⟩))))
 refine g_cb (g_cons (g_var rfl (g_nil ⟨y, d, rfl, h2, ok.sh, ok.dp, ok.ln, ?_⟩)))
 refine .inl (v_eqS ?_)
 rw [decide_eq_true rfl]
 exact k
structure TxC (K : Fr) : Prop where
 cl_Rule : Cls K (He.ga K "Rule")
 na_Rule_asked_of : NoAttr K (He.ga K "Rule") "asked_of"
 xc_Wrong : ExcC K (He.ga K "Wrong")
 xn_Wrong_at : chN K "Wrong" "at" = true
 xm_Wrong_Wrong : PySem.W.exmOne K (.ref (He.ga K "Wrong")) (.ref (He.ga K "Wrong")) = some true
 iy_Rule : InsY K (He.ga K "Rule")
 ik_Rule_Rule : PySem.W.kitOne K (.ref (He.ga K "Rule")) (.ref (He.ga K "Rule")) = some true
 in_Rule : DatN K (He.ga K "Rule")
inductive Ex where
 | Wrong (w : PyData)
def Ex.cls : Ex -> Str
 | .Wrong _ => "Wrong"
def Ex.fld : Ex -> Str
 | .Wrong _ => "at"
def Ex.val : Ex -> PyData
 | .Wrong w => w
def p_l_any (a_some : (List PyData)) (P : PyData -> Prop) : Prop := takeD ((a_some).length : Int) λ n2 => ∃ x5, atI a_some n2 = some x5 /\ P x5
def sp_l_any (K : Fr) : Sp := λ vs H Q _ => ∃ (Rs : List Res) (a_bag_here : Addr) (v_a_some : V) (a_some : (List PyData)) (P : PyData -> Prop), vs = [(V.ref a_bag_here), v_a_some] /\ M (bagR a_bag_here :: da K v_a_some ((eL eA) a_some) :: Rs) H /\ p_l_any a_some P /\ ∀ (r : PyData) (v : V) H', P r -> M (da K v (eA r) :: bagR a_bag_here :: Rs) H' -> Q v H'
theorem len_l_any {K : Fr} (vs : List V) (H : Hp) (Q : VK) (E : XK) (h : sp_l_any K vs H Q E) : vs.length = 2 := by
 obtain ⟨Rs, a_bag_here, v_a_some, a_some, P, rfl, _⟩ := h
 rfl
abbrev t_l_any (K : Fr) : TS := (tRet (tOp (uIx K) (tVar 1) (tCall (sp_l_take K) [] E0 (tCons (tVar 0) (tCons (tCB (uLen K) (tCons (tVar 1) tNil)) tNil)))))
theorem pure_l_any {K : Fr} (vs : List V) (H : Hp) (Q : VK) (E : XK) (h : sp_l_any K vs H Q E) : t_l_any K { nx := λ _ H' => Q .non H', rt := Q } (L2.start ["_law_bag_here", "_law_some"] vs) H := by
 obtain ⟨Rs, a_bag_here, v_a_some, a_some, P, rfl, S0, hf, hk⟩ := h
 show t_l_any K _ [some (V.ref a_bag_here), some v_a_some] H
 refine g_ret (g_op (g_var rfl (g_call (g_cons (g_var rfl (g_cons (g_cb (g_cons (g_var rfl (g_nil (v_lenl S0 1 rfl (g_nil ?_))))))))))))
 obtain ⟨h1, hf⟩ := hf
 refine u_take (S0.at 0 rfl) h1 λ n2 H4 n2l n2u (S3 : M (oo2 Rs) H4) => ?_
 replace hf := hf n2 n2l n2u
 obtain ⟨x5, h6, hf⟩ := hf
 refine v_ixl S3 1 rfl h6 λ u7 S8 => ?_
 exact hk _ _ _ hf (M.sub (.cons 0 rfl (.cons 0 rfl (.tl (.refl _)))) S8)
def p_l_numbers  (P : (List Int) -> Prop) : Prop := takeD 3 λ n6 => ∃ x11, atI ([2, 4, 61] : List Int) n6 = some x11 /\ ((-(2 ^ 62) : Int) <= 4 /\ 4 < (2 ^ 62 : Int)) /\ (rng 4).length <= 100000 /\ lcD (λ (x20 : Int) (k27 : Option Int -> Prop) => takeD x11 λ n29 => k27 (some n29)) (rng 4) [] λ acc17 => ((-(2 ^ 62) : Int) <= 4 /\ 4 < (2 ^ 62 : Int)) /\ forD (λ (x41 : Int) (s38 : (List Int)) (k39 : ((List Int)) -> Prop) => takeD 3 λ n47 => if (decide (n47 = 0)) = true then (∃ m50, ixN (s38).length x41 = some m50 /\ k39 (s38.set m50 0)) else (k39 s38)) (rng 4) acc17 λ s38 => P s38
def sp_l_numbers (K : Fr) : Sp := λ vs H Q _ => ∃ (Rs : List Res) (a_bag_here : Addr) (P : (List Int) -> Prop), vs = [(V.ref a_bag_here)] /\ M (bagR a_bag_here :: Rs) H /\ p_l_numbers P /\ ∀ (r : (List Int)) (v : V) H', P r -> M (da K v ((eV eI) r) :: bagR a_bag_here :: Rs) H' -> Q v H'
theorem len_l_numbers {K : Fr} (vs : List V) (H : Hp) (Q : VK) (E : XK) (h : sp_l_numbers K vs H Q E) : vs.length = 1 := by
 obtain ⟨Rs, a_bag_here, P, rfl, _⟩ := h
 rfl
abbrev t_l_numbers_4 (K : Fr) : TS := (tIfS (tTest (tOp (uEq K) (tCall (sp_l_take K) [] E0 (tCons (tVar 0) (tCons (tC (.int 3)) tNil))) (tC (.int 0)))) (tAsg (tC (.int 0)) (gSub (tVar 2) (tVar 3) uSet)) tNext)
abbrev t_l_numbers_3 (K : Fr) : TS := (tSeq (tFor (iRng1 (tCons (tC (.int 4)) tNil)) (gName 3) (t_l_numbers_4 K))
 (tRet (tCB (rTupL K) (tCons (tVar 2) tNil))))
abbrev t_l_numbers_2 (K : Fr) : TS := (tSeq (tAsg (tLc (iRng1 (tCons (tC (.int 4)) tNil)) (gName 3) tYes (tCall (sp_l_take K) [] E0 (tCons (tVar 0) (tCons (tVar 1) tNil))) [3]) (gName 2))
 (t_l_numbers_3 K))
abbrev t_l_numbers_1 (K : Fr) : TS := (tSeq (tAsg (tOp (uIx K) (tLst (tCons (tC (.int 2)) (tCons (tC (.int 4)) (tCons (tC (.int 61)) tNil)))) (tCall (sp_l_take K) [] E0 (tCons (tVar 0) (tCons (tC (.int 3)) tNil)))) (gName 1))
 (t_l_numbers_2 K))
abbrev t_l_numbers (K : Fr) : TS := (t_l_numbers_1 K)
theorem pure_l_numbers {K : Fr} (vs : List V) (H : Hp) (Q : VK) (E : XK) (h : sp_l_numbers K vs H Q E) : t_l_numbers K { nx := λ _ H' => Q .non H', rt := Q } (L2.start ["_law_bag_here", "_law_cap", "_law_found", "_law_k"] vs) H := by
 obtain ⟨Rs, a_bag_here, P, rfl, S0, hf, hk⟩ := h
 show t_l_numbers K _ [some (V.ref a_bag_here), none, none, none] H
 refine g_seq (g_asg (g_op (g_lst (g_cons (g_c (g_cons (g_c (g_cons (g_c (g_nil (v_lsto (ds := ([2, 4, 61] : List Int).map eI) S0 (EnF.consA (EnF.all λ _ => .int _) (EnF.consA (EnF.all λ _ => .int _) (EnF.consA (EnF.all λ _ => .int _) EnF.nilA))) (len_ok rfl) λ p1 H3 (S2 : M (acR K p1 (([2, 4, 61] : List Int).map eI) :: _ :: Rs) H3) => ?_)))))))))))
 refine g_call (g_cons (g_var rfl (g_cons (g_c (g_nil ?_)))))
 obtain ⟨h5, hf⟩ := hf
 refine u_take (S2.at 1 rfl) h5 λ n6 H8 n6l n6u (S7 : M (oo2 Rs) H8) => ?_
 replace hf := hf n6 n6l n6u
 have S9 : M (da K (V.ref p1) ((eL eI) ([2, 4, 61] : List Int)) :: _ :: Rs) H8 := acR_fixL (S7.at 1 rfl)
 obtain ⟨x11, h12, hf⟩ := hf
 refine v_ixN flI (M.gotA S9 0 rfl) h12 (g_nx ?_)
 show (_ : TS) _ [some (V.ref a_bag_here), some (V.int x11), none, none] _
 have S13 : M (_ :: Rs) H8 := (M.drp S9 0)
 obtain ⟨h16, hf⟩ := hf
 refine g_seq (g_asg (g_lc (g_iRng1 (g_cons (g_c (g_nil (v_itR h16 ?_)))))))
 refine lc_rng (K := K) (e' := eI) hf S13 (λ x20 acc17 E18 H26 kk19 N21 hl22 S25 hf hp23 hn24 => ?_) (λ E18 acc17 H35 hf S34 => ?_)
 ·
  refine g_name (g_wipe rfl (g_yes (v_ifT (g_call (g_cons (g_var rfl (g_cons (g_var rfl (g_nil ?_)))))))))
  obtain ⟨h28, hf⟩ := hf
  refine u_take (S25.at 1 rfl) h28 λ n29 H31 n29l n29u (S30 : M (_ :: acR K E18 (acc17.map eI) :: Rs) H31) => ?_
  replace hf := hf n29 n29l n29u
  refine acR_put S30 1 rfl (EnF.all λ _ => .int _) hl22 λ H33 (S32 : M (acR K E18 (acc17.map eI ++ [eI n29]) :: _ :: Rs) H33) => ?_
  exact hp23 _ _ hf (M.pk S32 2 [0, 1] rfl)
 refine g_nx ?_
 show (_ : TS) _ [some (V.ref a_bag_here), some (V.int x11), some (V.ref E18), none] _
 obtain ⟨h37, hf⟩ := hf
 refine g_seq (g_for (g_iRng1 (g_cons (g_c (g_nil (v_itR h37 ?_))))))
 refine for_rng (β := (List Int)) hf (λ (s38 : (List Int)) σ H' => ∃ (o43 : Option V), σ = [some (V.ref a_bag_here), some (V.int x11), some (V.ref E18), o43] /\ M (acR K E18 (s38.map eI) :: bagR a_bag_here :: Rs) H') ⟨_, rfl, (M.sub (.cons 0 rfl (.cons 0 rfl (.refl _))) S34)⟩ ?_ ?_
 ·
  rintro x41 s38 _ H45 kk40 ⟨o43, rfl, S44⟩ hf
  refine g_name (g_if (g_test (g_op (g_call (g_cons (g_var rfl (g_cons (g_c (g_nil ?_)))))))))
  obtain ⟨h46, hf⟩ := hf
  refine u_take (S44.at 1 rfl) h46 λ n47 H49 n47l n47u (S48 : M (oo2 Rs) H49) => ?_
  replace hf := hf n47 n47l n47u
  refine g_c (v_eqI (g_bl (v_iff hf (λ _ hf => ?_) (λ _ hf => ?_))))
  ·
   refine g_asgX (g_c (g_sub (g_var rfl (g_var rfl ?_))))
   obtain ⟨m50, h51, hf⟩ := hf
   refine v_setl (e := eI) (x := 0) S48 1 rfl h51 (EnF.all λ _ => .int _) λ H53 (S52 : M (acR K E18 ((s38.set m50 0).map eI) :: _ :: Rs) H53) => ?_
   exact ⟨_, hf, _, rfl, (M.pk S52 2 [0, 1] rfl)⟩
  ·
   refine g_next ?_
   exact ⟨_, hf, _, rfl, (M.pk S48 2 [1, 0] rfl)⟩
 rintro s38 _ H56 hf ⟨o43, rfl, S55⟩
 refine g_nx ?_
 show (_ : TS) _ [some (V.ref a_bag_here), some (V.int x11), some (V.ref E18), o43] _
 refine g_ret (g_cb (g_cons (g_var rfl (g_nil ?_))))
 have S57 : M (da K (V.ref E18) ((eL eI) s38) :: _ :: Rs) H56 := acR_fixL S55
 refine v_tupL S57 0 rfl λ p59 H61 (S60 : M (da K (V.ref p59) ((eV eI) s38) :: oo2 Rs) H61) => ?_
 exact hk _ _ _ hf (M.pk S60 3 [0, 2] rfl)
def p_is_whole (a_thing : PyData) (P : Bool -> Prop) : Prop := P ((isA "int" a_thing) && (!(isA "bool" a_thing)))
def sp_is_whole (K : Fr) : Sp := λ vs H Q _ => ∃ (Rs : List Res) (v_a_thing : V) (a_thing : PyData) (P : Bool -> Prop), vs = [v_a_thing] /\ M (da K v_a_thing (eA a_thing) :: Rs) H /\ p_is_whole a_thing P /\ ∀ (r : Bool) H', P r -> M (Rs) H' -> Q (V.bl r) H'
theorem len_is_whole {K : Fr} (vs : List V) (H : Hp) (Q : VK) (E : XK) (h : sp_is_whole K vs H Q E) : vs.length = 1 := by
 obtain ⟨Rs, v_a_thing, a_thing, P, rfl, _⟩ := h
 rfl
abbrev t_is_whole (K : Fr) : TS := (tRet (tAndV (tCB (uIsi K) (tCons (tVar 0) (tCons (tC (.ty "int")) tNil))) (tNotV (tCB (uIsi K) (tCons (tVar 0) (tCons (tC (.ty "bool")) tNil))))))
theorem pure_is_whole {K : Fr} (vs : List V) (H : Hp) (Q : VK) (E : XK) (h : sp_is_whole K vs H Q E) : t_is_whole K { nx := λ _ H' => Q .non H', rt := Q } (L2.start ["thing"] vs) H := by
 obtain ⟨Rs, v_a_thing, a_thing, P, rfl, S0, hf, hk⟩ := h
 show t_is_whole K _ [some v_a_thing] H
 refine g_ret (g_andVP (c1 := (isA "int" a_thing)) (c2 := (!(isA "bool" a_thing))) (λ _ hq => ?_) (λ _ hq => ?_) ?_)
 ·
  refine g_cb (g_cons (g_var rfl (g_cons (g_c (g_nil (v_isq (Dq.dn (M.gotA S0 0 rfl)) (by decide) rfl ?_))))))
  exact hq
 ·
  refine g_notV (g_cb (g_cons (g_var rfl (g_cons (g_c (g_nil (v_isq (Dq.dn (M.gotA S0 0 rfl)) (by decide) rfl (g_bl ?_))))))))
  exact hq
 exact hk _ _ hf (M.pk S0 1 [] rfl)
def p_is_number_of_blocks (a_thing : PyData) (P : Bool -> Prop) : Prop := jn (λ k5 => p_is_whole a_thing λ x8 => if x8 = true then (∃ x12 : Int, a_thing = eI x12 /\ k5 ((decide (0 <= x12)) && (decide (x12 <= 60)))) else (k5 false)) λ c1 => P c1
def sp_is_number_of_blocks (K : Fr) : Sp := λ vs H Q _ => ∃ (Rs : List Res) (v_a_thing : V) (a_thing : PyData) (P : Bool -> Prop), vs = [v_a_thing] /\ M (da K v_a_thing (eA a_thing) :: Rs) H /\ p_is_number_of_blocks a_thing P /\ ∀ (r : Bool) H', P r -> M (Rs) H' -> Q (V.bl r) H'
theorem len_is_number_of_blocks {K : Fr} (vs : List V) (H : Hp) (Q : VK) (E : XK) (h : sp_is_number_of_blocks K vs H Q E) : vs.length = 1 := by
 obtain ⟨Rs, v_a_thing, a_thing, P, rfl, _⟩ := h
 rfl
abbrev t_is_number_of_blocks (K : Fr) : TS := (tRet (tAndV (tCall (sp_is_whole K) [] E0 (tCons (tVar 0) tNil)) (tChain uLe uLe (tC (.int 0)) (tVar 0) (tC (.int 60)))))
theorem pure_is_number_of_blocks {K : Fr} (vs : List V) (H : Hp) (Q : VK) (E : XK) (h : sp_is_number_of_blocks K vs H Q E) : t_is_number_of_blocks K { nx := λ _ H' => Q .non H', rt := Q } (L2.start ["thing"] vs) H := by
 obtain ⟨Rs, v_a_thing, a_thing, P, rfl, S0, hf, hk⟩ := h
 show t_is_number_of_blocks K _ [some v_a_thing] H
 refine g_ret ?_
 refine te_cut hf (λ H => M (da K v_a_thing (eA a_thing) :: Rs) H) (λ kk2 P3 hP4 hf => ?_) ?_
 ·
  refine g_andV (g_call (g_cons (g_var rfl (g_nil (⟨_, _, _, _, rfl, (M.addA S0 (EnF.at 0 rfl)), hf, λ x8 H10 hf (S9 : M (_ :: Rs) H10) => ?_⟩)))))
  refine g_bl (v_iff hf (λ _ hf => ?_) (λ _ hf => ?_))
  ·
   obtain ⟨x12, h13, hf⟩ := hf
   have S14 := M.cstA S9 0 rfl h13
   obtain rfl := (S14.gotA 0 rfl).intV
   have S15 := S14.tl
   refine g_chainP (c1 := (decide (0 <= x12))) (c2 := (decide (x12 <= 60))) (λ _ hq => ?_) (λ _ hq => ?_) (λ _ hq => v_le hq) (λ _ hq => ?_) (λ _ hq => v_le hq) ?_
   ·
    refine g_c ?_
    exact hq
   ·
    refine g_var rfl ?_
    exact hq
   ·
    refine g_c ?_
    exact hq
   exact hP4 _ _ hf (M.sub (.cons 0 rfl (.refl _)) S15)
  ·
   exact hP4 _ _ hf (M.pk S9 1 [0] rfl)
 intro c1 H17 hf S16
 exact hk _ _ hf (M.sub (.tl (.refl _)) S16)
def p_as_told (a_at : PyData) (a_fits : Bool) (X : Ex -> Prop) (P : Unit -> Prop) : Prop := if (!a_fits) = true then (X (Ex.Wrong a_at)) else (P ())
def sp_as_told (K : Fr) : Sp := λ vs H Q E => ∃ (Rs : List Res) (v_a_at : V) (a_at : PyData) (a_fits : Bool) (X : Ex -> Prop) (P : Unit -> Prop), vs = [v_a_at, (V.bl a_fits)] /\ M (da K v_a_at (eA a_at) :: Rs) H /\ p_as_told a_at a_fits X P /\ (∀ (x : Ex) (d : Addr) (v : V) H', X x -> M (pt d (.xd [(x.fld, v)]) :: da K v x.val :: Rs) H' -> E (.ref (He.ga K x.cls)) (some d) H') /\ ∀ (m0 : Unit) H', P m0 -> M (Rs) H' -> Q .non H'
theorem len_as_told {K : Fr} (vs : List V) (H : Hp) (Q : VK) (E : XK) (h : sp_as_told K vs H Q E) : vs.length = 2 := by
 obtain ⟨Rs, v_a_at, a_at, a_fits, X, P, rfl, _⟩ := h
 rfl
abbrev t_as_told_1 (K : Fr) (W : WX) : TS := (tIfS (tNot (tB (tVar 1))) (tRz W (He.ga K "Wrong") "at" (tVar 0)) tNext)
abbrev t_as_told (K : Fr) (W : WX) : TS := (t_as_told_1 K W)
theorem pure_as_told {K : Fr} (T : TxC K) (vs : List V) (H : Hp) (Q : VK) (E : XK) (h : sp_as_told K vs H Q E) : t_as_told K (WT E) { nx := λ _ H' => Q .non H', rt := Q } (L2.start ["at", "fits"] vs) H := by
 obtain ⟨Rs, v_a_at, a_at, a_fits, X, P, rfl, S0, hf, hX, hk⟩ := h
 show t_as_told K (WT E) _ [some v_a_at, some (V.bl a_fits)] H
 refine g_if (g_not (g_B (g_var rfl (g_bl (v_iff hf (λ _ hf => ?_) (λ _ hf => ?_))))))
 ·
  refine g_rz (g_var rfl (v_rz S0 λ d1 H3 (S2 : M (pt d1 (.xd [("at", v_a_at)]) :: _ :: Rs) H3) => ?_))
  exact hX (Ex.Wrong a_at) d1 v_a_at _ hf (M.pk S2 2 [0, 1] rfl)
 ·
  refine g_next ?_
  exact hk _ _ hf (M.pk S0 1 [] rfl)
def R_Rule (K : Fr) (a : Addr) (x : (List Int)) : Res := exi λ (dx : Addr) => exi λ (v0 : V) => sp2 (pt a (.ins (He.ga K "Rule") dx [("asked_of", v0)])) (sp2 (pt dx (.own a)) (da K v0 ((eV eI) x)))
theorem R_Rule_open {K : Fr} {a : Addr} {x : (List Int)} {Rs : List Res} {H : Hp} (S : M (R_Rule K a x :: Rs) H) : ∃ (dx : Addr) (v0 : V), M (pt a (.ins (He.ga K "Rule") dx [("asked_of", v0)]) :: pt dx (.own a) :: da K v0 ((eV eI) x) :: Rs) H := by
 obtain ⟨dx, S⟩ := S.ex
 obtain ⟨v0, S⟩ := S.ex
 exact ⟨dx, v0, M.spN3 S⟩
theorem R_Rule_close {K : Fr} {a : Addr} {x : (List Int)} {Rs : List Res} {H : Hp} {dx : Addr} {v0 : V} (S : M (pt a (.ins (He.ga K "Rule") dx [("asked_of", v0)]) :: pt dx (.own a) :: da K v0 ((eV eI) x) :: Rs) H) : M (R_Rule K a x :: Rs) H := M.ex' dx <| M.ex' v0 <| M.spM3 S
theorem v_R_Rule {K : Fr} {a : Addr} {x : (List Int)} {Rs : List Res} {H : Hp} {W : WX} {m : Str} {sp : Sp} {dvs : List V} {t : TA} {σ : L2.St} {Q : VK} (S : M Rs H) (i : Nat) (e : Rs[i]? = some (R_Rule K a x)) (hm : ∀ (dx : Addr) (v0 : V), List.lookup m ([("asked_of", v0)] : List (Str × V)) = none)
   (k : t σ H λ vs H2 => sp (.ref a :: (vs ++ dvs)) H2 Q (WE W σ)) : MethK W (He.ga K "Rule") m sp dvs t σ Q (.ref a) H := by
 obtain ⟨dx, v0, S1⟩ := R_Rule_open (S.at i e)
 exact v_meth (S1.got 0 rfl) (hm dx v0) k
theorem i_R_Rule {K : Fr} {a : Addr} {x : (List Int)} {Rs : List Res} {H : Hp} (S : M (R_Rule K a x :: Rs) H) : ∃ dx fs, H a = some (.ins (He.ga K "Rule") dx fs) := by
 obtain ⟨dx, v0, S1⟩ := R_Rule_open S
 exact ⟨_, _, S1.got 0 rfl⟩
def p_Rule___init__ (a_last : PyData) (a_days : PyData) (a_weeks : PyData) (a_months : PyData) (X : Ex -> Prop) (P : ((List Int)) -> Prop) : Prop := forD (λ (x29 : (Str × PyData)) (s26 : Unit) (k27 : (Unit) -> Prop) => p_is_number_of_blocks x29.2 λ x42 => p_as_told (eS x29.1) x42 (λ x53 => X x53) λ _u49 => k27 ()) (([("last" : Str), ("days" : Str), ("weeks" : Str), ("months" : Str)]).zip ([a_last, a_days, a_weeks, a_months])) () λ s26 => ∃ x63 : Int, a_last = eI x63 /\ ∃ x67 : Int, a_days = eI x67 /\ ∃ x71 : Int, a_weeks = eI x71 /\ ∃ x75 : Int, a_months = eI x75 /\ P ([x63, x67, x71, x75])
def sp_Rule___init__ (K : Fr) : Sp := λ vs H Q E => ∃ (Rs : List Res) (p_a_self d_a_self : Addr) (v_a_last : V) (a_last : PyData) (v_a_days : V) (a_days : PyData) (v_a_weeks : V) (a_weeks : PyData) (v_a_months : V) (a_months : PyData) (X : Ex -> Prop) (P : ((List Int)) -> Prop), vs = [(V.ref p_a_self), v_a_last, v_a_days, v_a_weeks, v_a_months] /\ M (pt p_a_self (.ins (He.ga K "Rule") d_a_self []) :: pt d_a_self (.own p_a_self) :: da K v_a_last (eA a_last) :: da K v_a_days (eA a_days) :: da K v_a_weeks (eA a_weeks) :: da K v_a_months (eA a_months) :: Rs) H /\ p_Rule___init__ a_last a_days a_weeks a_months X P /\ (∀ (x : Ex) (d : Addr) (v : V) H', X x -> M (pt d (.xd [(x.fld, v)]) :: da K v x.val :: Rs) H' -> E (.ref (He.ga K x.cls)) (some d) H') /\ ∀ (m0 : ((List Int))) H', P m0 -> M (R_Rule K p_a_self m0 :: Rs) H' -> Q .non H'
theorem len_Rule___init__ {K : Fr} (vs : List V) (H : Hp) (Q : VK) (E : XK) (h : sp_Rule___init__ K vs H Q E) : vs.length = 5 := by
 obtain ⟨Rs, p_a_self, d_a_self, v_a_last, a_last, v_a_days, a_days, v_a_weeks, a_weeks, v_a_months, a_months, X, P, rfl, _⟩ := h
 rfl
abbrev t_Rule___init___1 (K : Fr) (W : WX) : TS := (tSeq (tFor (iZipG K true true (tCons (tTup (tCons (tC (.str "last")) (tCons (tC (.str "days")) (tCons (tC (.str "weeks")) (tCons (tC (.str "months")) tNil))))) (tCons (tTup (tCons (tVar 1) (tCons (tVar 2) (tCons (tVar 3) (tCons (tVar 4) tNil))))) tNil))) (gTup K 2 (gCons (gName 5) (gCons (gName 6) gNil))) (tDrop (tCallW W (sp_as_told K) [] (tCons (tVar 5) (tCons (tCall (sp_is_number_of_blocks K) [] E0 (tCons (tVar 6) tNil)) tNil)))))
 (sFld K (tVar 0) (tTup (tCons (tVar 1) (tCons (tVar 2) (tCons (tVar 3) (tCons (tVar 4) tNil))))) "asked_of"))
abbrev t_Rule___init__ (K : Fr) (W : WX) : TS := (t_Rule___init___1 K W)
theorem pure_Rule___init__ {K : Fr} (T : TxC K) (vs : List V) (H : Hp) (Q : VK) (E : XK) (h : sp_Rule___init__ K vs H Q E) : t_Rule___init__ K (WT E) { nx := λ _ H' => Q .non H', rt := Q } (L2.start ["self", "last", "days", "weeks", "months", "word", "many"] vs) H := by
 obtain ⟨Rs, p_a_self, d_a_self, v_a_last, a_last, v_a_days, a_days, v_a_weeks, a_weeks, v_a_months, a_months, X, P, rfl, S0, hf, hX, hk⟩ := h
 show t_Rule___init__ K (WT E) _ [some (V.ref p_a_self), some v_a_last, some v_a_days, some v_a_weeks, some v_a_months, none, none] H
 refine g_seq (g_for (g_iZipG (g_cons (g_tup (g_cons (g_c (g_cons (g_c (g_cons (g_c (g_cons (g_c (g_nil (v_tupq S0 (EnF.consA (EnF.all λ _ => .str _) (EnF.consA (EnF.all λ _ => .str _) (EnF.consA (EnF.all λ _ => .str _) (EnF.consA (EnF.all λ _ => .str _) EnF.nilA)))) (len_ok rfl) λ p1 H3 (S2 : M (da K (V.ref p1) ((eV eS) [("last" : Str), ("days" : Str), ("weeks" : Str), ("months" : Str)]) :: oo6 Rs) H3) => ?_))))))))))))))
 refine g_cons (g_tup (g_cons (g_var rfl (g_cons (g_var rfl (g_cons (g_var rfl (g_cons (g_var rfl (g_nil (v_tupq S2 (EnF.consA (EnF.at 3 rfl) (EnF.consA (EnF.at 4 rfl) (EnF.consA (EnF.at 5 rfl) (EnF.consA (EnF.at 6 rfl) EnF.nilA)))) (len_ok rfl) λ p5 H7 (S6 : M (da K (V.ref p5) ((eV eA) [a_last, a_days, a_weeks, a_months]) :: oo7 Rs) H7) => ?_)))))))))))
 refine g_nil ?_
 obtain ⟨a9, vs10, e_a9, S11⟩ := M.openG true (ds := ([("last" : Str), ("days" : Str), ("weeks" : Str), ("months" : Str)]).map eS) (M.addA S6 (EnF.at 1 rfl))
 obtain ⟨a14, vs15, e_a14, S16⟩ := M.openG true (ds := ([a_last, a_days, a_weeks, a_months]).map eA) (M.addA S11 (EnF.at 2 rfl))
 refine for_zipG (K := K) (β := Unit) e_a9 e_a14 hf (λ (s26 : Unit) σ H' => ∃ (o30 : Option V) (o31 : Option V), σ = [some (V.ref p_a_self), some v_a_last, some v_a_days, some v_a_weeks, some v_a_months, o30, o31] /\ M (rdG K true a14 vs15 :: daA K vs15 (([a_last, a_days, a_weeks, a_months]).map eA) :: rdG K true a9 vs10 :: daA K vs10 (([("last" : Str), ("days" : Str), ("weeks" : Str), ("months" : Str)]).map eS) :: da K (V.ref p5) ((eV eA) [a_last, a_days, a_weeks, a_months]) :: da K (V.ref p1) ((eV eS) [("last" : Str), ("days" : Str), ("weeks" : Str), ("months" : Str)]) :: pt p_a_self (.ins (He.ga K "Rule") d_a_self []) :: pt d_a_self (.own p_a_self) :: da K v_a_last (eA a_last) :: da K v_a_days (eA a_days) :: da K v_a_weeks (eA a_weeks) :: da K v_a_months (eA a_months) :: Rs) H') ⟨_, _, rfl, (M.sub (.cons 0 rfl (.cons 0 rfl (.cons 0 rfl (.cons 0 rfl (.cons 0 rfl (.cons 0 rfl (.cons 0 rfl (.cons 0 rfl (.cons 0 rfl (.cons 0 rfl (.cons 0 rfl (.cons 0 rfl (.refl _))))))))))))) S16)⟩ (λ _ _ _ h => by obtain ⟨_, _, _, S⟩ := h; exact ⟨S.zl 2 rfl 3 rfl, S.zl 0 rfl 1 rfl⟩) ?_ ?_
 ·
  rintro i19 u20 u21 x29 s26 _ H33 T34 kk28 ⟨o30, o31, rfl, S32⟩ hT35 hv22 hx23 hw24 hy25 hf
  have S36 := S32.new (o := (.tup [u20, u21])) hT35
  refine g_gtup (.inl (.inl (S36.got 0 rfl))) rfl (g_gcons ?_)
  have S37 := S36.elA 4 rfl hv22 hx23
  obtain rfl := (S37.gotA 0 rfl).strV
  have S38 := S37.tl
  refine g_name (g_gcons ?_)
  have S39 := S38.elA 2 rfl hw24 hy25
  refine g_name (g_gnil (g_drop (g_callW (g_cons (g_var rfl (g_cons (g_call (g_cons (g_var rfl (g_nil (⟨_, _, _, _, rfl, (M.addA S39 (EnF.at 0 rfl)), hf, λ x42 H44 hf (S43 : M (da K u21 (eA x29.2) :: pt T34 (.tup [(V.str x29.1), u21]) :: oo12 Rs) H44) => ?_⟩)))))))))))
  refine g_nil ?_
  have S46 : M (da K (V.str x29.1) (eS x29.1) :: oo14 Rs) H44 := M.addA S43 (EnF.all λ _ => .str (K := K) x29.1)
  refine ⟨_, _, _, _, _, _, rfl, (M.addA S46 (EnF.at 0 rfl)), hf, λ x53 d54 v55 H57 hf (S56 : M (pt d54 (.xd [(x53.fld, v55)]) :: da K v55 x53.val :: _ :: oo14 Rs) H57) => ?_, λ _u49 H51 hf (S50 : M (_ :: oo14 Rs) H51) => ?_⟩
  ·
   exact hX x53 d54 v55 _ hf (M.pk S56 17 [0, 1] rfl)
  exact ⟨_, hf, _, _, rfl, (M.pk S50 15 [3, 4, 5, 6, 7, 8, 9, 10, 11, 12, 13, 14] rfl)⟩
 rintro s26 _ H61 hf ⟨o30, o31, rfl, S60⟩
 refine g_nx ?_
 show (_ : TS) _ [some (V.ref p_a_self), some v_a_last, some v_a_days, some v_a_weeks, some v_a_months, o30, o31] _
 have S62 : M (oo10 Rs) H61 := (M.drp (M.drp S60 5) 4)
 refine g_sfld (g_tup (g_cons (g_var rfl (g_cons (g_var rfl (g_cons (g_var rfl (g_cons (g_var rfl (g_nil ?_))))))))))
 obtain ⟨x63, h64, hf⟩ := hf
 have S65 := M.cstA S62 6 rfl h64
 obtain rfl := (S65.gotA 0 rfl).intV
 have S66 := S65.tl
 obtain ⟨x67, h68, hf⟩ := hf
 have S69 := M.cstA S66 7 rfl h68
 obtain rfl := (S69.gotA 0 rfl).intV
 have S70 := S69.tl
 obtain ⟨x71, h72, hf⟩ := hf
 have S73 := M.cstA S70 8 rfl h72
 obtain rfl := (S73.gotA 0 rfl).intV
 have S74 := S73.tl
 obtain ⟨x75, h76, hf⟩ := hf
 have S77 := M.cstA S74 9 rfl h76
 obtain rfl := (S77.gotA 0 rfl).intV
 have S78 := S77.tl
 refine v_tupq S78 (EnF.consA (EnF.all λ _ => .int _) (EnF.consA (EnF.all λ _ => .int _) (EnF.consA (EnF.all λ _ => .int _) (EnF.consA (EnF.all λ _ => .int _) EnF.nilA)))) (len_ok rfl) λ p79 H81 (S80 : M (da K (V.ref p79) ((eV eI) [x63, x67, x71, x75]) :: oo6 (da K (V.int x63) (eA a_last) :: da K (V.int x67) (eA a_days) :: da K (V.int x71) (eA a_weeks) :: da K (V.int x75) (eA a_months) :: Rs)) H81) => ?_
 refine g_var rfl (v_sfld S80 5 rfl T.cl_Rule T.na_Rule_asked_of (by simp) λ H84 (S83 : M (oo5 (pt p_a_self (.ins (He.ga K "Rule") d_a_self [("asked_of", (V.ref p79))]) :: oo5 Rs)) H84) => ?_)
 have S85 : M (R_Rule K p_a_self ([x63, x67, x71, x75]) :: oo8 Rs) H84 := R_Rule_close (M.pk S83 11 [5, 6, 0, 1, 2, 3, 4, 7, 8, 9, 10] rfl)
 exact hk _ _ hf (M.pk S85 9 [0] rfl)
def p_Rule_numbers (a_self : ((List Int))) (P : (List Int) -> Prop) : Prop := P a_self
def sp_Rule_numbers (K : Fr) : Sp := λ vs H Q _ => ∃ (Rs : List Res) (p_a_self : Addr) (a_self : ((List Int))) (P : (List Int) -> Prop), vs = [(V.ref p_a_self)] /\ M (R_Rule K p_a_self a_self :: Rs) H /\ p_Rule_numbers a_self P /\ ∀ (r : (List Int)) (v : V) H', P r -> M (da K v ((eV eI) r) :: R_Rule K p_a_self a_self :: Rs) H' -> Q v H'
theorem len_Rule_numbers {K : Fr} (vs : List V) (H : Hp) (Q : VK) (E : XK) (h : sp_Rule_numbers K vs H Q E) : vs.length = 1 := by
 obtain ⟨Rs, p_a_self, a_self, P, rfl, _⟩ := h
 rfl
abbrev t_Rule_numbers (K : Fr) : TS := (tRet (tFld K (tVar 0) "asked_of"))
theorem pure_Rule_numbers {K : Fr} (T : TxC K) (vs : List V) (H : Hp) (Q : VK) (E : XK) (h : sp_Rule_numbers K vs H Q E) : t_Rule_numbers K { nx := λ _ H' => Q .non H', rt := Q } (L2.start ["self"] vs) H := by
 obtain ⟨Rs, p_a_self, a_self, P, rfl, S0, hf, hk⟩ := h
 show t_Rule_numbers K _ [some (V.ref p_a_self)] H
 obtain ⟨dx2, u3, (S1 : M (pt p_a_self (.ins (He.ga K "Rule") dx2 [("asked_of", u3)]) :: pt dx2 (.own p_a_self) :: da K u3 ((eV eI) a_self) :: Rs) H)⟩ := R_Rule_open (S0.at 0 rfl)
 refine g_ret (g_fld (g_var rfl (v_fld (S1.got 0 rfl) T.cl_Rule T.na_Rule_asked_of rfl ?_)))
 have S8 : M (oo4 Rs) H := M.addA S1 (EnF.at 2 rfl)
 have S9 : M (R_Rule K p_a_self a_self :: _ :: Rs) H := R_Rule_close (M.pk S8 4 [1, 2, 3, 0] rfl)
 exact hk _ _ _ hf (M.pk S9 2 [1, 0] rfl)
def p_Rule___repr__ (a_self : ((List Int))) (P : Str -> Prop) : Prop := ∃ x7 : (Int × Int × Int × Int), a_self = [x7.1, x7.2.1, x7.2.2.1, x7.2.2.2] /\ ((Str.empty ++ ("Rule(last=" : Str))).length <= sizeLine /\ (x7.1).natAbs.log2 < 1920 /\ (((Str.empty ++ ("Rule(last=" : Str)) ++ (fmtI x7.1))).length <= sizeLine /\ ((((Str.empty ++ ("Rule(last=" : Str)) ++ (fmtI x7.1)) ++ (", days=" : Str))).length <= sizeLine /\ (x7.2.1).natAbs.log2 < 1920 /\ (((((Str.empty ++ ("Rule(last=" : Str)) ++ (fmtI x7.1)) ++ (", days=" : Str)) ++ (fmtI x7.2.1))).length <= sizeLine /\ ((((((Str.empty ++ ("Rule(last=" : Str)) ++ (fmtI x7.1)) ++ (", days=" : Str)) ++ (fmtI x7.2.1)) ++ (", weeks=" : Str))).length <= sizeLine /\ (x7.2.2.1).natAbs.log2 < 1920 /\ (((((((Str.empty ++ ("Rule(last=" : Str)) ++ (fmtI x7.1)) ++ (", days=" : Str)) ++ (fmtI x7.2.1)) ++ (", weeks=" : Str)) ++ (fmtI x7.2.2.1))).length <= sizeLine /\ ((((((((Str.empty ++ ("Rule(last=" : Str)) ++ (fmtI x7.1)) ++ (", days=" : Str)) ++ (fmtI x7.2.1)) ++ (", weeks=" : Str)) ++ (fmtI x7.2.2.1)) ++ (", months=" : Str))).length <= sizeLine /\ (x7.2.2.2).natAbs.log2 < 1920 /\ (((((((((Str.empty ++ ("Rule(last=" : Str)) ++ (fmtI x7.1)) ++ (", days=" : Str)) ++ (fmtI x7.2.1)) ++ (", weeks=" : Str)) ++ (fmtI x7.2.2.1)) ++ (", months=" : Str)) ++ (fmtI x7.2.2.2))).length <= sizeLine /\ ((((((((((Str.empty ++ ("Rule(last=" : Str)) ++ (fmtI x7.1)) ++ (", days=" : Str)) ++ (fmtI x7.2.1)) ++ (", weeks=" : Str)) ++ (fmtI x7.2.2.1)) ++ (", months=" : Str)) ++ (fmtI x7.2.2.2)) ++ (")" : Str))).length <= sizeLine /\ P (((((((((Str.empty ++ ("Rule(last=" : Str)) ++ (fmtI x7.1)) ++ (", days=" : Str)) ++ (fmtI x7.2.1)) ++ (", weeks=" : Str)) ++ (fmtI x7.2.2.1)) ++ (", months=" : Str)) ++ (fmtI x7.2.2.2)) ++ (")" : Str))
def sp_Rule___repr__ (K : Fr) : Sp := λ vs H Q _ => ∃ (Rs : List Res) (p_a_self : Addr) (a_self : ((List Int))) (P : Str -> Prop), vs = [(V.ref p_a_self)] /\ M (R_Rule K p_a_self a_self :: Rs) H /\ p_Rule___repr__ a_self P /\ ∀ (r : Str) H', P r -> M (R_Rule K p_a_self a_self :: Rs) H' -> Q (V.str r) H'
theorem len_Rule___repr__ {K : Fr} (vs : List V) (H : Hp) (Q : VK) (E : XK) (h : sp_Rule___repr__ K vs H Q E) : vs.length = 1 := by
 obtain ⟨Rs, p_a_self, a_self, P, rfl, _⟩ := h
 rfl
abbrev t_Rule___repr___1 (K : Fr) : TS := (tSeq (tAsg (tFld K (tVar 0) "asked_of") (gTup K 4 (gCons (gName 1) (gCons (gName 2) (gCons (gName 3) (gCons (gName 4) gNil))))))
 (tRet (tFst [(tC (.str "Rule(last=")), (tFmt (tVar 1)), (tC (.str ", days=")), (tFmt (tVar 2)), (tC (.str ", weeks=")), (tFmt (tVar 3)), (tC (.str ", months=")), (tFmt (tVar 4)), (tC (.str ")"))])))
abbrev t_Rule___repr__ (K : Fr) : TS := (t_Rule___repr___1 K)
theorem pure_Rule___repr__ {K : Fr} (T : TxC K) (vs : List V) (H : Hp) (Q : VK) (E : XK) (h : sp_Rule___repr__ K vs H Q E) : t_Rule___repr__ K { nx := λ _ H' => Q .non H', rt := Q } (L2.start ["self", "last", "days", "weeks", "months"] vs) H := by
 obtain ⟨Rs, p_a_self, a_self, P, rfl, S0, hf, hk⟩ := h
 show t_Rule___repr__ K _ [some (V.ref p_a_self), none, none, none, none] H
 obtain ⟨dx2, u3, (S1 : M (pt p_a_self (.ins (He.ga K "Rule") dx2 [("asked_of", u3)]) :: pt dx2 (.own p_a_self) :: da K u3 ((eV eI) a_self) :: Rs) H)⟩ := R_Rule_open (S0.at 0 rfl)
 refine g_seq (g_asgX (g_fld (g_var rfl (v_fld (S1.got 0 rfl) T.cl_Rule T.na_Rule_asked_of rfl ?_))))
 obtain ⟨x7, h8, hf⟩ := hf
 have S9 : M (da K u3 ((eT4 eI eI eI eI) x7) :: oo3 Rs) H := M.cstA S1 2 rfl (by rw [h8]; rfl)
 obtain ⟨a15, u11, u12, u13, u14, e_a15, q_a15, S16⟩ := S9.openT4 0 rfl
 subst e_a15
 refine g_gtup q_a15 rfl (g_gcons ?_)
 obtain rfl := (S16.gotA 0 rfl).intV
 refine g_name (g_gcons ?_)
 obtain rfl := (S16.gotA 1 rfl).intV
 refine g_name (g_gcons ?_)
 obtain rfl := (S16.gotA 2 rfl).intV
 refine g_name (g_gcons ?_)
 obtain rfl := (S16.gotA 3 rfl).intV
 refine g_name (g_gnil (g_nx ?_))
 show (_ : TS) _ [some (V.ref p_a_self), some (V.int x7.1), some (V.int x7.2.1), some (V.int x7.2.2.1), some (V.int x7.2.2.2)] _
 have S21 : M (pt p_a_self (.ins (He.ga K "Rule") dx2 [("asked_of", (V.ref a15))]) :: _ :: da K (V.ref a15) ((eV eI) a_self) :: Rs) H := (M.drp (M.drp (M.drp (M.drp (M.drp S16 4) 3) 2) 1) 0)
 refine g_ret (g_fst (g_jcons (g_c ?_)))
 obtain ⟨h22, hf⟩ := hf
 refine v_js (y := ("Rule(last=" : Str)) h22 (g_jcons (g_fmt (g_var rfl ?_)))
 obtain ⟨h23, hf⟩ := hf
 refine v_fmtI h23 ?_
 obtain ⟨h24, hf⟩ := hf
 refine v_js (y := (fmtI x7.1)) h24 (g_jcons (g_c ?_))
 obtain ⟨h25, hf⟩ := hf
 refine v_js (y := (", days=" : Str)) h25 (g_jcons (g_fmt (g_var rfl ?_)))
 obtain ⟨h26, hf⟩ := hf
 refine v_fmtI h26 ?_
 obtain ⟨h27, hf⟩ := hf
 refine v_js (y := (fmtI x7.2.1)) h27 (g_jcons (g_c ?_))
 obtain ⟨h28, hf⟩ := hf
 refine v_js (y := (", weeks=" : Str)) h28 (g_jcons (g_fmt (g_var rfl ?_)))
 obtain ⟨h29, hf⟩ := hf
 refine v_fmtI h29 ?_
 obtain ⟨h30, hf⟩ := hf
 refine v_js (y := (fmtI x7.2.2.1)) h30 (g_jcons (g_c ?_))
 obtain ⟨h31, hf⟩ := hf
 refine v_js (y := (", months=" : Str)) h31 (g_jcons (g_fmt (g_var rfl ?_)))
 obtain ⟨h32, hf⟩ := hf
 refine v_fmtI h32 ?_
 obtain ⟨h33, hf⟩ := hf
 refine v_js (y := (fmtI x7.2.2.2)) h33 (g_jcons (g_c ?_))
 obtain ⟨h34, hf⟩ := hf
 refine v_js (y := (")" : Str)) h34 (g_jnil ?_)
 have S35 : M (R_Rule K p_a_self a_self :: Rs) H := R_Rule_close (M.pk S21 3 [0, 1, 2] rfl)
 exact hk _ _ hf (M.pk S35 1 [0] rfl)
def p_l_rule (a_four : PyData) (X : Ex -> Prop) (P : ((List Int)) -> Prop) : Prop := ∃ x1, anyAt a_four 0 = some x1 /\ ∃ x6, anyAt a_four 1 = some x6 /\ ∃ x11, anyAt a_four 2 = some x11 /\ ∃ x16, anyAt a_four 3 = some x16 /\ p_Rule___init__ x1 x6 x11 x16 (λ x36 => X x36) λ m31 => P m31
def sp_l_rule (K : Fr) : Sp := λ vs H Q E => ∃ (Rs : List Res) (v_a_four : V) (a_four : PyData) (X : Ex -> Prop) (P : ((List Int)) -> Prop), vs = [v_a_four] /\ M (da K v_a_four (eA a_four) :: Rs) H /\ p_l_rule a_four X P /\ (∀ (x : Ex) (d : Addr) (v : V) H', X x -> M (pt d (.xd [(x.fld, v)]) :: da K v x.val :: Rs) H' -> E (.ref (He.ga K x.cls)) (some d) H') /\ ∀ (r : ((List Int))) (p : Addr) H', P r -> M (R_Rule K p r :: Rs) H' -> Q (.ref p) H'
theorem len_l_rule {K : Fr} (vs : List V) (H : Hp) (Q : VK) (E : XK) (h : sp_l_rule K vs H Q E) : vs.length = 1 := by
 obtain ⟨Rs, v_a_four, a_four, X, P, rfl, _⟩ := h
 rfl
abbrev t_l_rule (K : Fr) (W : WX) : TS := (tRet (tMakeWN 1 4 W (He.ga K "Rule") (sp_Rule___init__ K) (λ vs zs => vs ++ (zs ++ [])) tNil (tCons (tOp (uIx K) (tVar 0) (tC (.int 0))) (tCons (tOp (uIx K) (tVar 0) (tC (.int 1))) (tCons (tOp (uIx K) (tVar 0) (tC (.int 2))) (tCons (tOp (uIx K) (tVar 0) (tC (.int 3))) tNil))))))
theorem pure_l_rule {K : Fr} (T : TxC K) (vs : List V) (H : Hp) (Q : VK) (E : XK) (h : sp_l_rule K vs H Q E) : t_l_rule K (WT E) { nx := λ _ H' => Q .non H', rt := Q } (L2.start ["_law_four"] vs) H := by
 obtain ⟨Rs, v_a_four, a_four, X, P, rfl, S0, hf, hX, hk⟩ := h
 show t_l_rule K (WT E) _ [some v_a_four] H
 refine g_ret (g_makeWN (g_nil (g_cons (g_op (g_var rfl (g_c ?_))))))
 obtain ⟨x1, h2, hf⟩ := hf
 refine v_ixa S0 0 rfl h2 λ u3 S4 => ?_
 refine g_cons (g_op (g_var rfl (g_c ?_)))
 obtain ⟨x6, h7, hf⟩ := hf
 refine v_ixa S4 1 rfl h7 λ u8 S9 => ?_
 refine g_cons (g_op (g_var rfl (g_c ?_)))
 obtain ⟨x11, h12, hf⟩ := hf
 refine v_ixa S9 2 rfl h12 λ u13 S14 => ?_
 refine g_cons (g_op (g_var rfl (g_c ?_)))
 obtain ⟨x16, h17, hf⟩ := hf
 refine v_ixa S14 3 rfl h17 λ u18 S19 => ?_
 refine g_nil (And.intro rfl (And.intro rfl (v_makeN S19 λ a21 dx22 H24 (S23 : M (pt a21 (.ins (He.ga K "Rule") dx22 []) :: pt dx22 (.own a21) :: da K u18 (eA x16) :: da K u13 (eA x11) :: da K u8 (eA x6) :: da K u3 (eA x1) :: _ :: Rs) H24) => ?_)))
 refine ⟨_, _, _, _, _, _, _, _, _, _, _, _, _, rfl, (M.at (M.at (M.addA (M.addA (M.addA (M.addA S23 (EnF.at 2 rfl)) (EnF.at 4 rfl)) (EnF.at 6 rfl)) (EnF.at 8 rfl)) 5 rfl) 5 rfl), hf, λ x36 d37 v38 H40 hf (S39 : M (pt d37 (.xd [(x36.fld, v38)]) :: da K v38 x36.val :: oo5 Rs) H40) => ?_, λ m31 H33 hf (S32 : M (R_Rule K a21 m31 :: oo5 Rs) H33) => ?_⟩
 ·
  exact hX x36 d37 v38 _ hf (M.pk S39 7 [0, 1] rfl)
 refine And.intro rfl ?_
 exact hk _ _ _ hf (M.pk S32 6 [0] rfl)
def p_l_made (a_four : (List Int)) (X : Ex -> Prop) (P : ((List Int)) -> Prop) : Prop := (EqOk ((eV eI) (cutL a_four (some 1) none)) /\ EqOk ((eV eI) ([0, 0, 0]))) /\ if (PyData.eqv ((eV eI) (cutL a_four (some 1) none)) ((eV eI) ([0, 0, 0]))) = true then (∃ x10, atI a_four 0 = some x10 /\ p_Rule___init__ (eI x10) (eI 0) (eI 0) (eI 0) (λ x38 => X x38) λ m33 => P m33) else (jn (λ k49 => ∃ x51, atI a_four 0 = some x51 /\ if (decide (x51 = 0)) = true then ((EqOk ((eV eI) (cutL a_four (some 2) none)) /\ EqOk ((eV eI) ([0, 0]))) /\ k49 (PyData.eqv ((eV eI) (cutL a_four (some 2) none)) ((eV eI) ([0, 0])))) else (k49 false)) λ c45 => if c45 = true then (∃ x67, atI a_four 1 = some x67 /\ p_Rule___init__ (eI 0) (eI x67) (eI 0) (eI 0) (λ x95 => X x95) λ m90 => P m90) else (jn (λ k106 => ∃ x108, atI a_four 2 = some x108 /\ if (decide (x108 = 0)) = true then (∃ x113, atI a_four 3 = some x113 /\ k106 (decide (x113 = 0))) else (k106 false)) λ c102 => if c102 = true then (∃ x120, atI a_four 1 = some x120 /\ ∃ x125, atI a_four 0 = some x125 /\ p_Rule___init__ (eI x125) (eI x120) (eI 0) (eI 0) (λ x153 => X x153) λ m148 => P m148) else (∃ x160, atI a_four 0 = some x160 /\ if (decide (x160 = 0)) = true then (∃ x165, atI a_four 3 = some x165 /\ ∃ x170, atI a_four 1 = some x170 /\ ∃ x175, atI a_four 2 = some x175 /\ p_Rule___init__ (eI 0) (eI x170) (eI x175) (eI x165) (λ x203 => X x203) λ m198 => P m198) else (p_l_rule ((eV eI) a_four) (λ x216 => X x216) λ x211 => P x211))))
def sp_l_made (K : Fr) : Sp := λ vs H Q E => ∃ (Rs : List Res) (v_a_four : V) (a_four : (List Int)) (X : Ex -> Prop) (P : ((List Int)) -> Prop), vs = [v_a_four] /\ M (da K v_a_four ((eV eI) a_four) :: Rs) H /\ p_l_made a_four X P /\ (∀ (x : Ex) (d : Addr) (v : V) H', X x -> M (pt d (.xd [(x.fld, v)]) :: da K v x.val :: Rs) H' -> E (.ref (He.ga K x.cls)) (some d) H') /\ ∀ (r : ((List Int))) (p : Addr) H', P r -> M (R_Rule K p r :: Rs) H' -> Q (.ref p) H'
theorem len_l_made {K : Fr} (vs : List V) (H : Hp) (Q : VK) (E : XK) (h : sp_l_made K vs H Q E) : vs.length = 1 := by
 obtain ⟨Rs, v_a_four, a_four, X, P, rfl, _⟩ := h
 rfl
abbrev t_l_made_7 (K : Fr) (W : WX) : TS := (tSeq (tIfS (tTest (tOp (uEq K) (tOp (uIx K) (tVar 0) (tC (.int 0))) (tC (.int 0)))) (tRet (tMakeWN 1 3 W (He.ga K "Rule") (sp_Rule___init__ K) (λ vs zs => vs ++ (pickL [3, 1, 2, 0] (zs ++ [.int 0]))) tNil (tCons (tOp (uIx K) (tVar 0) (tC (.int 3))) (tCons (tOp (uIx K) (tVar 0) (tC (.int 1))) (tCons (tOp (uIx K) (tVar 0) (tC (.int 2))) tNil))))) tNext)
 (tRet (tCallW W (sp_l_rule K) [] (tCons (tVar 0) tNil))))
abbrev t_l_made_5 (K : Fr) (W : WX) : TS := (tSeq (tIfS (tAnd (tTest (tOp (uEq K) (tOp (uIx K) (tVar 0) (tC (.int 2))) (tC (.int 0)))) (tTest (tOp (uEq K) (tOp (uIx K) (tVar 0) (tC (.int 3))) (tC (.int 0))))) (tRet (tMakeWN 1 2 W (He.ga K "Rule") (sp_Rule___init__ K) (λ vs zs => vs ++ (pickL [1, 0, 2, 3] (zs ++ [.int 0, .int 0]))) tNil (tCons (tOp (uIx K) (tVar 0) (tC (.int 1))) (tCons (tOp (uIx K) (tVar 0) (tC (.int 0))) tNil)))) tNext)
 (t_l_made_7 K W))
abbrev t_l_made_3 (K : Fr) (W : WX) : TS := (tSeq (tIfS (tAnd (tTest (tOp (uEq K) (tOp (uIx K) (tVar 0) (tC (.int 0))) (tC (.int 0)))) (tTest (tOp (uEq K) (tSl (rSlA K) (tVar 0) (tPart (tC (.int 2))) tNoPart) (tTup (tCons (tC (.int 0)) (tCons (tC (.int 0)) tNil)))))) (tRet (tMakeWN 1 1 W (He.ga K "Rule") (sp_Rule___init__ K) (λ vs zs => vs ++ (pickL [1, 0, 2, 3] (zs ++ [.int 0, .int 0, .int 0]))) tNil (tCons (tOp (uIx K) (tVar 0) (tC (.int 1))) tNil))) tNext)
 (t_l_made_5 K W))
abbrev t_l_made_1 (K : Fr) (W : WX) : TS := (tSeq (tIfS (tTest (tOp (uEq K) (tSl (rSlA K) (tVar 0) (tPart (tC (.int 1))) tNoPart) (tTup (tCons (tC (.int 0)) (tCons (tC (.int 0)) (tCons (tC (.int 0)) tNil)))))) (tRet (tMakeWN 1 1 W (He.ga K "Rule") (sp_Rule___init__ K) (λ vs zs => vs ++ (zs ++ [.int 0, .int 0, .int 0])) tNil (tCons (tOp (uIx K) (tVar 0) (tC (.int 0))) tNil))) tNext)
 (t_l_made_3 K W))
abbrev t_l_made (K : Fr) (W : WX) : TS := (t_l_made_1 K W)
theorem pure_l_made {K : Fr} (T : TxC K) (vs : List V) (H : Hp) (Q : VK) (E : XK) (h : sp_l_made K vs H Q E) : t_l_made K (WT E) { nx := λ _ H' => Q .non H', rt := Q } (L2.start ["_law_four"] vs) H := by
 obtain ⟨Rs, v_a_four, a_four, X, P, rfl, S0, hf, hX, hk⟩ := h
 show t_l_made K (WT E) _ [some v_a_four] H
 refine g_seq (g_if (g_test (g_op (g_sl (g_var rfl (g_part (g_c (g_int (g_noPart (v_slA S0 0 rfl λ p1 H3 (S2 : M (da K p1 ((eV eI) (cutL a_four (some 1) none)) :: _ :: Rs) H3) => ?_))))))))))
 refine g_tup (g_cons (g_c (g_cons (g_c (g_cons (g_c (g_nil (v_tupq S2 (EnF.consA (EnF.all λ _ => .int _) (EnF.consA (EnF.all λ _ => .int _) (EnF.consA (EnF.all λ _ => .int _) EnF.nilA))) (len_ok rfl) λ p5 H7 (S6 : M (da K (V.ref p5) ((eV eI) [0, 0, 0]) :: oo2 Rs) H7) => ?_))))))))
 obtain ⟨h9, hf⟩ := hf
 refine v_eqq (M.gotA S6 1 rfl) (M.gotA S6 0 rfl) h9.1 h9.2 (g_bl (v_iff hf (λ _ hf => ?_) (λ _ hf => ?_)))
 ·
  refine g_ret (g_makeWN (g_nil (g_cons (g_op (g_var rfl (g_c ?_))))))
  obtain ⟨x10, h11, hf⟩ := hf
  refine v_ixv S6 2 rfl h11 λ u12 S13 => ?_
  obtain rfl := (S13.gotA 0 rfl).intV
  have S14 := S13.tl
  refine g_nil (And.intro rfl (And.intro rfl (v_makeN S14 λ a15 dx16 H18 (S17 : M (pt a15 (.ins (He.ga K "Rule") dx16 []) :: pt dx16 (.own a15) :: oo3 Rs) H18) => ?_)))
  have S21 : M (da K (V.int x10) (eI x10) :: oo5 Rs) H18 := M.addA S17 (EnF.all λ _ => .int (K := K) x10)
  have S23 : M (da K (V.int 0) (eI 0) :: oo6 Rs) H18 := M.addA S21 (EnF.all λ _ => .int (K := K) 0)
  have S25 : M (oo8 Rs) H18 := M.addA S23 (EnF.all λ _ => .int (K := K) 0)
  have S27 : M (oo9 Rs) H18 := M.addA S25 (EnF.all λ _ => .int (K := K) 0)
  refine ⟨_, _, _, _, _, _, _, _, _, _, _, _, _, rfl, (M.at (M.at (M.addA (M.addA (M.addA (M.addA S27 (EnF.at 0 rfl)) (EnF.at 2 rfl)) (EnF.at 4 rfl)) (EnF.at 6 rfl)) 9 rfl) 9 rfl), hf, λ x38 d39 v40 H42 hf (S41 : M (pt d39 (.xd [(x38.fld, v40)]) :: da K v40 x38.val :: oo7 Rs) H42) => ?_, λ m33 H35 hf (S34 : M (R_Rule K a15 m33 :: oo7 Rs) H35) => ?_⟩
  ·
   exact hX x38 d39 v40 _ hf (M.pk S41 9 [0, 1] rfl)
  refine And.intro rfl ?_
  exact hk _ _ _ hf (M.pk S34 8 [0] rfl)
 ·
  refine g_next (g_nx (g_seq (g_if ?_)))
  refine tt_cut hf (λ H => M (da K (V.ref p5) ((eV eI) [0, 0, 0]) :: da K p1 ((eV eI) (cutL a_four (some 1) none)) :: da K v_a_four ((eV eI) a_four) :: Rs) H) (λ kk46 P47 hP48 hf => ?_) ?_
  ·
   refine g_and (g_test (g_op (g_op (g_var rfl (g_c ?_)))))
   obtain ⟨x51, h52, hf⟩ := hf
   refine v_ixv S6 2 rfl h52 λ u53 S54 => ?_
   obtain rfl := (S54.gotA 0 rfl).intV
   have S55 := S54.tl
   refine g_c (v_eqI (g_bl (v_iff hf (λ _ hf => ?_) (λ _ hf => ?_))))
   ·
    refine g_test (g_op (g_sl (g_var rfl (g_part (g_c (g_int (g_noPart (v_slA S55 2 rfl λ p56 H58 (S57 : M (da K p56 ((eV eI) (cutL a_four (some 2) none)) :: oo3 Rs) H58) => ?_))))))))
    refine g_tup (g_cons (g_c (g_cons (g_c (g_nil (v_tupq S57 (EnF.consA (EnF.all λ _ => .int _) (EnF.consA (EnF.all λ _ => .int _) EnF.nilA)) (len_ok rfl) λ p60 H62 (S61 : M (da K (V.ref p60) ((eV eI) [0, 0]) :: oo4 Rs) H62) => ?_))))))
    obtain ⟨h64, hf⟩ := hf
    refine v_eqq (M.gotA S61 1 rfl) (M.gotA S61 0 rfl) h64.1 h64.2 (g_bl ?_)
    exact hP48 _ _ hf (M.pk S61 5 [2, 3, 4] rfl)
   ·
    exact hP48 _ _ hf (M.sub (.cons 0 rfl (.cons 0 rfl (.cons 0 rfl (.refl _)))) S55)
  intro c45 H66 hf S65
  refine v_iff hf (λ _ hf => ?_) (λ _ hf => ?_)
  ·
   refine g_ret (g_makeWN (g_nil (g_cons (g_op (g_var rfl (g_c ?_))))))
   obtain ⟨x67, h68, hf⟩ := hf
   refine v_ixv S65 2 rfl h68 λ u69 S70 => ?_
   obtain rfl := (S70.gotA 0 rfl).intV
   have S71 := S70.tl
   refine g_nil (And.intro rfl (And.intro rfl (v_makeN S71 λ a72 dx73 H75 (S74 : M (pt a72 (.ins (He.ga K "Rule") dx73 []) :: pt dx73 (.own a72) :: da K (V.ref p5) ((eV eI) [0, 0, 0]) :: da K p1 ((eV eI) (cutL a_four (some 1) none)) :: da K v_a_four ((eV eI) a_four) :: Rs) H75) => ?_)))
   have S78 : M (da K (V.int 0) (eI 0) :: oo5 Rs) H75 := M.addA S74 (EnF.all λ _ => .int (K := K) 0)
   have S80 : M (da K (V.int x67) (eI x67) :: oo6 Rs) H75 := M.addA S78 (EnF.all λ _ => .int (K := K) x67)
   have S82 : M (oo8 Rs) H75 := M.addA S80 (EnF.all λ _ => .int (K := K) 0)
   have S84 : M (oo9 Rs) H75 := M.addA S82 (EnF.all λ _ => .int (K := K) 0)
   refine ⟨_, _, _, _, _, _, _, _, _, _, _, _, _, rfl, (M.at (M.at (M.addA (M.addA (M.addA (M.addA S84 (EnF.at 0 rfl)) (EnF.at 2 rfl)) (EnF.at 4 rfl)) (EnF.at 6 rfl)) 9 rfl) 9 rfl), hf, λ x95 d96 v97 H99 hf (S98 : M (pt d96 (.xd [(x95.fld, v97)]) :: da K v97 x95.val :: oo7 Rs) H99) => ?_, λ m90 H92 hf (S91 : M (R_Rule K a72 m90 :: oo7 Rs) H92) => ?_⟩
   ·
    exact hX x95 d96 v97 _ hf (M.pk S98 9 [0, 1] rfl)
   refine And.intro rfl ?_
   exact hk _ _ _ hf (M.pk S91 8 [0] rfl)
  ·
   refine g_next (g_nx (g_seq (g_if ?_)))
   refine tt_cut hf (λ H => M (da K (V.ref p5) ((eV eI) [0, 0, 0]) :: da K p1 ((eV eI) (cutL a_four (some 1) none)) :: da K v_a_four ((eV eI) a_four) :: Rs) H) (λ kk103 P104 hP105 hf => ?_) ?_
   ·
    refine g_and (g_test (g_op (g_op (g_var rfl (g_c ?_)))))
    obtain ⟨x108, h109, hf⟩ := hf
    refine v_ixv S65 2 rfl h109 λ u110 S111 => ?_
    obtain rfl := (S111.gotA 0 rfl).intV
    have S112 := S111.tl
    refine g_c (v_eqI (g_bl (v_iff hf (λ _ hf => ?_) (λ _ hf => ?_))))
    ·
     refine g_test (g_op (g_op (g_var rfl (g_c ?_))))
     obtain ⟨x113, h114, hf⟩ := hf
     refine v_ixv S112 2 rfl h114 λ u115 S116 => ?_
     obtain rfl := (S116.gotA 0 rfl).intV
     have S117 := S116.tl
     refine g_c (v_eqI (g_bl ?_))
     exact hP105 _ _ hf (M.sub (.cons 0 rfl (.cons 0 rfl (.cons 0 rfl (.refl _)))) S117)
    ·
     exact hP105 _ _ hf (M.sub (.cons 0 rfl (.cons 0 rfl (.cons 0 rfl (.refl _)))) S112)
   intro c102 H119 hf S118
   refine v_iff hf (λ _ hf => ?_) (λ _ hf => ?_)
   ·
    refine g_ret (g_makeWN (g_nil (g_cons (g_op (g_var rfl (g_c ?_))))))
    obtain ⟨x120, h121, hf⟩ := hf
    refine v_ixv S118 2 rfl h121 λ u122 S123 => ?_
    obtain rfl := (S123.gotA 0 rfl).intV
    have S124 := S123.tl
    refine g_cons (g_op (g_var rfl (g_c ?_)))
    obtain ⟨x125, h126, hf⟩ := hf
    refine v_ixv S124 2 rfl h126 λ u127 S128 => ?_
    obtain rfl := (S128.gotA 0 rfl).intV
    have S129 := S128.tl
    refine g_nil (And.intro rfl (And.intro rfl (v_makeN S129 λ a130 dx131 H133 (S132 : M (pt a130 (.ins (He.ga K "Rule") dx131 []) :: pt dx131 (.own a130) :: da K (V.ref p5) ((eV eI) [0, 0, 0]) :: da K p1 ((eV eI) (cutL a_four (some 1) none)) :: da K v_a_four ((eV eI) a_four) :: Rs) H133) => ?_)))
    have S136 : M (da K (V.int x125) (eI x125) :: oo5 Rs) H133 := M.addA S132 (EnF.all λ _ => .int (K := K) x125)
    have S138 : M (da K (V.int x120) (eI x120) :: oo6 Rs) H133 := M.addA S136 (EnF.all λ _ => .int (K := K) x120)
    have S140 : M (da K (V.int 0) (eI 0) :: oo7 Rs) H133 := M.addA S138 (EnF.all λ _ => .int (K := K) 0)
    have S142 : M (oo9 Rs) H133 := M.addA S140 (EnF.all λ _ => .int (K := K) 0)
    refine ⟨_, _, _, _, _, _, _, _, _, _, _, _, _, rfl, (M.at (M.at (M.addA (M.addA (M.addA (M.addA S142 (EnF.at 0 rfl)) (EnF.at 2 rfl)) (EnF.at 4 rfl)) (EnF.at 6 rfl)) 9 rfl) 9 rfl), hf, λ x153 d154 v155 H157 hf (S156 : M (pt d154 (.xd [(x153.fld, v155)]) :: da K v155 x153.val :: oo7 Rs) H157) => ?_, λ m148 H150 hf (S149 : M (R_Rule K a130 m148 :: oo7 Rs) H150) => ?_⟩
    ·
     exact hX x153 d154 v155 _ hf (M.pk S156 9 [0, 1] rfl)
    refine And.intro rfl ?_
    exact hk _ _ _ hf (M.pk S149 8 [0] rfl)
   ·
    refine g_next (g_nx (g_seq (g_if (g_test (g_op (g_op (g_var rfl (g_c ?_))))))))
    obtain ⟨x160, h161, hf⟩ := hf
    refine v_ixv S118 2 rfl h161 λ u162 S163 => ?_
    obtain rfl := (S163.gotA 0 rfl).intV
    have S164 := S163.tl
    refine g_c (v_eqI (g_bl (v_iff hf (λ _ hf => ?_) (λ _ hf => ?_))))
    ·
     refine g_ret (g_makeWN (g_nil (g_cons (g_op (g_var rfl (g_c ?_))))))
     obtain ⟨x165, h166, hf⟩ := hf
     refine v_ixv S164 2 rfl h166 λ u167 S168 => ?_
     obtain rfl := (S168.gotA 0 rfl).intV
     have S169 := S168.tl
     refine g_cons (g_op (g_var rfl (g_c ?_)))
     obtain ⟨x170, h171, hf⟩ := hf
     refine v_ixv S169 2 rfl h171 λ u172 S173 => ?_
     obtain rfl := (S173.gotA 0 rfl).intV
     have S174 := S173.tl
     refine g_cons (g_op (g_var rfl (g_c ?_)))
     obtain ⟨x175, h176, hf⟩ := hf
     refine v_ixv S174 2 rfl h176 λ u177 S178 => ?_
     obtain rfl := (S178.gotA 0 rfl).intV
     have S179 := S178.tl
     refine g_nil (And.intro rfl (And.intro rfl (v_makeN S179 λ a180 dx181 H183 (S182 : M (pt a180 (.ins (He.ga K "Rule") dx181 []) :: pt dx181 (.own a180) :: da K (V.ref p5) ((eV eI) [0, 0, 0]) :: da K p1 ((eV eI) (cutL a_four (some 1) none)) :: da K v_a_four ((eV eI) a_four) :: Rs) H183) => ?_)))
     have S186 : M (da K (V.int 0) (eI 0) :: oo5 Rs) H183 := M.addA S182 (EnF.all λ _ => .int (K := K) 0)
     have S188 : M (da K (V.int x170) (eI x170) :: oo6 Rs) H183 := M.addA S186 (EnF.all λ _ => .int (K := K) x170)
     have S190 : M (da K (V.int x175) (eI x175) :: oo7 Rs) H183 := M.addA S188 (EnF.all λ _ => .int (K := K) x175)
     have S192 : M (da K (V.int x165) (eI x165) :: oo8 Rs) H183 := M.addA S190 (EnF.all λ _ => .int (K := K) x165)
     refine ⟨_, _, _, _, _, _, _, _, _, _, _, _, _, rfl, (M.at (M.at (M.addA (M.addA (M.addA (M.addA S192 (EnF.at 0 rfl)) (EnF.at 2 rfl)) (EnF.at 4 rfl)) (EnF.at 6 rfl)) 9 rfl) 9 rfl), hf, λ x203 d204 v205 H207 hf (S206 : M (pt d204 (.xd [(x203.fld, v205)]) :: da K v205 x203.val :: oo7 Rs) H207) => ?_, λ m198 H200 hf (S199 : M (R_Rule K a180 m198 :: oo7 Rs) H200) => ?_⟩
     ·
      exact hX x203 d204 v205 _ hf (M.pk S206 9 [0, 1] rfl)
     refine And.intro rfl ?_
     exact hk _ _ _ hf (M.pk S199 8 [0] rfl)
    ·
     refine g_next (g_nx (g_ret (g_callW (g_cons (g_var rfl (g_nil (⟨_, _, _, _, _, rfl, (M.addA S164 (EnF.at 2 rfl)), hf, λ x216 d217 v218 H220 hf (S219 : M (pt d217 (.xd [(x216.fld, v218)]) :: da K v218 x216.val :: da K (V.ref p5) ((eV eI) [0, 0, 0]) :: da K p1 ((eV eI) (cutL a_four (some 1) none)) :: da K v_a_four ((eV eI) a_four) :: Rs) H220) => ?_, λ x211 u214 H213 hf (S212 : M (R_Rule K u214 x211 :: oo3 Rs) H213) => ?_⟩)))))))
     ·
      exact hX x216 d217 v218 _ hf (M.pk S219 5 [0, 1] rfl)
     exact hk _ _ _ hf (M.pk S212 4 [0] rfl)
def p_Rule___eq__ (a_self : ((List Int))) (a_other : ((List Int))) (P : Bool -> Prop) : Prop := (EqOk ((eV eI) a_self) /\ EqOk ((eV eI) a_other)) /\ P (PyData.eqv ((eV eI) a_self) ((eV eI) a_other))
def sp_Rule___eq___0 (K : Fr) : Sp := λ vs H Q _ => ∃ (Rs : List Res) (p_a_self : Addr) (a_self : ((List Int))) (p_a_other : Addr) (a_other : ((List Int))) (P : Bool -> Prop), vs = [(V.ref p_a_self), (V.ref p_a_other)] /\ M (R_Rule K p_a_self a_self :: R_Rule K p_a_other a_other :: Rs) H /\ p_Rule___eq__ a_self a_other P /\ ∀ (r : Bool) H', P r -> M (R_Rule K p_a_self a_self :: R_Rule K p_a_other a_other :: Rs) H' -> Q (V.bl r) H'
theorem len_Rule___eq___0 {K : Fr} (vs : List V) (H : Hp) (Q : VK) (E : XK) (h : sp_Rule___eq___0 K vs H Q E) : vs.length = 2 := by
 obtain ⟨Rs, p_a_self, a_self, p_a_other, a_other, P, rfl, _⟩ := h
 rfl
def p_Rule___eq___s (a_self : ((List Int))) (P : Bool -> Prop) : Prop := (EqOk ((eV eI) a_self) /\ EqOk ((eV eI) a_self)) /\ P (PyData.eqv ((eV eI) a_self) ((eV eI) a_self))
def sp_Rule___eq___s (K : Fr) : Sp := λ vs H Q _ => ∃ (Rs : List Res) (p_a_self : Addr) (a_self : ((List Int))) (P : Bool -> Prop), vs = [(V.ref p_a_self), (V.ref p_a_self)] /\ M (R_Rule K p_a_self a_self :: Rs) H /\ p_Rule___eq___s a_self P /\ ∀ (r : Bool) H', P r -> M (R_Rule K p_a_self a_self :: Rs) H' -> Q (V.bl r) H'
theorem len_Rule___eq___s {K : Fr} (vs : List V) (H : Hp) (Q : VK) (E : XK) (h : sp_Rule___eq___s K vs H Q E) : vs.length = 2 := by
 obtain ⟨Rs, p_a_self, a_self, P, rfl, _⟩ := h
 rfl
def p_Rule___eq___a (a_self : ((List Int))) (a_other : PyData) (P : Bool -> Prop) : Prop := P false
def sp_Rule___eq___a (K : Fr) : Sp := λ vs H Q _ => ∃ (Rs : List Res) (p_a_self : Addr) (a_self : ((List Int))) (v_a_other : V) (a_other : PyData) (P : Bool -> Prop), vs = [(V.ref p_a_self), v_a_other] /\ M (R_Rule K p_a_self a_self :: da K v_a_other (eA a_other) :: Rs) H /\ p_Rule___eq___a a_self a_other P /\ ∀ (r : Bool) H', P r -> M (R_Rule K p_a_self a_self :: Rs) H' -> Q (V.bl r) H'
theorem len_Rule___eq___a {K : Fr} (vs : List V) (H : Hp) (Q : VK) (E : XK) (h : sp_Rule___eq___a K vs H Q E) : vs.length = 2 := by
 obtain ⟨Rs, p_a_self, a_self, v_a_other, a_other, P, rfl, _⟩ := h
 rfl
def sp_Rule___eq__ (K : Fr) : Sp := λ vs H Q E => sp_Rule___eq___0 K vs H Q E \/ sp_Rule___eq___s K vs H Q E \/ sp_Rule___eq___a K vs H Q E
theorem len_Rule___eq__ {K : Fr} (vs : List V) (H : Hp) (Q : VK) (E : XK) (h : sp_Rule___eq__ K vs H Q E) : vs.length = 2 := h.elim (len_Rule___eq___0 vs H Q E) λ h => h.elim (len_Rule___eq___s vs H Q E) λ h => len_Rule___eq___a vs H Q E h
abbrev t_Rule___eq__ (K : Fr) : TS := (tRet (tAndV (tCB (uIsi K) (tCons (tVar 1) (tCons (tC (.ref (He.ga K "Rule"))) tNil))) (tOp (uEq K) (tFld K (tVar 0) "asked_of") (tFld K (tVar 1) "asked_of"))))
theorem pure_Rule___eq___0 {K : Fr} (T : TxC K) (vs : List V) (H : Hp) (Q : VK) (E : XK) (h : sp_Rule___eq___0 K vs H Q E) : t_Rule___eq__ K { nx := λ _ H' => Q .non H', rt := Q } (L2.start ["self", "other"] vs) H := by
 obtain ⟨Rs, p_a_self, a_self, p_a_other, a_other, P, rfl, S0, hf, hk⟩ := h
 show t_Rule___eq__ K _ [some (V.ref p_a_self), some (V.ref p_a_other)] H
 obtain ⟨dx2, u3, (S1 : M (pt p_a_other (.ins (He.ga K "Rule") dx2 [("asked_of", u3)]) :: pt dx2 (.own p_a_other) :: da K u3 ((eV eI) a_other) :: _ :: Rs) H)⟩ := R_Rule_open (S0.at 1 rfl)
 refine g_ret (g_andV (g_cb (g_cons (g_var rfl (g_cons (g_c (g_nil (v_isI (b := true) (S1.got 0 rfl) T.cl_Rule T.iy_Rule T.ik_Rule_Rule (g_bl ?_)))))))))
 rw [if_pos rfl]
 obtain ⟨dx8, u9, (S7 : M (pt p_a_self (.ins (He.ga K "Rule") dx8 [("asked_of", u9)]) :: pt dx8 (.own p_a_self) :: da K u9 ((eV eI) a_self) :: oo3 Rs) H)⟩ := R_Rule_open (S1.at 3 rfl)
 obtain ⟨h13, hf⟩ := hf
 refine g_op (g_fld (g_var rfl (v_fld (S7.got 0 rfl) T.cl_Rule T.na_Rule_asked_of rfl (g_fld (g_var rfl (v_fld (S7.got 3 rfl) T.cl_Rule T.na_Rule_asked_of rfl (v_eqq (M.gotA S7 2 rfl) (M.gotA S7 5 rfl) h13.1 h13.2 ?_)))))))
 have S14 : M (R_Rule K p_a_other a_other :: oo3 Rs) H := R_Rule_close (M.pk S7 6 [3, 4, 5, 0, 1, 2] rfl)
 have S15 : M (R_Rule K p_a_self a_self :: _ :: Rs) H := R_Rule_close (M.pk S14 4 [1, 2, 3, 0] rfl)
 exact hk _ _ hf (M.pk S15 2 [0, 1] rfl)
theorem pure_Rule___eq___s {K : Fr} (T : TxC K) (vs : List V) (H : Hp) (Q : VK) (E : XK) (h : sp_Rule___eq___s K vs H Q E) : t_Rule___eq__ K { nx := λ _ H' => Q .non H', rt := Q } (L2.start ["self", "other"] vs) H := by
 obtain ⟨Rs, p_a_self, a_self, P, rfl, S0, hf, hk⟩ := h
 show t_Rule___eq__ K _ [some (V.ref p_a_self), some (V.ref p_a_self)] H
 obtain ⟨dx2, u3, (S1 : M (pt p_a_self (.ins (He.ga K "Rule") dx2 [("asked_of", u3)]) :: pt dx2 (.own p_a_self) :: da K u3 ((eV eI) a_self) :: Rs) H)⟩ := R_Rule_open (S0.at 0 rfl)
 refine g_ret (g_andV (g_cb (g_cons (g_var rfl (g_cons (g_c (g_nil (v_isI (b := true) (S1.got 0 rfl) T.cl_Rule T.iy_Rule T.ik_Rule_Rule (g_bl ?_)))))))))
 rw [if_pos rfl]
 obtain ⟨h7, hf⟩ := hf
 refine g_op (g_fld (g_var rfl (v_fld (S1.got 0 rfl) T.cl_Rule T.na_Rule_asked_of rfl (g_fld (g_var rfl (v_fld (S1.got 0 rfl) T.cl_Rule T.na_Rule_asked_of rfl (v_eqq (M.gotA S1 2 rfl) (M.gotA S1 2 rfl) h7.1 h7.2 ?_)))))))
 have S8 : M (R_Rule K p_a_self a_self :: Rs) H := R_Rule_close (M.pk S1 3 [0, 1, 2] rfl)
 exact hk _ _ hf (M.pk S8 1 [0] rfl)
theorem pure_Rule___eq___a {K : Fr} (T : TxC K) (vs : List V) (H : Hp) (Q : VK) (E : XK) (h : sp_Rule___eq___a K vs H Q E) : t_Rule___eq__ K { nx := λ _ H' => Q .non H', rt := Q } (L2.start ["self", "other"] vs) H := by
 obtain ⟨Rs, p_a_self, a_self, v_a_other, a_other, P, rfl, S0, hf, hk⟩ := h
 show t_Rule___eq__ K _ [some (V.ref p_a_self), some v_a_other] H
 refine g_ret (g_andV (g_cb (g_cons (g_var rfl (g_cons (g_c (g_nil (v_isqC (Dq.dn (M.gotA S0 1 rfl)) T.in_Rule (g_bl ?_)))))))))
 rw [if_neg (by simp)]
 exact hk _ _ hf (M.pk S0 2 [0] rfl)
theorem pure_Rule___eq__ {K : Fr} (T : TxC K) (vs : List V) (H : Hp) (Q : VK) (E : XK) (h : sp_Rule___eq__ K vs H Q E) : t_Rule___eq__ K { nx := λ _ H' => Q .non H', rt := Q } (L2.start ["self", "other"] vs) H := h.elim (pure_Rule___eq___0 T vs H Q E) λ h => h.elim (pure_Rule___eq___s T vs H Q E) λ h => pure_Rule___eq___a T vs H Q E h
def p_l_twins (a_four : (List Int)) (P : (List PyData) -> Prop) : Prop := takeD 4 λ n2 => jn (β := (List Int)) (λ k10 => jn (λ k19 => ∃ x21, atI a_four n2 = some x21 /\ if (decide (x21 < 60)) = true then (∃ x26, atI a_four (n2 - 1) = some x26 /\ k19 (decide (0 < x26))) else (k19 false)) λ c15 => if c15 = true then (∃ x33, atI a_four n2 = some x33 /\ ∃ m35, ixN (a_four).length n2 = some m35 /\ ∃ x40, atI (a_four.set m35 (x33 + 1)) (n2 - 1) = some x40 /\ ∃ m42, ixN ((a_four.set m35 (x33 + 1))).length (n2 - 1) = some m42 /\ k10 ((a_four.set m35 (x33 + 1)).set m42 (x40 - 1))) else (k10 a_four)) λ s9 => (((cutL a_four (some 1) none).map eI)).length + (((cutL a_four none (some 1)).map eI)).length <= 100000 /\ P ([(eV eA) (cat ((cutL a_four (some 1) none).map eI) ((cutL a_four none (some 1)).map eI)), (eV eI) (a_four.reverse), (eV eI) s9] : List PyData)
def sp_l_twins (K : Fr) : Sp := λ vs H Q _ => ∃ (Rs : List Res) (a_bag_here : Addr) (v_a_four : V) (a_four : (List Int)) (P : (List PyData) -> Prop), vs = [(V.ref a_bag_here), v_a_four] /\ M (bagR a_bag_here :: da K v_a_four ((eV eI) a_four) :: Rs) H /\ p_l_twins a_four P /\ ∀ (r : (List PyData)) (v : V) H', P r -> M (da K v ((eL eA) r) :: bagR a_bag_here :: Rs) H' -> Q v H'
theorem len_l_twins {K : Fr} (vs : List V) (H : Hp) (Q : VK) (E : XK) (h : sp_l_twins K vs H Q E) : vs.length = 2 := by
 obtain ⟨Rs, a_bag_here, v_a_four, a_four, P, rfl, _⟩ := h
 rfl
abbrev t_l_twins_4 (K : Fr) : TS := (tSeq (tAugS (tVar 3) (tVar 2) (tC (.int 1)) (gIxN K) iAdd uSet)
 (tAugS (tVar 3) (tOp uSub (tVar 2) (tC (.int 1))) (tC (.int 1)) (gIxN K) iSub uSet))
abbrev t_l_twins_3 (K : Fr) : TS := (tSeq (tIfS (tAnd (tTest (tOp uLt (tOp (uIx K) (tVar 1) (tVar 2)) (tC (.int 60)))) (tTest (tOp uGt (tOp (uIx K) (tVar 1) (tOp uSub (tVar 2) (tC (.int 1)))) (tC (.int 0))))) (t_l_twins_4 K) tNext)
 (tRet (tLst (tCons (tOp (rCatA K) (tSl (rSlA K) (tVar 1) (tPart (tC (.int 1))) tNoPart) (tSl (rSlA K) (tVar 1) tNoPart (tPart (tC (.int 1))))) (tCons (tRevT K (tVar 1)) (tCons (tCB (rTupL K) (tCons (tVar 3) tNil)) tNil))))))
abbrev t_l_twins_2 (K : Fr) : TS := (tSeq (tAsg (tCB (rListOf K) (tCons (tVar 1) tNil)) (gName 3))
 (t_l_twins_3 K))
abbrev t_l_twins_1 (K : Fr) : TS := (tSeq (tAsg (tCall (sp_l_take K) [] E0 (tCons (tVar 0) (tCons (tC (.int 4)) tNil))) (gName 2))
 (t_l_twins_2 K))
abbrev t_l_twins (K : Fr) : TS := (t_l_twins_1 K)
theorem pure_l_twins {K : Fr} (vs : List V) (H : Hp) (Q : VK) (E : XK) (h : sp_l_twins K vs H Q E) : t_l_twins K { nx := λ _ H' => Q .non H', rt := Q } (L2.start ["_law_bag_here", "_law_four", "_law_at", "_law_other"] vs) H := by
 obtain ⟨Rs, a_bag_here, v_a_four, a_four, P, rfl, S0, hf, hk⟩ := h
 show t_l_twins K _ [some (V.ref a_bag_here), some v_a_four, none, none] H
 refine g_seq (g_asg (g_call (g_cons (g_var rfl (g_cons (g_c (g_nil ?_)))))))
 obtain ⟨h1, hf⟩ := hf
 refine u_take (S0.at 0 rfl) h1 λ n2 H4 n2l n2u (S3 : M (oo2 Rs) H4) => ?_
 replace hf := hf n2 n2l n2u
 refine g_nx ?_
 show (_ : TS) _ [some (V.ref a_bag_here), some v_a_four, some (V.int n2), none] _
 refine g_seq (g_asg (g_cb (g_cons (g_var rfl (g_nil (v_liq S3 (.inr (EnF.at 1 rfl)) λ p5 H7 (S6 : M (acR K p5 (a_four.map eI) :: oo2 Rs) H7) => ?_))))))
 refine g_nx ?_
 show (_ : TS) _ [some (V.ref a_bag_here), some v_a_four, some (V.int n2), some (V.ref p5)] _
 refine jn_cut (β := (List Int)) hf (λ (s9 : (List Int)) σ H' => σ = [some (V.ref a_bag_here), some v_a_four, some (V.int n2), some (V.ref p5)] /\ M (acR K p5 (s9.map eI) :: bagR a_bag_here :: da K v_a_four ((eV eI) a_four) :: Rs) H') (λ kk11 N12 hN13 hf => ?_) ?_
 ·
  refine g_if ?_
  refine tt_cut hf (λ H => M (acR K p5 (a_four.map eI) :: bagR a_bag_here :: da K v_a_four ((eV eI) a_four) :: Rs) H) (λ kk16 P17 hP18 hf => ?_) ?_
  ·
   refine g_and (g_test (g_op (g_op (g_var rfl (g_var rfl ?_)))))
   obtain ⟨x21, h22, hf⟩ := hf
   refine v_ixv S6 2 rfl h22 λ u23 S24 => ?_
   obtain rfl := (S24.gotA 0 rfl).intV
   have S25 := S24.tl
   refine g_c (v_lt (g_bl (v_iff hf (λ _ hf => ?_) (λ _ hf => ?_))))
   ·
    refine g_test (g_op (g_op (g_var rfl (g_op (g_var rfl (g_c (v_sub ?_)))))))
    obtain ⟨x26, h27, hf⟩ := hf
    refine v_ixv S25 2 rfl h27 λ u28 S29 => ?_
    obtain rfl := (S29.gotA 0 rfl).intV
    have S30 := S29.tl
    refine g_c (v_gt (g_bl ?_))
    exact hP18 _ _ hf (M.sub (.cons 0 rfl (.cons 0 rfl (.cons 0 rfl (.refl _)))) S30)
   ·
    exact hP18 _ _ hf (M.sub (.cons 0 rfl (.cons 0 rfl (.cons 0 rfl (.refl _)))) S25)
  intro c15 H32 hf S31
  refine v_iff hf (λ _ hf => ?_) (λ _ hf => ?_)
  ·
   obtain ⟨x33, h34, hf⟩ := hf
   refine g_seq (g_augS (g_var rfl (g_var rfl (v_gixN S31 0 rfl h34 (g_c (v_iadd ?_))))))
   obtain ⟨m35, h36, hf⟩ := hf
   refine v_setl (e := eI) (x := (x33 + 1)) S31 0 rfl h36 (EnF.all λ _ => .int _) λ H38 (S37 : M (acR K p5 ((a_four.set m35 (x33 + 1)).map eI) :: bagR a_bag_here :: da K v_a_four ((eV eI) a_four) :: Rs) H38) => ?_
   refine g_nx ?_
   show (_ : TS) _ [some (V.ref a_bag_here), some v_a_four, some (V.int n2), some (V.ref p5)] _
   obtain ⟨x40, h41, hf⟩ := hf
   refine g_augS (g_var rfl (g_op (g_var rfl (g_c (v_sub (v_gixN S37 0 rfl h41 (g_c (v_isub ?_))))))))
   obtain ⟨m42, h43, hf⟩ := hf
   refine v_setl (e := eI) (x := (x40 - 1)) S37 0 rfl h43 (EnF.all λ _ => .int _) λ H45 (S44 : M (acR K p5 (((a_four.set m35 (x33 + 1)).set m42 (x40 - 1)).map eI) :: oo2 Rs) H45) => ?_
   exact hN13 _ _ _ hf ⟨rfl, (M.pk S44 3 [0, 1, 2] rfl)⟩
  ·
   refine g_next ?_
   exact hN13 _ _ _ hf ⟨rfl, (M.sub (.cons 0 rfl (.cons 0 rfl (.cons 0 rfl (.refl _)))) S31)⟩
 rintro s9 _ H48 hf ⟨rfl, S47⟩
 refine g_ret (g_lst (g_cons (g_op (g_sl (g_var rfl (g_part (g_c (g_int (g_noPart (v_slA S47 2 rfl λ p49 H51 (S50 : M (da K p49 ((eV eI) (cutL a_four (some 1) none)) :: oo3 Rs) H51) => ?_))))))))))
 refine g_sl (g_var rfl (g_noPart (g_part (g_c (g_int (v_slA S50 3 rfl λ p53 H55 (S54 : M (da K p53 ((eV eI) (cutL a_four none (some 1))) :: oo4 Rs) H55) => ?_))))))
 have S57 : M (da K p49 (eV eA ((cutL a_four (some 1) none).map eI)) :: oo5 Rs) H55 := M.cstA S54 1 rfl (eV_any _ _)
 have S59 : M (da K p53 (eV eA ((cutL a_four none (some 1)).map eI)) :: oo6 Rs) H55 := M.cstA S57 1 rfl (eV_any _ _)
 obtain ⟨h61, hf⟩ := hf
 refine v_catA S59 1 0 rfl rfl h61 λ u62 H64 (S63 : M (da K u62 (eV eA (cat ((cutL a_four (some 1) none).map eI) ((cutL a_four none (some 1)).map eI))) :: oo7 Rs) H64) => ?_
 refine g_cons (g_revT (g_var rfl (v_revT S63 7 rfl λ u66 H68 (S67 : M (da K u66 ((eV eI) (a_four.reverse)) :: oo8 Rs) H68) => ?_)))
 refine g_cons (g_cb (g_cons (g_var rfl (g_nil ?_))))
 have S70 : M (da K (V.ref p5) ((eL eI) s9) :: oo8 Rs) H68 := acR_fixL (S67.at 6 rfl)
 refine v_tupL S70 0 rfl λ p72 H74 (S73 : M (da K (V.ref p72) ((eV eI) s9) :: oo9 Rs) H74) => ?_
 refine g_nil (v_lsto (ds := ([(eV eA) (cat ((cutL a_four (some 1) none).map eI) ((cutL a_four none (some 1)).map eI)), (eV eI) (a_four.reverse), (eV eI) s9] : List PyData).map eA) S73 (EnF.consA (EnF.at 3 rfl) (EnF.consA (EnF.at 2 rfl) (EnF.consA (EnF.at 0 rfl) EnF.nilA))) (len_ok rfl) λ p76 H78 (S77 : M (acR K p76 (([(eV eA) (cat ((cutL a_four (some 1) none).map eI) ((cutL a_four none (some 1)).map eI)), (eV eI) (a_four.reverse), (eV eI) s9] : List PyData).map eA) :: oo10 Rs) H78) => ?_)
 have S80 : M (da K (V.ref p76) ((eL eA) ([(eV eA) (cat ((cutL a_four (some 1) none).map eI) ((cutL a_four none (some 1)).map eI)), (eV eI) (a_four.reverse), (eV eI) s9] : List PyData)) :: oo10 Rs) H78 := acR_fixL S77
 exact hk _ _ _ hf (M.pk S80 11 [0, 9] rfl)
def p_l_refused (a_four : PyData) (P : PyData -> Prop) : Prop := jn (β := PyData) (λ k4 => p_l_rule a_four (λ x17 => (match x17 with | .Wrong w24 => k4 w24)) λ x12 => p_Rule_numbers x12 λ x26 => k4 ((eV eI) x26)) λ s3 => P s3
def sp_l_refused (K : Fr) : Sp := λ vs H Q _ => ∃ (Rs : List Res) (v_a_four : V) (a_four : PyData) (P : PyData -> Prop), vs = [v_a_four] /\ M (da K v_a_four (eA a_four) :: Rs) H /\ p_l_refused a_four P /\ ∀ (r : PyData) (v : V) H', P r -> M (da K v (eA r) :: Rs) H' -> Q v H'
theorem len_l_refused {K : Fr} (vs : List V) (H : Hp) (Q : VK) (E : XK) (h : sp_l_refused K vs H Q E) : vs.length = 1 := by
 obtain ⟨Rs, v_a_four, a_four, P, rfl, _⟩ := h
 rfl
abbrev t_l_refused_2 (K : Fr) : TS := (tSeq (tTry K W0 (λ W => (tAsg (tMethW W0 (He.ga K "Rule") "numbers" (sp_Rule_numbers K) [] (tCallW W (sp_l_rule K) [] (tCons (tVar 0) tNil)) tNil) (gName 1))) [⟨[.ref (He.ga K "Wrong")], some 2, λ a cls d => (tAsg (tXg K a cls d "at" (tVar 2)) (gName 1))⟩])
 (tRet (tVar 1)))
abbrev t_l_refused_1 (K : Fr) : TS := (tSeq (tAsg (tC .non) (gName 1))
 (t_l_refused_2 K))
abbrev t_l_refused (K : Fr) : TS := (t_l_refused_1 K)
theorem pure_l_refused {K : Fr} (T : TxC K) (vs : List V) (H : Hp) (Q : VK) (E : XK) (h : sp_l_refused K vs H Q E) : t_l_refused K { nx := λ _ H' => Q .non H', rt := Q } (L2.start ["_law_four", "_law_found", "e"] vs) H := by
 obtain ⟨Rs, v_a_four, a_four, P, rfl, S0, hf, hk⟩ := h
 show t_l_refused K _ [some v_a_four, none, none] H
 refine g_seq (g_asg (g_c ?_))
 have S1 : M (da K V.non (eN ()) :: _ :: Rs) H := M.addA S0 (EnF.all λ _ => .non)
 refine g_nx ?_
 show (_ : TS) _ [some v_a_four, some V.non, none] _
 refine jn_cut (β := PyData) hf (λ (s3 : PyData) σ H' => ∃ (u8 : V) (o10 : Option V), σ = [some v_a_four, some u8, o10] /\ M (da K u8 (eA s3) :: da K v_a_four (eA a_four) :: Rs) H') (λ kk5 N6 hN7 hf => ?_) ?_
 ·
  refine g_try (g_asg (g_meth (g_callW (g_cons (g_var rfl (g_nil (⟨_, _, _, _, _, rfl, (M.addA S1 (EnF.at 1 rfl)), hf, λ x17 d18 v19 H21 hf (S20 : M (pt d18 (.xd [(x17.fld, v19)]) :: da K v19 x17.val :: oo2 Rs) H21) => ?_, λ x12 u15 H14 hf (S13 : M (R_Rule K u15 x12 :: oo2 Rs) H14) => ?_⟩)))))))
  ·
   cases x17 with
   | Wrong w24 =>
    refine v_hdY (exm_cons T.xm_Wrong_Wrong rfl) λ a25 => ?_
    refine g_asg (g_xgv rfl T.xc_Wrong (chN_ok T.xn_Wrong_at) (S20.got 0 rfl) rfl ?_)
    exact hN7 _ _ _ hf ⟨_, _, rfl, (M.pk S20 4 [1, 3] rfl)⟩
  refine v_R_Rule S13 0 rfl (λ _ _ => rfl) (g_nil (⟨_, _, _, _, rfl, (M.at S13 0 rfl), hf, λ x26 u29 H28 hf (S27 : M (da K u29 ((eV eI) x26) :: oo3 Rs) H28) => ?_⟩))
  exact hN7 _ _ _ hf ⟨_, _, rfl, (M.pk S27 4 [0, 3] rfl)⟩
 rintro s3 _ H32 hf ⟨u8, o10, rfl, S31⟩
 refine g_ret (g_var rfl ?_)
 exact hk _ _ _ hf (M.sub (.cons 0 rfl (.tl (.refl _))) S31)
def p_l_wrong (a_four : (List Int)) (P : Bool -> Prop) : Prop := ∃ x1 : (List PyData), ((eV eI) a_four) = (eV eA) x1 /\ takeD 4 λ n11 => takeD 4 λ n15 => forD (λ (x27 : Int) (s24 : (List PyData)) (k25 : ((List PyData)) -> Prop) => p_l_any ([eB true, eB false, eN (), eS ("3" : Str), eI (-1), eI 61, (eL eI) ([1] : List Int), (eV eA) ([] : List PyData), eI 100000000000000000000, (eD iS eA) ([] : (List (Str × PyData)))] : List PyData) λ x56 => ∃ m61, ixN (s24).length x27 = some m61 /\ k25 (s24.set m61 x56)) ([n11, n15]) x1 λ s24 => ∃ m72, mnI ([n11, n15]) = some m72 /\ ∃ x76, atI ([("last" : Str), ("days" : Str), ("weeks" : Str), ("months" : Str)]) m72 = some x76 /\ ∃ x83, atI ([n11, n15]) 0 = some x83 /\ ((0 : Int) < 2) /\ ((-(2 ^ 62) : Int) <= (1 + (x83 % 2)) /\ (1 + (x83 % 2)) < (2 ^ 62 : Int)) /\ (rng (1 + (x83 % 2))).length <= 100000 /\ lcD (λ (x90 : Int) (k97 : Option Bool -> Prop) => p_l_refused ((eL eA) s24) λ x99 => ((eA x99) = (eS x76) /\ AlkOk (eA x99)) /\ k97 (some true)) (rng (1 + (x83 % 2))) [] λ acc87 => P ((acc87).all id)
def sp_l_wrong (K : Fr) : Sp := λ vs H Q _ => ∃ (Rs : List Res) (a_bag_here : Addr) (v_a_four : V) (a_four : (List Int)) (P : Bool -> Prop), vs = [(V.ref a_bag_here), v_a_four] /\ M (bagR a_bag_here :: da K v_a_four ((eV eI) a_four) :: Rs) H /\ p_l_wrong a_four P /\ ∀ (r : Bool) H', P r -> M (bagR a_bag_here :: Rs) H' -> Q (V.bl r) H'
theorem len_l_wrong {K : Fr} (vs : List V) (H : Hp) (Q : VK) (E : XK) (h : sp_l_wrong K vs H Q E) : vs.length = 2 := by
 obtain ⟨Rs, a_bag_here, v_a_four, a_four, P, rfl, _⟩ := h
 rfl
abbrev t_l_wrong_5 (K : Fr) : TS := (tSeq (tAsg (tOp (uIx K) (tLst (tCons (tC (.str "last")) (tCons (tC (.str "days")) (tCons (tC (.str "weeks")) (tCons (tC (.str "months")) tNil))))) (tCB (rMin K) (tCons (tVar 3) tNil))) (gName 5))
 (tRet (tCB (rAll K) (tCons (tLc (iRng1 (tCons (tOp (uAdd K) (tC (.int 1)) (tOp uMod (tOp (uIx K) (tVar 3) (tC (.int 0))) (tC (.int 2)))) tNil)) (gName 4) tYes (tCall (sp_l_alike K) [] E0 (tCons (tCall (sp_l_refused K) [] E0 (tCons (tVar 2) tNil)) (tCons (tVar 5) tNil))) [4]) tNil))))
abbrev t_l_wrong_3 (K : Fr) : TS := (tSeq (tFor (iList K (tVar 3)) (gName 4) (tAsg (tCall (sp_l_any K) [] E0 (tCons (tVar 0) (tCons (tLst (tCons (tC (.bl true)) (tCons (tC (.bl false)) (tCons (tC .non) (tCons (tC (.str "3")) (tCons (tUn (rU λ i => .int (-i)) (tC (.int 1))) (tCons (tC (.int 61)) (tCons (tLst (tCons (tC (.int 1)) tNil)) (tCons (tTup tNil) (tCons (tOp uPow (tC (.int 10)) (tC (.int 20))) (tCons (tFzE tDNewK) tNil))))))))))) tNil))) (gSub (tVar 2) (tVar 4) uSet)))
 (t_l_wrong_5 K))
abbrev t_l_wrong_2 (K : Fr) : TS := (tSeq (tAsg (tLst (tCons (tCall (sp_l_take K) [] E0 (tCons (tVar 0) (tCons (tC (.int 4)) tNil))) (tCons (tCall (sp_l_take K) [] E0 (tCons (tVar 0) (tCons (tC (.int 4)) tNil))) tNil))) (gName 3))
 (t_l_wrong_3 K))
abbrev t_l_wrong_1 (K : Fr) : TS := (tSeq (tAsg (tCB (rListOf K) (tCons (tVar 1) tNil)) (gName 2))
 (t_l_wrong_2 K))
abbrev t_l_wrong (K : Fr) : TS := (t_l_wrong_1 K)
theorem pure_l_wrong {K : Fr} (vs : List V) (H : Hp) (Q : VK) (E : XK) (h : sp_l_wrong K vs H Q E) : t_l_wrong K { nx := λ _ H' => Q .non H', rt := Q } (L2.start ["_law_bag_here", "_law_four", "_law_odd", "_law_spoilt", "_law_k", "_law_due"] vs) H := by
 obtain ⟨Rs, a_bag_here, v_a_four, a_four, P, rfl, S0, hf, hk⟩ := h
 show t_l_wrong K _ [some (V.ref a_bag_here), some v_a_four, none, none, none, none] H
 refine g_seq (g_asg (g_cb (g_cons (g_var rfl (g_nil ?_)))))
 obtain ⟨x1, h2, hf⟩ := hf
 have S3 := M.cstA S0 1 rfl h2
 refine v_liq S3 (.inr (EnF.at 0 rfl)) λ p5 H7 (S6 : M (acR K p5 (x1.map eA) :: da K v_a_four ((eV eA) x1) :: oo2 Rs) H7) => ?_
 refine g_nx ?_
 show (_ : TS) _ [some (V.ref a_bag_here), some v_a_four, some (V.ref p5), none, none, none] _
 have S9 : M (oo3 Rs) H7 := (M.drp S6 1)
 refine g_seq (g_asg (g_lst (g_cons (g_call (g_cons (g_var rfl (g_cons (g_c (g_nil ?_)))))))))
 obtain ⟨h10, hf⟩ := hf
 refine u_take (S9.at 1 rfl) h10 λ n11 H13 n11l n11u (S12 : M (oo3 Rs) H13) => ?_
 replace hf := hf n11 n11l n11u
 refine g_cons (g_call (g_cons (g_var rfl (g_cons (g_c (g_nil ?_))))))
 obtain ⟨h14, hf⟩ := hf
 refine u_take (S12.at 0 rfl) h14 λ n15 H17 n15l n15u (S16 : M (oo3 Rs) H17) => ?_
 replace hf := hf n15 n15l n15u
 refine g_nil (v_lsto (ds := ([n11, n15]).map eI) S16 (EnF.consA (EnF.all λ _ => .int _) (EnF.consA (EnF.all λ _ => .int _) EnF.nilA)) (len_ok rfl) λ p18 H20 (S19 : M (acR K p18 (([n11, n15]).map eI) :: oo3 Rs) H20) => ?_)
 have S22 : M (da K (V.ref p18) ((eL eI) ([n11, n15])) :: oo3 Rs) H20 := acR_fixL S19
 refine g_nx ?_
 show (_ : TS) _ [some (V.ref a_bag_here), some v_a_four, some (V.ref p5), some (V.ref p18), none, none] _
 refine g_seq (g_for (g_iList (g_var rfl ?_)))
 refine for_N flI (K := K) (β := (List PyData)) hf (λ (s24 : (List PyData)) σ H' => ∃ (o29 : Option V), σ = [some (V.ref a_bag_here), some v_a_four, some (V.ref p5), some (V.ref p18), o29, none] /\ M (acR K p5 (s24.map eA) :: da K (V.ref p18) ((eL eI) ([n11, n15])) :: bagR a_bag_here :: da K v_a_four ((eV eI) a_four) :: Rs) H') ⟨_, rfl, (M.pk S22 4 [2, 0, 1, 3] rfl)⟩ (λ _ _ _ h => by obtain ⟨_, _, S⟩ := h; exact S.gotA 1 rfl) ?_ ?_
 ·
  rintro x27 s24 _ H31 kk26 ⟨o29, rfl, S30⟩ hf
  refine g_name (g_asgX (g_call (g_cons (g_var rfl (g_cons (g_lst (g_cons (g_c (g_cons (g_c (g_cons (g_c (g_cons (g_c (g_cons (g_un (g_c (v_neg (g_cons (g_c (g_cons (g_lst (g_cons (g_c (g_nil (v_lsto (ds := ([1] : List Int).map eI) S30 (EnF.consA (EnF.all λ _ => .int _) EnF.nilA) (len_ok rfl) λ p32 H34 (S33 : M (acR K p32 (([1] : List Int).map eI) :: oo4 Rs) H34) => ?_))))))))))))))))))))))))))
  have S36 : M (da K (V.ref p32) ((eL eI) ([1] : List Int)) :: oo4 Rs) H34 := acR_fixL S33
  refine g_cons (g_tup (g_nil (v_tupq S36 EnF.nilA (len_ok rfl) λ p38 H40 (S39 : M (da K (V.ref p38) (eV eA []) :: oo5 Rs) H40) => ?_)))
  refine g_cons (g_op (g_c (g_c (v_powc (n := 100000000000000000000) (by decide) (by decide) (g_cons (v_dnewo S39 λ p42 H44 (S43 : M (adR K iS eA p42 ([] : (List (Str × PyData))) :: oo6 Rs) H44) => ?_))))))
  refine v_fzD S43 0 rfl λ H47 (S46 : M (da K (V.ref p42) ((eD iS eA) ([] : (List (Str × PyData)))) :: oo6 Rs) H47) => ?_
  refine g_nil (v_lsto (ds := ([eB true, eB false, eN (), eS ("3" : Str), eI (-1), eI 61, (eL eI) ([1] : List Int), (eV eA) ([] : List PyData), eI 100000000000000000000, (eD iS eA) ([] : (List (Str × PyData)))] : List PyData).map eA) S46 (EnF.consA (EnF.all λ _ => .bl _) (EnF.consA (EnF.all λ _ => .bl _) (EnF.consA (EnF.all λ _ => .non) (EnF.consA (EnF.all λ _ => .str _) (EnF.consA (EnF.all λ _ => .int _) (EnF.consA (EnF.all λ _ => .int _) (EnF.consA (EnF.at 2 rfl) (EnF.consA (EnF.at 1 rfl) (EnF.consA (EnF.all λ _ => .int _) (EnF.consA (EnF.at 0 rfl) EnF.nilA)))))))))) (len_ok rfl) λ p49 H51 (S50 : M (acR K p49 (([eB true, eB false, eN (), eS ("3" : Str), eI (-1), eI 61, (eL eI) ([1] : List Int), (eV eA) ([] : List PyData), eI 100000000000000000000, (eD iS eA) ([] : (List (Str × PyData)))] : List PyData).map eA) :: oo7 Rs) H51) => ?_)
  have S53 : M (da K (V.ref p49) ((eL eA) ([eB true, eB false, eN (), eS ("3" : Str), eI (-1), eI 61, (eL eI) ([1] : List Int), (eV eA) ([] : List PyData), eI 100000000000000000000, (eD iS eA) ([] : (List (Str × PyData)))] : List PyData)) :: oo7 Rs) H51 := acR_fixL S50
  refine g_nil (⟨_, _, _, _, _, rfl, (M.at (M.addA S53 (EnF.at 0 rfl)) 7 rfl), hf, λ x56 u59 H58 hf (S57 : M (da K u59 (eA x56) :: oo8 Rs) H58) => ?_⟩)
  refine g_sub (g_var rfl (g_var rfl ?_))
  obtain ⟨m61, h62, hf⟩ := hf
  refine v_setl (e := eA) (x := x56) S57 6 rfl h62 (EnF.at 0 rfl) λ H64 (S63 : M (acR K p5 ((s24.set m61 x56).map eA) :: oo8 Rs) H64) => ?_
  exact ⟨_, hf, _, rfl, (M.pk S63 9 [0, 7, 2, 8] rfl)⟩
 rintro s24 _ H67 hf ⟨o29, rfl, S66⟩
 refine g_nx ?_
 show (_ : TS) _ [some (V.ref a_bag_here), some v_a_four, some (V.ref p5), some (V.ref p18), o29, none] _
 refine g_seq (g_asg (g_op (g_lst (g_cons (g_c (g_cons (g_c (g_cons (g_c (g_cons (g_c (g_nil (v_lsto (ds := ([("last" : Str), ("days" : Str), ("weeks" : Str), ("months" : Str)]).map eS) S66 (EnF.consA (EnF.all λ _ => .str _) (EnF.consA (EnF.all λ _ => .str _) (EnF.consA (EnF.all λ _ => .str _) (EnF.consA (EnF.all λ _ => .str _) EnF.nilA)))) (len_ok rfl) λ p68 H70 (S69 : M (acR K p68 (([("last" : Str), ("days" : Str), ("weeks" : Str), ("months" : Str)]).map eS) :: oo4 Rs) H70) => ?_)))))))))))))
 refine g_cb (g_cons (g_var rfl (g_nil ?_)))
 obtain ⟨m72, h73, hf⟩ := hf
 refine v_min (M.gotA S69 2 rfl) h73 ?_
 have S74 : M (da K (V.ref p68) ((eL eS) ([("last" : Str), ("days" : Str), ("weeks" : Str), ("months" : Str)])) :: oo4 Rs) H70 := acR_fixL S69
 obtain ⟨x76, h77, hf⟩ := hf
 refine v_ixN flS (M.gotA S74 0 rfl) h77 (g_nx ?_)
 show (_ : TS) _ [some (V.ref a_bag_here), some v_a_four, some (V.ref p5), some (V.ref p18), o29, some (V.str x76)] _
 have S78 : M (oo4 Rs) H70 := (M.drp S74 0)
 refine g_ret (g_cb (g_cons ?_))
 have S79 : M (da K (V.ref p5) ((eL eA) s24) :: oo3 Rs) H70 := acR_fixL S78
 obtain ⟨x83, h84, hf⟩ := hf
 obtain ⟨h85, hf⟩ := hf
 obtain ⟨h86, hf⟩ := hf
 refine g_lc (g_iRng1 (g_cons (g_op (g_c (g_op (g_op (g_var rfl (g_c (v_ixN flI (M.gotA S79 1 rfl) h84 (g_c (v_mod h85 (v_add (g_nil (v_itR h86 ?_))))))))))))))
 refine lc_rng (K := K) (e' := eB) hf S79 (λ x90 acc87 E88 H96 kk89 N91 hl92 S95 hf hp93 hn94 => ?_) (λ E88 acc87 H108 hf S107 => ?_)
 ·
  refine g_name (g_wipe rfl (g_yes (v_ifT (g_call (g_cons (g_call (g_cons (g_var rfl (g_nil (⟨_, _, _, _, rfl, (M.addA S95 (EnF.at 1 rfl)), hf, λ x99 u102 H101 hf (S100 : M (da K u102 (eA x99) :: acR K E88 (acc87.map eB) :: oo4 Rs) H101) => ?_⟩))))))))))
  refine g_cons (g_var rfl (g_nil ?_))
  obtain ⟨h104, hf⟩ := hf
  refine ⟨_, _, _, rfl, (Dq.dn (M.gotA S100 0 rfl)), (Dn.by_ h104.1 (.str _)), h104.2, ?_⟩
  refine acR_put S100 1 rfl (EnF.all λ _ => .bl _) hl92 λ H106 (S105 : M (acR K E88 (acc87.map eB ++ [eB true]) :: oo5 Rs) H106) => ?_
  exact hp93 _ _ hf (M.pk S105 6 [0, 2, 3, 4, 5] rfl)
 have S110 : M (da K (V.ref E88) ((eL eB) acc87) :: oo4 Rs) H108 := acR_fixL S107
 refine g_nil (v_all (M.gotA S110 0 rfl) ?_)
 exact hk _ _ hf (M.pk S110 5 [3] rfl)
theorem jn_ok {β : Type} {f : (β -> Prop) -> Prop} {k : β -> Prop} (G : β -> Prop) (h1 : ∀ kk : β -> Prop, (∀ b, G b -> kk b) -> f kk) (h2 : ∀ b, G b -> k b) : jn f k := h1 k h2
def G4 (f : List Int) : Prop := f.length = 4 /\ ∀ n ∈ f, 0 <= n /\ n <= 60
theorem numbers_ok {P : List Int -> Prop} (h : ∀ f, G4 f -> P f) : p_l_numbers P := by
 unfold p_l_numbers
 refine tk (by decide) λ w lw uw => ?_
 obtain ⟨c, hc, e⟩ := atI_ex (xs := ([2, 4, 61] : List Int)) lw (by simp; omega)
 have hb : 2 <= c /\ c <= 61 := by
   simp only [List.mem_cons, List.not_mem_nil, or_false] at hc
   omega
 refine ⟨c, e, by decide, by rw [rng_len]; decide, lcD_all (λ n => 0 <= n /\ n <= 60) (λ x _ kk hk => tk (by omega) λ v lv uv => hk v ⟨lv, by omega⟩) (λ _ z => nomatch z) λ ys hy hl => ⟨by decide, ?_⟩⟩
 rw [rng_len] at hl
 have hl : ys.length = 4 := by simpa using hl
 refine forD_inv (λ _ s => G4 s) (n := 0) ⟨hl, hy⟩ (λ i x s kk hx hi hk => tk (by decide) λ v lv uv => ?_) λ s hi => h s hi
 split
 · have hx0 := rng_mem (List.mem_of_getElem? hx)
   refine ⟨x.toNat, ixN_int hx0.1 (by rw [hi.1]; omega), hk _ ⟨by rw [List.length_set]; exact hi.1, λ n hn => ?_⟩⟩
   rcases List.mem_or_eq_of_mem_set hn with z | z
   · exact hi.2 n z
   · rw [z]
     decide
 · exact hk _ hi
theorem G4.ex {f : List Int} (g : G4 f) : ∃ a b c d, f = [a, b, c, d] /\ (0 <= a /\ a <= 60) /\ (0 <= b /\ b <= 60) /\ (0 <= c /\ c <= 60) /\ (0 <= d /\ d <= 60) := by
 obtain ⟨h1, h2⟩ := g
 match f, h1 with
 | [a, b, c, d], _ => exact ⟨a, b, c, d, rfl, h2 a (by simp), h2 b (by simp), h2 c (by simp), h2 d (by simp)⟩
def NbB (x : PyData) : Prop := ∀ P : Bool -> Prop, P false -> p_is_number_of_blocks x P
def NbG (x : PyData) : Prop := ∀ P : Bool -> Prop, P true -> p_is_number_of_blocks x P
theorem nb_int {n : Int} {P : Bool -> Prop} (h : P (decide (0 <= n) && decide (n <= 60))) : p_is_number_of_blocks (eI n) P := by
 unfold p_is_number_of_blocks p_is_whole jn
 dsimp only
 rw [if_pos (show (isA "int" (eI n) && !isA "bool" (eI n)) = true from rfl)]
 exact ⟨n, rfl, h⟩
theorem NbG.int {n : Int} (g : 0 <= n /\ n <= 60) : NbG (eI n) := λ P h => nb_int (by
 rw [show (decide (0 <= n) && decide (n <= 60)) = true by simp; exact g]
 exact h)
theorem NbB.int {n : Int} (g : n < 0 \/ 60 < n) : NbB (eI n) := λ P h => nb_int (by
 rw [show (decide (0 <= n) && decide (n <= 60)) = false by rw [Bool.and_eq_false_iff, decide_eq_false_iff_not, decide_eq_false_iff_not]; omega]
 exact h)
theorem NbB.no {x : PyData} (h : (isA "int" x && !isA "bool" x) = false) : NbB x := λ P hP => by
 unfold p_is_number_of_blocks p_is_whole jn
 dsimp only
 rw [h, if_neg (by decide)]
 exact hP
theorem told_ok {d : PyData} {X : Ex -> Prop} {P : Unit -> Prop} (h : P ()) : p_as_told d true X P := by
 unfold p_as_told
 rw [if_neg (by decide)]
 exact h
theorem told_no {d : PyData} {X : Ex -> Prop} {P : Unit -> Prop} (h : X (.Wrong d)) : p_as_told d false X P := by
 unfold p_as_told
 rw [if_pos (by decide)]
 exact h
theorem init_ok {a b c d : Int} {X : Ex -> Prop} {P : List Int -> Prop} (ga : 0 <= a /\ a <= 60) (gb : 0 <= b /\ b <= 60) (gc : 0 <= c /\ c <= 60) (gd : 0 <= d /\ d <= 60) (h : P [a, b, c, d]) : p_Rule___init__ (eI a) (eI b) (eI c) (eI d) X P := by
 unfold p_Rule___init__
 simp only [List.zip_cons_cons, List.zip_nil_right, forD]
 refine NbG.int ga _ (told_ok (NbG.int gb _ (told_ok (NbG.int gc _ (told_ok (NbG.int gd _ (told_ok ?_)))))))
 exact ⟨a, rfl, b, rfl, c, rfl, d, rfl, h⟩
def wds : List Str := ["last", "days", "weeks", "months"]
theorem init_no {xs : List PyData} {X : Ex -> Prop} {k : Prop} : ∀ (ws : List Str) (xs : List PyData) (j : Nat) (w : Str), ws.length = xs.length -> (∀ i x, i < j -> xs[i]? = some x -> NbG x) -> (∀ x, xs[j]? = some x -> NbB x) -> ws[j]? = some w -> X (.Wrong (eS w)) ->
   forD (λ (x29 : (Str × PyData)) (s26 : Unit) (k27 : (Unit) -> Prop) => p_is_number_of_blocks x29.2 λ x42 => p_as_told (eS x29.1) x42 (λ x53 => X x53) λ _u49 => k27 ()) (ws.zip xs) () λ s26 => k
 | [], _, j, w, _, _, _, hw, _ => by cases j <;> cases hw
 | v :: ws, [], _, _, hl, _, _, _, _ => by cases hl
 | v :: ws, x :: xs, 0, w, _, _, hb, hw, hX => by
   rw [List.zip_cons_cons, forD]
   refine hb x rfl _ (told_no ?_)
   cases hw
   exact hX
 | v :: ws, x :: xs, j + 1, w, hl, hg, hb, hw, hX => by
   rw [List.zip_cons_cons, forD]
   refine hg 0 x (by omega) rfl _ (told_ok ?_)
   exact init_no (xs := xs) ws xs j w (by simpa using hl) (λ i y hi hy => hg (i + 1) y (by omega) hy) (λ y hy => hb y hy) hw hX
theorem rule_any {f : List Int} {d : PyData} {X : Ex -> Prop} {P : List Int -> Prop} (g : G4 f) (e : d = .tuple (f.map eI) \/ d = .list (f.map eI)) (h : P f) : p_l_rule d X P := by
 obtain ⟨a, b, c, q, rfl, ga, gb, gc, gq⟩ := g.ex
 unfold p_l_rule
 rcases e with rfl | rfl <;> exact ⟨eI a, rfl, eI b, rfl, eI c, rfl, eI q, rfl, init_ok ga gb gc gq h⟩
theorem eqv_VI (xs ys : List Int) : PyData.eqv ((eV eI) xs) ((eV eI) ys) = decide (xs = ys) := eqvA_ints xs ys
theorem cut1 (a b c d : Int) : cutL [a, b, c, d] (some 1) none = [b, c, d] := rfl
theorem cut2 (a b c d : Int) : cutL [a, b, c, d] (some 2) none = [c, d] := rfl
theorem cut1' (a b c d : Int) : cutL [a, b, c, d] none (some 1) = [a] := rfl
theorem four_at (a b c d : Int) : atI [a, b, c, d] 0 = some a /\ atI [a, b, c, d] 1 = some b /\ atI [a, b, c, d] 2 = some c /\ atI [a, b, c, d] 3 = some d := ⟨rfl, rfl, rfl, rfl⟩
theorem made_ok {f : List Int} {X : Ex -> Prop} {P : List Int -> Prop} (g : G4 f) (h : P f) : p_l_made f X P := by
 obtain ⟨a, b, c, d, rfl, ga, gb, gc, gd⟩ := id g.ex
 obtain ⟨e0, e1, e2, e3⟩ := four_at a b c d
 have z : (0 : Int) <= 0 /\ (0 : Int) <= 60 := by decide
 unfold p_l_made
 rw [cut1, cut2, eqv_VI, eqv_VI]
 refine ⟨⟨rfl, rfl⟩, ?_⟩
 by_cases q : [b, c, d] = [0, 0, 0]
 · rw [if_pos (by simpa using q)]
   cases q
   exact ⟨a, e0, init_ok ga z z z h⟩
 rw [if_neg (by simpa using q)]
 refine jn_ok (λ v => v = true -> a = 0 /\ [c, d] = [0, 0]) (λ k hk => ⟨a, e0, ?_⟩) λ v hv => ?_
 · split
   · rename_i y
     exact ⟨⟨rfl, rfl⟩, hk _ λ y2 => ⟨by simpa using y, by simpa using y2⟩⟩
   · exact hk _ λ y2 => by cases y2
 split
 · rename_i y
   obtain ⟨y1, y2⟩ := hv y
   subst y1
   cases y2
   exact ⟨b, e1, init_ok z gb z z h⟩
 refine jn_ok (λ v => v = true -> c = 0 /\ d = 0) (λ k hk => ⟨c, e2, ?_⟩) λ v hv => ?_
 · split
   · rename_i y
     exact ⟨d, e3, hk _ λ y2 => ⟨by simpa using y, by simpa using y2⟩⟩
   · exact hk _ λ y2 => by cases y2
 split
 · rename_i y
   obtain ⟨y1, y2⟩ := hv y
   subst y1 y2
   exact ⟨b, e1, a, e0, init_ok ga gb z z h⟩
 refine ⟨a, e0, ?_⟩
 split
 · rename_i y
   have y : a = 0 := by simpa using y
   subst y
   exact ⟨d, e3, b, e1, c, e2, init_ok z gb gc gd h⟩
 · exact rule_any g (.inl rfl) h
theorem eq_ok {f r : List Int} {P : Bool -> Prop} (gf : G4 f) (gr : G4 r) (h : P (decide (f = r))) : p_Rule___eq__ f r P := by
 obtain ⟨a, b, c, d, rfl, _⟩ := gf.ex
 obtain ⟨a', b', c', d', rfl, _⟩ := gr.ex
 unfold p_Rule___eq__
 refine ⟨⟨rfl, rfl⟩, ?_⟩
 rw [eqv_VI]
 exact h
theorem odd_nb : ∀ x ∈ ([eB true, eB false, eN (), eS ("3" : Str), eI (-1), eI 61, (eL eI) ([1] : List Int), (eV eA) ([] : List PyData), eI 100000000000000000000, (eD iS eA) ([] : (List (Str × PyData)))] : List PyData), NbB x := λ x hx => by
 simp only [List.mem_cons, List.not_mem_nil, or_false] at hx
 rcases hx with rfl | rfl | rfl | rfl | rfl | rfl | rfl | rfl | rfl | rfl
 · exact NbB.no rfl
 · exact NbB.no rfl
 · exact NbB.no rfl
 · exact NbB.no rfl
 · exact NbB.int (.inl (by decide))
 · exact NbB.int (.inr (by decide))
 · exact NbB.no rfl
 · exact NbB.no rfl
 · exact NbB.int (.inr (by decide))
 · exact NbB.no rfl
theorem any_ok {xs : List PyData} {P : PyData -> Prop} (hp : 0 < xs.length) (hl : xs.length <= 1000) (h : ∀ x ∈ xs, P x) : p_l_any xs P := by
 unfold p_l_any
 refine tk (by omega) λ v lv uv => ?_
 obtain ⟨x, hx, e⟩ := atI_ex lv uv
 exact ⟨x, e, h x hx⟩
theorem rule_no {xs : List PyData} {j : Nat} {w : Str} {X : Ex -> Prop} {P : List Int -> Prop} (hl : xs.length = 4) (hg : ∀ i x, i < j -> xs[i]? = some x -> NbG x) (hb : ∀ x, xs[j]? = some x -> NbB x) (hw : wds[j]? = some w) (hX : X (.Wrong (eS w))) : p_l_rule ((eL eA) xs) X P := by
 match xs, hl with
 | [x0, x1, x2, x3], _ =>
   unfold p_l_rule
   refine ⟨x0, rfl, x1, rfl, x2, rfl, x3, rfl, ?_⟩
   unfold p_Rule___init__
   exact init_no (xs := []) wds [x0, x1, x2, x3] j w rfl hg hb hw hX
theorem refused_no {xs : List PyData} {j : Nat} {w : Str} {P : PyData -> Prop} (hl : xs.length = 4) (hg : ∀ i x, i < j -> xs[i]? = some x -> NbG x) (hb : ∀ x, xs[j]? = some x -> NbB x) (hw : wds[j]? = some w) (h : P (eS w)) : p_l_refused ((eL eA) xs) P := by
 unfold p_l_refused jn
 exact rule_no hl hg hb hw h
theorem wd_alk {j : Nat} {w : Str} (hw : wds[j]? = some w) : AlkOk (eA (eS w)) := by
 have hj := (List.getElem?_eq_some_iff.mp hw).1
 have : j < 4 := hj
 have : j = 0 \/ j = 1 \/ j = 2 \/ j = 3 := by omega
 rcases this with rfl | rfl | rfl | rfl <;> (cases hw; exact (ShQ.wd (by decide +kernel)).alk (by decide) (by decide))
theorem wrong_ok {f : List Int} {P : Bool -> Prop} (g : G4 f) (h : P true) : p_l_wrong f P := by
 unfold p_l_wrong
 refine ⟨f.map eI, eV_any eI f, tk (by decide) λ n ln un => tk (by decide) λ m lm um => ?_⟩
 have fl : (f.map eI).length = 4 := by rw [List.length_map]; exact g.1
 simp only [forD]
 refine any_ok (by decide) (by decide) λ x hx => ⟨n.toNat, by rw [fl]; exact ixN_int ln (by omega), any_ok (by decide) (by decide) λ y hy => ⟨m.toNat, by rw [List.length_set, fl]; exact ixN_int lm (by omega), ?_⟩⟩
 have tl : (((f.map eI).set n.toNat x).set m.toNat y).length = 4 := by rw [List.length_set, List.length_set]; exact fl
 have at_ : ∀ k z, (((f.map eI).set n.toNat x).set m.toNat y)[k]? = some z -> (k = m.toNat /\ z = y) \/ (k ≠ m.toNat /\ k = n.toNat /\ z = x) \/ (k ≠ m.toNat /\ k ≠ n.toNat /\ NbG z) := λ k z hz => by
   rw [List.getElem?_set] at hz
   by_cases e : m.toNat = k
   · rw [if_pos e] at hz
     split at hz
     · cases hz
       exact .inl ⟨e.symm, rfl⟩
     · cases hz
   · rw [if_neg e, List.getElem?_set] at hz
     by_cases e2 : n.toNat = k
     · rw [if_pos e2] at hz
       split at hz
       · cases hz
         exact .inr (.inl ⟨λ q => e q.symm, e2.symm, rfl⟩)
       · cases hz
     · rw [if_neg e2] at hz
       obtain ⟨v, hv, rfl⟩ := List.mem_map.mp (List.mem_of_getElem? hz)
       exact .inr (.inr ⟨λ q => e q.symm, λ q => e2 q.symm, NbG.int (g.2 v hv)⟩)
 obtain ⟨w, hw, ha⟩ : ∃ w, wds[(min n m).toNat]? = some w /\ atI wds (min n m) = some w := by
   have : min n m = 0 \/ min n m = 1 \/ min n m = 2 \/ min n m = 3 := by omega
   rcases this with e | e | e | e <;> rw [e] <;> exact ⟨_, rfl, rfl⟩
 refine ⟨min n m, rfl, w, ha, n, rfl, by decide, by omega, by rw [rng_len]; omega, ?_⟩
 refine lcD_all (λ b => b = true) (λ k _ kk hk => ?_) (λ _ z => nomatch z) λ ys hy _ => ?_
 · refine refused_no (j := (min n m).toNat) tl (λ i z hi hz => ?_) (λ z hz => ?_) hw ⟨⟨rfl, wd_alk hw⟩, hk _ rfl⟩
   · rcases at_ i z hz with ⟨e, _⟩ | ⟨_, e, _⟩ | ⟨_, _, e⟩
     · omega
     · omega
     · exact e
   · rcases at_ _ z hz with ⟨_, rfl⟩ | ⟨_, _, rfl⟩ | ⟨e1, e2, _⟩
     · exact odd_nb _ hy
     · exact odd_nb _ hx
     · omega
 · have : ys.all id = true := List.all_eq_true.mpr hy
   rw [this]
   exact h
theorem twins_ok {f : List Int} {P : List PyData -> Prop} (g : G4 f) (h : ∀ ts : List (List Int × PyData), (∀ q ∈ ts, G4 q.1 /\ q.2 = .tuple (q.1.map eI)) -> P (ts.map (·.2))) : p_l_twins f P := by
 unfold p_l_twins
 refine tk (by decide) λ n ln un => jn_ok (λ s => G4 s) (λ k hk => jn_ok (λ c => c = true -> ∃ x y, atI f n = some x /\ x < 60 /\ atI f (n - 1) = some y /\ 0 < y) (λ k2 hk2 => ?_) λ c hc => ?_) λ s hs => ?_
 · obtain ⟨x, hx, e⟩ := atI_ex (xs := f) ln (by rw [g.1]; exact un)
   refine ⟨x, e, ?_⟩
   split
   · rename_i z
     obtain ⟨a, b, c, d, rfl, _⟩ := g.ex
     have : n = 0 \/ n = 1 \/ n = 2 \/ n = 3 := by omega
     rcases this with rfl | rfl | rfl | rfl
     · exact ⟨d, rfl, hk2 _ λ y => ⟨x, d, e, by simpa using z, rfl, by simpa using y⟩⟩
     · exact ⟨a, rfl, hk2 _ λ y => ⟨x, a, e, by simpa using z, rfl, by simpa using y⟩⟩
     · exact ⟨b, rfl, hk2 _ λ y => ⟨x, b, e, by simpa using z, rfl, by simpa using y⟩⟩
     · exact ⟨c, rfl, hk2 _ λ y => ⟨x, c, e, by simpa using z, rfl, by simpa using y⟩⟩
   · exact hk2 _ λ y => by cases y
 · split
   · rename_i z
     obtain ⟨x, y, e1, l1, e2, l2⟩ := hc z
     obtain ⟨a, b, c, d, rfl, ga, gb, gc, gd⟩ := g.ex
     have : n = 0 \/ n = 1 \/ n = 2 \/ n = 3 := by omega
     rcases this with rfl | rfl | rfl | rfl
     · cases e1; cases e2
       exact ⟨_, rfl, _, rfl, _, rfl, _, rfl, hk _ ⟨rfl, λ v hv => by simp at hv; omega⟩⟩
     · cases e1; cases e2
       exact ⟨_, rfl, _, rfl, _, rfl, _, rfl, hk _ ⟨rfl, λ v hv => by simp at hv; omega⟩⟩
     · cases e1; cases e2
       exact ⟨_, rfl, _, rfl, _, rfl, _, rfl, hk _ ⟨rfl, λ v hv => by simp at hv; omega⟩⟩
     · cases e1; cases e2
       exact ⟨_, rfl, _, rfl, _, rfl, _, rfl, hk _ ⟨rfl, λ v hv => by simp at hv; omega⟩⟩
   · exact hk _ g
 · obtain ⟨a, b, c, d, rfl, ga, gb, gc, gd⟩ := g.ex
   rw [cut1, cut1']
   refine ⟨by simp, ?_⟩
   refine h [([b, c, d, a], .tuple ([b, c, d, a].map eI)), ([d, c, b, a], .tuple ([d, c, b, a].map eI)), (s, .tuple (s.map eI))] λ q hq => ?_
   simp only [List.mem_cons, List.not_mem_nil, or_false] at hq
   rcases hq with rfl | rfl | rfl
   · exact ⟨⟨rfl, λ v hv => by simp at hv; omega⟩, rfl⟩
   · exact ⟨⟨rfl, λ v hv => by simp at hv; omega⟩, rfl⟩
   · exact ⟨hs, rfl⟩
structure Tx (n : Nat) (s : Str) : Prop where
 cp : ∀ c ∈ s.cps.toList, c < 0x110000
 ln : s.length <= n
theorem Tx.app {n m : Nat} {s t : Str} (a : Tx n s) (b : Tx m t) : Tx (n + m) (s ++ t) := by
 have e : (s ++ t).cps = s.cps ++ t.cps := rfl
 refine ⟨λ c hc => ?_, ?_⟩
 · rw [e, Array.toList_append] at hc
   exact (List.mem_append.mp hc).elim (a.cp c) (b.cp c)
 · show (s ++ t).cps.size <= n + m
   rw [e, Array.size_append]
   exact Nat.add_le_add a.ln b.ln
def txb (n : Nat) (s : Str) : Bool := (s.cps.toList.all λ c => decide (c < 0x110000)) && decide (s.length <= n)
theorem Tx.of {n : Nat} {s : Str} (h : txb n s = true) : Tx n s := by
 simp only [txb, Bool.and_eq_true, decide_eq_true_eq, List.all_eq_true] at h
 exact ⟨h.1, h.2⟩
theorem fmt_tx {n : Int} (g : 0 <= n /\ n <= 60) : Tx 2 (fmtI n) := by
 have all : ∀ k : Fin 61, txb 2 (fmtI ((k.val : Nat) : Int)) = true := by decide +kernel
 have := all ⟨n.toNat, by omega⟩
 have e : ((n.toNat : Nat) : Int) = n := by omega
 rw [e] at this
 exact Tx.of this
theorem small_log {n : Int} (g : 0 <= n /\ n <= 60) : n.natAbs.log2 < 1920 := Nat.lt_of_le_of_lt (Nat.log2_le_self _) (by omega)
theorem Tx.shq {n : Nat} {s : Str} (h : Tx n s) : ShQ 0 n (.str s) := by
 refine ⟨?_, rfl, ?_, by simp [PyData.depth], h.ln⟩
 · show SeqAt.shaped (.str s) = true
   unfold SeqAt.shaped
   rw [Bool.and_eq_true]
   refine ⟨?_, decide_eq_true (by simp [PyData.depth])⟩
   simp only [PyData.canLay0, PyData.strOk]
   rw [Array.all_eq_true_iff_forall_mem]
   intro c hc
   exact decide_eq_true (h.cp c (Array.mem_toList_iff.mpr hc))
 · show (s.cps.toList.all λ c => decide (c < 16 ^ 8)) = true
   exact List.all_eq_true.mpr λ c hc => decide_eq_true (Nat.lt_trans (h.cp c hc) (by decide))
theorem u_bag {K : Fr} {Rs : List Res} {H : Hp} {a : Addr} {ns : List Int} {Q : VK} {E : XK} (S : M Rs H) (h : Ent Rs (λ H => SqL K H a (ns.map V.int))) (hl : ns.length <= 63) (k : ∀ bag H', M (bagR bag :: Rs) H' -> Q (.ref bag) H') :
   sp_l_bag K ([.ref a] ++ []) H Q E := ⟨Rs, a, ns, rfl, S, h, hl, k⟩
def sp_law (K : Fr) : Sp := λ vs H Q _ => ∃ (a : Addr) (ns : List Int), vs = [.ref a] /\ SqL K H a (ns.map V.int) /\ ns.length <= 63 /\ ∀ H', Q (.bl true) H'
theorem len_law {K : Fr} (vs : List V) (H : Hp) (Q : VK) (E : XK) (h : sp_law K vs H Q E) : vs.length = 1 := by
 obtain ⟨x, y, rfl, _⟩ := h
 rfl
theorem law_start (K : Fr) (H : Hp) (a : Addr) (ns : List Int) (hl : ns.length <= 63) (hS : SqL K H a (ns.map V.int)) : sp_law K [.ref a] H (λ v _ => v = .bl true) λ _ _ _ => False := ⟨a, ns, rfl, hS, hl, λ _ => rfl⟩
def p_law (P : Bool -> Prop) : Prop := (((eT3 eI eI eI) (24, 168, 672)) = ((eT3 eI eI eI) (24, 168, 672)) /\ AlkOk ((eT3 eI eI eI) (24, 168, 672))) /\ p_Rule___init__ (eI 0) (eI 0) (eI 0) (eI 0) (λ x33 => False) λ m28 => p_Rule_numbers m28 λ x40 => p_Rule___init__ (eI 0) (eI 0) (eI 0) (eI 0) (λ x68 => False) λ m63 => p_Rule___repr__ m63 λ x76 => (((eL eA) ([(eV eI) x40, eS x76] : List PyData)) = ((eL eA) ([(eT4 eI eI eI eI) (0, 0, 0, 0), eS ("Rule(last=0, days=0, weeks=0, months=0)" : Str)] : List PyData)) /\ AlkOk ((eL eA) ([(eV eI) x40, eS x76] : List PyData))) /\ ((-(2 ^ 62) : Int) <= 6 /\ 6 < (2 ^ 62 : Int)) /\ forD (λ (x98 : Int) (s95 : Unit) (k96 : (Unit) -> Prop) => p_l_numbers λ x110 => p_l_made x110 (λ x121 => False) λ x116 => ((Str.empty ++ ("Rule(last=" : Str))).length <= sizeLine /\ ∃ x129, atI x110 0 = some x129 /\ (x129).natAbs.log2 < 1920 /\ (((Str.empty ++ ("Rule(last=" : Str)) ++ (fmtI x129))).length <= sizeLine /\ ((((Str.empty ++ ("Rule(last=" : Str)) ++ (fmtI x129)) ++ (", days=" : Str))).length <= sizeLine /\ ∃ x137, atI x110 1 = some x137 /\ (x137).natAbs.log2 < 1920 /\ (((((Str.empty ++ ("Rule(last=" : Str)) ++ (fmtI x129)) ++ (", days=" : Str)) ++ (fmtI x137))).length <= sizeLine /\ ((((((Str.empty ++ ("Rule(last=" : Str)) ++ (fmtI x129)) ++ (", days=" : Str)) ++ (fmtI x137)) ++ (", weeks=" : Str))).length <= sizeLine /\ ∃ x145, atI x110 2 = some x145 /\ (x145).natAbs.log2 < 1920 /\ (((((((Str.empty ++ ("Rule(last=" : Str)) ++ (fmtI x129)) ++ (", days=" : Str)) ++ (fmtI x137)) ++ (", weeks=" : Str)) ++ (fmtI x145))).length <= sizeLine /\ ((((((((Str.empty ++ ("Rule(last=" : Str)) ++ (fmtI x129)) ++ (", days=" : Str)) ++ (fmtI x137)) ++ (", weeks=" : Str)) ++ (fmtI x145)) ++ (", months=" : Str))).length <= sizeLine /\ ∃ x153, atI x110 3 = some x153 /\ (x153).natAbs.log2 < 1920 /\ (((((((((Str.empty ++ ("Rule(last=" : Str)) ++ (fmtI x129)) ++ (", days=" : Str)) ++ (fmtI x137)) ++ (", weeks=" : Str)) ++ (fmtI x145)) ++ (", months=" : Str)) ++ (fmtI x153))).length <= sizeLine /\ ((((((((((Str.empty ++ ("Rule(last=" : Str)) ++ (fmtI x129)) ++ (", days=" : Str)) ++ (fmtI x137)) ++ (", weeks=" : Str)) ++ (fmtI x145)) ++ (", months=" : Str)) ++ (fmtI x153)) ++ (")" : Str))).length <= sizeLine /\ takeD 61 λ n166 => takeD 4 λ n170 => ∃ m173, ixN (x110).length n170 = some m173 /\ (EqOk ((eV eI) (x110.set m173 n166)) /\ EqOk ((eV eI) x110)) /\ p_l_rule ((eL eI) (x110.set m173 n166)) (λ x192 => False) λ x187 => p_Rule___eq__ x116 x187 λ x201 => p_l_rule ((eL eI) (x110.set m173 n166)) (λ x211 => False) λ x206 => p_Rule___eq__ x116 x206 λ x220 => p_l_rule ((eV eI) x110) (λ x230 => False) λ x225 => p_Rule___eq__ x116 x225 λ x239 => p_l_made x110 (λ x249 => False) λ x244 => p_Rule___eq__ x116 x244 λ x258 => (((eL eB) ([x201, (!x220), x239, (!x258)])) = ((eL eB) ([(PyData.eqv ((eV eI) (x110.set m173 n166)) ((eV eI) x110)), (!(PyData.eqv ((eV eI) (x110.set m173 n166)) ((eV eI) x110))), true, false])) /\ AlkOk ((eL eB) ([x201, (!x220), x239, (!x258)]))) /\ p_l_twins x110 λ x274 => forD (λ (x292 : PyData) (s289 : Unit) (k290 : (Unit) -> Prop) => p_l_rule x292 (λ x304 => False) λ x299 => p_Rule___eq__ x116 x299 λ x313 => p_l_rule x292 (λ x323 => False) λ x318 => p_Rule___eq__ x318 x116 λ x332 => (EqOk (eA x292) /\ EqOk ((eV eI) x110)) /\ (EqOk (eA x292) /\ EqOk ((eV eI) x110)) /\ (((eL eB) ([x313, (!x332)])) = ((eL eB) ([(PyData.eqv (eA x292) ((eV eI) x110)), (!PyData.eqv (eA x292) ((eV eI) x110))])) /\ AlkOk ((eL eB) ([x313, (!x332)]))) /\ k290 ()) x274 () λ s289 => forD (λ (x374 : PyData) (s371 : Unit) (k372 : (Unit) -> Prop) => p_Rule___eq___a x116 x374 λ x383 => p_Rule___eq___a x116 x374 λ x390 => (((eL eB) ([x383, (!x390)])) = ((eL eB) ([false, true])) /\ AlkOk ((eL eB) ([x383, (!x390)]))) /\ k372 ()) ([eN (), (eV eI) x110, (eL eI) x110, eS (((((((((Str.empty ++ ("Rule(last=" : Str)) ++ (fmtI x129)) ++ (", days=" : Str)) ++ (fmtI x137)) ++ (", weeks=" : Str)) ++ (fmtI x145)) ++ (", months=" : Str)) ++ (fmtI x153)) ++ (")" : Str)), eI 5, eB true] : List PyData) () λ s371 => jn (λ k410 => p_l_wrong x110 λ x413 => if (!x413) = true then (k410 true) else (p_Rule_numbers x116 λ x417 => p_Rule___repr__ x116 λ x423 => (((eL eA) ([(eV eI) x417, eS x423] : List PyData)) = ((eL eA) ([(eV eI) x110, eS (((((((((Str.empty ++ ("Rule(last=" : Str)) ++ (fmtI x129)) ++ (", days=" : Str)) ++ (fmtI x137)) ++ (", weeks=" : Str)) ++ (fmtI x145)) ++ (", months=" : Str)) ++ (fmtI x153)) ++ (")" : Str))] : List PyData)) /\ AlkOk ((eL eA) ([(eV eI) x417, eS x423] : List PyData))) /\ k410 (!true))) λ c406 => if c406 = true then (P false) else (k96 ())) (rng 6) () λ s95 => P true
def Sh (a b c d : Int) : Str := ((((((((Str.empty ++ ("Rule(last=" : Str)) ++ (fmtI a)) ++ (", days=" : Str)) ++ (fmtI b)) ++ (", weeks=" : Str)) ++ (fmtI c)) ++ (", months=" : Str)) ++ (fmtI d)) ++ (")" : Str)
theorem ge {n : Nat} {s : Str} (t : Tx n s) (h : n <= 60) : s.length <= sizeLine := Nat.le_trans t.ln (Nat.le_trans h (by decide))
structure ShT (a b c d : Int) : Prop where
 t1 : Tx 10 (Str.empty ++ ("Rule(last=" : Str))
 t2 : Tx 12 ((Str.empty ++ ("Rule(last=" : Str)) ++ (fmtI a))
 t3 : Tx 19 (((Str.empty ++ ("Rule(last=" : Str)) ++ (fmtI a)) ++ (", days=" : Str))
 t4 : Tx 21 ((((Str.empty ++ ("Rule(last=" : Str)) ++ (fmtI a)) ++ (", days=" : Str)) ++ (fmtI b))
 t5 : Tx 29 (((((Str.empty ++ ("Rule(last=" : Str)) ++ (fmtI a)) ++ (", days=" : Str)) ++ (fmtI b)) ++ (", weeks=" : Str))
 t6 : Tx 31 ((((((Str.empty ++ ("Rule(last=" : Str)) ++ (fmtI a)) ++ (", days=" : Str)) ++ (fmtI b)) ++ (", weeks=" : Str)) ++ (fmtI c))
 t7 : Tx 40 (((((((Str.empty ++ ("Rule(last=" : Str)) ++ (fmtI a)) ++ (", days=" : Str)) ++ (fmtI b)) ++ (", weeks=" : Str)) ++ (fmtI c)) ++ (", months=" : Str))
 t8 : Tx 42 ((((((((Str.empty ++ ("Rule(last=" : Str)) ++ (fmtI a)) ++ (", days=" : Str)) ++ (fmtI b)) ++ (", weeks=" : Str)) ++ (fmtI c)) ++ (", months=" : Str)) ++ (fmtI d))
 t9 : Tx 43 (Sh a b c d)
theorem sh_ok {a b c d : Int} (ga : 0 <= a /\ a <= 60) (gb : 0 <= b /\ b <= 60) (gc : 0 <= c /\ c <= 60) (gd : 0 <= d /\ d <= 60) : ShT a b c d := by
 have t1 : Tx 10 (Str.empty ++ ("Rule(last=" : Str)) := Tx.of (by decide +kernel)
 have t2 := t1.app (fmt_tx ga)
 have t3 := t2.app (Tx.of (n := 7) (s := (", days=" : Str)) (by decide +kernel))
 have t4 := t3.app (fmt_tx gb)
 have t5 := t4.app (Tx.of (n := 8) (s := (", weeks=" : Str)) (by decide +kernel))
 have t6 := t5.app (fmt_tx gc)
 have t7 := t6.app (Tx.of (n := 9) (s := (", months=" : Str)) (by decide +kernel))
 have t8 := t7.app (fmt_tx gd)
 have t9 := t8.app (Tx.of (n := 1) (s := (")" : Str)) (by decide +kernel))
 exact ⟨t1, t2, t3, t4, t5, t6, t7, t8, t9⟩
theorem repr_ok {a b c d : Int} {P : Str -> Prop} (ga : 0 <= a /\ a <= 60) (gb : 0 <= b /\ b <= 60) (gc : 0 <= c /\ c <= 60) (gd : 0 <= d /\ d <= 60) (h : P (Sh a b c d)) : p_Rule___repr__ [a, b, c, d] P := by
 have s := sh_ok ga gb gc gd
 unfold p_Rule___repr__
 exact ⟨(a, b, c, d), rfl, ge s.t1 (by decide), small_log ga, ge s.t2 (by decide), ge s.t3 (by decide), small_log gb, ge s.t4 (by decide), ge s.t5 (by decide), small_log gc, ge s.t6 (by decide), ge s.t7 (by decide), small_log gd, ge s.t8 (by decide), ge s.t9 (by decide), h⟩
theorem ints_shq {xs : List Int} (h : ∀ n ∈ xs, 0 <= n /\ n <= 1000) : ShQ 1 (xs.length * 1) (.tuple (xs.map eI)) := by
 have := ShQ.tup (dp := 0) (bk := 0) (ds := xs.map eI) (λ d hd => by
   obtain ⟨n, hn, rfl⟩ := List.mem_map.mp hd
   refine ShQ.int ?_
   have := h n hn
   have e : (1001 : Nat) < 2 ^ 1000 := Nat.lt_of_lt_of_le (show 1001 < 2 ^ 200 by decide) (Nat.pow_le_pow_right (by decide) (by decide))
   omega)
 rw [List.length_map] at this
 exact this
theorem pair_alk {f : List Int} {s : Str} (g : G4 f) (t : Tx 43 s) : AlkOk ((eL eA) ([(eV eI) f, eS s] : List PyData)) := by
 have h1 : ShQ 1 43 ((eV eI) f) := (ints_shq λ n hn => by have := g.2 n hn; omega).up (Nat.le_refl _) (by rw [g.1]; decide)
 have h2 : ShQ 1 43 (.str s) := t.shq.up (by decide) (Nat.le_refl _)
 exact (ShQ.list (dp := 1) (bk := 43) (ds := [(eV eI) f, .str s]) (λ d hd => by
   simp only [List.mem_cons, List.not_mem_nil, or_false] at hd
   rcases hd with rfl | rfl
   · exact h1
   · exact h2)).alk (by decide) (by show 2 * (43 + 1) <= 40000; decide)
theorem bools_alk (bs : List Bool) (h : bs.length <= 10) : AlkOk ((eL eB) bs) := (ShQ.list (dp := 0) (bk := 0) (ds := bs.map eB) (λ d hd => by
 obtain ⟨b, _, rfl⟩ := List.mem_map.mp hd
 exact ShQ.bl b)).alk (by decide) (by rw [List.length_map]; omega)
theorem law_plain : p_law (λ b => b = true) := by
 have z : (0 : Int) <= 0 /\ (0 : Int) <= 60 := by decide
 have g0 : G4 [0, 0, 0, 0] := ⟨rfl, λ n hn => by simp at hn; omega⟩
 unfold p_law
 refine ⟨⟨rfl, (ints_shq (xs := [24, 168, 672]) (λ n hn => by simp at hn; omega)).alk (by decide) (by decide)⟩, init_ok z z z z ?_⟩
 unfold p_Rule_numbers
 refine init_ok z z z z (repr_ok z z z z ⟨⟨?_, pair_alk g0 (sh_ok z z z z).t9⟩, by decide, ?_⟩)
 · have e : Sh 0 0 0 0 = ("Rule(last=0, days=0, weeks=0, months=0)" : Str) := by decide +kernel
   rw [e]
   rfl
 refine forD_inv (λ _ _ => True) (n := 0) trivial (λ i x s kk _ _ hk => numbers_ok λ f g => made_ok g ?_) λ _ _ => rfl
 obtain ⟨a, b, c, d, rfl, ga, gb, gc, gd⟩ := id g.ex
 obtain ⟨e0, e1, e2, e3⟩ := four_at a b c d
 have S := sh_ok ga gb gc gd
 refine ⟨ge S.t1 (by decide), a, e0, small_log ga, ge S.t2 (by decide), ge S.t3 (by decide), b, e1, small_log gb, ge S.t4 (by decide), ge S.t5 (by decide), c, e2, small_log gc, ge S.t6 (by decide), ge S.t7 (by decide), d, e3, small_log gd, ge S.t8 (by decide), ge S.t9 (by decide), ?_⟩
 refine tk (by decide) λ n ln un => tk (by decide) λ m lm um => ⟨m.toNat, ixN_int lm (by show m < ((4 : Nat) : Int); omega), ?_⟩
 have gr : G4 ([a, b, c, d].set m.toNat n) := ⟨by rw [List.length_set]; rfl, λ v hv => by
   rcases List.mem_or_eq_of_mem_set hv with z | z
   · exact g.2 v z
   · rw [z]; omega⟩
 generalize [a, b, c, d].set m.toNat n = r at gr
 have er : EqOk ((eV eI) r) := by
   obtain ⟨a', b', c', d', rfl, _⟩ := gr.ex
   rfl
 refine ⟨⟨er, rfl⟩, rule_any gr (.inr rfl) (eq_ok g gr (rule_any gr (.inr rfl) (eq_ok g gr (rule_any g (.inl rfl) (eq_ok g g (made_ok g (eq_ok g g ?_)))))))⟩
 refine ⟨⟨?_, bools_alk _ (by simp)⟩, twins_ok g λ ts hts => ?_⟩
 · rw [eqv_VI]
   have e : decide (r = [a, b, c, d]) = decide ([a, b, c, d] = r) := by
     rw [Bool.eq_iff_iff]
     simp only [decide_eq_true_eq]
     exact ⟨λ h => h.symm, λ h => h.symm⟩
   rw [e, decide_eq_true (rfl : [a, b, c, d] = [a, b, c, d])]
   rfl
 refine forD_inv (λ _ _ => True) (n := 0) trivial (λ i x s k2 hx _ hk2 => ?_) λ _ _ => ?_
 · obtain ⟨q, hq, rfl⟩ := List.mem_map.mp (List.mem_of_getElem? hx)
   obtain ⟨gq, eq⟩ := hts q hq
   rw [eq]
   have eo : EqOk (eA (.tuple (q.1.map eI))) := by
     obtain ⟨a', b', c', d', e, _⟩ := gq.ex
     rw [e]
     rfl
   refine rule_any gq (.inl rfl) (eq_ok g gq (rule_any gq (.inl rfl) (eq_ok gq g ⟨⟨eo, rfl⟩, ⟨eo, rfl⟩, ⟨?_, bools_alk _ (by simp)⟩, hk2 () trivial⟩)))
   have e1 : PyData.eqv (eA (.tuple (q.1.map eI))) ((eV eI) [a, b, c, d]) = decide (q.1 = [a, b, c, d]) := eqv_VI _ _
   have e : decide (q.1 = [a, b, c, d]) = decide ([a, b, c, d] = q.1) := by
     rw [Bool.eq_iff_iff]
     simp only [decide_eq_true_eq]
     exact ⟨λ h => h.symm, λ h => h.symm⟩
   rw [e1, e]
 refine forD_inv (λ _ _ => True) (n := 0) trivial (λ i x s k2 hx _ hk2 => ?_) λ _ _ => ?_
 · unfold p_Rule___eq___a
   exact ⟨⟨rfl, bools_alk _ (by simp)⟩, hk2 () trivial⟩
 refine jn_ok (λ v => v = false) (λ k hk3 => wrong_ok g ?_) λ v hv => ?_
 · rw [if_neg (by decide)]
   exact repr_ok ga gb gc gd ⟨⟨rfl, pair_alk g S.t9⟩, hk3 _ rfl⟩
 · rw [hv, if_neg (by decide)]
   exact hk () trivial
abbrev t_law_17 (K : Fr) : TS := (tIfS (tNot (tB (tCall (sp_l_alike K) [] E0 (tCons (tLst (tCons (tOp (uEqI K (He.ga K "Rule") (sp_Rule___eq__ K)) (tVar 4) (tCallW W0 (sp_l_rule K) [] (tCons (tVar 9) tNil))) (tCons (tOp (uNeI K (He.ga K "Rule") (sp_Rule___eq__ K)) (tCallW W0 (sp_l_rule K) [] (tCons (tVar 9) tNil)) (tVar 4)) tNil))) (tCons (tLst (tCons (tOp (uEq K) (tVar 9) (tVar 3)) (tCons (tOp (uNe K) (tVar 9) (tVar 3)) tNil))) tNil))))) (tRet (tC (.bl false))) tNext)
abbrev t_law_20 (K : Fr) : TS := (tIfS (tNot (tB (tCall (sp_l_alike K) [] E0 (tCons (tLst (tCons (tOp (uEqI K (He.ga K "Rule") (sp_Rule___eq__ K)) (tVar 4) (tVar 10)) (tCons (tOp (uNeI K (He.ga K "Rule") (sp_Rule___eq__ K)) (tVar 4) (tVar 10)) tNil))) (tCons (tLst (tCons (tC (.bl false)) (tCons (tC (.bl true)) tNil))) tNil))))) (tRet (tC (.bl false))) tNext)
abbrev t_law_22 (K : Fr) : TS := (tIfS (tOr (tNot (tB (tCall (sp_l_wrong K) [] E0 (tCons (tVar 1) (tCons (tVar 3) tNil))))) (tNot (tB (tCall (sp_l_alike K) [] E0 (tCons (tLst (tCons (tMethW W0 (He.ga K "Rule") "numbers" (sp_Rule_numbers K) [] (tVar 4) tNil) (tCons (tCB (rReprI (He.ga K "Rule") (sp_Rule___repr__ K)) (tCons (tVar 4) tNil)) tNil))) (tCons (tLst (tCons (tVar 3) (tCons (tVar 5) tNil))) tNil)))))) (tRet (tC (.bl false))) tNext)
abbrev t_law_19 (K : Fr) : TS := (tSeq (tFor (iList K (tLst (tCons (tC .non) (tCons (tVar 3) (tCons (tCB (rListOf K) (tCons (tVar 3) tNil)) (tCons (tVar 5) (tCons (tC (.int 5)) (tCons (tC (.bl true)) tNil)))))))) (gName 10) (t_law_20 K))
 (t_law_22 K))
abbrev t_law_16 (K : Fr) : TS := (tSeq (tFor (iList K (tCall (sp_l_twins K) [] E0 (tCons (tVar 1) (tCons (tVar 3) tNil)))) (gName 9) (t_law_17 K))
 (t_law_19 K))
abbrev t_law_14 (K : Fr) : TS := (tSeq (tIfS (tNot (tB (tCall (sp_l_alike K) [] E0 (tCons (tVar 8) (tCons (tLst (tCons (tVar 7) (tCons (tNotV (tVar 7)) (tCons (tC (.bl true)) (tCons (tC (.bl false)) tNil))))) tNil))))) (tRet (tC (.bl false))) tNext)
 (t_law_16 K))
abbrev t_law_13 (K : Fr) : TS := (tSeq (tAsg (tLst (tCons (tOp (uEqI K (He.ga K "Rule") (sp_Rule___eq__ K)) (tVar 4) (tCallW W0 (sp_l_rule K) [] (tCons (tVar 6) tNil))) (tCons (tOp (uNeI K (He.ga K "Rule") (sp_Rule___eq__ K)) (tVar 4) (tCallW W0 (sp_l_rule K) [] (tCons (tVar 6) tNil))) (tCons (tOp (uEqI K (He.ga K "Rule") (sp_Rule___eq__ K)) (tVar 4) (tCallW W0 (sp_l_rule K) [] (tCons (tVar 3) tNil))) (tCons (tOp (uNeI K (He.ga K "Rule") (sp_Rule___eq__ K)) (tVar 4) (tCallW W0 (sp_l_made K) [] (tCons (tVar 3) tNil))) tNil))))) (gName 8))
 (t_law_14 K))
abbrev t_law_12 (K : Fr) : TS := (tSeq (tAsg (tOp (uEq K) (tCB (rTupL K) (tCons (tVar 6) tNil)) (tVar 3)) (gName 7))
 (t_law_13 K))
abbrev t_law_11 (K : Fr) : TS := (tSeq (tAsg (tCall (sp_l_take K) [] E0 (tCons (tVar 1) (tCons (tC (.int 61)) tNil))) (gSub (tVar 6) (tCall (sp_l_take K) [] E0 (tCons (tVar 1) (tCons (tC (.int 4)) tNil))) uSet))
 (t_law_12 K))
abbrev t_law_10 (K : Fr) : TS := (tSeq (tAsg (tCB (rListOf K) (tCons (tVar 3) tNil)) (gName 6))
 (t_law_11 K))
abbrev t_law_9 (K : Fr) : TS := (tSeq (tAsg (tFst [(tC (.str "Rule(last=")), (tFmt (tOp (uIx K) (tVar 3) (tC (.int 0)))), (tC (.str ", days=")), (tFmt (tOp (uIx K) (tVar 3) (tC (.int 1)))), (tC (.str ", weeks=")), (tFmt (tOp (uIx K) (tVar 3) (tC (.int 2)))), (tC (.str ", months=")), (tFmt (tOp (uIx K) (tVar 3) (tC (.int 3)))), (tC (.str ")"))]) (gName 5))
 (t_law_10 K))
abbrev t_law_8 (K : Fr) : TS := (tSeq (tAsg (tCallW W0 (sp_l_made K) [] (tCons (tVar 3) tNil)) (gName 4))
 (t_law_9 K))
abbrev t_law_7 (K : Fr) : TS := (tSeq (tAsg (tCall (sp_l_numbers K) [] E0 (tCons (tVar 1) tNil)) (gName 3))
 (t_law_8 K))
abbrev t_law_6 (K : Fr) : TS := (tSeq (tFor (iRng1 (tCons (tC (.int 6)) tNil)) (gName 2) (t_law_7 K))
 (tRet (tC (.bl true))))
abbrev t_law_4 (K : Fr) : TS := (tSeq (tIfS (tNot (tB (tCall (sp_l_alike K) [] E0 (tCons (tLst (tCons (tMethW W0 (He.ga K "Rule") "numbers" (sp_Rule_numbers K) [] (tMakeW W0 (He.ga K "Rule") (sp_Rule___init__ K) [.int 0, .int 0, .int 0, .int 0] tNil) tNil) (tCons (tCB (rReprI (He.ga K "Rule") (sp_Rule___repr__ K)) (tCons (tMakeW W0 (He.ga K "Rule") (sp_Rule___init__ K) [.int 0, .int 0, .int 0, .int 0] tNil) tNil)) tNil))) (tCons (tLst (tCons (tTup (tCons (tC (.int 0)) (tCons (tC (.int 0)) (tCons (tC (.int 0)) (tCons (tC (.int 0)) tNil))))) (tCons (tC (.str "Rule(last=0, days=0, weeks=0, months=0)")) tNil))) tNil))))) (tRet (tC (.bl false))) tNext)
 (t_law_6 K))
abbrev t_law_2 (K : Fr) : TS := (tSeq (tIfS (tNot (tB (tCall (sp_l_alike K) [] E0 (tCons (tTup (tCons (tC (.int 24)) (tCons (tC (.int 168)) (tCons (tC (.int 672)) tNil)))) (tCons (tTup (tCons (tC (.int 24)) (tCons (tC (.int 168)) (tCons (tC (.int 672)) tNil)))) tNil))))) (tRet (tC (.bl false))) tNext)
 (t_law_4 K))
abbrev t_law_1 (K : Fr) : TS := (tSeq (tAsg (tCall (sp_l_bag K) [] E0 (tCons (tVar 0) tNil)) (gName 1))
 (t_law_2 K))
abbrev t_law (K : Fr) : TS := (t_law_1 K)
theorem pure_law {K : Fr} (T : TxC K) (vs : List V) (H : Hp) (Q : VK) (E : XK) (h : sp_law K vs H Q E) : t_law K { nx := λ _ H' => Q .non H', rt := Q } (L2.start ["_law_script", "_law_bag_here", "_law_turn", "_law_four", "_law_rule_here", "_law_shown", "_law_other", "_law_same", "_law_told", "_law_twin", "_law_thing"] vs) H := by
 obtain ⟨sc, sn, rfl, hS, hl, k⟩ := h
 have hf := law_plain
 show t_law K _ [some (V.ref sc), none, none, none, none, none, none, none, none, none, none] H
 refine g_seq (g_asg (g_call (g_cons (g_var rfl (g_nil (u_bag (M.start hS) (λ H S => S.gotR 0 rfl) hl λ bag H1 S1 => ?_))))))
 generalize [rdL K sc (sn.map V.int)] = Rs at S1
 refine g_nx (g_seq (g_if (g_not (g_B (g_call (g_cons (g_tup (g_cons (g_c (g_cons (g_c (g_cons (g_c (g_nil (v_tupq S1 (EnF.consA (EnF.all λ _ => .int _) (EnF.consA (EnF.all λ _ => .int _) (EnF.consA (EnF.all λ _ => .int _) EnF.nilA))) (len_ok rfl) λ p1 H3 (S2 : M (da K (V.ref p1) ((eT3 eI eI eI) (24, 168, 672)) :: _ :: Rs) H3) => ?_)))))))))))))))
 refine g_cons (g_tup (g_cons (g_c (g_cons (g_c (g_cons (g_c (g_nil (v_tupq S2 (EnF.consA (EnF.all λ _ => .int _) (EnF.consA (EnF.all λ _ => .int _) (EnF.consA (EnF.all λ _ => .int _) EnF.nilA))) (len_ok rfl) λ p5 H7 (S6 : M (da K (V.ref p5) ((eT3 eI eI eI) (24, 168, 672)) :: oo2 Rs) H7) => ?_)))))))))
 refine g_nil ?_
 obtain ⟨h9, hf⟩ := hf
 refine ⟨_, _, _, rfl, (Dq.dn (M.gotA S6 1 rfl)), (Dn.by_ h9.1 (Dq.dn (M.gotA S6 0 rfl))), h9.2, ?_⟩
 refine g_bl (v_ifcF (by decide) (g_next (g_nx (g_seq (g_if (g_not (g_B (g_call (g_cons (g_lst (g_cons (g_meth (g_make (g_nil (v_make S6 λ a10 dx11 H13 (S12 : M (pt a10 (.ins (He.ga K "Rule") dx11 []) :: pt dx11 (.own a10) :: oo3 Rs) H13) => ?_)))))))))))))))
 have S16 : M (da K (V.int 0) (eI 0) :: oo5 Rs) H13 := M.addA S12 (EnF.all λ _ => .int (K := K) 0)
 have S18 : M (oo7 Rs) H13 := M.addA S16 (EnF.all λ _ => .int (K := K) 0)
 have S20 : M (oo8 Rs) H13 := M.addA S18 (EnF.all λ _ => .int (K := K) 0)
 have S22 : M (oo9 Rs) H13 := M.addA S20 (EnF.all λ _ => .int (K := K) 0)
 refine ⟨_, _, _, _, _, _, _, _, _, _, _, _, _, rfl, (M.at (M.at (M.addA (M.addA (M.addA (M.addA S22 (EnF.at 0 rfl)) (EnF.at 2 rfl)) (EnF.at 4 rfl)) (EnF.at 6 rfl)) 9 rfl) 9 rfl), hf, λ x33 d34 v35 H37 hf (S36 : M (pt d34 (.xd [(x33.fld, v35)]) :: da K v35 x33.val :: oo7 Rs) H37) => ?_, λ m28 H30 hf (S29 : M (R_Rule K a10 m28 :: oo7 Rs) H30) => ?_⟩
 ·
  exact hf.elim
 refine And.intro rfl (v_R_Rule S29 0 rfl (λ _ _ => rfl) (g_nil (⟨_, _, _, _, rfl, (M.at S29 0 rfl), hf, λ x40 u43 H42 hf (S41 : M (da K u43 ((eV eI) x40) :: oo8 Rs) H42) => ?_⟩)))
 refine g_cons (g_cb (g_cons (g_make (g_nil (v_make S41 λ a45 dx46 H48 (S47 : M (pt a45 (.ins (He.ga K "Rule") dx46 []) :: pt dx46 (.own a45) :: oo9 Rs) H48) => ?_)))))
 have S51 : M (oo12 Rs) H48 := M.addA S47 (EnF.all λ _ => .int (K := K) 0)
 have S53 : M (oo13 Rs) H48 := M.addA S51 (EnF.all λ _ => .int (K := K) 0)
 have S55 : M (oo14 Rs) H48 := M.addA S53 (EnF.all λ _ => .int (K := K) 0)
 have S57 : M (_ :: oo14 Rs) H48 := M.addA S55 (EnF.all λ _ => .int (K := K) 0)
 refine ⟨_, _, _, _, _, _, _, _, _, _, _, _, _, rfl, (M.at (M.at (M.addA (M.addA (M.addA (M.addA S57 (EnF.at 0 rfl)) (EnF.at 2 rfl)) (EnF.at 4 rfl)) (EnF.at 6 rfl)) 9 rfl) 9 rfl), hf, λ x68 d69 v70 H72 hf (S71 : M (pt d69 (.xd [(x68.fld, v70)]) :: da K v70 x68.val :: oo13 Rs) H72) => ?_, λ m63 H65 hf (S64 : M (R_Rule K a45 m63 :: oo13 Rs) H65) => ?_⟩
 ·
  exact hf.elim
 refine And.intro rfl (g_nil ?_)
 obtain ⟨_, _, Z75⟩ := i_R_Rule (M.at S64 0 rfl)
 refine ⟨_, _, _, rfl, Z75, ?_⟩
 refine ⟨_, _, _, _, rfl, (M.at S64 0 rfl), hf, λ x76 H78 hf (S77 : M (oo14 Rs) H78) => ?_⟩
 refine ⟨_, rfl, ?_⟩
 refine g_nil (v_lsto (ds := ([(eV eI) x40, eS x76] : List PyData).map eA) S77 (EnF.consA (EnF.at 5 rfl) (EnF.consA (EnF.all λ _ => .str _) EnF.nilA)) (len_ok rfl) λ p80 H82 (S81 : M (acR K p80 (([(eV eI) x40, eS x76] : List PyData).map eA) :: oo14 Rs) H82) => ?_)
 refine g_cons (g_lst (g_cons (g_tup (g_cons (g_c (g_cons (g_c (g_cons (g_c (g_cons (g_c (g_nil (v_tupq S81 (EnF.consA (EnF.all λ _ => .int _) (EnF.consA (EnF.all λ _ => .int _) (EnF.consA (EnF.all λ _ => .int _) (EnF.consA (EnF.all λ _ => .int _) EnF.nilA)))) (len_ok rfl) λ p84 H86 (S85 : M (da K (V.ref p84) ((eT4 eI eI eI eI) (0, 0, 0, 0)) :: _ :: oo14 Rs) H86) => ?_)))))))))))))
 refine g_cons (g_c (g_nil (v_lsto (ds := ([(eT4 eI eI eI eI) (0, 0, 0, 0), eS ("Rule(last=0, days=0, weeks=0, months=0)" : Str)] : List PyData).map eA) S85 (EnF.consA (EnF.at 0 rfl) (EnF.consA (EnF.all λ _ => .str _) EnF.nilA)) (len_ok rfl) λ p88 H90 (S89 : M (acR K p88 (([(eT4 eI eI eI eI) (0, 0, 0, 0), eS ("Rule(last=0, days=0, weeks=0, months=0)" : Str)] : List PyData).map eA) :: oo2 (oo14 Rs)) H90) => ?_)))
 refine g_nil ?_
 obtain ⟨h92, hf⟩ := hf
 refine ⟨_, _, _, rfl, (Dq.dn (M.gotO S89 2 rfl)), (Dn.by_ h92.1 (Dq.dn (M.gotO S89 0 rfl))), h92.2, ?_⟩
 obtain ⟨h93, hf⟩ := hf
 refine g_bl (v_ifcF (by decide) (g_next (g_nx (g_seq (g_for (g_iRng1 (g_cons (g_c (g_nil (v_itR h93 ?_))))))))))
 have S94 : M (oo5 Rs) H90 := (M.drp (M.drp (M.drp (M.drp (M.drp (M.drp (M.drp (M.drp (M.drp (M.drp (M.drp (M.drp S89 15) 14) 13) 12) 11) 10) 8) 7) 6) 5) 4) 1)
 refine for_rng (β := Unit) hf (λ (s95 : Unit) σ H' => ∃ (o99 : Option V) (o100 : Option V) (o101 : Option V) (o102 : Option V) (o103 : Option V) (o104 : Option V) (o105 : Option V) (o106 : Option V) (o107 : Option V), σ = [some (V.ref sc), some (V.ref bag), o99, o100, o101, o102, o103, o104, o105, o106, o107] /\ M (acR K p88 (([(eT4 eI eI eI eI) (0, 0, 0, 0), eS ("Rule(last=0, days=0, weeks=0, months=0)" : Str)] : List PyData).map eA) :: acR K p80 (([(eV eI) x40, eS x76] : List PyData).map eA) :: R_Rule K a45 m63 :: R_Rule K a10 m28 :: bagR bag :: Rs) H') ⟨_, _, _, _, _, _, _, _, _, rfl, (M.pk S94 5 [0, 1, 2, 3, 4] rfl)⟩ ?_ ?_
 ·
  rintro x98 s95 _ H109 kk97 ⟨o99, o100, o101, o102, o103, o104, o105, o106, o107, rfl, S108⟩ hf
  refine g_name (g_seq (g_asg (g_call (g_cons (g_var rfl (g_nil (⟨_, _, _, rfl, (M.at S108 4 rfl), hf, λ x110 u113 H112 hf (S111 : M (da K u113 ((eV eI) x110) :: oo5 Rs) H112) => ?_⟩)))))))
  refine g_nx ?_
  show (_ : TS) _ [some (V.ref sc), some (V.ref bag), some (V.int x98), some u113, o101, o102, o103, o104, o105, o106, o107] _
  refine g_seq (g_asg (g_callW (g_cons (g_var rfl (g_nil (⟨_, _, _, _, _, rfl, (M.addA S111 (EnF.at 0 rfl)), hf, λ x121 d122 v123 H125 hf (S124 : M (pt d122 (.xd [(x121.fld, v123)]) :: da K v123 x121.val :: oo6 Rs) H125) => ?_, λ x116 u119 H118 hf (S117 : M (R_Rule K u119 x116 :: oo6 Rs) H118) => ?_⟩))))))
  ·
   exact hf.elim
  refine g_nx ?_
  show (_ : TS) _ [some (V.ref sc), some (V.ref bag), some (V.int x98), some u113, some (V.ref u119), o102, o103, o104, o105, o106, o107] _
  refine g_seq (g_asg (g_fst (g_jcons (g_c ?_))))
  obtain ⟨h128, hf⟩ := hf
  refine v_js (y := ("Rule(last=" : Str)) h128 (g_jcons (g_fmt (g_op (g_var rfl (g_c ?_)))))
  obtain ⟨x129, h130, hf⟩ := hf
  refine v_ixv S117 1 rfl h130 λ u131 S132 => ?_
  obtain rfl := (S132.gotA 0 rfl).intV
  have S133 := S132.tl
  obtain ⟨h134, hf⟩ := hf
  refine v_fmtI h134 ?_
  obtain ⟨h135, hf⟩ := hf
  refine v_js (y := (fmtI x129)) h135 (g_jcons (g_c ?_))
  obtain ⟨h136, hf⟩ := hf
  refine v_js (y := (", days=" : Str)) h136 (g_jcons (g_fmt (g_op (g_var rfl (g_c ?_)))))
  obtain ⟨x137, h138, hf⟩ := hf
  refine v_ixv S133 1 rfl h138 λ u139 S140 => ?_
  obtain rfl := (S140.gotA 0 rfl).intV
  have S141 := S140.tl
  obtain ⟨h142, hf⟩ := hf
  refine v_fmtI h142 ?_
  obtain ⟨h143, hf⟩ := hf
  refine v_js (y := (fmtI x137)) h143 (g_jcons (g_c ?_))
  obtain ⟨h144, hf⟩ := hf
  refine v_js (y := (", weeks=" : Str)) h144 (g_jcons (g_fmt (g_op (g_var rfl (g_c ?_)))))
  obtain ⟨x145, h146, hf⟩ := hf
  refine v_ixv S141 1 rfl h146 λ u147 S148 => ?_
  obtain rfl := (S148.gotA 0 rfl).intV
  have S149 := S148.tl
  obtain ⟨h150, hf⟩ := hf
  refine v_fmtI h150 ?_
  obtain ⟨h151, hf⟩ := hf
  refine v_js (y := (fmtI x145)) h151 (g_jcons (g_c ?_))
  obtain ⟨h152, hf⟩ := hf
  refine v_js (y := (", months=" : Str)) h152 (g_jcons (g_fmt (g_op (g_var rfl (g_c ?_)))))
  obtain ⟨x153, h154, hf⟩ := hf
  refine v_ixv S149 1 rfl h154 λ u155 S156 => ?_
  obtain rfl := (S156.gotA 0 rfl).intV
  have S157 := S156.tl
  obtain ⟨h158, hf⟩ := hf
  refine v_fmtI h158 ?_
  obtain ⟨h159, hf⟩ := hf
  refine v_js (y := (fmtI x153)) h159 (g_jcons (g_c ?_))
  obtain ⟨h160, hf⟩ := hf
  refine v_js (y := (")" : Str)) h160 (g_jnil (g_nx ?_))
  show (_ : TS) _ [some (V.ref sc), some (V.ref bag), some (V.int x98), some u113, some (V.ref u119), some (V.str (((((((((Str.empty ++ ("Rule(last=" : Str)) ++ (fmtI x129)) ++ (", days=" : Str)) ++ (fmtI x137)) ++ (", weeks=" : Str)) ++ (fmtI x145)) ++ (", months=" : Str)) ++ (fmtI x153)) ++ (")" : Str))), o103, o104, o105, o106, o107] _
  refine g_seq (g_asg (g_cb (g_cons (g_var rfl (g_nil (v_liq S157 (.inr (EnF.at 1 rfl)) λ p161 H163 (S162 : M (acR K p161 (x110.map eI) :: oo7 Rs) H163) => ?_))))))
  refine g_nx ?_
  show (_ : TS) _ [some (V.ref sc), some (V.ref bag), some (V.int x98), some u113, some (V.ref u119), some (V.str (((((((((Str.empty ++ ("Rule(last=" : Str)) ++ (fmtI x129)) ++ (", days=" : Str)) ++ (fmtI x137)) ++ (", weeks=" : Str)) ++ (fmtI x145)) ++ (", months=" : Str)) ++ (fmtI x153)) ++ (")" : Str))), some (V.ref p161), o104, o105, o106, o107] _
  refine g_seq (g_asgX (g_call (g_cons (g_var rfl (g_cons (g_c (g_nil ?_)))))))
  obtain ⟨h165, hf⟩ := hf
  refine u_take (S162.at 3 rfl) h165 λ n166 H168 n166l n166u (S167 : M (oo8 Rs) H168) => ?_
  replace hf := hf n166 n166l n166u
  refine g_sub (g_var rfl (g_call (g_cons (g_var rfl (g_cons (g_c (g_nil ?_)))))))
  obtain ⟨h169, hf⟩ := hf
  refine u_take (S167.at 0 rfl) h169 λ n170 H172 n170l n170u (S171 : M (oo8 Rs) H172) => ?_
  replace hf := hf n170 n170l n170u
  obtain ⟨m173, h174, hf⟩ := hf
  refine v_setl (e := eI) (x := n166) S171 1 rfl h174 (EnF.all λ _ => .int _) λ H176 (S175 : M (acR K p161 ((x110.set m173 n166).map eI) :: oo7 Rs) H176) => ?_
  refine g_nx ?_
  show (_ : TS) _ [some (V.ref sc), some (V.ref bag), some (V.int x98), some u113, some (V.ref u119), some (V.str (((((((((Str.empty ++ ("Rule(last=" : Str)) ++ (fmtI x129)) ++ (", days=" : Str)) ++ (fmtI x137)) ++ (", weeks=" : Str)) ++ (fmtI x145)) ++ (", months=" : Str)) ++ (fmtI x153)) ++ (")" : Str))), some (V.ref p161), o104, o105, o106, o107] _
  refine g_seq (g_asg (g_op (g_cb (g_cons (g_var rfl (g_nil ?_))))))
  have S178 : M (da K (V.ref p161) ((eL eI) (x110.set m173 n166)) :: oo7 Rs) H176 := acR_fixL S175
  refine v_tupL S178 0 rfl λ p180 H182 (S181 : M (da K (V.ref p180) ((eV eI) (x110.set m173 n166)) :: oo8 Rs) H182) => ?_
  obtain ⟨h184, hf⟩ := hf
  refine g_var rfl (v_eqq (M.gotA S181 0 rfl) (M.gotA S181 4 rfl) h184.1 h184.2 (g_nx ?_))
  show (_ : TS) _ [some (V.ref sc), some (V.ref bag), some (V.int x98), some u113, some (V.ref u119), some (V.str (((((((((Str.empty ++ ("Rule(last=" : Str)) ++ (fmtI x129)) ++ (", days=" : Str)) ++ (fmtI x137)) ++ (", weeks=" : Str)) ++ (fmtI x145)) ++ (", months=" : Str)) ++ (fmtI x153)) ++ (")" : Str))), some (V.ref p161), some (V.bl (PyData.eqv ((eV eI) (x110.set m173 n166)) ((eV eI) x110))), o105, o106, o107] _
  have S185 : M (oo8 Rs) H182 := (M.drp S181 0)
  refine g_seq (g_asg (g_lst (g_cons (g_op (g_var rfl (g_callW (g_cons (g_var rfl (g_nil (⟨_, _, _, _, _, rfl, (M.addA S185 (EnF.at 0 rfl)), hf, λ x192 d193 v194 H196 hf (S195 : M (pt d193 (.xd [(x192.fld, v194)]) :: da K v194 x192.val :: oo8 Rs) H196) => ?_, λ x187 u190 H189 hf (S188 : M (R_Rule K u190 x187 :: oo8 Rs) H189) => ?_⟩))))))))))
  ·
   exact hf.elim
  obtain ⟨_, _, Z199⟩ := i_R_Rule (M.at S188 3 rfl)
  obtain ⟨_, _, Z200⟩ := i_R_Rule (M.at S188 0 rfl)
  refine .inl ⟨_, _, _, _, _, _, rfl, rfl, Z199, Z200, ?_⟩
  refine .inl (⟨_, _, _, _, _, _, rfl, (M.at (M.at S188 0 rfl) 3 rfl), hf, λ x201 H203 hf (S202 : M (oo9 Rs) H203) => ?_⟩)
  refine ⟨_, rfl, ?_⟩
  refine g_cons (g_op (g_var rfl (g_callW (g_cons (g_var rfl (g_nil (⟨_, _, _, _, _, rfl, (M.addA S202 (EnF.at 2 rfl)), hf, λ x211 d212 v213 H215 hf (S214 : M (pt d212 (.xd [(x211.fld, v213)]) :: da K v213 x211.val :: oo9 Rs) H215) => ?_, λ x206 u209 H208 hf (S207 : M (R_Rule K u209 x206 :: oo9 Rs) H208) => ?_⟩)))))))
  ·
   exact hf.elim
  obtain ⟨_, _, Z218⟩ := i_R_Rule (M.at S207 1 rfl)
  obtain ⟨_, _, Z219⟩ := i_R_Rule (M.at S207 0 rfl)
  refine .inl ⟨_, _, _, _, _, _, rfl, rfl, Z218, Z219, ?_⟩
  refine .inl (⟨_, _, _, _, _, _, rfl, (M.at (M.at S207 0 rfl) 1 rfl), hf, λ x220 H222 hf (S221 : M (oo10 Rs) H222) => ?_⟩)
  refine ⟨_, rfl, ?_⟩
  refine g_cons (g_op (g_var rfl (g_callW (g_cons (g_var rfl (g_nil (⟨_, _, _, _, _, rfl, (M.addA S221 (EnF.at 5 rfl)), hf, λ x230 d231 v232 H234 hf (S233 : M (pt d231 (.xd [(x230.fld, v232)]) :: da K v232 x230.val :: oo10 Rs) H234) => ?_, λ x225 u228 H227 hf (S226 : M (R_Rule K u228 x225 :: oo10 Rs) H227) => ?_⟩)))))))
  ·
   exact hf.elim
  obtain ⟨_, _, Z237⟩ := i_R_Rule (M.at S226 1 rfl)
  obtain ⟨_, _, Z238⟩ := i_R_Rule (M.at S226 0 rfl)
  refine .inl ⟨_, _, _, _, _, _, rfl, rfl, Z237, Z238, ?_⟩
  refine .inl (⟨_, _, _, _, _, _, rfl, (M.at (M.at S226 0 rfl) 1 rfl), hf, λ x239 H241 hf (S240 : M (oo11 Rs) H241) => ?_⟩)
  refine ⟨_, rfl, ?_⟩
  refine g_cons (g_op (g_var rfl (g_callW (g_cons (g_var rfl (g_nil (⟨_, _, _, _, _, rfl, (M.addA S240 (EnF.at 6 rfl)), hf, λ x249 d250 v251 H253 hf (S252 : M (pt d250 (.xd [(x249.fld, v251)]) :: da K v251 x249.val :: oo11 Rs) H253) => ?_, λ x244 u247 H246 hf (S245 : M (R_Rule K u247 x244 :: oo11 Rs) H246) => ?_⟩)))))))
  ·
   exact hf.elim
  obtain ⟨_, _, Z256⟩ := i_R_Rule (M.at S245 1 rfl)
  obtain ⟨_, _, Z257⟩ := i_R_Rule (M.at S245 0 rfl)
  refine .inl ⟨_, _, _, _, _, _, rfl, rfl, Z256, Z257, ?_⟩
  refine .inl (⟨_, _, _, _, _, _, rfl, (M.at (M.at S245 0 rfl) 1 rfl), hf, λ x258 H260 hf (S259 : M (oo12 Rs) H260) => ?_⟩)
  refine ⟨_, rfl, ?_⟩
  refine g_nil (v_lsto (ds := ([x201, (!x220), x239, (!x258)]).map eB) S259 (EnF.consA (EnF.all λ _ => .bl _) (EnF.consA (EnF.all λ _ => .bl _) (EnF.consA (EnF.all λ _ => .bl _) (EnF.consA (EnF.all λ _ => .bl _) EnF.nilA)))) (len_ok rfl) λ p262 H264 (S263 : M (acR K p262 (([x201, (!x220), x239, (!x258)]).map eB) :: oo12 Rs) H264) => ?_)
  have S266 : M (da K (V.ref p262) ((eL eB) ([x201, (!x220), x239, (!x258)])) :: oo12 Rs) H264 := acR_fixL S263
  refine g_nx ?_
  show (_ : TS) _ [some (V.ref sc), some (V.ref bag), some (V.int x98), some u113, some (V.ref u119), some (V.str (((((((((Str.empty ++ ("Rule(last=" : Str)) ++ (fmtI x129)) ++ (", days=" : Str)) ++ (fmtI x137)) ++ (", weeks=" : Str)) ++ (fmtI x145)) ++ (", months=" : Str)) ++ (fmtI x153)) ++ (")" : Str))), some (V.ref p161), some (V.bl (PyData.eqv ((eV eI) (x110.set m173 n166)) ((eV eI) x110))), some (V.ref p262), o106, o107] _
  refine g_seq (g_if (g_not (g_B (g_call (g_cons (g_var rfl (g_cons (g_lst (g_cons (g_var rfl (g_cons (g_notV (g_var rfl (g_bl (g_cons (g_c (g_cons (g_c (g_nil (v_lsto (ds := ([(PyData.eqv ((eV eI) (x110.set m173 n166)) ((eV eI) x110)), (!(PyData.eqv ((eV eI) (x110.set m173 n166)) ((eV eI) x110))), true, false]).map eB) S266 (EnF.consA (EnF.all λ _ => .bl _) (EnF.consA (EnF.all λ _ => .bl _) (EnF.consA (EnF.all λ _ => .bl _) (EnF.consA (EnF.all λ _ => .bl _) EnF.nilA)))) (len_ok rfl) λ p268 H270 (S269 : M (acR K p268 (([(PyData.eqv ((eV eI) (x110.set m173 n166)) ((eV eI) x110)), (!(PyData.eqv ((eV eI) (x110.set m173 n166)) ((eV eI) x110))), true, false]).map eB) :: oo13 Rs) H270) => ?_))))))))))))))))))))
  refine g_nil ?_
  obtain ⟨h272, hf⟩ := hf
  refine ⟨_, _, _, rfl, (Dq.dn (M.gotA S269 1 rfl)), (Dn.by_ h272.1 (Dq.dn (M.gotO S269 0 rfl))), h272.2, ?_⟩
  refine g_bl (v_ifcF (by decide) (g_next (g_nx (g_seq (g_for (g_iList (g_call (g_cons (g_var rfl (g_cons (g_var rfl (g_nil (⟨_, _, _, _, _, rfl, (M.at (M.addA S269 (EnF.at 9 rfl)) 9 rfl), hf, λ x274 u277 H276 hf (S275 : M (da K u277 ((eL eA) x274) :: oo14 Rs) H276) => ?_⟩)))))))))))))
  obtain ⟨a279, vs280, e_a279, S281⟩ := (S275.at 0 rfl).openQ
  refine v_itLe e_a279 (S281.gotR 0 rfl) ?_
  refine for_lst (K := K) (β := Unit) (e := eA) hf (λ (s289 : Unit) σ H' => ∃ (o293 : Option V), σ = [some (V.ref sc), some (V.ref bag), some (V.int x98), some u113, some (V.ref u119), some (V.str (((((((((Str.empty ++ ("Rule(last=" : Str)) ++ (fmtI x129)) ++ (", days=" : Str)) ++ (fmtI x137)) ++ (", weeks=" : Str)) ++ (fmtI x145)) ++ (", months=" : Str)) ++ (fmtI x153)) ++ (")" : Str))), some (V.ref p161), some (V.bl (PyData.eqv ((eV eI) (x110.set m173 n166)) ((eV eI) x110))), some (V.ref p262), o293, o107] /\ M (rdL K a279 vs280 :: daA K vs280 (x274.map eA) :: bagR bag :: acR K p268 (([(PyData.eqv ((eV eI) (x110.set m173 n166)) ((eV eI) x110)), (!(PyData.eqv ((eV eI) (x110.set m173 n166)) ((eV eI) x110))), true, false]).map eB) :: da K (V.ref p262) ((eL eB) ([x201, (!x220), x239, (!x258)])) :: R_Rule K u119 x116 :: R_Rule K u247 x244 :: R_Rule K u228 x225 :: R_Rule K u209 x206 :: R_Rule K u190 x187 :: da K (V.ref p161) ((eL eI) (x110.set m173 n166)) :: da K u113 ((eV eI) x110) :: acR K p88 (([(eT4 eI eI eI eI) (0, 0, 0, 0), eS ("Rule(last=0, days=0, weeks=0, months=0)" : Str)] : List PyData).map eA) :: acR K p80 (([(eV eI) x40, eS x76] : List PyData).map eA) :: R_Rule K a45 m63 :: R_Rule K a10 m28 :: Rs) H') ⟨_, rfl, (M.sub (.cons 0 rfl (.cons 0 rfl (.cons 0 rfl (.cons 0 rfl (.cons 0 rfl (.cons 0 rfl (.cons 0 rfl (.cons 0 rfl (.cons 0 rfl (.cons 0 rfl (.cons 0 rfl (.cons 0 rfl (.cons 0 rfl (.cons 0 rfl (.cons 0 rfl (.cons 0 rfl (.refl _))))))))))))))))) S281)⟩ (λ _ _ _ h => by obtain ⟨_, _, S⟩ := h; exact ⟨S.gotR 0 rfl, S.gotAA 1 rfl⟩) ?_ ?_
  ·
   rintro i285 u286 x292 s289 _ H295 kk291 ⟨o293, rfl, S294⟩ hv287 hx288 hf
   have S296 := S294.elA 1 rfl hv287 hx288
   refine g_name (g_if (g_not (g_B (g_call (g_cons (g_lst (g_cons (g_op (g_var rfl (g_callW (g_cons (g_var rfl (g_nil (⟨_, _, _, _, _, rfl, (M.addA S296 (EnF.at 0 rfl)), hf, λ x304 d305 v306 H308 hf (S307 : M (pt d305 (.xd [(x304.fld, v306)]) :: da K v306 x304.val :: da K u286 (eA x292) :: oo2 (oo14 Rs)) H308) => ?_, λ x299 u302 H301 hf (S300 : M (R_Rule K u302 x299 :: oo3 (oo14 Rs)) H301) => ?_⟩))))))))))))))
   ·
    exact hf.elim
   obtain ⟨_, _, Z311⟩ := i_R_Rule (M.at S300 7 rfl)
   obtain ⟨_, _, Z312⟩ := i_R_Rule (M.at S300 0 rfl)
   refine .inl ⟨_, _, _, _, _, _, rfl, rfl, Z311, Z312, ?_⟩
   refine .inl (⟨_, _, _, _, _, _, rfl, (M.at (M.at S300 0 rfl) 7 rfl), hf, λ x313 H315 hf (S314 : M (oo4 (oo14 Rs)) H315) => ?_⟩)
   refine ⟨_, rfl, ?_⟩
   refine g_cons (g_op (g_callW (g_cons (g_var rfl (g_nil (⟨_, _, _, _, _, rfl, (M.addA S314 (EnF.at 2 rfl)), hf, λ x323 d324 v325 H327 hf (S326 : M (pt d324 (.xd [(x323.fld, v325)]) :: da K v325 x323.val :: oo4 (oo14 Rs)) H327) => ?_, λ x318 u321 H320 hf (S319 : M (R_Rule K u321 x318 :: oo4 (oo14 Rs)) H320) => ?_⟩))))))
   ·
    exact hf.elim
   refine g_var rfl ?_
   obtain ⟨_, _, Z330⟩ := i_R_Rule (M.at S319 0 rfl)
   obtain ⟨_, _, Z331⟩ := i_R_Rule (M.at S319 1 rfl)
   refine .inl ⟨_, _, _, _, _, _, rfl, rfl, Z330, Z331, ?_⟩
   refine .inl (⟨_, _, _, _, _, _, rfl, (M.at (M.at S319 1 rfl) 1 rfl), hf, λ x332 H334 hf (S333 : M (oo5 (oo14 Rs)) H334) => ?_⟩)
   refine ⟨_, rfl, ?_⟩
   refine g_nil (v_lsto (ds := ([x313, (!x332)]).map eB) S333 (EnF.consA (EnF.all λ _ => .bl _) (EnF.consA (EnF.all λ _ => .bl _) EnF.nilA)) (len_ok rfl) λ p336 H338 (S337 : M (acR K p336 (([x313, (!x332)]).map eB) :: oo5 (oo14 Rs)) H338) => ?_)
   obtain ⟨h340, hf⟩ := hf
   obtain ⟨h341, hf⟩ := hf
   refine g_cons (g_lst (g_cons (g_op (g_var rfl (g_var rfl (v_eqq (M.gotA S337 4 rfl) (M.gotA S337 15 rfl) h340.1 h340.2 (g_cons (g_op (g_var rfl (g_var rfl (v_neq (M.gotA S337 4 rfl) (M.gotA S337 15 rfl) h341.1 h341.2 (g_nil (v_lsto (ds := ([(PyData.eqv (eA x292) ((eV eI) x110)), (!PyData.eqv (eA x292) ((eV eI) x110))]).map eB) S337 (EnF.consA (EnF.all λ _ => .bl _) (EnF.consA (EnF.all λ _ => .bl _) EnF.nilA)) (len_ok rfl) λ p342 H344 (S343 : M (acR K p342 (([(PyData.eqv (eA x292) ((eV eI) x110)), (!PyData.eqv (eA x292) ((eV eI) x110))]).map eB) :: oo6 (oo14 Rs)) H344) => ?_)))))))))))))
   refine g_nil ?_
   obtain ⟨h346, hf⟩ := hf
   refine ⟨_, _, _, rfl, (Dq.dn (M.gotO S343 1 rfl)), (Dn.by_ h346.1 (Dq.dn (M.gotO S343 0 rfl))), h346.2, ?_⟩
   refine g_bl (v_ifcF (by decide) (g_next ?_))
   exact ⟨_, hf, _, rfl, (M.pk S343 21 [6, 7, 8, 9, 10, 3, 11, 12, 13, 14, 15, 16, 17, 18, 19, 20] rfl)⟩
  rintro s289 _ H348 hf ⟨o293, rfl, S347⟩
  refine g_nx ?_
  show (_ : TS) _ [some (V.ref sc), some (V.ref bag), some (V.int x98), some u113, some (V.ref u119), some (V.str (((((((((Str.empty ++ ("Rule(last=" : Str)) ++ (fmtI x129)) ++ (", days=" : Str)) ++ (fmtI x137)) ++ (", weeks=" : Str)) ++ (fmtI x145)) ++ (", months=" : Str)) ++ (fmtI x153)) ++ (")" : Str))), some (V.ref p161), some (V.bl (PyData.eqv ((eV eI) (x110.set m173 n166)) ((eV eI) x110))), some (V.ref p262), o293, o107] _
  refine g_seq (g_for (g_iList (g_lst (g_cons (g_c (g_cons (g_var rfl (g_cons (g_cb (g_cons (g_var rfl (g_nil (v_liq S347 (.inr (EnF.at 11 rfl)) λ p349 H351 (S350 : M (acR K p349 (x110.map eI) :: oo2 (oo14 Rs)) H351) => ?_)))))))))))))
  have S353 : M (da K (V.ref p349) ((eL eI) x110) :: oo2 (oo14 Rs)) H351 := acR_fixL S350
  refine g_cons (g_var rfl (g_cons (g_c (g_cons (g_c (g_nil (v_lsto (ds := ([eN (), (eV eI) x110, (eL eI) x110, eS (((((((((Str.empty ++ ("Rule(last=" : Str)) ++ (fmtI x129)) ++ (", days=" : Str)) ++ (fmtI x137)) ++ (", weeks=" : Str)) ++ (fmtI x145)) ++ (", months=" : Str)) ++ (fmtI x153)) ++ (")" : Str)), eI 5, eB true] : List PyData).map eA) S353 (EnF.consA (EnF.all λ _ => .non) (EnF.consA (EnF.at 12 rfl) (EnF.consA (EnF.at 0 rfl) (EnF.consA (EnF.all λ _ => .str _) (EnF.consA (EnF.all λ _ => .int _) (EnF.consA (EnF.all λ _ => .bl _) EnF.nilA)))))) (len_ok rfl) λ p355 H357 (S356 : M (acR K p355 (([eN (), (eV eI) x110, (eL eI) x110, eS (((((((((Str.empty ++ ("Rule(last=" : Str)) ++ (fmtI x129)) ++ (", days=" : Str)) ++ (fmtI x137)) ++ (", weeks=" : Str)) ++ (fmtI x145)) ++ (", months=" : Str)) ++ (fmtI x153)) ++ (")" : Str)), eI 5, eB true] : List PyData).map eA) :: oo3 (oo14 Rs)) H357) => ?_)))))))
  have S359 : M (da K (V.ref p355) ((eL eA) ([eN (), (eV eI) x110, (eL eI) x110, eS (((((((((Str.empty ++ ("Rule(last=" : Str)) ++ (fmtI x129)) ++ (", days=" : Str)) ++ (fmtI x137)) ++ (", weeks=" : Str)) ++ (fmtI x145)) ++ (", months=" : Str)) ++ (fmtI x153)) ++ (")" : Str)), eI 5, eB true] : List PyData)) :: oo3 (oo14 Rs)) H357 := acR_fixL S356
  obtain ⟨a361, vs362, e_a361, S363⟩ := (S359.at 0 rfl).openQ
  refine v_itLe e_a361 (S363.gotR 0 rfl) ?_
  refine for_lst (K := K) (β := Unit) (e := eA) hf (λ (s371 : Unit) σ H' => ∃ (o375 : Option V), σ = [some (V.ref sc), some (V.ref bag), some (V.int x98), some u113, some (V.ref u119), some (V.str (((((((((Str.empty ++ ("Rule(last=" : Str)) ++ (fmtI x129)) ++ (", days=" : Str)) ++ (fmtI x137)) ++ (", weeks=" : Str)) ++ (fmtI x145)) ++ (", months=" : Str)) ++ (fmtI x153)) ++ (")" : Str))), some (V.ref p161), some (V.bl (PyData.eqv ((eV eI) (x110.set m173 n166)) ((eV eI) x110))), some (V.ref p262), o293, o375] /\ M (rdL K a361 vs362 :: daA K vs362 (([eN (), (eV eI) x110, (eL eI) x110, eS (((((((((Str.empty ++ ("Rule(last=" : Str)) ++ (fmtI x129)) ++ (", days=" : Str)) ++ (fmtI x137)) ++ (", weeks=" : Str)) ++ (fmtI x145)) ++ (", months=" : Str)) ++ (fmtI x153)) ++ (")" : Str)), eI 5, eB true] : List PyData).map eA) :: da K (V.ref p349) ((eL eI) x110) :: rdL K a279 vs280 :: daA K vs280 (x274.map eA) :: bagR bag :: acR K p268 (([(PyData.eqv ((eV eI) (x110.set m173 n166)) ((eV eI) x110)), (!(PyData.eqv ((eV eI) (x110.set m173 n166)) ((eV eI) x110))), true, false]).map eB) :: da K (V.ref p262) ((eL eB) ([x201, (!x220), x239, (!x258)])) :: R_Rule K u119 x116 :: R_Rule K u247 x244 :: R_Rule K u228 x225 :: R_Rule K u209 x206 :: R_Rule K u190 x187 :: da K (V.ref p161) ((eL eI) (x110.set m173 n166)) :: da K u113 ((eV eI) x110) :: acR K p88 (([(eT4 eI eI eI eI) (0, 0, 0, 0), eS ("Rule(last=0, days=0, weeks=0, months=0)" : Str)] : List PyData).map eA) :: acR K p80 (([(eV eI) x40, eS x76] : List PyData).map eA) :: R_Rule K a45 m63 :: R_Rule K a10 m28 :: Rs) H') ⟨_, rfl, (M.pk S363 19 [0, 1, 2, 3, 4, 5, 6, 7, 8, 9, 10, 11, 12, 13, 14, 15, 16, 17, 18] rfl)⟩ (λ _ _ _ h => by obtain ⟨_, _, S⟩ := h; exact ⟨S.gotR 0 rfl, S.gotAA 1 rfl⟩) ?_ ?_
  ·
   rintro i367 u368 x374 s371 _ H377 kk373 ⟨o375, rfl, S376⟩ hv369 hx370 hf
   have S378 := S376.elA 1 rfl hv369 hx370
   refine g_name (g_if (g_not (g_B (g_call (g_cons (g_lst (g_cons (g_op (g_var rfl (g_var rfl ?_))))))))))
   obtain ⟨_, _, Z380⟩ := i_R_Rule (M.at S378 9 rfl)
   refine .inr ⟨_, _, _, _, rfl, Z380, (Dq.dn ((M.gotA S378 0 rfl))), ?_⟩
   refine .inr (.inr (⟨_, _, _, _, _, _, rfl, (M.at (M.addA S378 (EnF.at 0 rfl)) 10 rfl), hf, λ x383 H385 hf (S384 : M (_ :: da K u368 (eA x374) :: oo4 (oo14 Rs)) H385) => ?_⟩))
   refine ⟨_, rfl, ?_⟩
   refine g_cons (g_op (g_var rfl (g_var rfl ?_)))
   obtain ⟨_, _, Z387⟩ := i_R_Rule (M.at S384 0 rfl)
   refine .inr ⟨_, _, _, _, rfl, Z387, (Dq.dn ((M.gotA S384 1 rfl))), ?_⟩
   refine .inr (.inr (⟨_, _, _, _, _, _, rfl, (M.at (M.addA S384 (EnF.at 1 rfl)) 1 rfl), hf, λ x390 H392 hf (S391 : M (oo6 (oo14 Rs)) H392) => ?_⟩))
   refine ⟨_, rfl, ?_⟩
   refine g_nil (v_lsto (ds := ([x383, (!x390)]).map eB) S391 (EnF.consA (EnF.all λ _ => .bl _) (EnF.consA (EnF.all λ _ => .bl _) EnF.nilA)) (len_ok rfl) λ p394 H396 (S395 : M (acR K p394 (([x383, (!x390)]).map eB) :: oo6 (oo14 Rs)) H396) => ?_)
   refine g_cons (g_lst (g_cons (g_c (g_cons (g_c (g_nil (v_lsto (ds := ([false, true]).map eB) S395 (EnF.consA (EnF.all λ _ => .bl _) (EnF.consA (EnF.all λ _ => .bl _) EnF.nilA)) (len_ok rfl) λ p398 H400 (S399 : M (acR K p398 (([false, true]).map eB) :: oo7 (oo14 Rs)) H400) => ?_)))))))
   refine g_nil ?_
   obtain ⟨h402, hf⟩ := hf
   refine ⟨_, _, _, rfl, (Dq.dn (M.gotO S399 1 rfl)), (Dn.by_ h402.1 (Dq.dn (M.gotO S399 0 rfl))), h402.2, ?_⟩
   refine g_bl (v_ifcF (by decide) (g_next ?_))
   exact ⟨_, hf, _, rfl, (M.pk S399 22 [4, 5, 6, 7, 8, 9, 10, 11, 2, 12, 13, 14, 15, 16, 17, 18, 19, 20, 21] rfl)⟩
  rintro s371 _ H404 hf ⟨o375, rfl, S403⟩
  refine g_nx ?_
  show (_ : TS) _ [some (V.ref sc), some (V.ref bag), some (V.int x98), some u113, some (V.ref u119), some (V.str (((((((((Str.empty ++ ("Rule(last=" : Str)) ++ (fmtI x129)) ++ (", days=" : Str)) ++ (fmtI x137)) ++ (", weeks=" : Str)) ++ (fmtI x145)) ++ (", months=" : Str)) ++ (fmtI x153)) ++ (")" : Str))), some (V.ref p161), some (V.bl (PyData.eqv ((eV eI) (x110.set m173 n166)) ((eV eI) x110))), some (V.ref p262), o293, o375] _
  have S405 : M (oo4 (oo14 Rs)) H404 := (M.drp S403 2)
  refine g_if ?_
  refine tt_cut hf (λ H => M (rdL K a361 vs362 :: daA K vs362 (([eN (), (eV eI) x110, (eL eI) x110, eS (((((((((Str.empty ++ ("Rule(last=" : Str)) ++ (fmtI x129)) ++ (", days=" : Str)) ++ (fmtI x137)) ++ (", weeks=" : Str)) ++ (fmtI x145)) ++ (", months=" : Str)) ++ (fmtI x153)) ++ (")" : Str)), eI 5, eB true] : List PyData).map eA) :: rdL K a279 vs280 :: daA K vs280 (x274.map eA) :: bagR bag :: acR K p268 (([(PyData.eqv ((eV eI) (x110.set m173 n166)) ((eV eI) x110)), (!(PyData.eqv ((eV eI) (x110.set m173 n166)) ((eV eI) x110))), true, false]).map eB) :: da K (V.ref p262) ((eL eB) ([x201, (!x220), x239, (!x258)])) :: R_Rule K u119 x116 :: R_Rule K u247 x244 :: R_Rule K u228 x225 :: R_Rule K u209 x206 :: R_Rule K u190 x187 :: da K (V.ref p161) ((eL eI) (x110.set m173 n166)) :: da K u113 ((eV eI) x110) :: acR K p88 (([(eT4 eI eI eI eI) (0, 0, 0, 0), eS ("Rule(last=0, days=0, weeks=0, months=0)" : Str)] : List PyData).map eA) :: acR K p80 (([(eV eI) x40, eS x76] : List PyData).map eA) :: R_Rule K a45 m63 :: R_Rule K a10 m28 :: Rs) H) (λ kk407 P408 hP409 hf => ?_) ?_
  ·
   refine g_or (g_not (g_B (g_call (g_cons (g_var rfl (g_cons (g_var rfl (g_nil (⟨_, _, _, _, _, rfl, (M.at (M.addA S405 (EnF.at 13 rfl)) 5 rfl), hf, λ x413 H415 hf (S414 : M (oo4 (oo14 Rs)) H415) => ?_⟩)))))))))
   refine g_bl (v_iff hf (λ _ hf => ?_) (λ _ hf => ?_))
   ·
    exact hP409 _ _ hf (M.pk S414 18 [1, 2, 3, 4, 0, 5, 6, 7, 8, 9, 10, 11, 12, 13, 14, 15, 16, 17] rfl)
   ·
    refine g_not (g_B (g_call (g_cons (g_lst (g_cons (g_meth (g_var rfl (v_R_Rule S414 7 rfl (λ _ _ => rfl) (g_nil (⟨_, _, _, _, rfl, (M.at S414 7 rfl), hf, λ x417 u420 H419 hf (S418 : M (da K u420 ((eV eI) x417) :: oo4 (oo14 Rs)) H419) => ?_⟩))))))))))
    refine g_cons (g_cb (g_cons (g_var rfl (g_nil ?_))))
    obtain ⟨_, _, Z422⟩ := i_R_Rule (M.at S418 1 rfl)
    refine ⟨_, _, _, rfl, Z422, ?_⟩
    refine ⟨_, _, _, _, rfl, (M.at S418 1 rfl), hf, λ x423 H425 hf (S424 : M (oo5 (oo14 Rs)) H425) => ?_⟩
    refine ⟨_, rfl, ?_⟩
    refine g_nil (v_lsto (ds := ([(eV eI) x417, eS x423] : List PyData).map eA) S424 (EnF.consA (EnF.at 1 rfl) (EnF.consA (EnF.all λ _ => .str _) EnF.nilA)) (len_ok rfl) λ p427 H429 (S428 : M (acR K p427 (([(eV eI) x417, eS x423] : List PyData).map eA) :: oo5 (oo14 Rs)) H429) => ?_)
    refine g_cons (g_lst (g_cons (g_var rfl (g_cons (g_var rfl (g_nil (v_lsto (ds := ([(eV eI) x110, eS (((((((((Str.empty ++ ("Rule(last=" : Str)) ++ (fmtI x129)) ++ (", days=" : Str)) ++ (fmtI x137)) ++ (", weeks=" : Str)) ++ (fmtI x145)) ++ (", months=" : Str)) ++ (fmtI x153)) ++ (")" : Str))] : List PyData).map eA) S428 (EnF.consA (EnF.at 15 rfl) (EnF.consA (EnF.all λ _ => .str _) EnF.nilA)) (len_ok rfl) λ p431 H433 (S432 : M (acR K p431 (([(eV eI) x110, eS (((((((((Str.empty ++ ("Rule(last=" : Str)) ++ (fmtI x129)) ++ (", days=" : Str)) ++ (fmtI x137)) ++ (", weeks=" : Str)) ++ (fmtI x145)) ++ (", months=" : Str)) ++ (fmtI x153)) ++ (")" : Str))] : List PyData).map eA) :: oo6 (oo14 Rs)) H433) => ?_)))))))
    refine g_nil ?_
    obtain ⟨h435, hf⟩ := hf
    refine ⟨_, _, _, rfl, (Dq.dn (M.gotO S432 1 rfl)), (Dn.by_ h435.1 (Dq.dn (M.gotO S432 0 rfl))), h435.2, ?_⟩
    refine g_bl ?_
    exact hP409 _ _ hf (M.pk S432 21 [5, 6, 7, 8, 4, 9, 10, 2, 11, 12, 13, 14, 15, 16, 17, 18, 19, 20] rfl)
  intro c406 H437 hf S436
  refine v_iff hf (λ _ hf => ?_) (λ _ hf => ?_)
  ·
   refine g_ret (g_c ?_)
   rw [show false = true from hf]
   exact k _
  ·
   refine g_next ?_
   exact ⟨_, hf, _, _, _, _, _, _, _, _, _, rfl, (M.sub (.cons 14 rfl (.cons 14 rfl (.cons 14 rfl (.cons 14 rfl (.cons 4 rfl (.tl (.tl (.tl (.tl (.tl (.tl (.tl (.tl (.tl (.tl (.tl (.tl (.tl (.refl _))))))))))))))))))) S436)⟩
 rintro s95 _ H439 hf ⟨o99, o100, o101, o102, o103, o104, o105, o106, o107, rfl, S438⟩
 refine g_nx ?_
 show (_ : TS) _ [some (V.ref sc), some (V.ref bag), o99, o100, o101, o102, o103, o104, o105, o106, o107] _
 refine g_ret (g_c ?_)
 rw [show true = true from hf]
 exact k _
abbrev FunE (K : Fr) (n q : Str) (s : Stmt) (kw : List (Str × V)) (ad : Addr) : Prop := FunD K n q (defArgs s) (defBody s) (defScope s) [] kw ad (fdOf K ad)
structure Txt (K : Fr) (mg : Str -> Option Value) : Prop where
 F_l_bag : FunE K "_law_bag" "_law_bag" s_l_bag [] (He.ga K "_law_bag")
 F_l_alike : FunE K "_law_alike" "_law_alike" s_l_alike [] (He.ga K "_law_alike")
 F_Rule_numbers : FunE K "numbers" "Rule.numbers" s_Rule_numbers [] (mA K "Rule" "numbers")
 F_as_told : FunE K "as_told" "as_told" s_as_told [] (He.ga K "as_told")
 F_is_whole : FunE K "is_whole" "is_whole" s_is_whole [] (He.ga K "is_whole")
 F_is_number_of_blocks : FunE K "is_number_of_blocks" "is_number_of_blocks" s_is_number_of_blocks [] (He.ga K "is_number_of_blocks")
 F_Rule___init__ : FunE K "__init__" "Rule.__init__" s_Rule___init__ [("last", .int 0), ("days", .int 0), ("weeks", .int 0), ("months", .int 0)] (mA K "Rule" "__init__")
 F_Rule___repr__ : FunE K "__repr__" "Rule.__repr__" s_Rule___repr__ [] (mA K "Rule" "__repr__")
 F_l_take : FunE K "_law_take" "_law_take" s_l_take [] (He.ga K "_law_take")
 F_l_numbers : FunE K "_law_numbers" "_law_numbers" s_l_numbers [] (He.ga K "_law_numbers")
 F_l_rule : FunE K "_law_rule" "_law_rule" s_l_rule [] (He.ga K "_law_rule")
 F_l_made : FunE K "_law_made" "_law_made" s_l_made [] (He.ga K "_law_made")
 F_Rule___eq__ : FunE K "__eq__" "Rule.__eq__" s_Rule___eq__ [] (mA K "Rule" "__eq__")
 F_l_twins : FunE K "_law_twins" "_law_twins" s_l_twins [] (He.ga K "_law_twins")
 F_l_any : FunE K "_law_any" "_law_any" s_l_any [] (He.ga K "_law_any")
 F_l_refused : FunE K "_law_refused" "_law_refused" s_l_refused [] (He.ga K "_law_refused")
 F_l_wrong : FunE K "_law_wrong" "_law_wrong" s_l_wrong [] (He.ga K "_law_wrong")
 F_law : FunE K "law" "law" s_law [] (He.ga K "law")
 F_Wrong___init__ : FunE K "__init__" "Wrong.__init__" s_Wrong___init__ [] (mA K "Wrong" "__init__")
 c_MOST_ASKED : ∃ t, mg "MOST_ASKED" = some (.int 60 t)
 c_DAY : ∃ t, mg "DAY" = some (.int 24 t)
 c_WEEK : ∃ t, mg "WEEK" = some (.int 168 t)
 c_MONTH : ∃ t, mg "MONTH" = some (.int 672 t)
 g_l_bag : mg "_law_bag" = some (.ref (He.ga K "_law_bag"))
 g_l_alike : mg "_law_alike" = some (.ref (He.ga K "_law_alike"))
 g_as_told : mg "as_told" = some (.ref (He.ga K "as_told"))
 g_is_whole : mg "is_whole" = some (.ref (He.ga K "is_whole"))
 g_is_number_of_blocks : mg "is_number_of_blocks" = some (.ref (He.ga K "is_number_of_blocks"))
 g_l_take : mg "_law_take" = some (.ref (He.ga K "_law_take"))
 g_l_numbers : mg "_law_numbers" = some (.ref (He.ga K "_law_numbers"))
 g_l_rule : mg "_law_rule" = some (.ref (He.ga K "_law_rule"))
 g_l_made : mg "_law_made" = some (.ref (He.ga K "_law_made"))
 g_l_twins : mg "_law_twins" = some (.ref (He.ga K "_law_twins"))
 g_l_any : mg "_law_any" = some (.ref (He.ga K "_law_any"))
 g_l_refused : mg "_law_refused" = some (.ref (He.ga K "_law_refused"))
 g_l_wrong : mg "_law_wrong" = some (.ref (He.ga K "_law_wrong"))
 g_law : mg "law" = some (.ref (He.ga K "law"))
 cg_Wrong : mg "Wrong" = some (.ref (He.ga K "Wrong"))
 cg_Rule : mg "Rule" = some (.ref (He.ga K "Rule"))
 cg_StoreError : mg "StoreError" = some (.ref (He.ga K "StoreError"))
 cl_Rule : Cls K (He.ga K "Rule")
 mk_Rule : Mk K (He.ga K "Rule") (mA K "Rule" "__init__")
 na_Rule_asked_of : NoAttr K (He.ga K "Rule") "asked_of"
 me_Rule_numbers : Meth K (He.ga K "Rule") "numbers" (mA K "Rule" "numbers")
 me_Rule___repr__ : Meth K (He.ga K "Rule") "__repr__" (mA K "Rule" "__repr__")
 me_Rule___eq__ : Meth K (He.ga K "Rule") "__eq__" (mA K "Rule" "__eq__")
 xb_Wrong : XcB K (He.ga K "Wrong") "ValueError" "ValueError.__new__" "ValueError.__init__" (tlB "ValueError")
 xf_Wrong : PySem.W.findIn K (.ref (He.ga K "Wrong")) "__init__" = some (some (.ref (mA K "Wrong" "__init__"))) /\ PySem.W.typeIn K (.ref (mA K "Wrong" "__init__")) = some (.type "function")
 xc_Wrong : ExcC K (He.ga K "Wrong")
 xn_Wrong_at : chN K "Wrong" "at" = true
 xi_StoreError : XcI K (He.ga K "StoreError") "ValueError.__init__"
 xm_Wrong_Wrong : PySem.W.exmOne K (.ref (He.ga K "Wrong")) (.ref (He.ga K "Wrong")) = some true
 iy_Rule : InsY K (He.ga K "Rule")
 ik_Rule_Rule : PySem.W.kitOne K (.ref (He.ga K "Rule")) (.ref (He.ga K "Rule")) = some true
 in_Rule : DatN K (He.ga K "Rule")
 mo_Rule : PySem.W.mroIn K (He.ga K "Rule") (.type "object") = some true
 ne_Rule : PySem.W.findIn K (.ref (He.ga K "Rule")) "__ne__" = some (some (.builtin "object.__ne__"))
 b_abs : mg "abs" = none
 b_repr : mg "repr" = none
 b_isinstance : mg "isinstance" = none
 b_int : mg "int" = none
 b_bool : mg "bool" = none
 b_zip : mg "zip" = none
 b_len : mg "len" = none
 b_range : mg "range" = none
 b_tuple : mg "tuple" = none
 b_list : mg "list" = none
 b_min : mg "min" = none
 b_all : mg "all" = none
theorem Txt.c {K : Fr} {mg : Str -> Option Value} (T : Txt K mg) : TxC K := ⟨T.cl_Rule, T.na_Rule_asked_of, T.xc_Wrong, T.xn_Wrong_at, T.xm_Wrong_Wrong, T.iy_Rule, T.ik_Rule_Rule, T.in_Rule⟩
local macro_rules | `(tactic| walk_at "oz") => `(tactic| first | exact Or.inl rfl | exact Or.inr rfl)
local macro_rules | `(tactic| walk_at "fs") => `(tactic| exact ⟨rfl, rfl, rfl, by decide +kernel, rfl, by decide +kernel, by decide +kernel⟩)
theorem nz {p : Prop} (h : false = true) : p := nomatch h
section
variable {P : Program} {w : World} {K : Fr} {mg : Str -> Option Value} {base : Heap}
theorem sc_Wrong___init__ : FnScope ["self", "at"] ["self", "at"] (defScope s_Wrong___init__) := (by walk_at "fs")
theorem bd_Wrong___init__ (T : Txt K mg) : Binds K (fdOf K (mA K "Wrong" "__init__")) ["self", "at"] [] := T.F_Wrong___init__.bindsN λ _ _ _ _ _ _ us hl => match us, hl with | [_, _], _ => rfl
theorem ok_Wrong___init__ (T : Txt K mg) : FnX false P w K mg base CX0 1 (mA K "Wrong" "__init__") (fdOf K (mA K "Wrong" "__init__")) ["self", "at"] (spX (He.ga K "Wrong") "at") := by
 refine okX T.F_Wrong___init__ sc_Wrong___init__ lenX (λ cdv A outer s H vs Q E hgu0 hr h => ⟨_, PSs.nox ?_, pureX (msg := "not what is wanted here") rfl T.xb_Wrong (chN_ok T.xn_Wrong_at) vs H Q E h⟩)
 exact (pss_cons (ps_expr (pe_xi rfl T.cg_StoreError T.xi_StoreError (pa_cons (pv 0) (pa_cons pe_str pa_nil)))) (pss_one (ps_xs (pv 0) (pv 1))))
theorem sc_l_bag : FnScope ["_law_script", "_law_cell"] ["_law_script"] (defScope s_l_bag) := (by walk_at "fs")
theorem bd_l_bag (T : Txt K mg) : Binds K (fdOf K (He.ga K "_law_bag")) ["_law_script"] [] := T.F_l_bag.bindsN λ _ _ _ _ _ _ us hl => match us, hl with | [_], _ => rfl
theorem ok_l_bag (T : Txt K mg) (nd : NDX base) : FnX false P w K mg base CX0 1 (He.ga K "_law_bag") (fdOf K (He.ga K "_law_bag")) ["_law_script"] (sp_l_bag K) := by
 refine okX T.F_l_bag sc_l_bag len_l_bag (λ cdv A outer s H vs Q E hgu0 hr h => ⟨t_l_bag K, PSs.nox ?_, pure_l_bag vs H Q E h⟩)
 exact (pss_one (ps_ret (pe_lst (pa_cons pe_int (pa_cons pe_int (pa_cons pe_int (pa_cons (pe_lc (own := [("_law_cell", 1)]) (g := (gName 1)) (tt := tYes) rfl sc_l_bag.nd (pi_list (pe_slice sl_any (pv 0) po_none (po_some pe_int))) (blkOk_by (own := [("_law_cell", 1)]) (N := ["_law_script", "_law_cell"]) (sc := defScope s_l_bag) (by decide +kernel)) (λ _ _ _ _ _ => (pg_name (i := 1) sc_l_bag.nd rfl (by walk_at "oz"))) (λ _ _ _ _ _ => pts_nil) (λ _ _ _ _ _ => (pe_callB cr_abs (by rfl) T.b_abs (by decide +kernel) (pa_cons (pv 1) pa_nil)))) pa_nil)))))))
theorem sc_l_alike : FnScope ["_law_found", "_law_due"] ["_law_found", "_law_due"] (defScope s_l_alike) := (by walk_at "fs")
theorem bd_l_alike (T : Txt K mg) : Binds K (fdOf K (He.ga K "_law_alike")) ["_law_found", "_law_due"] [] := T.F_l_alike.bindsN λ _ _ _ _ _ _ us hl => match us, hl with | [_, _], _ => rfl
theorem ok_l_alike (T : Txt K mg) (nd : NDX base) : FnX true P w K mg base CX0 1 (He.ga K "_law_alike") (fdOf K (He.ga K "_law_alike")) ["_law_found", "_law_due"] (sp_l_alike K) := by
 refine okX T.F_l_alike sc_l_alike len_l_alike (λ cdv A outer s H vs Q E hgu0 hr h => ⟨t_l_alike K, PSs.nox ?_, pure_l_alike vs H Q E h⟩)
 have hgu : (A.deeper (envOfC "_law_alike" (defScope s_l_alike) s.heap.objs.size (He.ga K "_law_alike") cdv)).guards = some [] := hgu0 rfl
 exact (pss_one (ps_ret (pe_and (pe_cmpR (uo_eqQ (units128 hr)) (pv 0) (pv 1) (nomark _)) (pe_one (pe_cmpR (uo_eqQ (units128 hr)) (pe_callB (cr_reprQ nd.2 hgu hr.units) (by rfl) T.b_repr (by decide +kernel) (pa_cons (pv 0) pa_nil)) (pe_callB (cr_reprQ nd.2 hgu hr.units) (by rfl) T.b_repr (by decide +kernel) (pa_cons (pv 1) pa_nil)) (nomark _))))))
theorem sc_Rule_numbers : FnScope ["self"] ["self"] (defScope s_Rule_numbers) := (by walk_at "fs")
theorem bd_Rule_numbers (T : Txt K mg) : Binds K (fdOf K (mA K "Rule" "numbers")) ["self"] [] := T.F_Rule_numbers.bindsN λ _ _ _ _ _ _ us hl => match us, hl with | [_], _ => rfl
theorem ok_Rule_numbers (T : Txt K mg) (nd : NDX base) : FnX false P w K mg base CX0 1 (mA K "Rule" "numbers") (fdOf K (mA K "Rule" "numbers")) ["self"] (sp_Rule_numbers K) := by
 refine okX T.F_Rule_numbers sc_Rule_numbers len_Rule_numbers (λ cdv A outer s H vs Q E hgu0 hr h => ⟨t_Rule_numbers K, PSs.nox ?_, pure_Rule_numbers T.c vs H Q E h⟩)
 exact (pss_one (ps_ret (pe_fld (pv 0) rfl)))
theorem sc_as_told : FnScope ["at", "fits"] ["at", "fits"] (defScope s_as_told) := (by walk_at "fs")
theorem bd_as_told (T : Txt K mg) : Binds K (fdOf K (He.ga K "as_told")) ["at", "fits"] [] := T.F_as_told.bindsN λ _ _ _ _ _ _ us hl => match us, hl with | [_, _], _ => rfl
theorem ok_as_told (T : Txt K mg) (nd : NDX base) : FnX false P w K mg base (L2.CX P w) 3 (He.ga K "as_told") (fdOf K (He.ga K "as_told")) ["at", "fits"] (sp_as_told K) := by
 refine okW T.F_as_told sc_as_told len_as_told (λ cdv A outer s H vs Q E hgu0 hr h tk pw => ⟨t_as_told K (WT E), ?_, pure_as_told T.c vs H Q E h⟩)
 exact (pss_one (ps_if (pt_not (pt_val (pv 1))) (pss_one (ps_rz rfl tk T.xb_Wrong T.xf_Wrong.1 T.xf_Wrong.2 (ok_Wrong___init__ T) (hr.mono (by decide)) (bd_Wrong___init__ T) (λ _ _ _ _ _ _ _ z => z.elim) rfl T.cg_Wrong (pv 0))) pss_nil))
theorem sc_is_whole : FnScope ["thing"] ["thing"] (defScope s_is_whole) := (by walk_at "fs")
theorem bd_is_whole (T : Txt K mg) : Binds K (fdOf K (He.ga K "is_whole")) ["thing"] [] := T.F_is_whole.bindsN λ _ _ _ _ _ _ us hl => match us, hl with | [_], _ => rfl
theorem ok_is_whole (T : Txt K mg) (nd : NDX base) : FnX false P w K mg base CX0 1 (He.ga K "is_whole") (fdOf K (He.ga K "is_whole")) ["thing"] (sp_is_whole K) := by
 refine okX T.F_is_whole sc_is_whole len_is_whole (λ cdv A outer s H vs Q E hgu0 hr h => ⟨t_is_whole K, PSs.nox ?_, pure_is_whole vs H Q E h⟩)
 exact (pss_one (ps_ret (pe_and (pe_callB cr_isiQ (by rfl) T.b_isinstance (by decide +kernel) (pa_cons (pv 0) (pa_cons (pe_bltn (by rfl) T.b_int (by decide +kernel) rfl) pa_nil))) (pe_one (pe_not (pe_callB cr_isiQ (by rfl) T.b_isinstance (by decide +kernel) (pa_cons (pv 0) (pa_cons (pe_bltn (by rfl) T.b_bool (by decide +kernel) rfl) pa_nil))))))))
theorem sc_is_number_of_blocks : FnScope ["thing"] ["thing"] (defScope s_is_number_of_blocks) := (by walk_at "fs")
theorem bd_is_number_of_blocks (T : Txt K mg) : Binds K (fdOf K (He.ga K "is_number_of_blocks")) ["thing"] [] := T.F_is_number_of_blocks.bindsN λ _ _ _ _ _ _ us hl => match us, hl with | [_], _ => rfl
theorem ok_is_number_of_blocks (T : Txt K mg) (nd : NDX base) : FnX false P w K mg base CX0 2 (He.ga K "is_number_of_blocks") (fdOf K (He.ga K "is_number_of_blocks")) ["thing"] (sp_is_number_of_blocks K) := by
 refine okX T.F_is_number_of_blocks sc_is_number_of_blocks len_is_number_of_blocks (λ cdv A outer s H vs Q E hgu0 hr h => ⟨t_is_number_of_blocks K, PSs.nox ?_, pure_is_number_of_blocks vs H Q E h⟩)
 exact (pss_one (ps_ret (pe_and (pe_callX (ok_is_whole T nd) nz hr rfl T.g_is_whole T.F_is_whole.kp (bd_is_whole T) .nil pass0 (pa_cons (pv 0) pa_nil)) (pe_one (pe_chain uo_le uo_le pe_int (pv 0) (pe_globI rfl T.c_MOST_ASKED))))))
theorem sc_Rule___init__ : FnScope ["self", "last", "days", "weeks", "months", "word", "many"] ["self", "last", "days", "weeks", "months"] (defScope s_Rule___init__) := (by walk_at "fs")
theorem bd0_Rule___init__ (T : Txt K mg) : ∃ ds, Vals [.int 0, .int 0, .int 0, .int 0] ds /\ Binds K (fdOf K (mA K "Rule" "__init__")) ["self", "last", "days", "weeks", "months"] ds := T.F_Rule___init__.binds0 1 (by decide) rfl λ _ _ _ _ _ _ us ks h1 h2 => match us, ks, h1, h2 with | [_], [_, _, _, _], _, _ => ⟨_, _, _, _, _, _, rfl, rfl, _, _, _, _, _, _, rfl, rfl, _, _, _, _, _, _, rfl, rfl, _, _, _, _, _, _, rfl, rfl, rfl⟩
theorem kb_Rule___init___last_days_weeks_months (T : Txt K mg) : ∃ mv : List Value, KBn K (fdOf K (mA K "Rule" "__init__")) ["self", "last", "days", "weeks", "months"] 1 ["last", "days", "weeks", "months"] (λ us ws => (λ us mv ws => us ++ (ws ++ mv)) us mv ws) (λ vs zs => vs ++ (zs ++ [])) :=
 T.F_Rule___init__.kbinds0 1 ["last", "days", "weeks", "months"] [] (λ us mv ws => us ++ (ws ++ mv)) (by decide) (by simp) (λ r1 r2 r3 => r1.append (r3.append r2)) (λ _ _ _ _ _ _ us mv ws h1 h2 h3 => match us, mv, ws, h1, h2, h3 with | [_], [], [_, _, _, _], _, _, _ => rfl)
theorem kb_Rule___init___last (T : Txt K mg) : ∃ mv : List Value, KBn K (fdOf K (mA K "Rule" "__init__")) ["self", "last", "days", "weeks", "months"] 1 ["last"] (λ us ws => (λ us mv ws => us ++ (ws ++ mv)) us mv ws) (λ vs zs => vs ++ (zs ++ [.int 0, .int 0, .int 0])) :=
 T.F_Rule___init__.kbinds0 1 ["last"] [("days", .int 0), ("weeks", .int 0), ("months", .int 0)] (λ us mv ws => us ++ (ws ++ mv)) (by decide) (by simp) (λ r1 r2 r3 => r1.append (r3.append r2)) (λ _ _ _ _ _ _ us mv ws h1 h2 h3 => match us, mv, ws, h1, h2, h3 with | [_], [_, _, _], [_], _, _, _ => ⟨_, _, _, _, _, _, rfl, rfl, _, _, _, _, _, _, rfl, rfl, _, _, _, _, _, _, rfl, rfl, rfl⟩)
theorem kb_Rule___init___days (T : Txt K mg) : ∃ mv : List Value, KBn K (fdOf K (mA K "Rule" "__init__")) ["self", "last", "days", "weeks", "months"] 1 ["days"] (λ us ws => (λ us mv ws => us ++ pickL [1, 0, 2, 3] (ws ++ mv)) us mv ws) (λ vs zs => vs ++ (pickL [1, 0, 2, 3] (zs ++ [.int 0, .int 0, .int 0]))) :=
 T.F_Rule___init__.kbinds0 1 ["days"] [("last", .int 0), ("weeks", .int 0), ("months", .int 0)] (λ us mv ws => us ++ pickL [1, 0, 2, 3] (ws ++ mv)) (by decide) (by simp) (λ r1 r2 r3 => r1.append (pickL_vals (r3.append r2) _)) (λ _ _ _ _ _ _ us mv ws h1 h2 h3 => match us, mv, ws, h1, h2, h3 with | [_], [_, _, _], [_], _, _, _ => ⟨_, _, _, _, _, _, rfl, rfl, _, _, _, _, _, _, rfl, rfl, _, _, _, _, _, _, rfl, rfl, rfl⟩)
theorem kb_Rule___init___days_last (T : Txt K mg) : ∃ mv : List Value, KBn K (fdOf K (mA K "Rule" "__init__")) ["self", "last", "days", "weeks", "months"] 1 ["days", "last"] (λ us ws => (λ us mv ws => us ++ pickL [1, 0, 2, 3] (ws ++ mv)) us mv ws) (λ vs zs => vs ++ (pickL [1, 0, 2, 3] (zs ++ [.int 0, .int 0]))) :=
 T.F_Rule___init__.kbinds0 1 ["days", "last"] [("weeks", .int 0), ("months", .int 0)] (λ us mv ws => us ++ pickL [1, 0, 2, 3] (ws ++ mv)) (by decide) (by simp) (λ r1 r2 r3 => r1.append (pickL_vals (r3.append r2) _)) (λ _ _ _ _ _ _ us mv ws h1 h2 h3 => match us, mv, ws, h1, h2, h3 with | [_], [_, _], [_, _], _, _, _ => ⟨_, _, _, _, _, _, rfl, rfl, _, _, _, _, _, _, rfl, rfl, rfl⟩)
theorem kb_Rule___init___months_days_weeks (T : Txt K mg) : ∃ mv : List Value, KBn K (fdOf K (mA K "Rule" "__init__")) ["self", "last", "days", "weeks", "months"] 1 ["months", "days", "weeks"] (λ us ws => (λ us mv ws => us ++ pickL [3, 1, 2, 0] (ws ++ mv)) us mv ws) (λ vs zs => vs ++ (pickL [3, 1, 2, 0] (zs ++ [.int 0]))) :=
 T.F_Rule___init__.kbinds0 1 ["months", "days", "weeks"] [("last", .int 0)] (λ us mv ws => us ++ pickL [3, 1, 2, 0] (ws ++ mv)) (by decide) (by simp) (λ r1 r2 r3 => r1.append (pickL_vals (r3.append r2) _)) (λ _ _ _ _ _ _ us mv ws h1 h2 h3 => match us, mv, ws, h1, h2, h3 with | [_], [_], [_, _, _], _, _, _ => ⟨_, _, _, _, _, _, rfl, rfl, rfl⟩)
theorem ok_Rule___init__ (T : Txt K mg) (nd : NDX base) : FnX false P w K mg base (L2.CX P w) 4 (mA K "Rule" "__init__") (fdOf K (mA K "Rule" "__init__")) ["self", "last", "days", "weeks", "months"] (sp_Rule___init__ K) := by
 refine okW T.F_Rule___init__ sc_Rule___init__ len_Rule___init__ (λ cdv A outer s H vs Q E hgu0 hr h tk pw => ⟨t_Rule___init__ K (WT E), ?_, pure_Rule___init__ T.c vs H Q E h⟩)
 exact (pss_cons (ps_for pw rfl (pi_zipG true true (by rfl) T.b_zip (pa_cons (pe_tup (pa_cons pe_str (pa_cons pe_str (pa_cons pe_str (pa_cons pe_str pa_nil))))) (pa_cons (pe_tup (pa_cons (pv 1) (pa_cons (pv 2) (pa_cons (pv 3) (pa_cons (pv 4) pa_nil))))) pa_nil))) (pg_tup rfl (pgs_cons (pg_name (i := 5) sc_Rule___init__.nd rfl (by walk_at "oz")) (pgs_cons (pg_name (i := 6) sc_Rule___init__.nd rfl (by walk_at "oz")) pgs_nil))) (pss_one (ps_expr (pe_callW (ok_as_told T nd) nz hr rfl T.g_as_told T.F_as_told.kp (bd_as_told T) .nil (λ σ => passAt tk σ) (pa_cons (pv 5) (pa_cons (pe_callX (ok_is_number_of_blocks T nd) nz (hr.mono (by decide)) rfl T.g_is_number_of_blocks T.F_is_number_of_blocks.kp (bd_is_number_of_blocks T) .nil pass0 (pa_cons (pv 6) pa_nil)) pa_nil))))))
     (pss_one (ps_fld (pv 0) (pe_tup (pa_cons (pv 1) (pa_cons (pv 2) (pa_cons (pv 3) (pa_cons (pv 4) pa_nil))))) (by rfl))))
theorem sc_Rule___repr__ : FnScope ["self", "last", "days", "weeks", "months"] ["self"] (defScope s_Rule___repr__) := (by walk_at "fs")
theorem bd_Rule___repr__ (T : Txt K mg) : Binds K (fdOf K (mA K "Rule" "__repr__")) ["self"] [] := T.F_Rule___repr__.bindsN λ _ _ _ _ _ _ us hl => match us, hl with | [_], _ => rfl
theorem ok_Rule___repr__ (T : Txt K mg) (nd : NDX base) : FnX false P w K mg base CX0 1 (mA K "Rule" "__repr__") (fdOf K (mA K "Rule" "__repr__")) ["self"] (sp_Rule___repr__ K) := by
 refine okX T.F_Rule___repr__ sc_Rule___repr__ len_Rule___repr__ (λ cdv A outer s H vs Q E hgu0 hr h => ⟨t_Rule___repr__ K, PSs.nox ?_, pure_Rule___repr__ T.c vs H Q E h⟩)
 exact (pss_cons (ps_asg (pe_fld (pv 0) rfl) (pg_tup rfl (pgs_cons (pg_name (i := 1) sc_Rule___repr__.nd rfl (by walk_at "oz")) (pgs_cons (pg_name (i := 2) sc_Rule___repr__.nd rfl (by walk_at "oz")) (pgs_cons (pg_name (i := 3) sc_Rule___repr__.nd rfl (by walk_at "oz")) (pgs_cons (pg_name (i := 4) sc_Rule___repr__.nd rfl (by walk_at "oz")) pgs_nil))))))
     (pss_one (ps_ret (pe_fst (PJ.cons pe_str (PJ.cons (pe_fmt (pv 1)) (PJ.cons pe_str (PJ.cons (pe_fmt (pv 2)) (PJ.cons pe_str (PJ.cons (pe_fmt (pv 3)) (PJ.cons pe_str (PJ.cons (pe_fmt (pv 4)) (PJ.cons pe_str PJ.nil)))))))))))))
theorem sc_l_take : FnScope ["_law_bag_here", "_law_many", "_law_first", "_law_second", "_law_cell", "_law_value"] ["_law_bag_here", "_law_many"] (defScope s_l_take) := (by walk_at "fs")
theorem bd_l_take (T : Txt K mg) : Binds K (fdOf K (He.ga K "_law_take")) ["_law_bag_here", "_law_many"] [] := T.F_l_take.bindsN λ _ _ _ _ _ _ us hl => match us, hl with | [_, _], _ => rfl
theorem ok_l_take (T : Txt K mg) (nd : NDX base) : FnX false P w K mg base CX0 1 (He.ga K "_law_take") (fdOf K (He.ga K "_law_take")) ["_law_bag_here", "_law_many"] (sp_l_take K) := by
 refine okX T.F_l_take sc_l_take len_l_take (λ cdv A outer s H vs Q E hgu0 hr h => ⟨t_l_take K, PSs.nox ?_, pure_l_take vs H Q E h⟩)
 exact (pss_cons (ps_if (pt_cmpR (uo_eq hr.units) (pe_ix ix_any (pv 0) pe_int (λ _ _ => rfl)) pe_int (nomark _)) (pss_cons (ps_set (i := 4) sc_l_take.nd rfl (by walk_at "oz") pe_int)
     (pss_cons (ps_if (pt_cmpR uo_lt (pe_ix ix_any (pv 0) pe_int (λ _ _ => rfl)) (pe_callB cr_len (by rfl) T.b_len (by decide +kernel) (pa_cons (pe_ix ix_any (pv 0) pe_int (λ _ _ => rfl)) pa_nil)) (nomark _)) (pss_one (ps_set (i := 4) sc_l_take.nd rfl (by walk_at "oz") (pe_ix ix_any (pe_ix ix_any (pv 0) pe_int (λ _ _ => rfl)) (pe_ix ix_any (pv 0) pe_int (λ _ _ => rfl)) (λ _ _ => rfl)))) pss_nil)
     (pss_cons (ps_augS (pv 0) pe_int (get_any hr.u1) pe_int (ip_of io_add) (set_any hr.u1))
     (pss_cons (ps_if (pt_cmpR uo_ge (pv 4) pe_int (nomark _)) (pss_one (ps_asg (pv 4) (pg_sub (pv 0) pe_int (set_any hr.u1)))) pss_nil)
     (pss_one (ps_asg (pe_op uo_mod (pe_op uo_add (pe_op uo_add (pe_op uo_mul (pe_ix ix_any (pv 0) pe_int (λ _ _ => rfl)) pe_int) (pe_op uo_mod (pv 4) pe_int)) (pe_op uo_mul pe_int (pe_ix ix_any (pv 0) pe_int (λ _ _ => rfl)))) pe_int) (pg_sub (pv 0) pe_int (set_any hr.u1)))))))) pss_nil)
     (pss_cons (ps_if (pt_cmpR uo_gt (pe_ix ix_any (pv 0) pe_int (λ _ _ => rfl)) pe_int (nomark _)) (pss_cons (ps_set (i := 5) sc_l_take.nd rfl (by walk_at "oz") (pe_op uo_mod (pe_ix ix_any (pv 0) pe_int (λ _ _ => rfl)) (pv 1)))
     (pss_cons (ps_asg (pe_op uo_div (pe_ix ix_any (pv 0) pe_int (λ _ _ => rfl)) (pv 1)) (pg_sub (pv 0) pe_int (set_any hr.u1)))
     (pss_one (ps_ret (pv 5))))) pss_nil)
     (pss_cons (ps_set (i := 2) sc_l_take.nd rfl (by walk_at "oz") (pe_op uo_mod (pe_op uo_mul (pe_op uo_add (pe_ix ix_any (pv 0) pe_int (λ _ _ => rfl)) pe_int) pe_int) pe_int))
     (pss_cons (ps_set (i := 3) sc_l_take.nd rfl (by walk_at "oz") (pe_op uo_mod (pe_op uo_mul (pe_op uo_mod (pe_op uo_mul (pv 2) (pv 2)) pe_int) pe_int) pe_int))
     (pss_cons (ps_if (pt_cmpR uo_gt (pv 1) pe_int (nomark _)) (pss_one (ps_ret (pe_op uo_mod (pe_op uo_add (pe_op uo_mul (pv 3) pe_int) (pv 2)) (pv 1)))) pss_nil)
     (pss_one (ps_ret (pe_op uo_mod (pe_op uo_div (pv 3) pe_int) (pv 1)))))))))
theorem sc_l_numbers : FnScope ["_law_bag_here", "_law_cap", "_law_found", "_law_k"] ["_law_bag_here"] (defScope s_l_numbers) := (by walk_at "fs")
theorem bd_l_numbers (T : Txt K mg) : Binds K (fdOf K (He.ga K "_law_numbers")) ["_law_bag_here"] [] := T.F_l_numbers.bindsN λ _ _ _ _ _ _ us hl => match us, hl with | [_], _ => rfl
theorem ok_l_numbers (T : Txt K mg) (nd : NDX base) : FnX false P w K mg base CX0 2 (He.ga K "_law_numbers") (fdOf K (He.ga K "_law_numbers")) ["_law_bag_here"] (sp_l_numbers K) := by
 refine okX T.F_l_numbers sc_l_numbers len_l_numbers (λ cdv A outer s H vs Q E hgu0 hr h => ⟨t_l_numbers K, PSs.nox ?_, pure_l_numbers vs H Q E h⟩)
 exact (pss_cons (ps_set (i := 1) sc_l_numbers.nd rfl (by walk_at "oz") (pe_ix ix_any (pe_lst (pa_cons pe_int (pa_cons pe_int (pa_cons pe_int pa_nil)))) (pe_callX (ok_l_take T nd) nz hr rfl T.g_l_take T.F_l_take.kp (bd_l_take T) .nil pass0 (pa_cons (pv 0) (pa_cons pe_int pa_nil))) (λ _ _ => rfl)))
     (pss_cons (ps_setLc (i := 2) (own := [("_law_k", 3)]) (g := (gName 3)) (tt := tYes) rfl sc_l_numbers.nd rfl rfl (sw_true rfl rfl rfl (by decide +kernel)) (pi_range1 (by rfl) T.b_range (pa_cons pe_int pa_nil)) (blkOk_by (own := [("_law_k", 3)]) (N := ["_law_bag_here", "_law_cap", "_law_found", "_law_k"]) (sc := defScope s_l_numbers) (by decide +kernel)) (λ _ _ _ _ _ => (pg_name (i := 3) sc_l_numbers.nd rfl (by walk_at "oz"))) (λ _ _ _ _ _ => pts_nil) (λ _ _ _ _ _ => (pe_callX (ok_l_take T nd) nz hr rfl T.g_l_take T.F_l_take.kp (bd_l_take T) .nil pass0 (pa_cons (pv 0) (pa_cons (pv 1) pa_nil)))))
     (pss_cons (ps_for PassesOwn.never rfl (pi_range1 (by rfl) T.b_range (pa_cons pe_int pa_nil)) (pg_name (i := 3) sc_l_numbers.nd rfl (by walk_at "oz")) (pss_one (ps_if (pt_cmpR (uo_eq hr.units) (pe_callX (ok_l_take T nd) nz hr rfl T.g_l_take T.F_l_take.kp (bd_l_take T) .nil pass0 (pa_cons (pv 0) (pa_cons pe_int pa_nil))) pe_int (nomark _)) (pss_one (ps_asg pe_int (pg_sub (pv 2) (pv 3) (set_any hr.u1)))) pss_nil)))
     (pss_one (ps_ret (pe_callTy cr_tupL (by rfl) T.b_tuple (by decide +kernel) (pa_cons (pv 2) pa_nil)))))))
theorem sc_l_rule : FnScope ["_law_four"] ["_law_four"] (defScope s_l_rule) := (by walk_at "fs")
theorem bd_l_rule (T : Txt K mg) : Binds K (fdOf K (He.ga K "_law_rule")) ["_law_four"] [] := T.F_l_rule.bindsN λ _ _ _ _ _ _ us hl => match us, hl with | [_], _ => rfl
theorem ok_l_rule (T : Txt K mg) (nd : NDX base) : FnX false P w K mg base (L2.CX P w) 6 (He.ga K "_law_rule") (fdOf K (He.ga K "_law_rule")) ["_law_four"] (sp_l_rule K) := by
 refine okW T.F_l_rule sc_l_rule len_l_rule (λ cdv A outer s H vs Q E hgu0 hr h tk pw => ⟨t_l_rule K (WT E), ?_, pure_l_rule T.c vs H Q E h⟩)
 obtain ⟨mv_kb_Rule___init___last_days_weeks_months, kb_Rule___init___last_days_weeks_months⟩ := kb_Rule___init___last_days_weeks_months T
 exact (pss_one (ps_ret (pe_makeWN0 (ks := ["last", "days", "weeks", "months"]) T.mk_Rule (ok_Rule___init__ T nd) hr rfl T.cg_Rule kb_Rule___init___last_days_weeks_months (λ σ => passAt tk σ)  (pk_cons (pe_ix ix_any (pv 0) pe_int (λ _ _ => rfl)) (pk_cons (pe_ix ix_any (pv 0) pe_int (λ _ _ => rfl)) (pk_cons (pe_ix ix_any (pv 0) pe_int (λ _ _ => rfl)) (pk_cons (pe_ix ix_any (pv 0) pe_int (λ _ _ => rfl)) pk_nil)))))))
theorem sc_l_made : FnScope ["_law_four"] ["_law_four"] (defScope s_l_made) := (by walk_at "fs")
theorem bd_l_made (T : Txt K mg) : Binds K (fdOf K (He.ga K "_law_made")) ["_law_four"] [] := T.F_l_made.bindsN λ _ _ _ _ _ _ us hl => match us, hl with | [_], _ => rfl
theorem ok_l_made (T : Txt K mg) (nd : NDX base) : FnX false P w K mg base (L2.CX P w) 7 (He.ga K "_law_made") (fdOf K (He.ga K "_law_made")) ["_law_four"] (sp_l_made K) := by
 refine okW T.F_l_made sc_l_made len_l_made (λ cdv A outer s H vs Q E hgu0 hr h tk pw => ⟨t_l_made K (WT E), ?_, pure_l_made T.c vs H Q E h⟩)
 obtain ⟨mv_kb_Rule___init___days, kb_Rule___init___days⟩ := kb_Rule___init___days T
 obtain ⟨mv_kb_Rule___init___days_last, kb_Rule___init___days_last⟩ := kb_Rule___init___days_last T
 obtain ⟨mv_kb_Rule___init___last, kb_Rule___init___last⟩ := kb_Rule___init___last T
 obtain ⟨mv_kb_Rule___init___months_days_weeks, kb_Rule___init___months_days_weeks⟩ := kb_Rule___init___months_days_weeks T
 exact (pss_cons (ps_if (pt_cmpR (uo_eq hr.units) (pe_slice sl_tupA (pv 0) (po_some pe_int) po_none) (pe_tup (pa_cons pe_int (pa_cons pe_int (pa_cons pe_int pa_nil)))) (nomark _)) (pss_one (ps_ret (pe_makeWN0 (ks := ["last"]) T.mk_Rule (ok_Rule___init__ T nd) (hr.mono (by decide)) rfl T.cg_Rule kb_Rule___init___last (λ σ => passAt tk σ)  (pk_cons (pe_ix ix_any (pv 0) pe_int (λ _ _ => rfl)) pk_nil)))) pss_nil)
     (pss_cons (ps_if (PW.pt (pw_and (pt_cmpR (uo_eq hr.units) (pe_ix ix_any (pv 0) pe_int (λ _ _ => rfl)) pe_int (nomark _)) (pw_and1 (pt_cmpR (uo_eq hr.units) (pe_slice sl_tupA (pv 0) (po_some pe_int) po_none) (pe_tup (pa_cons pe_int (pa_cons pe_int pa_nil))) (nomark _))))) (pss_one (ps_ret (pe_makeWN0 (ks := ["days"]) T.mk_Rule (ok_Rule___init__ T nd) (hr.mono (by decide)) rfl T.cg_Rule kb_Rule___init___days (λ σ => passAt tk σ)  (pk_cons (pe_ix ix_any (pv 0) pe_int (λ _ _ => rfl)) pk_nil)))) pss_nil)
     (pss_cons (ps_if (PW.pt (pw_and (pt_cmpR (uo_eq hr.units) (pe_ix ix_any (pv 0) pe_int (λ _ _ => rfl)) pe_int (nomark _)) (pw_and1 (pt_cmpR (uo_eq hr.units) (pe_ix ix_any (pv 0) pe_int (λ _ _ => rfl)) pe_int (nomark _))))) (pss_one (ps_ret (pe_makeWN0 (ks := ["days", "last"]) T.mk_Rule (ok_Rule___init__ T nd) (hr.mono (by decide)) rfl T.cg_Rule kb_Rule___init___days_last (λ σ => passAt tk σ)  (pk_cons (pe_ix ix_any (pv 0) pe_int (λ _ _ => rfl)) (pk_cons (pe_ix ix_any (pv 0) pe_int (λ _ _ => rfl)) pk_nil))))) pss_nil)
     (pss_cons (ps_if (pt_cmpR (uo_eq hr.units) (pe_ix ix_any (pv 0) pe_int (λ _ _ => rfl)) pe_int (nomark _)) (pss_one (ps_ret (pe_makeWN0 (ks := ["months", "days", "weeks"]) T.mk_Rule (ok_Rule___init__ T nd) (hr.mono (by decide)) rfl T.cg_Rule kb_Rule___init___months_days_weeks (λ σ => passAt tk σ)  (pk_cons (pe_ix ix_any (pv 0) pe_int (λ _ _ => rfl)) (pk_cons (pe_ix ix_any (pv 0) pe_int (λ _ _ => rfl)) (pk_cons (pe_ix ix_any (pv 0) pe_int (λ _ _ => rfl)) pk_nil)))))) pss_nil)
     (pss_one (ps_ret (pe_callW (ok_l_rule T nd) nz hr rfl T.g_l_rule T.F_l_rule.kp (bd_l_rule T) .nil (λ σ => passAt tk σ) (pa_cons (pv 0) pa_nil))))))))
theorem sc_Rule___eq__ : FnScope ["self", "other"] ["self", "other"] (defScope s_Rule___eq__) := (by walk_at "fs")
theorem bd_Rule___eq__ (T : Txt K mg) : Binds K (fdOf K (mA K "Rule" "__eq__")) ["self", "other"] [] := T.F_Rule___eq__.bindsN λ _ _ _ _ _ _ us hl => match us, hl with | [_, _], _ => rfl
theorem ok_Rule___eq__ (T : Txt K mg) (nd : NDX base) : FnX false P w K mg base CX0 1 (mA K "Rule" "__eq__") (fdOf K (mA K "Rule" "__eq__")) ["self", "other"] (sp_Rule___eq__ K) := by
 refine okX T.F_Rule___eq__ sc_Rule___eq__ len_Rule___eq__ (λ cdv A outer s H vs Q E hgu0 hr h => ⟨t_Rule___eq__ K, PSs.nox ?_, pure_Rule___eq__ T.c vs H Q E h⟩)
 exact (pss_one (ps_ret (pe_and (pe_callB cr_isiQ (by rfl) T.b_isinstance (by decide +kernel) (pa_cons (pv 1) (pa_cons (pe_glob rfl T.cg_Rule rfl) pa_nil))) (pe_one (pe_cmpR (uo_eq hr.units) (pe_fld (pv 0) rfl) (pe_fld (pv 1) rfl) (nomark _))))))
theorem sc_l_twins : FnScope ["_law_bag_here", "_law_four", "_law_at", "_law_other"] ["_law_bag_here", "_law_four"] (defScope s_l_twins) := (by walk_at "fs")
theorem bd_l_twins (T : Txt K mg) : Binds K (fdOf K (He.ga K "_law_twins")) ["_law_bag_here", "_law_four"] [] := T.F_l_twins.bindsN λ _ _ _ _ _ _ us hl => match us, hl with | [_, _], _ => rfl
theorem ok_l_twins (T : Txt K mg) (nd : NDX base) : FnX false P w K mg base CX0 2 (He.ga K "_law_twins") (fdOf K (He.ga K "_law_twins")) ["_law_bag_here", "_law_four"] (sp_l_twins K) := by
 refine okX T.F_l_twins sc_l_twins len_l_twins (λ cdv A outer s H vs Q E hgu0 hr h => ⟨t_l_twins K, PSs.nox ?_, pure_l_twins vs H Q E h⟩)
 exact (pss_cons (ps_set (i := 2) sc_l_twins.nd rfl (by walk_at "oz") (pe_callX (ok_l_take T nd) nz hr rfl T.g_l_take T.F_l_take.kp (bd_l_take T) .nil pass0 (pa_cons (pv 0) (pa_cons pe_int pa_nil))))
     (pss_cons (ps_set (i := 3) sc_l_twins.nd rfl (by walk_at "oz") (pe_callTy cr_list (by rfl) T.b_list (by decide +kernel) (pa_cons (pv 1) pa_nil)))
     (pss_cons (ps_if (PW.pt (pw_and (pt_cmpR uo_lt (pe_ix ix_any (pv 1) (pv 2) (λ _ _ => rfl)) pe_int (nomark _)) (pw_and1 (pt_cmpR uo_gt (pe_ix ix_any (pv 1) (pe_op uo_sub (pv 2) pe_int) (λ _ _ => rfl)) pe_int (nomark _))))) (pss_cons (ps_augS (pv 3) (pv 2) (get_anyN hr.u1) pe_int (ip_of io_add) (set_any hr.u1))
     (pss_one (ps_augS (pv 3) (pe_op uo_sub (pv 2) pe_int) (get_anyN hr.u1) pe_int (ip_of io_sub) (set_any hr.u1)))) pss_nil)
     (pss_one (ps_ret (pe_lst (pa_cons (pe_op op_catA (pe_slice sl_tupA (pv 1) (po_some pe_int) po_none) (pe_slice sl_tupA (pv 1) po_none (po_some pe_int))) (pa_cons (pe_revT (pv 1)) (pa_cons (pe_callTy cr_tupL (by rfl) T.b_tuple (by decide +kernel) (pa_cons (pv 3) pa_nil)) pa_nil)))))))))
theorem sc_l_any : FnScope ["_law_bag_here", "_law_some"] ["_law_bag_here", "_law_some"] (defScope s_l_any) := (by walk_at "fs")
theorem bd_l_any (T : Txt K mg) : Binds K (fdOf K (He.ga K "_law_any")) ["_law_bag_here", "_law_some"] [] := T.F_l_any.bindsN λ _ _ _ _ _ _ us hl => match us, hl with | [_, _], _ => rfl
theorem ok_l_any (T : Txt K mg) (nd : NDX base) : FnX false P w K mg base CX0 2 (He.ga K "_law_any") (fdOf K (He.ga K "_law_any")) ["_law_bag_here", "_law_some"] (sp_l_any K) := by
 refine okX T.F_l_any sc_l_any len_l_any (λ cdv A outer s H vs Q E hgu0 hr h => ⟨t_l_any K, PSs.nox ?_, pure_l_any vs H Q E h⟩)
 exact (pss_one (ps_ret (pe_ix ix_any (pv 1) (pe_callX (ok_l_take T nd) nz hr rfl T.g_l_take T.F_l_take.kp (bd_l_take T) .nil pass0 (pa_cons (pv 0) (pa_cons (pe_callB cr_len (by rfl) T.b_len (by decide +kernel) (pa_cons (pv 1) pa_nil)) pa_nil))) (λ _ _ => rfl))))
theorem sc_l_refused : FnScope ["_law_four", "_law_found", "e"] ["_law_four"] (defScope s_l_refused) := (by walk_at "fs")
theorem bd_l_refused (T : Txt K mg) : Binds K (fdOf K (He.ga K "_law_refused")) ["_law_four"] [] := T.F_l_refused.bindsN λ _ _ _ _ _ _ us hl => match us, hl with | [_], _ => rfl
theorem ok_l_refused (T : Txt K mg) (nd : NDX base) : FnX false P w K mg base CX0 7 (He.ga K "_law_refused") (fdOf K (He.ga K "_law_refused")) ["_law_four"] (sp_l_refused K) := by
 refine okX T.F_l_refused sc_l_refused len_l_refused (λ cdv A outer s H vs Q E hgu0 hr h => ⟨t_l_refused K, PSs.nox ?_, pure_l_refused T.c vs H Q E h⟩)
 exact (pss_cons (ps_set (i := 1) sc_l_refused.nd rfl (by walk_at "oz") pe_non)
     (pss_cons (ps_tryT rfl rfl sc_l_refused.nd tk0 (λ W pn xe tk pw => by exact (pss_one (ps_set (i := 1) sc_l_refused.nd rfl (by walk_at "oz") (pe_methW0 (pe_callW (ok_l_rule T nd) nz hr rfl T.g_l_rule T.F_l_rule.kp (bd_l_rule T) .nil (λ σ => passAt tk σ) (pa_cons (pv 0) pa_nil)) T.cl_Rule T.me_Rule_numbers (ok_Rule_numbers T nd) nz (hr.mono (by decide)) (bd_Rule_numbers T) .nil (λ _ => pas0))))) (HdOk.named (i := 2) (test1 ⟨rfl, by decide, .inl T.cg_Wrong⟩) rfl rfl (λ a oe cls d pn hz hf => by exact (pss_one (ps_set (i := 1) sc_l_refused.nd rfl (by walk_at "oz") (pe_xg List.mem_cons_self hz hf (pv 2))))) HdOk.nil))
     (pss_one (ps_ret (pv 1)))))
theorem sc_l_wrong : FnScope ["_law_bag_here", "_law_four", "_law_odd", "_law_spoilt", "_law_k", "_law_due"] ["_law_bag_here", "_law_four"] (defScope s_l_wrong) := (by walk_at "fs")
theorem bd_l_wrong (T : Txt K mg) : Binds K (fdOf K (He.ga K "_law_wrong")) ["_law_bag_here", "_law_four"] [] := T.F_l_wrong.bindsN λ _ _ _ _ _ _ us hl => match us, hl with | [_, _], _ => rfl
theorem ok_l_wrong (T : Txt K mg) (nd : NDX base) : FnX true P w K mg base CX0 8 (He.ga K "_law_wrong") (fdOf K (He.ga K "_law_wrong")) ["_law_bag_here", "_law_four"] (sp_l_wrong K) := by
 refine okX T.F_l_wrong sc_l_wrong len_l_wrong (λ cdv A outer s H vs Q E hgu0 hr h => ⟨t_l_wrong K, PSs.nox ?_, pure_l_wrong vs H Q E h⟩)
 have hgu : (A.deeper (envOfC "_law_wrong" (defScope s_l_wrong) s.heap.objs.size (He.ga K "_law_wrong") cdv)).guards = some [] := hgu0 rfl
 exact (pss_cons (ps_set (i := 2) sc_l_wrong.nd rfl (by walk_at "oz") (pe_callTy cr_list (by rfl) T.b_list (by decide +kernel) (pa_cons (pv 1) pa_nil)))
     (pss_cons (ps_set (i := 3) sc_l_wrong.nd rfl (by walk_at "oz") (pe_lst (pa_cons (pe_callX (ok_l_take T nd) nz (hr.mono (by decide)) rfl T.g_l_take T.F_l_take.kp (bd_l_take T) .nil pass0 (pa_cons (pv 0) (pa_cons pe_int pa_nil))) (pa_cons (pe_callX (ok_l_take T nd) nz (hr.mono (by decide)) rfl T.g_l_take T.F_l_take.kp (bd_l_take T) .nil pass0 (pa_cons (pv 0) (pa_cons pe_int pa_nil))) pa_nil))))
     (pss_cons (ps_for PassesOwn.never rfl (pi_list (pv 3)) (pg_name (i := 4) sc_l_wrong.nd rfl (by walk_at "oz")) (pss_one (ps_asg (pe_callX (ok_l_any T nd) nz (hr.mono (by decide)) rfl T.g_l_any T.F_l_any.kp (bd_l_any T) .nil pass0 (pa_cons (pv 0) (pa_cons (pe_lst (pa_cons pe_bl (pa_cons pe_bl (pa_cons pe_non (pa_cons pe_str (pa_cons (pe_un un_neg pe_int) (pa_cons pe_int (pa_cons (pe_lst (pa_cons pe_int pa_nil)) (pa_cons (pe_tup pa_nil) (pa_cons (pe_op uo_pow pe_int pe_int) (pa_cons (pe_fz pe_dnewK) pa_nil))))))))))) pa_nil))) (pg_sub (pv 2) (pv 4) (set_any hr.u1)))))
     (pss_cons (ps_set (i := 5) sc_l_wrong.nd rfl (by walk_at "oz") (pe_ix ix_any (pe_lst (pa_cons pe_str (pa_cons pe_str (pa_cons pe_str (pa_cons pe_str pa_nil))))) (pe_callB (cr_min rfl) (by rfl) T.b_min (by decide +kernel) (pa_cons (pv 3) pa_nil)) (λ _ _ => rfl)))
     (pss_one (ps_ret (pe_callB (cr_all rfl) (by rfl) T.b_all (by decide +kernel) (pa_cons (pe_lc (own := [("_law_k", 4)]) (g := (gName 4)) (tt := tYes) rfl sc_l_wrong.nd (pi_range1 (by rfl) T.b_range (pa_cons (pe_op uo_add pe_int (pe_op uo_mod (pe_ix ix_any (pv 3) pe_int (λ _ _ => rfl)) pe_int)) pa_nil)) (blkOk_by (own := [("_law_k", 4)]) (N := ["_law_bag_here", "_law_four", "_law_odd", "_law_spoilt", "_law_k", "_law_due"]) (sc := defScope s_l_wrong) (by decide +kernel)) (λ _ _ _ _ _ => (pg_name (i := 4) sc_l_wrong.nd rfl (by walk_at "oz"))) (λ _ _ _ _ _ => pts_nil) (λ _ _ _ _ _ => (pe_callX (ok_l_alike T nd) (λ _ => hgu) (hr.mono (by decide)) rfl T.g_l_alike T.F_l_alike.kp (bd_l_alike T) .nil pass0 (pa_cons (pe_callX (ok_l_refused T nd) nz hr rfl T.g_l_refused T.F_l_refused.kp (bd_l_refused T) .nil pass0 (pa_cons (pv 2) pa_nil)) (pa_cons (pv 5) pa_nil))))) pa_nil))))))))
theorem sc_law : FnScope ["_law_script", "_law_bag_here", "_law_turn", "_law_four", "_law_rule_here", "_law_shown", "_law_other", "_law_same", "_law_told", "_law_twin", "_law_thing"] ["_law_script"] (defScope s_law) := (by walk_at "fs")
theorem ok_law (T : Txt K mg) (nd : NDX base) : FnX true P w K mg base CX0 9 (He.ga K "law") (fdOf K (He.ga K "law")) ["_law_script"] (sp_law K) := by
 refine okX T.F_law sc_law len_law (λ cdv A outer s H vs Q E hgu0 hr h => ⟨t_law K, PSs.nox ?_, pure_law T.c vs H Q E h⟩)
 have hgu : (A.deeper (envOfC "law" (defScope s_law) s.heap.objs.size (He.ga K "law") cdv)).guards = some [] := hgu0 rfl
 obtain ⟨ds_Rule___init__, vd_Rule___init__, bd0_Rule___init__⟩ := bd0_Rule___init__ T
 exact (pss_cons (ps_set (i := 1) sc_law.nd rfl (by walk_at "oz") (pe_callX (ok_l_bag T nd) nz (hr.mono (by decide)) rfl T.g_l_bag T.F_l_bag.kp (bd_l_bag T) .nil pass0 (pa_cons (pv 0) pa_nil)))
     (pss_cons (ps_if (pt_not (pt_val (pe_callX (ok_l_alike T nd) (λ _ => hgu) (hr.mono (by decide)) rfl T.g_l_alike T.F_l_alike.kp (bd_l_alike T) .nil pass0 (pa_cons (pe_tup (pa_cons (pe_globI rfl T.c_DAY) (pa_cons (pe_globI rfl T.c_WEEK) (pa_cons (pe_globI rfl T.c_MONTH) pa_nil)))) (pa_cons (pe_tup (pa_cons pe_int (pa_cons pe_int (pa_cons pe_int pa_nil)))) pa_nil))))) (pss_one (ps_ret pe_bl)) pss_nil)
     (pss_cons (ps_if (pt_not (pt_val (pe_callX (ok_l_alike T nd) (λ _ => hgu) (hr.mono (by decide)) rfl T.g_l_alike T.F_l_alike.kp (bd_l_alike T) .nil pass0 (pa_cons (pe_lst (pa_cons (pe_methW0 (pe_makeW0 T.mk_Rule (ok_Rule___init__ T nd) (hr.mono (by decide)) rfl T.cg_Rule bd0_Rule___init__ vd_Rule___init__ (λ _ => pasF) ) T.cl_Rule T.me_Rule_numbers (ok_Rule_numbers T nd) nz (hr.mono (by decide)) (bd_Rule_numbers T) .nil (λ _ => pas0)) (pa_cons (pe_callB (cr_reprI T.me_Rule___repr__ (ok_Rule___repr__ T nd) nz (hr.mono (by decide)) (bd_Rule___repr__ T)) (by rfl) T.b_repr (by decide +kernel) (pa_cons (pe_makeW0 T.mk_Rule (ok_Rule___init__ T nd) (hr.mono (by decide)) rfl T.cg_Rule bd0_Rule___init__ vd_Rule___init__ (λ _ => pasF) ) pa_nil)) pa_nil))) (pa_cons (pe_lst (pa_cons (pe_tup (pa_cons pe_int (pa_cons pe_int (pa_cons pe_int (pa_cons pe_int pa_nil))))) (pa_cons pe_str pa_nil))) pa_nil))))) (pss_one (ps_ret pe_bl)) pss_nil)
     (pss_cons (ps_for PassesOwn.never rfl (pi_range1 (by rfl) T.b_range (pa_cons pe_int pa_nil)) (pg_name (i := 2) sc_law.nd rfl (by walk_at "oz")) (pss_cons (ps_set (i := 3) sc_law.nd rfl (by walk_at "oz") (pe_callX (ok_l_numbers T nd) nz (hr.mono (by decide)) rfl T.g_l_numbers T.F_l_numbers.kp (bd_l_numbers T) .nil pass0 (pa_cons (pv 1) pa_nil)))
     (pss_cons (ps_set (i := 4) sc_law.nd rfl (by walk_at "oz") (pe_callW (ok_l_made T nd) nz (hr.mono (by decide)) rfl T.g_l_made T.F_l_made.kp (bd_l_made T) .nil (λ _ => pasF) (pa_cons (pv 3) pa_nil)))
     (pss_cons (ps_set (i := 5) sc_law.nd rfl (by walk_at "oz") (pe_fst (PJ.cons pe_str (PJ.cons (pe_fmt (pe_ix ix_any (pv 3) pe_int (λ _ _ => rfl))) (PJ.cons pe_str (PJ.cons (pe_fmt (pe_ix ix_any (pv 3) pe_int (λ _ _ => rfl))) (PJ.cons pe_str (PJ.cons (pe_fmt (pe_ix ix_any (pv 3) pe_int (λ _ _ => rfl))) (PJ.cons pe_str (PJ.cons (pe_fmt (pe_ix ix_any (pv 3) pe_int (λ _ _ => rfl))) (PJ.cons pe_str PJ.nil)))))))))))
     (pss_cons (ps_set (i := 6) sc_law.nd rfl (by walk_at "oz") (pe_callTy cr_list (by rfl) T.b_list (by decide +kernel) (pa_cons (pv 3) pa_nil)))
     (pss_cons (ps_asg (pe_callX (ok_l_take T nd) nz (hr.mono (by decide)) rfl T.g_l_take T.F_l_take.kp (bd_l_take T) .nil pass0 (pa_cons (pv 1) (pa_cons pe_int pa_nil))) (pg_sub (pv 6) (pe_callX (ok_l_take T nd) nz (hr.mono (by decide)) rfl T.g_l_take T.F_l_take.kp (bd_l_take T) .nil pass0 (pa_cons (pv 1) (pa_cons pe_int pa_nil))) (set_any hr.u1)))
     (pss_cons (ps_set (i := 7) sc_law.nd rfl (by walk_at "oz") (pe_cmpR (uo_eq hr.units) (pe_callTy cr_tupL (by rfl) T.b_tuple (by decide +kernel) (pa_cons (pv 6) pa_nil)) (pv 3) (nomark _)))
     (pss_cons (ps_set (i := 8) sc_law.nd rfl (by walk_at "oz") (pe_lst (pa_cons (pe_cmpR (op_eqI T.me_Rule___eq__ (ok_Rule___eq__ T nd) nz (hr.mono (by decide)) (bd_Rule___eq__ T)) (pv 4) (pe_callW (ok_l_rule T nd) nz (hr.mono (by decide)) rfl T.g_l_rule T.F_l_rule.kp (bd_l_rule T) .nil (λ _ => pasF) (pa_cons (pv 6) pa_nil)) (nomark _)) (pa_cons (pe_cmpR (op_neI T.me_Rule___eq__ T.mo_Rule T.ne_Rule (ok_Rule___eq__ T nd) nz (hr.mono (by decide)) (bd_Rule___eq__ T)) (pv 4) (pe_callW (ok_l_rule T nd) nz (hr.mono (by decide)) rfl T.g_l_rule T.F_l_rule.kp (bd_l_rule T) .nil (λ _ => pasF) (pa_cons (pv 6) pa_nil)) (nomark _)) (pa_cons (pe_cmpR (op_eqI T.me_Rule___eq__ (ok_Rule___eq__ T nd) nz (hr.mono (by decide)) (bd_Rule___eq__ T)) (pv 4) (pe_callW (ok_l_rule T nd) nz (hr.mono (by decide)) rfl T.g_l_rule T.F_l_rule.kp (bd_l_rule T) .nil (λ _ => pasF) (pa_cons (pv 3) pa_nil)) (nomark _)) (pa_cons (pe_cmpR (op_neI T.me_Rule___eq__ T.mo_Rule T.ne_Rule (ok_Rule___eq__ T nd) nz (hr.mono (by decide)) (bd_Rule___eq__ T)) (pv 4) (pe_callW (ok_l_made T nd) nz (hr.mono (by decide)) rfl T.g_l_made T.F_l_made.kp (bd_l_made T) .nil (λ _ => pasF) (pa_cons (pv 3) pa_nil)) (nomark _)) pa_nil))))))
     (pss_cons (ps_if (pt_not (pt_val (pe_callX (ok_l_alike T nd) (λ _ => hgu) (hr.mono (by decide)) rfl T.g_l_alike T.F_l_alike.kp (bd_l_alike T) .nil pass0 (pa_cons (pv 8) (pa_cons (pe_lst (pa_cons (pv 7) (pa_cons (pe_not (pv 7)) (pa_cons pe_bl (pa_cons pe_bl pa_nil))))) pa_nil))))) (pss_one (ps_ret pe_bl)) pss_nil)
     (pss_cons (ps_for PassesOwn.never rfl (pi_list (pe_callX (ok_l_twins T nd) nz (hr.mono (by decide)) rfl T.g_l_twins T.F_l_twins.kp (bd_l_twins T) .nil pass0 (pa_cons (pv 1) (pa_cons (pv 3) pa_nil)))) (pg_name (i := 9) sc_law.nd rfl (by walk_at "oz")) (pss_one (ps_if (pt_not (pt_val (pe_callX (ok_l_alike T nd) (λ _ => hgu) (hr.mono (by decide)) rfl T.g_l_alike T.F_l_alike.kp (bd_l_alike T) .nil pass0 (pa_cons (pe_lst (pa_cons (pe_cmpR (op_eqI T.me_Rule___eq__ (ok_Rule___eq__ T nd) nz (hr.mono (by decide)) (bd_Rule___eq__ T)) (pv 4) (pe_callW (ok_l_rule T nd) nz (hr.mono (by decide)) rfl T.g_l_rule T.F_l_rule.kp (bd_l_rule T) .nil (λ _ => pasF) (pa_cons (pv 9) pa_nil)) (nomark _)) (pa_cons (pe_cmpR (op_neI T.me_Rule___eq__ T.mo_Rule T.ne_Rule (ok_Rule___eq__ T nd) nz (hr.mono (by decide)) (bd_Rule___eq__ T)) (pe_callW (ok_l_rule T nd) nz (hr.mono (by decide)) rfl T.g_l_rule T.F_l_rule.kp (bd_l_rule T) .nil (λ _ => pasF) (pa_cons (pv 9) pa_nil)) (pv 4) (nomark _)) pa_nil))) (pa_cons (pe_lst (pa_cons (pe_cmpR (uo_eq hr.units) (pv 9) (pv 3) (nomark _)) (pa_cons (pe_cmpR (uo_ne hr.units) (pv 9) (pv 3) (nomark _)) pa_nil))) pa_nil))))) (pss_one (ps_ret pe_bl)) pss_nil)))
     (pss_cons (ps_for PassesOwn.never rfl (pi_list (pe_lst (pa_cons pe_non (pa_cons (pv 3) (pa_cons (pe_callTy cr_list (by rfl) T.b_list (by decide +kernel) (pa_cons (pv 3) pa_nil)) (pa_cons (pv 5) (pa_cons pe_int (pa_cons pe_bl pa_nil)))))))) (pg_name (i := 10) sc_law.nd rfl (by walk_at "oz")) (pss_one (ps_if (pt_not (pt_val (pe_callX (ok_l_alike T nd) (λ _ => hgu) (hr.mono (by decide)) rfl T.g_l_alike T.F_l_alike.kp (bd_l_alike T) .nil pass0 (pa_cons (pe_lst (pa_cons (pe_cmpR (op_eqI T.me_Rule___eq__ (ok_Rule___eq__ T nd) nz (hr.mono (by decide)) (bd_Rule___eq__ T)) (pv 4) (pv 10) (nomark _)) (pa_cons (pe_cmpR (op_neI T.me_Rule___eq__ T.mo_Rule T.ne_Rule (ok_Rule___eq__ T nd) nz (hr.mono (by decide)) (bd_Rule___eq__ T)) (pv 4) (pv 10) (nomark _)) pa_nil))) (pa_cons (pe_lst (pa_cons pe_bl (pa_cons pe_bl pa_nil))) pa_nil))))) (pss_one (ps_ret pe_bl)) pss_nil)))
     (pss_one (ps_if (PW.pt (pw_or (pt_not (pt_val (pe_callX (ok_l_wrong T nd) (λ _ => hgu) hr rfl T.g_l_wrong T.F_l_wrong.kp (bd_l_wrong T) .nil pass0 (pa_cons (pv 1) (pa_cons (pv 3) pa_nil))))) (pw_or1 (pt_not (pt_val (pe_callX (ok_l_alike T nd) (λ _ => hgu) (hr.mono (by decide)) rfl T.g_l_alike T.F_l_alike.kp (bd_l_alike T) .nil pass0 (pa_cons (pe_lst (pa_cons (pe_methW0 (pv 4) T.cl_Rule T.me_Rule_numbers (ok_Rule_numbers T nd) nz (hr.mono (by decide)) (bd_Rule_numbers T) .nil (λ _ => pas0)) (pa_cons (pe_callB (cr_reprI T.me_Rule___repr__ (ok_Rule___repr__ T nd) nz (hr.mono (by decide)) (bd_Rule___repr__ T)) (by rfl) T.b_repr (by decide +kernel) (pa_cons (pv 4) pa_nil)) pa_nil))) (pa_cons (pe_lst (pa_cons (pv 3) (pa_cons (pv 5) pa_nil))) pa_nil)))))))) (pss_one (ps_ret pe_bl)) pss_nil)))))))))))))
     (pss_one (ps_ret pe_bl))))))
end
theorem txt {K : Fr} {h : Heap} {mg : Str -> Option Value} (X : K.In h) (G : h.Ns mainGlobals mg) (c : SaysF fa fn K) : Txt K mg where
 F_l_bag := fd_of (c.def_ 0 (d := d_l_bag) rfl)
 F_l_alike := fd_of (c.def_ 1 (d := d_l_alike) rfl)
 F_Rule_numbers := fd_of (c.def_ 2 (d := d_Rule_numbers) rfl)
 F_as_told := fd_of (c.def_ 3 (d := d_as_told) rfl)
 F_is_whole := fd_of (c.def_ 4 (d := d_is_whole) rfl)
 F_is_number_of_blocks := fd_of (c.def_ 5 (d := d_is_number_of_blocks) rfl)
 F_Rule___init__ := fd_of (c.def_ 6 (d := d_Rule___init__) rfl)
 F_Rule___repr__ := fd_of (c.def_ 7 (d := d_Rule___repr__) rfl)
 F_l_take := fd_of (c.def_ 8 (d := d_l_take) rfl)
 F_l_numbers := fd_of (c.def_ 9 (d := d_l_numbers) rfl)
 F_l_rule := fd_of (c.def_ 10 (d := d_l_rule) rfl)
 F_l_made := fd_of (c.def_ 11 (d := d_l_made) rfl)
 F_Rule___eq__ := fd_of (c.def_ 12 (d := d_Rule___eq__) rfl)
 F_l_twins := fd_of (c.def_ 13 (d := d_l_twins) rfl)
 F_l_any := fd_of (c.def_ 14 (d := d_l_any) rfl)
 F_l_refused := fd_of (c.def_ 15 (d := d_l_refused) rfl)
 F_l_wrong := fd_of (c.def_ 16 (d := d_l_wrong) rfl)
 F_law := fd_of (c.def_ 17 (d := d_law) rfl)
 F_Wrong___init__ := fd_of (c.def_ 18 (d := d_Wrong___init__) rfl)
 c_MOST_ASKED := He.int_ok X G (c.fact 0 (f := (λ K => (He.Fa.int "MOST_ASKED" 60).ok K)) rfl)
 c_DAY := He.int_ok X G (c.fact 1 (f := (λ K => (He.Fa.int "DAY" 24).ok K)) rfl)
 c_WEEK := He.int_ok X G (c.fact 2 (f := (λ K => (He.Fa.int "WEEK" 168).ok K)) rfl)
 c_MONTH := He.int_ok X G (c.fact 3 (f := (λ K => (He.Fa.int "MONTH" 672).ok K)) rfl)
 g_l_bag := He.glo_ok X G (c.fact 4 (f := (λ K => (He.Fa.glo "_law_bag").ok K)) rfl)
 g_l_alike := He.glo_ok X G (c.fact 5 (f := (λ K => (He.Fa.glo "_law_alike").ok K)) rfl)
 g_as_told := He.glo_ok X G (c.fact 6 (f := (λ K => (He.Fa.glo "as_told").ok K)) rfl)
 g_is_whole := He.glo_ok X G (c.fact 7 (f := (λ K => (He.Fa.glo "is_whole").ok K)) rfl)
 g_is_number_of_blocks := He.glo_ok X G (c.fact 8 (f := (λ K => (He.Fa.glo "is_number_of_blocks").ok K)) rfl)
 g_l_take := He.glo_ok X G (c.fact 9 (f := (λ K => (He.Fa.glo "_law_take").ok K)) rfl)
 g_l_numbers := He.glo_ok X G (c.fact 10 (f := (λ K => (He.Fa.glo "_law_numbers").ok K)) rfl)
 g_l_rule := He.glo_ok X G (c.fact 11 (f := (λ K => (He.Fa.glo "_law_rule").ok K)) rfl)
 g_l_made := He.glo_ok X G (c.fact 12 (f := (λ K => (He.Fa.glo "_law_made").ok K)) rfl)
 g_l_twins := He.glo_ok X G (c.fact 13 (f := (λ K => (He.Fa.glo "_law_twins").ok K)) rfl)
 g_l_any := He.glo_ok X G (c.fact 14 (f := (λ K => (He.Fa.glo "_law_any").ok K)) rfl)
 g_l_refused := He.glo_ok X G (c.fact 15 (f := (λ K => (He.Fa.glo "_law_refused").ok K)) rfl)
 g_l_wrong := He.glo_ok X G (c.fact 16 (f := (λ K => (He.Fa.glo "_law_wrong").ok K)) rfl)
 g_law := He.glo_ok X G (c.fact 17 (f := (λ K => (He.Fa.glo "law").ok K)) rfl)
 cg_Wrong := He.glo_ok X G (c.fact 18 (f := (λ K => (He.Fa.glo "Wrong").ok K)) rfl)
 cg_Rule := He.glo_ok X G (c.fact 19 (f := (λ K => (He.Fa.glo "Rule").ok K)) rfl)
 cg_StoreError := He.glo_ok X G (c.fact 20 (f := (λ K => (He.Fa.glo "StoreError").ok K)) rfl)
 cl_Rule := He.cls_ok (c.fact 21 (f := (λ K => (He.Fa.cls "Rule").ok K)) rfl)
 mk_Rule := He.mkr_ok (c.fact 22 (f := (λ K => (He.Fa.mkr "Rule").ok K)) rfl)
 na_Rule_asked_of := He.noat_ok (c.fact 23 (f := (λ K => (He.Fa.noat "Rule" "asked_of").ok K)) rfl)
 me_Rule_numbers := He.meth_ok (c.fact 24 (f := (λ K => (He.Fa.meth "Rule" "numbers").ok K)) rfl)
 me_Rule___repr__ := He.meth_ok (c.fact 25 (f := (λ K => (He.Fa.meth "Rule" "__repr__").ok K)) rfl)
 me_Rule___eq__ := He.meth_ok (c.fact 26 (f := (λ K => (He.Fa.meth "Rule" "__eq__").ok K)) rfl)
 xb_Wrong := chB_VE (c.fact 27 (f := (λ K => chB K "Wrong" (tlB "ValueError") "ValueError.__new__")) rfl)
 xf_Wrong := chF_ok (c.fact 28 (f := (λ K => chF K "Wrong")) rfl)
 xc_Wrong := chC_ok (c.fact 29 (f := (λ K => chC K "Wrong")) rfl)
 xn_Wrong_at := id (c.fact 30 (f := (λ K => chN K "Wrong" "at")) rfl)
 xi_StoreError := chI_ok (c.fact 31 (f := (λ K => chI K "StoreError" "ValueError.__init__")) rfl)
 xm_Wrong_Wrong := chM_ok (c.fact 32 (f := (λ K => chM K "Wrong" "Wrong" true)) rfl)
 iy_Rule := chY_ok (c.fact 33 (f := (λ K => chY K "Rule")) rfl)
 ik_Rule_Rule := chK_ok (c.fact 34 (f := (λ K => chK K "Rule" "Rule" true)) rfl)
 in_Rule := chDN_ok (c.fact 35 (f := (λ K => chDN K "Rule")) rfl)
 mo_Rule := chMo_ok (c.fact 36 (f := (λ K => chMo K "Rule")) rfl)
 ne_Rule := chNe_ok (c.fact 37 (f := (λ K => chNe K "Rule")) rfl)
 b_abs := He.free_ok X G (c.fact 38 (f := (λ K => (He.Fa.free "abs").ok K)) rfl)
 b_repr := He.free_ok X G (c.fact 39 (f := (λ K => (He.Fa.free "repr").ok K)) rfl)
 b_isinstance := He.free_ok X G (c.fact 40 (f := (λ K => (He.Fa.free "isinstance").ok K)) rfl)
 b_int := He.free_ok X G (c.fact 41 (f := (λ K => (He.Fa.free "int").ok K)) rfl)
 b_bool := He.free_ok X G (c.fact 42 (f := (λ K => (He.Fa.free "bool").ok K)) rfl)
 b_zip := He.free_ok X G (c.fact 43 (f := (λ K => (He.Fa.free "zip").ok K)) rfl)
 b_len := He.free_ok X G (c.fact 44 (f := (λ K => (He.Fa.free "len").ok K)) rfl)
 b_range := He.free_ok X G (c.fact 45 (f := (λ K => (He.Fa.free "range").ok K)) rfl)
 b_tuple := He.free_ok X G (c.fact 46 (f := (λ K => (He.Fa.free "tuple").ok K)) rfl)
 b_list := He.free_ok X G (c.fact 47 (f := (λ K => (He.Fa.free "list").ok K)) rfl)
 b_min := He.free_ok X G (c.fact 48 (f := (λ K => (He.Fa.free "min").ok K)) rfl)
 b_all := He.free_ok X G (c.fact 49 (f := (λ K => (He.Fa.free "all").ok K)) rfl)
end RC
open PySem PySem.W PySem.Calls PyProof.Rows
set_option maxRecDepth 100000 in
set_option maxHeartbeats 0 in
theorem PySem.Challenge.cw_restorechain_k71_rules_told_holds : PySem.Challenge.rw_restorechain_k71_rules_told.Holds := by
  w_on; o_law
  refine HandSHeadRun.head_any (r := OpenLaw.row PySem.Challenge.rw_restorechain_k71_rules_told) (q := view (OpenLaw.row PySem.Challenge.rw_restorechain_k71_rules_told).prog [24]) (H := RC.hk) (ob := RC.ob) (M := 4000) (loose := RC.names)
    (d := HandSHeadRun.topDef (OpenLaw.row PySem.Challenge.rw_restorechain_k71_rules_told).prog 24) (kwd := []) RC.ob_eq (by kernel_rfl) (fun s => by kernel_rfl) RC.run
    (by kernel_rfl) (by kernel_rfl) (by kernel_rfl) (by rfl) (by first | assumption | decide +kernel) (by decide +kernel) ⟨rfl, rfl, rfl, rfl, rfl, by decide +kernel⟩ ?hw ?hc
  case hw => w_witness2
  case hc =>
    refine RC.walk_S (hi := by kernel_rfl) (l := PySem.Challenge.rw_restorechain_k71_rules_told) (n := 63) (k := 9) (x := "_law_script") (CX := fun _ => L2.CX0) rfl (by decide) (by kernel_rfl) ⟨rfl, by decide, by decide⟩ ?F (fun _ _ _ _ _ z => z)
    intro w mg fa h Y G hmg0
    obtain ⟨K, KX, c⟩ := Y
    have hmg : mg ("law" : PySem.Str) = some (.ref fa) := by
      have e : (HandSHeadRun.topDef (OpenLaw.row PySem.Challenge.rw_restorechain_k71_rules_told).prog 24).name = ("law" : PySem.Str) := by kernel_rfl
      rw [← e]
      exact hmg0
    have T := RC.txt KX G c
    have e := hmg.symm.trans T.g_law
    cases e
    exact ⟨K, _, RC.sp_law K, KX, fun s v => L2.FunD.bindsA (ps := ["_law_script"]) T.F_law (fun _ _ _ _ _ _ us hl => match us, hl with | [_], _ => rfl) s [v] rfl,
      RC.law_start K, fun base _ _ nd => RC.ok_law T nd⟩
