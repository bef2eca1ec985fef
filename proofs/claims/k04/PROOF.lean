import PyProof.Rows.All
import HandS.Base
import HandS.Call
import HandS.Exc
import HandS.Lambda
import HandS.Nested
import HandS.Ends
import HandS.ExcField
import HandS.ExcIs
import HandS.ExcOwn
import HandS.FStrTup
import HandS.SortInts
import HandS.SortKw
import HandS.Strs
import HandS.TupSets
import HandS.Walk
import HandS.Words
import HandS.WordsExc
import HandS.Zip
import KE.GoesEnum
import KE.GoesMore
import KE.GoesZip
import KE.KDictZip
import KE.KExcIs
import PyProof.ReprRoads
import HandS.ForMost
import HandS.ForExc
import HandS.TupAny
import HandS.Deep
import HandS.Conv
import HandS.IsInst
import HandS.Wide
import HandS.Flow
import HandS.ExcInit
import HandS.TryOnly
import HandS.SetFor
import HandS.TupMul
import HandS.Rev
import HandS.More
import HandS.Style
import HandS.TupLe
import HandS.EndTab
import HandS.EndOwn
import KE.SortKeyHeap
import KE.SortData
import HandS.Dict
import KE.KDictDisplayH
import KE.DataMinMax
import HandS.WideBits
import HandS.Defaults
import HandS.WordsDict
import HandS.RevRange
import HandS.Comp
import HandS.Iter
import HandS.Sort
import HandS.ExcValue
import PyProof.TupleOfSeq
import HandS.OwnEq
import HandS.Star
import KE.KExcInit
import HandS.TryMany
import HandS.FStr
import PyProof.InstNe
import PySem.Challenge.RW_wherefrom_k04_books_made
set_option Elab.async false
set_option linter.all false
set_option maxRecDepth 100000
set_option maxHeartbeats 4000000
namespace HX
open PySem PySem.Spec PyProof.Rows L2 LamX NdefX
structure LF where
  qual : Str
  params : Arguments
  body : Expr
  scope : Scope
  cl : List (Str × Addr)
  c : Addr
abbrev LF.fd (F : LF) (pm ctv : Value) : FuncData := PySem.W.kla_fn "<lambda>" F.qual F.params F.body F.scope F.cl pm (.ref F.c) ctv
def LF.nf (F : LF) : NF := ⟨"<lambda>", F.qual, F.params, [], F.scope, F.cl, F.c⟩
def LamO (f : Addr) (F : LF) : HO := .ext fun h => ∃ (od : Option Addr) (sl : Array (Option Value)) (pm ctv : Value), h.get? f = some (⟨.type "function", od, .func (F.fd pm ctv), sl⟩ : Obj)
theorem lamO_at {P : Program} {w : World} {H : Hp} {h : Heap} {f : Addr} {F : LF} (hok : HOk P w H h) (e : H f = some (LamO f F)) : ∃ (od : Option Addr) (sl : Array (Option Value)) (pm ctv : Value), h.get? f = some (⟨.type "function", od, .func (F.fd pm ctv), sl⟩ : Obj) := by
  obtain ⟨z, _, _⟩ := hok f _ e
  exact z
section
variable {X : Cx} {pins : List (Addr × Obj)} {σ : L2.St} {H : Hp} {s : Shared}
theorem inv_lam {F : LF} {o : Obj} {t' : Nat} {pm ctv : Value} (I : Inv X pins σ H s) (ho : o = { cls := .type "function", data := .func (F.fd pm ctv) }) :
    Inv X pins σ (upd H s.heap.objs.size (LamO s.heap.objs.size F)) { s with heap := s.heap.push o, toks := t' } := by
  subst ho
  refine I.laid (a := s.heap.objs.size) (fun b u e => Heap.get?_push_of_some _ e) (Nat.le_refl _) ?_
  have e : (s.heap.push ({ cls := .type "function", data := .func (F.fd pm ctv) } : Obj)).get? s.heap.objs.size = some ({ cls := .type "function", data := .func (F.fd pm ctv) } : Obj) := Heap.get?_push_size _ rfl
  exact ⟨⟨_, _, pm, ctv, e⟩, ⟨_, e⟩, fun h1 h2 ⟨od, sl, p, t, z⟩ st => ⟨od, sl, p, t, st _ z⟩⟩
theorem lam_makeN {T : List NTab} {nm : Nat → Nat → Str} {c P : Addr} {params : Arguments} {body : Expr} {scope : Scope} {pos : Pos} {E : Value → Shared → Prop} {Q : Value → Shared → Prop} (I : Inv X pins σ H s) (TB : TabB X.base X.mg c P) (hcode : X.env.code = .ref c)
    (hm : (P, nm) ∈ T) (hn : nm pos.line pos.col = X.env.qual ++ "<lambda>") (hu : ∀ p ∈ T, p.1 = P → p.2 = nm) (hT : TabsN T H) (hdef : defaultsOf params X.env = ([], [])) (hfree : ∀ y ∈ scope.names, y.2 = .free → ∃ c, X.env.cells.lookup y.1 = some c)
    (h : ∀ (f c' : Addr) (H1 : Hp) (s' : Shared), Inv X pins σ H1 s' → ExtN H H1 → (∀ b, H1 b = Option.none → H b = Option.none) → (∀ b ps, H b = some (.tbl ps) → ∃ qs, H1 b = some (.tbl qs)) → TabsN T H1 → H f = none → H1 f = some (LamO f ⟨X.env.qual ++ "<lambda>", params, body, scope, cloFrom X.env.cells scope.names [], c'⟩) → H1 c' = some (CodeO c' (X.env.qual ++ "<lambda>")) → Q (.ref f) s') :
    wpAny (model X.prog X.w) X.A (eval (.Lambda params body scope pos) X.env) Q E s := by
  obtain ⟨ps, hP, ht, ha⟩ := (show TabN H P nm from hT _ hm)
  refine PySem.W.kla_eval hdef ?_
  have bP : s.heap.BuiltinsAt X.mg P := TB.bm.keeps I.bk
  have hP' : s.heap.get? P = some { cls := .none, data := .fields ps } := I.hok P _ hP
  cases hc : codeAmong pos ps.toList with
  | none =>
    refine PySem.W.kla_makeFunction (mg := X.mg) (c := c) (P := P) (ps := ps) (closure_ok hfree) I.ok.glob (I.mod.glob.keeps I.bk) hcode (TB.code.keeps I.bk) hP' ht hc TB.gP bP fun c' ctv h' tk hx hge hlt hrec htb => ?_
    obtain ⟨c2, oc, vs, t, e2, hoc, hd, hv⟩ := hrec
    cases e2
    have nC : H c' = none := I.hok.fresh hge
    have I1 := inv_table (t' := tk) (more := #[rawInt pos.line, rawInt pos.col, .ref c']) (h' := h') I hP (fun b o hb e => hx b o hb e) htb hge ⟨oc, vs, t, hoc, hd, hv⟩
    have hE : ExtN H (upd (upd H P (.tbl (ps ++ #[rawInt pos.line, rawInt pos.col, .ref c']))) c' (CodeO c' (X.env.qual ++ "<lambda>"))) := fun b o e n => by
      rw [upd_ne (ne_of_none e nC), upd_ne (fun z => n ps (Option.some.inj (e.symm.trans (by rw [z]; exact hP))))]
      exact e
    have eL : (ps ++ #[rawInt pos.line, rawInt pos.col, .ref c']).toList = ps.toList ++ [rawInt pos.line, rawInt pos.col, .ref c'] := by simp
    have T1 : TabsN T (upd (upd H P (.tbl (ps ++ #[rawInt pos.line, rawInt pos.col, .ref c']))) c' (CodeO c' (X.env.qual ++ "<lambda>"))) := fun p hp => by
      by_cases hb : p.1 = P
      · rw [hu p hp hb, hb]
        refine ⟨_, by rw [upd_ne (ne_of_none hP nC), upd_same], by rw [eL]; exact PySem.TriplesOk_snoc _ _ _ _ ht, fun p' cv hcv => ?_⟩
        rw [eL] at hcv
        rcases among_app2 _ ht hcv with z | ⟨z, z1, z2⟩
        · obtain ⟨c0, e1, e2⟩ := ha p' cv z
          exact ⟨c0, e1, hE _ _ e2 codeO_ne⟩
        · refine ⟨c', z, ?_⟩
          rw [← z1, ← z2, hn]
          exact upd_same
      · obtain ⟨ps', a1, a2, a3⟩ := hT p hp
        refine ⟨ps', by rw [upd_ne (ne_of_none a1 nC), upd_ne hb]; exact a1, a2, fun p' cv hcv => ?_⟩
        obtain ⟨c0, e1, e2⟩ := a3 p' cv hcv
        exact ⟨c0, e1, hE _ _ e2 codeO_ne⟩
    have nF := I1.hok.fresh (Nat.le_refl _)
    have I2 := inv_lam (F := ⟨X.env.qual ++ "<lambda>", params, body, scope, cloFrom X.env.cells scope.names [], c'⟩) (t' := tk) (pm := (X.mg "__name__").getD .none) (ctv := ctv) I1 rfl
    refine h h'.objs.size c' _ _ I2 (fun b o e n => ?_) (fun b e => upd_none (upd_none (upd_none e))) (fun b qs e => ?_) (T1.ext fun b o e => ?_) (I.hok.fresh (Nat.le_trans hge (Nat.le_of_lt hlt))) upd_same ?_
    · have e1 := hE b o e n
      exact (upd_ne (ne_of_none e1 nF)).trans e1
    · by_cases hb : b = P
      · subst hb
        exact ⟨_, (upd_ne (ne_of_none (H := upd (upd H b (.tbl (ps ++ #[rawInt pos.line, rawInt pos.col, .ref c']))) c' (CodeO c' (X.env.qual ++ "<lambda>"))) (by rw [upd_ne (ne_of_none hP nC), upd_same]) nF)).trans (by rw [upd_ne (ne_of_none hP nC), upd_same])⟩
      · have e1 : upd (upd H P (.tbl (ps ++ #[rawInt pos.line, rawInt pos.col, .ref c']))) c' (CodeO c' (X.env.qual ++ "<lambda>")) b = some (.tbl qs) := by
          rw [upd_ne (ne_of_none e nC), upd_ne hb]; exact e
        exact ⟨_, (upd_ne (ne_of_none e1 nF)).trans e1⟩
    · exact (upd_ne (ne_of_none e nF)).trans e
    · exact (upd_ne (Nat.ne_of_lt hlt)).trans upd_same
  | some cv =>
    obtain ⟨c', e, hco⟩ := ha pos cv hc
    subst e
    rw [hn] at hco
    refine PySem.W.kla_makeFunctionHit (mg := X.mg) (c := c) (P := P) (ps := ps) (closure_ok hfree) I.ok.glob (I.mod.glob.keeps I.bk) hcode (TB.code.keeps I.bk) hP' ht hc bP fun ctv h' tk hx hsz => ?_
    have I1 : Inv X pins σ H { s with heap := h', toks := tk } := I.kept hx
    have nF : H h'.objs.size = none := I1.hok.fresh (Nat.le_refl _)
    have I2 := inv_lam (F := ⟨X.env.qual ++ "<lambda>", params, body, scope, cloFrom X.env.cells scope.names [], c'⟩) (t' := tk) (pm := (X.mg "__name__").getD .none) (ctv := ctv) I1 rfl
    refine h h'.objs.size c' _ _ I2 (fun b o e n => ?_) (fun b e => upd_none e) (fun b qs e => ⟨qs, ?_⟩) (hT.ext fun b o e => ?_) nF upd_same ?_
    · exact (upd_ne (ne_of_none e nF)).trans e
    · exact (upd_ne (ne_of_none e nF)).trans e
    · exact (upd_ne (ne_of_none e nF)).trans e
    · exact (upd_ne (ne_of_none hco nF)).trans hco
end
end HX
namespace Mir
open PySem PySem.Spec PyProof.Rows L2
inductive T where
  | non | bl (b : Bool) | int (i : Int) | str (s : Str) | tup (ts : List T) | lst (ts : List T) | ref (n : Nat) | scr (ts : List T) | tix (ts : List T) | fn (n : Nat)
inductive Ob where
  | lst (ts : List T) | dic (kvs : List (Str × T)) | dtp (kvs : List (List Int × T)) | ins (cl : Str) (fs : List (Str × T))
abbrev Store := List Ob
structure Ex where
  cls : Str
  fs : List (Str × T)
inductive R (α : Type) where
  | ok (a : α) (st : Store) | exc (x : Ex) (st : Store) | stuck
abbrev M (α : Type) := Store → R α
def R.bind {α β : Type} (r : R α) (k : α → M β) : R β :=
  match r with
  | .ok a st => k a st
  | .exc x st => .exc x st
  | .stuck => .stuck
abbrev Env := List (Option T)
abbrev ME := Env → M T
class Tabl where
  T : List NdefX.NTab
  uniq : ∀ p ∈ T, ∀ q ∈ T, p.1 = q.1 → p.2 = q.2
  lf : Nat → Addr → HX.LF
  /-- all tuples are made here: none is written at the top, none is held as known -/
  own : Bool
instance (priority := low) tablNone : Tabl := ⟨[], fun p h => (by cases h), fun _ c => ⟨"", { posonlyargs := [], args := [], vararg := none, kwonlyargs := [], kw_defaults := [], kwarg := none, defaults := [] }, .Name "" ⟨0, 0, 0, 0⟩, { kind := .function, names := [], isGenerator := false, isCoroutine := false, more := [] }, [], c⟩, false⟩
variable [Tabl]
structure Ro where
  K : PySem.W.Frag
  s : List Addr
  d : List Addr
def Ro.add (ρ : Ro) (p : Addr) : Ro := { ρ with s := ρ.s ++ [p] }
def Ro.hide (ρ : Ro) (p : Addr) : Ro := { ρ with d := p :: ρ.d }
def ScrL (ρ : Ro) (H : Hp) (a : Addr) (xs : List V) : Prop :=
  ((a ∉ ρ.s ∧ a ∉ ρ.d) ∧ (H a = some (.lst xs) ∨ ∃ o, H a = some (.frz o (.lst xs)))) ∨
    ∃ (o : Obj) (its : Array Value) (n : Nat), ρ.K.lookup a = some o ∧ o.cls = .type "list" ∧ o.dict = none ∧ o.data = .seq its n ∧ its.size ≤ sizeLine ∧ Vals xs its.toList
def TupA (ρ : Ro) (H : Hp) (a : Addr) (xs : List V) : Prop :=
  H a = some (.tup xs) ∨ ((a ∉ ρ.s ∧ a ∉ ρ.d) ∧ ∃ o, H a = some (.frz o (.tup xs)) ∧ Tabl.own = false) ∨ Tabl.own = false ∧ ∃ (o : Obj) (its : Array Value) (n : Nat), ρ.K.lookup a = some o ∧ o.cls = .type "tuple" ∧ o.data = .seq its n ∧ its.size ≤ sizeLine ∧ Vals xs its.toList
theorem TupA.seq {ρ : Ro} {H : Hp} {a : Addr} {xs : List V} (h : TupA ρ H a xs) : SqT ρ.K H a xs := h.elim (fun h => .inl (.inl h)) fun h => h.elim (fun ⟨_, o, h⟩ => .inl (.inr ⟨o, h.1⟩)) fun h => .inr h.2
theorem TupA.own {ρ : Ro} {H : Hp} {a : Addr} {xs : List V} (h : TupA ρ H a xs) (ho : Tabl.own = true) : H a = some (.tup xs) := h.elim id fun h => h.elim (fun ⟨_, _, _, z⟩ => by rw [ho] at z; cases z) fun ⟨z, _⟩ => by rw [ho] at z; cases z
theorem TupA.sq {ρ : Ro} {K : PySem.W.Frag} {H : Hp} {a : Addr} {xs : List V} (h : TupA ρ H a xs) (e : ρ.K = K) : SqT K H a xs := e ▸ h.seq
mutual
def RV (ρ : Ro) (H : Hp) : T → V → Prop
  | .non, v => v = .non
  | .bl b, v => v = .bl b
  | .int i, v => v = .int i
  | .str s, v => v = .str s
  | .ref n, v => ∃ a, v = .ref a ∧ ρ.s[n]? = some a
  | .tup ts, v => ∃ a xs, v = .ref a ∧ TupA ρ H a xs ∧ RVs ρ H ts xs
  | .lst ts, v => ∃ a xs, v = .ref a ∧ H a = some (.lst xs) ∧ (a ∉ ρ.s ∧ a ∉ ρ.d) ∧ RVs ρ H ts xs
  | .scr ts, v => ∃ a xs, v = .ref a ∧ ScrL ρ H a xs ∧ RVs ρ H ts xs
  | .tix ts, v => ∃ a xs o, v = .ref a ∧ H a = some (.frz o (.tup xs)) ∧ o.dict = none ∧ (a ∉ ρ.s ∧ a ∉ ρ.d) ∧ RVs ρ H ts xs
  | .fn n, v => ∃ f c, v = .ref f ∧ H f = some (HX.LamO f (Tabl.lf n c)) ∧ H c = some (LamX.CodeO c (Tabl.lf n c).qual) ∧ (f ∉ ρ.s ∧ f ∉ ρ.d) ∧ (c ∉ ρ.s ∧ c ∉ ρ.d)
def RVs (ρ : Ro) (H : Hp) : List T → List V → Prop
  | [], xs => xs = []
  | t :: ts, xs => ∃ x r, xs = x :: r ∧ RV ρ H t x ∧ RVs ρ H ts r
end
def RKs (ρ : Ro) (H : Hp) : List (Str × T) → List (Key × V) → Prop
  | [], xs => xs = []
  | (k, t) :: ts, xs => ∃ x r, xs = (Sum.inr k, x) :: r ∧ RV ρ H t x ∧ RKs ρ H ts r
def RTs (ρ : Ro) (H : Hp) : List (List Int × T) → List (List Key × V) → Prop
  | [], xs => xs = []
  | (k, t) :: ts, xs => ∃ x r, xs = (k.map Sum.inl, x) :: r ∧ RV ρ H t x ∧ RTs ρ H ts r
def RFs (ρ : Ro) (H : Hp) : List (Str × T) → List (Str × V) → Prop
  | [], xs => xs = []
  | (k, t) :: ts, xs => ∃ x r, xs = (k, x) :: r ∧ RV ρ H t x ∧ RFs ρ H ts r
structure Ext (ρ : Ro) (H : Hp) (ρ' : Ro) (H' : Hp) : Prop where
  pre : ∃ r, ρ'.s = ρ.s ++ r
  K : ρ'.K = ρ.K
  dsub : ∀ b ∈ ρ.d, b ∈ ρ'.d
  dfresh : ∀ b ∈ ρ'.d, b ∈ ρ.d ∨ b ∈ ρ.s ∨ H b = none
  fresh : ∀ b ∈ ρ'.s, b ∈ ρ.s ∨ H b = none
  tups : ∀ b xs, H b = some (.tup xs) → H' b = some (.tup xs)
  keep : ∀ b o, H b = some o → b ∉ ρ.s → (∀ ps, o ≠ .tbl ps) → H' b = some o
  tbl : ∀ b ps, H b = some (.tbl ps) → ∃ qs, H' b = some (.tbl qs)
theorem tbl_or (o : HO) : (∃ ps, o = .tbl ps) ∨ ∀ ps, o ≠ .tbl ps := by
  cases o <;> first | exact .inl ⟨_, rfl⟩ | exact .inr fun ps z => nomatch z
theorem Ext.refl (ρ : Ro) (H : Hp) : Ext ρ H ρ H := ⟨⟨[], by simp⟩, rfl, fun _ h => h, fun _ h => .inl h, fun _ h => .inl h, fun _ _ h => h, fun _ _ h _ _ => h, fun _ ps h => ⟨ps, h⟩⟩
theorem Ext.some_ {ρ ρ' : Ro} {H H' : Hp} (e : Ext ρ H ρ' H') {b : Addr} {o : HO} (h : H b = some o) (n : b ∉ ρ.s) : ∃ u, H' b = some u := by
  rcases tbl_or o with ⟨ps, rfl⟩ | z
  · obtain ⟨qs, q⟩ := e.tbl b ps h
    exact ⟨_, q⟩
  · exact ⟨o, e.keep b o h n z⟩
theorem Ext.notin {ρ ρ' : Ro} {H H' : Hp} (e : Ext ρ H ρ' H') {b : Addr} {o : HO} (h : H b = some o) (n : b ∉ ρ.s) : b ∉ ρ'.s := fun m => by
  rcases e.fresh b m with h' | h'
  · exact n h'
  · rw [h] at h'; cases h'
theorem Ext.notd {ρ ρ' : Ro} {H H' : Hp} (e : Ext ρ H ρ' H') {b : Addr} {o : HO} (h : H b = some o) (n : b ∉ ρ.s) (n' : b ∉ ρ.d) : b ∉ ρ'.d := fun m => by
  rcases e.dfresh b m with h' | h' | h'
  · exact n' h'
  · exact n h'
  · rw [h] at h'; cases h'
theorem Ext.trans {ρ ρ1 ρ2 : Ro} {H H1 H2 : Hp} (a : Ext ρ H ρ1 H1) (b : Ext ρ1 H1 ρ2 H2) : Ext ρ H ρ2 H2 := by
  refine ⟨?_, b.K.trans a.K, fun c h => b.dsub c (a.dsub c h), fun c hc => ?_, fun c hc => ?_, fun c xs h => b.tups c xs (a.tups c xs h), fun c o h n z => b.keep c o (a.keep c o h n z) (a.notin h n) z, fun c ps h => by
    obtain ⟨qs, q⟩ := a.tbl c ps h
    exact b.tbl c qs q⟩
  · obtain ⟨r, e⟩ := a.pre
    obtain ⟨r', e'⟩ := b.pre
    exact ⟨r ++ r', by rw [e', e, List.append_assoc]⟩
  · rcases b.dfresh c hc with h | h | h
    · exact a.dfresh c h
    · exact .inr (a.fresh c h)
    · by_cases hcr : c ∈ ρ.s
      · exact .inr (.inl hcr)
      · right; right
        cases q : H c with
        | none => rfl
        | some o =>
          obtain ⟨u, hu⟩ := a.some_ q hcr
          rw [hu] at h
          cases h
  · rcases b.fresh c hc with h | h
    · exact a.fresh c h
    · by_cases hcr : c ∈ ρ.s
      · exact .inl hcr
      · right
        cases q : H c with
        | none => rfl
        | some o =>
          obtain ⟨u, hu⟩ := a.some_ q hcr
          rw [hu] at h
          cases h
theorem Ext.get {ρ ρ' : Ro} {H H' : Hp} (e : Ext ρ H ρ' H') {n : Nat} {a : Addr} (h : ρ.s[n]? = some a) : ρ'.s[n]? = some a := by
  obtain ⟨r, hr⟩ := e.pre
  have hl := (List.getElem?_eq_some_iff.mp h).1
  rw [hr, List.getElem?_append_left hl]
  exact h
theorem ScrL.mono {ρ ρ' : Ro} {H H' : Hp} (e : Ext ρ H ρ' H') {a : Addr} {xs : List V} (h : ScrL ρ H a xs) : ScrL ρ' H' a xs := by
  rcases h with ⟨n, h | ⟨o, h⟩⟩ | h
  · exact .inl ⟨⟨e.notin h n.1, e.notd h n.1 n.2⟩, .inl (e.keep _ _ h n.1 fun _ z => nomatch z)⟩
  · exact .inl ⟨⟨e.notin h n.1, e.notd h n.1 n.2⟩, .inr ⟨o, e.keep _ _ h n.1 fun _ z => nomatch z⟩⟩
  · right
    rw [e.K]; exact h
theorem ScrL.seq {ρ : Ro} {H : Hp} {a : Addr} {xs : List V} (h : ScrL ρ H a xs) : SqL ρ.K H a xs := by
  rcases h with ⟨n, h | ⟨o, h⟩⟩ | h
  · exact .inl (.inl h)
  · exact .inl (.inr ⟨o, h⟩)
  · exact .inr h
def StayO : HO → Prop
  | .lst _ => True
  | .frz _ (.tup _) => True
  | .ext _ => True
  | _ => False
theorem StayO.ntbl {o : HO} (h : StayO o) (ps : Array Value) : o ≠ .tbl ps := fun z => by
  subst z; exact h
structure Grow (ρ : Ro) (H : Hp) (ρ' : Ro) (H' : Hp) : Prop where
  get : ∀ (n : Nat) (a : Addr), ρ.s[n]? = some a → ρ'.s[n]? = some a
  tups : ∀ b xs, TupA ρ H b xs → TupA ρ' H' b xs
  lsts : ∀ b o, StayO o → H b = some o → b ∉ ρ.s → b ∉ ρ.d → H' b = some o ∧ b ∉ ρ'.s ∧ b ∉ ρ'.d
  scrs : ∀ b xs, ScrL ρ H b xs → ScrL ρ' H' b xs
  K : ρ'.K = ρ.K
theorem Ext.grow {ρ ρ' : Ro} {H H' : Hp} (e : Ext ρ H ρ' H') : Grow ρ H ρ' H' :=
  ⟨fun _ _ h => e.get h, fun b xs h => h.elim (fun h => .inl (e.tups b xs h)) (fun h => h.elim (fun ⟨n, o, h⟩ => .inr (.inl ⟨⟨e.notin h.1 n.1, e.notd h.1 n.1 n.2⟩, o, e.keep _ _ h.1 n.1 (fun _ z => nomatch z), h.2⟩)) fun h => .inr (.inr (by rw [e.K]; exact h))), fun b xs st h n n' => ⟨e.keep b _ h n st.ntbl, e.notin h n, e.notd h n n'⟩, fun _ _ h => h.mono e, e.K⟩
section
variable {ρ ρ' : Ro} {H H' : Hp}
mutual
theorem RV.grow (e : Grow ρ H ρ' H') : ∀ {t : T} {v : V}, RV ρ H t v → RV ρ' H' t v
  | .non, _, h => h
  | .bl _, _, h => h
  | .int _, _, h => h
  | .str _, _, h => h
  | .ref _, _, h => by
    obtain ⟨a, r, g⟩ := h
    exact ⟨a, r, e.get _ _ g⟩
  | .tup ts, _, h => by
    obtain ⟨a, xs, r, g, q⟩ := h
    exact ⟨a, xs, r, e.tups _ _ g, RVs.grow e q⟩
  | .lst ts, _, h => by
    obtain ⟨a, xs, r, g, n, q⟩ := h
    obtain ⟨g1, g2, g3⟩ := e.lsts a (.lst xs) True.intro g n.1 n.2
    exact ⟨a, xs, r, g1, ⟨g2, g3⟩, RVs.grow e q⟩
  | .scr ts, _, h => by
    obtain ⟨a, xs, r, g, q⟩ := h
    exact ⟨a, xs, r, e.scrs _ _ g, RVs.grow e q⟩
  | .tix ts, _, h => by
    obtain ⟨a, xs, o, r, g, hd, n, q⟩ := h
    obtain ⟨g1, g2, g3⟩ := e.lsts a (.frz o (.tup xs)) True.intro g n.1 n.2
    exact ⟨a, xs, o, r, g1, hd, ⟨g2, g3⟩, RVs.grow e q⟩
  | .fn n, _, h => by
    obtain ⟨f, c, r, h1, h2, n1, n2⟩ := h
    obtain ⟨g1, g2, g3⟩ := e.lsts f (HX.LamO f (Tabl.lf n c)) (by unfold HX.LamO; exact True.intro) h1 n1.1 n1.2
    obtain ⟨k1, k2, k3⟩ := e.lsts c (LamX.CodeO c (Tabl.lf n c).qual) (by unfold LamX.CodeO; exact True.intro) h2 n2.1 n2.2
    exact ⟨f, c, r, g1, k1, ⟨g2, g3⟩, ⟨k2, k3⟩⟩
theorem RVs.grow (e : Grow ρ H ρ' H') : ∀ {ts : List T} {vs : List V}, RVs ρ H ts vs → RVs ρ' H' ts vs
  | [], _, h => h
  | t :: ts, _, h => by
    obtain ⟨x, r, g, q, q'⟩ := h
    exact ⟨x, r, g, RV.grow e q, RVs.grow e q'⟩
end
theorem RV.mono (e : Ext ρ H ρ' H') {t : T} {v : V} (h : RV ρ H t v) : RV ρ' H' t v := RV.grow e.grow h
theorem RVs.mono (e : Ext ρ H ρ' H') {t : List T} {v : List V} (h : RVs ρ H t v) : RVs ρ' H' t v := RVs.grow e.grow h
theorem RKs.grow (e : Grow ρ H ρ' H') : ∀ {ts : List (Str × T)} {vs : List (Key × V)}, RKs ρ H ts vs → RKs ρ' H' ts vs
  | [], _, h => h
  | (k, t) :: ts, _, h => by
    obtain ⟨x, r, g, q, q'⟩ := h
    exact ⟨x, r, g, RV.grow e q, RKs.grow e q'⟩
theorem RTs.grow (e : Grow ρ H ρ' H') : ∀ {ts : List (List Int × T)} {vs : List (List Key × V)}, RTs ρ H ts vs → RTs ρ' H' ts vs
  | [], _, h => h
  | (k, t) :: ts, _, h => by
    obtain ⟨x, r, g, q, q'⟩ := h
    exact ⟨x, r, g, RV.grow e q, RTs.grow e q'⟩
theorem RFs.grow (e : Grow ρ H ρ' H') : ∀ {ts : List (Str × T)} {vs : List (Str × V)}, RFs ρ H ts vs → RFs ρ' H' ts vs
  | [], _, h => h
  | (k, t) :: ts, _, h => by
    obtain ⟨x, r, g, q, q'⟩ := h
    exact ⟨x, r, g, RV.grow e q, RFs.grow e q'⟩
theorem RKs.mono (e : Ext ρ H ρ' H') {t : List (Str × T)} {v : List (Key × V)} (h : RKs ρ H t v) : RKs ρ' H' t v := RKs.grow e.grow h
theorem RFs.mono (e : Ext ρ H ρ' H') {t : List (Str × T)} {v : List (Str × V)} (h : RFs ρ H t v) : RFs ρ' H' t v := RFs.grow e.grow h
theorem RVs.length : ∀ {ts : List T} {vs : List V}, RVs ρ H ts vs → vs.length = ts.length
  | [], _, h => by cases h; rfl
  | t :: ts, _, h => by
    obtain ⟨x, r, rfl, _, q⟩ := h
    simp [RVs.length q]
theorem RVs.get : ∀ {ts : List T} {vs : List V} {i : Nat} {t : T}, RVs ρ H ts vs → ts[i]? = some t → ∃ v, vs[i]? = some v ∧ RV ρ H t v
  | [], _, _, _, _, e => by simp at e
  | t :: ts, _, 0, u, h, e => by
    obtain ⟨x, r, rfl, q, _⟩ := h
    simp at e; subst e
    exact ⟨x, rfl, q⟩
  | t :: ts, _, i + 1, u, h, e => by
    obtain ⟨x, r, rfl, _, q⟩ := h
    obtain ⟨v, h1, h2⟩ := RVs.get (i := i) q (by simpa using e)
    exact ⟨v, by simpa using h1, h2⟩
theorem RVs.get' {ts : List T} {vs : List V} {i : Nat} {v : V} (h : RVs ρ H ts vs) (e : vs[i]? = some v) : ∃ t, ts[i]? = some t ∧ RV ρ H t v := by
  have hl : i < ts.length := by
    have := (List.getElem?_eq_some_iff.mp e).1
    rw [← h.length]; exact this
  obtain ⟨v', e', r⟩ := RVs.get h (List.getElem?_eq_getElem hl)
  rw [e] at e'; cases e'
  exact ⟨_, List.getElem?_eq_getElem hl, r⟩
theorem RVs.append : ∀ {ts us : List T} {vs ws : List V}, RVs ρ H ts vs → RVs ρ H us ws → RVs ρ H (ts ++ us) (vs ++ ws)
  | [], _, _, _, h, q => by cases h; exact q
  | t :: ts, us, _, _, h, q => by
    obtain ⟨x, r, rfl, h1, h2⟩ := h
    exact ⟨x, _, rfl, h1, RVs.append h2 q⟩
theorem RVs.take : ∀ {ts : List T} {vs : List V} (n : Nat), RVs ρ H ts vs → RVs ρ H (ts.take n) (vs.take n)
  | _, _, 0, _ => by rw [List.take_zero, List.take_zero]; exact rfl
  | [], _, _ + 1, h => by cases h; exact rfl
  | t :: ts, _, n + 1, h => by
    obtain ⟨x, r, rfl, h1, h2⟩ := h
    exact ⟨x, _, rfl, h1, RVs.take n h2⟩
theorem RVs.drop : ∀ {ts : List T} {vs : List V} (n : Nat), RVs ρ H ts vs → RVs ρ H (ts.drop n) (vs.drop n)
  | _, _, 0, h => h
  | [], _, _ + 1, h => by cases h; exact rfl
  | t :: ts, _, n + 1, h => by
    obtain ⟨x, r, rfl, h1, h2⟩ := h
    exact RVs.drop n h2
theorem RVs.set : ∀ {ts : List T} {vs : List V} {t : T} {v : V} (n : Nat), RVs ρ H ts vs → RV ρ H t v → RVs ρ H (ts.set n t) (vs.set n v)
  | [], _, _, _, _, h, _ => by cases h; exact rfl
  | u :: ts, _, _, _, 0, h, q => by
    obtain ⟨x, r, rfl, h1, h2⟩ := h
    exact ⟨_, _, rfl, q, h2⟩
  | u :: ts, _, _, _, n + 1, h, q => by
    obtain ⟨x, r, rfl, h1, h2⟩ := h
    exact ⟨_, _, rfl, h1, RVs.set n h2 q⟩
theorem RVs.dropLast {ts : List T} {vs : List V} (h : RVs ρ H ts vs) : RVs ρ H ts.dropLast vs.dropLast := by
  rw [List.dropLast_eq_take, List.dropLast_eq_take, h.length]
  exact RVs.take _ h
theorem RVs.reverse : ∀ {ts : List T} {vs : List V}, RVs ρ H ts vs → RVs ρ H ts.reverse vs.reverse
  | [], _, h => by cases h; exact rfl
  | u :: ts, _, h => by
    obtain ⟨x, r, rfl, h1, h2⟩ := h
    rw [List.reverse_cons, List.reverse_cons]
    exact RVs.append (RVs.reverse h2) ⟨x, [], rfl, h1, rfl⟩
theorem RVs.one {t : T} {vs : List V} (h : RVs ρ H [t] vs) : ∃ v, vs = [v] ∧ RV ρ H t v := by
  obtain ⟨x, r, rfl, h1, h2⟩ := h
  cases h2
  exact ⟨x, rfl, h1⟩
theorem RVs.two {t u : T} {vs : List V} (h : RVs ρ H [t, u] vs) : ∃ v w, vs = [v, w] ∧ RV ρ H t v ∧ RV ρ H u w := by
  obtain ⟨x, r, rfl, h1, h2⟩ := h
  obtain ⟨w, rfl, h3⟩ := RVs.one h2
  exact ⟨x, w, rfl, h1, h3⟩
theorem RVs.ints : ∀ {ns : List Int} {vs : List V}, RVs ρ H (ns.map T.int) vs → vs = ns.map V.int
  | [], _, h => h
  | n :: ns, _, h => by
    obtain ⟨x, r, rfl, h1, h2⟩ := h
    rw [RVs.ints h2]
    rw [show x = V.int n from h1]; rfl
theorem RVs.ofInts : ∀ (ns : List Int), RVs ρ H (ns.map T.int) (ns.map V.int)
  | [] => rfl
  | n :: ns => ⟨_, _, rfl, rfl, RVs.ofInts ns⟩
end
theorem tabs_keep {T : List NdefX.NTab} {H H' : Hp} (h : NdefX.TabsN T H) (e : ∀ b o, ((∃ ps, o = .tbl ps) ∨ ∃ p, o = .ext p) → H b = some o → H' b = some o) : NdefX.TabsN T H' := fun p hp => by
  obtain ⟨ps, h1, h2, h3⟩ := h p hp
  refine ⟨ps, e _ _ (.inl ⟨ps, rfl⟩) h1, h2, fun pos cv hc => ?_⟩
  obtain ⟨c, e1, e2⟩ := h3 pos cv hc
  exact ⟨c, e1, e _ _ (.inr ⟨_, rfl⟩) e2⟩
theorem tabs_all {T : List NdefX.NTab} {H H' : Hp} (h : NdefX.TabsN T H) (e : ∀ b o, H b = some o → H' b = some o) : NdefX.TabsN T H' := tabs_keep h fun b o _ => e b o
theorem tabs_upd {T : List NdefX.NTab} {H : Hp} {p : Addr} {u o : HO} (h : NdefX.TabsN T H) (hp : H p = some u) (n1 : ∀ ps, u ≠ .tbl ps) (n2 : ∀ q, u ≠ .ext q) : NdefX.TabsN T (upd H p o) := tabs_keep h fun b o' z e => by
  rw [upd_ne]
  · exact e
  rintro rfl
  rw [hp] at e
  cases e
  rcases z with ⟨ps, z⟩ | ⟨q, z⟩
  · exact n1 ps z
  · exact n2 q z
theorem tabs_new {T : List NdefX.NTab} {H : Hp} {p : Addr} {o : HO} (h : NdefX.TabsN T H) (hn : H p = none) : NdefX.TabsN T (upd H p o) := tabs_all h fun b o' e => by rw [upd_ne (ne_of_none e hn)]; exact e
def OV (ρ : Ro) (H : Hp) : Ob → Addr → Prop
  | .lst ts, a => ∃ xs, H a = some (.lst xs) ∧ RVs ρ H ts xs
  | .dic kvs, a => ∃ ks, H a = some (.dK ks) ∧ RKs ρ H kvs ks
  | .dtp kvs, a => ∃ ks, H a = some (.dT ks) ∧ RTs ρ H kvs ks
  | .ins cl fs, a => ∃ C dx xs, PySem.W.nsIn ρ.K mainGlobals cl = some (some (.ref C)) ∧ H a = some (.ins C dx xs) ∧ RFs ρ H fs xs
structure Rel (ρ : Ro) (st : Store) (H : Hp) : Prop where
  len : ρ.s.length = st.length
  nodup : ρ.s.Nodup
  at_ : ∀ (n : Nat) (o : Ob) (a : Addr), st[n]? = some o → ρ.s[n]? = some a → OV ρ H o a
  priv : ∀ a ∈ ρ.d, a ∉ ρ.s ∧ ∃ o, H a = some o ∧ ∀ q, o ≠ .ext q
  tabs : NdefX.TabsN Tabl.T H
theorem Rel.addr {ρ : Ro} {st : Store} {H : Hp} (r : Rel ρ st H) {n : Nat} {o : Ob} (e : st[n]? = some o) : ∃ a, ρ.s[n]? = some a ∧ OV ρ H o a := by
  have hl : n < ρ.s.length := by
    rw [r.len]; exact (List.getElem?_eq_some_iff.mp e).1
  exact ⟨_, List.getElem?_eq_getElem hl, r.at_ n o _ e (List.getElem?_eq_getElem hl)⟩
theorem OV_some {ρ : Ro} {H : Hp} {ob : Ob} {a : Addr} (h : OV ρ H ob a) : ∃ o, H a = some o ∧ ∀ xs, o ≠ .tup xs := by
  cases ob with
  | lst ts =>
    obtain ⟨xs, h, q⟩ := h
    exact ⟨_, h, fun _ z => nomatch z⟩
  | dic kvs =>
    obtain ⟨xs, h, q⟩ := h
    exact ⟨_, h, fun _ z => nomatch z⟩
  | dtp kvs =>
    obtain ⟨xs, h, q⟩ := h
    exact ⟨_, h, fun _ z => nomatch z⟩
  | ins cl fs =>
    obtain ⟨C, dx, xs, _, h, q⟩ := h
    exact ⟨_, h, fun _ z => nomatch z⟩
theorem OV_some2 {ρ : Ro} {H : Hp} {ob : Ob} {a : Addr} (h : OV ρ H ob a) : ∃ o, H a = some o ∧ (∀ ps, o ≠ .tbl ps) ∧ ∀ q, o ≠ .ext q := by
  cases ob with
  | lst ts =>
    obtain ⟨xs, h, q⟩ := h
    exact ⟨_, h, (fun _ z => nomatch z), (fun _ z => nomatch z)⟩
  | dic kvs =>
    obtain ⟨xs, h, q⟩ := h
    exact ⟨_, h, (fun _ z => nomatch z), (fun _ z => nomatch z)⟩
  | dtp kvs =>
    obtain ⟨xs, h, q⟩ := h
    exact ⟨_, h, (fun _ z => nomatch z), (fun _ z => nomatch z)⟩
  | ins cl fs =>
    obtain ⟨C, dx, xs, _, h, q⟩ := h
    exact ⟨_, h, (fun _ z => nomatch z), (fun _ z => nomatch z)⟩
theorem Rel.tracked2 {ρ : Ro} {st : Store} {H : Hp} (r : Rel ρ st H) {a : Addr} (h : a ∈ ρ.s) : ∃ o, H a = some o ∧ (∀ ps, o ≠ .tbl ps) ∧ ∀ q, o ≠ .ext q := by
  obtain ⟨n, hn⟩ := List.getElem?_of_mem h
  have hl : n < st.length := by rw [← r.len]; exact (List.getElem?_eq_some_iff.mp hn).1
  exact OV_some2 (r.at_ n _ a (List.getElem?_eq_getElem hl) hn)
theorem Rel.tracked {ρ : Ro} {st : Store} {H : Hp} (r : Rel ρ st H) {a : Addr} (h : a ∈ ρ.s) : ∃ o, H a = some o ∧ ∀ xs, o ≠ .tup xs := by
  obtain ⟨n, hn⟩ := List.getElem?_of_mem h
  have hl : n < st.length := by rw [← r.len]; exact (List.getElem?_eq_some_iff.mp hn).1
  exact OV_some (r.at_ n _ a (List.getElem?_eq_getElem hl) hn)
theorem Rel.out {ρ : Ro} {st : Store} {H : Hp} (r : Rel ρ st H) {a : Addr} (h : H a = none) : a ∉ ρ.s := fun m => by
  obtain ⟨o, e, _⟩ := r.tracked m
  rw [h] at e; cases e
theorem Ext.new {ρ : Ro} {H : Hp} {p : Addr} {o : HO} (hn : H p = none) : Ext ρ H ρ (upd H p o) :=
  ⟨⟨[], by simp⟩, rfl, fun _ h => h, fun _ h => .inl h, fun _ h => .inl h, fun b xs h => by rw [upd_ne (ne_of_none h hn)]; exact h, fun b o' h _ _ => by rw [upd_ne (ne_of_none h hn)]; exact h, fun b ps h => ⟨ps, by rw [upd_ne (ne_of_none h hn)]; exact h⟩⟩
theorem Ext.add {ρ : Ro} {H H' : Hp} {ρ' : Ro} {p : Addr} (e : Ext ρ H ρ' H') (hn : H p = none) : Ext ρ H (ρ'.add p) H' := by
  obtain ⟨r, hr⟩ := e.pre
  refine ⟨⟨r ++ [p], by show ρ'.s ++ [p] = _; rw [hr, List.append_assoc]⟩, e.K, e.dsub, e.dfresh, fun b hb => ?_, e.tups, e.keep, e.tbl⟩
  rcases List.mem_append.mp (show b ∈ ρ'.s ++ [p] from hb) with h | h
  · exact e.fresh b h
  · have : b = p := by simpa using h
    subst this; exact .inr hn
theorem Ext.put {ρ : Ro} {H : Hp} {p : Addr} {o : HO} (hp : p ∈ ρ.s) (ht : ∀ xs, H p ≠ some (.tup xs)) (ht2 : ∀ ps, H p ≠ some (.tbl ps)) : Ext ρ H ρ (upd H p o) :=
  ⟨⟨[], by simp⟩, rfl, fun _ h => h, fun _ h => .inl h, fun _ h => .inl h, fun b xs h => by
    rw [upd_ne]; exact h
    rintro rfl; exact ht _ h, fun b o' h n _ => by
    rw [upd_ne]; exact h
    rintro rfl; exact n hp, fun b ps h => ⟨ps, by
    rw [upd_ne]; exact h
    rintro rfl; exact ht2 _ h⟩⟩
theorem get_inj {l : List Addr} (hd : l.Nodup) {i j : Nat} {a : Addr} (h : l[i]? = some a) (h' : l[j]? = some a) : i = j := by
  obtain ⟨h1, e1⟩ := List.getElem?_eq_some_iff.mp h
  obtain ⟨h2, e2⟩ := List.getElem?_eq_some_iff.mp h'
  exact (List.getElem_inj hd).mp (e1.trans e2.symm)
theorem OV_grow {ρ ρ' : Ro} {H H' : Hp} {ob : Ob} {a : Addr} (e : Grow ρ H ρ' H') (k : ∀ o, H a = some o → H' a = some o) (h : OV ρ H ob a) : OV ρ' H' ob a := by
  cases ob with
  | lst ts =>
    obtain ⟨xs, h, q⟩ := h
    exact ⟨xs, k _ h, RVs.grow e q⟩
  | dic kvs =>
    obtain ⟨xs, h, q⟩ := h
    exact ⟨xs, k _ h, RKs.grow e q⟩
  | dtp kvs =>
    obtain ⟨xs, h, q⟩ := h
    exact ⟨xs, k _ h, RTs.grow e q⟩
  | ins cl fs =>
    obtain ⟨C, dx, xs, c, h, q⟩ := h
    exact ⟨C, dx, xs, by rw [e.K]; exact c, k _ h, RFs.grow e q⟩
section
variable {ρ : Ro} {st : Store} {H : Hp}
theorem Rel.new {p : Addr} {o : HO} (r : Rel ρ st H) (hn : H p = none) : Rel ρ st (upd H p o) :=
  ⟨r.len, r.nodup, fun n ob a e g => OV_grow (Ext.new hn).grow (h := r.at_ n ob a e g) fun o' h => by rw [upd_ne (ne_of_none h hn)]; exact h, fun a h => by
    obtain ⟨h1, o', h2, h3⟩ := r.priv a h
    exact ⟨h1, o', by rw [upd_ne (ne_of_none h2 hn)]; exact h2, h3⟩, tabs_new r.tabs hn⟩
theorem nodup_add {l : List Addr} {p : Addr} (h : l.Nodup) (hp : p ∉ l) : (l ++ [p]).Nodup := by
  rw [List.nodup_append]
  refine ⟨h, by simp, fun a ha b hb => ?_⟩
  have : b = p := by simpa using hb
  subst this
  rintro rfl
  exact hp ha
theorem Rel.alloc {p : Addr} {o : HO} {ob : Ob} (r : Rel ρ st H) (hn : H p = none) (h : OV (ρ.add p) (upd H p o) ob p) : Rel (ρ.add p) (st ++ [ob]) (upd H p o) := by
  refine ⟨by show (ρ.s ++ [p]).length = _; simp [r.len], nodup_add r.nodup (r.out hn), fun n o' a e g => ?_, fun a h => by
    obtain ⟨h1, o', h2, h3⟩ := r.priv a h
    refine ⟨fun m => ?_, o', by rw [upd_ne (ne_of_none h2 hn)]; exact h2, h3⟩
    rcases List.mem_append.mp (show a ∈ ρ.s ++ [p] from m) with m | m
    · exact h1 m
    · exact ne_of_none h2 hn (by simpa using m), tabs_new r.tabs hn⟩
  have g : (ρ.s ++ [p])[n]? = some a := g
  by_cases hl : n < st.length
  · rw [List.getElem?_append_left hl] at e
    rw [List.getElem?_append_left (by rw [r.len]; exact hl)] at g
    exact OV_grow ((Ext.new hn).add hn).grow (h := r.at_ n o' a e g) fun o'' h => by rw [upd_ne (ne_of_none h hn)]; exact h
  · have hn' : n = st.length := by
      have := (List.getElem?_eq_some_iff.mp e).1
      simp at this
      omega
    subst hn'
    rw [List.getElem?_append_right (Nat.le_refl _)] at e
    rw [List.getElem?_append_right (by rw [r.len]; exact Nat.le_refl _)] at g
    simp at e
    rw [show st.length - ρ.s.length = 0 by rw [r.len]; omega] at g
    simp at g
    subst e g
    exact h
theorem Rel.put {n : Nat} {a : Addr} {o : HO} {ob : Ob} (r : Rel ρ st H) (g : ρ.s[n]? = some a) (h : OV ρ (upd H a o) ob a) : Rel ρ (st.set n ob) (upd H a o) := by
  obtain ⟨oo, oe, on1, on2⟩ := r.tracked2 (List.mem_of_getElem? g)
  have e : Ext ρ H ρ (upd H a o) := Ext.put (List.mem_of_getElem? g) (fun xs z => by
    obtain ⟨o', e1, e2⟩ := r.tracked (List.mem_of_getElem? g)
    rw [e1] at z
    exact e2 xs (Option.some.inj z)) fun ps z => by
    rw [oe] at z
    exact on1 ps (Option.some.inj z)
  refine ⟨by simp [r.len], r.nodup, fun m o' b e' g' => ?_, fun b h => by
    obtain ⟨h1, o', h2, h3⟩ := r.priv b h
    exact ⟨h1, o', by rw [upd_ne (fun z => h1 (by rw [z]; exact List.mem_of_getElem? g))]; exact h2, h3⟩, tabs_upd r.tabs oe on1 on2⟩
  by_cases hm : m = n
  · subst hm
    rw [g] at g'
    cases g'
    have hl : m < st.length := by rw [← r.len]; exact (List.getElem?_eq_some_iff.mp g).1
    rw [List.getElem?_set_self hl] at e'
    cases e'
    exact h
  · rw [List.getElem?_set_ne (Ne.symm hm)] at e'
    have hb : b ≠ a := by
      rintro rfl
      exact hm (get_inj r.nodup g' g)
    exact OV_grow e.grow (h := r.at_ m o' b e' g') fun o'' h => by rw [upd_ne hb]; exact h
theorem Rel.putExt {n : Nat} {a : Addr} {o : HO} (r : Rel ρ st H) (g : ρ.s[n]? = some a) : Ext ρ H ρ (upd H a o) :=
  Ext.put (List.mem_of_getElem? g) (fun xs z => by
    obtain ⟨o', e1, e2⟩ := r.tracked (List.mem_of_getElem? g)
    rw [e1] at z
    exact e2 xs (Option.some.inj z)) fun ps z => by
    obtain ⟨oo, oe, on1, on2⟩ := r.tracked2 (List.mem_of_getElem? g)
    rw [oe] at z
    exact on1 ps (Option.some.inj z)
theorem Ext.hide {p : Addr} {o : HO} (hn : H p = none) : Ext ρ H (ρ.hide p) (upd H p o) := by
  have g := Ext.new (ρ := ρ) (o := o) hn
  refine ⟨⟨[], by show ρ.s = _; simp⟩, rfl, fun b h => List.mem_cons_of_mem _ h, fun b h => ?_, g.fresh, g.tups, g.keep, g.tbl⟩
  rcases List.mem_cons.mp (show b ∈ p :: ρ.d from h) with z | z
  · subst z; exact .inr (.inr hn)
  · exact .inl z
theorem Rel.hide {p : Addr} {o : HO} (r : Rel ρ st H) (hn : H p = none) (ho : ∀ q, o ≠ .ext q) : Rel (ρ.hide p) st (upd H p o) :=
  ⟨r.len, r.nodup, fun n ob a e g => OV_grow (Ext.hide hn).grow (h := r.at_ n ob a e g) fun o' h => by rw [upd_ne (ne_of_none h hn)]; exact h, fun a h => by
    rcases List.mem_cons.mp (show a ∈ p :: ρ.d from h) with h | h
    · subst h; exact ⟨r.out hn, o, upd_same, ho⟩
    · obtain ⟨h1, o', h2, h3⟩ := r.priv a h
      exact ⟨h1, o', by rw [upd_ne (ne_of_none h2 hn)]; exact h2, h3⟩, tabs_new r.tabs hn⟩
theorem Grow.poke {p : Addr} {xs ys : List V} (hd : p ∈ ρ.d) (hp : H p = some (.lst xs)) : Grow ρ H ρ (upd H p (.lst ys)) := by
  refine ⟨fun _ _ h => h, fun b zs h => ?_, fun b zs _ h n n' => ⟨?_, n, n'⟩, fun b zs h => ?_, rfl⟩
  · refine h.elim (fun h => .inl ?_) fun h => h.elim (fun ⟨n, o, h⟩ => .inr (.inl ⟨n, o, ?_, h.2⟩)) fun h => .inr (.inr h)
    · rw [upd_ne]; exact h
      rintro rfl; rw [hp] at h; cases h
    · rw [upd_ne (show b ≠ p from fun z => n.2 (by rw [z]; exact hd))]; exact h.1
  · rw [upd_ne]; exact h
    rintro rfl; exact n' hd
  · rcases h with ⟨n, h⟩ | h
    · left
      refine ⟨n, ?_⟩
      rw [upd_ne (show b ≠ p from fun z => n.2 (by rw [z]; exact hd))]
      exact h
    · exact .inr h
theorem Rel.poke {p : Addr} {xs ys : List V} (r : Rel ρ st H) (hd : p ∈ ρ.d) (hp : H p = some (.lst xs)) : Rel ρ st (upd H p (.lst ys)) := by
  have hs := (r.priv p hd).1
  refine ⟨r.len, r.nodup, fun n ob a e g => OV_grow (Grow.poke hd hp) (h := r.at_ n ob a e g) fun o' h => ?_, fun a h => ?_, tabs_upd r.tabs hp (fun _ z => nomatch z) fun _ z => nomatch z⟩
  · rw [upd_ne (show a ≠ p from fun z => hs (by rw [← z]; exact List.mem_of_getElem? g))]; exact h
  · obtain ⟨h1, o, h2, h3⟩ := r.priv a h
    refine ⟨h1, ?_⟩
    by_cases ha : a = p
    · subst ha; exact ⟨_, upd_same, fun _ z => nomatch z⟩
    · exact ⟨o, by rw [upd_ne ha]; exact h2, h3⟩
theorem Ext.norm {ρ' : Ro} {H' : Hp} {p : Addr} {xs l0 : List V} (e : Ext ρ H ρ' H') (hp : H p = some (.lst xs)) : Ext ρ (upd H p (.lst l0)) ρ' (upd H' p (.lst l0)) := by
  have ne : ∀ {b : Addr}, H b = none → upd H p (.lst l0) b = none := fun {b} h => by
    rw [upd_ne]; exact h
    rintro rfl; rw [hp] at h; cases h
  refine ⟨e.pre, e.K, e.dsub, fun b h => (e.dfresh b h).imp_right (·.imp_right ne), fun b h => (e.fresh b h).imp_right ne, fun b zs h => ?_, fun b o h n nt => ?_, fun b ps h => ?_⟩
  · by_cases hb : b = p
    · subst hb; rw [upd_same] at h; cases h
    · rw [upd_ne hb] at h ⊢; exact e.tups b zs h
  · by_cases hb : b = p
    · subst hb; rw [upd_same] at h ⊢; exact h
    · rw [upd_ne hb] at h ⊢; exact e.keep b o h n nt
  · by_cases hb : b = p
    · subst hb; rw [upd_same] at h; cases h
    · rw [upd_ne hb] at h ⊢; exact e.tbl b ps h
theorem Ext.unhide {ρ' : Ro} {H' : Hp} {p : Addr} {l0 : List V} (hn : H p = none) (e : Ext (ρ.hide p) (upd H p (.lst l0)) ρ' (upd H' p (.lst l0))) : Ext ρ H ρ' H' := by
  have nn : ∀ {b : Addr}, upd H p (.lst l0) b = none → H b = none := fun {b} h => by
    by_cases hb : b = p
    · subst hb; exact hn
    · rw [upd_ne hb] at h; exact h
  refine ⟨e.pre, e.K, fun b h => e.dsub b (List.mem_cons_of_mem _ h), fun b h => ?_, fun b h => (e.fresh b h).imp_right nn, fun b zs h => ?_, fun b o h n nt => ?_, fun b ps h => ?_⟩
  · rcases e.dfresh b h with z | z | z
    · rcases List.mem_cons.mp (show b ∈ p :: ρ.d from z) with z | z
      · subst z; exact .inr (.inr hn)
      · exact .inl z
    · exact .inr (.inl z)
    · exact .inr (.inr (nn z))
  · have hb : b ≠ p := ne_of_none h hn
    have q := e.tups b zs (by rw [upd_ne hb]; exact h)
    rw [upd_ne hb] at q; exact q
  · have hb : b ≠ p := ne_of_none h hn
    have q := e.keep b o (by rw [upd_ne hb]; exact h) n nt
    rw [upd_ne hb] at q; exact q
  · have hb : b ≠ p := ne_of_none h hn
    have q := e.tbl b ps (by rw [upd_ne hb]; exact h)
    rw [upd_ne hb] at q; exact q
def Ro.bare (ρ : Ro) (p : Addr) : Ro := { ρ with d := ρ.d.filter fun b => decide (b ≠ p) }
theorem mem_bare {b p : Addr} : b ∈ (ρ.bare p).d ↔ b ∈ ρ.d ∧ b ≠ p := by
  show b ∈ ρ.d.filter (fun b => decide (b ≠ p)) ↔ _
  simp
theorem Grow.bare {p : Addr} : Grow ρ H (ρ.bare p) H :=
  ⟨fun _ _ h => h, fun b xs h => h.imp_right fun h => h.imp_left fun h => ⟨⟨h.1.1, fun z => h.1.2 (mem_bare.mp z).1⟩, h.2⟩, fun b xs _ h n n' => ⟨h, n, fun z => n' (mem_bare.mp z).1⟩, fun b xs h => h.elim (fun h => .inl ⟨⟨h.1.1, fun z => h.1.2 (mem_bare.mp z).1⟩, h.2⟩) .inr, rfl⟩
theorem Rel.bare {p : Addr} (r : Rel ρ st H) : Rel (ρ.bare p) st H :=
  ⟨r.len, r.nodup, fun n ob a e g => OV_grow Grow.bare (h := r.at_ n ob a e g) fun o' h => h, fun a h => r.priv a (mem_bare.mp h).1, r.tabs⟩
theorem Ext.bare {ρ' : Ro} {H' : Hp} {p : Addr} (e : Ext ρ H ρ' H') (hp : p ∉ ρ.d) : Ext ρ H (ρ'.bare p) H' :=
  ⟨e.pre, e.K, fun b h => mem_bare.mpr ⟨e.dsub b h, fun z => hp (z ▸ h)⟩, fun b h => e.dfresh b (mem_bare.mp h).1, e.fresh, e.tups, e.keep, e.tbl⟩
theorem Rel.adopt {p : Addr} {ob : Ob} (r : Rel ρ st H) (hd : p ∈ ρ.d) (h : OV ((ρ.bare p).add p) H ob p) : Rel ((ρ.bare p).add p) (st ++ [ob]) H := by
  have hs := (r.priv p hd).1
  have aux : ∀ b, b ∉ ρ.s → b ∉ ρ.d → b ∉ ρ.s ++ [p] := fun b n n' z => by
    rcases List.mem_append.mp z with z | z
    · exact n z
    · have hbp : b = p := by simpa using z
      exact n' (by rw [hbp]; exact hd)
  have G : Grow ρ H ((ρ.bare p).add p) H := by
    refine ⟨fun n a h => ?_, fun b xs h => h.imp_right fun h => h.imp_left fun h => ⟨⟨aux b h.1.1 h.1.2, fun z => h.1.2 (mem_bare.mp z).1⟩, h.2⟩, fun b xs _ h n n' => ⟨h, fun z => ?_, fun z => n' (mem_bare.mp z).1⟩, fun b xs h => h.elim (fun h => .inl ⟨⟨fun z => ?_, fun z => h.1.2 (mem_bare.mp z).1⟩, h.2⟩) .inr, rfl⟩
    · show (ρ.s ++ [p])[n]? = _
      rw [List.getElem?_append_left (List.getElem?_eq_some_iff.mp h).1]; exact h
    · rcases List.mem_append.mp (show b ∈ ρ.s ++ [p] from z) with z | z
      · exact n z
      · have : b = p := by simpa using z
        subst this; exact n' hd
    · rcases List.mem_append.mp (show b ∈ ρ.s ++ [p] from z) with z | z
      · exact h.1.1 z
      · have hbp : b = p := by simpa using z
        exact h.1.2 (by rw [hbp]; exact hd)
  refine ⟨by show (ρ.s ++ [p]).length = _; simp [r.len], nodup_add r.nodup hs, fun n o' a e g => ?_, fun a h => ?_, r.tabs⟩
  · have g : (ρ.s ++ [p])[n]? = some a := g
    by_cases hl : n < st.length
    · rw [List.getElem?_append_left hl] at e
      rw [List.getElem?_append_left (by rw [r.len]; exact hl)] at g
      exact OV_grow G (h := r.at_ n o' a e g) fun _ h => h
    · have hn' : n = st.length := by
        have := (List.getElem?_eq_some_iff.mp e).1
        simp at this
        omega
      subst hn'
      rw [List.getElem?_append_right (Nat.le_refl _)] at e
      rw [List.getElem?_append_right (by rw [r.len]; exact Nat.le_refl _)] at g
      simp at e
      rw [show st.length - ρ.s.length = 0 by rw [r.len]; omega] at g
      simp at g
      subst e g
      exact h
  · obtain ⟨h1, h2⟩ := mem_bare.mp (show a ∈ (ρ.bare p).d from h)
    obtain ⟨h3, h4⟩ := r.priv a h1
    refine ⟨fun z => ?_, h4⟩
    rcases List.mem_append.mp (show a ∈ ρ.s ++ [p] from z) with z | z
    · exact h3 z
    · exact h2 (by simpa using z)
end
end Mir
namespace Mir
variable [Tabl]
open PySem PySem.Spec PyProof.Rows L2
def RE (ρ : Ro) (H : Hp) (env : Env) (σ : L2.St) : Prop :=
  env.length = σ.length ∧ ∀ (i : Nat) (t : T), env[i]? = some (some t) → ∃ v, σ[i]? = some (some v) ∧ RV ρ H t v
theorem RE.mono {ρ ρ' : Ro} {H H' : Hp} {env : Env} {σ : L2.St} (r : RE ρ H env σ) (e : Ext ρ H ρ' H') : RE ρ' H' env σ :=
  ⟨r.1, fun i t h => let ⟨v, a, b⟩ := r.2 i t h; ⟨v, a, b.mono e⟩⟩
theorem RE.set {ρ : Ro} {H : Hp} {env : Env} {σ : L2.St} {t : T} {v : V} (r : RE ρ H env σ) (i : Nat) (h : RV ρ H t v) : RE ρ H (env.set i (some t)) (σ.set i (some v)) := by
  refine ⟨by simp [r.1], fun j u e => ?_⟩
  by_cases hj : j = i
  · subst hj
    have hl : j < env.length := by
      have := (List.getElem?_eq_some_iff.mp e).1
      simpa using this
    rw [List.getElem?_set_self hl] at e
    cases e
    exact ⟨v, by rw [List.getElem?_set_self (by rw [← r.1]; exact hl)], h⟩
  · rw [List.getElem?_set_ne (Ne.symm hj)] at e
    obtain ⟨w, a, b⟩ := r.2 j u e
    exact ⟨w, by rw [List.getElem?_set_ne (Ne.symm hj)]; exact a, b⟩
theorem RE.unset {ρ : Ro} {H : Hp} {env : Env} {σ : L2.St} (r : RE ρ H env σ) (i : Nat) : RE ρ H (env.set i none) (σ.set i none) := by
  refine ⟨by simp [r.1], fun j u e => ?_⟩
  by_cases hj : j = i
  · subst hj
    have hl : j < env.length := by
      have := (List.getElem?_eq_some_iff.mp e).1
      simpa using this
    rw [List.getElem?_set_self hl] at e
    cases e
  · rw [List.getElem?_set_ne (Ne.symm hj)] at e
    obtain ⟨w, a, b⟩ := r.2 j u e
    exact ⟨w, by rw [List.getElem?_set_ne (Ne.symm hj)]; exact a, b⟩
def RX (mg : Str → Option Value) (ρ : Ro) (H : Hp) (x : Ex) (cls : Value) (d : Option Addr) : Prop :=
  ∃ C dd fs, mg x.cls = some (.ref C) ∧ cls = .ref C ∧ d = some dd ∧ H dd = some (.xd fs) ∧ RFs ρ H x.fs fs ∧ dd ∉ ρ.s
def Fin {α : Type} (mg : Str → Option Value) (W : WX) (ρ : Ro) (H : Hp) (σ : L2.St) (r : R α) (P : Ro → Hp → α → Prop) : Prop :=
  match r with
  | .ok a st' => ∀ ρ' H', Ext ρ H ρ' H' → Rel ρ' st' H' → P ρ' H' a
  | .exc x st' => ∀ ρ' H' cls d, Ext ρ H ρ' H' → Rel ρ' st' H' → RX mg ρ' H' x cls d → W cls d σ H'
  | .stuck => False
abbrev KQ (Q : VK) : Ro → Hp → T → Prop := fun ρ H t => ∀ v, RV ρ H t v → Q v H
abbrev KQs (Q : List V → Hp → Prop) : Ro → Hp → List T → Prop := fun ρ H t => ∀ v, RVs ρ H t v → Q v H
abbrev KB (Q : Bool → Hp → Prop) : Ro → Hp → Bool → Prop := fun _ H t => Q t H
section
variable {α β : Type} {mg : Str → Option Value} {W : WX} {ρ : Ro} {H : Hp} {σ : L2.St} {r : R α} {k : α → M β} {P : Ro → Hp → α → Prop} {P' : Ro → Hp → β → Prop}
theorem Fin.imp {P2 : Ro → Hp → α → Prop} (h : Fin mg W ρ H σ r P) (i : ∀ ρ' H' a, P ρ' H' a → P2 ρ' H' a) : Fin mg W ρ H σ r P2 := by
  cases r with
  | ok a st => exact fun ρ' H' e rl => i _ _ _ (h ρ' H' e rl)
  | exc x st => exact h
  | stuck => exact h
theorem Fin.rebase {ρ1 : Ro} {H1 : Hp} (e : Ext ρ H ρ1 H1) (h : Fin mg W ρ H σ r P) : Fin mg W ρ1 H1 σ r P := by
  cases r with
  | ok a st => exact fun ρ' H' e' rl => h ρ' H' (e.trans e') rl
  | exc x st => exact fun ρ' H' c d e' rl x => h ρ' H' c d (e.trans e') rl x
  | stuck => exact h
theorem Fin.bind (h : Fin mg W ρ H σ (r.bind k) P') : Fin mg W ρ H σ r fun ρ1 H1 a => ∃ st1, Ext ρ H ρ1 H1 ∧ Rel ρ1 st1 H1 ∧ Fin mg W ρ1 H1 σ (k a st1) P' := by
  cases r with
  | ok a st => exact fun ρ1 H1 e rl => ⟨st, e, rl, Fin.rebase (r := k a st) e h⟩
  | exc x st => exact h
  | stuck => exact h
theorem Fin.val {a : α} {st : Store} (h : Fin mg W ρ H σ (.ok a st) P) (r : Rel ρ st H) : P ρ H a := h ρ H (.refl ρ H) r
end
def tE (K : PySem.W.Frag) (mg : Str → Option Value) (W : WX) (m : ME) : TE := fun σ H Q =>
  ∃ ρ st env, ρ.K = K ∧ Rel ρ st H ∧ RE ρ H env σ ∧ Fin mg W ρ H σ (m env st) (KQ Q)
def tA (K : PySem.W.Frag) (mg : Str → Option Value) (W : WX) (m : Env → M (List T)) : TA := fun σ H Q =>
  ∃ ρ st env, ρ.K = K ∧ Rel ρ st H ∧ RE ρ H env σ ∧ Fin mg W ρ H σ (m env st) (KQs Q)
def tT (K : PySem.W.Frag) (mg : Str → Option Value) (W : WX) (m : Env → M Bool) : TT := fun σ H Q =>
  ∃ ρ st env, ρ.K = K ∧ Rel ρ st H ∧ RE ρ H env σ ∧ Fin mg W ρ H σ (m env st) (KB Q)
abbrev JE (X : Cx) (W : WX) (e : Expr) (m : ME) : Prop := PE X e (tE X.K X.mg W m)
abbrev JA (X : Cx) (W : WX) (e : List Expr) (m : Env → M (List T)) : Prop := PA X e (tA X.K X.mg W m)
abbrev JT (X : Cx) (W : WX) (e : Expr) (m : Env → M Bool) : Prop := PT X e (tT X.K X.mg W m)
section
variable {X : Cx}
theorem pe_imp {e : Expr} {t t' : TE} (h : PE X e t) (i : ∀ σ H Q, t' σ H Q → t σ H Q) : PE X e t' := ⟨fun pins s σ H Q I q => h.run pins s σ H Q I (i σ H Q q)⟩
theorem pt_imp {e : Expr} {t t' : TT} (h : PT X e t) (i : ∀ σ H Q, t' σ H Q → t σ H Q) : PT X e t' := ⟨fun pins s σ H Q I q => h.run pins s σ H Q I (i σ H Q q)⟩
theorem pw_imp {e : Expr} {t t' : TT} (h : PW X e t) (i : ∀ σ H Q, t' σ H Q → t σ H Q) : PW X e t' := ⟨fun w pins s σ H Q I q => h.run w pins s σ H Q I (i σ H Q q)⟩
theorem pa_imp {e : List Expr} {t t' : TA} (h : PA X e t) (i : ∀ σ H Q, t' σ H Q → t σ H Q) : PA X e t' := ⟨fun pos pins s σ H Q I q => h.run pos pins s σ H Q I (i σ H Q q)⟩
end
def eVar (i : Nat) : ME := fun env st => match env[i]? with
  | some (some t) => .ok t st
  | _ => .stuck
def eC (t : T) : ME := fun _ st => .ok t st
section
variable {X : Cx} {W : WX} {pos : Pos}
theorem j_var (i : Nat) {x : Str} (hN : X.N[i]? = some x := by rfl) (hv : Vis X.env.scope x := by first | exact Or.inl rfl | exact Or.inr (Or.inl rfl) | exact Or.inr (Or.inr rfl)) (hd : (x == ("__debug__" : Str)) = false := by decide)
    (hcd : (x == ("__classdict__" : Str)) = false := by decide) : JE X W (.Name x pos) (eVar i) := pe_imp (pe_var hN hv hd hcd) fun σ H Q ⟨ρ, st, env, hK, rel, re, h⟩ => by
  unfold eVar at h
  cases e : env[i]? with
  | none => rw [e] at h; exact h.elim
  | some o =>
    cases o with
    | none => rw [e] at h; exact h.elim
    | some t =>
      rw [e] at h
      obtain ⟨v, a, b⟩ := re.2 i t e
      exact ⟨v, a, h.val rel v b⟩
theorem j_int {i j} : JE X W (.Constant (.int i) j pos) (eC (.int i)) := pe_imp pe_int fun σ H Q ⟨ρ, st, env, hK, rel, re, h⟩ => h.val rel _ rfl
theorem j_bl {b j} : JE X W (.Constant (.bool b) j pos) (eC (.bl b)) := pe_imp pe_bl fun σ H Q ⟨ρ, st, env, hK, rel, re, h⟩ => h.val rel _ rfl
theorem j_str {s j} : JE X W (.Constant (.str s) j pos) (eC (.str s)) := pe_imp pe_str fun σ H Q ⟨ρ, st, env, hK, rel, re, h⟩ => h.val rel _ rfl
end
def Op1 (K : PySem.W.Frag) (r : V → Hp → VK → Prop) (k : T → M T) : Prop := ∀ (mg : Str → Option Value) (W : WX) (ρ : Ro) (st : Store) (H : Hp) (σ : L2.St) (t : T) (x : V) (Q : VK),
  ρ.K = K → Rel ρ st H → RV ρ H t x → Fin mg W ρ H σ (k t st) (KQ Q) → r x H Q
def Op2 (K : PySem.W.Frag) (r : R2) (k : T → T → M T) : Prop := ∀ (mg : Str → Option Value) (W : WX) (ρ : Ro) (st : Store) (H : Hp) (σ : L2.St) (t u : T) (x y : V) (Q : VK),
  ρ.K = K → Rel ρ st H → RV ρ H t x → RV ρ H u y → Fin mg W ρ H σ (k t u st) (KQ Q) → r x y H Q
def OpL (K : PySem.W.Frag) (r : List V → Hp → VK → Prop) (k : List T → M T) : Prop := ∀ (mg : Str → Option Value) (W : WX) (ρ : Ro) (st : Store) (H : Hp) (σ : L2.St) (ts : List T) (xs : List V) (Q : VK),
  ρ.K = K → Rel ρ st H → RVs ρ H ts xs → Fin mg W ρ H σ (k ts st) (KQ Q) → r xs H Q
def OpM (K : PySem.W.Frag) (r : V → List V → Hp → VK → Prop) (k : T → List T → M T) : Prop := ∀ (mg : Str → Option Value) (W : WX) (ρ : Ro) (st : Store) (H : Hp) (σ : L2.St) (t : T) (x : V) (ts : List T) (xs : List V) (Q : VK),
  ρ.K = K → Rel ρ st H → RV ρ H t x → RVs ρ H ts xs → Fin mg W ρ H σ (k t ts st) (KQ Q) → r x xs H Q
def e1 (k : T → M T) (a : ME) : ME := fun env st => (a env st).bind fun t st1 => k t st1
def e2 (k : T → T → M T) (a b : ME) : ME := fun env st => (a env st).bind fun t st1 => (b env st1).bind fun u st2 => k t u st2
def eL (k : List T → M T) (a : Env → M (List T)) : ME := fun env st => (a env st).bind fun t st1 => k t st1
def eM (is : T → Store → Bool) (k : T → List T → M T) (a : ME) (b : Env → M (List T)) : ME := fun env st => (a env st).bind fun t st1 => if is t st1 then (b env st1).bind fun us st2 => k t us st2 else .stuck
section
variable {X : Cx} {W : WX} {pos : Pos} {a b c : Expr} {ma mb mc : ME}
theorem run2 {r : R2} {k : T → T → M T} (hk : Op2 X.K r k) (σ : L2.St) (H : Hp) (Q : VK) (h : tE X.K X.mg W (e2 k ma mb) σ H Q) : tOp r (tE X.K X.mg W ma) (tE X.K X.mg W mb) σ H Q := by
  obtain ⟨ρ, st, env, hK, rel, re, h⟩ := h
  refine ⟨ρ, st, env, hK, rel, re, h.bind.imp fun ρ1 H1 t ⟨st1, x1, rel1, h1⟩ v rv => ?_⟩
  refine ⟨ρ1, st1, env, x1.K.trans hK, rel1, re.mono x1, h1.bind.imp fun ρ2 H2 u ⟨st2, x2, rel2, h2⟩ w rw => ?_⟩
  exact hk _ _ ρ2 st2 H2 σ t u v w Q (x2.K.trans (x1.K.trans hK)) rel2 (rv.mono x2) rw h2
theorem j_bin {op : Operator} {r : R2} {k : T → T → M T} (ho : OpR X (binaryOp op) r) (hk : Op2 X.K r k) (ha : JE X W a ma) (hb : JE X W b mb) : JE X W (.BinOp a op b pos) (e2 k ma mb) :=
  pe_imp (pe_op ho ha hb) (run2 hk)
theorem j_cmp {op : CmpOp} {r : R2} {k : T → T → M T} (ho : OpR X (compareOp op) r) (hk : Op2 X.K r k) (ha : JE X W a ma) (hb : JE X W b mb) (hm : behindInMarks op b = false := by first | exact nomark _ | rfl) :
    JE X W (.Compare a [op] [b] pos) (e2 k ma mb) := pe_imp (pe_cmpR ho ha hb hm) (run2 hk)
theorem j_ix {r : R2} {k : T → T → M T} (ho : IxR X r) (hk : Op2 X.K r k) (ha : JE X W a ma) (hb : JE X W b mb) (hs : PlainIx b := by exact fun _ _ => rfl) : JE X W (.Subscript a b pos) (e2 k ma mb) :=
  pe_imp (pe_ix ho ha hb hs) (run2 hk)
def eChain (k k' : T → T → M T) (a b c : ME) : ME := fun env st => (a env st).bind fun t st1 => (b env st1).bind fun u st2 => (k t u st2).bind fun z st3 => match z with
  | .bl true => (c env st3).bind fun w st4 => k' u w st4
  | .bl false => .ok (.bl false) st3
  | _ => .stuck
end
end Mir
namespace Mir
variable [Tabl]
open PySem PySem.Spec PyProof.Rows L2
def mkL (al : Bool) (ts : List T) : M T := fun st => if al then .ok (.ref st.length) (st ++ [.lst ts]) else .ok (.lst ts) st
def mkT (ts : List T) : M T := fun st => .ok (.tup ts) st
section
variable {mg : Str → Option Value} {W : WX} {ρ : Ro} {H : Hp} {σ : L2.St} {st : Store} {Q : VK} {ts : List T} {xs : List V} {p : Addr}
theorem Rel.notd (rel : Rel ρ st H) (hn : H p = none) : p ∉ ρ.d := fun h => by
  obtain ⟨_, o, e, _⟩ := rel.priv p h
  rw [hn] at e; cases e
theorem fin_mkL {al : Bool} (h : Fin mg W ρ H σ (mkL al ts st) (KQ Q)) (rel : Rel ρ st H) (hn : H p = none) (q : RVs ρ H ts xs) : Q (.ref p) (upd H p (.lst xs)) := by
  cases al with
  | true =>
    have e : Ext ρ H (ρ.add p) (upd H p (.lst xs)) := (Ext.new hn).add hn
    exact h (ρ.add p) _ e (rel.alloc hn ⟨xs, upd_same, RVs.mono e q⟩) (.ref p) ⟨p, rfl, by show (ρ.s ++ [p])[st.length]? = _; rw [← rel.len]; simp⟩
  | false =>
    have e : Ext ρ H ρ (upd H p (.lst xs)) := Ext.new hn
    exact h ρ _ e (rel.new hn) (.ref p) ⟨p, xs, rfl, upd_same, ⟨rel.out hn, rel.notd hn⟩, RVs.mono e q⟩
theorem fin_mkT (h : Fin mg W ρ H σ (mkT ts st) (KQ Q)) (rel : Rel ρ st H) (hn : H p = none) (q : RVs ρ H ts xs) : Q (.ref p) (upd H p (.tup xs)) := by
  have e : Ext ρ H ρ (upd H p (.tup xs)) := Ext.new hn
  exact h ρ _ e (rel.new hn) (.ref p) ⟨p, xs, rfl, .inl upd_same, RVs.mono e q⟩
end
def lstOf : T → Store → Option (List T)
  | .lst ts, _ => some ts
  | .ref n, st => match st[n]? with
    | some (.lst ts) => some ts
    | _ => none
  | _, _ => none
def listOf : T → Store → Option (List T)
  | .scr ts, _ => some ts
  | t, st => lstOf t st
def tupOf : T → Option (List T)
  | .tup ts => some ts
  | _ => none
def seqOf (t : T) (st : Store) : Option (List T) := match tupOf t with
  | some ts => some ts
  | none => listOf t st
section
variable {ρ : Ro} {H : Hp} {st : Store} {t : T} {ts : List T} {x : V}
theorem lst_get (rel : Rel ρ st H) (h : RV ρ H t x) (e : lstOf t st = some ts) : ∃ a xs, x = .ref a ∧ H a = some (.lst xs) ∧ RVs ρ H ts xs := by
  cases t with
  | lst us =>
    cases e
    obtain ⟨a, xs, r, g, _, q⟩ := h
    exact ⟨a, xs, r, g, q⟩
  | ref n =>
    obtain ⟨a, r, g⟩ := h
    have e : (match st[n]? with | some (.lst ts) => some ts | _ => none) = some ts := e
    split at e
    · rename_i us hs
      cases e
      obtain ⟨b, g', xs, h1, h2⟩ := rel.addr hs
      rw [g] at g'; cases g'
      exact ⟨a, xs, r, h1, h2⟩
    · cases e
  | _ => cases e
theorem list_get (rel : Rel ρ st H) (h : RV ρ H t x) (e : listOf t st = some ts) : ∃ a xs, x = .ref a ∧ SqL ρ.K H a xs ∧ RVs ρ H ts xs := by
  cases t with
  | scr us =>
    cases e
    obtain ⟨a, xs, r, g, q⟩ := h
    exact ⟨a, xs, r, g.seq, q⟩
  | lst us =>
    obtain ⟨a, xs, r, g, q⟩ := lst_get rel h (show lstOf (.lst us) st = some ts from e)
    exact ⟨a, xs, r, .of g, q⟩
  | ref n =>
    obtain ⟨a, xs, r, g, q⟩ := lst_get rel h (show lstOf (.ref n) st = some ts from e)
    exact ⟨a, xs, r, .of g, q⟩
  | _ => cases e
theorem tup_get (h : RV ρ H t x) (e : tupOf t = some ts) : ∃ a xs, x = .ref a ∧ SqT ρ.K H a xs ∧ RVs ρ H ts xs := by
  cases t with
  | tup us =>
    cases e
    obtain ⟨a, xs, r, g, q⟩ := h
    exact ⟨a, xs, r, g.seq, q⟩
  | _ => cases e
theorem seq_get (rel : Rel ρ st H) (h : RV ρ H t x) (e : seqOf t st = some ts) : ∃ a xs, x = .ref a ∧ (SqL ρ.K H a xs ∨ SqT ρ.K H a xs) ∧ RVs ρ H ts xs := by
  unfold seqOf at e
  split at e
  · rename_i us hs
    cases e
    obtain ⟨a, xs, r, g, q⟩ := tup_get h hs
    exact ⟨a, xs, r, .inr g, q⟩
  · obtain ⟨a, xs, r, g, q⟩ := list_get rel h e
    exact ⟨a, xs, r, .inl g, q⟩
end
theorem opR_or {X : Cx} {f : Value → Value → Sem Value} {r r' : R2} (h : OpR X f r) (h' : OpR X f r') : OpR X f fun x y H Q => r x y H Q ∨ r' x y H Q := fun pins s σ H x y v u Q I rx ry q =>
  q.elim (h pins s σ H x y v u Q I rx ry) (h' pins s σ H x y v u Q I rx ry)
theorem ixR_or {X : Cx} {r r' : R2} (h : IxR X r) (h' : IxR X r') : IxR X fun x y H Q => r x y H Q ∨ r' x y H Q := fun a b pins s σ H x y v u Q I rx ry q =>
  q.elim (h a b pins s σ H x y v u Q I rx ry) (h' a b pins s σ H x y v u Q I rx ry)
theorem callR_or {X : Cx} {f : Value} {r r' : List V → Hp → VK → Prop} (h : CallR X f r) (h' : CallR X f r') : CallR X f fun x H Q => r x H Q ∨ r' x H Q := fun pins s σ H x v Q I rx q =>
  q.elim (h pins s σ H x v Q I rx) (h' pins s σ H x v Q I rx)
def kSub (t u : T) : M T := fun st => match t, u with
  | .int a, .int b => .ok (.int (a - b)) st
  | _, _ => .stuck
def kLt (t u : T) : M T := fun st => match t, u with
  | .int a, .int b => .ok (.bl (decide (a < b))) st
  | _, _ => .stuck
def kLe (t u : T) : M T := fun st => match t, u with
  | .int a, .int b => .ok (.bl (decide (a ≤ b))) st
  | _, _ => .stuck
def kGt (t u : T) : M T := fun st => match t, u with
  | .int a, .int b => .ok (.bl (decide (b < a))) st
  | _, _ => .stuck
def kGe (t u : T) : M T := fun st => match t, u with
  | .int a, .int b => .ok (.bl (decide (b ≤ a))) st
  | _, _ => .stuck
def kMod (t u : T) : M T := fun st => match t, u with
  | .int a, .int b => if 0 < b then .ok (.int (a % b)) st else .stuck
  | _, _ => .stuck
def kDiv (t u : T) : M T := fun st => match t, u with
  | .int a, .int b => if 0 < b ∧ b < 2 ^ 200 then .ok (.int (a / b)) st else .stuck
  | _, _ => .stuck
def kPow (t u : T) : M T := fun st => match t, u with
  | .int a, .int b => if 0 ≤ b ∧ b ≤ 1000 ∧ -1000000 ≤ a ∧ a ≤ 1000000 then .ok (.int (a ^ b.toNat)) st else .stuck
  | _, _ => .stuck
def kNeg (t : T) : M T := fun st => match t with
  | .int a => .ok (.int (-a)) st
  | _ => .stuck
def kAdd (al : Bool) (t u : T) : M T := fun st => match t, u with
  | .int a, .int b => .ok (.int (a + b)) st
  | .str a, .str b => if a.length + b.length ≤ sizeLine then .ok (.str (a ++ b)) st else .stuck
  | .tup a, .tup b => if a.length + b.length ≤ sizeLine then .ok (.tup (a ++ b)) st else .stuck
  | t, u => match lstOf t st, lstOf u st with
    | some a, some b => if a.length + b.length ≤ sizeLine then mkL al (a ++ b) st else .stuck
    | _, _ => .stuck
def kMul (al : Bool) (t u : T) : M T := fun st => match t, u with
  | .int a, .int b => if (-(2 ^ 64) < a ∧ a < 2 ^ 64) ∨ (-(2 ^ 64) < b ∧ b < 2 ^ 64) then .ok (.int (a * b)) st else .stuck
  | t, .int b => match lstOf t st with
    | some a => if b ≤ 1000000 ∧ -1000000 ≤ b ∧ a.length * b.toNat ≤ sizeLine then mkL al (List.replicate b.toNat a).flatten st else .stuck
    | _ => .stuck
  | _, _ => .stuck
section
variable {K : PySem.W.Frag}
theorem op2_ints {g : Int → Int → V} {k : T → T → M T} {f : Int → Int → T} (hk : ∀ t u st, k t u st = match t, u with | .int a, .int b => .ok (f a b) st | _, _ => .stuck) (hg : ∀ ρ H a b, RV ρ H (f a b) (g a b)) : Op2 K (rI0 g) k := by
  intro mg W ρ st H σ t u x y Q hK rel hx hy h
  rw [hk] at h
  cases t <;> first | exact h.elim | skip
  cases u <;> first | exact h.elim | skip
  rename_i a b
  exact ⟨a, b, hx, hy, h.val rel _ (hg ρ H a b)⟩
theorem k_sub : Op2 K (rI0 fun i j => .int (i - j)) kSub := op2_ints (f := fun a b => .int (a - b)) (fun _ _ _ => rfl) fun _ _ _ _ => rfl
theorem k_lt : Op2 K (rI0 fun i j => .bl (decide (i < j))) kLt := op2_ints (f := fun a b => .bl (decide (a < b))) (fun _ _ _ => rfl) fun _ _ _ _ => rfl
theorem k_le : Op2 K (rI0 fun i j => .bl (decide (i ≤ j))) kLe := op2_ints (f := fun a b => .bl (decide (a ≤ b))) (fun _ _ _ => rfl) fun _ _ _ _ => rfl
theorem k_gt : Op2 K (rI0 fun i j => .bl (decide (j < i))) kGt := op2_ints (f := fun a b => .bl (decide (b < a))) (fun _ _ _ => rfl) fun _ _ _ _ => rfl
theorem k_ge : Op2 K (rI0 fun i j => .bl (decide (j ≤ i))) kGe := op2_ints (f := fun a b => .bl (decide (b ≤ a))) (fun _ _ _ => rfl) fun _ _ _ _ => rfl
theorem op2_intsC {C : Int → Int → Prop} {D : Int → Int → Prop} [∀ a b, Decidable (D a b)] {g : Int → Int → V} {k : T → T → M T} {f : Int → Int → T} (hk : ∀ t u st, k t u st = match t, u with | .int a, .int b => if D a b then .ok (f a b) st else .stuck | _, _ => .stuck)
    (hc : ∀ a b, D a b → C a b) (hg : ∀ ρ H a b, D a b → RV ρ H (f a b) (g a b)) : Op2 K (rI C g) k := by
  intro mg W ρ st H σ t u x y Q hK rel hx hy h
  rw [hk] at h
  cases t <;> first | exact h.elim | skip
  cases u <;> first | exact h.elim | skip
  rename_i a b
  by_cases d : D a b
  · have h : Fin mg W ρ H σ (if D a b then .ok (f a b) st else .stuck) (KQ Q) := h
    rw [if_pos d] at h
    exact ⟨a, b, hx, hy, hc a b d, h.val rel _ (hg ρ H a b d)⟩
  · have h : Fin mg W ρ H σ (if D a b then .ok (f a b) st else .stuck) (KQ Q) := h
    rw [if_neg d] at h
    exact h.elim
theorem k_mod : Op2 K (rI (fun _ j => 0 < j) fun i j => .int (i % j)) kMod := op2_intsC (D := fun _ b => 0 < b) (f := fun a b => .int (a % b)) (fun _ _ _ => rfl) (fun _ _ h => h) fun _ _ _ _ _ => rfl
theorem k_div : Op2 K (rI CDivW fun i j => .int (i / j)) kDiv := op2_intsC (D := fun _ b => 0 < b ∧ b < 2 ^ 200) (f := fun a b => .int (a / b)) (fun _ _ _ => rfl) (fun a b h => wide_div (b := 200) h.1 (by omega) (by decide) (by decide)) fun _ _ _ _ _ => rfl
theorem k_pow : Op2 K (rI CPow fun i j => .int (i ^ j.toNat)) kPow := op2_intsC (D := fun a b => 0 ≤ b ∧ b ≤ 1000 ∧ -1000000 ≤ a ∧ a ≤ 1000000) (f := fun a b => .int (a ^ b.toNat)) (fun _ _ _ => rfl) (fun a b h => ⟨h.1, by omega, by omega⟩) fun _ _ _ _ _ => rfl
theorem k_neg : Op1 K (rU fun i => .int (-i)) kNeg := by
  intro mg W ρ st H σ t x Q hK rel hx h
  unfold kNeg at h
  cases t <;> first | exact h.elim | skip
  exact ⟨_, hx, h.val rel _ rfl⟩
def rAddAll (K : PySem.W.Frag) : R2 := fun x y H Q => ((rI0 fun i j => .int (i + j)) x y H Q ∨ (∃ i j, x = .str i ∧ y = .str j ∧ i.length + j.length ≤ sizeLine ∧ Q (.str (i ++ j)) H)) ∨ (rCatA K x y H Q ∨ rCat x y H Q)
theorem op_addAll {X : Cx} : OpR X (binaryOp .Add) (rAddAll X.K) := opR_or (opR_or op_add op_add_str) (opR_or op_catA op_cat)
theorem add_list {al : Bool} {mg : Str → Option Value} {W : WX} {ρ : Ro} {st : Store} {H : Hp} {σ : L2.St} {t u : T} {x y : V} {Q : VK} (rel : Rel ρ st H) (hx : RV ρ H t x) (hy : RV ρ H u y)
    (h : Fin mg W ρ H σ (match lstOf t st, lstOf u st with
    | some a, some b => if a.length + b.length ≤ sizeLine then mkL al (a ++ b) st else .stuck
    | _, _ => .stuck) (KQ Q)) : rCat x y H Q := by
  split at h
  · rename_i a b ha hb
    obtain ⟨p, xs, rfl, hp, hxs⟩ := lst_get rel hx ha
    obtain ⟨q, ys, rfl, hq, hys⟩ := lst_get rel hy hb
    split at h
    · rename_i hl
      exact ⟨p, q, xs, ys, rfl, rfl, hp, hq, by rw [hxs.length, hys.length]; exact hl, fun o ho => fin_mkL h rel ho (hxs.append hys)⟩
    · exact h.elim
  · exact h.elim
theorem k_add {al : Bool} : Op2 K (rAddAll K) (kAdd al) := by
  intro mg W ρ st H σ t u x y Q hK rel hx hy h
  unfold kAdd at h
  split at h
  · exact .inl (.inl ⟨_, _, hx, hy, h.val rel _ rfl⟩)
  · split at h
    · rename_i hl
      exact .inl (.inr ⟨_, _, hx, hy, hl, h.val rel _ rfl⟩)
    · exact h.elim
  · split at h
    · rename_i a b hl
      obtain ⟨p, xs, rfl, hp, hxs⟩ := hx
      obtain ⟨q, ys, rfl, hq, hys⟩ := hy
      refine .inr (.inl ⟨p, q, xs, ys, rfl, rfl, hp.sq hK, hq.sq hK, by rw [hxs.length, hys.length]; exact hl, fun e => ?_, fun _ e => ?_, fun _ _ o ho => ?_⟩)
      · subst e
        have ea : a = [] := List.length_eq_zero_iff.mp (by rw [← hxs.length]; rfl)
        subst ea
        exact h.val rel _ ⟨q, ys, rfl, hq, hys⟩
      · subst e
        have ea : b = [] := List.length_eq_zero_iff.mp (by rw [← hys.length]; rfl)
        subst ea
        rw [List.append_nil] at h
        exact h.val rel _ ⟨p, xs, rfl, hp, hxs⟩
      · exact fin_mkT h rel ho (hxs.append hys)
    · exact h.elim
  · exact .inr (.inr (add_list rel hx hy h))
theorem RVs.flat {ρ : Ro} {H : Hp} {ts : List T} {xs : List V} (h : RVs ρ H ts xs) : ∀ n, RVs ρ H (List.replicate n ts).flatten (List.replicate n xs).flatten
  | 0 => rfl
  | n + 1 => by
    rw [List.replicate_succ, List.replicate_succ, List.flatten_cons, List.flatten_cons]
    exact h.append (RVs.flat h n)
theorem k_mul {al : Bool} : Op2 K (fun x y H Q => (rI CMul fun i j => .int (i * j)) x y H Q ∨ rRep x y H Q) (kMul al) := by
  intro mg W ρ st H σ t u x y Q hK rel hx hy h
  unfold kMul at h
  split at h
  · split at h
    · rename_i hc
      exact .inl ⟨_, _, hx, hy, hc, h.val rel _ rfl⟩
    · exact h.elim
  · split at h
    · rename_i a ha
      split at h
      · rename_i hc
        obtain ⟨p, xs, rfl, hp, hxs⟩ := lst_get rel hx ha
        exact .inr ⟨p, _, xs, rfl, hy, hp, by omega, by omega, by rw [hxs.length]; exact hc.2.2, fun o ho => fin_mkL h rel ho (hxs.flat _)⟩
      · exact h.elim
    · exact h.elim
  · exact h.elim
theorem op_mulAll {X : Cx} : OpR X (binaryOp .Mult) (fun x y H Q => (rI CMul fun i j => .int (i * j)) x y H Q ∨ rRep x y H Q) := opR_or op_mul op_rep
end
end Mir
namespace Mir
variable [Tabl]
open PySem PySem.Spec PyProof.Rows L2
mutual
def snap0 : T → Option PyData
  | .non => some .none
  | .bl b => some (.bool b)
  | .int i => some (.int i)
  | .str s => some (.str s)
  | .tup ts => (snaps ts).map .tuple
  | .lst ts => (snaps ts).map .list
  | .scr _ => none
  | .tix _ => none
  | .fn _ => none
  | .ref _ => none
def snaps : List T → Option (List PyData)
  | [] => some []
  | t :: ts => match snap0 t, snaps ts with
    | some d, some ds => some (d :: ds)
    | _, _ => none
end
def snapR (st : Store) : T → Option PyData
  | .ref n => match st[n]? with
    | some (.lst us) => (snaps us).map .list
    | _ => none
  | t => snap0 t
def snapRs (st : Store) : List T → Option (List PyData)
  | [] => some []
  | t :: ts => match snapR st t, snapRs st ts with
    | some d, some ds => some (d :: ds)
    | _, _ => none
def snap (t : T) (st : Store) : Option PyData := match listOf t st with
  | some ts => (match snaps ts with
    | some ds => some (.list ds)
    | none => (snapRs st ts).map .list)
  | none => snap0 t
section
variable {ρ : Ro} {H : Hp} {st : Store}
mutual
theorem snap0_dp : ∀ {t : T} {x : V} {d : PyData}, RV ρ H t x → snap0 t = some d → Dp ρ.K H x d
  | .non, _, _, h, e => by cases e; cases h; exact .non
  | .bl b, _, _, h, e => by cases e; cases h; exact .bl b
  | .int b, _, _, h, e => by cases e; cases h; exact .int b
  | .str b, _, _, h, e => by cases e; cases h; exact .str b
  | .tup ts, _, _, h, e => by
    obtain ⟨a, xs, rfl, g, q⟩ := h
    unfold snap0 at e
    cases e' : snaps ts with
    | none => rw [e'] at e; cases e
    | some ds =>
      rw [e'] at e
      cases e
      exact .tup g.seq (snaps_dp q e')
  | .lst ts, _, _, h, e => by
    obtain ⟨a, xs, rfl, g, _, q⟩ := h
    unfold snap0 at e
    cases e' : snaps ts with
    | none => rw [e'] at e; cases e
    | some ds =>
      rw [e'] at e
      cases e
      exact .lst (.of g) (snaps_dp q e')
  | .scr _, _, _, _, e => by cases e
  | .tix _, _, _, _, e => by cases e
  | .fn _, _, _, _, e => by cases e
  | .ref _, _, _, _, e => by cases e
theorem snaps_dp : ∀ {ts : List T} {xs : List V} {ds : List PyData}, RVs ρ H ts xs → snaps ts = some ds → DpAll ρ.K H xs ds
  | [], _, _, h, e => by cases e; cases h; exact .nil
  | t :: ts, _, _, h, e => by
    obtain ⟨x, r, rfl, q, q'⟩ := h
    unfold snaps at e
    split at e
    · rename_i d ds e1 e2
      cases e
      exact .cons (snap0_dp q e1) (snaps_dp q' e2)
    · cases e
end
theorem snapR_dp (rel : Rel ρ st H) {t : T} {x : V} {d : PyData} (h : RV ρ H t x) (e : snapR st t = some d) : Dp ρ.K H x d := by
  by_cases hr : ∃ n, t = .ref n
  · obtain ⟨n, rfl⟩ := hr
    obtain ⟨a, rfl, g⟩ := h
    unfold snapR at e
    dsimp only at e
    split at e
    · rename_i us hs
      obtain ⟨b, g', xs, h1, h2⟩ := rel.addr hs
      rw [g] at g'; cases g'
      cases e' : snaps us with
      | none => rw [e'] at e; cases e
      | some ds =>
        rw [e'] at e
        cases e
        exact .lst (.of h1) (snaps_dp h2 e')
    · cases e
  · have : snapR st t = snap0 t := by
      cases t <;> first | rfl | exact absurd ⟨_, rfl⟩ hr
    rw [this] at e
    exact snap0_dp h e
theorem snapRs_dp (rel : Rel ρ st H) : ∀ {ts : List T} {xs : List V} {ds : List PyData}, RVs ρ H ts xs → snapRs st ts = some ds → DpAll ρ.K H xs ds
  | [], _, _, h, e => by cases e; cases h; exact .nil
  | t :: ts, _, _, h, e => by
    obtain ⟨x, r, rfl, q, q'⟩ := h
    unfold snapRs at e
    split at e
    · rename_i d ds e1 e2
      cases e
      exact .cons (snapR_dp rel q e1) (snapRs_dp rel q' e2)
    · cases e
theorem snap_dp {t : T} {x : V} {d : PyData} (rel : Rel ρ st H) (h : RV ρ H t x) (e : snap t st = some d) : Dp ρ.K H x d := by
  unfold snap at e
  split at e
  · rename_i ts hs
    obtain ⟨a, xs, rfl, g, q⟩ := list_get rel h hs
    split at e
    · rename_i ds e'
      cases e
      exact .lst g (snaps_dp q e')
    · cases e' : snapRs st ts with
      | none => rw [e'] at e; cases e
      | some ds =>
        rw [e'] at e
        cases e
        exact .lst g (snapRs_dp rel q e')
  · exact snap0_dp h e
end
def kEqD (neg : Bool) (t u : T) : M T := fun st => match snap t st, snap u st with
  | some d, some e => if SeqAt.shaped d = true ∧ SeqAt.shaped e = true then .ok (.bl (if neg then !PyData.eqv d e else PyData.eqv d e)) st else .stuck
  | _, _ => .stuck
def kEq (neg : Bool) (t u : T) : M T := fun st => match t, u with
  | .int a, .int b => .ok (.bl (if neg then !decide (a = b) else decide (a = b))) st
  | .bl a, .bl b => .ok (.bl (if neg then !decide (a = b) else decide (a = b))) st
  | .str a, .str b => .ok (.bl (if neg then !decide (a = b) else decide (a = b))) st
  | t, u => kEqD neg t u st
section
variable {K : PySem.W.Frag}
def rEqAll (K : PySem.W.Frag) (neg : Bool) : R2 := if neg then fun x y H Q => rNe x y H Q ∨ rNeD K x y H Q else fun x y H Q => rEq x y H Q ∨ rEqD K x y H Q
theorem op_eqAll {X : Cx} (hu : X.A.units + 64 < cLine) : OpR X (compareOp .Eq) (rEqAll X.K false) := opR_or op_eq (op_eqD hu)
theorem op_neAll {X : Cx} (hu : X.A.units + 64 < cLine) : OpR X (compareOp .NotEq) (rEqAll X.K true) := opR_or op_ne (op_neD hu)
theorem k_eqD {neg : Bool} : Op2 K (fun x y H Q => ∃ d e, Dp K H x d ∧ Dp K H y e ∧ SeqAt.shaped d = true ∧ SeqAt.shaped e = true ∧ Q (.bl (if neg then !PyData.eqv d e else PyData.eqv d e)) H) (kEqD neg) := by
  intro mg W ρ st H σ t u x y Q hK rel hx hy h
  unfold kEqD at h
  split at h
  · rename_i d e e1 e2
    split at h
    · rename_i hs
      have h1 := snap_dp rel hx e1
      have h2 := snap_dp rel hy e2
      rw [hK] at h1 h2
      exact ⟨d, e, h1, h2, hs.1, hs.2, h.val rel _ rfl⟩
    · exact h.elim
  · exact h.elim
theorem k_eq {neg : Bool} : Op2 K (rEqAll K neg) (kEq neg) := by
  intro mg W ρ st H σ t u x y Q hK rel hx hy h
  unfold kEq at h
  split at h
  · cases hx; cases hy
    have q := h.val rel _ rfl
    cases neg with
    | true => exact .inl ⟨rfl, by simpa [V.int.injEq] using q⟩
    | false => exact .inl ⟨rfl, by simpa [V.int.injEq] using q⟩
  · cases hx; cases hy
    have q := h.val rel _ rfl
    cases neg with
    | true => exact .inl ⟨rfl, by simpa [V.bl.injEq] using q⟩
    | false => exact .inl ⟨rfl, by simpa [V.bl.injEq] using q⟩
  · rename_i a b
    have e1 : x = V.str a := hx
    have e2 : y = V.str b := hy
    subst e1 e2
    have q := h.val rel _ rfl
    cases neg with
    | true => exact .inl ⟨rfl, by simpa [V.str.injEq] using q⟩
    | false => exact .inl ⟨rfl, by simpa [V.str.injEq] using q⟩
  · have q := k_eqD (K := K) mg W ρ st H σ _ _ x y Q hK rel hx hy h
    cases neg with
    | true => exact .inr q
    | false => exact .inr q
end
def flatT : T → Bool
  | .non => true
  | .bl _ => true
  | .int _ => true
  | .str _ => true
  | _ => false
def eqF : T → T → Bool
  | .non, .non => true
  | .bl a, .bl b => a == b
  | .bl a, .int b => (if a then 1 else 0) == b
  | .int a, .bl b => a == (if b then 1 else 0)
  | .int a, .int b => a == b
  | .str a, .str b => a == b
  | _, _ => false
def kIn (neg : Bool) (t u : T) : M T := fun st => match seqOf u st with
  | some ts => if flatT t = true ∧ ts.all flatT = true then .ok (.bl (if neg then !ts.any (fun z => eqF z t) else ts.any (fun z => eqF z t))) st else
    match snap t st, snap u st with
    | some d, some (.list ds) => if SeqAt.shaped d = true ∧ SeqAt.shaped (.list ds) = true then .ok (.bl (if neg then !ds.any (fun z => PyData.eqv z d) else ds.any fun z => PyData.eqv z d)) st else .stuck
    | _, _ => .stuck
  | none => .stuck
def isNonT : T → Bool
  | .non => true
  | _ => false
def kIsN (neg : Bool) (t : T) : M T := fun st => .ok (.bl (if neg then !isNonT t else isNonT t)) st
def kIx (t u : T) : M T := fun st => match u with
  | .int i => match t with
    | .str z => if z.length ≤ sizeLine then match atI z.cps.toList i with
      | some c => .ok (.str ⟨#[c]⟩) st
      | none => .stuck else .stuck
    | t => match seqOf t st with
      | some ts => match atI ts i with
        | some v => .ok v st
        | none => .stuck
      | none => .stuck
  | _ => .stuck
theorem atI_rv {ρ : Ro} {H : Hp} {ts : List T} {xs : List V} {i : Int} {t : T} (h : RVs ρ H ts xs) (e : atI ts i = some t) : ∃ x, atI xs i = some x ∧ RV ρ H t x := by
  unfold atI at e ⊢
  rw [h.length]
  cases q : ixN ts.length i with
  | none => rw [q] at e; cases e
  | some j =>
    rw [q] at e
    exact h.get e
def rIxAll (K : PySem.W.Frag) : R2 := fun x y H Q => (rIxL K x y H Q ∨ rIxT K x y H Q) ∨ rIxS x y H Q
theorem ix_all {X : Cx} : IxR X (rIxAll X.K) := ixR_or (ixR_or ix_list ix_tup) ix_str
theorem k_ix {K : PySem.W.Frag} : Op2 K (rIxAll K) kIx := by
  intro mg W ρ st H σ t u x y Q hK rel hx hy h
  unfold kIx at h
  split at h
  · split at h
    · split at h
      · rename_i hz
        split at h
        · rename_i c hc
          exact .inr ⟨_, _, c, hx, hy, hz, hc, h.val rel _ rfl⟩
        · exact h.elim
      · exact h.elim
    · split at h
      · rename_i ts hs
        split at h
        · rename_i v hv
          obtain ⟨p, xs, rfl, g, q⟩ := seq_get rel hx hs
          obtain ⟨z, hz, rz⟩ := atI_rv q hv
          rw [hK] at g
          rcases g with g | g
          · exact .inl (.inl ⟨p, xs, _, z, rfl, hy, g, hz, h.val rel _ rz⟩)
          · exact .inl (.inr ⟨p, xs, _, z, rfl, hy, g, hz, h.val rel _ rz⟩)
        · exact h.elim
      · exact h.elim
  · exact h.elim
def cutT (xs : List T) (lo hi : Option Int) : List T := (xs.drop (HT.sIx xs.length 0 lo)).take (HT.sIx xs.length xs.length hi - HT.sIx xs.length 0 lo)
theorem cut_rv {ρ : Ro} {H : Hp} {ts : List T} {xs : List V} (h : RVs ρ H ts xs) (lo hi : Option Int) : RVs ρ H (cutT ts lo hi) (cutV xs lo hi) := by
  unfold cutT cutV
  rw [h.length]
  exact (h.drop _).take _
def kCut (al : Bool) (t : T) (lo hi : Option Int) : M T := fun st => match t with
  | .tup ts => .ok (.tup (cutT ts lo hi)) st
  | .str z => if z.length ≤ sizeLine then .ok (.str (cutS z lo hi)) st else .stuck
  | t => match listOf t st with
    | some ts => mkL al (cutT ts lo hi) st
    | none => .stuck
def rSlAll (K : PySem.W.Frag) : V → Option Int → Option Int → Hp → VK → Prop := fun x lo hi H Q => (rSlL K x lo hi H Q ∨ rSlA K x lo hi H Q) ∨ rSlS x lo hi H Q
theorem sl_all {X : Cx} : SlR X (rSlAll X.K) := (sl_list.or sl_tupA).or sl_str
theorem cutT_all (ts : List T) (lo hi : Option Int) (h : HT.sIx ts.length 0 lo = 0 ∧ HT.sIx ts.length ts.length hi = ts.length) : cutT ts lo hi = ts := by
  unfold cutT
  rw [h.1, h.2, List.drop_zero, Nat.sub_zero, List.take_length]
theorem k_cut {K : PySem.W.Frag} {al : Bool} {mg : Str → Option Value} {W : WX} {ρ : Ro} {st : Store} {H : Hp} {σ : L2.St} {t : T} {x : V} {lo hi : Option Int} {Q : VK}
    (hK : ρ.K = K) (rel : Rel ρ st H) (hx : RV ρ H t x) (h : Fin mg W ρ H σ (kCut al t lo hi st) (KQ Q)) : rSlAll K x lo hi H Q := by
  unfold kCut at h
  split at h
  · rename_i ts
    obtain ⟨p, xs, rfl, g, q⟩ := hx
    refine .inl (.inr ⟨p, xs, rfl, g.sq hK, fun w => ?_, fun _ o ho => fin_mkT h rel ho (cut_rv q lo hi)⟩)
    rw [q.length] at w
    rw [cutT_all _ _ _ w] at h
    exact h.val rel _ ⟨p, xs, rfl, g, q⟩
  · split at h
    · rename_i hz
      exact .inr ⟨_, hx, hz, h.val rel _ rfl⟩
    · exact h.elim
  · split at h
    · rename_i ts hs
      obtain ⟨p, xs, rfl, g, q⟩ := list_get rel hx hs
      rw [hK] at g
      exact .inl (.inl ⟨p, xs, rfl, g, fun o ho => fin_mkL h rel ho (cut_rv q lo hi)⟩)
    · exact h.elim
abbrev MO := Env → M (Option Int)
def oNone : MO := fun _ st => .ok none st
def oSome (m : ME) : MO := fun env st => (m env st).bind fun t st1 => match t with
  | .int i => .ok (some i) st1
  | _ => .stuck
def eCut (al : Bool) (m : ME) (lo hi : MO) : ME := fun env st => (m env st).bind fun t st1 => (lo env st1).bind fun l st2 => (hi env st2).bind fun u st3 => kCut al t l u st3
def tO (K : PySem.W.Frag) (mg : Str → Option Value) (W : WX) (m : MO) : TO := fun σ H Q =>
  ∃ ρ st env, ρ.K = K ∧ Rel ρ st H ∧ RE ρ H env σ ∧ Fin mg W ρ H σ (m env st) (fun _ H' o => Q o H')
abbrev JO (X : Cx) (W : WX) (e : Option Expr) (m : MO) : Prop := PO X e (tO X.K X.mg W m)
section
variable {X : Cx} {W : WX} {pos p2 : Pos} {a b c : Expr} {ma mb mc : ME} {lo hi : Option Expr} {ml mh : MO}
theorem po_imp {e : Option Expr} {t t' : TO} (h : PO X e t) (i : ∀ σ H Q, t' σ H Q → t σ H Q) : PO X e t' := ⟨fun pins s σ H Q I q => h.run pins s σ H Q I (i σ H Q q)⟩
theorem jo_some (ha : JE X W a ma) : JO X W (some a) (oSome ma) := po_imp (po_some ha) fun σ H Q ⟨ρ, st, env, hK, rel, re, h⟩ => ⟨ρ, st, env, hK, rel, re, h.bind.imp fun ρ1 H1 t ⟨st1, x1, rel1, h1⟩ v rv => by
    cases t <;> first | exact h1.elim | skip
    exact ⟨_, rv, h1.val (P := fun _ H' o => Q o H') rel1⟩⟩
theorem j_cut {al : Bool} (ha : JE X W a ma) (hl : JO X W lo ml) (hh : JO X W hi mh) : JE X W (.Subscript a (.Slice lo hi none p2) pos) (eCut al ma ml mh) :=
  pe_imp (pe_slice sl_all ha hl hh) fun σ H Q ⟨ρ, st, env, hK, rel, re, h⟩ => ⟨ρ, st, env, hK, rel, re, h.bind.imp fun ρ1 H1 t ⟨st1, x1, rel1, h1⟩ v rv =>
    ⟨ρ1, st1, env, x1.K.trans hK, rel1, re.mono x1, h1.bind.imp fun ρ2 H2 l ⟨st2, x2, rel2, h2⟩ =>
      ⟨ρ2, st2, env, x2.K.trans (x1.K.trans hK), rel2, re.mono (x1.trans x2), h2.bind.imp fun ρ3 H3 u ⟨st3, x3, rel3, h3⟩ =>
        k_cut (x3.K.trans (x2.K.trans (x1.K.trans hK))) rel3 (rv.mono (x2.trans x3)) h3⟩⟩⟩
def aNil : Env → M (List T) := fun _ st => .ok [] st
def aCons (m : ME) (r : Env → M (List T)) : Env → M (List T) := fun env st => (m env st).bind fun t st1 => (r env st1).bind fun ts st2 => .ok (t :: ts) st2
variable {es : List Expr} {mr : Env → M (List T)}
theorem ja_nil : JA X W [] aNil := pa_imp pa_nil fun σ H Q ⟨ρ, st, env, hK, rel, re, h⟩ => h.val rel _ rfl
theorem ja_cons (ha : JE X W a ma) (hr : JA X W es mr) (hs : starEach (a :: es) X.env = (false, eval a X.env) :: starEach es X.env := by rfl) : JA X W (a :: es) (aCons ma mr) :=
  pa_imp (pa_cons ha hr hs) fun σ H Q ⟨ρ, st, env, hK, rel, re, h⟩ => ⟨ρ, st, env, hK, rel, re, h.bind.imp fun ρ1 H1 t ⟨st1, x1, rel1, h1⟩ v rv =>
    ⟨ρ1, st1, env, x1.K.trans hK, rel1, re.mono x1, h1.bind.imp fun ρ2 H2 ts ⟨st2, x2, rel2, h2⟩ vs rvs => h2.val rel2 _ ⟨v, vs, rfl, rv.mono x2, rvs⟩⟩⟩
def kTupD (ts : List T) : M T := fun st => if ts.length ≤ 1000 then .ok (.tup ts) st else .stuck
def kLstD (al : Bool) (ts : List T) : M T := fun st => if ts.length ≤ 1000 then mkL al ts st else .stuck
theorem fit1000 {n : Nat} (h : n ≤ 1000) : n ≤ sizeLine := Nat.le_of_lt (small1000 h)
theorem j_tup {k} (h : JA X W es mr) : JE X W (.Tuple es k pos) (eL kTupD mr) :=
  pe_imp (pe_tup h) fun σ H Q ⟨ρ, st, env, hK, rel, re, h⟩ => ⟨ρ, st, env, hK, rel, re, h.bind.imp fun ρ1 H1 ts ⟨st1, x1, rel1, h1⟩ vs rvs => by
    unfold kTupD at h1
    split at h1
    · rename_i hl
      exact ⟨by rw [rvs.length]; exact fit1000 hl, fun p hp => fin_mkT h1 rel1 hp rvs⟩
    · exact h1.elim⟩
theorem j_lst {al : Bool} (h : JA X W es mr) : JE X W (.List es pos) (eL (kLstD al) mr) :=
  pe_imp (pe_lst h) fun σ H Q ⟨ρ, st, env, hK, rel, re, h⟩ => ⟨ρ, st, env, hK, rel, re, h.bind.imp fun ρ1 H1 ts ⟨st1, x1, rel1, h1⟩ vs rvs => by
    unfold kLstD at h1
    split at h1
    · rename_i hl
      exact ⟨by rw [rvs.length]; exact fit1000 hl, fun p hp => fin_mkL h1 rel1 hp rvs⟩
    · exact h1.elim⟩
theorem run_callL {r : List V → Hp → VK → Prop} {k : List T → M T} (hk : OpL X.K r k) (σ : L2.St) (H : Hp) (Q : VK) (h : tE X.K X.mg W (eL k mr) σ H Q) : tCB r (tA X.K X.mg W mr) σ H Q := by
  obtain ⟨ρ, st, env, hK, rel, re, h⟩ := h
  exact ⟨ρ, st, env, hK, rel, re, h.bind.imp fun ρ1 H1 ts ⟨st1, x1, rel1, h1⟩ vs rvs => hk _ _ ρ1 st1 H1 σ ts vs Q (x1.K.trans hK) rel1 rvs h1⟩
theorem j_callB {x : Str} {id : String} {p : Pos} {r : List V → Hp → VK → Prop} {k : List T → M T} (hc : CallR X (.builtin id) r) (hk : OpL X.K r k) (hm : X.mg x = none) (hv : bootBuiltins x = some (.builtin id)) (ha : JA X W (a :: es) mr) (hg : Gl X x := by rfl)
    (hn : x ≠ "__name__" := by decide) (hdb : (x == ("__debug__" : Str)) = false := by decide)
    (he : starEach (a :: es) X.env = (false, eval a X.env) :: starEach es X.env := by rfl) (hpl : (backTo pos (starEach es X.env)).any (·.1) = false := by rfl) : JE X W (.Call (.Name x p) (a :: es) [] pos) (eL k mr) :=
  pe_imp (pe_callB hc hg hm hv ha hn hdb he hpl) (run_callL hk)
theorem j_callT {x : Str} {id : String} {p : Pos} {r : List V → Hp → VK → Prop} {k : List T → M T} (hc : CallR X (.type id) r) (hk : OpL X.K r k) (hm : X.mg x = none) (hv : bootBuiltins x = some (.type id)) (ha : JA X W (a :: es) mr) (hg : Gl X x := by rfl)
    (hn : x ≠ "__name__" := by decide) (hdb : (x == ("__debug__" : Str)) = false := by decide)
    (he : starEach (a :: es) X.env = (false, eval a X.env) :: starEach es X.env := by rfl) (hpl : (backTo pos (starEach es X.env)).any (·.1) = false := by rfl) : JE X W (.Call (.Name x p) (a :: es) [] pos) (eL k mr) :=
  pe_imp (pe_callTy hc hg hm hv ha (hn := hn) (hdb := hdb) (he := he) (hpl := hpl)) (run_callL hk)
end
theorem tupOf_eq : ∀ {t : T} {us : List T}, tupOf t = some us → t = .tup us
  | .tup _, _, h => by cases h; rfl
def kLen (ts : List T) : M T := fun st => match ts with
  | [.str z] => if z.length ≤ sizeLine then .ok (.int z.length) st else .stuck
  | [t] => match seqOf t st with
    | some us => .ok (.int us.length) st
    | none => .stuck
  | _ => .stuck
def kTuple (ts : List T) : M T := fun st => match ts with
  | [t] => match seqOf t st with
    | some us => .ok (.tup us) st
    | none => .stuck
  | _ => .stuck
section
variable {K : PySem.W.Frag} {X : Cx}
theorem call_lenAll : CallR X (.builtin "len") (fun xs H Q => (∃ p ys, xs = [.ref p] ∧ (SqL X.K H p ys ∨ SqT X.K H p ys) ∧ Q (.int ys.length) H) ∨ ∃ z, xs = [.str z] ∧ z.length ≤ sizeLine ∧ Q (.int z.length) H) := callR_or call_len_seq call_len_str
theorem k_len : OpL K (fun xs H Q => (∃ p ys, xs = [.ref p] ∧ (SqL K H p ys ∨ SqT K H p ys) ∧ Q (.int ys.length) H) ∨ ∃ z, xs = [.str z] ∧ z.length ≤ sizeLine ∧ Q (.int z.length) H) kLen := by
  intro mg W ρ st H σ ts xs Q hK rel hx h
  unfold kLen at h
  split at h
  · obtain ⟨v, rfl, hv⟩ := hx.one
    split at h
    · rename_i hz
      exact .inr ⟨_, by rw [show v = _ from hv], hz, h.val rel _ rfl⟩
    · exact h.elim
  · obtain ⟨v, rfl, hv⟩ := hx.one
    split at h
    · rename_i us hs
      obtain ⟨p, ys, rfl, g, q⟩ := seq_get rel hv hs
      rw [hK] at g
      refine .inl ⟨p, ys, rfl, g, ?_⟩
      rw [q.length]
      exact h.val rel _ rfl
    · exact h.elim
  · exact h.elim
theorem k_tuple : OpL K (fun xs H Q => ∃ p ys, xs = [.ref p] ∧ ((SqL K H p ys ∧ ∀ l, H l = none → Q (.ref l) (upd H l (.tup ys))) ∨ (SqT K H p ys ∧ Q (.ref p) H))) kTuple := by
  intro mg W ρ st H σ ts xs Q hK rel hx h
  unfold kTuple at h
  split at h
  · obtain ⟨v, rfl, hv⟩ := hx.one
    split at h
    · rename_i us hs
      unfold seqOf at hs
      split at hs
      · rename_i us' ht
        cases hs
        obtain ⟨p, ys, rfl, g, q⟩ := tup_get hv ht
        rw [hK] at g
        have e := tupOf_eq ht
        subst e
        exact ⟨p, ys, rfl, .inr ⟨g, h.val rel _ hv⟩⟩
      · obtain ⟨p, ys, rfl, g, q⟩ := list_get rel hv hs
        rw [hK] at g
        exact ⟨p, ys, rfl, .inl ⟨g, fun o ho => fin_mkT h rel ho q⟩⟩
    · exact h.elim
  · exact h.elim
end
end Mir
namespace Mir
variable [Tabl]
open PySem PySem.Spec PyProof.Rows L2
abbrev MT := Env → M Bool
def tV (m : ME) : MT := fun env st => (m env st).bind fun t st1 => match t with
  | .bl b => .ok b st1
  | _ => .stuck
def tNotM (m : MT) : MT := fun env st => (m env st).bind fun b st1 => .ok (!b) st1
def tAndM (m n : MT) : MT := fun env st => (m env st).bind fun b st1 => if b then n env st1 else .ok false st1
def tOrM (m n : MT) : MT := fun env st => (m env st).bind fun b st1 => if b then .ok true st1 else n env st1
abbrev JW (X : Cx) (W : WX) (e : Expr) (m : MT) : Prop := PW X e (tT X.K X.mg W m)
section
variable {X : Cx} {W : WX} {pos : Pos} {a b c : Expr} {ma mb mc : ME} {m n : MT} {rest : List Expr}
theorem blof {σ : L2.St} {H : Hp} {Q : Bool → Hp → Prop} (h : tT X.K X.mg W (tV ma) σ H Q) : tE X.K X.mg W ma σ H fun x H1 => ∃ c, x = .bl c ∧ Q c H1 := by
  obtain ⟨ρ, st, env, hK, rel, re, h⟩ := h
  refine ⟨ρ, st, env, hK, rel, re, h.bind.imp fun ρ1 H1 t ⟨st1, x1, rel1, h1⟩ v rv => ?_⟩
  cases t <;> first | exact h1.elim | skip
  exact ⟨_, rv, h1.val (P := KB Q) rel1⟩
theorem jt_val (ha : JE X W a ma) (he : ∀ whole, isTrue a X.env whole = (do let v ← whole; standAt a.pos; holding [v] (truthy v)) := by intro _; rfl) : JT X W a (tV ma) :=
  pt_imp (pt_val ha he) fun σ H Q h => blof h
theorem jt_cmp {op : CmpOp} {r : R2} {k : T → T → M T} (ho : OpR X (compareOp op) r) (hk : Op2 X.K r k) (ha : JE X W a ma) (hb : JE X W b mb) (hm : behindInMarks op b = false := by first | exact nomark _ | rfl) :
    JT X W (.Compare a [op] [b] pos) (tV (e2 k ma mb)) := pt_imp (pt_cmpR ho ha hb hm) fun σ H Q h => run2 hk σ H _ (blof h)
theorem run_chain {k k' : T → T → M T} {r r' : R2} (hk : Op2 X.K r k) (hk' : Op2 X.K r' k') (σ : L2.St) (H : Hp) (Q : VK) (h : tE X.K X.mg W (eChain k k' ma mb mc) σ H Q) :
    tChain r r' (tE X.K X.mg W ma) (tE X.K X.mg W mb) (tE X.K X.mg W mc) σ H Q := by
  obtain ⟨ρ, st, env, hK, rel, re, h⟩ := h
  refine ⟨ρ, st, env, hK, rel, re, h.bind.imp fun ρ1 H1 t ⟨st1, x1, rel1, h1⟩ v rv => ?_⟩
  refine ⟨ρ1, st1, env, x1.K.trans hK, rel1, re.mono x1, h1.bind.imp fun ρ2 H2 u ⟨st2, x2, rel2, h2⟩ w rw => ?_⟩
  refine hk _ _ ρ2 st2 H2 σ t u v w _ (x2.K.trans (x1.K.trans hK)) rel2 (rv.mono x2) rw (h2.bind.imp fun ρ3 H3 z ⟨st3, x3, rel3, h3⟩ vz rz => ?_)
  obtain ⟨kb, rfl⟩ : ∃ kb, z = .bl kb := by
    cases z with
    | bl kb => exact ⟨kb, rfl⟩
    | _ => exact h3.elim
  refine ⟨kb, rz, ?_⟩
  cases kb with
  | true =>
    refine iteT ⟨ρ3, st3, env, x3.K.trans (x2.K.trans (x1.K.trans hK)), rel3, re.mono (x1.trans (x2.trans x3)), h3.bind.imp fun ρ4 H4 y ⟨st4, x4, rel4, h4⟩ vy ry => ?_⟩
    exact hk' _ _ ρ4 st4 H4 σ u y w vy Q (x4.K.trans (x3.K.trans (x2.K.trans (x1.K.trans hK)))) rel4 (rw.mono (x3.trans x4)) ry h4
  | false => exact iteF (h3.val rel3 _ rfl)
theorem j_chain {op op' : CmpOp} {r r' : R2} {k k' : T → T → M T} (ho : OpR X (compareOp op) r) (hk : Op2 X.K r k) (ho' : OpR X (compareOp op') r') (hk' : Op2 X.K r' k') (ha : JE X W a ma) (hb : JE X W b mb) (hc : JE X W c mc)
    (hm : lastMarks [op, op'] [b, c] = false := by with_unfolding_all rfl) : JE X W (.Compare a [op, op'] [b, c] pos) (eChain k k' ma mb mc) := pe_imp (pe_chain ho ho' ha hb hc hm) (run_chain hk hk')
theorem jt_chain {op op' : CmpOp} {r r' : R2} {k k' : T → T → M T} (ho : OpR X (compareOp op) r) (hk : Op2 X.K r k) (ho' : OpR X (compareOp op') r') (hk' : Op2 X.K r' k') (ha : JE X W a ma) (hb : JE X W b mb) (hc : JE X W c mc)
    (hm : lastMarks [op, op'] [b, c] = false := by with_unfolding_all rfl) : JT X W (.Compare a [op, op'] [b, c] pos) (tV (eChain k k' ma mb mc)) :=
  pt_imp (pt_chain ho ho' ha hb hc hm) fun σ H Q h => run_chain hk hk' σ H _ (blof h)
theorem jt_not (ha : JT X W a m) : JT X W (.UnaryOp .Not a pos) (tNotM m) := pt_imp (pt_not ha) fun σ H Q ⟨ρ, st, env, hK, rel, re, h⟩ =>
  ⟨ρ, st, env, hK, rel, re, h.bind.imp fun ρ1 H1 t ⟨st1, x1, rel1, h1⟩ => h1.val (P := KB Q) rel1⟩
theorem jw_and1 (ha : JT X W a m) : JW X W (.BoolOp .And [a] pos) m := pw_and1 ha
theorem jw_or1 (ha : JT X W a m) : JW X W (.BoolOp .Or [a] pos) m := pw_or1 ha
theorem jw_and (ha : JT X W a m) (hb : JW X W (.BoolOp .And (b :: rest) pos) n) : JW X W (.BoolOp .And (a :: b :: rest) pos) (tAndM m n) := pw_imp (pw_and ha hb) fun σ H Q ⟨ρ, st, env, hK, rel, re, h⟩ =>
  ⟨ρ, st, env, hK, rel, re, h.bind.imp fun ρ1 H1 t ⟨st1, x1, rel1, h1⟩ => by
    cases t with
    | true => exact iteT ⟨ρ1, st1, env, x1.K.trans hK, rel1, re.mono x1, h1⟩
    | false => exact iteF (h1.val (P := KB Q) rel1)⟩
theorem jw_or (ha : JT X W a m) (hb : JW X W (.BoolOp .Or (b :: rest) pos) n) : JW X W (.BoolOp .Or (a :: b :: rest) pos) (tOrM m n) := pw_imp (pw_or ha hb) fun σ H Q ⟨ρ, st, env, hK, rel, re, h⟩ =>
  ⟨ρ, st, env, hK, rel, re, h.bind.imp fun ρ1 H1 t ⟨st1, x1, rel1, h1⟩ => by
    cases t with
    | true => exact iteT (h1.val (P := KB Q) rel1)
    | false => exact iteF ⟨ρ1, st1, env, x1.K.trans hK, rel1, re.mono x1, h1⟩⟩
def eNot (m : ME) : ME := fun env st => (m env st).bind fun t st1 => match t with
  | .bl b => .ok (.bl (!b)) st1
  | _ => .stuck
def eAnd (m n : ME) : ME := fun env st => (m env st).bind fun t st1 => match t with
  | .bl true => n env st1
  | .bl false => .ok (.bl false) st1
  | _ => .stuck
def eIf (t : MT) (m n : ME) : ME := fun env st => (t env st).bind fun b st1 => if b then m env st1 else n env st1
theorem j_not (ha : JE X W a ma) : JE X W (.UnaryOp .Not a pos) (eNot ma) := pe_imp (pe_not ha) fun σ H Q ⟨ρ, st, env, hK, rel, re, h⟩ =>
  ⟨ρ, st, env, hK, rel, re, h.bind.imp fun ρ1 H1 t ⟨st1, x1, rel1, h1⟩ v rv => by
    cases t <;> first | exact h1.elim | skip
    exact ⟨_, rv, h1.val rel1 _ rfl⟩⟩
theorem j_one {op} (ha : JE X W a ma) : JE X W (.BoolOp op [a] pos) ma := pe_one ha
theorem j_and (ha : JE X W a ma) (hb : JE X W (.BoolOp .And (b :: rest) pos) mb) : JE X W (.BoolOp .And (a :: b :: rest) pos) (eAnd ma mb) := pe_imp (pe_and ha hb) fun σ H Q ⟨ρ, st, env, hK, rel, re, h⟩ =>
  ⟨ρ, st, env, hK, rel, re, h.bind.imp fun ρ1 H1 t ⟨st1, x1, rel1, h1⟩ v rv => by
    obtain ⟨kb, rfl⟩ : ∃ kb, t = .bl kb := by
      cases t with
      | bl kb => exact ⟨kb, rfl⟩
      | _ => exact h1.elim
    refine ⟨kb, rv, ?_⟩
    cases kb with
    | true => exact iteT ⟨ρ1, st1, env, x1.K.trans hK, rel1, re.mono x1, h1⟩
    | false => exact iteF (h1.val rel1 _ rfl)⟩
end
def intsOf : List T → Option (List Int)
  | [] => some []
  | .int i :: ts => (intsOf ts).map (i :: ·)
  | _ => none
def blsOf : List T → Option (List Bool)
  | [] => some []
  | .bl i :: ts => (blsOf ts).map (i :: ·)
  | _ => none
theorem intsOf_eq : ∀ {ts : List T} {ns : List Int}, intsOf ts = some ns → ts = ns.map T.int
  | [], _, e => by cases e; rfl
  | .int i :: ts, ns, e => by
    unfold intsOf at e
    cases h : intsOf ts with
    | none => rw [h] at e; cases e
    | some ms =>
      rw [h] at e; cases e
      rw [intsOf_eq h]; rfl
theorem intsOf_map : ∀ ns : List Int, intsOf (ns.map T.int) = some ns
  | [] => rfl
  | n :: ns => by
    show (intsOf (ns.map T.int)).map _ = _
    rw [intsOf_map ns]; rfl
theorem blsOf_eq : ∀ {ts : List T} {ns : List Bool}, blsOf ts = some ns → ts = ns.map T.bl
  | [], _, e => by cases e; rfl
  | .bl i :: ts, ns, e => by
    unfold blsOf at e
    cases h : blsOf ts with
    | none => rw [h] at e; cases e
    | some ms =>
      rw [h] at e; cases e
      rw [blsOf_eq h]; rfl
theorem RVs.bls {ρ : Ro} {H : Hp} : ∀ {ns : List Bool} {vs : List V}, RVs ρ H (ns.map T.bl) vs → vs = ns.map V.bl
  | [], _, h => h
  | n :: ns, _, h => by
    obtain ⟨x, r, rfl, h1, h2⟩ := h
    rw [RVs.bls h2]
    rw [show x = V.bl n from h1]; rfl
def kInts (k1 : List Int → Option Int) (ts : List T) : M T := fun st => match ts with
  | [t] => match listOf t st with
    | some us => match intsOf us with
      | some ns => match k1 ns with
        | some i => .ok (.int i) st
        | none => .stuck
      | none => .stuck
    | none => .stuck
  | _ => .stuck
def kBls (k1 : List Bool → Bool) (ts : List T) : M T := fun st => match ts with
  | [t] => match listOf t st with
    | some us => match blsOf us with
      | some ns => .ok (.bl (k1 ns)) st
      | none => .stuck
    | none => .stuck
  | _ => .stuck
def sumI (ns : List Int) : Option Int := some ns.sum
def maxI (ns : List Int) : Option Int := ns.max?
def minI (ns : List Int) : Option Int := ns.min?
abbrev kSum := kInts sumI
abbrev kAll := kBls fun bs => bs.all id
def kMax (ts : List T) : M T := fun st => match ts with
  | [.int a, .int b] => .ok (.int (if b > a then b else a)) st
  | ts => kInts maxI ts st
def kMin (ts : List T) : M T := fun st => match ts with
  | [.int a, .int b] => .ok (.int (if b < a then b else a)) st
  | ts => kInts minI ts st
def kAbs (ts : List T) : M T := fun st => match ts with
  | [.int a] => .ok (.int (if a < 0 then -a else a)) st
  | _ => .stuck
def kInt (ts : List T) : M T := fun st => match ts with
  | [.int a] => .ok (.int a) st
  | [.bl b] => .ok (.int (if b then 1 else 0)) st
  | _ => .stuck
section
variable {K : PySem.W.Frag} {X : Cx}
theorem ints_get {mg : Str → Option Value} {W : WX} {ρ : Ro} {st : Store} {H : Hp} {σ : L2.St} {ts : List T} {xs : List V} {Q : VK} {k1 : List Int → Option Int} (hK : ρ.K = K) (rel : Rel ρ st H) (hx : RVs ρ H ts xs)
    (h : Fin mg W ρ H σ (kInts k1 ts st) (KQ Q)) : ∃ (a : Addr) (ns : List Int) (i : Int), xs = [V.ref a] ∧ SqL K H a (ns.map V.int) ∧ k1 ns = some i ∧ Q (.int i) H := by
  unfold kInts at h
  split at h
  · obtain ⟨v, rfl, hv⟩ := hx.one
    split at h
    · rename_i us hs
      split at h
      · rename_i ns hn
        split at h
        · rename_i i hi
          obtain ⟨a, ys, rfl, g, q⟩ := list_get rel hv hs
          rw [intsOf_eq hn] at q
          rw [q.ints, hK] at g
          exact ⟨a, ns, i, rfl, g, hi, h.val rel _ rfl⟩
        · exact h.elim
      · exact h.elim
    · exact h.elim
  · exact h.elim
theorem bls_get {mg : Str → Option Value} {W : WX} {ρ : Ro} {st : Store} {H : Hp} {σ : L2.St} {ts : List T} {xs : List V} {Q : VK} {k1 : List Bool → Bool} (hK : ρ.K = K) (rel : Rel ρ st H) (hx : RVs ρ H ts xs)
    (h : Fin mg W ρ H σ (kBls k1 ts st) (KQ Q)) : ∃ (a : Addr) (ns : List Bool), xs = [V.ref a] ∧ SqL K H a (ns.map V.bl) ∧ Q (.bl (k1 ns)) H := by
  unfold kBls at h
  split at h
  · obtain ⟨v, rfl, hv⟩ := hx.one
    split at h
    · rename_i us hs
      split at h
      · rename_i ns hn
        obtain ⟨a, ys, rfl, g, q⟩ := list_get rel hv hs
        rw [blsOf_eq hn] at q
        rw [q.bls, hK] at g
        exact ⟨a, ns, rfl, g, h.val rel _ rfl⟩
      · exact h.elim
    · exact h.elim
  · exact h.elim
theorem k_sum : OpL K (rSum K) kSum := by
  intro mg W ρ st H σ ts xs Q hK rel hx h
  obtain ⟨a, ns, i, e1, e2, e3, q⟩ := ints_get hK rel hx h
  cases e3
  exact ⟨a, ns, e1, e2, q⟩
theorem k_all : OpL K (rAll K) kAll := fun mg W ρ st H σ ts xs Q hK rel hx h => bls_get hK rel hx h
theorem call_maxAll (hc : X.calm = true) : CallR X (.builtin "max") (fun xs H Q => (∃ i j, xs = [.int i, .int j] ∧ Q (.int (if j > i then j else i)) H) ∨ rMax X.K xs H Q) := callR_or (call_max2 hc) (cr_max hc)
theorem call_minAll (hc : X.calm = true) : CallR X (.builtin "min") (fun xs H Q => (∃ i j, xs = [.int i, .int j] ∧ Q (.int (if j < i then j else i)) H) ∨ rMin X.K xs H Q) := callR_or (call_min2 hc) (cr_min hc)
theorem k_max : OpL K (fun xs H Q => (∃ i j, xs = [.int i, .int j] ∧ Q (.int (if j > i then j else i)) H) ∨ rMax K xs H Q) kMax := by
  intro mg W ρ st H σ ts xs Q hK rel hx h
  unfold kMax at h
  split at h
  · obtain ⟨v, w, rfl, hv, hw⟩ := hx.two
    exact .inl ⟨_, _, by rw [show v = _ from hv, show w = _ from hw], h.val rel _ rfl⟩
  · obtain ⟨a, ns, i, e1, e2, e3, q⟩ := ints_get hK rel hx h
    have hne : ns ≠ [] := fun z => by rw [z] at e3; cases e3
    refine .inr ⟨a, ns, e1, e2, List.length_pos_iff.mpr hne, fun m hm hmax => ?_⟩
    have em : i = m := by
      have h1 := (List.max?_eq_some_iff (xs := ns) (a := i)).mp e3
      exact Int.le_antisymm (hmax _ h1.1) (h1.2 _ hm)
    rw [← em]; exact q
theorem k_min : OpL K (fun xs H Q => (∃ i j, xs = [.int i, .int j] ∧ Q (.int (if j < i then j else i)) H) ∨ rMin K xs H Q) kMin := by
  intro mg W ρ st H σ ts xs Q hK rel hx h
  unfold kMin at h
  split at h
  · obtain ⟨v, w, rfl, hv, hw⟩ := hx.two
    exact .inl ⟨_, _, by rw [show v = _ from hv, show w = _ from hw], h.val rel _ rfl⟩
  · obtain ⟨a, ns, i, e1, e2, e3, q⟩ := ints_get hK rel hx h
    have hne : ns ≠ [] := fun z => by rw [z] at e3; cases e3
    refine .inr ⟨a, ns, e1, e2, List.length_pos_iff.mpr hne, fun m hm hmin => ?_⟩
    have em : i = m := by
      have h1 := (List.min?_eq_some_iff (xs := ns) (a := i)).mp e3
      exact Int.le_antisymm (h1.2 _ hm) (hmin _ h1.1)
    rw [← em]; exact q
end
def tyOf (t : T) (st : Store) : Option String := match t with
  | .non => some "NoneType"
  | .bl _ => some "bool"
  | .int _ => some "int"
  | .str _ => some "str"
  | .tup _ => some "tuple"
  | .lst _ => some "list"
  | .scr _ => none
  | .tix _ => none
  | .fn _ => none
  | .ref n => match st[n]? with
    | some (.lst _) => some "list"
    | some (.dic _) => some "dict"
    | some (.dtp _) => none
    | some (.ins _ _) => none
    | none => none
theorem tyOf_ty {ρ : Ro} {H : Hp} {st : Store} {t : T} {x : V} {n : String} (rel : Rel ρ st H) (h : RV ρ H t x) (e : tyOf t st = some n) : TyX ρ.K H x (.type n) := by
  cases t with
  | non => cases e; cases h; exact .base .non
  | bl b => cases e; cases h; exact .base (.bl b)
  | int b => cases e; cases h; exact .base (.int b)
  | str b => cases e; cases h; exact .base (.str b)
  | tup ts =>
    cases e
    obtain ⟨a, xs, rfl, g, _⟩ := h
    exact g.elim (fun g => .base (.tup g)) fun g => g.elim (fun ⟨_, o, g⟩ => .fTuple g.1) fun ⟨_, o, _, _, g, c, _⟩ => .kTuple g c
  | lst ts =>
    cases e
    obtain ⟨a, xs, rfl, g, _⟩ := h
    exact .base (.lst g)
  | scr ts => cases e
  | tix ts => cases e
  | fn _ => cases e
  | ref n =>
    obtain ⟨a, rfl, g⟩ := h
    unfold tyOf at e
    dsimp only at e
    split at e
    · rename_i ts hs
      cases e
      obtain ⟨b, g', xs, h1, h2⟩ := rel.addr hs
      rw [g] at g'; cases g'
      exact .base (.lst h1)
    · rename_i ts hs
      cases e
      obtain ⟨b, g', xs, h1, h2⟩ := rel.addr hs
      rw [g] at g'; cases g'
      exact .base (.dK h1)
    · cases e
    · cases e
    · cases e
def kIsi (n : String) (t : T) : M T := fun st => match tyOf t st with
  | some s => match kitB s n with
    | some b => .ok (.bl b) st
    | none => .stuck
  | none => .stuck
def kIsi2 (n1 n2 : String) (t : T) : M T := fun st => match tyOf t st with
  | some s => match kitB s n1, kitB s n2 with
    | some a, some b => .ok (.bl (a || b)) st
    | _, _ => .stuck
  | none => .stuck
section
variable {X : Cx} {W : WX} {pos : Pos} {a : Expr} {ma : ME}
theorem j_isi {tn : Str} {n : String} {p p2 : Pos} (hm : X.mg "isinstance" = none) (hmt : X.mg tn = none) (hv : bootBuiltins tn = some (.type n)) (ha : JE X W a ma) (hg : Gl X "isinstance" := by rfl) (hgt : Gl X tn := by rfl)
    (hn : tn ≠ "__name__" := by decide) (hd : (tn == ("__debug__" : Str)) = false := by decide)
    (he : starEach (a :: [.Name tn p2]) X.env = (false, eval a X.env) :: starEach [.Name tn p2] X.env := by rfl) (hs2 : starEach [Expr.Name tn p2] X.env = (false, eval (Expr.Name tn p2) X.env) :: starEach [] X.env := by rfl)
    (hpl : (backTo pos (starEach [Expr.Name tn p2] X.env)).any (·.1) = false := by rfl) :
    JE X W (.Call (.Name "isinstance" p) [a, .Name tn p2] [] pos) (e1 (kIsi n) ma) :=
  pe_imp (pe_callB call_isi hg hm (show bootBuiltins "isinstance" = some (.builtin "isinstance") by decide +kernel) (pa_cons ha (pa_cons (pe_bltn (v := .ty n) hgt hmt hv rfl hn hd) pa_nil hs2) he) (he := he) (hpl := hpl)) fun σ H Q ⟨ρ, st, env, hK, rel, re, h⟩ =>
    ⟨ρ, st, env, hK, rel, re, h.bind.imp fun ρ1 H1 t ⟨st1, x1, rel1, h1⟩ v rv => by
      unfold kIsi at h1
      split at h1
      · rename_i s hs
        split at h1
        · rename_i b hb
          have ty := tyOf_ty rel1 rv hs
          rw [x1.K, hK] at ty
          exact ⟨v, .ty n, .type s, .type n, b, rfl, .ty n, ty, kit_ty hb, h1.val rel1 _ rfl⟩
        · exact h1.elim
      · exact h1.elim⟩
theorem j_isi2 {t1 t2 : Str} {n1 n2 : String} {p p1 p2 tp : Pos} {kk} (hm : X.mg "isinstance" = none) (hm1 : X.mg t1 = none) (hv1 : bootBuiltins t1 = some (.type n1)) (hm2 : X.mg t2 = none) (hv2 : bootBuiltins t2 = some (.type n2)) (ha : JE X W a ma)
    (hg : Gl X "isinstance" := by rfl) (hg1 : Gl X t1 := by rfl) (hg2 : Gl X t2 := by rfl)
    (hn1 : t1 ≠ "__name__" := by decide) (hd1 : (t1 == ("__debug__" : Str)) = false := by decide) (hn2 : t2 ≠ "__name__" := by decide) (hd2 : (t2 == ("__debug__" : Str)) = false := by decide)
    (he : starEach (a :: [.Tuple [.Name t1 p1, .Name t2 p2] kk tp]) X.env = (false, eval a X.env) :: starEach [.Tuple [.Name t1 p1, .Name t2 p2] kk tp] X.env := by rfl)
    (hs2 : starEach [Expr.Tuple [.Name t1 p1, .Name t2 p2] kk tp] X.env = (false, eval (Expr.Tuple [.Name t1 p1, .Name t2 p2] kk tp) X.env) :: starEach [] X.env := by rfl)
    (hs3 : starEach [Expr.Name t1 p1, .Name t2 p2] X.env = (false, eval (Expr.Name t1 p1) X.env) :: starEach [.Name t2 p2] X.env := by rfl)
    (hs4 : starEach [Expr.Name t2 p2] X.env = (false, eval (Expr.Name t2 p2) X.env) :: starEach [] X.env := by rfl)
    (hpl : (backTo pos (starEach [Expr.Tuple [.Name t1 p1, .Name t2 p2] kk tp] X.env)).any (·.1) = false := by rfl) :
    JE X W (.Call (.Name "isinstance" p) [a, .Tuple [.Name t1 p1, .Name t2 p2] kk tp] [] pos) (e1 (kIsi2 n1 n2) ma) :=
  pe_imp (pe_callB call_isiT hg hm (show bootBuiltins "isinstance" = some (.builtin "isinstance") by decide +kernel) (pa_cons ha (pa_cons (pe_tup (pa_cons (pe_bltn (v := .ty n1) hg1 hm1 hv1 rfl hn1 hd1) (pa_cons (pe_bltn (v := .ty n2) hg2 hm2 hv2 rfl hn2 hd2) pa_nil hs4) hs3)) pa_nil hs2) he) (he := he) (hpl := hpl)) fun σ H Q ⟨ρ, st, env, hK, rel, re, h⟩ =>
    ⟨ρ, st, env, hK, rel, re, h.bind.imp fun ρ1 H1 t ⟨st1, x1, rel1, h1⟩ v rv => ⟨by show 2 ≤ sizeLine; decide, fun q hq => by
      unfold kIsi2 at h1
      split at h1
      · rename_i s hs
        split at h1
        · rename_i b1 b2 hb1 hb2
          have ty := tyOf_ty (rel1.new (o := .tup [.ty n1, .ty n2]) hq) (rv.mono (Ext.new hq)) hs
          rw [x1.K, hK] at ty
          refine ⟨v, q, [.ty n1, .ty n2], .type s, [.type n1, .type n2], b1 || b2, rfl, upd_same, .cons (.ty n1) (.cons (.ty n2) .nil), ty, ?_, h1 _ _ (Ext.new hq) (rel1.new hq) _ rfl⟩
          refine kitAny_cons (kit_ty hb1) (fun e => ?_) (fun e => by rw [e]; rfl)
          rw [e]
          exact kitAny_cons (kit_ty hb2) (fun e2 => by rw [e2]; rfl) (fun e2 => by rw [e2]; rfl)
        · exact h1.elim
      · exact h1.elim⟩⟩
end
end Mir
namespace Mir
variable [Tabl]
open PySem PySem.Spec PyProof.Rows L2
inductive RS where
  | nx (env : Env) (st : Store) | rt (t : T) (st : Store) | bk (env : Env) (st : Store) | ct (env : Env) (st : Store) | exc (x : Ex) (env : Env) (st : Store) | stuck
abbrev MS := Env → Store → RS
def FinS (mg : Str → Option Value) (W : WX) (ρ : Ro) (H : Hp) (r : RS) (D : Ends) : Prop :=
  match r with
  | .nx env st => ∀ ρ' H' σ, Ext ρ H ρ' H' → Rel ρ' st H' → RE ρ' H' env σ → D.nx σ H'
  | .rt t st => ∀ ρ' H' v, Ext ρ H ρ' H' → Rel ρ' st H' → RV ρ' H' t v → D.rt v H'
  | .bk env st => ∀ ρ' H' σ, Ext ρ H ρ' H' → Rel ρ' st H' → RE ρ' H' env σ → D.bk σ H'
  | .ct env st => ∀ ρ' H' σ, Ext ρ H ρ' H' → Rel ρ' st H' → RE ρ' H' env σ → D.ct σ H'
  | .exc x env st => ∀ ρ' H' σ cls d, Ext ρ H ρ' H' → Rel ρ' st H' → RE ρ' H' env σ → RX mg ρ' H' x cls d → W cls d σ H'
  | .stuck => False
def RS.seq (r : RS) (k : MS) : RS := match r with
  | .nx env st => k env st
  | .rt t st => .rt t st
  | .bk env st => .bk env st
  | .ct env st => .ct env st
  | .exc x env st => .exc x env st
  | .stuck => .stuck
def RS.of {α : Type} (env : Env) (r : R α) (k : α → Store → RS) : RS := match r with
  | .ok a st => k a st
  | .exc x st => .exc x env st
  | .stuck => .stuck
section
variable {mg : Str → Option Value} {W : WX} {ρ : Ro} {H : Hp} {r : RS} {D : Ends}
theorem FinS.rebase {ρ1 : Ro} {H1 : Hp} (e : Ext ρ H ρ1 H1) (h : FinS mg W ρ H r D) : FinS mg W ρ1 H1 r D := by
  cases r with
  | nx env st => exact fun ρ' H' σ e' rl re => h ρ' H' σ (e.trans e') rl re
  | bk env st => exact fun ρ' H' σ e' rl re => h ρ' H' σ (e.trans e') rl re
  | ct env st => exact fun ρ' H' σ e' rl re => h ρ' H' σ (e.trans e') rl re
  | rt t st => exact fun ρ' H' v e' rl rv => h ρ' H' v (e.trans e') rl rv
  | exc x env st => exact fun ρ' H' σ c d e' rl re x => h ρ' H' σ c d (e.trans e') rl re x
  | stuck => exact h
theorem FinS.of {α : Type} {env : Env} {σ : L2.St} {q : R α} {k : α → Store → RS} (re : RE ρ H env σ) (h : FinS mg W ρ H (RS.of env q k) D) :
    Fin mg W ρ H σ q fun ρ1 H1 a => ∃ st1, Ext ρ H ρ1 H1 ∧ Rel ρ1 st1 H1 ∧ FinS mg W ρ1 H1 (k a st1) D := by
  cases q with
  | ok a st => exact fun ρ1 H1 e rl => ⟨st, e, rl, FinS.rebase e h⟩
  | exc x st => exact fun ρ1 H1 c d e rl rx => h ρ1 H1 σ c d e rl (re.mono e) rx
  | stuck => exact h
end
def tS (K : PySem.W.Frag) (mg : Str → Option Value) (W : WX) (m : MS) : TS := fun D σ H =>
  ∃ ρ st env, ρ.K = K ∧ Rel ρ st H ∧ RE ρ H env σ ∧ FinS mg W ρ H (m env st) D
abbrev JS (X : Cx) (W : WX) (e : Stmt) (m : MS) : Prop := PS X e (tS X.K X.mg W m)
abbrev JB (X : Cx) (W : WX) (e : List Stmt) (m : MS) : Prop := PSs X e (tS X.K X.mg W m)
section
variable {X : Cx} {W : WX} {pos : Pos} {st : Stmt} {rest : List Stmt} {m n : MS} {e : Expr} {me : ME}
theorem ps_imp {t t' : TS} (h : PS X st t) (i : ∀ D σ H, t' D σ H → t D σ H) : PS X st t' := ⟨fun pins s σ H D I q => h.run pins s σ H D I (i D σ H q)⟩
theorem pss_imp {t t' : TS} (h : PSs X rest t) (i : ∀ D σ H, t' D σ H → t D σ H) : PSs X rest t' := ⟨fun pins s σ H D I q => h.run pins s σ H D I (i D σ H q)⟩
def sSeq (m n : MS) : MS := fun env st => (m env st).seq n
def sNext : MS := fun env st => .nx env st
theorem jb_nil : JB X W [] sNext := pss_imp pss_nil fun D σ H ⟨ρ, st, env, hK, rel, re, h⟩ => h ρ H σ (.refl ρ H) rel re
theorem jb_one (h : JS X W st m) : JB X W [st] m := pss_one h
theorem jb_cons (h1 : JS X W st m) (h2 : JB X W rest n) : JB X W (st :: rest) (sSeq m n) := pss_imp (pss_cons h1 h2) fun D σ H ⟨ρ, s, env, hK, rel, re, h⟩ => by
  refine ⟨ρ, s, env, hK, rel, re, ?_⟩
  unfold sSeq at h
  cases hm : m env s with
  | nx env1 s1 =>
    rw [hm] at h
    exact fun ρ1 H1 σ1 x1 rel1 re1 => ⟨ρ1, s1, env1, x1.K.trans hK, rel1, re1, FinS.rebase (r := n env1 s1) x1 h⟩
  | rt t s1 => rw [hm] at h; exact h
  | bk env1 s1 => rw [hm] at h; exact h
  | ct env1 s1 => rw [hm] at h; exact h
  | exc x env1 s1 => rw [hm] at h; exact h
  | stuck => rw [hm] at h; exact h
def sExpr (m : ME) : MS := fun env st => RS.of env (m env st) fun _ st1 => .nx env st1
theorem js_expr (he : JE X W e me) (hs : swapsWith e none pos.line X.env = pure false := by rfl) : JS X W (.Expr e pos) (sExpr me) := ps_imp (ps_expr he hs) fun D σ H ⟨ρ, st, env, hK, rel, re, h⟩ =>
  ⟨ρ, st, env, hK, rel, re, (FinS.of re h).imp fun ρ1 H1 a ⟨st1, x1, rel1, h1⟩ v rv => h1 ρ1 H1 σ (.refl ρ1 H1) rel1 (re.mono x1)⟩
def sRet (m : ME) : MS := fun env st => RS.of env (m env st) fun t st1 => .rt t st1
theorem js_ret (he : JE X W e me) : JS X W (.Return (some e) pos) (sRet me) := ps_imp (ps_ret he) fun D σ H ⟨ρ, st, env, hK, rel, re, h⟩ =>
  ⟨ρ, st, env, hK, rel, re, (FinS.of re h).imp fun ρ1 H1 a ⟨st1, x1, rel1, h1⟩ v rv => h1 ρ1 H1 v (.refl ρ1 H1) rel1 rv⟩
def sIf (t : MT) (m n : MS) : MS := fun env st => RS.of env (t env st) fun b st1 => if b then m env st1 else n env st1
theorem js_if {c : Expr} {a b : List Stmt} {mt : MT} (hc : JT X W c mt) (ha : JB X W a m) (hb : JB X W b n) : JS X W (.If c a b pos) (sIf mt m n) := ps_imp (ps_if hc ha hb) fun D σ H ⟨ρ, st, env, hK, rel, re, h⟩ =>
  ⟨ρ, st, env, hK, rel, re, (FinS.of re h).imp fun ρ1 H1 t ⟨st1, x1, rel1, h1⟩ => by
    cases t with
    | true => exact iteT ⟨ρ1, st1, env, x1.K.trans hK, rel1, re.mono x1, h1⟩
    | false => exact iteF ⟨ρ1, st1, env, x1.K.trans hK, rel1, re.mono x1, h1⟩⟩
end
abbrev MG := T → Env → Store → RS
def tG (K : PySem.W.Frag) (mg : Str → Option Value) (W : WX) (m : MG) : TG := fun v σ H Q =>
  ∃ ρ st env t, ρ.K = K ∧ Rel ρ st H ∧ RE ρ H env σ ∧ RV ρ H t v ∧ FinS mg W ρ H (m t env st) ⟨Q, fun _ _ => False, fun _ _ => False, fun _ _ => False⟩
abbrev MGs := List T → Env → Store → RS
def tGs (K : PySem.W.Frag) (mg : Str → Option Value) (W : WX) (m : MGs) : TGs := fun v σ H Q =>
  ∃ ρ st env t, ρ.K = K ∧ Rel ρ st H ∧ RE ρ H env σ ∧ RVs ρ H t v ∧ FinS mg W ρ H (m t env st) ⟨Q, fun _ _ => False, fun _ _ => False, fun _ _ => False⟩
abbrev JG (X : Cx) (W : WX) (e : Expr) (m : MG) : Prop := PG X e (tG X.K X.mg W m)
abbrev JGs (X : Cx) (W : WX) (e : List Expr) (m : MGs) : Prop := PGs X e (tGs X.K X.mg W m)
def gN (i : Nat) : MG := fun t env st => .nx (env.set i (some t)) st
def gsNil : MGs := fun ts env st => match ts with
  | [] => .nx env st
  | _ => .stuck
def gsCons (g : MG) (r : MGs) : MGs := fun ts env st => match ts with
  | t :: ts => (g t env st).seq (r ts)
  | _ => .stuck
def gT (n : Nat) (r : MGs) : MG := fun t env st => match t with
  | .tup ts => if ts.length = n then r ts env st else .stuck
  | _ => .stuck
def putAt (st : Store) (o i v : T) : Option Store := match o, i with
  | .ref n, .int k => match st[n]? with
    | some (.lst ts) => match ixN ts.length k with
      | some j => some (st.set n (.lst (ts.set j v)))
      | none => none
    | _ => none
  | _, _ => none
def gSubM (a b : ME) : MG := fun v env st => match (a env st).bind fun o st1 => (b env st1).bind fun i st2 => match putAt st2 o i v with
    | some st3 => R.ok () st3
    | none => .stuck with
  | .ok _ st3 => .nx env st3
  | _ => .stuck
def WF : WX := fun _ _ _ _ => False
section
variable {X : Cx} {W : WX} {pos : Pos} {a b e : Expr} {ma mb me : ME} {es : List Expr} {g : MG} {gs : MGs}
theorem pg_imp {t t' : TG} (h : PG X e t) (i : ∀ v σ H Q, t' v σ H Q → t v σ H Q) : PG X e t' := ⟨fun pins s σ H v u Q I r q => h.run pins s σ H v u Q I r (i v σ H Q q)⟩
theorem pgs_imp {t t' : TGs} (h : PGs X es t) (i : ∀ v σ H Q, t' v σ H Q → t v σ H Q) : PGs X es t' := ⟨fun pins s σ H v u Q I r q => h.run pins s σ H v u Q I r (i v σ H Q q)⟩
theorem jg_name {i : Nat} {x : Str} (hN : X.N.Nodup) (hi : X.N[i]? = some x := by rfl) (hx : Loc X.env.scope x := by first | exact Or.inl rfl | exact Or.inr rfl) (hf : X.fn x = true ∨ X.env.scope.names.lookup x = some .local := by first | exact .inl rfl | exact .inr rfl) : JG X W (.Name x pos) (gN i) :=
  pg_imp (pg_name hN hi hx hf) fun v σ H Q ⟨ρ, st, env, t, hK, rel, re, rv, h⟩ => h ρ H _ (.refl ρ H) rel (re.set i rv)
theorem jgs_nil : JGs X W [] gsNil := pgs_imp pgs_nil fun v σ H Q ⟨ρ, st, env, t, hK, rel, re, rv, h⟩ => by
  cases t with
  | nil => exact ⟨rv, h ρ H σ (.refl ρ H) rel re⟩
  | cons t ts => exact h.elim
theorem jgs_cons (h1 : JG X W e g) (h2 : JGs X W es gs) (hs : (assignEach (e :: es) X.env).map (·.2) = assign e X.env :: (assignEach es X.env).map (·.2) := by rfl) : JGs X W (e :: es) (gsCons g gs) :=
  pgs_imp (pgs_cons h1 h2 hs) fun v σ H Q ⟨ρ, st, env, t, hK, rel, re, rv, h⟩ => by
    cases t with
    | nil => exact h.elim
    | cons t ts =>
      obtain ⟨x, r, e1, q, q'⟩ := rv
      refine ⟨x, r, e1, ρ, st, env, t, hK, rel, re, q, ?_⟩
      have h : FinS X.mg W ρ H ((g t env st).seq (gs ts)) ⟨Q, fun _ _ => False, fun _ _ => False, fun _ _ => False⟩ := h
      cases hm : g t env st with
      | nx env1 s1 =>
        rw [hm] at h
        exact fun ρ1 H1 σ1 x1 rel1 re1 => ⟨ρ1, s1, env1, ts, x1.K.trans hK, rel1, re1, q'.mono x1, FinS.rebase (r := gs ts env1 s1) x1 h⟩
      | rt t s1 => rw [hm] at h; exact h
      | bk env1 s1 => rw [hm] at h; exact h
      | ct env1 s1 => rw [hm] at h; exact h
      | exc x env1 s1 => rw [hm] at h; exact h
      | stuck => rw [hm] at h; exact h
theorem jg_tup {k n} (hc : X.calm = true) (h : JGs X W es gs) (hn : (assignEach es X.env).length = n := by rfl) (hst : (assignEach es X.env).findIdx? (·.1) = none := by rfl) : JG X W (.Tuple es k pos) (gT n gs) :=
  pg_imp (pg_tup hc h hn hst) fun v σ H Q ⟨ρ, st, env, t, hK, rel, re, rv, h⟩ => by
    unfold gT at h
    split at h
    · split at h
      · rename_i ts hl
        obtain ⟨p, xs, rfl, g1, q⟩ := rv
        exact ⟨p, xs, rfl, g1.sq hK, by rw [q.length]; exact hl, ρ, st, env, ts, hK, rel, re, q, h⟩
      · exact h.elim
    · exact h.elim
def sAsg (m : ME) (g : MG) : MS := fun env st => RS.of env (m env st) fun t st1 => match g t env st1 with
  | .nx e s => .nx e s
  | _ => .stuck
theorem asg_run {σ : L2.St} {H : Hp} {D : Ends} (h : tS X.K X.mg W (sAsg me g) D σ H) : tAsg (tE X.K X.mg W me) (tG X.K X.mg W g) D σ H := by
  obtain ⟨ρ, st, env, hK, rel, re, h⟩ := h
  refine ⟨ρ, st, env, hK, rel, re, (FinS.of re h).imp fun ρ1 H1 t ⟨st1, x1, rel1, h1⟩ v rv => ⟨ρ1, st1, env, t, x1.K.trans hK, rel1, re.mono x1, rv, ?_⟩⟩
  split at h1
  · rename_i e s he
    rw [he]
    exact h1
  · exact h1.elim
theorem js_asg (he : JE X W e me) (hg : JG X W a g) (hs : swapsWithSole [a] e pos.line X.env = pure false := by rfl) (hw : swappedStores [a] e X.env = pure none := by rfl)
    (h1 : (assignEach [a] X.env).map (·.2) = [assign a X.env] := by rfl) : JS X W (.Assign [a] e pos) (sAsg me g) := ps_imp (ps_asg he hg hs hw h1) fun D σ H h => asg_run h
def sSet (i : Nat) (m : ME) : MS := fun env st => RS.of env (m env st) fun t st1 => .nx (env.set i (some t)) st1
theorem set_run {i : Nat} {σ : L2.St} {H : Hp} {D : Ends} (h : tS X.K X.mg W (sSet i me) D σ H) : tAsg (tE X.K X.mg W me) (gName i) D σ H := by
  obtain ⟨ρ, st, env, hK, rel, re, h⟩ := h
  exact ⟨ρ, st, env, hK, rel, re, (FinS.of re h).imp fun ρ1 H1 t ⟨st1, x1, rel1, h1⟩ v rv => h1 ρ1 H1 _ (.refl ρ1 H1) rel1 ((re.mono x1).set i rv)⟩
theorem js_set {i : Nat} {x : Str} {pos' : Pos} (hN : X.N.Nodup) (he : JE X W e me) (hi : X.N[i]? = some x := by rfl) (hx : Loc X.env.scope x := by first | exact Or.inl rfl | exact Or.inr rfl)
    (hs : swapsWith e (some (.Name x pos')) pos.line X.env = pure false := by rfl) (hf : X.fn x = true ∨ X.env.scope.names.lookup x = some .local := by first | exact .inl rfl | exact .inr rfl) : JS X W (.Assign [.Name x pos'] e pos) (sSet i me) :=
  ps_imp (ps_set hN hi hx he hs hf) fun D σ H h => set_run h
def sPar (i j : Nat) (m : Env → M (List T)) : MS := fun env st => RS.of env (m env st) fun ts st1 => match ts with
  | [t, u] => .nx ((env.set i (some t)).set j (some u)) st1
  | _ => .stuck
theorem js_par {i j : Nat} {x y : Str} {px py pt : Pos} {kt k2 pt2} {mr : Env → M (List T)} (hc : X.calm = true) (hN : X.N.Nodup) (ha : JA X W [a, b] mr) (hi : X.N[i]? = some x := by rfl) (hj : X.N[j]? = some y := by rfl) (hij : i ≠ j := by decide)
    (hx : X.env.scope.names.lookup x = some .local := by rfl) (hy : X.env.scope.names.lookup y = some .local := by rfl)
    (hw : swappedStores [.Tuple [.Name x px, .Name y py] kt pt] (.Tuple [a, b] k2 pt2) X.env = pure (some [x, y]) := by rfl)
    (hs : swapsWithSole [.Tuple [.Name x px, .Name y py] kt pt] (.Tuple [a, b] k2 pt2) pos.line X.env = pure false := by rfl) :
    JS X W (.Assign [.Tuple [.Name x px, .Name y py] kt pt] (.Tuple [a, b] k2 pt2) pos) (sPar i j mr) :=
  ps_imp (ps_par hc hN hi hj hij hx hy ha hw hs) fun D σ H ⟨ρ, st, env, hK, rel, re, h⟩ =>
    ⟨ρ, st, env, hK, rel, re, (FinS.of re h).imp fun ρ1 H1 ts ⟨st1, x1, rel1, h1⟩ vs rvs => by
      split at h1
      · obtain ⟨v, w, rfl, rv, rw⟩ := rvs.two
        exact ⟨v, w, rfl, h1 ρ1 H1 _ (.refl ρ1 H1) rel1 (((re.mono x1).set i rv).set j rw)⟩
      · exact h1.elim⟩
end
structure Iter where
  items : List T
  chk : Store → Prop
def Goes (ρ : Ro) (H : Hp) (it : Iter) (J : It) : Prop := ∀ ρ1 H1 st1, Grow ρ H ρ1 H1 → ρ1.K = ρ.K → Rel ρ1 st1 H1 → it.chk st1 →
  (∀ i t, it.items[i]? = some t → J.go i H1 ∧ ∀ x H', J.yld i H1 x H' → Ext ρ1 H1 ρ1 H' ∧ Rel ρ1 st1 H' ∧ RV ρ1 H' t x) ∧ J.stop it.items.length H1
theorem Grow.trans {ρ ρ1 ρ2 : Ro} {H H1 H2 : Hp} (a : Grow ρ H ρ1 H1) (b : Grow ρ1 H1 ρ2 H2) : Grow ρ H ρ2 H2 :=
  ⟨fun n x h => b.get n x (a.get n x h), fun c xs h => b.tups c xs (a.tups c xs h), fun c xs so h n n' => by
    obtain ⟨h1, h2, h3⟩ := a.lsts c xs so h n n'
    exact b.lsts c xs so h1 h2 h3, fun c xs h => b.scrs c xs (a.scrs c xs h), b.K.trans a.K⟩
abbrev MI := Env → M Iter
def tI (K : PySem.W.Frag) (mg : Str → Option Value) (W : WX) (m : MI) : TI := fun σ H R =>
  ∃ ρ st env, ρ.K = K ∧ Rel ρ st H ∧ RE ρ H env σ ∧ Fin mg W ρ H σ (m env st) fun ρ' H' it => ∀ J, Goes ρ' H' it J → R J H'
abbrev JI (X : Cx) (W : WX) (tg e : Expr) (m : MI) : Prop := PI X tg e (tI X.K X.mg W m)
def itLM (t : T) (st : Store) : Option Iter := match t with
  | .ref n => match st[n]? with
    | some (.lst ts) => some ⟨ts, fun st1 => st1[n]? = some (.lst ts)⟩
    | _ => none
  | .lst ts => some ⟨ts, fun _ => True⟩
  | .scr ts => some ⟨ts, fun _ => True⟩
  | _ => none
theorem itL_get {ρ : Ro} {H : Hp} {st : Store} {t : T} {x : V} {it : Iter} (rel : Rel ρ st H) (h : RV ρ H t x) (e : itLM t st = some it) :
    ∃ a, x = .ref a ∧ (∃ xs, SqL ρ.K H a xs) ∧ (it.chk st) ∧ ∀ ρ1 H1 st1, Grow ρ H ρ1 H1 → ρ1.K = ρ.K → Rel ρ1 st1 H1 → it.chk st1 → ∃ xs, SqL ρ1.K H1 a xs ∧ RVs ρ1 H1 it.items xs := by
  cases t with
  | ref n =>
    obtain ⟨a, rfl, g⟩ := h
    unfold itLM at e
    dsimp only at e
    split at e
    · rename_i ts hs
      cases e
      obtain ⟨b, g', xs, h1, h2⟩ := rel.addr hs
      rw [g] at g'; cases g'
      refine ⟨a, rfl, ⟨xs, .of h1⟩, hs, fun ρ1 H1 st1 x1 _ rel1 c => ?_⟩
      obtain ⟨b, g2, ys, h3, h4⟩ := rel1.addr c
      rw [x1.get _ _ g] at g2; cases g2
      exact ⟨ys, .of h3, h4⟩
    · cases e
  | lst ts =>
    cases e
    obtain ⟨a, xs, rfl, g, n, q⟩ := h
    exact ⟨a, rfl, ⟨xs, .of g⟩, True.intro, fun ρ1 H1 st1 x1 _ rel1 _ => ⟨xs, .of (x1.lsts a (.lst xs) True.intro g n.1 n.2).1, q.grow x1⟩⟩
  | scr ts =>
    cases e
    obtain ⟨a, xs, rfl, g, q⟩ := h
    exact ⟨a, rfl, ⟨xs, g.seq⟩, True.intro, fun ρ1 H1 st1 x1 _ rel1 _ => ⟨xs, (x1.scrs _ _ g).seq, q.grow x1⟩⟩
  | _ => cases e
section
variable {X : Cx} {W : WX} {pos p : Pos} {tg a b e : Expr} {ma mb me : ME} {mi : MI}
theorem pi_imp {t t' : TI} (h : PI X tg e t) (i : ∀ σ H Q, t' σ H Q → t σ H Q) : PI X tg e t' := ⟨fun pins s σ H Q I q => h.run pins s σ H Q I (i σ H Q q)⟩
def iSeq (m : ME) : MI := fun env st => (m env st).bind fun t st1 => match itLM t st1 with
  | some it => .ok it st1
  | none => .stuck
def iTupM (m : ME) : MI := fun env st => (m env st).bind fun t st1 => match t with
  | .tup ts => .ok ⟨ts, fun _ => True⟩ st1
  | _ => .stuck
theorem ji_list (ha : JE X W a ma) : JI X W tg a (iSeq ma) := pi_imp (pi_list ha) fun σ H R ⟨ρ, st, env, hK, rel, re, h⟩ =>
  ⟨ρ, st, env, hK, rel, re, h.bind.imp fun ρ1 H1 t ⟨st1, x1, rel1, h1⟩ v rv => by
    split at h1
    · rename_i it hi
      obtain ⟨p, rfl, ex, _, q⟩ := itL_get rel1 rv hi
      rw [x1.K, hK] at ex
      refine ⟨p, rfl, ex, h1.val rel1 _ fun ρ2 H2 st2 x2 k2 rel2 c => ?_⟩
      obtain ⟨xs, h2, h3⟩ := q ρ2 H2 st2 x2 k2 rel2 c
      rw [k2, x1.K, hK] at h2
      refine ⟨fun i t ht => ?_, xs, h2, by rw [h3.length]; exact Nat.le_refl _⟩
      obtain ⟨z, hz, rz⟩ := h3.get ht
      refine ⟨⟨xs, z, h2, hz⟩, fun x H' y => ?_⟩
      obtain ⟨rfl, y⟩ := y
      have : x = z := Option.some.inj ((y xs h2).symm.trans hz)
      subst this
      exact ⟨.refl _ _, rel2, rz⟩
    · exact h1.elim⟩
theorem ji_tup (ha : JE X W a ma) : JI X W tg a (iTupM ma) := pi_imp (pi_tup ha) fun σ H R ⟨ρ, st, env, hK, rel, re, h⟩ =>
  ⟨ρ, st, env, hK, rel, re, h.bind.imp fun ρ1 H1 t ⟨st1, x1, rel1, h1⟩ v rv => by
    split at h1
    · obtain ⟨p, xs, rfl, g, q⟩ := rv
      refine ⟨p, rfl, ⟨xs, g.sq (x1.K.trans hK)⟩, h1.val rel1 _ fun ρ2 H2 st2 x2 k2 rel2 c => ?_⟩
      have h2 : SqT X.K H2 p xs := (x2.tups _ _ g).sq (k2.trans (x1.K.trans hK))
      have h3 := q.grow x2
      refine ⟨fun i t ht => ?_, xs, h2, by rw [h3.length]; exact Nat.le_refl _⟩
      obtain ⟨z, hz, rz⟩ := h3.get ht
      refine ⟨⟨xs, z, h2, hz⟩, fun x H' y => ?_⟩
      obtain ⟨rfl, y⟩ := y
      have : x = z := Option.some.inj ((y xs h2).symm.trans hz)
      subst this
      exact ⟨.refl _ _, rel2, rz⟩
    · exact h1.elim⟩
def rangeT (lo : Int) (n : Nat) : List T := (List.range n).map fun i => T.int (lo + (i : Nat))
def iRange1 (m : ME) : MI := fun env st => (m env st).bind fun t st1 => match t with
  | .int j => if -(2 ^ 62) ≤ j ∧ j < 2 ^ 62 then .ok ⟨rangeT 0 j.toNat, fun _ => True⟩ st1 else .stuck
  | _ => .stuck
theorem goes_range {ρ : Ro} {H : Hp} (lo : Int) (n : Nat) : Goes ρ H ⟨rangeT lo n, fun _ => True⟩ (Itr lo n) := fun ρ1 H1 st1 x1 _ rel1 _ => by
  refine ⟨fun i t ht => ?_, by show n ≤ _; unfold rangeT; simp⟩
  unfold rangeT at ht
  rw [List.getElem?_map] at ht
  cases hi : (List.range n)[i]? with
  | none => rw [hi] at ht; cases ht
  | some k =>
    rw [hi] at ht
    cases ht
    obtain ⟨h1, h2⟩ := List.getElem?_eq_some_iff.mp hi
    simp at h1 h2
    subst h2
    refine ⟨h1, fun x H' y => ?_⟩
    obtain ⟨rfl, rfl⟩ := y
    exact ⟨.refl _ _, rel1, rfl⟩
theorem ji_range1 (hm : X.mg "range" = none) (ha : JE X W a ma) (hg : Gl X "range" := by rfl) (hs : starEach [a] X.env = [(false, eval a X.env)] := by rfl) : JI X W tg (.Call (.Name "range" p) [a] [] pos) (iRange1 ma) :=
  pi_imp (pi_range1 hg hm (pa_cons ha pa_nil hs) hs) fun σ H R ⟨ρ, st, env, hK, rel, re, h⟩ =>
    ⟨ρ, st, env, hK, rel, re, h.bind.imp fun ρ1 H1 t ⟨st1, x1, rel1, h1⟩ v rv => by
      split at h1
      · split at h1
        · rename_i hj
          exact ⟨_, by rw [show v = _ from rv], hj.1, hj.2, h1.val rel1 _ (goes_range 0 _)⟩
        · exact h1.elim
      · exact h1.elim⟩
end
end Mir
namespace Mir
variable [Tabl]
open PySem PySem.Spec PyProof.Rows L2
def enumT (ts : List T) : List T := (List.range ts.length).map fun (i : Nat) => T.tup [.int (i : Int), ts.getD i .non]
theorem enumT_len (ts : List T) : (enumT ts).length = ts.length := by unfold enumT; simp
theorem enumT_get {ts : List T} {i : Nat} {t : T} (h : (enumT ts)[i]? = some t) : ∃ u, ts[i]? = some u ∧ t = .tup [.int (i : Int), u] := by
  unfold enumT at h
  rw [List.getElem?_map] at h
  cases hi : (List.range ts.length)[i]? with
  | none => rw [hi] at h; cases h
  | some k =>
    rw [hi] at h
    cases h
    obtain ⟨h1, h2⟩ := List.getElem?_eq_some_iff.mp hi
    simp at h1 h2
    subst h2
    exact ⟨ts[i], List.getElem?_eq_getElem h1, by simp [h1]⟩
open Classical in
noncomputable def forM (chk : Store → Prop) (g : MG) (body : MS) : List T → MS
  | [], env, st => if chk st then .nx env st else .stuck
  | t :: ts, env, st => if chk st then match g t env st with
      | .nx e1 s1 => match body e1 s1 with
        | .nx e2 s2 => forM chk g body ts e2 s2
        | .ct e2 s2 => forM chk g body ts e2 s2
        | .bk e2 s2 => .nx e2 s2
        | .rt v s2 => .rt v s2
        | .exc x e2 s2 => .exc x e2 s2
        | .stuck => .stuck
      | _ => .stuck
    else .stuck
noncomputable def sFor (mi : MI) (g : MG) (body : MS) : MS := fun env st => RS.of env (mi env st) fun it st1 => forM it.chk g body it.items env st1
def whileM (t : MT) (body : MS) : Nat → MS
  | 0, _, _ => .stuck
  | n + 1, env, st => RS.of env (t env st) fun b s1 => if b then match body env s1 with
      | .nx e2 s2 => whileM t body n e2 s2
      | .ct e2 s2 => whileM t body n e2 s2
      | .bk e2 s2 => .nx e2 s2
      | .rt v s2 => .rt v s2
      | .exc x e2 s2 => .exc x e2 s2
      | .stuck => .stuck
    else .nx env s1
section
variable {X : Cx} {W : WX} {pos : Pos} {tg iter c : Expr} {body : List Stmt} {mi : MI} {g : MG} {mb : MS} {mt : MT}
theorem js_for (hp : PassesOwn (model X.prog X.w) X.A X.env X.xe) (hc : X.calm = true) (hi : JI X W tg iter mi) (hg : JG X W tg g) (hb : JB X W body mb)
    (hs : ∀ x, foldedSetIterable iter X.env x = pure x := by intro _; rfl) : JS X W (.For tg iter body [] pos) (sFor mi g mb) :=
  ps_imp (ps_for hp hc hi hg hb hs) fun D σ H ⟨ρ, st, env, hK, rel, re, h⟩ =>
    ⟨ρ, st, env, hK, rel, re, (FinS.of re h).imp fun ρ1 H1 it ⟨st1, x1, rel1, h1⟩ J hJ => by
      refine ⟨fun i m σ' H' => i + m = it.items.length ∧ ∃ ρ2 st2 env2, Ext ρ1 H1 ρ2 H' ∧ Rel ρ2 st2 H' ∧ RE ρ2 H' env2 σ' ∧ FinS X.mg W ρ2 H' (forM it.chk g mb (it.items.drop i) env2 st2) D,
        ⟨it.items.length, Nat.zero_add _, ρ1, st1, env, .refl _ _, rel1, re.mono x1, h1⟩, ?_⟩
      rintro i m σ' H' ⟨em, ρ2, st2, env2, x2, rel2, re2, h2⟩
      have eK : ρ2.K = X.K := x2.K.trans (x1.K.trans hK)
      cases hd : it.items.drop i with
      | nil =>
        rw [hd] at h2
        unfold forM at h2
        split at h2
        · rename_i hchk
          have hl : it.items.length ≤ i := List.drop_eq_nil_iff.mp hd
          have ei : i = it.items.length := by omega
          refine .inl ⟨by rw [ei]; exact (hJ ρ2 H' st2 x2.grow x2.K rel2 hchk).2, h2 ρ2 H' σ' (.refl _ _) rel2 re2⟩
        · exact h2.elim
      | cons t ts =>
        rw [hd] at h2
        unfold forM at h2
        split at h2
        · rename_i hchk
          have hit : it.items[i]? = some t := by
            rw [← List.head?_drop, hd]; rfl
          have hts : it.items.drop (i + 1) = ts := by rw [← List.tail_drop, hd]; rfl
          have hlt : i < it.items.length := (List.getElem?_eq_some_iff.mp hit).1
          obtain ⟨go, yl⟩ := (hJ ρ2 H' st2 x2.grow x2.K rel2 hchk).1 i t hit
          refine .inr ⟨go, fun σ3 H3 => ∃ ρ3 st3 env3, Ext ρ1 H1 ρ3 H3 ∧ Rel ρ3 st3 H3 ∧ RE ρ3 H3 env3 σ3 ∧ FinS X.mg W ρ3 H3 (forM it.chk g mb ts env3 st3) D, ?_, fun x H3 y => ?_⟩
          · rintro σ3 H3 ⟨ρ3, st3, env3, x3, rel3, re3, h3⟩
            exact ⟨m - 1, by omega, by omega, ρ3, st3, env3, x3, rel3, re3, by rw [hts]; exact h3⟩
          · obtain ⟨x3, rel3, rv⟩ := yl x H3 y
            refine ⟨ρ2, st2, env2, t, eK, rel3, re2.mono x3, rv, ?_⟩
            split at h2
            · rename_i e1 s1 hg1
              rw [hg1]
              intro ρ4 H4 σ4 x4 rel4 re4
              refine ⟨ρ4, s1, e1, x4.K.trans eK, rel4, re4, ?_⟩
              have x24 := x3.trans x4
              cases hb1 : mb e1 s1 with
              | nx e2 s2 =>
                rw [hb1] at h2
                exact fun ρ5 H5 σ5 x5 rel5 re5 => ⟨ρ5, s2, e2, x2.trans (x24.trans x5), rel5, re5, FinS.rebase (x24.trans x5) h2⟩
              | ct e2 s2 =>
                rw [hb1] at h2
                exact fun ρ5 H5 σ5 x5 rel5 re5 => ⟨ρ5, s2, e2, x2.trans (x24.trans x5), rel5, re5, FinS.rebase (x24.trans x5) h2⟩
              | bk e2 s2 =>
                rw [hb1] at h2
                exact fun ρ5 H5 σ5 x5 rel5 re5 => h2 ρ5 H5 σ5 (x24.trans x5) rel5 re5
              | rt v s2 =>
                rw [hb1] at h2
                exact fun ρ5 H5 w x5 rel5 rw => h2 ρ5 H5 w (x24.trans x5) rel5 rw
              | exc xx e2 s2 =>
                rw [hb1] at h2
                exact fun ρ5 H5 σ5 cc d x5 rel5 re5 rx => h2 ρ5 H5 σ5 cc d (x24.trans x5) rel5 re5 rx
              | stuck => rw [hb1] at h2; exact h2.elim
            · exact h2.elim
        · exact h2.elim⟩
theorem js_while (N : Nat) (hp : PassesOwn (model X.prog X.w) X.A X.env X.xe) (hc : JT X W c mt) (hb : JB X W body mb) : JS X W (.While c body [] pos) (whileM mt mb N) :=
  ps_imp (ps_while hp hc hb) fun D σ H ⟨ρ, st, env, hK, rel, re, h⟩ => by
    refine ⟨fun m σ' H' => ∃ ρ2 st2 env2, ρ2.K = X.K ∧ Ext ρ H ρ2 H' ∧ Rel ρ2 st2 H' ∧ RE ρ2 H' env2 σ' ∧ FinS X.mg W ρ2 H' (whileM mt mb m env2 st2) D, ⟨N, ρ, st, env, hK, .refl _ _, rel, re, h⟩, ?_⟩
    rintro m σ' H' ⟨ρ2, st2, env2, eK, x2, rel2, re2, h2⟩
    cases m with
    | zero => exact h2.elim
    | succ m =>
      unfold whileM at h2
      refine ⟨ρ2, st2, env2, eK, rel2, re2, (FinS.of re2 h2).imp fun ρ3 H3 b ⟨st3, x3, rel3, h3⟩ => ?_⟩
      cases b with
      | false => exact iteF (h3 ρ3 H3 σ' (.refl _ _) rel3 (re2.mono x3))
      | true =>
        refine iteT ⟨fun σ5 H5 => ∃ ρ5 st5 env5, ρ5.K = X.K ∧ Ext ρ H ρ5 H5 ∧ Rel ρ5 st5 H5 ∧ RE ρ5 H5 env5 σ5 ∧ FinS X.mg W ρ5 H5 (whileM mt mb m env5 st5) D, fun σ5 H5 q => ⟨m, Nat.lt_succ_self _, q⟩, ρ3, st3, env2, x3.K.trans eK, rel3, re2.mono x3, ?_⟩
        rw [if_pos rfl] at h3
        cases hb1 : mb env2 st3 with
        | nx e2 s2 =>
          rw [hb1] at h3
          exact fun ρ5 H5 σ5 x5 rel5 re5 => ⟨ρ5, s2, e2, x5.K.trans (x3.K.trans eK), x2.trans (x3.trans x5), rel5, re5, FinS.rebase x5 h3⟩
        | ct e2 s2 =>
          rw [hb1] at h3
          exact fun ρ5 H5 σ5 x5 rel5 re5 => ⟨ρ5, s2, e2, x5.K.trans (x3.K.trans eK), x2.trans (x3.trans x5), rel5, re5, FinS.rebase x5 h3⟩
        | bk e2 s2 => rw [hb1] at h3; exact h3
        | rt v s2 => rw [hb1] at h3; exact h3
        | exc xx e2 s2 => rw [hb1] at h3; exact h3
        | stuck => rw [hb1] at h3; exact h3.elim
end
end Mir
namespace Mir
variable [Tabl]
open PySem PySem.Spec PyProof.Rows L2
inductive GT where
  | name (i : Nat) | tup (is : List Nat) | nest (is js : List Nat)
def setAll : List Nat → List T → Env → Env
  | i :: is, t :: ts, env => setAll is ts (env.set i (some t))
  | _, _, env => env
def bindG : GT → T → Env → Option Env
  | .name i, t, env => some (env.set i (some t))
  | .tup is, t, env => match t with
    | .tup ts => if ts.length = is.length then some (setAll is ts env) else none
    | _ => none
  | .nest is js, t, env => match t with
    | .tup (.tup us :: ts) => if us.length = is.length ∧ ts.length = js.length then some (setAll js ts (setAll is us env)) else none
    | _ => none
def gNs : List Nat → TGs
  | [] => gNil
  | i :: is => gCons (gName i) (gNs is)
def gOf (K : PySem.W.Frag) : GT → TG
  | .name i => gName i
  | .tup is => gTup K is.length (gNs is)
  | .nest is js => gTup K (js.length + 1) (gCons (gTup K is.length (gNs is)) (gNs js))
def gSlots : GT → List Nat
  | .name i => [i]
  | .tup is => is
  | .nest is js => is ++ js
def wipeE (env : Env) : List Nat → Env
  | [] => env
  | v :: vs => (wipeE env vs).set v none
theorem RE.grow {ρ ρ' : Ro} {H H' : Hp} {env : Env} {σ : L2.St} (r : RE ρ H env σ) (e : Grow ρ H ρ' H') : RE ρ' H' env σ :=
  ⟨r.1, fun i t h => let ⟨v, a, b⟩ := r.2 i t h; ⟨v, a, b.grow e⟩⟩
theorem RE.wipe {ρ : Ro} {H : Hp} {env : Env} {σ : L2.St} (r : RE ρ H env σ) : ∀ vs, RE ρ H (wipeE env vs) (wipe σ vs)
  | [] => r
  | v :: vs => (RE.wipe r vs).unset v
theorem wipe_set (σ : L2.St) (i : Nat) (x : Option V) : ∀ vs : List Nat, wipe (σ.set i x) vs = if i ∈ vs then wipe σ vs else (wipe σ vs).set i x
  | [] => by simp [wipe]
  | v :: vs => by
    unfold wipe
    rw [wipe_set σ i x vs]
    by_cases hv : v = i
    · subst hv
      simp only [List.mem_cons_self, if_true]
      split
      · rfl
      · rw [List.set_set]
    · have hi : (i ∈ v :: vs) ↔ i ∈ vs := by simp [Ne.symm hv]
      by_cases hm : i ∈ vs
      · rw [if_pos hm, if_pos (hi.mpr hm)]
      · rw [if_neg hm, if_neg (fun z => hm (hi.mp z)), List.set_comm _ _ (Ne.symm hv)]
theorem wipe_in {σ : L2.St} {i : Nat} {x : Option V} {vs : List Nat} (h : i ∈ vs) : wipe (σ.set i x) vs = wipe σ vs := by rw [wipe_set, if_pos h]
theorem gNs_run {ρ : Ro} {H : Hp} {vs : List Nat} {Q : L2.St → Hp → Prop} : ∀ {is : List Nat} {ts : List T} {xs : List V} {env : Env} {σ : L2.St}, RVs ρ H ts xs → ts.length = is.length → (∀ i ∈ is, i ∈ vs) → RE ρ H env σ →
    (∀ σ', RE ρ H (setAll is ts env) σ' → wipe σ' vs = wipe σ vs → Q σ' H) → gNs is xs σ H Q
  | [], [], _, _, _, h, _, _, re, q => ⟨h, q _ re rfl⟩
  | i :: is, t :: ts, _, env, σ, h, hl, hs, re, q => by
    obtain ⟨x, r, rfl, h1, h2⟩ := h
    refine ⟨x, r, rfl, gNs_run (is := is) h2 (by simpa using hl) (fun j hj => hs j (List.mem_cons_of_mem _ hj)) (re.set i h1) fun σ' re' w => q σ' re' ?_⟩
    rw [w, wipe_in (hs i List.mem_cons_self)]
  | [], _ :: _, _, _, _, _, hl, _, _, _ => by simp at hl
  | _ :: _, [], _, _, _, _, hl, _, _, _ => by simp at hl
theorem g_run {ρ : Ro} {H : Hp} {vs : List Nat} {Q : L2.St → Hp → Prop} {g : GT} {t : T} {x : V} {env env' : Env} {σ : L2.St} (h : RV ρ H t x) (e : bindG g t env = some env') (hs : ∀ i ∈ gSlots g, i ∈ vs) (re : RE ρ H env σ)
    (q : ∀ σ', RE ρ H env' σ' → wipe σ' vs = wipe σ vs → Q σ' H) : gOf ρ.K g x σ H Q := by
  cases g with
  | name i =>
    cases e
    exact q _ (re.set i h) (wipe_in (hs i (by simp [gSlots])))
  | tup is =>
    cases t with
    | tup ts =>
      have e : (if ts.length = is.length then some (setAll is ts env) else none) = some env' := e
      split at e
      · rename_i hl
        cases e
        obtain ⟨a, xs, rfl, g1, g2⟩ := h
        exact ⟨a, xs, rfl, g1.seq, by rw [g2.length]; exact hl, gNs_run g2 hl hs re q⟩
      · cases e
    | _ => cases e
  | nest is js =>
    cases t with
    | tup tts =>
      cases tts with
      | nil => cases e
      | cons t1 ts =>
        cases t1 with
        | tup us =>
          have e : (if us.length = is.length ∧ ts.length = js.length then some (setAll js ts (setAll is us env)) else none) = some env' := e
          split at e
          · rename_i hl
            cases e
            obtain ⟨a, xs, rfl, g1, g2⟩ := h
            obtain ⟨y, r, rfl, g3, g4⟩ := g2
            obtain ⟨b, ys, rfl, g5, g6⟩ := g3
            refine ⟨a, _, rfl, g1.seq, by rw [List.length_cons, g4.length, hl.2], .ref b, r, rfl, b, ys, rfl, g5.seq, by rw [g6.length]; exact hl.1, ?_⟩
            refine gNs_run g6 hl.1 (fun i hi => hs i (List.mem_append_left _ hi)) re fun σ1 re1 w1 => ?_
            refine gNs_run g4 hl.2 (fun i hi => hs i (List.mem_append_right _ hi)) re1 fun σ2 re2 w2 => ?_
            exact q σ2 re2 (w2.trans w1)
          · cases e
        | _ => cases e
    | _ => cases e
def R.noexc {α : Type} : R α → R α
  | .ok a st => .ok a st
  | _ => .stuck
open Classical in
noncomputable def compM (chk : Store → Prop) (g : GT) (t : MT) (envw : Env) (k : Env → List T → M (List T)) : List T → List T → M (List T)
  | [], acc, st => if chk st then .ok acc st else .stuck
  | x :: xs, acc, st => if chk st then match bindG g x envw with
      | some env1 => (t env1 st).noexc.bind fun b st1 => if b then (k env1 acc st1).bind fun acc' st2 => compM chk g t envw k xs acc' st2 else compM chk g t envw k xs acc st1
      | none => .stuck
    else .stuck
def compK1 (e : ME) : Env → List T → M (List T) := fun env acc st => (e env st).noexc.bind fun y st2 => if acc.length < sizeLine then .ok (acc ++ [y]) st2 else .stuck
noncomputable def compK2 (mi : MI) (g : GT) (t : MT) (vs : List Nat) (e : ME) : Env → List T → M (List T) := fun env acc st => (mi env st).noexc.bind fun it st1 => compM it.chk g t (wipeE env vs) (compK1 e) it.items acc st1
noncomputable def eComp (al : Bool) (mi : MI) (g : GT) (t : MT) (vs : List Nat) (k : Env → List T → M (List T)) : ME := fun env st =>
  (mi env st).bind fun it st1 => (compM it.chk g t (wipeE env vs) k it.items [] st1).noexc.bind fun acc st2 => mkL al acc st2
abbrev NExt (D : Addr) (ρ : Ro) (H : Hp) (ρ' : Ro) (H' : Hp) : Prop := Ext ρ (upd H D (.lst [])) ρ' (upd H' D (.lst []))
structure CS (K : PySem.W.Frag) (D : Addr) (ρ : Ro) (st : Store) (H : Hp) (acc : List T) : Prop where
  K : ρ.K = K
  d : D ∈ ρ.d
  l : ∃ xs, H D = some (.lst xs) ∧ RVs ρ H acc xs
  rel : Rel ρ st H
section
variable {K : PySem.W.Frag} {D : Addr} {ρ ρ' : Ro} {st st' : Store} {H H' : Hp} {acc acc' : List T}
theorem CS.step (c : CS K D ρ st H acc) (e : Ext ρ H ρ' H') (rel : Rel ρ' st' H') : CS K D ρ' st' H' acc := by
  obtain ⟨xs, h1, h2⟩ := c.l
  exact ⟨e.K.trans c.K, e.dsub _ c.d, ⟨xs, e.keep _ _ h1 (c.rel.priv _ c.d).1 (fun _ z => nomatch z), h2.mono e⟩, rel⟩
theorem CS.norm (c : CS K D ρ st H acc) (e : Ext ρ H ρ' H') : NExt D ρ H ρ' H' := by
  obtain ⟨xs, h1, h2⟩ := c.l
  exact e.norm h1
theorem CS.grow (c : CS K D ρ st H acc) (c' : CS K D ρ' st' H' acc') (e : NExt D ρ H ρ' H') : Grow ρ H ρ' H' := by
  obtain ⟨xs, h1, h2⟩ := c.l
  obtain ⟨ys, h3, h4⟩ := c'.l
  have a : Grow ρ H ρ (upd H D (.lst [])) := Grow.poke c.d h1
  have b : Grow ρ' (upd H' D (.lst [])) ρ' (upd (upd H' D (.lst [])) D (.lst ys)) := Grow.poke c'.d upd_same
  have e3 : upd (upd H' D (.lst [])) D (.lst ys) = H' := by
    rw [upd_upd]
    funext q
    by_cases hq : q = D
    · subst hq; rw [upd_same, h3]
    · rw [upd_ne hq]
  rw [e3] at b
  exact a.trans (e.grow.trans b)
end
def FinC (K : PySem.W.Frag) (D : Addr) (ρ : Ro) (H : Hp) (r : R (List T)) (Nx : Hp → Prop) : Prop :=
  match r with
  | .ok acc st => ∀ ρ' H', NExt D ρ H ρ' H' → CS K D ρ' st H' acc → Nx H'
  | _ => False
theorem FinC.rebase {K : PySem.W.Frag} {D : Addr} {ρ ρ1 : Ro} {H H1 : Hp} {r : R (List T)} {Nx : Hp → Prop} (e : NExt D ρ H ρ1 H1) (h : FinC K D ρ H r Nx) : FinC K D ρ1 H1 r Nx := by
  cases r with
  | ok acc st => exact fun ρ' H' e' c => h ρ' H' (Ext.trans e e') c
  | exc x st => exact h
  | stuck => exact h
theorem comp_loop {K : PySem.W.Frag} {mg : Str → Option Value} {D : Addr} {J : It} {it : Iter} {g : GT} {t : MT} {k : Env → List T → M (List T)} {envw : Env} {σ : L2.St} {vs : List Nat} {BODY : L2.St → Hp → (Hp → Prop) → Prop} {QQ : Hp → Prop}
    {ρ0 : Ro} {H0 : Hp} (hJ : Goes ρ0 H0 it J) (hslots : ∀ i ∈ gSlots g, i ∈ vs)
    (hbody : ∀ ρ st H acc env1 σ2 Nx, CS K D ρ st H acc → RE ρ H env1 σ2 → FinC K D ρ H (k env1 acc st) Nx → BODY σ2 H Nx)
    {ρ1 : Ro} {st1 : Store} {H1 : Hp} {acc1 : List T} (c1 : CS K D ρ1 st1 H1 acc1) (g1 : Grow ρ0 H0 ρ1 H1) (gK : ρ1.K = ρ0.K) (re1 : RE ρ1 H1 envw (wipe σ vs)) (h1 : FinC K D ρ1 H1 (compM it.chk g t envw k it.items acc1 st1) QQ) :
    ∃ W : Nat → Nat → Hp → Prop, (∃ m, W 0 m H1) ∧ ∀ i m H, W i m H →
      (J.stop i H ∧ QQ H) ∨ (J.go i H ∧ ∃ Nx : Hp → Prop, (∀ H', Nx H' → ∃ m', m' < m ∧ W (i + 1) m' H') ∧ ∀ x H', J.yld i H x H' → gOf K g x (wipe σ vs) H' fun σ2 H2 => wipe σ2 vs = wipe σ vs ∧ tT K mg WF t σ2 H2 fun b H3 =>
        if b = true then BODY σ2 H3 Nx else Nx H3) := by
  refine ⟨fun i m H => i + m = it.items.length ∧ ∃ ρ st acc, CS K D ρ st H acc ∧ Grow ρ0 H0 ρ H ∧ ρ.K = ρ0.K ∧ RE ρ H envw (wipe σ vs) ∧ FinC K D ρ H (compM it.chk g t envw k (it.items.drop i) acc st) QQ,
    ⟨it.items.length, Nat.zero_add _, ρ1, st1, acc1, c1, g1, gK, re1, h1⟩, ?_⟩
  rintro i m H ⟨em, ρ, st, acc, c, gr, eK, re, h⟩
  cases hd : it.items.drop i with
  | nil =>
    rw [hd] at h
    unfold compM at h
    split at h
    · rename_i hchk
      have hl : it.items.length ≤ i := List.drop_eq_nil_iff.mp hd
      have ei : i = it.items.length := by omega
      exact .inl ⟨by rw [ei]; exact (hJ ρ H st gr eK c.rel hchk).2, h ρ H (Ext.refl _ _) c⟩
    · exact h.elim
  | cons tt ts =>
    rw [hd] at h
    unfold compM at h
    split at h
    · rename_i hchk
      have hit : it.items[i]? = some tt := by
        rw [← List.head?_drop, hd]; rfl
      have hts : it.items.drop (i + 1) = ts := by rw [← List.tail_drop, hd]; rfl
      have hlt : i < it.items.length := (List.getElem?_eq_some_iff.mp hit).1
      obtain ⟨go, yl⟩ := (hJ ρ H st gr eK c.rel hchk).1 i tt hit
      refine .inr ⟨go, fun H3 => ∃ ρ3 st3 acc3, CS K D ρ3 st3 H3 acc3 ∧ Grow ρ0 H0 ρ3 H3 ∧ ρ3.K = ρ0.K ∧ RE ρ3 H3 envw (wipe σ vs) ∧ FinC K D ρ3 H3 (compM it.chk g t envw k ts acc3 st3) QQ, ?_, fun x H' y => ?_⟩
      · rintro H3 ⟨ρ3, st3, acc3, c3, gr3, eK3, re3, h3⟩
        exact ⟨m - 1, by omega, by omega, ρ3, st3, acc3, c3, gr3, eK3, re3, by rw [hts]; exact h3⟩
      · obtain ⟨x2, rel2, rv⟩ := yl x H' y
        have c2 := c.step x2 rel2
        split at h
        · rename_i env1 hb
          have step : ∀ {ρ3 : Ro} {H3 : Hp} {st3 : Store} {acc3 : List T}, NExt D ρ H ρ3 H3 → CS K D ρ3 st3 H3 acc3 → FinC K D ρ H (compM it.chk g t envw k ts acc3 st3) QQ →
              ∃ ρ3 st3 acc3, CS K D ρ3 st3 H3 acc3 ∧ Grow ρ0 H0 ρ3 H3 ∧ ρ3.K = ρ0.K ∧ RE ρ3 H3 envw (wipe σ vs) ∧ FinC K D ρ3 H3 (compM it.chk g t envw k ts acc3 st3) QQ := fun {ρ3 H3 st3 acc3} e3 c3 h3 => by
            have gg := c.grow c3 e3
            exact ⟨ρ3, st3, acc3, c3, gr.trans gg, c3.K.trans (c.K.symm.trans eK), re.grow gg, h3.rebase e3⟩
          have q := g_run (vs := vs) (Q := fun σ2 H2 => wipe σ2 vs = wipe σ vs ∧ tT K mg WF t σ2 H2 fun b H3 => if b = true then BODY σ2 H3 (fun H3 => ∃ ρ3 st3 acc3, CS K D ρ3 st3 H3 acc3 ∧ Grow ρ0 H0 ρ3 H3 ∧ ρ3.K = ρ0.K ∧ RE ρ3 H3 envw (wipe σ vs) ∧ FinC K D ρ3 H3 (compM it.chk g t envw k ts acc3 st3) QQ) else (∃ ρ3 st3 acc3, CS K D ρ3 st3 H3 acc3 ∧ Grow ρ0 H0 ρ3 H3 ∧ ρ3.K = ρ0.K ∧ RE ρ3 H3 envw (wipe σ vs) ∧ FinC K D ρ3 H3 (compM it.chk g t envw k ts acc3 st3) QQ)) rv hb hslots (re.mono x2) fun σ2 re2 wp => ?_
          · rw [c.K] at q
            exact q
          refine ⟨by rw [wp]; exact wipe_idem σ vs, ρ, st, env1, c.K, rel2, re2, ?_⟩
          cases ht : t env1 st with
          | exc xx s => rw [ht] at h; exact h.elim
          | stuck => rw [ht] at h; exact h.elim
          | ok b s1 =>
            rw [ht] at h
            intro ρ3 H3 x3 rel3
            have c3 := c2.step x3 rel3
            have e3 : NExt D ρ H ρ3 H3 := Ext.trans (c.norm x2) (c2.norm x3)
            cases b with
            | false => exact iteF (step e3 c3 h)
            | true =>
              refine iteT (hbody ρ3 s1 H3 acc env1 σ2 _ c3 (re2.mono x3) ?_)
              have h : FinC K D ρ H ((k env1 acc s1).bind fun acc' st2 => compM it.chk g t envw k ts acc' st2) QQ := h
              cases hk : k env1 acc s1 with
              | exc xx s => rw [hk] at h; exact h.elim
              | stuck => rw [hk] at h; exact h.elim
              | ok acc' s2 =>
                rw [hk] at h
                exact fun ρ4 H4 e4 c4 => step (Ext.trans e3 e4) c4 h
        · exact h.elim
    · exact h.elim
where
  wipe_idem (σ : L2.St) (vs : List Nat) : wipe (wipe σ vs) vs = wipe σ vs := by
    have key : ∀ us : List Nat, (∀ i ∈ us, i ∈ vs) → wipe (wipe σ us) vs = wipe σ vs := by
      intro us
      induction us with
      | nil => intro _; rfl
      | cons u us ih =>
        intro h
        show wipe ((wipe σ us).set u none) vs = _
        rw [wipe_in (h u List.mem_cons_self)]
        exact ih fun i hi => h i (List.mem_cons_of_mem _ hi)
    exact key vs fun _ h => h
theorem body1 {K : PySem.W.Frag} {mg : Str → Option Value} {D : Addr} {e : ME} (ρ : Ro) (st : Store) (H : Hp) (acc : List T) (env1 : Env) (σ2 : L2.St) (Nx : Hp → Prop) (c : CS K D ρ st H acc) (re : RE ρ H env1 σ2) (h : FinC K D ρ H (compK1 e env1 acc st) Nx) :
    tE K mg WF e σ2 H fun y H4 => ∃ acc, H4 D = some (.lst acc) ∧ acc.length < sizeLine ∧ Nx (upd H4 D (.lst (acc ++ [y]))) := by
  refine ⟨ρ, st, env1, c.K, c.rel, re, ?_⟩
  unfold compK1 at h
  cases he : e env1 st with
  | exc xx s => rw [he] at h; exact h.elim
  | stuck => rw [he] at h; exact h.elim
  | ok y s1 =>
    rw [he] at h
    have h : FinC K D ρ H (if acc.length < sizeLine then .ok (acc ++ [y]) s1 else .stuck) Nx := h
    split at h
    · rename_i hl
      intro ρ4 H4 x4 rel4 v rv
      have c4 := c.step x4 rel4
      obtain ⟨xs, h1, h2⟩ := c4.l
      have gp : Grow ρ4 H4 ρ4 (upd H4 D (.lst (xs ++ [v]))) := Grow.poke c4.d h1
      refine ⟨xs, h1, by rw [h2.length]; exact hl, h ρ4 _ ?_ ⟨c4.K, c4.d, ⟨xs ++ [v], upd_same, RVs.grow gp (h2.append ⟨v, [], rfl, rv, rfl⟩)⟩, rel4.poke c4.d h1⟩⟩
      show Ext ρ (upd H D (.lst [])) ρ4 (upd (upd H4 D (.lst (xs ++ [v]))) D (.lst []))
      rw [upd_upd]
      exact c.norm x4
    · exact h.elim
section
variable {X : Cx} {W : WX} {pos : Pos}
theorem comp_run {mi : MI} {g : GT} {t : MT} {k : Env → List T → M (List T)} {al : Bool} {vs : List Nat} {σ : L2.St} {H : Hp} {Q : VK} {BODY : L2.St → Hp → Addr → (Hp → Prop) → Prop} (hslots : ∀ i ∈ gSlots g, i ∈ vs)
    (hbody : ∀ D ρ st H acc env1 σ2 Nx, CS X.K D ρ st H acc → RE ρ H env1 σ2 → FinC X.K D ρ H (k env1 acc st) Nx → BODY σ2 H D Nx)
    (h : tE X.K X.mg W (eComp al mi g t vs k) σ H Q) : tI X.K X.mg W mi σ H fun J H1 => ∀ D, H1 D = none → ∃ W : Nat → Nat → Hp → Prop, (∃ m, W 0 m (upd H1 D (.lst []))) ∧ ∀ i m H, W i m H →
      (J.stop i H ∧ Q (.ref D) H) ∨ (J.go i H ∧ ∃ Nx : Hp → Prop, (∀ H', Nx H' → ∃ m', m' < m ∧ W (i + 1) m' H') ∧ ∀ x H', J.yld i H x H' → gOf X.K g x (wipe σ vs) H' fun σ2 H2 => wipe σ2 vs = wipe σ vs ∧ tT X.K X.mg WF t σ2 H2 fun b H3 =>
        if b = true then BODY σ2 H3 D Nx else Nx H3) := by
  obtain ⟨ρ, st, env, hK, rel, re, h⟩ := h
  refine ⟨ρ, st, env, hK, rel, re, h.bind.imp fun ρ1 H1 it ⟨st1, x1, rel1, h1⟩ J hJ D hD => ?_⟩
  have xh : Ext ρ1 H1 (ρ1.hide D) (upd H1 D (.lst [])) := Ext.hide hD
  have c1 : CS X.K D (ρ1.hide D) st1 (upd H1 D (.lst [])) [] := ⟨x1.K.trans hK, List.mem_cons_self, ⟨[], upd_same, rfl⟩, rel1.hide hD fun _ z => nomatch z⟩
  refine comp_loop hJ hslots (hbody D) c1 xh.grow rfl ((re.wipe vs).mono (x1.trans xh)) ?_
  have h1 : Fin X.mg W ρ1 H1 σ ((compM it.chk g t (wipeE env vs) k it.items [] st1).noexc.bind fun acc st2 => mkL al acc st2) (KQ Q) := h1
  cases hc : compM it.chk g t (wipeE env vs) k it.items [] st1 with
  | exc xx s => rw [hc] at h1; exact h1.elim
  | stuck => rw [hc] at h1; exact h1.elim
  | ok acc s2 =>
    rw [hc] at h1
    intro ρ3 H3 e3 c3
    have e0 : Ext ρ1 H1 ρ3 H3 := Ext.unhide (l0 := []) hD (by
      have e3 : Ext (ρ1.hide D) (upd (upd H1 D (.lst [])) D (.lst [])) ρ3 (upd H3 D (.lst [])) := e3
      rw [upd_upd] at e3
      exact e3)
    obtain ⟨xs, hx1, hx2⟩ := c3.l
    have hnd : D ∉ ρ1.d := fun z => by
      obtain ⟨_, o, e, _⟩ := rel1.priv D z
      rw [hD] at e; cases e
    cases al with
    | false =>
      refine h1 (ρ3.bare D) H3 (e0.bare hnd) c3.rel.bare _ ⟨D, xs, rfl, hx1, ⟨(c3.rel.priv D c3.d).1, fun z => (mem_bare.mp z).2 rfl⟩, RVs.grow Grow.bare hx2⟩
    | true =>
      have ee : Ext ρ1 H1 ((ρ3.bare D).add D) H3 := (e0.bare hnd).add hD
      have G : Grow ρ3 H3 ((ρ3.bare D).add D) H3 := by
        have aux : ∀ b, b ∉ ρ3.s → b ∉ ρ3.d → b ∉ ρ3.s ++ [D] := fun b n n' z => by
          rcases List.mem_append.mp z with z | z
          · exact n z
          · have hb : b = D := by simpa using z
            exact n' (by rw [hb]; exact c3.d)
        refine ⟨fun n a h => ?_, fun b xs h => h.imp_right fun h => h.imp_left fun h => ⟨⟨aux b h.1.1 h.1.2, fun z => h.1.2 (mem_bare.mp z).1⟩, h.2⟩, fun b xs _ h n n' => ⟨h, fun z => ?_, fun z => n' (mem_bare.mp z).1⟩, fun b xs h => h.elim (fun h => .inl ⟨⟨fun z => ?_, fun z => h.1.2 (mem_bare.mp z).1⟩, h.2⟩) .inr, rfl⟩
        · show (ρ3.s ++ [D])[n]? = _
          rw [List.getElem?_append_left (List.getElem?_eq_some_iff.mp h).1]; exact h
        · rcases List.mem_append.mp (show b ∈ ρ3.s ++ [D] from z) with z | z
          · exact n z
          · have hb : b = D := by simpa using z
            exact n' (by rw [hb]; exact c3.d)
        · rcases List.mem_append.mp (show b ∈ ρ3.s ++ [D] from z) with z | z
          · exact h.1.1 z
          · have hb : b = D := by simpa using z
            exact h.1.2 (by rw [hb]; exact c3.d)
      refine h1 _ H3 ee (c3.rel.adopt c3.d ⟨xs, hx1, RVs.grow G hx2⟩) _ ⟨D, rfl, ?_⟩
      show (ρ3.s ++ [D])[s2.length]? = _
      rw [← c3.rel.len]; simp
def tYesM : MT := fun _ st => .ok true st
theorem jts_nil : PTs X [] (tT X.K X.mg W tYesM) := ⟨fun pins s σ H Q I h => pts_nil.run pins s σ H Q I (by
  obtain ⟨ρ, st, env, hK, rel, re, h⟩ := h
  exact h.val (P := KB Q) rel)⟩
theorem jts_one {c : Expr} {t : MT} (h : JT X W c t) : PTs X [c] (tT X.K X.mg W t) := pts_one h
variable {elt tg iter tg1 iter1 : Expr} {ifs ifs1 : List Expr} {scope : Scope} {own : List (Str × Nat)} {mi mi1 : MI} {g g1 : GT} {t t1 : MT} {me : ME} {vs vs1 : List Nat}
theorem lc_run {al : Bool} (hslots : ∀ i ∈ gSlots g, i ∈ vs) (σ : L2.St) (H : Hp) (Q : VK) (h : tE X.K X.mg W (eComp al mi g t vs (compK1 me)) σ H Q) :
    tLc (tI X.K X.mg W mi) (gOf X.K g) (tT X.K X.mg WF t) (tE X.K X.mg WF me) vs σ H Q :=
  comp_run (BODY := fun σ2 H3 D Nx => tE X.K X.mg WF me σ2 H3 fun y H4 => ∃ acc, H4 D = some (.lst acc) ∧ acc.length < sizeLine ∧ Nx (upd H4 D (.lst (acc ++ [y])))) hslots (fun D ρ st H acc env1 σ2 Nx c re q => body1 ρ st H acc env1 σ2 Nx c re q) h
theorem j_lc (al : Bool) (hc : X.calm = true) (hN : X.N.Nodup) (hi : JI X W tg iter mi) (ok : BlkOk X.N X.env.scope scope own)
    (hg : ∀ (s : Shared) (H : Hp) (C : Addr) (cl : List (Str × Addr)) (fp : List Addr), PG (X.blk s H scope (compEnvC scope cl C X.env) fp) tg (gOf X.K g))
    (ht : ∀ (s : Shared) (H : Hp) (C : Addr) (cl : List (Str × Addr)) (fp : List Addr), PTs (X.blk s H scope (compEnvC scope cl C X.env) fp) ifs (tT X.K X.mg WF t))
    (he : ∀ (s : Shared) (H : Hp) (C : Addr) (cl : List (Str × Addr)) (fp : List Addr), JE (X.blk s H scope (compEnvC scope cl C X.env) fp) WF elt me)
    (hvs : own.map (·.2) = vs := by rfl) (hsl : ∀ i ∈ gSlots g, i ∈ vs := by decide) (hs : ∀ x, foldedSetIterable iter X.env x = pure x := by intro _; rfl) :
    JE X W (.ListComp elt [⟨tg, iter, ifs, 0⟩] scope pos) (eComp al mi g t vs (compK1 me)) :=
  pe_imp (pe_lc (te := tE X.K X.mg WF me) hc hN hi ok hg ht he hs) fun σ H Q h => by
    rw [hvs]
    exact lc_run hsl σ H Q h
theorem js_setLc (al : Bool) {i : Nat} {y : Str} {py spos : Pos} (hc : X.calm = true) (hN : X.N.Nodup) (hi : JI X W tg iter mi) (ok : BlkOk X.N X.env.scope scope own)
    (hg : ∀ (s : Shared) (H : Hp) (C : Addr) (cl : List (Str × Addr)) (fp : List Addr), PG (X.blk s H scope (compEnvC scope cl C X.env) fp) tg (gOf X.K g))
    (ht : ∀ (s : Shared) (H : Hp) (C : Addr) (cl : List (Str × Addr)) (fp : List Addr), PTs (X.blk s H scope (compEnvC scope cl C X.env) fp) ifs (tT X.K X.mg WF t))
    (he : ∀ (s : Shared) (H : Hp) (C : Addr) (cl : List (Str × Addr)) (fp : List Addr), JE (X.blk s H scope (compEnvC scope cl C X.env) fp) WF elt me)
    (hsw : swapsWith (.ListComp elt [⟨tg, iter, ifs, 0⟩] scope pos) (some (.Name y py)) spos.line X.env = pure true)
    (hy : X.N[i]? = some y := by rfl) (hyl : X.env.scope.names.lookup y = some .local := by rfl)
    (hvs : own.map (·.2) = vs := by rfl) (hsl : ∀ i ∈ gSlots g, i ∈ vs := by decide) (hs : ∀ x, foldedSetIterable iter X.env x = pure x := by intro _; rfl) :
    JS X W (.Assign [.Name y py] (.ListComp elt [⟨tg, iter, ifs, 0⟩] scope pos) spos) (sSet i (eComp al mi g t vs (compK1 me))) :=
  ps_imp (ps_setLc (te := tE X.K X.mg WF me) hc hN hy hyl hsw hi ok hg ht he hs) fun D σ H h => by
    rw [hvs]
    exact lc_run hsl σ H _ (set_run h)
theorem lc2_run {al : Bool} (hslots : ∀ i ∈ gSlots g, i ∈ vs) (hslots1 : ∀ i ∈ gSlots g1, i ∈ vs1) (σ : L2.St) (H : Hp) (Q : VK) (h : tE X.K X.mg W (eComp al mi g t vs (compK2 mi1 g1 t1 vs1 me)) σ H Q) :
    tLc2 (tI X.K X.mg W mi) (gOf X.K g) (tT X.K X.mg WF t) (tI X.K X.mg WF mi1) (gOf X.K g1) (tT X.K X.mg WF t1) (tE X.K X.mg WF me) vs vs1 σ H Q := by
  refine comp_run (BODY := fun σ2 H3 D Nx => tI X.K X.mg WF mi1 σ2 H3 fun J1 H4 => ∃ W1 : Nat → Nat → Hp → Prop, (∃ m, W1 0 m H4) ∧ ∀ j k H, W1 j k H →
      (J1.stop j H ∧ Nx H) ∨ (J1.go j H ∧ ∃ Nx1 : Hp → Prop, (∀ H', Nx1 H' → ∃ k', k' < k ∧ W1 (j + 1) k' H') ∧ ∀ x H', J1.yld j H x H' → gOf X.K g1 x (wipe σ2 vs1) H' fun σ3 H5 => wipe σ3 vs1 = wipe σ2 vs1 ∧ tT X.K X.mg WF t1 σ3 H5 fun b H6 =>
        if b = true then tE X.K X.mg WF me σ3 H6 fun y H7 => ∃ acc, H7 D = some (.lst acc) ∧ acc.length < sizeLine ∧ Nx1 (upd H7 D (.lst (acc ++ [y]))) else Nx1 H6)) hslots (fun D ρ st H acc env1 σ2 Nx c re q => ?_) h
  refine ⟨ρ, st, env1, c.K, c.rel, re, ?_⟩
  unfold compK2 at q
  cases hm : mi1 env1 st with
  | exc xx s => rw [hm] at q; exact q.elim
  | stuck => rw [hm] at q; exact q.elim
  | ok it1 s1 =>
    rw [hm] at q
    intro ρ4 H4 x4 rel4 J1 hJ1
    have c4 := c.step x4 rel4
    have q : FinC X.K D ρ H (compM it1.chk g1 t1 (wipeE env1 vs1) (compK1 me) it1.items acc s1) Nx := q
    exact comp_loop (BODY := fun σ3 H6 Nx1 => tE X.K X.mg WF me σ3 H6 fun y H7 => ∃ acc, H7 D = some (.lst acc) ∧ acc.length < sizeLine ∧ Nx1 (upd H7 D (.lst (acc ++ [y])))) hJ1 hslots1
      (fun ρ st H acc env1 σ2 Nx c re q => body1 ρ st H acc env1 σ2 Nx c re q) c4 (Ext.refl _ _).grow rfl ((re.wipe vs1).mono x4) (q.rebase (c.norm x4))
theorem j_lc2 (al : Bool) (hc : X.calm = true) (hN : X.N.Nodup) (hi : JI X W tg iter mi) (ok : BlkOk X.N X.env.scope scope own)
    (hg : ∀ (s : Shared) (H : Hp) (C : Addr) (cl : List (Str × Addr)) (fp : List Addr), PG (X.blk s H scope (compEnvC scope cl C X.env) fp) tg (gOf X.K g))
    (ht : ∀ (s : Shared) (H : Hp) (C : Addr) (cl : List (Str × Addr)) (fp : List Addr), PTs (X.blk s H scope (compEnvC scope cl C X.env) fp) ifs (tT X.K X.mg WF t))
    (hi1 : ∀ (s : Shared) (H : Hp) (C : Addr) (cl : List (Str × Addr)) (fp : List Addr), JI (X.blk s H scope (compEnvC scope cl C X.env) fp) WF tg1 iter1 mi1)
    (hg1 : ∀ (s : Shared) (H : Hp) (C : Addr) (cl : List (Str × Addr)) (fp : List Addr), PG (X.blk s H scope (compEnvC scope cl C X.env) fp) tg1 (gOf X.K g1))
    (ht1 : ∀ (s : Shared) (H : Hp) (C : Addr) (cl : List (Str × Addr)) (fp : List Addr), PTs (X.blk s H scope (compEnvC scope cl C X.env) fp) ifs1 (tT X.K X.mg WF t1))
    (he : ∀ (s : Shared) (H : Hp) (C : Addr) (cl : List (Str × Addr)) (fp : List Addr), JE (X.blk s H scope (compEnvC scope cl C X.env) fp) WF elt me)
    (hvs : own.map (·.2) = vs := by rfl) (hsl : ∀ i ∈ gSlots g, i ∈ vs := by decide) (hsl1 : ∀ i ∈ gSlots g1, i ∈ vs1 := by decide) (hv : ∀ i ∈ vs1, i ∈ own.map (·.2) := by decide)
    (hs : ∀ x, foldedSetIterable iter X.env x = pure x := by intro _; rfl) (hs1 : ∀ env x, foldedSetIterable iter1 env x = pure x := by intro _ _; rfl) :
    JE X W (.ListComp elt [⟨tg, iter, ifs, 0⟩, ⟨tg1, iter1, ifs1, 0⟩] scope pos) (eComp al mi g t vs (compK2 mi1 g1 t1 vs1 me)) :=
  pe_imp (pe_lc2 (te := tE X.K X.mg WF me) hc hN hi ok hv hg ht hi1 hg1 ht1 he hs hs1) fun σ H Q h => by
    rw [hvs]
    exact lc2_run hsl hsl1 σ H Q h
end
end Mir
namespace Mir
variable [Tabl]
open PySem PySem.Spec PyProof.Rows L2
def kAppend (t : T) (ts : List T) : M T := fun st => match t, ts with
  | .ref n, [y] => match st[n]? with
    | some (.lst us) => if us.length < sizeLine then .ok .non (st.set n (.lst (us ++ [y]))) else .stuck
    | _ => .stuck
  | _, _ => .stuck
def kExtend (t : T) (ts : List T) : M T := fun st => match t, ts with
  | .ref n, [y] => match st[n]?, lstOf y st with
    | some (.lst us), some zs => if us.length + zs.length ≤ sizeLine then .ok .non (st.set n (.lst (us ++ zs))) else .stuck
    | _, _ => .stuck
  | _, _ => .stuck
def kPop (t : T) (ts : List T) : M T := fun st => match t, ts with
  | .ref n, [] => match st[n]? with
    | some (.lst us) => match us[us.length - 1]? with
      | some y => .ok y (st.set n (.lst us.dropLast))
      | none => .stuck
    | _ => .stuck
  | _, _ => .stuck
section
variable {K : PySem.W.Frag}
theorem k_append : OpM K rAppend kAppend := by
  intro mg W ρ st H σ t x ts xs Q hK rel hx hy h
  cases t with
  | ref n =>
    obtain ⟨a, rfl, g⟩ := hx
    cases ts with
    | nil => exact h.elim
    | cons y r =>
      cases r with
      | cons _ _ => exact h.elim
      | nil =>
        obtain ⟨v, rfl, rv⟩ := hy.one
        have h : Fin mg W ρ H σ (match st[n]? with
          | some (.lst us) => if us.length < sizeLine then R.ok .non (st.set n (.lst (us ++ [y]))) else .stuck
          | _ => .stuck) (KQ Q) := h
        split at h
        · rename_i us hs
          split at h
          · rename_i hl
            obtain ⟨b, g', zs, h1, h2⟩ := rel.addr hs
            rw [g] at g'; cases g'
            have e := rel.putExt (o := .lst (zs ++ [v])) g
            exact ⟨a, zs, v, rfl, rfl, h1, by rw [h2.length]; exact hl, h ρ _ e (rel.put g ⟨_, upd_same, RVs.mono e (h2.append ⟨v, [], rfl, rv, rfl⟩)⟩) _ rfl⟩
          · exact h.elim
        · exact h.elim
  | _ => exact h.elim
theorem k_extend : OpM K rExtend kExtend := by
  intro mg W ρ st H σ t x ts xs Q hK rel hx hy h
  cases t with
  | ref n =>
    obtain ⟨a, rfl, g⟩ := hx
    cases ts with
    | nil => exact h.elim
    | cons y r =>
      cases r with
      | cons _ _ => exact h.elim
      | nil =>
        obtain ⟨v, rfl, rv⟩ := hy.one
        have h : Fin mg W ρ H σ (match st[n]?, lstOf y st with
          | some (.lst us), some zs => if us.length + zs.length ≤ sizeLine then R.ok .non (st.set n (.lst (us ++ zs))) else .stuck
          | _, _ => .stuck) (KQ Q) := h
        split at h
        · rename_i us zs hs hz
          split at h
          · rename_i hl
            obtain ⟨b, g', ys, h1, h2⟩ := rel.addr hs
            rw [g] at g'; cases g'
            obtain ⟨c, ws, rfl, h3, h4⟩ := lst_get rel rv hz
            have e := rel.putExt (o := .lst (ys ++ ws)) g
            exact ⟨a, c, ys, ws, rfl, rfl, h1, h3, by rw [h2.length, h4.length]; exact hl, h ρ _ e (rel.put g ⟨_, upd_same, RVs.mono e (h2.append h4)⟩) _ rfl⟩
          · exact h.elim
        · exact h.elim
  | _ => exact h.elim
theorem k_pop : OpM K rPop kPop := by
  intro mg W ρ st H σ t x ts xs Q hK rel hx hy h
  cases t with
  | ref n =>
    obtain ⟨a, rfl, g⟩ := hx
    cases ts with
    | cons _ _ => exact h.elim
    | nil =>
      cases hy
      have h : Fin mg W ρ H σ (match st[n]? with
        | some (.lst us) => match us[us.length - 1]? with
          | some y => R.ok y (st.set n (.lst us.dropLast))
          | none => .stuck
        | _ => .stuck) (KQ Q) := h
      split at h
      · rename_i us hs
        split at h
        · rename_i y hu
          obtain ⟨b, g', zs, h1, h2⟩ := rel.addr hs
          rw [g] at g'; cases g'
          obtain ⟨v, hv, rv⟩ := h2.get hu
          have e := rel.putExt (o := .lst zs.dropLast) g
          exact ⟨a, zs, v, rfl, rfl, h1, by rw [h2.length]; exact hv, h ρ _ e (rel.put g ⟨_, upd_same, RVs.mono e h2.dropLast⟩) _ (rv.mono e)⟩
        · exact h.elim
      · exact h.elim
  | _ => exact h.elim
end
def isL (t : T) (st : Store) : Bool := (listOf t st).isSome
section
variable {X : Cx} {W : WX} {o e : Expr} {es : List Expr} {mo : ME} {mr : Env → M (List T)} {name : Str} {apos cpos : Pos} {id : String} {r : V → List V → Hp → VK → Prop} {k : T → List T → M T}
theorem isL_ty {ρ : Ro} {H : Hp} {st : Store} {t : T} {x : V} (rel : Rel ρ st H) (h : RV ρ H t x) (e : isL t st = true) : tyV ρ.K "list" x H := by
  unfold isL at e
  cases q : listOf t st with
  | none => rw [q] at e; cases e
  | some ts =>
    obtain ⟨a, xs, rfl, g, _⟩ := list_get rel h q
    exact .inl ⟨rfl, xs, g⟩
theorem run_m (hk : OpM X.K r k) (σ : L2.St) (H : Hp) (Q : VK) (h : tE X.K X.mg W (eM isL k mo mr) σ H Q) : tBM X.K "list" r (tE X.K X.mg W mo) (tA X.K X.mg W mr) σ H Q := by
  obtain ⟨ρ, st, env, hK, rel, re, h⟩ := h
  refine ⟨ρ, st, env, hK, rel, re, h.bind.imp fun ρ1 H1 t ⟨st1, x1, rel1, h1⟩ v rv => ?_⟩
  split at h1
  · rename_i hi
    have ty := isL_ty rel1 rv hi
    rw [x1.K, hK] at ty
    exact ⟨ty, ρ1, st1, env, x1.K.trans hK, rel1, re.mono x1, h1.bind.imp fun ρ2 H2 us ⟨st2, x2, rel2, h2⟩ vs rvs => hk _ _ ρ2 st2 H2 σ t v us vs Q (x2.K.trans (x1.K.trans hK)) rel2 (rv.mono x2) rvs h2⟩
  · exact h1.elim
theorem j_mL (pa : PlainAttrs "list") (slot : Slot "list" name id) (hty : typeOf (.builtin id) = pure (.type "method_descriptor")) (hm : MtR X id r) (hk : OpM X.K r k) (ho : JE X W o mo) (ha : JA X W (e :: es) mr)
    (hbase : attributeBase o name X.env (eval o X.env) = eval o X.env := by rfl)
    (hfew : ((backTo cpos (starEach (e :: es) X.env)).all (fun x => !x.1) && (backToKw cpos (keywordEach [] X.env)).all (fun x => x.1.isSome)
      && decide ((e :: es).length + ([] : List Keyword).length + (if ([] : List Keyword).isEmpty then 0 else 1) < 30)) = true := by rfl)
    (hline : (apos.endLine == cpos.line) = true := by rfl) (hs : starEach (e :: es) X.env = (false, eval e X.env) :: starEach es X.env := by rfl) (hplain : (backTo cpos (starEach es X.env)).any (·.1) = false := by rfl) :
    JE X W (.Call (.Attribute o name apos) (e :: es) [] cpos) (eM isL k mo mr) := pe_imp (pe_bm pa slot hty hm ho ha hbase hfew hline hs hplain) (run_m hk)
theorem j_mL0 (pa : PlainAttrs "list") (slot : Slot "list" name id) (hty : typeOf (.builtin id) = pure (.type "method_descriptor")) (hm : MtR X id r) (hk : OpM X.K r k) (ho : JE X W o mo)
    (hbase : attributeBase o name X.env (eval o X.env) = eval o X.env := by rfl) (hline : (apos.endLine == cpos.line) = true := by rfl) :
    JE X W (.Call (.Attribute o name apos) [] [] cpos) (eM isL k mo aNil) := pe_imp (pe_bm0 pa slot hty hm ho hbase hline) fun σ H Q h => by
  obtain ⟨ρ, st, env, hK, rel, re, h⟩ := h
  refine ⟨ρ, st, env, hK, rel, re, h.bind.imp fun ρ1 H1 t ⟨st1, x1, rel1, h1⟩ v rv => ?_⟩
  split at h1
  · rename_i hi
    have ty := isL_ty rel1 rv hi
    rw [x1.K, hK] at ty
    exact ⟨ty, hk _ _ ρ1 st1 H1 σ t v [] [] Q (x1.K.trans hK) rel1 rv rfl h1⟩
  · exact h1.elim
end
def getD' (kvs : List (Str × T)) (k : Str) : Option T := match kvs with
  | [] => none
  | (k', t) :: r => if k' = k then some t else getD' r k
def hasD (kvs : List (Str × T)) (k : Str) : Bool := (getD' kvs k).isSome
def setD (kvs : List (Str × T)) (k : Str) (v : T) : List (Str × T) := match kvs with
  | [] => []
  | (k', t) :: r => (k', if k' = k then v else t) :: setD r k v
def putD (kvs : List (Str × T)) (k : Str) (v : T) : List (Str × T) := if hasD kvs k then setD kvs k v else kvs ++ [(k, v)]
section
variable {ρ : Ro} {H : Hp}
theorem RKs.length : ∀ {ts : List (Str × T)} {vs : List (Key × V)}, RKs ρ H ts vs → vs.length = ts.length
  | [], _, h => by cases h; rfl
  | (k, t) :: ts, _, h => by
    obtain ⟨x, r, rfl, _, q⟩ := h
    simp [RKs.length q]
theorem RKs.append : ∀ {ts us : List (Str × T)} {vs ws : List (Key × V)}, RKs ρ H ts vs → RKs ρ H us ws → RKs ρ H (ts ++ us) (vs ++ ws)
  | [], _, _, _, h, q => by cases h; exact q
  | (k, t) :: ts, us, _, _, h, q => by
    obtain ⟨x, r, rfl, h1, h2⟩ := h
    exact ⟨x, _, rfl, h1, RKs.append h2 q⟩
theorem RKs.val : ∀ {ts : List (Str × T)} {vs : List (Key × V)} {k : Str}, RKs ρ H ts vs → match getD' ts k with
    | some t => ∃ v, valV vs (Sum.inr k) = some v ∧ RV ρ H t v
    | none => valV vs (Sum.inr k) = none
  | [], _, _, h => by cases h; rfl
  | (k', t) :: ts, _, k, h => by
    obtain ⟨x, r, rfl, h1, h2⟩ := h
    unfold getD'
    by_cases hk : k' = k
    · rw [if_pos hk]
      exact ⟨x, valV_pos (by show (Sum.inr k' : Key) = Sum.inr k; rw [hk]), h1⟩
    · rw [if_neg hk]
      have := RKs.val (k := k) h2
      rw [valV_neg (p := (Sum.inr k', x)) (by intro z; exact hk (Sum.inr.inj z))]
      exact this
theorem RKs.valS {ts : List (Str × T)} {vs : List (Key × V)} {k : Str} {t : T} (h : RKs ρ H ts vs) (e : getD' ts k = some t) : ∃ v, valV vs (Sum.inr k) = some v ∧ RV ρ H t v := by
  have q := RKs.val (k := k) h
  rw [e] at q
  exact q
theorem RKs.any : ∀ {ts : List (Str × T)} {vs : List (Key × V)} {k : Str}, RKs ρ H ts vs → (vs.any fun kv => decide (kv.1 = Sum.inr k)) = hasD ts k
  | [], _, _, h => by cases h; rfl
  | (k', t) :: ts, _, k, h => by
    obtain ⟨x, r, rfl, h1, h2⟩ := h
    rw [List.any_cons, RKs.any h2]
    unfold hasD
    conv => rhs; unfold getD'
    by_cases hk : k' = k
    · rw [if_pos hk, decide_eq_true (show (Sum.inr k' : Key) = Sum.inr k by rw [hk])]; simp
    · rw [if_neg hk, decide_eq_false (show ¬ (Sum.inr k' : Key) = Sum.inr k from fun z => hk (Sum.inr.inj z))]; simp
theorem RKs.setAll : ∀ {ts : List (Str × T)} {vs : List (Key × V)} {k : Str} {t : T} {v : V}, RKs ρ H ts vs → RV ρ H t v → RKs ρ H (setD ts k t) (vs.map fun kv => if kv.1 = Sum.inr k then (kv.1, v) else kv)
  | [], _, _, _, _, h, _ => by cases h; rfl
  | (k', u) :: ts, _, k, t, v, h, q => by
    obtain ⟨x, r, rfl, h1, h2⟩ := h
    by_cases hk : k' = k
    · subst hk
      refine ⟨v, _, by rw [List.map_cons, if_pos rfl], ?_, RKs.setAll h2 q⟩
      simpa using q
    · refine ⟨x, _, by rw [List.map_cons, if_neg (fun z => hk (Sum.inr.inj z))], ?_, RKs.setAll h2 q⟩
      simpa [hk] using h1
theorem RKs.put {ts : List (Str × T)} {vs : List (Key × V)} {k : Str} {t : T} {v : V} (h : RKs ρ H ts vs) (q : RV ρ H t v) : RKs ρ H (putD ts k t) (putK vs (Sum.inr k) v) := by
  unfold putD putK
  rw [h.any]
  split
  · exact h.setAll q
  · exact h.append ⟨v, [], rfl, q, rfl⟩
end
def dicOf (t : T) (st : Store) : Option (Nat × List (Str × T)) := match t with
  | .ref n => match st[n]? with
    | some (.dic kvs) => some (n, kvs)
    | _ => none
  | _ => none
theorem dic_get {ρ : Ro} {H : Hp} {st : Store} {t : T} {x : V} {n : Nat} {kvs : List (Str × T)} (rel : Rel ρ st H) (h : RV ρ H t x) (e : dicOf t st = some (n, kvs)) : ∃ a ks, x = .ref a ∧ ρ.s[n]? = some a ∧ H a = some (.dK ks) ∧ RKs ρ H kvs ks := by
  cases t with
  | ref m =>
    obtain ⟨a, rfl, g⟩ := h
    have e : (match st[m]? with | some (.dic kvs) => some (m, kvs) | _ => none) = some (n, kvs) := e
    split at e
    · rename_i us hs
      cases e
      obtain ⟨b, g', ks, h1, h2⟩ := rel.addr hs
      rw [g] at g'; cases g'
      exact ⟨a, ks, rfl, g, h1, h2⟩
    · cases e
  | _ => cases e
def kDGet (t u : T) : M T := fun st => match u, dicOf t st with
  | .str k, some (_, kvs) => match getD' kvs k with
    | some v => .ok v st
    | none => .stuck
  | _, _ => .stuck
def sDPutM (mv md mk : ME) : MS := fun env st => RS.of env ((mv env st).bind fun v st1 => (md env st1).bind fun d st2 => (mk env st2).bind fun k st3 => match k, dicOf d st3 with
    | .str k, some (n, kvs) => if kvs.length < sizeLine then R.ok () (st3.set n (.dic (putD kvs k v))) else .stuck
    | _, _ => .stuck) fun _ st4 => .nx env st4
section
variable {X : Cx} {W : WX} {pos pos' : Pos} {a b c : Expr} {ma mb mc : ME}
theorem j_dget (hu : X.A.units + 1 < cLine) (ha : JE X W a ma) (hb : JE X W b mb) (hs : NoSl b := by exact fun _ _ => rfl) : JE X W (.Subscript a b pos) (e2 kDGet ma mb) :=
  pe_imp (pe_dget hu ha hb hs) fun σ H Q ⟨ρ, st, env, hK, rel, re, h⟩ =>
    ⟨ρ, st, env, hK, rel, re, h.bind.imp fun ρ1 H1 t ⟨st1, x1, rel1, h1⟩ v rv =>
      ⟨ρ1, st1, env, x1.K.trans hK, rel1, re.mono x1, h1.bind.imp fun ρ2 H2 u ⟨st2, x2, rel2, h2⟩ w rw' => by
        unfold kDGet at h2
        split at h2
        · split at h2
          · rename_i y hy
            obtain ⟨p, ks, rfl, _, h3, h4⟩ := dic_get rel2 (rv.mono x2) (by assumption)
            obtain ⟨z, hz, rz⟩ := h4.valS hy
            refine ⟨p, z, rfl, ?_, h2.val rel2 _ rz⟩
            rw [show w = _ from rw', ← hz]
            exact DGet.k (k := Sum.inr _) h3
          · exact h2.elim
        · exact h2.elim⟩⟩
theorem js_dput (hu : X.A.units + 1 < cLine) (ha : JE X W a ma) (hb : JE X W b mb) (hc : JE X W c mc) (hs : swapsWith c (some (.Subscript a b pos')) pos.line X.env = pure false := by rfl) : JS X W (.Assign [.Subscript a b pos'] c pos) (sDPutM mc ma mb) :=
  ps_imp (ps_dput hu ha hb hc hs) fun D σ H ⟨ρ, st, env, hK, rel, re, h⟩ =>
    ⟨ρ, st, env, hK, rel, re, (FinS.of re h).bind.imp fun ρ1 H1 v ⟨st1, x1, rel1, h1⟩ vv rv =>
      ⟨ρ1, st1, env, x1.K.trans hK, rel1, re.mono x1, h1.bind.imp fun ρ2 H2 d ⟨st2, x2, rel2, h2⟩ vd rd =>
        ⟨ρ2, st2, env, x2.K.trans (x1.K.trans hK), rel2, re.mono (x1.trans x2), h2.bind.imp fun ρ3 H3 k ⟨st3, x3, rel3, h3⟩ vk rk => by
          split at h3
          · split at h3
            · rename_i hl
              obtain ⟨p, ks, rfl, g, h4, h5⟩ := dic_get rel3 (rd.mono x3) (by assumption)
              rw [show vk = _ from rk]
              refine ⟨p, _, rfl, DPut.k (k := Sum.inr _) h4 (by rw [h5.length]; exact hl), ?_⟩
              have e : ∀ o, Ext ρ3 H3 ρ3 (upd H3 p o) := fun o => rel3.putExt g
              obtain ⟨st4, x4, rel4, h6⟩ := h3 ρ3 _ (e _) (rel3.put g ⟨_, upd_same, RKs.mono (e _) (h5.put (rv.mono (x2.trans x3)))⟩)
              exact h6 ρ3 _ σ (.refl _ _) rel4 (re.mono (x1.trans (x2.trans (x3.trans (e _)))))
            · exact h3.elim
          · exact h3.elim⟩⟩⟩
def JD (X : Cx) (W : WX) (pos : Pos) (keys : List (Option Expr)) (vals : List Expr) (ks : List Str) (m : Env → M (List T)) : Prop :=
  ∃ trs, PPs X pos keys vals trs ∧ ∀ σ H (Q : List (V × V) → Hp → Prop), tA X.K X.mg W m σ H (fun vs H' => Q ((ks.map V.str).zip vs) H') → tPairs trs σ H Q
theorem jd_nil : JD X W pos [] [] [] aNil := ⟨[], pps_nil, fun σ H Q ⟨ρ, st, env, hK, rel, re, h⟩ => h.val rel [] rfl⟩
theorem jd_cons {keys : List (Option Expr)} {vals : List Expr} {ks : List Str} {mr : Env → M (List T)} {k : Str} {kk kp} (ha : JE X W a ma) (h : JD X W pos keys vals ks mr) : JD X W pos (some (.Constant (.str k) kk kp) :: keys) (a :: vals) (k :: ks) (aCons ma mr) := by
  obtain ⟨trs, h1, h2⟩ := h
  refine ⟨(tC (.str k), tE X.K X.mg W ma) :: trs, pps_cons pe_str ha h1, fun σ H Q ⟨ρ, st, env, hK, rel, re, h⟩ => ?_⟩
  refine ⟨ρ, st, env, hK, rel, re, h.bind.imp fun ρ1 H1 t ⟨st1, x1, rel1, q1⟩ v rv => h2 σ H1 _ ?_⟩
  exact ⟨ρ1, st1, env, x1.K.trans hK, rel1, re.mono x1, q1.bind.imp fun ρ2 H2 ts ⟨st2, x2, rel2, q2⟩ vs rvs => q2.val rel2 (v :: vs) ⟨v, vs, rfl, rv.mono x2, rvs⟩⟩
def eDict (ks : List Str) (m : Env → M (List T)) : ME := fun env st => (m env st).bind fun ts st1 => if ts.length = ks.length then .ok (.ref st1.length) (st1 ++ [.dic (ks.zip ts)]) else .stuck
theorem merge_nodup : ∀ (kvs acc : List (Key × V)), ((acc ++ kvs).map (·.1)).Nodup → mergeK acc kvs = acc ++ kvs
  | [], acc, _ => by simp [mergeK]
  | p :: r, acc, h => by
    show mergeK (putK acc p.1 p.2) r = _
    have e : putK acc p.1 p.2 = acc ++ [p] := by
      unfold putK
      rw [if_neg]
      intro z
      rw [List.any_eq_true] at z
      obtain ⟨q, hq, e⟩ := z
      have e : q.1 = p.1 := by simpa using e
      rw [List.map_append, List.nodup_append] at h
      exact h.2.2 q.1 (List.mem_map_of_mem hq) p.1 (by simp) e
    rw [e, merge_nodup r (acc ++ [p]) (by simpa using h)]
    simp
theorem zip_rks {ρ : Ro} {H : Hp} : ∀ {ks : List Str} {ts : List T} {vs : List V}, ts.length = ks.length → RVs ρ H ts vs → RKs ρ H (ks.zip ts) ((ks.map Sum.inr).zip vs)
  | [], [], _, _, h => by cases h; rfl
  | k :: ks, t :: ts, _, hl, h => by
    obtain ⟨x, r, rfl, h1, h2⟩ := h
    exact ⟨x, _, rfl, h1, zip_rks (by simpa using hl) h2⟩
  | [], _ :: _, _, hl, _ => by simp at hl
  | _ :: _, [], _, hl, _ => by simp at hl
theorem zip_kv : ∀ (ks : List Str) (vs : List V), (ks.map V.str).zip vs = (((ks.map Sum.inr).zip vs : List (Key × V)).map fun kv => (kV kv.1, kv.2))
  | [], _ => rfl
  | _ :: _, [] => rfl
  | k :: ks, v :: vs => congrArg ((V.str k, v) :: ·) (zip_kv ks vs)
theorem j_dict {keys : List (Option Expr)} {vals : List Expr} {ks : List Str} {mr : Env → M (List T)} (h : JD X W pos keys vals ks mr) (hnd : ks.Nodup := by decide) (hl15 : ks.length ≤ 15 := by decide) (hall : keys.all (·.isSome) = true := by rfl) (hl : keys.length = vals.length := by rfl) (h0 : keys ≠ [] := by exact fun z => nomatch z)
    (h15 : keys.length ≤ 15 := by decide) : JE X W (.Dict keys vals pos) (eDict ks mr) := by
  obtain ⟨trs, h1, h2⟩ := h
  refine pe_imp (pe_disp h1 hall hl h0 h15) fun σ H Q ⟨ρ, st, env, hK, rel, re, h⟩ p hp => h2 σ _ _ ?_
  have xn := Ext.new (ρ := ρ) (o := .dK []) hp
  refine ⟨ρ, st, env, hK, rel.new hp, re.mono xn, ?_⟩
  unfold eDict at h
  cases hm : mr env st with
  | exc x s =>
    rw [hm] at h
    exact fun ρ' H' c d e rl rx => h ρ' H' c d (xn.trans e) rl rx
  | stuck => rw [hm] at h; exact h.elim
  | ok ts st1 =>
    rw [hm] at h
    have h : Fin X.mg W ρ H σ (if ts.length = ks.length then R.ok (.ref st1.length) (st1 ++ [.dic (ks.zip ts)]) else .stuck) (KQ Q) := h
    split at h
    · rename_i hlen
      intro ρ1 H1 x1 rel1 vs rvs
      have hp1 : H1 p = some (.dK []) := x1.keep p _ upd_same (rel.out hp) (fun _ z => nomatch z)
      have hvl := rvs.length
      refine ⟨hp1, (ks.map Sum.inr).zip vs, ?_, by rw [List.length_zip, List.length_map]; omega, ?_⟩
      · exact zip_kv ks vs
      · have key : (((ks.map Sum.inr).zip vs).map (·.1) : List Key) = ks.map Sum.inr := by
          exact List.map_fst_zip (by rw [List.length_map]; omega)
        rw [merge_nodup _ [] (by
          rw [List.nil_append, key]
          exact List.Pairwise.map Sum.inr (fun a b h z => h (Sum.inr.inj z)) hnd), List.nil_append]
        have hout : p ∉ ρ1.s := x1.notin upd_same (rel.out hp)
        have G : Grow ρ1 H1 (ρ1.add p) (upd H1 p (.dK ((ks.map Sum.inr).zip vs))) := by
          refine ⟨fun n a h => ?_, fun b xs h => ?_, fun b xs so h n n' => ?_, fun b xs h => ?_, rfl⟩
          · show (ρ1.s ++ [p])[n]? = _
            rw [List.getElem?_append_left (List.getElem?_eq_some_iff.mp h).1]; exact h
          · refine h.elim (fun h => .inl ?_) fun h => h.elim (fun ⟨n, o, h, hf⟩ => .inr (.inl ?_)) fun h => .inr (.inr h)
            · rw [upd_ne]; exact h
              intro z; rw [z, hp1] at h; cases h
            · have hb : b ≠ p := by intro z; rw [z, hp1] at h; cases h
              exact ⟨⟨fun z => (List.mem_append.mp (show b ∈ ρ1.s ++ [p] from z)).elim n.1 fun z => hb (by simpa using z), n.2⟩, o, by rw [upd_ne hb]; exact h, hf⟩
          · have hb : b ≠ p := by intro z; rw [z, hp1] at h; cases h; exact so
            exact ⟨by rw [upd_ne hb]; exact h, fun z => (List.mem_append.mp (show b ∈ ρ1.s ++ [p] from z)).elim n fun z => hb (by simpa using z), n'⟩
          · rcases h with ⟨n, h⟩ | h
            · have hb : b ≠ p := by intro z; rw [z, hp1] at h; rcases h with h | ⟨_, h⟩ <;> cases h
              exact .inl ⟨⟨fun z => (List.mem_append.mp (show b ∈ ρ1.s ++ [p] from z)).elim n.1 fun z => hb (by simpa using z), n.2⟩, by rw [upd_ne hb]; exact h⟩
            · exact .inr h
        have e1 : Ext ρ H ρ1 H1 := xn.trans x1
        have E : Ext ρ H (ρ1.add p) (upd H1 p (.dK ((ks.map Sum.inr).zip vs))) := by
          obtain ⟨r, hr⟩ := e1.pre
          refine ⟨⟨r ++ [p], by show ρ1.s ++ [p] = _; rw [hr, List.append_assoc]⟩, e1.K, e1.dsub, e1.dfresh, fun b hb => ?_, fun b xs h => ?_, fun b o h n nt => ?_, fun b ps h => ?_⟩
          · rcases List.mem_append.mp (show b ∈ ρ1.s ++ [p] from hb) with h | h
            · exact e1.fresh b h
            · exact .inr (by rw [show b = p by simpa using h]; exact hp)
          · rw [upd_ne (ne_of_none h hp)]; exact e1.tups b xs h
          · rw [upd_ne (ne_of_none h hp)]; exact e1.keep b o h n nt
          · rw [upd_ne (ne_of_none h hp)]; exact e1.tbl b ps h
        have R2 : Rel (ρ1.add p) (st1 ++ [.dic (ks.zip ts)]) (upd H1 p (.dK ((ks.map Sum.inr).zip vs))) := by
         refine ⟨?_, nodup_add rel1.nodup hout, fun n o' a e g => ?_, fun a ha => ?_, tabs_upd rel1.tabs hp1 (fun _ z => nomatch z) fun _ z => nomatch z⟩
         · show (ρ1.s ++ [p]).length = _; simp [rel1.len]
         · have g : (ρ1.s ++ [p])[n]? = some a := g
           by_cases hln : n < st1.length
           · rw [List.getElem?_append_left hln] at e
             rw [List.getElem?_append_left (by rw [rel1.len]; exact hln)] at g
             refine OV_grow G (h := rel1.at_ n o' a e g) fun o'' h => ?_
             rw [upd_ne (show a ≠ p from fun z => hout (by rw [← z]; exact List.mem_of_getElem? g))]; exact h
           · have hn' : n = st1.length := by
               have := (List.getElem?_eq_some_iff.mp e).1
               simp at this
               omega
             subst hn'
             rw [List.getElem?_append_right (Nat.le_refl _)] at e
             rw [List.getElem?_append_right (by rw [rel1.len]; exact Nat.le_refl _)] at g
             simp at e
             rw [show st1.length - ρ1.s.length = 0 by rw [rel1.len]; omega] at g
             simp at g
             subst e g
             exact ⟨_, upd_same, RKs.grow G (zip_rks hlen rvs)⟩
         · obtain ⟨h3, o, h4, h5⟩ := rel1.priv a ha
           have hap : a ≠ p := by
             intro z
             rw [z] at ha
             rcases x1.dfresh p ha with q | q | q
             · obtain ⟨_, o', q2, _⟩ := rel.priv p q
               rw [hp] at q2; cases q2
             · exact rel.out hp q
             · rw [upd_same] at q; cases q
           refine ⟨fun z => ?_, o, by rw [upd_ne hap]; exact h4, h5⟩
           rcases List.mem_append.mp (show a ∈ ρ1.s ++ [p] from z) with z | z
           · exact h3 z
           · exact hap (by simpa using z)
        have q := h (ρ1.add p) _ E R2 (.ref p) ⟨p, rfl, by show (ρ1.s ++ [p])[st1.length]? = _; rw [← rel1.len, List.getElem?_append_right (Nat.le_refl _), Nat.sub_self]; rfl⟩
        exact q
    · exact h.elim
end
end Mir
namespace HX
open PySem PySem.Spec PyProof.Rows L2
structure RoomG (k : Nat) (A : Around) : Prop extends Room k A where
  gd : A.guards = some []
theorem RoomG.mono {j k : Nat} {A : Around} (r : RoomG k A) (h : j ≤ k) : RoomG j A := ⟨r.toRoom.mono h, r.gd⟩
theorem RoomG.deeper {k : Nat} {A : Around} (r : RoomG (k + 1) A) (env : Env) : RoomG k (A.deeper env) := ⟨r.toRoom.deeper env, r.gd⟩
structure FnG (P : Program) (w : World) (K : PySem.W.Frag) (mg : Str → Option Value) (base : Heap) (CX : CXT) (k : Nat) (f : Addr) (fd : FuncData) (ps : List Str) (sp : Sp) : Prop where
  lens : ∀ vs H Q E, sp vs H Q E → vs.length = ps.length
  goes : ∀ (A : Around) (outer : List Env) (s : Shared) (H : Hp) (args : Args) (us : List Value) (vs : List V) (Q : VK) (E : XK), RoomG k A → Env0 P w K mg base A outer s H → BindsTo s fd args (ps.zip us) → Vals vs us → sp vs H Q E → codeAny (model P w) A (.call (.ref f) args) (CR CX outer P w H s Q E) s
theorem FnG.imp {P : Program} {w : World} {K : PySem.W.Frag} {mg : Str → Option Value} {base : Heap} {CX : CXT} {k : Nat} {f : Addr} {fd : FuncData} {ps : List Str} {sp sp' : Sp} (F : FnG P w K mg base CX k f fd ps sp)
    (i : ∀ vs H Q E, sp' vs H Q E → sp vs H Q E) : FnG P w K mg base CX k f fd ps sp' := ⟨fun vs H Q E q => F.lens vs H Q E (i _ _ _ _ q), fun A o s H a us vs Q E r e b v p => F.goes A o s H a us vs Q E r e b v (i _ _ _ _ p)⟩
theorem FnG.of {P : Program} {w : World} {K : PySem.W.Frag} {mg : Str → Option Value} {base : Heap} {CX : CXT} {k : Nat} {f : Addr} {fd : FuncData} {ps : List Str} {sp : Sp} (F : FnOk P w K mg base CX k f fd ps sp) : FnG P w K mg base CX k f fd ps sp :=
  ⟨F.len, fun A o s H a us vs Q E r => F.run A o s H a us vs Q E r.toRoom⟩
theorem fn_ofG {CX : CXT} {P : Program} {w : World} {K : PySem.W.Frag} {mg : Str → Option Value} {base : Heap} {k : Nat} {f : Addr} {name qual : Str} {params : Arguments} {body : List Stmt} {scope : Scope} {dV kV doc pm cdv ct oc : Value} {an od : Option Addr}
    {osl : Array (Option Value)} {N ps : List Str} {sp : Sp} (hlook : K.lookup f = some ⟨oc, od, .func (PySem.W.fnOf name qual params body scope dV kV doc pm an cdv ct), osl⟩) (hcode : PySem.W.codeIn K cdv qual = true) (Sc : FnScope N ps scope)
    (hlens : ∀ vvs Hh Q E, sp vvs Hh Q E → vvs.length = ps.length)
    (hbod : ∀ (A : Around) (outer : List Env) (s : Shared) (Hh : Hp) (vvs : List V) (Q : VK) (E : XK), RoomG k (A.deeper (envOfC qual scope s.heap.objs.size f cdv)) → sp vvs Hh Q E →
      ∃ t, PSs (cxOf CX P w K mg base N qual scope f cdv A outer s Hh E) body t ∧ t { nx := fun _ H' => Q .non H', rt := Q } (start N vvs) Hh) :
    FnG P w K mg base CX (k + 1) f (PySem.W.fnOf name qual params body scope dV kV doc pm an cdv ct) ps sp := by
  refine ⟨hlens, fun A outer s Hh argv uus vvs Q E hrm en hbd r hs0 => ?_⟩
  have hlen := hlens _ _ _ _ hs0
  have kin : K.In s.heap := en.mod.kin.keeps fun bb o e => (en.bs bb o e).1
  have nlim : s.heap.NoLimit := en.mod.nolimit.keeps fun bb o e => (en.bs bb o e).1
  have hkd : ∀ y ∈ ps.zip uus, scope.names.lookup y.1 = some .local ∨ (scope.names.lookup y.1 = some .cell ∧ ((cellsFrom (s.heap.objs.size + 1) scope.names []).lookup y.1).isSome = true) := fun ⟨n, v⟩ hy => by
    rcases Sc.par n (List.of_mem_zip hy).1 with qq | qq
    · exact .inl qq
    · exact .inr ⟨qq, PySem.W.cellsFrom_some _ _ _ (.inl qq)⟩
  refine codeAny_call_function hrm.depth (kin _ _ hlook) rfl Sc.co Sc.gen rfl (PySem.W.codeRec_of kin hcode) (hbd _ _ _ _ ?_)
  refine wpAny_newFunctionEnv_cells Sc.kind hkd fun env he s1 x => ?_
  subst he
  refine ⟨nlim.keeps x.toInCall.keep, codeAny_func ?_⟩
  obtain ⟨t, hrun, hqq⟩ := hbod A outer s Hh vvs Q E (hrm.deeper _) hs0
  have J0 : Inv (cxOf CX P w K mg base N qual scope f cdv A outer s Hh E) [] (start N vvs) Hh s1 := inv_start Sc hrm.hd en hlen r x
  refine wpAny_mono (hrun.run [] s1 (start N vvs) Hh _ J0 hqq) (fun fl s' hfl => ?_) fun e s' hfl => hfl
  have done : ∀ {σ' : L2.St} {H' : Hp} {v : V} {u : Value}, Inv (cxOf CX P w K mg base N qual scope f cdv A outer s Hh E) [] σ' H' s' → RelV v u → Q v H' → CE outer P w Hh s Q u s' :=
    fun {σ' H' v u} J rvs qq => ⟨v, H', J.os, J.bare, J.base, J.hok, rvs, qq⟩
  cases fl with
  | ret u =>
    obtain ⟨v, σ', H', J, rvs, qq⟩ := hfl
    exact done J rvs qq
  | next =>
    obtain ⟨σ', H', J, qq⟩ := hfl
    exact done (v := V.non) (u := Value.none) J rfl qq
  | brk =>
    obtain ⟨_, _, _, qq⟩ := hfl
    exact False.elim qq
  | cont =>
    obtain ⟨_, _, _, qq⟩ := hfl
    exact False.elim qq
section
variable {X : Cx} {CX : CXT} {k : Nat} {f C : Addr} {fd : FuncData} {ps : List Str} {sp : Sp} {E : L2.St → XK} {x m : Str} {p pos apos : Pos} {e o : Expr} {es : List Expr} {ta : TE} {t : TA}
theorem run_fnG {pins : List (Addr × Obj)} {σ : L2.St} {Hh : Hp} {s : Shared} {Q : VK} {uus : List Value} {vvs : List V} (Fn : FnG X.prog X.w X.K X.mg X.base CX k f fd ps sp) (hrm : RoomG k X.A) (hbd : Binds X.K fd ps []) (hpass : PassesAt CX X σ (E σ))
    (J0 : Inv X pins σ Hh s) (r : Vals vvs uus) (h : sp vvs Hh Q (E σ)) : wpAny (model X.prog X.w) X.A (call (.ref f) uus) (EP X pins σ Q) X.xe s := by
  have hlen : uus.length = ps.length := by rw [← r.length]; exact Fn.lens _ _ _ _ h
  have bb := hbd s uus J0.kIn (by rw [List.append_nil]; exact hlen)
  rw [List.append_nil] at bb
  refine wpAny_call (codeAny_mono (Fn.goes X.A X.stack s Hh ⟨uus, []⟩ uus vvs Q (E σ) hrm J0.env0 bb r h) fun r s' hqq => ?_)
  cases r with
  | error e => exact hpass pins Hh s e s' J0 hqq
  | ok fl =>
    cases fl with
    | ret u => exact J0.after hqq
    | next => exact False.elim hqq
    | brk => exact False.elim hqq
    | cont => exact False.elim hqq
theorem pe_callG (Fn : FnG X.prog X.w X.K X.mg X.base CX k f fd ps sp) (hrm : RoomG k X.A) (hglob : Gl X x) (hmg : X.mg x = some (.ref f)) (hkeep : PySem.W.keepIn X.K (.ref f) = true) (hbd : Binds X.K fd ps []) (hpass : ∀ σ, PassesAt CX X σ (E σ))
    (hla : PA X (e :: es) t) (hdb : (x == ("__debug__" : Str)) = false := by decide) (he : starEach (e :: es) X.env = (false, eval e X.env) :: starEach es X.env := by rfl) (hpl : (backTo pos (starEach es X.env)).any (·.1) = false := by rfl) :
    PE X (.Call (.Name x p) (e :: es) [] pos) (tCallS sp E t) := by
  refine ⟨fun pins s σ Hh Q J0 h => ?_⟩
  refine wpAny_Call_Name_kw (ld_glob J0 hglob hmg ?_ hdb)
  refine PySem.W.callWith_K (h₀ := X.base) J0.ok.mod.kin hkeep (thn (hla.run pos pins s σ Hh _ J0 h) fun uus s1 ⟨vvs, H1, I1, r, q⟩ => ⟨I1.kIn, ?_⟩) he hpl
  exact run_fnG Fn hrm hbd (hpass σ) I1 r q
end
section
variable {P : Program} {w : World} {K : PySem.W.Frag} {mg : Str → Option Value} {base : Heap}
theorem okG {x qual : Str} {st : Stmt} {f : Addr} {fd : FuncData} {N ps : List Str} {k : Nat} {sp : Sp} (Fn : Fun K x qual st f fd) (Sc : FnScope N ps (defScope st)) (hlens : ∀ vvs Hh Q E, sp vvs Hh Q E → vvs.length = ps.length)
    (hbod : ∀ (cdv : Value) (A : Around) (outer : List Env) (s : Shared) (Hh : Hp) (vvs : List V) (Q : VK) (E : XK), RoomG k (A.deeper (envOfC qual (defScope st) s.heap.objs.size f cdv)) → sp vvs Hh Q E →
      ∃ t, PSs (cxOf (L2.CX P w) P w K mg base N qual (defScope st) f cdv A outer s Hh E) (defBody st) t ∧ t { nx := fun _ H' => Q .non H', rt := Q } (start N vvs) Hh) : FnG P w K mg base (L2.CX P w) (k + 1) f fd ps sp := by
  obtain ⟨oc, od, kV, doc, pm, an, cdv, ct, osl, rfl, hlook, hcode⟩ := Fn.ex
  exact fn_ofG hlook hcode Sc hlens fun A outer s Hh vvs Q E hrm hs0 => hbod cdv A outer s Hh vvs Q E hrm hs0
end
end HX
namespace Mir
variable [Tabl]
open PySem PySem.Spec PyProof.Rows L2
def spM (K : PySem.W.Frag) (mg : Str → Option Value) (n : Nat) (f : List T → M T) : Sp := fun vs H Q E =>
  ∃ ρ st ts, ρ.K = K ∧ Rel ρ st H ∧ RVs ρ H ts vs ∧ ts.length = n ∧ Fin mg (fun c d _ H => E c d H) ρ H [] (f ts st) (KQ Q)
theorem spM_len {K : PySem.W.Frag} {mg : Str → Option Value} {n : Nat} {f : List T → M T} (vs : List V) (H : Hp) (Q : VK) (E : XK) (h : spM K mg n f vs H Q E) : vs.length = n := by
  obtain ⟨ρ, st, ts, _, _, r, hl, _⟩ := h
  rw [r.length, hl]
def defM (n m : Nat) (body : MS) : List T → M T := fun ts st => match body (ts.map some ++ List.replicate (m - n) none) st with
  | .rt t st' => .ok t st'
  | .nx _ st' => .ok .non st'
  | .exc x _ st' => .exc x st'
  | _ => .stuck
theorem RE.start {ρ : Ro} {H : Hp} {N : List Str} {ts : List T} {vs : List V} (h : RVs ρ H ts vs) : RE ρ H (ts.map some ++ List.replicate (N.length - ts.length) none) (start N vs) := by
  unfold L2.start
  refine ⟨by simp [h.length], fun i t e => ?_⟩
  by_cases hi : i < ts.length
  · rw [List.getElem?_append_left (by simpa using hi), List.getElem?_map, List.getElem?_eq_getElem hi] at e
    cases e
    obtain ⟨v, hv, rv⟩ := h.get (List.getElem?_eq_getElem hi)
    refine ⟨v, ?_, rv⟩
    rw [List.getElem?_append_left (by rw [List.length_map, h.length]; exact hi), List.getElem?_map, hv]
    rfl
  · rw [List.getElem?_append_right (by simpa using hi)] at e
    obtain ⟨_, e'⟩ := List.getElem?_eq_some_iff.mp e
    simp at e'
section
variable {P : Program} {w : World} {K : PySem.W.Frag} {mg : Str → Option Value} {base : Heap}
abbrev BX (P : Program) (w : World) (K : PySem.W.Frag) (mg : Str → Option Value) (base : Heap) (N : List Str) (qual : Str) (sc : Scope) (f : Addr) (cdv : Value) (A : Around) (outer : List PySem.Env) (s : Shared) (H : Hp) (E : XK) : Cx :=
  cxOf (L2.CX P w) P w K mg base N qual sc f cdv A outer s H E
abbrev WB (E : XK) : WX := fun c d _ H => E c d H
theorem def_ok {x qual : Str} {st : Stmt} {f : Addr} {fd : FuncData} {N ps : List Str} {k : Nat} {m : MS} (F : Fun K x qual st f fd) (S : FnScope N ps (defScope st))
    (hb : ∀ (cdv : Value) (A : Around) (outer : List PySem.Env) (s : Shared) (H : Hp) (E : XK), HX.RoomG k (A.deeper (envOfC qual (defScope st) s.heap.objs.size f cdv)) →
      JB (BX P w K mg base N qual (defScope st) f cdv A outer s H E) (WB E) (defBody st) m) : HX.FnG P w K mg base (L2.CX P w) (k + 1) f fd ps (spM K mg ps.length (defM ps.length N.length m)) := by
  refine HX.okG F S (spM_len (n := ps.length)) fun cdv A outer s H vs Q E hr ⟨ρ, st', ts, hK, rel, rv, hl, h⟩ => ⟨_, hb cdv A outer s H E hr, ?_⟩
  refine ⟨ρ, st', ts.map some ++ List.replicate (N.length - ts.length) none, hK, rel, RE.start rv, ?_⟩
  unfold defM at h
  rw [hl]
  cases hm : m (ts.map some ++ List.replicate (N.length - ps.length) none) st' with
  | nx e s' =>
    rw [hm] at h
    exact fun ρ' H' σ x r re => h ρ' H' x r .non rfl
  | rt t s' => rw [hm] at h; exact fun ρ' H' v x r rv => h ρ' H' x r v rv
  | bk e s' => rw [hm] at h; exact h.elim
  | ct e s' => rw [hm] at h; exact h.elim
  | exc xx e s' => rw [hm] at h; exact fun ρ' H' σ c d x r re rx => h ρ' H' c d x r rx
  | stuck => rw [hm] at h; exact h.elim
end
def callM (n : Nat) (f : List T → M T) (ts : List T) : M T := fun st => if ts.length = n then f ts st else .stuck
section
variable {X : Cx} {W : WX} {pos p : Pos} {e : Expr} {es : List Expr} {mr : Env → M (List T)} {x : Str} {k : Nat} {f : Addr} {fd : FuncData} {ps : List Str} {fm : List T → M T}
theorem j_call {n : Nat} (F : HX.FnG X.prog X.w X.K X.mg X.base (L2.CX X.prog X.w) k f fd ps (spM X.K X.mg n fm)) (hr : HX.RoomG k X.A) (hm : X.mg x = some (.ref f)) (hk : PySem.W.keepIn X.K (.ref f) = true) (hb : Binds X.K fd ps []) (tk : Takes X W) (ha : JA X W (e :: es) mr)
    (hg : Gl X x := by rfl) (hdb : (x == ("__debug__" : Str)) = false := by decide) (he : starEach (e :: es) X.env = (false, eval e X.env) :: starEach es X.env := by rfl) (hpl : (backTo pos (starEach es X.env)).any (·.1) = false := by rfl) :
    JE X W (.Call (.Name x p) (e :: es) [] pos) (eL (callM n fm) mr) :=
  pe_imp (HX.pe_callG F hr hg hm hk hb (fun σ => passAt tk σ) ha hdb he hpl) fun σ H Q ⟨ρ, st, env, hK, rel, re, h⟩ =>
    ⟨ρ, st, env, hK, rel, re, h.bind.imp fun ρ1 H1 ts ⟨st1, x1, rel1, h1⟩ vs rvs => by
      unfold callM at h1
      split at h1
      · rename_i hl
        refine ⟨ρ1, st1, ts, x1.K.trans hK, rel1, rvs, hl, ?_⟩
        cases hf : fm ts st1 with
        | ok t s => rw [hf] at h1; exact h1
        | exc xx s => rw [hf] at h1; exact h1
        | stuck => rw [hf] at h1; exact h1
      · exact h1.elim⟩
theorem takesF {X : Cx} : Takes X WF := takes0
end
mutual
def T.isBelow (n : Nat) : T → Bool
  | .ref k => decide (k < n)
  | .tup ts => belows n ts
  | .lst ts => belows n ts
  | .scr ts => belows n ts
  | .tix ts => belows n ts
  | _ => true
def belows (n : Nat) : List T → Bool
  | [] => true
  | t :: ts => t.isBelow n && belows n ts
end
def obBelow (n : Nat) : Ob → Bool
  | .lst ts => belows n ts
  | .dic kvs => belows n (kvs.map (·.2))
  | .dtp kvs => belows n (kvs.map (·.2))
  | .ins _ fs => belows n (fs.map (·.2))
mutual
def freeze (st : Store) (n : Nat) : T → Option T
  | .ref k => if k < n then some (.ref k) else match st[k]? with
    | some (.lst ts) => if belows n ts then some (.lst ts) else
        -- one more level: a list of lists
        (freezeR st n ts).map .lst
    | _ => none
  | .tup ts => (freezes st n ts).map .tup
  | .lst ts => (freezes st n ts).map .lst
  | .scr ts => if belows n ts then some (.scr ts) else none
  | .tix ts => (freezes st n ts).map .tix
  | .fn k => some (.fn k)
  | .non => some .non
  | .bl b => some (.bl b)
  | .int i => some (.int i)
  | .str s => some (.str s)
def freezes (st : Store) (n : Nat) : List T → Option (List T)
  | [] => some []
  | t :: ts => match freeze st n t, freezes st n ts with
    | some u, some us => some (u :: us)
    | _, _ => none
def freezeR (st : Store) (n : Nat) : List T → Option (List T)
  | [] => some []
  | t :: ts => match (if t.isBelow n then some t else match t with
      | .ref k => match st[k]? with
        | some (.lst us) => if belows n us then some (.lst us) else none
        | _ => none
      | _ => none), freezeR st n ts with
    | some u, some us => some (u :: us)
    | _, _ => none
end
def popS (f : List T → M T) : List T → M T := fun ts st => match f ts st with
  | .ok t st' => if (st'.take st.length).all (obBelow st.length) then match freeze st' st.length t with
      | some u => .ok u (st'.take st.length)
      | none => .stuck
    else .stuck
  | .exc x st' => if (st'.take st.length).all (obBelow st.length) ∧ belows st.length (x.fs.map (·.2)) then .exc x (st'.take st.length) else .stuck
  | .stuck => .stuck
def Ro.cut (ρ : Ro) (n : Nat) : Ro := { ρ with s := ρ.s.take n }
section
variable {ρ : Ro} {H : Hp} {st : Store} {n : Nat}
theorem TupA.cut {a : Addr} {xs : List V} (h : TupA ρ H a xs) : TupA (ρ.cut n) H a xs := h.imp_right fun h => h.imp_left fun h => ⟨⟨fun z => h.1.1 (List.mem_of_mem_take z), h.1.2⟩, h.2⟩
theorem ScrL.cut {a : Addr} {xs : List V} (h : ScrL ρ H a xs) : ScrL (ρ.cut n) H a xs := h.imp_left fun h => ⟨⟨fun z => h.1.1 (List.mem_of_mem_take z), h.1.2⟩, h.2⟩
mutual
theorem RV.cut : ∀ {t : T} {v : V}, RV ρ H t v → t.isBelow n = true → RV (ρ.cut n) H t v
  | .non, _, h, _ => h
  | .bl _, _, h, _ => h
  | .int _, _, h, _ => h
  | .str _, _, h, _ => h
  | .ref k, _, h, b => by
    obtain ⟨a, r, g⟩ := h
    have b : decide (k < n) = true := b
    refine ⟨a, r, ?_⟩
    show (ρ.s.take n)[k]? = _
    rw [List.getElem?_take_of_lt (of_decide_eq_true b)]
    exact g
  | .tup ts, _, h, b => by
    obtain ⟨a, xs, r, g, q⟩ := h
    exact ⟨a, xs, r, g.cut, RVs.cut q b⟩
  | .lst ts, _, h, b => by
    obtain ⟨a, xs, r, g, m, q⟩ := h
    exact ⟨a, xs, r, g, ⟨fun z => m.1 (List.mem_of_mem_take z), m.2⟩, RVs.cut q b⟩
  | .scr ts, _, h, b => by
    obtain ⟨a, xs, r, g, q⟩ := h
    exact ⟨a, xs, r, g.cut, RVs.cut q b⟩
  | .tix ts, _, h, b => by
    obtain ⟨a, xs, o, r, g, hd, m, q⟩ := h
    exact ⟨a, xs, o, r, g, hd, ⟨fun z => m.1 (List.mem_of_mem_take z), m.2⟩, RVs.cut q b⟩
  | .fn _, _, h, _ => by
    obtain ⟨f, c, r, h1, h2, n1, n2⟩ := h
    exact ⟨f, c, r, h1, h2, ⟨fun z => n1.1 (List.mem_of_mem_take z), n1.2⟩, ⟨fun z => n2.1 (List.mem_of_mem_take z), n2.2⟩⟩
theorem RVs.cut : ∀ {ts : List T} {vs : List V}, RVs ρ H ts vs → belows n ts = true → RVs (ρ.cut n) H ts vs
  | [], _, h, _ => h
  | t :: ts, _, h, b => by
    obtain ⟨x, r, g, q, q'⟩ := h
    have b : (t.isBelow n && belows n ts) = true := b
    rw [Bool.and_eq_true] at b
    exact ⟨x, r, g, RV.cut q b.1, RVs.cut q' b.2⟩
end
theorem RKs.cut : ∀ {ts : List (Str × T)} {vs : List (Key × V)}, RKs ρ H ts vs → belows n (ts.map (·.2)) = true → RKs (ρ.cut n) H ts vs
  | [], _, h, _ => h
  | (k, t) :: ts, _, h, b => by
    obtain ⟨x, r, g, q, q'⟩ := h
    have b : (t.isBelow n && belows n (ts.map (·.2))) = true := b
    rw [Bool.and_eq_true] at b
    exact ⟨x, r, g, RV.cut q b.1, RKs.cut q' b.2⟩
theorem RFs.cut : ∀ {ts : List (Str × T)} {vs : List (Str × V)}, RFs ρ H ts vs → belows n (ts.map (·.2)) = true → RFs (ρ.cut n) H ts vs
  | [], _, h, _ => h
  | (k, t) :: ts, _, h, b => by
    obtain ⟨x, r, g, q, q'⟩ := h
    have b : (t.isBelow n && belows n (ts.map (·.2))) = true := b
    rw [Bool.and_eq_true] at b
    exact ⟨x, r, g, RV.cut q b.1, RFs.cut q' b.2⟩
theorem RTs.cut : ∀ {ts : List (List Int × T)} {vs : List (List Key × V)}, RTs ρ H ts vs → belows n (ts.map (·.2)) = true → RTs (ρ.cut n) H ts vs
  | [], _, h, _ => h
  | (k, t) :: ts, _, h, b => by
    obtain ⟨x, r, g, q, q'⟩ := h
    have b : (t.isBelow n && belows n (ts.map (·.2))) = true := b
    rw [Bool.and_eq_true] at b
    exact ⟨x, r, g, RV.cut q b.1, RTs.cut q' b.2⟩
theorem OV_cut {ob : Ob} {a : Addr} (h : OV ρ H ob a) (b : obBelow n ob = true) : OV (ρ.cut n) H ob a := by
  cases ob with
  | lst ts =>
    obtain ⟨xs, h1, h2⟩ := h
    exact ⟨xs, h1, h2.cut b⟩
  | dic kvs =>
    obtain ⟨xs, h1, h2⟩ := h
    exact ⟨xs, h1, h2.cut b⟩
  | dtp kvs =>
    obtain ⟨xs, h1, h2⟩ := h
    exact ⟨xs, h1, h2.cut b⟩
  | ins cl fs =>
    obtain ⟨C, dx, xs, c, h1, h2⟩ := h
    exact ⟨C, dx, xs, c, h1, h2.cut b⟩
theorem Rel.cut (r : Rel ρ st H) (b : (st.take n).all (obBelow n) = true) : Rel (ρ.cut n) (st.take n) H := by
  refine ⟨by show (ρ.s.take n).length = _; rw [List.length_take, List.length_take, r.len], r.nodup.sublist (List.take_sublist n ρ.s), fun k o a e g => ?_, fun a h => ?_, r.tabs⟩
  · have hk : k < n := by
      have := (List.getElem?_eq_some_iff.mp e).1
      rw [List.length_take] at this
      omega
    have e0 := e
    rw [List.getElem?_take_of_lt hk] at e
    have g : (ρ.s.take n)[k]? = some a := g
    rw [List.getElem?_take_of_lt hk] at g
    exact OV_cut (r.at_ k o a e g) (List.all_eq_true.mp b o (List.mem_of_getElem? e0))
  · obtain ⟨h1, h2⟩ := r.priv a h
    exact ⟨fun z => h1 (List.mem_of_mem_take z), h2⟩
theorem Rel.late (r : Rel ρ st H) {k : Nat} {a : Addr} (g : ρ.s[k]? = some a) (hk : ¬ k < n) : a ∉ (ρ.cut n).s ∧ a ∉ (ρ.cut n).d := by
  refine ⟨fun z => ?_, fun z => (r.priv a z).1 (List.mem_of_getElem? g)⟩
  obtain ⟨j, hj⟩ := List.getElem?_of_mem (show a ∈ ρ.s.take n from z)
  have hjn : j < n := by
    have := (List.getElem?_eq_some_iff.mp hj).1
    rw [List.length_take] at this
    omega
  rw [List.getElem?_take_of_lt hjn] at hj
  exact hk (get_inj r.nodup g hj ▸ hjn)
mutual
theorem freeze_rv (r : Rel ρ st H) : ∀ {t u : T} {v : V}, RV ρ H t v → freeze st n t = some u → RV (ρ.cut n) H u v
  | .non, _, _, h, e => by unfold freeze at e; cases e; exact h
  | .bl _, _, _, h, e => by unfold freeze at e; cases e; exact h
  | .int _, _, _, h, e => by unfold freeze at e; cases e; exact h
  | .str _, _, _, h, e => by unfold freeze at e; cases e; exact h
  | .ref k, _, _, h, e => by
    unfold freeze at e
    split at e
    · rename_i hk
      cases e
      exact RV.cut h (decide_eq_true hk)
    · rename_i hk
      obtain ⟨a, rfl, g⟩ := h
      split at e
      · rename_i ts hs
        obtain ⟨b, g', xs, h1, h2⟩ := r.addr hs
        rw [g] at g'; cases g'
        split at e
        · rename_i hb
          cases e
          exact ⟨a, xs, rfl, h1, r.late g hk, h2.cut hb⟩
        · cases e' : freezeR st n ts with
          | none => rw [e'] at e; cases e
          | some us =>
            rw [e'] at e
            cases e
            exact ⟨a, xs, rfl, h1, r.late g hk, freezeR_rv r h2 e'⟩
      · cases e
  | .tup ts, _, _, h, e => by
    obtain ⟨a, xs, rfl, g, q⟩ := h
    unfold freeze at e
    cases e' : freezes st n ts with
    | none => rw [e'] at e; cases e
    | some us =>
      rw [e'] at e
      cases e
      exact ⟨a, xs, rfl, g.cut, freezes_rv r q e'⟩
  | .lst ts, _, _, h, e => by
    obtain ⟨a, xs, rfl, g, m, q⟩ := h
    unfold freeze at e
    cases e' : freezes st n ts with
    | none => rw [e'] at e; cases e
    | some us =>
      rw [e'] at e
      cases e
      exact ⟨a, xs, rfl, g, ⟨fun z => m.1 (List.mem_of_mem_take z), m.2⟩, freezes_rv r q e'⟩
  | .scr ts, _, _, h, e => by
    unfold freeze at e
    split at e
    · rename_i hb
      cases e
      exact RV.cut h hb
    · cases e
  | .tix ts, _, _, h, e => by
    obtain ⟨a, xs, o, rfl, g, hd, m, q⟩ := h
    unfold freeze at e
    cases e' : freezes st n ts with
    | none => rw [e'] at e; cases e
    | some us =>
      rw [e'] at e
      cases e
      exact ⟨a, xs, o, rfl, g, hd, ⟨fun z => m.1 (List.mem_of_mem_take z), m.2⟩, freezes_rv r q e'⟩
  | .fn k, _, _, h, e => by
    unfold freeze at e
    cases e
    exact RV.cut h rfl
theorem freezes_rv (r : Rel ρ st H) : ∀ {ts us : List T} {vs : List V}, RVs ρ H ts vs → freezes st n ts = some us → RVs (ρ.cut n) H us vs
  | [], _, _, h, e => by unfold freezes at e; cases e; exact h
  | t :: ts, _, _, h, e => by
    obtain ⟨x, q, rfl, h1, h2⟩ := h
    unfold freezes at e
    split at e
    · rename_i u us e1 e2
      cases e
      exact ⟨x, q, rfl, freeze_rv r h1 e1, freezes_rv r h2 e2⟩
    · cases e
theorem freezeR_rv (r : Rel ρ st H) : ∀ {ts us : List T} {vs : List V}, RVs ρ H ts vs → freezeR st n ts = some us → RVs (ρ.cut n) H us vs
  | [], _, _, h, e => by unfold freezeR at e; cases e; exact h
  | t :: ts, _, _, h, e => by
    obtain ⟨x, q, rfl, h1, h2⟩ := h
    unfold freezeR at e
    split at e
    · rename_i u us e1 e2
      cases e
      refine ⟨x, q, rfl, ?_, freezeR_rv r h2 e2⟩
      split at e1
      · rename_i hb
        cases e1
        exact RV.cut h1 hb
      · rename_i hnb
        split at e1
        · rename_i k
          obtain ⟨a, rfl, g⟩ := h1
          split at e1
          · rename_i ws hs
            split at e1
            · rename_i hb
              cases e1
              obtain ⟨b, g', xs, h3, h4⟩ := r.addr hs
              rw [g] at g'; cases g'
              exact ⟨a, xs, rfl, h3, r.late g (fun z => hnb (decide_eq_true z)), h4.cut hb⟩
            · cases e1
          · cases e1
        · cases e1
    · cases e
end
end
theorem Ext.cut {ρ ρ' : Ro} {H H' : Hp} (e : Ext ρ H ρ' H') : Ext ρ H (ρ'.cut ρ.s.length) H' := by
  obtain ⟨r, hr⟩ := e.pre
  have hs : (ρ'.cut ρ.s.length).s = ρ.s := by show ρ'.s.take _ = _; rw [hr]; simp
  exact ⟨⟨[], by rw [hs]; simp⟩, e.K, e.dsub, e.dfresh, fun b hb => .inl (by rw [hs] at hb; exact hb), e.tups, e.keep, e.tbl⟩
theorem spM_pop {K : PySem.W.Frag} {mg : Str → Option Value} {n : Nat} {f : List T → M T} (vs : List V) (H : Hp) (Q : VK) (E : XK) (h : spM K mg n (popS f) vs H Q E) : spM K mg n f vs H Q E := by
  obtain ⟨ρ, st, ts, hK, rel, rv, hl, h⟩ := h
  refine ⟨ρ, st, ts, hK, rel, rv, hl, ?_⟩
  unfold popS at h
  cases hf : f ts st with
  | ok t st' =>
    rw [hf] at h
    have h : Fin mg (fun c d _ H => E c d H) ρ H [] (if (st'.take st.length).all (obBelow st.length) then match freeze st' st.length t with
      | some u => R.ok u (st'.take st.length)
      | none => .stuck
    else .stuck) (KQ Q) := h
    split at h
    · rename_i hb
      split at h
      · rename_i u hu
        intro ρ' H' x rel' v rv'
        have xc := x.cut
        rw [rel.len] at xc
        exact h _ H' xc (rel'.cut hb) v (freeze_rv rel' rv' hu)
      · exact h.elim
    · exact h.elim
  | exc xx st' =>
    rw [hf] at h
    have h : Fin mg (fun c d _ H => E c d H) ρ H [] (if (st'.take st.length).all (obBelow st.length) ∧ belows st.length (xx.fs.map (·.2)) then R.exc xx (st'.take st.length) else .stuck) (KQ Q) := h
    split at h
    · rename_i hb
      intro ρ' H' c d x rel' rx
      have xc := x.cut
      rw [rel.len] at xc
      obtain ⟨C, dd, fs, e1, e2, e3, e4, e5, e6⟩ := rx
      exact h _ H' c d xc (rel'.cut hb.1) ⟨C, dd, fs, e1, e2, e3, e4, e5.cut hb.2, fun z => e6 (List.mem_of_mem_take z)⟩
    · exact h.elim
  | stuck => rw [hf] at h; exact h.elim
theorem popMG {P : Program} {w : World} {K : PySem.W.Frag} {mg : Str → Option Value} {base : Heap} {CX : CXT} {k n : Nat} {f : Addr} {fd : FuncData} {ps : List Str} {fm : List T → M T} (F : HX.FnG P w K mg base CX k f fd ps (spM K mg n fm)) :
    HX.FnG P w K mg base CX k f fd ps (spM K mg n (popS fm)) := F.imp spM_pop
end Mir
namespace HX
open PySem PySem.Spec PyProof.Rows
section
variable {prog : Program} {w : World} {A : Around} {s : Shared} {R : Result → Shared → Prop}
variable {I : Addr} {fp wr : List Addr} {G : Array GenState → Array GenState → Prop} {n : Nat} {P : Nat → Value → Prop} {St : Nat → Shared → Prop}
theorem extend_walk (W : WalksS prog w A.in1 I fp wr G n P St) {T : String} (hTl : (Value.type T == Value.type "list") = false) (hTt : (Value.type T == Value.type "tuple") = false) (hT : ∀ i s, St i s → s.TypeIs (.ref I) T)
    (hint : ∀ (s : Shared) (Q : Bool → Shared → Prop) (E : Value → Shared → Prop), St 0 s → (∀ b, Q b s) → wpAny (model prog w) A.in1 (Builtin.List.listLengthHint (.ref I)) Q E s)
    (S : Addr) (res : Value) (c₀ : Nat) (hst : St 0 s) (hSf : S ∉ fp) (hI : I ∈ fp)
    (hS : s.heap.get? S = some { cls := .type "list", data := .seq #[] c₀ })
    (hR : ∀ s' acc' c', Moved (S :: wr) G s s' → s'.heap.get? S = some { cls := .type "list", dict := none, data := .seq acc' c', slots := #[] } → ItemsOf P acc' n → R (.ok (.ret res)) s') (hn : n ≤ sizeLine) :
    wpAny (model prog w) A.in1 (Builtin.List.listExtendWith (.ref S) (.ref I) res)
      (fun fin s' => match fin with | .done f => R (.ok f) s' | .again c' => c'.quiet = true ∧ codeAny (model prog w) A c' R s') (fun e s' => R (.error e) s') s := by
  have hSI : S ≠ I := fun e => hSf (e ▸ hI)
  unfold Builtin.List.listExtendWith
  refine wpAny_bind (wpAny_typeOf (hT 0 _ hst) ?_)
  have h1 : Builtin.List.listSameRef (.ref S) (.ref I) = false := by simp [Builtin.List.listSameRef, hSI]
  simp only [h1, hTl, hTt, Bool.or_false, Bool.false_eq_true, if_false]
  refine wpAny_bind (W.self 0 _ _ _ hst ?_)
  refine wpAny_bind (wpAny_holding (hint _ _ _ hst fun b => ?_))
  have key : ∀ (h' : Heap) (c₁ : Nat), (∀ b o, b ≠ S → s.heap.get? b = some o → h'.get? b = some o) → h'.get? S = some { cls := .type "list", data := .seq #[] c₁ } →
      codeAny (model prog w) A (.builtin "list.extend.loop" ⟨[.ref S, .ref I, res], []⟩) R { s with heap := h' } := fun h' c₁ oth hS' =>
    codeAny_extend_loopS W hn _ hSf _ n 0 _ _ _ rfl (Nat.zero_le _)
      (W.frame 0 s _ s.toks hst (Nat.le_refl _) fun b hb o e => oth b o (fun h => hSf (h ▸ hb)) e) hS' (ItemsOf.nil P) fun s' acc' c' hm hS' hacc =>
      hR s' acc' c' (Moved.trans W.gtrans ((Moved.refl W.grefl).then_heap (Nat.le_refl _) fun b o hb e => oth b o (fun h => hb (h ▸ List.mem_cons_self)) e) hm) hS' hacc
  refine wpAny_ite_split (fun _ => ?_) (fun _ => wpAny_pure ⟨plainId_quiet F.plain_extend_loop _, key _ c₀ (fun _ _ _ e => e) hS⟩)
  refine wpAny_bind (wpAny_rule ?_)
  refine wpAny_bind ?_
  show wpAny _ A.in1 (updateSeq S (·.push .none) >>= fun _ => updateSeq S (·.pop)) _ _ _
  refine wpAny_bind (wpAny_updateSeq hS rfl ?_)
  have hS₂ := Heap.get?_update_self (Obj.mapSeq (·.push Value.none)) hS rfl
  refine wpAny_updateSeq (hz := by seq_fits) hS₂ rfl ?_
  have hS₃ := Heap.get?_update_self (Obj.mapSeq (·.pop)) hS₂ rfl
  exact wpAny_pure ⟨plainId_quiet F.plain_extend_loop _, key _ _ (fun b o hb e => (Heap.get?_update_other _ _ (Ne.symm hb)).trans ((Heap.get?_update_other _ _ (Ne.symm hb)).trans e)) hS₃⟩
theorem init_walk (W : WalksS prog w A.in1 I fp wr G n P St) {T : String} (hTl : (Value.type T == Value.type "list") = false) (hTt : (Value.type T == Value.type "tuple") = false) (hT : ∀ i s, St i s → s.TypeIs (.ref I) T)
    (hint : ∀ (s : Shared) (Q : Bool → Shared → Prop) (E : Value → Shared → Prop), St 0 s → (∀ b, Q b s) → wpAny (model prog w) A.in1 (Builtin.List.listLengthHint (.ref I)) Q E s)
    (S : Addr) (hst : St 0 s) (hSf : S ∉ fp) (hI : I ∈ fp)
    (hS : s.heap.get? S = some { cls := .type "list", data := .seq #[] })
    (hR : ∀ s' acc' c', Moved (S :: wr) G s s' → s'.heap.get? S = some { cls := .type "list", dict := none, data := .seq acc' c', slots := #[] } → ItemsOf P acc' n → R (.ok (.ret .none)) s') (hn : n ≤ sizeLine) :
    wpAny (model prog w) A.in1 (Builtin.«list.__init__» ⟨[.ref S, .ref I], []⟩)
      (fun fin s' => match fin with | .done f => R (.ok f) s' | .again c' => c'.quiet = true ∧ codeAny (model prog w) A c' R s') (fun e s' => R (.error e) s') s := by
  show wpAny _ A.in1 (do let old ← Builtin.List.listItems (.ref S); Builtin.List.listUpdate (.ref S) (fun _ => #[]); letGo old.toList.reverse; Builtin.List.listExtendWith (.ref S) (.ref I) .none) _ _ s
  refine wpAny_bind ?_
  unfold Builtin.List.listItems
  refine wpAny_bind (wpAny_seqItems hS rfl (wpAny_pure ?_))
  show wpAny _ A.in1 (updateSeq S (fun _ => #[]) >>= fun _ => letGo (#[] : Array Value).toList.reverse >>= fun _ => Builtin.List.listExtendWith (.ref S) (.ref I) .none) _ _ s
  refine wpAny_bind (wpAny_updateSeq hS rfl ?_)
  have hS₂ := Heap.get?_update_self (Obj.mapSeq (fun _ => (#[] : Array Value))) hS rfl
  have oth : ∀ b o, b ≠ S → s.heap.get? b = some o → (s.heap.update S (Obj.mapSeq (fun _ => (#[] : Array Value)))).get? b = some o :=
    fun b o hb e => (Heap.get?_update_other _ _ (Ne.symm hb)).trans e
  refine wpAny_bind (wpAny_letGo ?_)
  refine extend_walk W hTl hTt hT hint S .none _ (W.frame 0 s _ s.toks hst (Nat.le_refl _) fun b hb o e => oth b o (fun h => hSf (h ▸ hb)) e) hSf hI hS₂ (fun s' acc' c' hm hS' hacc => ?_) hn
  exact hR s' acc' c' (Moved.trans W.gtrans ((Moved.refl W.grefl).then_heap (Nat.le_refl _) fun b o hb e => oth b o (fun h => hb (h ▸ List.mem_cons_self)) e) hm) hS' hacc
end
section
variable {prog : Program} {w : World} {A : Around} {E : Value → Shared → Prop} {s : Shared}
variable {I : Addr} {fp wr : List Addr} {G : Array GenState → Array GenState → Prop} {n : Nat} {P : Nat → Value → Prop} {St : Nat → Shared → Prop}
theorem call_list_walk {Q : Value → Shared → Prop} (W : WalksS prog w A.in1.in1 I fp wr G n P St) {T : String} (hTl : (Value.type T == Value.type "list") = false) (hTt : (Value.type T == Value.type "tuple") = false) (hT : ∀ i s, St i s → s.TypeIs (.ref I) T)
    (hint : ∀ (s : Shared) (Q : Bool → Shared → Prop) (E : Value → Shared → Prop), St 0 s → (∀ b, Q b s) → wpAny (model prog w) A.in1.in1 (Builtin.List.listLengthHint (.ref I)) Q E s)
    (hst : St 0 s) (hfp : ∀ b ∈ fp, b < s.heap.objs.size) (hI : I ∈ fp)
    (hQ : ∀ s' acc' c', Moved (s.heap.objs.size :: wr) G { s with heap := s.heap.push { cls := .type "list", data := .seq #[] } } s' →
      s'.heap.get? s.heap.objs.size = some { cls := .type "list", dict := none, data := .seq acc' c', slots := #[] } → ItemsOf P acc' n → Q (.ref s.heap.objs.size) s') (hn : n ≤ sizeLine) :
    wpAny (model prog w) A (call (.type "list") [.ref I]) Q E s := by
  have hSf : s.heap.objs.size ∉ fp := fun hm => Nat.lt_irrefl _ (hfp _ hm)
  refine callType_codes (Q₁ := fun obj s₁ => obj = .ref s.heap.objs.size ∧ s₁ = { s with heap := s.heap.push { cls := .type "list", data := .seq #[] } }) F.called_list (F.typeCall_list_1 _) F.entry_list_init
    (code_list_new _ ⟨rfl, rfl⟩) fun obj s₁ h₁ => ?_
  obtain ⟨rfl, rfl⟩ := h₁
  have hS : (s.heap.push { cls := .type "list", data := .seq #[] }).get? s.heap.objs.size = some { cls := .type "list", data := .seq #[] } := Heap.get?_push_size _ rfl
  refine ⟨⟨_, hS, rfl⟩, F.args_list_init_2 _ _, init_walk W hTl hTt hT hint _ (W.frame 0 s _ s.toks hst (Nat.le_refl _) fun b _ o e => Heap.get?_push_of_some _ e) hSf hI hS (fun s' acc' c' hm hS' hacc => ?_) hn⟩
  exact ⟨rfl, hQ s' acc' c' hm hS' hacc⟩
theorem hint_rev {it l : Addr} {i : Int} {Q : Bool → Shared → Prop} (hit : s.heap.IsRevIter it l i) (h : ∀ b, Q b s) : wpAny (model prog w) A (Builtin.List.listLengthHint (.ref it)) Q E s := by
  have hT : s.TypeIs (.ref it) "list_reverseiterator" := hit.typeIs
  unfold Builtin.List.listLengthHint
  refine wpAny_bind (wpAny_specialOf hT RT.nolen_lri ?_)
  show wpAny _ A (specialOf (Value.ref it) (Str.ofString "__length_hint__") >>= _) _ _ _
  refine wpAny_bind (wpAny_specialOf hT RT.hint_lri ?_)
  generalize hid : ("list_reverseiterator.__length_hint__" : String) = id0
  wp_delta
  rw [show splitId id0 = some ("list_reverseiterator", "__length_hint__") from by subst hid; decide +kernel]
  subst hid
  refine wpAny_bind (wpAny_isInstance (b := true) hT (by rw [isSubtype_type]; kernel_rfl) ?_)
  exact wpAny_pure (h _)
theorem zip_no_len : typeLookup (.type "zip") "__len__" = pure none := am_miss_of_fast (by decide +kernel)
theorem zip_no_hint : typeLookup (.type "zip") "__length_hint__" = pure none := am_miss_of_fast (by decide +kernel)
theorem hint_zip {z : Addr} {Q : Bool → Shared → Prop} (hT : s.TypeIs (.ref z) "zip") (h : ∀ b, Q b s) : wpAny (model prog w) A (Builtin.List.listLengthHint (.ref z)) Q E s := by
  unfold Builtin.List.listLengthHint
  refine wpAny_bind (wpAny_specialOf hT zip_no_len ?_)
  show wpAny _ A (specialOf (Value.ref z) (Str.ofString "__length_hint__") >>= _) _ _ _
  refine wpAny_bind (wpAny_specialOf hT zip_no_hint ?_)
  exact wpAny_pure (h _)
end
end HX
namespace HX
open PySem PySem.Spec PyProof.Rows
section
variable {prog : Program} {w : World} {A : Around} {E : Value → Shared → Prop} {s : Shared} {z TI TO i1 i2 : Addr} {fp1 fp2 : List Addr} {n1 n2 i : Nat} {P1 P2 : Nat → Value → Prop} {St1 St2 : Nat → Heap → Prop} {a1 a2 : Value}
theorem zipH_next_item {T : Addr} {f : Bool} {oT : Obj} {Q : Value → Shared → Prop} (S : ZipSep2 z TI TO i1 i2 fp1 fp2) (D1 : Draws prog w A i1 fp1 n1 P1 St1) (D2 : Draws prog w A i2 fp2 n2 P2 St2)
    (hz : IsZipHeld s.heap z TI TO T f) (hT : s.heap.get? T = some oT) (hTI : IsTupOf2 s.heap TI (.ref i1) (.ref i2)) (st1 : St1 i s.heap) (st2 : St2 i s.heap) (hlt1 : i < n1) (hlt2 : i < n2)
    (hQ : ∀ x1 x2 h' tk, P1 i x1 → P2 i x2 → IsZipHeld h' z TI TO T true → St1 (i + 1) h' → St2 (i + 1) h' → IsTupOf2 h' s.heap.objs.size x1 x2 → h'.objs.size = s.heap.objs.size + 1 →
      (∀ c o, c ≠ z → c ≠ i1 → c ≠ i2 → s.heap.get? c = some o → h'.get? c = some o) → Q (.ref s.heap.objs.size) { s with heap := h', toks := tk }) :
    wpAny (model prog w) A (Builtin.«zip.__next__» ⟨[.ref z], []⟩) (fun fin s' => ∃ v, fin = .done (.ret v) ∧ Q v s') E s := by
  obtain ⟨hp, g, d, tk0, os⟩ := s
  show wpAny _ _ (field (.ref z) 2 >>= _) _ _ _
  refine wpAny_bind (wpAny_field hz rfl (x := .bool false) rfl ?_)
  show wpAny _ _ (field (.ref z) 3 >>= _) _ _ _
  refine wpAny_bind (wpAny_field hz rfl (x := .ref TI) rfl ?_)
  refine wpAny_bind (wpAny_seqItems hTI rfl ?_)
  show wpAny _ _ (Builtin.SmallTypes.ownedTupleIsFree (.ref z) >>= _) _ _ _
  refine wpAny_bind (wpAny_tupleHeld_zip hz hT fun g0 hz0 hs0 => ?_)
  replace hs0 : Heap.SameBut z hp g0 := hs0
  simp only [Bool.false_eq_true, if_false]
  refine wpAny_bind ?_
  rw [← Array.forIn_toList]
  simp only [List.forIn_cons, List.forIn_nil]
  refine wpAny_bind (wpAny_bind (wpAny_holding ?_))
  show wpAny _ _ (Builtin.SmallTypes.nextOf (.ref i1) >>= _) _ _ ⟨g0, g, d, tk0, os⟩
  refine wpAny_bind (D1.item i _ _ _ hlt1 (D1.over st1 hs0 S.zf1) fun x1 p1 tk1 hx1 sn1 hp1 => wpAny_pure ?_)
  replace hp1 : Heap.SameBut i1 g0 p1 := hp1
  refine wpAny_pure ?_
  refine wpAny_bind (wpAny_bind (wpAny_holding ?_))
  show wpAny _ _ (Builtin.SmallTypes.nextOf (.ref i2) >>= _) _ _ ⟨p1, g, d, tk1, os⟩
  refine wpAny_bind (D2.item i _ _ _ hlt2 (D2.over (D2.over st2 hs0 S.zf2) hp1 S.sep1_2) fun x2 p2 tk2 hx2 sn2 hp2 => wpAny_pure ?_)
  replace hp2 : Heap.SameBut i2 p1 p2 := hp2
  refine wpAny_pure (wpAny_pure ?_)
  show wpAny _ _ (newTuple [x1, x2] >>= _) _ _ _
  refine wpAny_bind (wpAny_newTuple ?_)
  have hsz : p2.objs.size = hp.objs.size := by rw [hp2.1, hp1.1, hs0.1]
  have hz3 : IsZipHeld p2 z TI TO T true := hp2.extBut _ _ S.zi2 (hp1.extBut _ _ S.zi1 hz0)
  have hk : ∀ c o, c ≠ z → c ≠ i1 → c ≠ i2 → hp.get? c = some o → p2.get? c = some o := fun c o c1 c2 c3 e => hp2.extBut _ _ c3 (hp1.extBut _ _ c2 (hs0.extBut _ _ c1 e))
  have hj1 : St1 (i + 1) p2 := D1.over sn1 hp2 S.sep2_1
  refine wpAny_pure ⟨_, rfl, ?_⟩
  show Q (.ref p2.objs.size) _
  have hpp : IsTupOf2 (p2.push { cls := .type "tuple", data := .seq #[x1, x2] }) p2.objs.size x1 x2 := Heap.get?_push_size _ rfl
  have hz4 : (p2.push { cls := .type "tuple", data := .seq #[x1, x2] }).objs.size = p2.objs.size + 1 := Heap.size_push ..
  rw [hsz] at hpp hz4 ⊢
  exact hQ x1 x2 _ tk2 hx1 hx2 (Heap.get?_push_of_some _ hz3) (D1.frame _ _ _ hj1 fun b _ o e => Heap.get?_push_of_some _ e) (D2.frame _ _ _ sn2 fun b _ o e => Heap.get?_push_of_some _ e) hpp hz4 fun c o c1 c2 c3 e => Heap.get?_push_of_some _ (hk c o c1 c2 c3 e)
theorem zipH_next_end {T : Addr} {f : Bool} {oT : Obj} {Q : Fin → Shared → Prop} (S : ZipSep2 z TI TO i1 i2 fp1 fp2) (D1 : Draws prog w A i1 fp1 n1 P1 St1) (D2 : Draws prog w A i2 fp2 n2 P2 St2)
    (hz : IsZipHeld s.heap z TI TO T f) (hT : s.heap.get? T = some oT) (hTI : IsTupOf2 s.heap TI (.ref i1) (.ref i2)) (st1 : St1 i s.heap) (st2 : St2 i s.heap) (hle1 : i ≤ n1) (hle2 : i ≤ n2) (hend : i = n1 ∨ i = n2)
    (hE : ∀ h' tk e, (∀ c o, c ≠ z → c ≠ i1 → c ≠ i2 → s.heap.get? c = some o → h'.get? c = some o) → (∃ o, h'.get? e = some o ∧ o.cls = .type "StopIteration") → E (.ref e) { s with heap := h', toks := tk }) :
    wpAny (model prog w) A (Builtin.«zip.__next__» ⟨[.ref z], []⟩) Q E s := by
  obtain ⟨hp, g, d, tk0, os⟩ := s
  show wpAny _ _ (field (.ref z) 2 >>= _) _ _ _
  refine wpAny_bind (wpAny_field hz rfl (x := .bool false) rfl ?_)
  show wpAny _ _ (field (.ref z) 3 >>= _) _ _ _
  refine wpAny_bind (wpAny_field hz rfl (x := .ref TI) rfl ?_)
  refine wpAny_bind (wpAny_seqItems hTI rfl ?_)
  show wpAny _ _ (Builtin.SmallTypes.ownedTupleIsFree (.ref z) >>= _) _ _ _
  refine wpAny_bind (wpAny_tupleHeld_zip hz hT fun g0 hz0 hs0 => ?_)
  replace hs0 : Heap.SameBut z hp g0 := hs0
  simp only [Bool.false_eq_true, if_false]
  refine wpAny_bind ?_
  rw [← Array.forIn_toList]
  simp only [List.forIn_cons, List.forIn_nil]
  refine wpAny_bind (wpAny_bind (wpAny_holding ?_))
  show wpAny _ _ (Builtin.SmallTypes.nextOf (.ref i1) >>= _) _ _ ⟨g0, g, d, tk0, os⟩
  by_cases hlt1 : i < n1
  · refine wpAny_bind (D1.item i _ _ _ hlt1 (D1.over st1 hs0 S.zf1) fun x1 p1 tk1 hx1 sn1 hp1 => wpAny_pure ?_)
    replace hp1 : Heap.SameBut i1 g0 p1 := hp1
    have hi2 : i = n2 := by omega
    refine wpAny_pure ?_
    refine wpAny_bind (wpAny_bind (wpAny_holding ?_))
    show wpAny _ _ (Builtin.SmallTypes.nextOf (.ref i2) >>= _) _ _ ⟨p1, g, d, tk1, os⟩
    refine wpAny_bind (D2.done ⟨p1, g, d, tk1, os⟩ _ _ (by rw [← hi2]; exact D2.over (D2.over st2 hs0 S.zf2) hp1 S.sep1_2) fun q e hq he => ?_)
    replace hq : Heap.ExtBut i2 p1 q := hq
    exact hE q tk1 e (fun c o cz c1 c2 x => hq _ _ c2 (hp1.extBut _ _ c1 (hs0.extBut _ _ cz x))) he
  · have hi1 : i = n1 := by omega
    refine wpAny_bind (D1.done ⟨g0, g, d, tk0, os⟩ _ _ (by rw [← hi1]; exact (D1.over st1 hs0 S.zf1)) fun q e hq he => ?_)
    replace hq : Heap.ExtBut i1 g0 q := hq
    exact hE q tk0 e (fun c o cz c1 c2 x => hq _ _ c1 (hs0.extBut _ _ cz x)) he
structure ZS (z TI TO i1 i2 : Addr) (St1 St2 : Nat → Heap → Prop) (i : Nat) (h : Heap) : Prop where
  ti : IsTupOf2 h TI (.ref i1) (.ref i2)
  s1 : St1 i h
  s2 : St2 i h
  to : ∃ o, h.get? TO = some o
  zz : (IsZip h z TI TO .none ∧ ∃ a b, IsTupOf2 h TO a b) ∨ ∃ T f oT, IsZipHeld h z TI TO T f ∧ h.get? T = some oT ∧ T ≠ z ∧ T ≠ TO ∧ T ≠ i1 ∧ T ≠ i2
theorem ZS.typeIs (x : ZS z TI TO i1 i2 St1 St2 i s.heap) : s.TypeIs (.ref z) "zip" := by
  rcases x.zz with ⟨h, _⟩ | ⟨T, f, oT, h, _⟩
  · exact ⟨_, h, rfl⟩
  · exact ⟨_, h, rfl⟩
theorem zip_next {Q : Option Value → Shared → Prop} (S : ZipSep2 z TI TO i1 i2 fp1 fp2) (D1 : Draws prog w A.in1 i1 fp1 n1 P1 St1) (D2 : Draws prog w A.in1 i2 fp2 n2 P2 St2) (x : ZS z TI TO i1 i2 St1 St2 i s.heap) (hlt1 : i < n1) (hlt2 : i < n2)
    (hQ : ∀ x1 x2 h' tk, P1 i x1 → P2 i x2 → ZS z TI TO i1 i2 St1 St2 (i + 1) h' → IsTupOf2 h' s.heap.objs.size x1 x2 →
      (∀ c o, c ≠ z → c ≠ TO → c ≠ i1 → c ≠ i2 → s.heap.get? c = some o → h'.get? c = some o) → Q (some (.ref s.heap.objs.size)) { s with heap := h', toks := tk }) :
    wpAny (model prog w) A (pyNext (.ref z)) Q E s := by
  obtain ⟨o1, ho1⟩ := D1.live _ _ x.s1
  obtain ⟨o2, ho2⟩ := D2.live _ _ x.s2
  have l1 := Heap.lt_size ho1
  have l2 := Heap.lt_size ho2
  rcases x.zz with ⟨hz, a, b, hTO⟩ | ⟨T, f, oT, hz, hT, n1', n2', n3', n4'⟩
  · have lz := Heap.lt_size hz
    have lT := Heap.lt_size hTO
    exact wpAny_pyNext_zipD2_item S D1 D2 hz x.ti hTO x.s1 x.s2 hlt1 hlt2 fun x1 x2 h' tk p1 p2 hz' hTO' s1 s2 hp hsz hk =>
      hQ x1 x2 h' tk p1 p2 ⟨hk _ _ S.TIz S.TITO S.TIi1 S.TIi2 x.ti, s1, s2, ⟨_, hTO'⟩, .inr ⟨s.heap.objs.size, false, _, hz', hp, Nat.ne_of_gt lz, Nat.ne_of_gt lT, Nat.ne_of_gt l1, Nat.ne_of_gt l2⟩⟩ hp hk
  · have hTy : s.TypeIs (.ref z) "zip" := ⟨_, hz, rfl⟩
    unfold pyNext
    exact wpAny_bind (wpAny_attempt (wpAny_callSpecial?_slot (name := Str.ofString "__next__") hTy F.slot_zip_next
      (wpAny_call_entry F.slot_zip_next hTy F.entry_zip_next
        (zipH_next_item S D1 D2 hz hT x.ti x.s1 x.s2 hlt1 hlt2 fun x1 x2 h' tk p1 p2 hz' s1 s2 hp hsz hk => wpAny_pure
          (hQ x1 x2 h' tk p1 p2 ⟨hk _ _ S.TIz S.TIi1 S.TIi2 x.ti, s1, s2, (x.to.elim fun o h => ⟨o, hk _ _ S.TOz S.Ti1 S.Ti2 h⟩), .inr ⟨T, true, oT, hz', hk _ _ n1' n3' n4' hT, n1', n2', n3', n4'⟩⟩ hp fun c o c1 c2 c3 c4 e => hk c o c1 c3 c4 e)) (F.args_zip_next_1 _))))
theorem zip_end {Q : Option Value → Shared → Prop} (S : ZipSep2 z TI TO i1 i2 fp1 fp2) (D1 : Draws prog w A.in1 i1 fp1 n1 P1 St1) (D2 : Draws prog w A.in1 i2 fp2 n2 P2 St2) (x : ZS z TI TO i1 i2 St1 St2 i s.heap) (hle1 : i ≤ n1) (hle2 : i ≤ n2) (hend : i = n1 ∨ i = n2)
    (hQ : ∀ h' tk, (∀ c o, c ≠ z → c ≠ TO → c ≠ i1 → c ≠ i2 → s.heap.get? c = some o → h'.get? c = some o) → Q none { s with heap := h', toks := tk }) :
    wpAny (model prog w) A (pyNext (.ref z)) Q E s := by
  rcases x.zz with ⟨hz, a, b, hTO⟩ | ⟨T, f, oT, hz, hT, n1', n2', n3', n4'⟩
  · exact wpAny_pyNext_zipD2_end S D1 D2 hz x.ti hTO x.s1 x.s2 hle1 hle2 hend fun h' tk hk => hQ h' tk hk
  · have hTy : s.TypeIs (.ref z) "zip" := ⟨_, hz, rfl⟩
    unfold pyNext
    refine wpAny_bind (wpAny_attempt (wpAny_callSpecial?_slot (name := Str.ofString "__next__") hTy F.slot_zip_next
      (wpAny_call_entry F.slot_zip_next hTy F.entry_zip_next (zipH_next_end S D1 D2 hz hT x.ti x.s1 x.s2 hle1 hle2 hend fun h' tk e hk he => ?_) (F.args_zip_next_1 _))))
    obtain ⟨o, ho, hc⟩ := he
    refine wpAny_bind (wpAny_isInstance (T := "StopIteration") (b := true) ⟨o, ho, hc⟩ isSubtype_stop ?_)
    exact wpAny_pure (hQ _ _ fun c o c1 c2 c3 c4 e => hk c o c1 c3 c4 e)
end
def Pairs (h0 : Heap) (ex : List Addr) (P1 P2 : Nat → Value → Prop) (h : Heap) (acc : Array Value) (i : Nat) : Prop :=
  acc.size = i ∧ ∀ j v, acc[j]? = some v → ∃ T x1 x2, v = .ref T ∧ T ∉ ex ∧ IsTupOf2 h T x1 x2 ∧ P1 j x1 ∧ P2 j x2 ∧ h0.get? T = none
theorem Pairs.keep {h0 : Heap} {ex : List Addr} {P1 P2 : Nat → Value → Prop} {h h' : Heap} {acc : Array Value} {i : Nat} (p : Pairs h0 ex P1 P2 h acc i) (k : ∀ c o, c ∉ ex → h.get? c = some o → h'.get? c = some o) : Pairs h0 ex P1 P2 h' acc i :=
  ⟨p.1, fun j v e => let ⟨T, x1, x2, a, b, c, d⟩ := p.2 j v e; ⟨T, x1, x2, a, b, k _ _ b c, d⟩⟩
section
variable {prog : Program} {w : World} {A : Around} {s : Shared} {h0 : Heap} {R : Result → Shared → Prop} {z TI TO i1 i2 : Addr} {fp1 fp2 : List Addr} {n1 n2 : Nat} {P1 P2 : Nat → Value → Prop} {St1 St2 : Nat → Heap → Prop}
theorem zip_loop (Sp : ZipSep2 z TI TO i1 i2 fp1 fp2) (D1 : Draws prog w A.in1.in1 i1 fp1 n1 P1 St1) (D2 : Draws prog w A.in1.in1 i2 fp2 n2 P2 St2) (hn : min n1 n2 ≤ sizeLine) (S : Addr) (hS1 : S ∉ fp1) (hS2 : S ∉ fp2) (hSz : S ≠ z) (hST : S ≠ TI) (hSO : S ≠ TO) (res : Value) :
    ∀ (k i : Nat) (s : Shared) (acc : Array Value) (c : Nat), min n1 n2 - i = k → i ≤ min n1 n2 → ZS z TI TO i1 i2 St1 St2 i s.heap → s.heap.get? S = some { cls := .type "list", dict := none, data := .seq acc c, slots := #[] } → Pairs h0 [S, z, TO, i1, i2] P1 P2 s.heap acc i → (∀ b o, b ∉ [S, z, TO, i1, i2] → h0.get? b = some o → s.heap.get? b = some o) →
    (∀ h' tk acc' c', (∀ b o, b ∉ [S, z, TO, i1, i2] → s.heap.get? b = some o → h'.get? b = some o) → h'.get? S = some { cls := .type "list", dict := none, data := .seq acc' c', slots := #[] } → Pairs h0 [S, z, TO, i1, i2] P1 P2 h' acc' (min n1 n2) → R (.ok (.ret res)) { s with heap := h', toks := tk }) →
    codeAny (model prog w) A (.builtin "list.extend.loop" ⟨[.ref S, .ref z, res], []⟩) R s := by
  have hSi1 : S ≠ i1 := fun e => hS1 (e ▸ Sp.mem1)
  have hSi2 : S ≠ i2 := fun e => hS2 (e ▸ Sp.mem2)
  have out : ∀ {c : Addr}, c ∉ [S, z, TO, i1, i2] → c ≠ S ∧ c ≠ z ∧ c ≠ TO ∧ c ≠ i1 ∧ c ≠ i2 := fun {c} h => by
    simp only [List.mem_cons, List.not_mem_nil, or_false, not_or] at h
    exact h
  intro k
  induction k with
  | zero =>
    intro i s acc c hk hi x hS hp hk0 hR
    have hin : i = min n1 n2 := by omega
    refine codeAny_builtin F.entry_extend_loop ?_
    rw [Around.under_plainId F.plain_extend_loop _]
    show wpAny _ A.in1 (pyNext (.ref z) >>= _) _ _ s
    refine wpAny_bind (zip_end Sp D1 D2 x (by omega) (by omega) (by omega) fun h' tk hk' => ?_)
    refine wpAny_pure (hR h' tk acc c (fun b o hb e => hk' b o (out hb).2.1 (out hb).2.2.1 (out hb).2.2.2.1 (out hb).2.2.2.2 e) (hk' S _ hSz hSO hSi1 hSi2 hS) ?_)
    rw [← hin]
    exact hp.keep fun b o hb e => hk' b o (out hb).2.1 (out hb).2.2.1 (out hb).2.2.2.1 (out hb).2.2.2.2 e
  | succ k ih =>
    intro i s acc c hk hi x hS hp hk0 hR
    refine codeAny_builtin F.entry_extend_loop ?_
    rw [Around.under_plainId F.plain_extend_loop _]
    show wpAny _ A.in1 (pyNext (.ref z) >>= _) _ _ s
    obtain ⟨o1, ho1⟩ := D1.live _ _ x.s1
    obtain ⟨o2, ho2⟩ := D2.live _ _ x.s2
    have lz : z < s.heap.objs.size := by rcases x.zz with ⟨h, _⟩ | ⟨T, f, oT, h, _⟩ <;> exact Heap.lt_size h
    have lO : TO < s.heap.objs.size ∨ True := .inr trivial
    refine wpAny_bind (zip_next Sp D1 D2 x (by omega) (by omega) fun x1 x2 h' tk p1 p2 x' hT hk' => ?_)
    have hS' := hk' S _ hSz hSO hSi1 hSi2 hS
    show wpAny _ A.in1 (updateSeq S (·.push (.ref s.heap.objs.size)) >>= _) _ _ _
    refine wpAny_bind ?_
    have lS : S < s.heap.objs.size := Heap.lt_size hS
    have nS : s.heap.objs.size ≠ S := Nat.ne_of_gt lS
    have upd : ∀ b o, b ≠ S → h'.get? b = some o → (h'.update S (Obj.mapSeq (·.push (.ref s.heap.objs.size)))).get? b = some o := fun b o hb e => (Heap.get?_update_other _ _ (Ne.symm hb)).trans e
    have nTO : s.heap.objs.size ≠ TO := by
      obtain ⟨o, h⟩ := x.to
      exact Nat.ne_of_gt (Heap.lt_size h)
    refine wpAny_updateSeq hS' rfl (wpAny_pure ⟨plainId_quiet F.plain_extend_loop _, ih (i + 1) _ (acc.push (.ref s.heap.objs.size)) _ (by omega) (by omega) ?_ (Heap.get?_update_self _ hS' rfl) ?_ (fun b o hb e => upd b o (out hb).1 (hk' b o (out hb).2.1 (out hb).2.2.1 (out hb).2.2.2.1 (out hb).2.2.2.2 (hk0 b o hb e))) fun h'' tk'' acc' c' hk'' hS'' hp'' => ?_⟩)
      (by rw [hp.1]; omega) (by show (acc.push _).size ≤ sizeLine + 1; rw [Array.size_push, hp.1]; omega)
    · refine ⟨upd _ _ (Ne.symm hST) x'.ti, D1.frame _ _ _ x'.s1 fun b hb o e => upd b o (fun q => hS1 (q ▸ hb)) e, D2.frame _ _ _ x'.s2 fun b hb o e => upd b o (fun q => hS2 (q ▸ hb)) e, (x'.to.elim fun o h => ⟨o, upd _ _ (Ne.symm hSO) h⟩), ?_⟩
      rcases x'.zz with ⟨hz, a, b, hTO⟩ | ⟨T, f, oT, hz, hTT, m1, m2, m3, m4⟩
      · exact .inl ⟨upd _ _ (Ne.symm hSz) hz, a, b, upd _ _ (Ne.symm hSO) hTO⟩
      · by_cases hTS : T = S
        · subst hTS
          exact .inr ⟨T, f, _, upd _ _ m1.symm hz, Heap.get?_update_self _ hS' rfl, m1, m2, m3, m4⟩
        · exact .inr ⟨T, f, oT, upd _ _ (Ne.symm hSz) hz, upd _ _ hTS hTT, m1, m2, m3, m4⟩
    · refine ⟨by rw [Array.size_push, hp.1], fun j v e => ?_⟩
      by_cases hj : j = acc.size
      · subst hj
        have ev : v = .ref s.heap.objs.size := by
          rw [Array.getElem?_push_size] at e
          exact (Option.some.inj e).symm
        subst ev
        rw [hp.1]
        have nex : s.heap.objs.size ∉ [S, z, TO, i1, i2] := by
          simp only [List.mem_cons, List.not_mem_nil, or_false, not_or]
          exact ⟨nS, Nat.ne_of_gt lz, nTO, Nat.ne_of_gt (Heap.lt_size ho1), Nat.ne_of_gt (Heap.lt_size ho2)⟩
        refine ⟨_, x1, x2, rfl, nex, upd _ _ nS hT, p1, p2, ?_⟩
        cases q : h0.get? s.heap.objs.size with
        | none => rfl
        | some o => exact absurd (Heap.lt_size (hk0 _ _ nex q)) (Nat.lt_irrefl _)
      · rw [Array.getElem?_push, if_neg hj] at e
        obtain ⟨T, y1, y2, a, b, c, d⟩ := hp.2 j v e
        exact ⟨T, y1, y2, a, b, upd _ _ (out b).1 (hk' _ _ (out b).2.1 (out b).2.2.1 (out b).2.2.2.1 (out b).2.2.2.2 c), d⟩
    · exact hR h'' tk'' acc' c' (fun b o hb e => hk'' b o hb (upd b o (out hb).1 (hk' b o (out hb).2.1 (out hb).2.2.1 (out hb).2.2.2.1 (out hb).2.2.2.2 e))) hS'' hp''
theorem zip_extend (Sp : ZipSep2 z TI TO i1 i2 fp1 fp2) (D1 : Draws prog w A.in1.in1 i1 fp1 n1 P1 St1) (D2 : Draws prog w A.in1.in1 i2 fp2 n2 P2 St2) (hn : min n1 n2 ≤ sizeLine) (S : Addr) (hS1 : S ∉ fp1) (hS2 : S ∉ fp2) (hSz : S ≠ z) (hST : S ≠ TI) (hSO : S ≠ TO) (res : Value) (c₀ : Nat)
    (x : ZS z TI TO i1 i2 St1 St2 0 s.heap) (hS : s.heap.get? S = some { cls := .type "list", data := .seq #[] c₀ })
    (hk0 : ∀ b o, b ∉ [S, z, TO, i1, i2] → h0.get? b = some o → s.heap.get? b = some o)
    (hR : ∀ h' tk acc' c', (∀ b o, b ∉ [S, z, TO, i1, i2] → s.heap.get? b = some o → h'.get? b = some o) → h'.get? S = some { cls := .type "list", dict := none, data := .seq acc' c', slots := #[] } → Pairs h0 [S, z, TO, i1, i2] P1 P2 h' acc' (min n1 n2) → R (.ok (.ret res)) { s with heap := h', toks := tk }) :
    wpAny (model prog w) A.in1 (Builtin.List.listExtendWith (.ref S) (.ref z) res)
      (fun fin s' => match fin with | .done f => R (.ok f) s' | .again c' => c'.quiet = true ∧ codeAny (model prog w) A c' R s') (fun e s' => R (.error e) s') s := by
  unfold Builtin.List.listExtendWith
  refine wpAny_bind (wpAny_typeOf x.typeIs ?_)
  have h1 : Builtin.List.listSameRef (.ref S) (.ref z) = false := by simp [Builtin.List.listSameRef, hSz]
  have h2 : (Value.type "zip" == Value.type "list") = false := by decide
  have h3 : (Value.type "zip" == Value.type "tuple") = false := by decide
  simp only [h1, h2, h3, Bool.or_false, Bool.false_eq_true, if_false]
  have self : ∀ (Q : Value → Shared → Prop) (E : Value → Shared → Prop), Q (.ref z) s → wpAny (model prog w) A.in1 (pyIter (.ref z)) Q E s := fun Q E h => by
    rcases x.zz with ⟨hz, _⟩ | ⟨T, f, oT, hz, _⟩
    · exact wpAny_pyIter_zip hz h
    · exact iter_self z x.typeIs h
  refine wpAny_bind (self _ _ ?_)
  refine wpAny_bind (wpAny_holding (hint_zip x.typeIs fun b => ?_))
  have emp : ∀ h, Pairs h0 [S, z, TO, i1, i2] P1 P2 h #[] 0 := fun h => ⟨rfl, fun j v e => by simp at e⟩
  have key : ∀ (h' : Heap) (c₁ : Nat), (∀ b o, b ≠ S → s.heap.get? b = some o → h'.get? b = some o) → h'.get? S = some { cls := .type "list", data := .seq #[] c₁ } →
      codeAny (model prog w) A (.builtin "list.extend.loop" ⟨[.ref S, .ref z, res], []⟩) R { s with heap := h' } := fun h' c₁ oth hS' => by
    refine zip_loop Sp D1 D2 hn S hS1 hS2 hSz hST hSO res (min n1 n2) 0 _ #[] c₁ rfl (Nat.zero_le _) ⟨oth _ _ (Ne.symm hST) x.ti, D1.frame _ _ _ x.s1 fun b hb o e => oth b o (fun q => hS1 (q ▸ hb)) e, D2.frame _ _ _ x.s2 fun b hb o e => oth b o (fun q => hS2 (q ▸ hb)) e, (x.to.elim fun o h => ⟨o, oth _ _ (Ne.symm hSO) h⟩), ?_⟩ hS' (emp _) (fun b o hb e => oth b o (fun q => hb (q ▸ List.mem_cons_self)) (hk0 b o hb e)) fun h'' tk'' acc' c' hk hS'' hp => hR h'' tk'' acc' c' (fun b o hb e => hk b o hb (oth b o (fun q => hb (q ▸ List.mem_cons_self)) e)) hS'' hp
    rcases x.zz with ⟨hz, a, b, hTO⟩ | ⟨T, f, oT, hz, hTT, m1, m2, m3, m4⟩
    · exact .inl ⟨oth _ _ (Ne.symm hSz) hz, a, b, oth _ _ (Ne.symm hSO) hTO⟩
    · by_cases hTS : T = S
      · subst hTS
        exact .inr ⟨T, f, _, oth _ _ m1.symm hz, hS', m1, m2, m3, m4⟩
      · exact .inr ⟨T, f, oT, oth _ _ (Ne.symm hSz) hz, oth _ _ hTS hTT, m1, m2, m3, m4⟩
  refine wpAny_ite_split (fun _ => ?_) (fun _ => wpAny_pure ⟨plainId_quiet F.plain_extend_loop _, key _ c₀ (fun _ _ _ e => e) hS⟩)
  refine wpAny_bind (wpAny_rule ?_)
  refine wpAny_bind ?_
  show wpAny _ A.in1 (updateSeq S (·.push .none) >>= fun _ => updateSeq S (·.pop)) _ _ _
  refine wpAny_bind (wpAny_updateSeq hS rfl ?_)
  have hS₂ := Heap.get?_update_self (Obj.mapSeq (·.push Value.none)) hS rfl
  refine wpAny_updateSeq (hz := by seq_fits) hS₂ rfl ?_
  have hS₃ := Heap.get?_update_self (Obj.mapSeq (·.pop)) hS₂ rfl
  exact wpAny_pure ⟨plainId_quiet F.plain_extend_loop _, key _ _ (fun b o hb e => (Heap.get?_update_other _ _ (Ne.symm hb)).trans ((Heap.get?_update_other _ _ (Ne.symm hb)).trans e)) hS₃⟩
where
  iter_self (z : Addr) {s : Shared} {A : Around} {Q : Value → Shared → Prop} {E : Value → Shared → Prop} (hT : s.TypeIs (.ref z) "zip") (h : Q (.ref z) s) : wpAny (model prog w) A (pyIter (.ref z)) Q E s := by
    refine wpAny_pyIter_slot hT F.slot_zip_iter (wpAny_call_entry F.slot_zip_iter hT F.entry_zip_iter ?_ (F.args_zip_iter_1 _))
    show wpAny _ _ (ret (.ref z)) _ _ s
    exact wpAny_pure ⟨_, rfl, "zip", _, hT, F.slot_zip_next.lookup, h⟩
end
section
variable {prog : Program} {w : World} {A : Around} {E : Value → Shared → Prop} {s : Shared} {h0 : Heap} {z TI TO i1 i2 : Addr} {fp1 fp2 : List Addr} {n1 n2 : Nat} {P1 P2 : Nat → Value → Prop} {St1 St2 : Nat → Heap → Prop}
theorem call_list_zip {Q : Value → Shared → Prop} (Sp : ZipSep2 z TI TO i1 i2 fp1 fp2) (D1 : Draws prog w A.in1.in1.in1 i1 fp1 n1 P1 St1) (D2 : Draws prog w A.in1.in1.in1 i2 fp2 n2 P2 St2) (hn : min n1 n2 ≤ sizeLine)
    (hb1 : ∀ b ∈ fp1, b < s.heap.objs.size) (hb2 : ∀ b ∈ fp2, b < s.heap.objs.size) (x : ZS z TI TO i1 i2 St1 St2 0 s.heap)
    (hk0 : ∀ b o, b ∉ [z, TO, i1, i2] → h0.get? b = some o → s.heap.get? b = some o)
    (hQ : ∀ h' tk acc' c', (∀ b o, b ∉ [z, TO, i1, i2] → s.heap.get? b = some o → h'.get? b = some o) → h'.get? s.heap.objs.size = some { cls := .type "list", dict := none, data := .seq acc' c', slots := #[] } →
      Pairs h0 [s.heap.objs.size, z, TO, i1, i2] P1 P2 h' acc' (min n1 n2) → Q (.ref s.heap.objs.size) { s with heap := h', toks := tk }) :
    wpAny (model prog w) A (call (.type "list") [.ref z]) Q E s := by
  have hS1 : s.heap.objs.size ∉ fp1 := fun hm => Nat.lt_irrefl _ (hb1 _ hm)
  have hS2 : s.heap.objs.size ∉ fp2 := fun hm => Nat.lt_irrefl _ (hb2 _ hm)
  have lz : z < s.heap.objs.size := by rcases x.zz with ⟨h, _⟩ | ⟨T, f, oT, h, _⟩ <;> exact Heap.lt_size h
  have hSz : s.heap.objs.size ≠ z := Nat.ne_of_gt lz
  have hST : s.heap.objs.size ≠ TI := Nat.ne_of_gt (Heap.lt_size x.ti)
  have hSO : s.heap.objs.size ≠ TO := by
    obtain ⟨o, h⟩ := x.to
    exact Nat.ne_of_gt (Heap.lt_size h)
  refine callType_codes (Q₁ := fun obj s₁ => obj = .ref s.heap.objs.size ∧ s₁ = { s with heap := s.heap.push { cls := .type "list", data := .seq #[] } }) F.called_list (F.typeCall_list_1 _) F.entry_list_init
    (code_list_new _ ⟨rfl, rfl⟩) fun obj s₁ h₁ => ?_
  obtain ⟨rfl, rfl⟩ := h₁
  have hS : (s.heap.push { cls := .type "list", data := .seq #[] }).get? s.heap.objs.size = some { cls := .type "list", data := .seq #[] } := Heap.get?_push_size _ rfl
  refine ⟨⟨_, hS, rfl⟩, F.args_list_init_2 _ _, ?_⟩
  show wpAny _ A.in1.in1 (do let old ← Builtin.List.listItems (.ref s.heap.objs.size); Builtin.List.listUpdate (.ref s.heap.objs.size) (fun _ => #[]); letGo old.toList.reverse; Builtin.List.listExtendWith (.ref s.heap.objs.size) (.ref z) .none) _ _ _
  refine wpAny_bind ?_
  unfold Builtin.List.listItems
  refine wpAny_bind (wpAny_seqItems hS rfl (wpAny_pure ?_))
  show wpAny _ A.in1.in1 (updateSeq s.heap.objs.size (fun _ => #[]) >>= fun _ => letGo (#[] : Array Value).toList.reverse >>= fun _ => Builtin.List.listExtendWith (.ref s.heap.objs.size) (.ref z) .none) _ _ _
  refine wpAny_bind (wpAny_updateSeq hS rfl ?_)
  have hS₂ := Heap.get?_update_self (Obj.mapSeq (fun _ => (#[] : Array Value))) hS rfl
  have oth : ∀ b o, b ≠ s.heap.objs.size → s.heap.get? b = some o → ((s.heap.push { cls := .type "list", data := .seq #[] }).update s.heap.objs.size (Obj.mapSeq (fun _ => (#[] : Array Value)))).get? b = some o :=
    fun b o hb e => (Heap.get?_update_other _ _ (Ne.symm hb)).trans (Heap.get?_push_of_some _ e)
  refine wpAny_bind (wpAny_letGo ?_)
  refine zip_extend (A := A.in1) (h0 := h0) Sp D1 D2 hn s.heap.objs.size hS1 hS2 hSz hST hSO .none _ ⟨oth _ _ (Ne.symm hST) x.ti, D1.frame _ _ _ x.s1 fun b hb o e => oth b o (fun q => hS1 (q ▸ hb)) e, D2.frame _ _ _ x.s2 fun b hb o e => oth b o (fun q => hS2 (q ▸ hb)) e, (x.to.elim fun o h => ⟨o, oth _ _ (Ne.symm hSO) h⟩), ?_⟩ hS₂
    (fun b o hb e => oth b o (fun q => hb (q ▸ List.mem_cons_self)) (hk0 b o (fun q => hb (List.mem_cons_of_mem _ q)) e)) fun h' tk acc' c' hk hS' hp => ⟨rfl, hQ h' tk acc' c' (fun b o hb e => ?_) hS' hp⟩
  · rcases x.zz with ⟨hz, a, b, hTO⟩ | ⟨T, f, oT, hz, hTT, m1, m2, m3, m4⟩
    · exact .inl ⟨oth _ _ (Ne.symm hSz) hz, a, b, oth _ _ (Ne.symm hSO) hTO⟩
    · exact .inr ⟨T, f, oT, oth _ _ (Ne.symm hSz) hz, oth _ _ (Nat.ne_of_lt (Heap.lt_size hTT)) hTT, m1, m2, m3, m4⟩
  · have hbs : b ≠ s.heap.objs.size := Nat.ne_of_lt (Heap.lt_size e)
    exact hk b o (fun q => (List.mem_cons.mp q).elim hbs hb) (oth b o hbs e)
end
end HX
namespace HX
open PySem PySem.Spec PyProof.Rows L2
def tListRev (K : PySem.W.Frag) (te : TE) : TE := fun σ H Q => te σ H fun v H1 => ∃ (a : Addr) (xs : List V), v = .ref a ∧ SqL K H1 a xs ∧ ∀ q, H1 q = none → Q (.ref q) (upd H1 q (.lst xs.reverse))
section
variable {X : Cx}
theorem pe_listRev {e : Expr} {te : TE} {p p2 pos pos2 : Pos} (hc : X.calm = true) (hg : Gl X "list") (hm : X.mg "list" = none) (hg2 : Gl X "reversed") (hm2 : X.mg "reversed" = none) (he : PE X e te)
    (hs : starEach [e] X.env = (false, eval e X.env) :: starEach [] X.env := by rfl)
    (hs2 : starEach [.Call (.Name "reversed" p2) [e] [] pos2] X.env = (false, eval (.Call (.Name "reversed" p2) [e] [] pos2) X.env) :: starEach [] X.env := by rfl) :
    PE X (.Call (.Name "list" p) [.Call (.Name "reversed" p2) [e] [] pos2] [] pos) (tListRev X.K te) := by
  refine ⟨fun pins s σ H Q I h => ?_⟩
  refine Call_ (ld_blt I hg hm boot_list (PyProof.Rows.callWith_type1 (args_cons (Call_ (ld_blt I hg2 hm2 PyProof.Rows.boot_reversed (PyProof.Rows.callWith_type1 (args_cons (thn (he.run pins s σ H _ I h) fun u s1 ⟨v, H1, I1, r1, q1⟩ => args_nil ?_) hs) hs rfl))) hs2) hs2 rfl))
  obtain ⟨a, xs, ev, hq, q⟩ := q1
  subst ev
  obtain rfl : u = Value.ref a := r1
  obtain ⟨its, rv, p', hz⟩ := I1.list hq
  refine call_reversed_list p'.isList (args_nil ?_)
  have k0 : ∀ b o, s1.heap.get? b = some o → (s1.heap.push (revObj a ((its.toArray.size : Int) - 1))).get? b = some o := fun b o e => Heap.get?_push_of_some _ e
  have I2 : Inv X pins σ H1 { s1 with heap := s1.heap.push (revObj a ((its.toArray.size : Int) - 1)) } := I1.kept (t' := s1.toks) k0
  obtain ⟨f0, f1, f2, f3, f4, f5⟩ := I1.fpOk (H' := H1) (b := s1.heap.objs.size) (Nat.le_refl _) (I1.hok.fresh (Nat.le_refl _))
  have hl := p'.isList
  obtain ⟨ol, hol, _⟩ := id hl
  have hne : a ≠ s1.heap.objs.size := Nat.ne_of_lt (Heap.lt_size hol)
  have hn : its.toArray.size ≤ sizeLine := by rw [List.size_toArray, ← rv.length]; exact hz
  have hit : (s1.heap.push (revObj a ((its.toArray.size : Int) - 1))).IsRevIter s1.heap.objs.size a ((its.toArray.size : Int) - 1) := ⟨_, Heap.get?_push_size _ rfl, rfl, rfl⟩
  have hsz : (s1.heap.push (revObj a ((its.toArray.size : Int) - 1))).objs.size = s1.heap.objs.size + 1 := Heap.size_push ..
  refine call_list_walk (s := { s1 with heap := s1.heap.push (revObj a ((its.toArray.size : Int) - 1)) }) (I := s1.heap.objs.size) (Walks.listRev (prog := X.prog) (w := X.w) (A := X.A.in1.in1) (I1.ok.hd hc) s1.heap.objs.size a hne its.toArray).toS (T := "list_reverseiterator") (by decide) (by decide)
    (fun i s x => Heap.IsRevIter.typeIs x.2.1) (fun s Q E x k => hint_rev x.2.1 (k)) ?_ ?_ (by simp) (fun s' acc' c' hm hS hacc => ?_) hn
  · refine ⟨Nat.zero_le _, ?_, hl.push _⟩
    have : ((its.toArray.size : Nat) : Int) - 1 - ((0 : Nat) : Int) = (its.toArray.size : Int) - 1 := by simp
    rw [this]; exact hit
  · intro b hb
    have : b = s1.heap.objs.size ∨ b = a := by simpa using hb
    show b < (s1.heap.push _).objs.size
    rw [hsz]
    rcases this with e | e
    · rw [e]; exact Nat.lt_succ_self _
    · rw [e]; exact Nat.lt_succ_of_lt (Heap.lt_size hol)
  · have hS0 : s1.heap.get? (s1.heap.objs.size + 1) = none := by
      cases q : s1.heap.get? (s1.heap.objs.size + 1) with
      | none => rfl
      | some o => exact absurd (Heap.lt_size q) (Nat.not_lt.mpr (Nat.le_succ _))
    have hk : ∀ b o, s1.heap.get? b = some o → s'.heap.get? b = some o := fun b o e => by
      have lb := Heap.lt_size e
      refine hm.heap b o (fun hmem => ?_) (Heap.get?_push_of_some _ (k0 b o e))
      have : b = (s1.heap.push (revObj a ((its.toArray.size : Int) - 1))).objs.size ∨ b = s1.heap.objs.size := by simpa using hmem
      rw [hsz] at this
      rcases this with e | e
      · rw [e] at lb; exact absurd lb (Nat.not_lt.mpr (Nat.le_succ _))
      · rw [e] at lb; exact absurd lb (Nat.lt_irrefl _)
    have hs' : s' = { s1 with heap := s'.heap, toks := s'.toks } := by
      obtain ⟨_, g, d, o, _⟩ := hm
      cases s'
      simp only at g d o ⊢
      subst g d o
      rfl
    rw [hs']
    have hH : H1 (s1.heap.objs.size + 1) = none := I1.hok.fresh (Nat.le_succ _)
    refine ⟨.ref (s1.heap.objs.size + 1), upd H1 (s1.heap.objs.size + 1) (.lst xs.reverse), I1.laid (t' := s'.toks) hk (Nat.le_succ _) (show ObjOk X.prog X.w _ _ _ (.lst xs.reverse) from ⟨by rw [List.length_reverse]; exact hz, acc'.toList, c', RT.vals_rev rv hacc, ?_⟩), by show Value.ref _ = _; rw [hsz], q _ hH⟩
    rw [Array.toArray_toList, ← hsz]
    exact hS
end
theorem ok_there {P : Program} {w : World} {H : Hp} {h : Heap} {a : Addr} {o : HO} (x : ObjOk P w H h a o) : ∃ u, h.get? a = some u := by
  cases o with
  | lst xs => obtain ⟨_, _, _, _, e⟩ := x; exact ⟨_, e⟩
  | tup xs => obtain ⟨_, _, _, p⟩ := x; obtain ⟨o, e, _⟩ := p; exact ⟨_, e⟩
  | dK kvs => obtain ⟨_, _, _, _, o, _, _, e, _⟩ := x; exact ⟨_, e⟩
  | dT kvs => obtain ⟨_, _, _, _, o, _, _, e, _⟩ := x; exact ⟨_, e⟩
  | set S n => obtain ⟨o, _, _, _, e, _⟩ := x; exact ⟨_, e⟩
  | ins C dx fs => obtain ⟨_, _, _, e, _⟩ := x; exact ⟨_, e⟩
  | own y => obtain ⟨_, e⟩ := x; exact ⟨_, e⟩
  | xd fs => obtain ⟨_, ⟨_, _, _, e, _⟩, _⟩ := x; exact ⟨_, e⟩
  | rng lo hi => obtain ⟨_, _, _, e⟩ := x; exact ⟨_, e⟩
  | frz ob u => obtain ⟨e, _⟩ := x; exact ⟨_, e⟩
  | tbl ps => exact ⟨_, (show h.get? a = some _ from x)⟩
  | met f y => exact ⟨_, (show h.get? a = some _ from x)⟩
  | ext φ => obtain ⟨_, ⟨_, e⟩, _⟩ := x; exact ⟨_, e⟩
def layT (H : Hp) : List (Addr × V × V) → Hp
  | [] => H
  | t :: r => upd (layT H r) t.1 (.tup [t.2.1, t.2.2])
theorem layT_out {H : Hp} {b : Addr} : ∀ {ps : List (Addr × V × V)}, (∀ t ∈ ps, t.1 ≠ b) → layT H ps b = H b
  | [], _ => rfl
  | t :: r, h => (upd_ne (Ne.symm (h t List.mem_cons_self))).trans (layT_out fun u hu => h u (List.mem_cons_of_mem _ hu))
theorem layT_in {H : Hp} {t : Addr × V × V} : ∀ {ps : List (Addr × V × V)}, t ∈ ps → (∀ u ∈ ps, u.1 = t.1 → u = t) → layT H ps t.1 = some (.tup [t.2.1, t.2.2])
  | [], h, _ => nomatch h
  | u :: r, h, c => by
    by_cases e : u.1 = t.1
    · have := c u List.mem_cons_self e
      subst this
      exact upd_same
    · have hm : t ∈ r := by
        rcases List.mem_cons.mp h with z | z
        · exact absurd (by rw [z]) e
        · exact z
      exact (upd_ne (Ne.symm e)).trans (layT_in hm fun v hv => c v (List.mem_cons_of_mem _ hv))
theorem layT_cases {H : Hp} {b : Addr} {o : HO} {ps : List (Addr × V × V)} (c : ∀ t ∈ ps, ∀ u ∈ ps, t.1 = u.1 → t = u) (h : layT H ps b = some o) : H b = some o ∨ ∃ t ∈ ps, t.1 = b ∧ o = .tup [t.2.1, t.2.2] := by
  by_cases q : ∃ t ∈ ps, t.1 = b
  · obtain ⟨t, ht, e⟩ := q
    subst e
    rw [layT_in ht fun u hu e => c u hu t ht e] at h
    exact .inr ⟨t, ht, rfl, (Option.some.inj h).symm⟩
  · rw [layT_out fun t ht e => q ⟨t, ht, e⟩] at h
    exact .inl h
structure Laid (H : Hp) (p : Addr) (ps : List (Addr × V × V)) : Prop where
  new : ∀ t ∈ ps, H t.1 = none ∧ t.1 ≠ p
  fresh : H p = none
  one : ∀ t ∈ ps, ∀ u ∈ ps, t.1 = u.1 → t = u
def ZipQ (mk : List V → HO) (H1 : Hp) (xs ys : List V) (Q : VK) : Prop := ∀ (ps : List (Addr × V × V)) (p : Addr), ps.map (·.2) = List.zip xs ys → Laid H1 p ps → Q (.ref p) (upd (layT H1 ps) p (mk (ps.map fun t => V.ref t.1)))
def tZip (K : PySem.W.Frag) (mk : List V → HO) (ta : TA) : TE := fun σ H Q => ta σ H fun vs H1 => ∃ a b xs ys, vs = [.ref a, .ref b] ∧ (SqL K H1 a xs ∨ SqT K H1 a xs) ∧ (SqL K H1 b ys ∨ SqT K H1 b ys) ∧ ZipQ mk H1 xs ys Q
def Drawer (P : Program) (w : World) (s : Shared) (a : Addr) (its : Array Value) : Prop :=
  a < s.heap.objs.size ∧ ∃ (o : Obj) (Hc : Heap → Prop), Begins (.ref a) o Hc ∧ Hc s.heap ∧ ∀ (N : Addr) (h' : Heap), a ≠ N → h'.get? N = some o → (∀ c u, s.heap.get? c = some u → h'.get? c = some u) →
    ∃ St : Nat → Heap → Prop, (∀ A : Around, A.handled = none → Draws P w A N [N, a] its.size (fun i v => its[i]? = some v) St) ∧ St 0 h'
section
variable {X : Cx} {pins : List (Addr × Obj)} {σ : L2.St} {H H1 : Hp} {s : Shared}
theorem drawer_of (I : Inv X pins σ H s) {a : Addr} {xs : List V} (h : SqL X.K H a xs ∨ SqT X.K H a xs) : ∃ its : List Value, Vals xs its ∧ xs.length ≤ sizeLine ∧ Drawer X.prog X.w s a its.toArray := by
  rcases h with hq | hq
  · obtain ⟨its, rv, p1, hz⟩ := I.list hq
    have hl := p1.isList
    obtain ⟨ol, hol, _⟩ := id hl
    refine ⟨its, rv, hz, Heap.lt_size hol, _, _, begins_list a its.toArray, hl, fun N h' hne e k => ⟨_, fun A hA => Draws.list hA N a hne its.toArray, ⟨⟨_, e, rfl, rfl⟩, hl.at fun o q => k a o q⟩⟩⟩
  · obtain ⟨its, rv, p1, hz⟩ := I.tuple hq
    have hl : s.heap.IsTuple a its.toArray := p1
    obtain ⟨ol, hol, _⟩ := id hl
    refine ⟨its, rv, hz, Heap.lt_size hol, _, _, begins_tuple a its.toArray, hl, fun N h' hne e k => ⟨_, fun A hA => Draws.tuple hA N a hne its.toArray, ⟨⟨_, e, rfl, rfl⟩, hl.at fun o q => k a o q⟩⟩⟩
theorem mem_zip_get {α β : Type} : ∀ {as : List α} {bs : List β} {t : α × β}, t ∈ as.zip bs → ∃ j : Nat, as[j]? = some t.1 ∧ bs[j]? = some t.2
  | [], _, _, h => by simp at h
  | a :: as, [], _, h => by simp at h
  | a :: as, b :: bs, t, h => by
    rw [List.zip_cons_cons] at h
    rcases List.mem_cons.mp h with e | e
    · subst e; exact ⟨0, rfl, rfl⟩
    · obtain ⟨j, p, q⟩ := mem_zip_get e
      exact ⟨j + 1, by simpa using p, by simpa using q⟩
theorem pairs_ps {h0 h' : Heap} {ex : List Addr} {acc : Array Value} {xs ys : List V} {i1 i2 : List Value} (r1 : Vals xs i1) (r2 : Vals ys i2)
    (hp : Pairs h0 ex (fun i v => i1.toArray[i]? = some v) (fun i v => i2.toArray[i]? = some v) h' acc (min i1.toArray.size i2.toArray.size)) :
    ∃ ps : List (Addr × V × V), ps.map (·.2) = List.zip xs ys ∧ Vals (ps.map fun t => V.ref t.1) acc.toList ∧ ∀ t ∈ ps, ∃ x1 x2, IsTupOf2 h' t.1 x1 x2 ∧ RelV t.2.1 x1 ∧ RelV t.2.2 x2 ∧ h0.get? t.1 = none ∧ t.1 ∉ ex := by
  have hl : acc.toList.length = (List.zip xs ys).length := by
    rw [Array.length_toList, hp.1, List.length_zip, r1.length, r2.length]; simp
  let ad : Value → Addr := fun v => match v with | .ref a => a | _ => 0
  have hv : ∀ v ∈ acc.toList, v = Value.ref (ad v) := fun v hv => by
    obtain ⟨j, hj⟩ := List.getElem?_of_mem hv
    obtain ⟨T, x1, x2, e, _⟩ := hp.2 j v (by rw [← Array.getElem?_toList]; exact hj)
    rw [e]
  refine ⟨(acc.toList.map ad).zip (List.zip xs ys), List.map_snd_zip (by simp; rw [← Array.length_toList, hl]; simp), ?_, fun t ht => ?_⟩
  · have e1 : ((acc.toList.map ad).zip (List.zip xs ys)).map (fun t => V.ref t.1) = acc.toList.map fun v => V.ref (ad v) := by
      have : ((acc.toList.map ad).zip (List.zip xs ys)).map (fun t => V.ref t.1) = (((acc.toList.map ad).zip (List.zip xs ys)).map (·.1)).map V.ref := by rw [List.map_map]; rfl
      rw [this, List.map_fst_zip (by rw [List.length_map, hl]; exact Nat.le_refl _), List.map_map]
      rfl
    rw [e1]
    generalize acc.toList = l at hv
    induction l with
    | nil => exact .nil
    | cons v l ih => exact .cons (hv v List.mem_cons_self) (ih fun u hu => hv u (List.mem_cons_of_mem _ hu))
  · obtain ⟨j, ha, hb⟩ := mem_zip_get ht
    rw [List.getElem?_map] at ha
    cases q : acc.toList[j]? with
    | none => rw [q] at ha; cases ha
    | some v =>
      rw [q] at ha
      have ea : ad v = t.1 := Option.some.inj ha
      obtain ⟨T, x1, x2, e, nex, tT, p1, p2, n0⟩ := hp.2 j v (by rw [← Array.getElem?_toList]; exact q)
      subst e
      have eT : T = t.1 := ea
      subst eT
      rw [List.zip, List.getElem?_zipWith] at hb
      cases qx : xs[j]? with
      | none => rw [qx] at hb; cases hb
      | some x =>
        cases qy : ys[j]? with
        | none => rw [qx, qy] at hb; cases hb
        | some y =>
          rw [qx, qy] at hb
          have et : (x, y) = t.2 := Option.some.inj hb
          obtain ⟨u, hu, ru⟩ := r1.get qx
          obtain ⟨v', hv', rv'⟩ := r2.get qy
          have e1 : u = x1 := by
            have : i1.toArray[j]? = some u := by simpa using hu
            exact Option.some.inj (this.symm.trans p1)
          have e2 : v' = x2 := by
            have : i2.toArray[j]? = some v' := by simpa using hv'
            exact Option.some.inj (this.symm.trans p2)
          refine ⟨x1, x2, tT, ?_, ?_, n0, nex⟩
          · rw [← et, ← e1]; exact ru
          · rw [← et, ← e2]; exact rv'
theorem inv_pairs {p : Addr} {h' : Heap} {tk : Nat} {ps : List (Addr × V × V)} {o : HO} (I : Inv X pins σ H s) (hk : ∀ b u, s.heap.get? b = some u → h'.get? b = some u) (hp : s.heap.get? p = none)
    (hps : ∀ t ∈ ps, ∃ x1 x2, IsTupOf2 h' t.1 x1 x2 ∧ RelV t.2.1 x1 ∧ RelV t.2.2 x2 ∧ s.heap.get? t.1 = none ∧ t.1 ≠ p)
    (new : ObjOk X.prog X.w (upd (layT H ps) p o) h' p o) : Laid H p ps ∧ Inv X pins σ (upd (layT H ps) p o) { s with heap := h', toks := tk } := by
  have hn : ∀ a, s.heap.get? a = none → H a = none := fun a e => by
    cases q : H a with
    | none => rfl
    | some u =>
      obtain ⟨o', ho'⟩ := ok_there (I.hok _ _ q)
      rw [e] at ho'; cases ho'
  have L : Laid H p ps := ⟨fun t ht => let ⟨_, _, _, _, _, e, n⟩ := hps t ht; ⟨hn _ e, n⟩, hn _ hp, fun t ht u hu e => by
    obtain ⟨x1, x2, a1, a2, a3, _, _⟩ := hps t ht
    obtain ⟨y1, y2, b1, b2, b3, _, _⟩ := hps u hu
    rw [e] at a1
    have q := a1.symm.trans b1
    simp only [Option.some.injEq, Obj.mk.injEq, Data.seq.injEq, Array.mk.injEq, List.cons.injEq, and_true, true_and] at q
    obtain ⟨q1, q2⟩ := q
    rw [← q1] at b2
    rw [← q2] at b3
    have h1 := a2.inj b2
    have h2 := a3.inj b3
    obtain ⟨t1, t2, t3⟩ := t
    obtain ⟨u1, u2, u3⟩ := u
    cases e; cases h1; cases h2
    rfl⟩
  refine ⟨L, I.un (h' := h') ?_ ?_⟩
  · have nofree : ∀ b u, s.heap.get? b = some u → (b ≠ p ∧ ∀ t ∈ ps, t.1 ≠ b) := fun b u e => by
      refine ⟨fun z => ?_, fun t ht z => ?_⟩
      · rw [z, hp] at e; cases e
      · obtain ⟨_, _, _, _, _, n, _⟩ := hps t ht
        rw [z, e] at n; cases n
    have same : ∀ b u, s.heap.get? b = some u → upd (layT H ps) p o b = H b := fun b u e => by
      obtain ⟨n1, n2⟩ := nofree b u e
      rw [upd_ne n1, layT_out n2]
    have keepH : ∀ b u, H b = some u → upd (layT H ps) p o b = some u := fun b u e => by
      obtain ⟨o', ho'⟩ := ok_there (I.hok _ _ e)
      rw [same b o' ho']; exact e
    exact ⟨fun b u q _ _ _ => hk b u q, fun b u q _ _ _ => ⟨u.slots, hk b u q⟩, fun b u q n _ => (same b u q).trans n, fun b u q _ => ⟨u, hk b u q⟩, fun b xs e => keepH b _ e, fun b _ _ e => keepH b _ e, fun b ps' e => ⟨#[], by rw [keepH b _ e]; simp⟩⟩
  · intro a o' e
    by_cases hap : a = p
    · subst hap
      rw [upd_same] at e
      cases e
      exact new
    · rw [upd_ne hap] at e
      have grow : ∀ b u, H b = some u → upd (layT H ps) p o b = some u := fun b u e => by
        have nb : b ≠ p := fun z => by rw [z, L.fresh] at e; cases e
        have nt : ∀ t ∈ ps, t.1 ≠ b := fun t ht z => by
          have := (L.new t ht).1
          rw [z, e] at this; cases this
        rw [upd_ne nb, layT_out nt]; exact e
      rcases layT_cases L.one e with q | ⟨t, ht, e1, e2⟩
      · exact (I.hok a o' q).stay (fun b u _ q => hk b u q) (fun b q => grow b _ q) fun b xs q => grow b _ q
      · subst e1 e2
        obtain ⟨x1, x2, a1, a2, a3, _, _⟩ := hps t ht
        exact ⟨by show 2 ≤ sizeLine; rw [sizeLine_eq]; decide, [x1, x2], .cons a2 (.cons a3 .nil), ⟨_, a1, rfl, ⟨_, rfl⟩⟩⟩
theorem zip_ready {P : Program} {w : World} {s : Shared} {a b : Addr} {i1 i2 : Array Value} {A A2 : Around} {E : Value → Shared → Prop} {Q : Value → Shared → Prop} (d1 : Drawer P w s a i1) (d2 : Drawer P w s b i2) (hA : A.handled = none)
    (k : ∀ (h' : Heap) (St1 St2 : Nat → Heap → Prop), let N := s.heap.objs.size
      (∀ c o, s.heap.get? c = some o → h'.get? c = some o) → h'.objs.size = N + 5 → ZipSep2 (N + 4) (N + 2) (N + 3) N (N + 1) [N, a] [N + 1, b] →
      Draws P w A N [N, a] i1.size (fun i v => i1[i]? = some v) St1 → Draws P w A (N + 1) [N + 1, b] i2.size (fun i v => i2[i]? = some v) St2 →
      (∀ c ∈ [N, a], c < h'.objs.size) → (∀ c ∈ [N + 1, b], c < h'.objs.size) → ZS (N + 4) (N + 2) (N + 3) N (N + 1) St1 St2 0 h' → Q (.ref (N + 4)) { s with heap := h' }) :
    wpAny (model P w) A2 (call (.type "zip") [.ref a, .ref b]) Q E s := by
  obtain ⟨la, o1, H1, B1, c1, r1⟩ := d1
  obtain ⟨lb, o2, H2, B2, c2, r2⟩ := d2
  refine zip_begins2 B1 B2 c1 c2 fun h' hz hTI hTO e1 e2 hsz hk => ?_
  obtain ⟨St1, D1, z1⟩ := r1 _ h' (Nat.ne_of_lt la) e1 hk
  obtain ⟨St2, D2, z2⟩ := r2 (s.heap.objs.size + 1) h' (Nat.ne_of_lt (Nat.lt_succ_of_lt lb)) e2 hk
  have up : ∀ (i : Nat), i < 5 → s.heap.objs.size + i < h'.objs.size := fun i hi => by rw [hsz]; exact Nat.add_lt_add_left hi _
  have ua : ∀ c, c < s.heap.objs.size → c < h'.objs.size := fun c hc => by rw [hsz]; exact Nat.lt_of_lt_of_le hc (Nat.le_add_right _ _)
  refine k h' St1 St2 hk hsz (PySem.zip_sep2 (fun c hc => ?_) fun c hc => ?_) (D1 A hA) (D2 A hA) (fun c hc => ?_) (fun c hc => ?_) ⟨hTI, z1, z2, ⟨_, hTO⟩, .inl ⟨hz, _, _, hTO⟩⟩
  · rw [List.mem_singleton.mp hc]; exact la
  · rw [List.mem_singleton.mp hc]; exact lb
  · rcases List.mem_cons.mp hc with e | e
    · rw [e]; exact up 0 (by decide)
    · rw [List.mem_singleton.mp e]; exact ua a la
  · rcases List.mem_cons.mp hc with e | e
    · rw [e]; exact up 1 (by decide)
    · rw [List.mem_singleton.mp e]; exact ua b lb
end
section
variable {X : Cx}
theorem notin4 {N c : Nat} (h : c < N) : c ∉ [N + 4, N + 3, N, N + 1] := by
  simp only [List.mem_cons, List.not_mem_nil, or_false, not_or]
  omega
theorem pe_listZip {e e2 : Expr} {ta : TA} {p p2 pos pos2 : Pos} (hc : X.calm = true) (hg : Gl X "list") (hm : X.mg "list" = none) (hg2 : Gl X "zip") (hm2 : X.mg "zip" = none) (ha : PA X [e, e2] ta)
    (hs : starEach [e, e2] X.env = (false, eval e X.env) :: starEach [e2] X.env := by rfl) (hpl : (backTo pos2 (starEach [e2] X.env)).any (·.1) = false := by rfl)
    (hs2 : starEach [.Call (.Name "zip" p2) [e, e2] [] pos2] X.env = (false, eval (.Call (.Name "zip" p2) [e, e2] [] pos2) X.env) :: starEach [] X.env := by rfl) :
    PE X (.Call (.Name "list" p) [.Call (.Name "zip" p2) [e, e2] [] pos2] [] pos) (tZip X.K .lst ta) := by
  refine ⟨fun pins s σ H Q I h => ?_⟩
  refine Call_ (ld_blt I hg hm boot_list (PyProof.Rows.callWith_type1 (args_cons (Call_ (ld_blt I hg2 hm2 PyProof.Rows.boot_zip (PyProof.Rows.callWith_type1 (thn (ha.run pos2 pins s σ H _ I h) fun us s1 ⟨vs, H1, I1, r1, q1⟩ => ?_) hs hpl))) hs2) hs2 rfl))
  obtain ⟨a, b, xs, ys, ex, hx, hy, q⟩ := q1
  subst ex
  cases r1 with
  | cons r rr =>
    cases rr with
    | cons r' rr =>
      cases rr
      cases r
      cases r'
      obtain ⟨its, rv, hz, dr⟩ := drawer_of I1 hx
      obtain ⟨its2, rv2, hz2, dr2⟩ := drawer_of I1 hy
      refine zip_ready (A := X.A.in1.in1.in1) dr dr2 (I1.ok.hd hc) fun h' St1 St2 hk hsz Sp D1 D2 b1 b2 zs => args_nil ?_
      have hn : min its.toArray.size its2.toArray.size ≤ sizeLine := Nat.le_trans (Nat.min_le_left _ _) (by rw [List.size_toArray, ← rv.length]; exact hz)
      refine call_list_zip (s := { s1 with heap := h' }) (h0 := s1.heap) Sp D1 D2 hn b1 b2 zs (fun c o _ ho => hk c o ho) fun h2 tk acc c' hk2 hS hp => ?_
      obtain ⟨ps, e1, e2, e3⟩ := pairs_ps rv rv2 hp
      have hpn : s1.heap.get? (s1.heap.objs.size + 5) = none := by
        cases q : s1.heap.get? (s1.heap.objs.size + 5) with
        | none => rfl
        | some o => exact absurd (Heap.lt_size q) (Nat.not_lt.mpr (Nat.le_add_right _ _))
      have hlen : (ps.map fun t => V.ref t.1).length ≤ sizeLine := by rw [e2.length, Array.length_toList, hp.1]; exact hn
      have hS' : h2.get? (s1.heap.objs.size + 5) = some { cls := .type "list", dict := none, data := .seq acc c', slots := #[] } := by rw [← hsz]; exact hS
      obtain ⟨L, I3⟩ := inv_pairs (X := X) (p := s1.heap.objs.size + 5) (h' := h2) (tk := tk) (ps := ps) (o := .lst (ps.map fun t => V.ref t.1)) I1
        (fun c u hu => hk2 c u (notin4 (Heap.lt_size hu)) (hk c u hu)) hpn
        (fun t ht => let ⟨x1, x2, a1, a2, a3, a4, a5⟩ := e3 t ht; ⟨x1, x2, a1, a2, a3, a4, fun z => a5 (by rw [z, ← hsz]; exact List.mem_cons_self)⟩)
        (show ObjOk X.prog X.w _ _ _ (.lst _) from ⟨hlen, acc.toList, c', e2, by rw [Array.toArray_toList]; exact hS'⟩)
      exact ⟨.ref (s1.heap.objs.size + 5), _, I3, by show Value.ref _ = _; rw [← hsz], q ps _ e1 L⟩
end
end HX
namespace Mir
variable [Tabl]
open PySem PySem.Spec PyProof.Rows L2
def kListRev (al : Bool) (t : T) : M T := fun st => match listOf t st with
  | some ts => mkL al ts.reverse st
  | none => .stuck
def zipM (ts us : List T) : List T := List.zipWith (fun a b => .tup [a, b]) ts us
def kListZip (al : Bool) (ts : List T) : M T := fun st => match ts with
  | [t, u] => match seqOf t st, seqOf u st with
    | some ts, some us => mkL al (zipM ts us) st
    | _, _ => .stuck
  | _ => .stuck
section
variable {ρ : Ro} {H H' : Hp} {st : Store} {p : Addr} {ps : List (Addr × V × V)}
theorem Ext.same (h : ∀ b o, H b = some o → H' b = some o) : Ext ρ H ρ H' :=
  ⟨⟨[], by simp⟩, rfl, fun _ h => h, fun _ h => .inl h, fun _ h => .inl h, fun b xs e => h b _ e, fun b o e _ _ => h b o e, fun b ps e => ⟨ps, h b _ e⟩⟩
theorem Rel.same (rel : Rel ρ st H) (h : ∀ b o, H b = some o → H' b = some o) : Rel ρ st H' :=
  ⟨rel.len, rel.nodup, fun n o a e g => OV_grow (Ext.same h).grow (fun o' e' => h a o' e') (rel.at_ n o a e g), fun a ha => let ⟨n, o, e, z⟩ := rel.priv a ha; ⟨n, o, h a o e, z⟩, tabs_all rel.tabs h⟩
theorem lay_grow (L : HX.Laid H p ps) : ∀ b o, H b = some o → HX.layT H ps b = some o := fun b o e => by
  rw [HX.layT_out fun t ht z => ?_]
  · exact e
  · have := (L.new t ht).1
    rw [z, e] at this; cases this
theorem lay_p (L : HX.Laid H p ps) : HX.layT H ps p = none := by
  rw [HX.layT_out fun t ht => (L.new t ht).2]; exact L.fresh
theorem zip_rvs (rel : Rel ρ st H) {ts us : List T} {xs ys : List V} (h1 : RVs ρ H ts xs) (h2 : RVs ρ H us ys) (L : HX.Laid H p ps) (e : ps.map (·.2) = List.zip xs ys) :
    RVs ρ (HX.layT H ps) (zipM ts us) (ps.map fun t => V.ref t.1) := by
  have x : Ext ρ H ρ (HX.layT H ps) := Ext.same (lay_grow L)
  have hin : ∀ t ∈ ps, HX.layT H ps t.1 = some (.tup [t.2.1, t.2.2]) := fun t ht => HX.layT_in ht fun u hu z => L.one u hu t ht z
  have h1' := h1.mono x
  have h2' := h2.mono x
  clear h1 h2
  clear x
  generalize HX.layT H ps = G at hin h1' h2'
  clear L rel
  have h1 := h1'
  have h2 := h2'
  clear h1' h2'
  induction ps generalizing ts us xs ys with
  | nil =>
    cases ts with
    | nil => rw [show xs = [] from h1] at *; exact rfl
    | cons t ts =>
      obtain ⟨x, xr, rfl, q⟩ := h1
      cases us with
      | nil => exact rfl
      | cons u us =>
        obtain ⟨y, yr, rfl, q'⟩ := h2
        simp at e
  | cons t r ih =>
    cases ts with
    | nil => rw [show xs = [] from h1] at e; simp at e
    | cons t1 ts =>
      obtain ⟨x1, xr, rfl, q1, q⟩ := h1
      cases us with
      | nil => rw [show ys = [] from h2] at e; simp at e
      | cons u us =>
        obtain ⟨y1, yr, rfl, q1', q'⟩ := h2
        rw [List.map_cons, List.zip_cons_cons] at e
        injection e with e0 e'
        refine ⟨.ref t.1, _, rfl, ⟨t.1, [x1, y1], rfl, .inl ?_, ⟨x1, _, rfl, q1, y1, _, rfl, q1', rfl⟩⟩, ih e' (fun u hu => hin u (List.mem_cons_of_mem _ hu)) q q'⟩
        rw [hin t List.mem_cons_self, e0]
end
section
variable {X : Cx} {W : WX} {pos pos2 p p2 : Pos} {a b : Expr} {ma : ME} {mab : Env → M (List T)}
theorem j_listRev (al : Bool) (hc : X.calm = true) (hg : Gl X "list") (hm : X.mg "list" = none) (hg2 : Gl X "reversed") (hm2 : X.mg "reversed" = none) (ha : JE X W a ma)
    (hs : starEach [a] X.env = (false, eval a X.env) :: starEach [] X.env := by rfl)
    (hs2 : starEach [.Call (.Name "reversed" p2) [a] [] pos2] X.env = (false, eval (.Call (.Name "reversed" p2) [a] [] pos2) X.env) :: starEach [] X.env := by rfl) :
    JE X W (.Call (.Name "list" p) [.Call (.Name "reversed" p2) [a] [] pos2] [] pos) (e1 (kListRev al) ma) :=
  pe_imp (HX.pe_listRev hc hg hm hg2 hm2 ha hs hs2) fun σ H Q ⟨ρ, st, env, hK, rel, re, h⟩ => by
    refine ⟨ρ, st, env, hK, rel, re, h.bind.imp fun ρ1 H1 t ⟨st1, x1, rel1, h1⟩ v rv => ?_⟩
    unfold kListRev at h1
    split at h1
    · rename_i ts e
      obtain ⟨ad, xs, r, g, q⟩ := list_get rel1 rv e
      subst r
      rw [show ρ1.K = X.K from x1.K.trans hK] at g
      exact ⟨ad, xs, rfl, g, fun q' hq => fin_mkL h1 rel1 hq q.reverse⟩
    · exact h1.elim
theorem j_listZip (al : Bool) (hc : X.calm = true) (hg : Gl X "list") (hm : X.mg "list" = none) (hg2 : Gl X "zip") (hm2 : X.mg "zip" = none) (ha : JA X W [a, b] mab)
    (hs : starEach [a, b] X.env = (false, eval a X.env) :: starEach [b] X.env := by rfl) (hpl : (backTo pos2 (starEach [b] X.env)).any (·.1) = false := by rfl)
    (hs2 : starEach [.Call (.Name "zip" p2) [a, b] [] pos2] X.env = (false, eval (.Call (.Name "zip" p2) [a, b] [] pos2) X.env) :: starEach [] X.env := by rfl) :
    JE X W (.Call (.Name "list" p) [.Call (.Name "zip" p2) [a, b] [] pos2] [] pos) (fun env st => (mab env st).bind fun ts st1 => kListZip al ts st1) :=
  pe_imp (HX.pe_listZip hc hg hm hg2 hm2 ha hs hpl hs2) fun σ H Q ⟨ρ, st, env, hK, rel, re, h⟩ => by
    refine ⟨ρ, st, env, hK, rel, re, h.bind.imp fun ρ1 H1 ts ⟨st1, x1, rel1, h1⟩ vs rv => ?_⟩
    unfold kListZip at h1
    split at h1
    · rename_i t u
      obtain ⟨v, w, rfl, rt, ru⟩ := RVs.two rv
      split at h1
      · rename_i ts us e1 e2
        obtain ⟨ad, xs, r, g, q⟩ := seq_get rel1 rt e1
        obtain ⟨bd, ys, r2, g2, q2⟩ := seq_get rel1 ru e2
        subst r r2
        rw [show ρ1.K = X.K from x1.K.trans hK] at g g2
        refine ⟨ad, bd, xs, ys, rfl, g, g2, fun ps p' e L => ?_⟩
        exact fin_mkL (h1.rebase (Ext.same (lay_grow L))) (rel1.same (lay_grow L)) (lay_p L) (zip_rvs rel1 q q2 L e)
      · exact h1.elim
    · exact h1.elim
end
end Mir
namespace HX
open PySem PySem.Spec PyProof.Rows L2
theorem meets_enumerate_newB1 {v : Value} {o : Obj} {H : Heap → Prop} (B : Begins v o H) :
    Meets (Builtin.«enumerate.__new__» ⟨[.type "enumerate", v], []⟩) (fun _ R s => H s.heap ∧
      R (.ok (.ret (.ref (s.heap.push o).objs.size))) { s with heap := (s.heap.push o).push { cls := .type "enumerate", data := .fields #[.none, .bool false, .ref s.heap.objs.size, rawInt 0, .none, .none] } }) :=
  .of_wp fun prog w A R s h => by
    obtain ⟨hp, g, d, tk, os⟩ := s; obtain ⟨h1, h⟩ := h
    have hsub := PySem.sub_enumerate
    have q1 : ∀ {A' : Around} {E : Value → Shared → Prop} {Q : Value → Shared → Prop}, Q (.ref hp.objs.size) ⟨hp.push o, g, d, tk, os⟩ → wpAny (model prog w) A' (pyIter v) Q E ⟨hp, g, d, tk, os⟩ :=
      fun q => B.iter prog w _ _ ⟨hp, g, d, tk, os⟩ _ h1 q
    wp_walk using q1
    refine wpAny_stack_any fun st => wpAny_pure ?_
    split
    · rename_i c _ _ _ _ _
      cases (c == Value.type "enumerate")
      · wp_walk using q1
        exact ⟨_, rfl, h⟩
      · wp_walk using q1
        exact ⟨_, rfl, h⟩
    · wp_walk using q1
      exact ⟨_, rfl, h⟩
section
variable {prog : Program} {w : World} {A : Around} {E : Value → Shared → Prop} {s : Shared}
theorem enum_begins1 {v : Value} {o : Obj} {H : Heap → Prop} {Q : Value → Shared → Prop} (B : Begins v o H) (h1 : H s.heap)
    (h : ∀ h', IsEnum h' (s.heap.objs.size + 1) s.heap.objs.size 0 .none → h'.get? s.heap.objs.size = some o → h'.objs.size = s.heap.objs.size + 2 →
      (∀ b o, s.heap.get? b = some o → h'.get? b = some o) → Q (.ref (s.heap.objs.size + 1)) { s with heap := h' }) :
    wpAny (model prog w) A (call (.type "enumerate") [v]) Q E s := by
  refine callType_new F.called_enumerate (by decide) (F.typeCall_enumerate_1 _) (F.newCall_enumerate_1 _) (fun obj => F.args_object_init_2 obj _) F.entry_enumerate_new
    (meets_enumerate_newB1 B) ⟨h1, ?_⟩
  have hz : (s.heap.push o).objs.size = s.heap.objs.size + 1 := Heap.size_push ..
  show _ ∧ _
  rw [hz]
  have he : IsEnum ((s.heap.push o).push { cls := .type "enumerate", data := .fields #[.none, .bool false, .ref s.heap.objs.size, rawInt 0, .none, .none] }) (s.heap.objs.size + 1) s.heap.objs.size 0 .none := by
    have := Heap.get?_push_size (s.heap.push o) (o := { cls := .type "enumerate", data := .fields #[.none, .bool false, .ref s.heap.objs.size, rawInt 0, .none, .none] }) rfl
    rw [hz] at this; exact this
  refine ⟨⟨_, he, rfl⟩, h _ he (Heap.get?_push_of_some _ (Heap.get?_push_size _ B.free)) (by rw [Heap.size_push, hz]) fun b o x => Heap.get?_push_of_some _ (Heap.get?_push_of_some _ x)⟩
end
def IteT (K : PySem.W.Frag) (a : Addr) : It :=
  ⟨fun i H => ∃ (xs : List V) (x : V), SqT K H a xs ∧ xs[i]? = some x, fun i H v H' => ∃ T x, v = .ref T ∧ H T = none ∧ H' = upd H T (.tup [.int (i : Nat), x]) ∧ ∀ xs, SqT K H a xs → xs[i]? = some x, fun i H => ∃ xs : List V, SqT K H a xs ∧ xs.length = i⟩
theorem turn_enumT {P : Program} {w : World} {K : PySem.W.Frag} {elts : List Expr} {kk : Nat} {tpos : Pos} (a e it : Addr) :
    Turn P w K (.Tuple elts kk tpos) (IteT K a) [e, it] e (fun i h => (∃ old, IsEnum h e it ((i : Nat) : Int) old) ∧ h.IsTupleIter it a i ∧ e ≠ it ∧ a ≠ it ∧ a ≠ e) where
  mem := by simp
  obj := fun i h st b hb => by
    obtain ⟨⟨old, he⟩, ⟨o, ho, hc, hd⟩, _⟩ := st
    have e' : b = e ∨ b = it := by simpa using hb
    rcases e' with z | z
    · rw [z]; exact ⟨_, he, fun v q => nomatch q⟩
    · rw [z]; exact ⟨o, ho, fun v q => by rw [hd] at q; cases q⟩
  keep := fun i h h' st k => let ⟨⟨old, he⟩, hi, hne⟩ := st; ⟨⟨old, k e (by simp) _ he⟩, hi.at fun o q => k it (by simp) o q, hne⟩
  item := by
    intro X hP hw hK hc i pins s σ H E I hf st hg
    subst hP hw hK
    obtain ⟨⟨old, he⟩, hit, hne, hai, hae⟩ := st
    obtain ⟨xs, x, hq, hx⟩ := hg
    obtain ⟨its, rv, p, hz⟩ := I.tuple hq
    obtain ⟨u, hu, ru⟩ := rv.get hx
    have hel : e < s.heap.objs.size := Heap.lt_size he
    have hil : it < s.heap.objs.size := by obtain ⟨_, q, _⟩ := hit; exact Heap.lt_size q
    have hlt : i < its.toArray.size := by
      have := (List.getElem?_eq_some_iff.mp hu).1
      simpa using this
    refine wpAny_pyNext_enum_itemC (Draws.tuple (prog := X.prog) (w := X.w) (A := X.A.in1) (I.ok.hd hc) it a hai its.toArray) he ⟨hit, p⟩ hlt hne (by
      intro z
      rcases List.mem_cons.mp z with z | z
      · exact hne z
      · exact hae (List.mem_singleton.mp z).symm) fun u' h' tk hu' ho hit' hT hsz hk => ?_
    have eu : u' = u := by
      have e1 : its.toArray[i]? = some u := by simpa using hu
      exact Option.some.inj (hu'.symm.trans e1)
    subst eu
    refine ⟨_, rfl, wpAny_letOwnedTupleGo_enum (s := { s with heap := h', toks := tk + 1 }) ho fun h'' he' sb => ?_⟩
    have hT2 : h''.get? s.heap.objs.size = some { cls := .type "tuple", data := .seq #[.int i tk, u'] } := (sb.2 _ (Nat.ne_of_gt hel)).trans hT
    have new : ObjOk X.prog X.w (upd H s.heap.objs.size (.tup [.int (i : Nat), x])) h'' s.heap.objs.size (.tup [.int (i : Nat), x]) :=
      ⟨by show 2 ≤ sizeLine; decide, [.int i tk, u'], .cons ⟨_, rfl⟩ (.cons ru .nil), ⟨_, hT2, rfl, _, rfl⟩⟩
    have I1 : Inv X pins σ (upd H s.heap.objs.size (.tup [.int (i : Nat), x])) { s with heap := h'', toks := tk + 1 } :=
      I.turnedNew (ch := [e, it]) (fun b ob hb q => (sb.2 b (fun z => hb (by simp [z]))).trans (hk b ob (fun z => hb (by simp [z])) (fun z => hb (by simp [z])) q)) hf (Nat.le_refl _) new
    refine ⟨.ref s.heap.objs.size, _, I1, rfl, ⟨_, x, rfl, I.hok.fresh (Nat.le_refl _), rfl, fun ys hy => by rw [I.tuple_inj hy hq]; exact hx⟩, ⟨⟨u', ?_⟩, hit'.1.at fun o q => (sb.2 it (Ne.symm hne)).trans q, hne, hai, hae⟩, fun b hb => ?_⟩
    · have e1 : ((i + 1 : Nat) : Int) = (i : Int) + 1 := by omega
      rw [e1]; exact he'
    · have hb' : b < s.heap.objs.size := by
        have e' : b = e ∨ b = it := by simpa using hb
        rcases e' with z | z
        · rw [z]; exact hel
        · rw [z]; exact hil
      rw [upd_ne (Nat.ne_of_lt hb')]
      exact (hf b hb).1
  done := by
    intro X hP hw hK hc i pins s σ H E I hf st hg
    subst hP hw hK
    obtain ⟨⟨old, he⟩, hit, hne, hai, hae⟩ := st
    obtain ⟨xs, hq, hx⟩ := hg
    obtain ⟨its, rv, p, hz⟩ := I.tuple hq
    obtain ⟨f0, f1, f2, f3, f4, f5⟩ := hf it (by simp)
    have hl := rv.length
    have e1 : i = its.toArray.size := by rw [List.size_toArray]; omega
    refine wpAny_pyNext_enum_endD (Draws.tuple (prog := X.prog) (w := X.w) (A := X.A.in1) (I.ok.hd hc) it a hai its.toArray) he ⟨by rw [← e1]; exact hit, p⟩ fun h' eb => ⟨rfl, I.turned (t' := s.toks) (fun b o hb q => eb b o hb q) f0 f1 f3 f4 f5⟩
  self := fun A i s Q E st h => let ⟨⟨_, he⟩, _⟩ := st; wpAny_pyIter_enum he h
def iEnumA (K : PySem.W.Frag) (ta : TA) : TI := fun σ H R => ta σ H fun vs H1 => ∃ a xs, vs = [.ref a] ∧ ((SqL K H1 a xs ∧ R (Ite K a) H1) ∨ (SqT K H1 a xs ∧ R (IteT K a) H1))
theorem pi_enumA {X : Cx} {e : Expr} {ta : TA} {p pos tpos : Pos} {elts : List Expr} {kk : Nat} (hg : Gl X "enumerate") (hm : X.mg "enumerate" = none) (ha : PA X [e] ta) (hs : starEach [e] X.env = [(false, eval e X.env)] := by rfl) :
    PI X (.Tuple elts kk tpos) (.Call (.Name "enumerate" p) [e] [] pos) (iEnumA X.K ta) := by
  refine ⟨fun pins s σ H R I h => ?_⟩
  refine Call_ (ld_blt I hg hm boot_enumerate (PyProof.Rows.callWith_type1 (thn (ha.run pos pins s σ H _ I h) fun us s1 ⟨vs, H1, I1, r1, q1⟩ => ?_) hs rfl))
  obtain ⟨a, xs, ex, q⟩ := q1
  subst ex
  cases r1 with
  | cons r rr =>
    cases rr
    cases r
    have fresh2 : ∀ b ∈ [s1.heap.objs.size + 1, s1.heap.objs.size], FpOk X pins H1 b := fun b hb => by
      have e' : b = s1.heap.objs.size + 1 ∨ b = s1.heap.objs.size := by simpa using hb
      have hle : s1.heap.objs.size ≤ b := by
        rcases e' with z | z
        · rw [z]; exact Nat.le_add_right _ _
        · rw [z]; exact Nat.le_refl _
      exact I1.fpOk hle (I1.hok.fresh hle)
    rcases q with ⟨hq, q⟩ | ⟨hq, q⟩
    · obtain ⟨its, rv, p', hz⟩ := I1.list hq
      refine call_enumerate_list p'.isList fun h' he hit hsz hk => wpAny_pyIter_enum he ?_
      have I2 : Inv X pins σ H1 { s1 with heap := h' } := I1.kept (t' := s1.toks) hk
      exact ⟨s1.heap.objs.size + 1, [s1.heap.objs.size + 1, s1.heap.objs.size], _, _, H1, rfl, I2, turn_enum a (s1.heap.objs.size + 1) s1.heap.objs.size, ⟨⟨.none, he⟩, hit, Nat.succ_ne_self _⟩, fresh2, q⟩
    · obtain ⟨its, rv, p', hz⟩ := I1.tuple hq
      have la : a < s1.heap.objs.size := by obtain ⟨_, e, _⟩ := id p'; exact Heap.lt_size e
      refine enum_begins1 (begins_tuple a its.toArray) (show s1.heap.IsTuple a its.toArray from p') fun h' he hit hsz hk => wpAny_pyIter_enum he ?_
      have I2 : Inv X pins σ H1 { s1 with heap := h' } := I1.kept (t' := s1.toks) hk
      exact ⟨s1.heap.objs.size + 1, [s1.heap.objs.size + 1, s1.heap.objs.size], _, _, H1, rfl, I2, turn_enumT a (s1.heap.objs.size + 1) s1.heap.objs.size, ⟨⟨.none, he⟩, ⟨_, hit, rfl, rfl⟩, Nat.succ_ne_self _, Nat.ne_of_lt la, Nat.ne_of_lt (Nat.lt_succ_of_lt la)⟩, fresh2, q⟩
end HX
namespace Mir
variable [Tabl]
open PySem PySem.Spec PyProof.Rows L2
section
variable {X : Cx} {W : WX} {pos p tpos : Pos} {tg a b e : Expr} {ma mb me : ME} {mi : MI} {elts : List Expr} {kk : Nat}
def itA (t : T) (st : Store) : Option Iter := match t with
  | .tup ts => some ⟨ts, fun _ => True⟩
  | t => itLM t st
def iEnumA (m : ME) : MI := fun env st => (m env st).bind fun t st1 => match itA t st1 with
  | some it => .ok ⟨enumT it.items, it.chk⟩ st1
  | none => .stuck
theorem ji_enumA (hm : X.mg "enumerate" = none) (ha : JE X W a ma) (hg : Gl X "enumerate" := by rfl) (hs : starEach [a] X.env = [(false, eval a X.env)] := by rfl) : JI X W (.Tuple elts kk tpos) (.Call (.Name "enumerate" p) [a] [] pos) (iEnumA ma) :=
  pi_imp (HX.pi_enumA hg hm (pa_cons ha pa_nil hs) hs) fun σ H R ⟨ρ, st, env, hK, rel, re, h⟩ =>
  ⟨ρ, st, env, hK, rel, re, h.bind.imp fun ρ1 H1 t ⟨st1, x1, rel1, h1⟩ v rv => by
    split at h1
    · rename_i it hi
      unfold itA at hi
      split at hi
      · cases hi
        obtain ⟨p, xs, rfl, g, q⟩ := rv
        refine ⟨p, xs, rfl, .inr ⟨g.sq (x1.K.trans hK), h1.val rel1 _ fun ρ2 H2 st2 x2 k2 rel2 c => ?_⟩⟩
        have h2 : SqT X.K H2 p xs := (x2.tups _ _ g).sq (k2.trans (x1.K.trans hK))
        have h3 := q.grow x2
        refine ⟨fun i t ht => ?_, xs, h2, by rw [h3.length]; exact (enumT_len _).symm⟩
        obtain ⟨u, hu, rfl⟩ := enumT_get ht
        obtain ⟨z, hz, rz⟩ := h3.get hu
        refine ⟨⟨xs, z, h2, hz⟩, fun x H' y => ?_⟩
        obtain ⟨T', x', rfl, hn, rfl, y⟩ := y
        have : x' = z := Option.some.inj ((y xs h2).symm.trans hz)
        subst this
        have xx := Ext.new (ρ := ρ2) (o := .tup [.int (i : Nat), x']) hn
        exact ⟨xx, rel2.new hn, T', _, rfl, .inl upd_same, _, _, rfl, rfl, _, _, rfl, rz.mono xx, rfl⟩
      · obtain ⟨p, rfl, ⟨xs0, ex⟩, _, q⟩ := itL_get rel1 rv hi
        rw [x1.K, hK] at ex
        refine ⟨p, xs0, rfl, .inl ⟨ex, h1.val rel1 _ fun ρ2 H2 st2 x2 k2 rel2 c => ?_⟩⟩
        obtain ⟨xs, h2, h3⟩ := q ρ2 H2 st2 x2 k2 rel2 c
        rw [k2, x1.K, hK] at h2
        refine ⟨fun i t ht => ?_, xs, h2, by rw [h3.length]; show it.items.length ≤ (enumT it.items).length; rw [enumT_len]; exact Nat.le_refl _⟩
        obtain ⟨u, hu, rfl⟩ := enumT_get ht
        obtain ⟨z, hz, rz⟩ := h3.get hu
        refine ⟨⟨xs, z, h2, hz⟩, fun x H' y => ?_⟩
        obtain ⟨T', x', rfl, hn, rfl, y⟩ := y
        have : x' = z := Option.some.inj ((y xs h2).symm.trans hz)
        subst this
        have xx := Ext.new (ρ := ρ2) (o := .tup [.int (i : Nat), x']) hn
        exact ⟨xx, rel2.new hn, T', _, rfl, .inl upd_same, _, _, rfl, rfl, _, _, rfl, rz.mono xx, rfl⟩
    · exact h1.elim⟩
end
section
variable {X : Cx} {W : WX} {pos p tpos : Pos} {x : Str}
theorem j_topInt {i : Int} (h : ∃ t, X.mg x = some (.int i t)) (hg : Gl X x := by rfl) (hd : (x == ("__debug__" : Str)) = false := by decide) : JE X W (.Name x pos) (eC (.int i)) := by
  obtain ⟨t, hm⟩ := h
  exact pe_imp (pe_glob (v := .int i) hg hm ⟨t, rfl⟩ hd) fun σ H Q ⟨ρ, st, env, hK, rel, re, q⟩ => q.val rel _ rfl
end
structure Def (P : Program) (w : World) (K : PySem.W.Frag) (mg : Str → Option Value) (base : Heap) (k : Nat) (x : Str) (ps : List Str) (fm : List T → M T) : Prop where
  ex : ∃ (f : Addr) (fd : FuncData), HX.FnG P w K mg base (L2.CX P w) k f fd ps (spM K mg ps.length fm) ∧ mg x = some (.ref f) ∧ PySem.W.keepIn K (.ref f) = true ∧ Binds K fd ps []
section
variable {X : Cx} {W : WX} {pos p : Pos} {e : Expr} {es : List Expr} {mr : Env → M (List T)} {x : Str} {k j : Nat} {ps : List Str} {fm : List T → M T}
theorem j_def {n : Nat} (D : Def X.prog X.w X.K X.mg X.base k x ps fm) (hr : HX.RoomG j X.A) (hj : k ≤ j) (tk : Takes X W) (ha : JA X W (e :: es) mr)
    (hn : ps.length = n := by rfl) (hg : Gl X x := by rfl) (hdb : (x == ("__debug__" : Str)) = false := by decide) (he : starEach (e :: es) X.env = (false, eval e X.env) :: starEach es X.env := by rfl) (hpl : (backTo pos (starEach es X.env)).any (·.1) = false := by rfl) :
    JE X W (.Call (.Name x p) (e :: es) [] pos) (eL (callM n fm) mr) := by
  subst hn
  obtain ⟨f, fd, F, hm, hk, hb⟩ := D.ex
  exact j_call F (hr.mono hj) hm hk hb tk ha hg hdb he hpl
end
end Mir
namespace Mir
variable [Tabl]
open PySem PySem.Spec PyProof.Rows L2
theorem units {k j n : Nat} {A : Around} (hr : HX.RoomG k A) (h : j ≤ 200) (h2 : n ≤ j) : A.units + n < cLine := by
  have := hr.un
  omega
def iAny (m : ME) : MI := fun env st => (m env st).bind fun t st1 => match itA t st1 with
  | some it => .ok it st1
  | none => .stuck
section
variable {X : Cx} {W : WX} {o e a b : Expr} {es : List Expr} {mo ma mb : ME} {mr : Env → M (List T)} {apos cpos pos p p2 pos2 tpos : Pos} {tg : Expr}
theorem pi_or {t1 t2 : TI} (h1 : PI X tg e t1) (h2 : PI X tg e t2) : PI X tg e (fun σ H R => t1 σ H R ∨ t2 σ H R) := ⟨fun pins s σ H R I h => h.elim (h1.run pins s σ H R I) (h2.run pins s σ H R I)⟩
theorem ji_any (ha : JE X W a ma) : JI X W tg a (iAny ma) := pi_imp (pi_or (ji_list ha) (ji_tup ha)) fun σ H RR ⟨ρ, st, env, hK, rel, re, h⟩ => by
  unfold iAny at h
  cases hm : ma env st with
  | stuck => rw [hm] at h; exact h.elim
  | exc x s =>
    left
    refine ⟨ρ, st, env, hK, rel, re, ?_⟩
    unfold iSeq
    rw [hm] at h ⊢
    exact h
  | ok t s =>
    by_cases ht : ∃ ts, t = .tup ts
    · obtain ⟨ts, rfl⟩ := ht
      right
      refine ⟨ρ, st, env, hK, rel, re, ?_⟩
      unfold iTupM
      rw [hm] at h ⊢
      exact h
    · left
      refine ⟨ρ, st, env, hK, rel, re, ?_⟩
      unfold iSeq
      have e : itA t s = itLM t s := by
        cases t <;> first | rfl | exact absurd ⟨_, rfl⟩ ht
      rw [hm] at h ⊢
      simp only [R.bind] at h ⊢
      rw [e] at h
      exact h
theorem j_neg (ha : JE X W a ma) : JE X W (.UnaryOp .USub a pos) (e1 kNeg ma) := pe_imp (pe_un un_neg ha) fun σ H Q ⟨ρ, st, env, hK, rel, re, h⟩ =>
  ⟨ρ, st, env, hK, rel, re, h.bind.imp fun ρ1 H1 t ⟨st1, x1, rel1, h1⟩ v rv => k_neg (K := X.K) _ _ ρ1 st1 H1 σ t v Q (x1.K.trans hK) rel1 rv h1⟩
end
end Mir
namespace Mir
variable [Tabl]
open PySem PySem.Spec PyProof.Rows L2
section
variable {X : Cx} {W : WX} {o e a b : Expr} {es : List Expr} {mo ma mb : ME} {mr : Env → M (List T)} {apos cpos pos p p2 pos2 tpos : Pos} {x : Str}
theorem pop_mt : MtR X "list.pop" rPop := mt_pop
theorem append_mt : MtR X "list.append" rAppend := mt_append
theorem extend_mt : MtR X "list.extend" rExtend := mt_extend
theorem jm_pop0 (ho : JE X W o mo) (hbase : attributeBase o "pop" X.env (eval o X.env) = eval o X.env := by rfl) (hline : (apos.endLine == cpos.line) = true := by rfl) :
    JE X W (.Call (.Attribute o "pop" apos) [] [] cpos) (eM isL kPop mo aNil) := j_mL0 PySem.F.plainAttrs_list PySem.F.slot_list_pop PySem.F.type_list_pop pop_mt k_pop ho hbase hline
theorem jm_append (ho : JE X W o mo) (ha : JA X W (e :: es) mr)
    (hbase : attributeBase o "append" X.env (eval o X.env) = eval o X.env := by rfl)
    (hfew : ((backTo cpos (starEach (e :: es) X.env)).all (fun x => !x.1) && (backToKw cpos (keywordEach [] X.env)).all (fun x => x.1.isSome)
      && decide ((e :: es).length + ([] : List Keyword).length + (if ([] : List Keyword).isEmpty then 0 else 1) < 30)) = true := by rfl)
    (hline : (apos.endLine == cpos.line) = true := by rfl) (hs : starEach (e :: es) X.env = (false, eval e X.env) :: starEach es X.env := by rfl) (hplain : (backTo cpos (starEach es X.env)).any (·.1) = false := by rfl) :
    JE X W (.Call (.Attribute o "append" apos) (e :: es) [] cpos) (eM isL kAppend mo mr) := j_mL PySem.F.plainAttrs_list PySem.F.slot_list_append PySem.F.type_list_append append_mt k_append ho ha hbase hfew hline hs hplain
theorem jm_extend (ho : JE X W o mo) (ha : JA X W (e :: es) mr)
    (hbase : attributeBase o "extend" X.env (eval o X.env) = eval o X.env := by rfl)
    (hfew : ((backTo cpos (starEach (e :: es) X.env)).all (fun x => !x.1) && (backToKw cpos (keywordEach [] X.env)).all (fun x => x.1.isSome)
      && decide ((e :: es).length + ([] : List Keyword).length + (if ([] : List Keyword).isEmpty then 0 else 1) < 30)) = true := by rfl)
    (hline : (apos.endLine == cpos.line) = true := by rfl) (hs : starEach (e :: es) X.env = (false, eval e X.env) :: starEach es X.env := by rfl) (hplain : (backTo cpos (starEach es X.env)).any (·.1) = false := by rfl) :
    JE X W (.Call (.Attribute o "extend" apos) (e :: es) [] cpos) (eM isL kExtend mo mr) := j_mL PySem.F.plainAttrs_list PySem.F.slot_list_extend PySem.F.type_list_extend extend_mt k_extend ho ha hbase hfew hline hs hplain
theorem jc_len (hm : X.mg "len" = none) (ha : JA X W (a :: es) mr) (hg : Gl X "len" := by rfl)
    (he : starEach (a :: es) X.env = (false, eval a X.env) :: starEach es X.env := by rfl) (hpl : (backTo pos (starEach es X.env)).any (·.1) = false := by rfl) : JE X W (.Call (.Name "len" p) (a :: es) [] pos) (eL kLen mr) :=
  j_callB call_lenAll k_len hm (by decide +kernel) ha hg (by decide) (by decide) he hpl
theorem jc_tuple (hm : X.mg "tuple" = none) (ha : JA X W (a :: es) mr) (hg : Gl X "tuple" := by rfl)
    (he : starEach (a :: es) X.env = (false, eval a X.env) :: starEach es X.env := by rfl) (hpl : (backTo pos (starEach es X.env)).any (·.1) = false := by rfl) : JE X W (.Call (.Name "tuple" p) (a :: es) [] pos) (eL kTuple mr) :=
  j_callT call_tuple_of k_tuple hm (by decide +kernel) ha hg (by decide) (by decide) he hpl
theorem jc_sum (hm : X.mg "sum" = none) (ha : JA X W (a :: es) mr) (hc : X.calm = true := by rfl) (hg : Gl X "sum" := by rfl)
    (he : starEach (a :: es) X.env = (false, eval a X.env) :: starEach es X.env := by rfl) (hpl : (backTo pos (starEach es X.env)).any (·.1) = false := by rfl) : JE X W (.Call (.Name "sum" p) (a :: es) [] pos) (eL kSum mr) :=
  j_callB (cr_sum hc) k_sum hm (by decide +kernel) ha hg (by decide) (by decide) he hpl
theorem jc_all (hm : X.mg "all" = none) (ha : JA X W (a :: es) mr) (hc : X.calm = true := by rfl) (hg : Gl X "all" := by rfl)
    (he : starEach (a :: es) X.env = (false, eval a X.env) :: starEach es X.env := by rfl) (hpl : (backTo pos (starEach es X.env)).any (·.1) = false := by rfl) : JE X W (.Call (.Name "all" p) (a :: es) [] pos) (eL kAll mr) :=
  j_callB (cr_all hc) k_all hm (by decide +kernel) ha hg (by decide) (by decide) he hpl
theorem jc_max (hm : X.mg "max" = none) (ha : JA X W (a :: es) mr) (hc : X.calm = true := by rfl) (hg : Gl X "max" := by rfl)
    (he : starEach (a :: es) X.env = (false, eval a X.env) :: starEach es X.env := by rfl) (hpl : (backTo pos (starEach es X.env)).any (·.1) = false := by rfl) : JE X W (.Call (.Name "max" p) (a :: es) [] pos) (eL kMax mr) :=
  j_callB (call_maxAll hc) k_max hm (by decide +kernel) ha hg (by decide) (by decide) he hpl
theorem jc_min (hm : X.mg "min" = none) (ha : JA X W (a :: es) mr) (hc : X.calm = true := by rfl) (hg : Gl X "min" := by rfl)
    (he : starEach (a :: es) X.env = (false, eval a X.env) :: starEach es X.env := by rfl) (hpl : (backTo pos (starEach es X.env)).any (·.1) = false := by rfl) : JE X W (.Call (.Name "min" p) (a :: es) [] pos) (eL kMin mr) :=
  j_callB (call_minAll hc) k_min hm (by decide +kernel) ha hg (by decide) (by decide) he hpl
end
end Mir
namespace Mir
variable [Tabl]
open PySem PySem.Spec PyProof.Rows L2
section
variable {P : Program} {w : World} {K : PySem.W.Frag} {mg : Str → Option Value} {base : Heap}
def DefBody (P : Program) (w : World) (K : PySem.W.Frag) (mg : Str → Option Value) (base : Heap) (k : Nat) (N : List Str) (qual : Str) (sc : Scope) (f : Addr) (b : List Stmt) (m : MS) : Prop :=
  ∀ (cdv : Value) (A : Around) (outer : List PySem.Env) (s : Shared) (H : Hp) (E : XK), HX.RoomG k (A.deeper (envOfC qual sc s.heap.objs.size f cdv)) → JB (BX P w K mg base N qual sc f cdv A outer s H E) (WB E) b m
theorem def_pop {x qual : Str} {st : Stmt} {f : Addr} {fd : FuncData} {N ps : List Str} {k n l : Nat} {m : MS} (F : Fun K x qual st f fd) (S : FnScope N ps (defScope st)) (hn : ps.length = n) (hl : N.length = l)
    (hb : DefBody P w K mg base k N qual (defScope st) f (defBody st) m) : HX.FnG P w K mg base (L2.CX P w) (k + 1) f fd ps (spM K mg n (popS (defM n l m))) := by
  subst hn hl
  exact popMG (def_ok F S hb)
theorem def_raw {x qual : Str} {st : Stmt} {f : Addr} {fd : FuncData} {N ps : List Str} {k n l : Nat} {m : MS} (F : Fun K x qual st f fd) (S : FnScope N ps (defScope st)) (hn : ps.length = n) (hl : N.length = l)
    (hb : DefBody P w K mg base k N qual (defScope st) f (defBody st) m) : HX.FnG P w K mg base (L2.CX P w) (k + 1) f fd ps (spM K mg n (defM n l m)) := by
  subst hn hl
  exact def_ok F S hb
theorem noCX {P : Program} {w : World} {o : List PySem.Env} {H : Hp} {s s' : Shared} {e : Value} (h : L2.CX P w o H s (fun _ _ _ => False) e s') : False := by
  obtain ⟨_, _, _, _, _, _, _, _, _, _, _, _, h⟩ := h
  exact h
def LawM (f : List T → M T) : Prop := ∀ ns : List Int, ns.length ≤ 63 → ∃ st, f [.scr (ns.map T.int)] [] = .ok (.bl true) st
def lawSpT (K : PySem.W.Frag) : Sp := fun vs H Q _ => ∃ (a : Addr) (ns : List Int), vs = [.ref a] ∧ SqL K H a (ns.map V.int) ∧ (∀ p ∈ Tabl.T, H p.1 = some (.tbl #[])) ∧ ns.length ≤ 63 ∧ ∀ H', Q (.bl true) H'
theorem law_spT {CX : CXT} {k : Nat} {f : Addr} {fd : FuncData} {ps : List Str} {fm : List T → M T} (F : HX.FnG P w K mg base CX k f fd ps (spM K mg 1 fm)) (h : LawM fm) : HX.FnG P w K mg base CX k f fd ps (lawSpT K) :=
  F.imp fun vs H Q E ⟨a, ns, e, hS, ho, hl, q⟩ => by
    subst e
    obtain ⟨st, hst⟩ := h ns hl
    refine ⟨⟨K, [], []⟩, [], [.scr (ns.map T.int)], rfl, ⟨rfl, List.nodup_nil, fun n o a e => by simp at e, fun a h => by simp at h, fun p hp => NdefX.TabN.nil (ho p hp)⟩, ⟨.ref a, [], rfl, ⟨a, _, rfl, ?_, RVs.ofInts ns⟩, rfl⟩, rfl, ?_⟩
    · rcases hS with hS | hS
      · exact .inl ⟨⟨by simp, by simp⟩, hS⟩
      · exact .inr hS
    · rw [hst]
      exact fun ρ' H' _ _ v rv => by
        rw [show v = _ from rv]
        exact q H'
end
end Mir
namespace Mir
open PySem PySem.Spec PyProof.Rows L2
end Mir
namespace Mir
open PySem PySem.Spec PyProof.Rows L2
end Mir
namespace HX
open PySem PySem.Spec PyProof.Rows L2
section
variable {X : Cx} {o e : Expr} {es : List Expr} {ta : TA} {p1 p2 pos : Pos}
theorem pe_rinit {pl : Sem Bool} {R : Str} {RC : Addr} (hg : Gl X R) (hm : X.mg R = some (.ref RC)) (hdb : (R == ("__debug__" : Str)) = false) (hsp : PySem.W.specialIn X.K (.ref RC) "__getattribute__" = some (some (.builtin "type.__getattribute__")))
    (hrd : PySem.W.readsIn X.K RC (.type "type") = true) (hfc : PySem.W.findCls X.K (.ref RC) (.type "type") "__init__" = some (.val (.builtin "ValueError.__init__"))) (ha : PA X (e :: es) ta)
    (hc : eval (.Call (.Attribute (.Name R p1) "__init__" p2) (e :: es) [] pos) X.env = (do
      let ov ← eval (.Name R p1) X.env
      standAt p2.atName
      let (f, first) ← holding [ov] (getMethod ov "__init__" pl)
      callWith pos f first (backTo pos (starEach (e :: es) X.env)) (backToKw pos (keywordEach [] X.env))) := by rfl)
    (he : starEach (e :: es) X.env = (false, eval e X.env) :: starEach es X.env := by rfl) (hpl : (backTo pos (starEach es X.env)).any (·.1) = false := by rfl) :
    PE X (.Call (.Attribute (.Name R p1) "__init__" p2) (e :: es) [] pos) (tVeI X.K ta) := by
  refine ⟨fun pins s σ H Q I h => ?_⟩
  refine PySem.W.methodCall_KW (ld_glob I hg hm ?_ hdb) hc
  refine PySem.W.method_cls I.kIn hsp (PySem.W.cls_value I.kIn hrd hfc (by decide +kernel) ?_)
  show wpAny _ _ (callWith pos (Value.builtin "ValueError.__init__") [] (backTo pos (starEach (e :: es) X.env)) []) _ _ _
  refine PyProof.Rows.callWith_method1 (thn (ha.run pos pins _ σ H _ (I.tok _) h) fun us s1 ⟨vs, H1, I1, r1, a, C, ws, ev, hl, T, ea, q⟩ => ?_) he hpl
  subst ev
  cases r1 with
  | @cons _ u0 _ ur ra rw' =>
    obtain rfl : u0 = Value.ref a := ra
    have hlen : ur.length ≤ sizeLine := by rw [← Paired.length rw', sizeLine_eq]; omega
    exact oinit_ok T I1 ea hlen fun s' J => ⟨.non, H1, J, rfl, q⟩
end
structure RootC (K : PySem.W.Frag) (RC : Addr) : Prop where
  sp : PySem.W.specialIn K (.ref RC) "__getattribute__" = some (some (.builtin "type.__getattribute__"))
  rd : PySem.W.readsIn K RC (.type "type") = true
  fc : PySem.W.findCls K (.ref RC) (.type "type") "__init__" = some (.val (.builtin "ValueError.__init__"))
def spI1 (K : PySem.W.Frag) (f : Str) : Sp := fun vs H Q E => ∃ (a C : Addr) (v : V), vs = [.ref a, v] ∧ OexC K C ∧ PySem.W.findIn K (.ref C) f = some none ∧ H a = some (exo a C none) ∧ ∀ dx, H dx = none → dx ≠ a → Q .non (upd (upd H dx (exd dx [(f, v)])) a (exo a C (some dx)))
def spI2 (K : PySem.W.Frag) (f g : Str) : Sp := fun vs H Q E => ∃ (a C : Addr) (v w : V), vs = [.ref a, v, w] ∧ OexC K C ∧ PySem.W.findIn K (.ref C) f = some none ∧ PySem.W.findIn K (.ref C) g = some none ∧ H a = some (exo a C none) ∧ ∀ dx, H dx = none → dx ≠ a → Q .non (upd (upd H dx (exd dx [(g, w), (f, v)])) a (exo a C (some dx)))
section
variable {P : Program} {w : World} {K : PySem.W.Frag} {mg : Str → Option Value} {base : Heap}
abbrev tI2 (K : PySem.W.Frag) (msg f g : Str) : TS := tSeq (tDrop (tVeI K (tCons (tVar 0) (tCons (tC (.str msg)) tNil)))) (tSeq (tOst K f (tVar 0) (tVar 1)) (tOst K g (tVar 0) (tVar 2)))
theorem init2_ok {x qual : Str} {st : Stmt} {f : Addr} {fd : FuncData} {N ps : List Str} {k : Nat} {fl gl msg : Str} (F : Fun K x qual st f fd) (S : FnScope N ps (defScope st)) (hN : N.length = 3) (hp : ps.length = 3)
    (hbody : ∀ (cdv : Value) (A : Around) (outer : List Env) (s : Shared) (H : Hp) (E : XK), PSs (cxOf (L2.CX P w) P w K mg base N qual (defScope st) f cdv A outer s H E) (defBody st) (tI2 K msg fl gl)) :
    FnOk P w K mg base (L2.CX P w) (k + 1) f fd ps (spI2 K fl gl) := by
  refine F.okX S (fun vs H Q E ⟨_, _, _, _, e, _⟩ => by rw [e, hp]; rfl) fun cdv A outer s H vs Q E hr ⟨a, C, v, u, ev, hC, hno, hno2, ea, q⟩ => ⟨_, hbody cdv A outer s H E, ?_⟩
  subst ev
  have e0 : (start N [.ref a, v, u])[0]? = some (some (.ref a)) := rfl
  have e1 : (start N [.ref a, v, u])[1]? = some (some v) := rfl
  have e2 : (start N [.ref a, v, u])[2]? = some (some u) := rfl
  refine ⟨.ref a, e0, a, C, [.str msg], rfl, by simp, hC, ea, v, e1, .ref a, e0, a, C, rfl, hC, hno, .inl ⟨ea, fun dx n ne => ?_⟩⟩
  have ha : upd (upd H dx (exd dx [(fl, v)])) a (exo a C (some dx)) a = some (exo a C (some dx)) := upd_same
  have hd : upd (upd H dx (exd dx [(fl, v)])) a (exo a C (some dx)) dx = some (exd dx [(fl, v)]) := by rw [upd_ne ne, upd_same]
  refine ⟨u, e2, .ref a, e0, a, C, rfl, hC, hno2, .inr ⟨dx, [(fl, v)], ha, hd, by simp, ?_⟩⟩
  have e : upd (upd (upd H dx (exd dx [(fl, v)])) a (exo a C (some dx))) dx (exd dx [(gl, u), (fl, v)]) = upd (upd H dx (exd dx [(gl, u), (fl, v)])) a (exo a C (some dx)) := by
    funext b
    by_cases h1 : b = dx
    · subst h1
      rw [upd_same, upd_ne ne, upd_same]
    · rw [upd_ne h1]
      by_cases h2 : b = a
      · subst h2; rw [upd_same, upd_same]
      · rw [upd_ne h2, upd_ne h2, upd_ne h1, upd_ne h1]
  rw [e]
  exact q dx n ne
end
structure AskC (K : PySem.W.Frag) (C : Addr) : Prop where
  hd : PySem.W.hasDictIn K C = true
  hga : PySem.W.findIn K (.ref C) "__getattribute__" = some (some (.builtin "BaseException.__getattribute__"))
  hgt : PySem.W.findIn K (.ref C) "__getattr__" = some none
  hsub : PySem.W.subIn K (.ref C) (.type "BaseException") = some true
  ha : PySem.W.findIn K (.ref C) "__class__" = some (some (.builtin "object.__class__"))
  hn : PySem.W.specialIn K (.builtin "object.__class__") "__get__" = some (some (.builtin "getset_descriptor.__get__"))
  ht : PySem.W.takesIn K (.builtin "object.__class__") = some true
  hm : PySem.W.mroIn K C (.type "object") = some true
theorem AskC.cls {K : PySem.W.Frag} {C : Addr} (h : AskC K C) : (PySem.W.clsIn K C).isSome = true := by
  obtain ⟨cd, hc, _⟩ := PySem.W.any_some h.hd
  rw [hc]; rfl
end HX
namespace Mir
variable [Tabl]
open PySem PySem.Spec PyProof.Rows L2
theorem RFs.lookup {ρ : Ro} {H : Hp} : ∀ {xs : List (Str × T)} {ys : List (Str × V)} {f : Str} {t : T}, RFs ρ H xs ys → xs.lookup f = some t → ∃ v, ys.lookup f = some v ∧ RV ρ H t v
  | [], ys, f, t, _, e => by cases e
  | (k, u) :: xs, ys, f, t, h, e => by
    obtain ⟨x, r, rfl, h1, h2⟩ := h
    rw [List.lookup_cons] at e ⊢
    cases hk : f == k with
    | true => rw [hk] at e; cases e; exact ⟨x, rfl, h1⟩
    | false => rw [hk] at e; exact RFs.lookup h2 e
structure RaiseD (P : Program) (w : World) (K : PySem.W.Frag) (mg : Str → Option Value) (base : Heap) (x : Str) (flds : List Str) : Prop where
  ex : ∃ (C fI : Addr) (fd : FuncData) (ps : List Str), mg x = some (.ref C) ∧ OexC K C ∧ PySem.W.findIn K (.ref C) "__init__" = some (some (.ref fI)) ∧ PySem.W.typeIn K (.ref fI) = some (.type "function") ∧ Binds K fd ps [] ∧
    ((∃ f, flds = [f] ∧ PySem.W.findIn K (.ref C) f = some none ∧ FnOk P w K mg base (L2.CX P w) 1 fI fd ps (HX.spI1 K f)) ∨
     (∃ f g, flds = [f, g] ∧ f ≠ g ∧ PySem.W.findIn K (.ref C) f = some none ∧ PySem.W.findIn K (.ref C) g = some none ∧ FnOk P w K mg base (L2.CX P w) 1 fI fd ps (HX.spI2 K f g)))
def sRaise (x : Str) (flds : List Str) (m : Env → M (List T)) : MS := fun env st => RS.of env (m env st) fun ts st1 => if ts.length = flds.length then .exc ⟨x, (flds.zip ts).reverse⟩ env st1 else .stuck
theorem del_upd {H : Hp} {a dx : Addr} {u v w : HO} (hn : H a = none) (ne : dx ≠ a) : upd (L2.del (upd (upd (upd H a u) dx v) a w) a) dx (.xd fs) = upd H dx (.xd fs) := by
  funext b
  by_cases h1 : b = dx
  · subst h1; rw [upd_same, upd_same]
  · rw [upd_ne h1, upd_ne h1]
    by_cases h2 : b = a
    · subst h2; rw [del_same, hn]
    · rw [del_ne h2, upd_ne h2, upd_ne h1, upd_ne h2]
section
variable {X : Cx} {W : WX} {e : Expr} {es : List Expr} {mr : Env → M (List T)} {p pos pos2 : Pos} {x : Str} {flds : List Str} {k : Nat}
theorem js_raise (D : RaiseD X.prog X.w X.K X.mg X.base x flds) (hr : HX.RoomG k X.A) (hk : 2 ≤ k) (tk : Takes X W) (hc : X.calm = true) (ha : JA X W (e :: es) mr) (hg : Gl X x := by rfl) (hdb : (x == ("__debug__" : Str)) = false := by decide)
    (he : starEach (e :: es) X.env = (false, eval e X.env) :: starEach es X.env := by rfl) (hpl : (backTo pos (starEach es X.env)).any (·.1) = false := by rfl) :
    JS X W (.Raise (some (.Call (.Name x p) (e :: es) [] pos)) none pos2) (sRaise x flds mr) := by
  obtain ⟨C, fI, fd, ps, hm, hC, iC, tI, hb, hF⟩ := D.ex
  have fin : ∀ {ρ1 : Ro} {H1 : Hp} {st1 : Store} {env : Env} {σ : L2.St} {xs : List (Str × T)} {fs : List (Str × V)} {D : Ends} {a dx : Addr} {u v w : HO}, Rel ρ1 st1 H1 → RE ρ1 H1 env σ → FinS X.mg W ρ1 H1 (.exc ⟨x, xs⟩ env st1) D →
      H1 a = none → H1 dx = none → dx ≠ a → RFs ρ1 H1 xs fs → W (.ref C) (some dx) σ (upd (L2.del (upd (upd (upd H1 a u) dx v) a w) a) dx (.xd fs)) := fun {ρ1 H1 st1 env σ xs fs D a dx u v w} rel re h hn hd ne hf => by
    rw [del_upd hn ne]
    have x1 : Ext ρ1 H1 ρ1 (upd H1 dx (.xd fs)) := Ext.new hd
    exact h ρ1 _ σ _ _ x1 (rel.new hd) (re.mono x1) ⟨C, dx, fs, hm, rfl, rfl, upd_same, hf.mono x1, rel.out hd⟩
  rcases hF with ⟨f, rfl, h1, F⟩ | ⟨f, g, rfl, hfg, h1, h2, F⟩
  · refine ps_imp (ps_raise hc tk (pmk_oex hC iC tI F ⟨hr.hd, by have := hr.dp; omega, by have := hr.un; omega⟩ hb .nil passL hg hm ha hdb he hpl)) fun D σ H ⟨ρ, st, env, hK, rel, re, h⟩ =>
      ⟨ρ, st, env, hK, rel, re, (FinS.of re h).imp fun ρ1 H1 ts ⟨st1, x1, rel1, h1'⟩ vs rvs => ?_⟩
    split at h1'
    · rename_i hl
      match ts, hl, rvs with
      | [t], _, rvs =>
        obtain ⟨v, rfl, rv⟩ := rvs.one
        refine ⟨by simp, fun a hn => ⟨a, C, v, rfl, hC, h1, upd_same, fun dx hd ne => ⟨rfl, dx, [(f, v)], upd_same, by rw [upd_ne ne, upd_same], ?_, ?_⟩⟩⟩
        · rw [upd_ne ne] at hd; exact hd
        · rw [upd_ne ne] at hd
          exact fin rel1 (re.mono x1) h1' hn hd ne ⟨v, [], rfl, rv, rfl⟩
    · exact h1'.elim
  · refine ps_imp (ps_raise hc tk (pmk_oex hC iC tI F ⟨hr.hd, by have := hr.dp; omega, by have := hr.un; omega⟩ hb .nil passL hg hm ha hdb he hpl)) fun D σ H ⟨ρ, st, env, hK, rel, re, h⟩ =>
      ⟨ρ, st, env, hK, rel, re, (FinS.of re h).imp fun ρ1 H1 ts ⟨st1, x1, rel1, h1'⟩ vs rvs => ?_⟩
    split at h1'
    · rename_i hl
      match ts, hl, rvs with
      | [t, u], _, rvs =>
        obtain ⟨v, w, rfl, rv, rw'⟩ := rvs.two
        refine ⟨by simp, fun a hn => ⟨a, C, v, w, rfl, hC, h1, h2, upd_same, fun dx hd ne => ⟨rfl, dx, [(g, w), (f, v)], upd_same, by rw [upd_ne ne, upd_same], ?_, ?_⟩⟩⟩
        · rw [upd_ne ne] at hd; exact hd
        · rw [upd_ne ne] at hd
          exact fin rel1 (re.mono x1) h1' hn hd ne ⟨w, _, rfl, rw', v, [], rfl, rv, rfl⟩
    · exact h1'.elim
end
def clsBody (s : Stmt) : List Stmt := match s with
  | .ClassDef _ _ _ b _ _ _ _ _ _ _ => b
  | _ => []
end Mir
namespace Mir
variable [Tabl]
open PySem PySem.Spec PyProof.Rows L2
def rIsT (neg : Bool) : R2 := fun x y H Q => (∃ a b : Bool, x = .bl a ∧ y = .bl b ∧ Q (.bl (if neg then !decide (a = b) else decide (a = b))) H) ∨ ∃ (p : Addr) (b : Bool), x = .ref p ∧ y = .bl b ∧ Q (.bl neg) H
theorem op_notT {X : Cx} : OpR X (compareOp .IsNot) (rIsT true) := by
  intro pins s σ H x y v u Q I rx ry h
  rcases h with ⟨a, b, rfl, rfl, q⟩ | ⟨p, b, rfl, rfl, q⟩
  · obtain rfl : v = Value.bool a := rx
    obtain rfl : u = Value.bool b := ry
    by_cases e : a = b
    · subst e
      exact wpAny_isNot_self rfl ⟨.bl false, H, I, rfl, by simpa using q⟩
    · exact wpAny_isNot_other rfl (fun z => e (Value.bool.inj z)) ⟨.bl true, H, I, rfl, by simpa [e] using q⟩
  · obtain rfl : v = Value.ref p := rx
    obtain rfl : u = Value.bool b := ry
    exact wpAny_isNot_other rfl (fun z => by cases z) ⟨.bl true, H, I, rfl, q⟩
def kIsT (neg : Bool) (t u : T) : M T := fun st => match t, u with
  | .bl a, .bl b => .ok (.bl (if neg then !decide (a = b) else decide (a = b))) st
  | .tup _, .bl _ => .ok (.bl neg) st
  | _, _ => .stuck
theorem k_isT {K : PySem.W.Frag} {neg : Bool} : Op2 K (rIsT neg) (kIsT neg) := by
  intro mg W ρ st H σ t u x y Q hK rel hx hy h
  unfold kIsT at h
  split at h
  · exact .inl ⟨_, _, hx, hy, h.val rel _ rfl⟩
  · obtain ⟨a, xs, rfl, _⟩ := hx
    exact .inr ⟨a, _, rfl, hy, h.val rel _ rfl⟩
  · exact h.elim
end Mir
namespace Sh
noncomputable section
open PySem PySem.Spec PyProof.Rows L2 Mir
def m_l_deal : MS := sSeq (sSet 2 (eComp false (iAny (eCut false (eVar 0) (oSome (eVar 1)) (oSome (eC (.int 63))))) (.name 3) (tYesM) [3] (compK1 (eL kMax (aCons (eVar 3) (aCons (e2 kSub (eC (.int 0)) (eVar 3)) (aNil))))))) (
    sSeq (sSet 4 (e2 (kAdd false) (eC (.int 104729)) (e2 (kMul false) (eC (.int 31)) (eVar 1)))) (
    sSeq (sFor (iAny (eVar 2)) (gN 3) (sSet 4 (e2 kMod (e2 (kAdd false) (e2 (kAdd false) (e2 (kMul false) (eVar 4) (eC (.int 69623))) (e2 kMod (eVar 3) (eC (.int 2147483629)))) (eC (.int 1))) (eC (.int 2147483647))))) (
    sRet (eDict ["seed", "many", "now", "left"] (aCons (e2 (kAdd true) (eVar 4) (eC (.int 1))) (aCons (eC (.int 0)) (aCons (eC (.int 0)) (aCons (e1 (kListRev true) (eComp false (iAny (eVar 2)) (.name 3) (tV (e2 (kGe) (eVar 3) (e2 kPow (eC (.int 10)) (eC (.int 18))))) [3] (compK1 (eVar 3)))) (aNil)))))))))
def f_l_deal : List T → M T := defM 2 5 m_l_deal
def m_l_draw : MS := sSeq (whileM (tAndM (tV (e2 (kEq false) (e2 kDGet (eVar 0) (eC (.str "now"))) (eC (.int 0)))) (tV (e2 (kGt) (eL kLen (aCons (e2 kDGet (eVar 0) (eC (.str "left"))) (aNil))) (eC (.int 0))))) (sDPutM (eM isL kPop (e2 kDGet (eVar 0) (eC (.str "left"))) aNil) (eVar 0) (eC (.str "now"))) 100000) (
    sSeq (sIf (tV (e2 (kGt) (e2 kDGet (eVar 0) (eC (.str "now"))) (eC (.int 0)))) (sSeq (sSet 2 (e2 kMod (e2 kDGet (eVar 0) (eC (.str "now"))) (eVar 1))) (
    sSeq (sDPutM (e2 kDiv (e2 kDGet (eVar 0) (eC (.str "now"))) (eVar 1)) (eVar 0) (eC (.str "now"))) (
    sRet (eVar 2)))) (sNext)) (
    sSeq (sDPutM (e2 (kAdd false) (e2 kDGet (eVar 0) (eC (.str "many"))) (eC (.int 1))) (eVar 0) (eC (.str "many"))) (
    sSeq (sSet 3 (e2 kMod (e2 (kMul false) (e2 (kAdd false) (e2 kDGet (eVar 0) (eC (.str "seed"))) (e2 (kMul false) (eC (.int 40692)) (e2 kDGet (eVar 0) (eC (.str "many"))))) (eC (.int 48271))) (eC (.int 2147483629)))) (
    sSeq (sSet 4 (e2 kMod (e2 (kAdd false) (e2 (kAdd false) (e2 (kMul false) (eVar 3) (eVar 3)) (e2 (kMul false) (eC (.int 7919)) (e2 kDGet (eVar 0) (eC (.str "many"))))) (e2 kDGet (eVar 0) (eC (.str "seed")))) (eC (.int 2147483563)))) (
    sRet (e2 kMod (e2 kDiv (e2 (kAdd false) (e2 (kMul false) (e2 kMod (e2 (kMul false) (eVar 4) (eVar 4)) (eC (.int 2147483647))) (eC (.int 30103))) (eVar 3)) (eC (.int 4096))) (eVar 1)))))))
def f_l_draw : List T → M T := popS (defM 2 5 m_l_draw)
def m_l_paces : MS := sSeq (sSet 2 (eL (kLstD false) (aCons (eC (.int 2)) (aCons (eC (.int 9)) (aCons (eC (.int 400)) (aCons (e2 kDiv (eC (.int 2000)) (eL kMax (aCons (eC (.int 1)) (aCons (e2 kSub (eVar 1) (eC (.int 1))) (aNil))))) (aNil))))))) (
    sSeq (sSet 3 (eComp false (iRange1 (e2 kSub (eVar 1) (eC (.int 1)))) (.name 4) (tYesM) [4] (compK1 (e2 (kAdd false) (eC (.int 1)) (eL (callM 2 f_l_draw) (aCons (eVar 0) (aCons (e2 kIx (eVar 2) (eL (callM 2 f_l_draw) (aCons (eVar 0) (aCons (eC (.int 4)) (aNil))))) (aNil)))))))) (
    sSeq (sSet 5 (eL (kLstD true) (aCons (e2 kSub (eL (callM 2 f_l_draw) (aCons (eVar 0) (aCons (e2 kSub (eC (.int 2001)) (eL kSum (aCons (eVar 3) (aNil)))) (aNil)))) (eC (.int 1000))) (aNil)))) (
    sSeq (sFor (iAny (eVar 3)) (gN 6) (sExpr (eM isL kAppend (eVar 5) (aCons (e2 (kAdd false) (e2 kIx (eVar 5) (e1 kNeg (eC (.int 1)))) (eVar 6)) (aNil))))) (
    sRet (eL kTuple (aCons (eVar 5) (aNil)))))))
def f_l_paces : List T → M T := popS (defM 2 7 m_l_paces)
def m_l_alike : MS := sSeq (sSet 2 (eL (kLstD true) (aCons (eL kTupD (aCons (eVar 0) (aCons (eVar 1) (aNil)))) (aNil)))) (
    sSeq (whileM (tV (e2 (kGt) (eL kLen (aCons (eVar 2) (aNil))) (eC (.int 0)))) (sSeq (sAsg (eM isL kPop (eVar 2) aNil) (gT 2 (gsCons (gN 3) (gsCons (gN 4) (gsNil))))) (
    sSeq (sIf (tOrM (tV (e2 (kEq true) (e1 (kIsi "bool") (eVar 3)) (e1 (kIsi "bool") (eVar 4)))) (tV (e2 (kEq true) (e1 (kIsi "tuple") (eVar 3)) (e1 (kIsi "tuple") (eVar 4))))) (sRet (eC (.bl false))) (sNext)) (
    sSeq (sIf (tOrM (tV (e2 (kEq true) (e1 (kIsi "list") (eVar 3)) (e1 (kIsi "list") (eVar 4)))) (tV (e2 (kEq true) (e1 (kIsi "str") (eVar 3)) (e1 (kIsi "str") (eVar 4))))) (sRet (eC (.bl false))) (sNext)) (
    sSeq (sIf (tV (e2 (kEq true) (e1 (kIsi "int") (eVar 3)) (e1 (kIsi "int") (eVar 4)))) (sRet (eC (.bl false))) (sNext)) (
    sIf (tV (e1 (kIsi2 "tuple" "list") (eVar 4))) (sSeq (sIf (tV (e2 (kEq true) (eL kLen (aCons (eVar 3) (aNil))) (eL kLen (aCons (eVar 4) (aNil))))) (sRet (eC (.bl false))) (sNext)) (
    sExpr (eM isL kExtend (eVar 2) (aCons (eL (kListZip false) (aCons (eVar 3) (aCons (eVar 4) (aNil)))) (aNil))))) (sIf (tV (e2 (kEq true) (eVar 3) (eVar 4))) (sRet (eC (.bl false))) (sNext))))))) 100000) (
    sRet (eC (.bl true))))
def f_l_alike : List T → M T := popS (defM 2 5 m_l_alike)
end
end Sh
namespace Sh
open PySem PySem.Spec PyProof.Rows L2 Mir
theorem of_ok {α : Type} {env : Mir.Env} {a : α} {st : Store} {k : α → Store → RS} : RS.of env (.ok a st) k = k a st := rfl
theorem bind_ok {α β : Type} {a : α} {st : Store} {k : α → M β} : (R.ok a st).bind k = k a st := rfl
theorem eVar_at {env : Mir.Env} {st : Store} {i : Nat} {t : T} (h : env[i]? = some (some t)) : eVar i env st = .ok t st := by unfold eVar; rw [h]
theorem while_done {t : MT} {b : MS} {n : Nat} {env : Mir.Env} {st s1 : Store} (h : t env st = .ok false s1) : whileM t b (n + 1) env st = .nx env s1 := by
  unfold whileM; rw [h]; rfl
theorem while_next {t : MT} {b : MS} {n : Nat} {env e2 : Mir.Env} {st s1 s2 : Store} (h : t env st = .ok true s1) (hb : b env s1 = .nx e2 s2) : whileM t b (n + 1) env st = whileM t b n e2 s2 := by
  rw [whileM, h]; show (match b env s1 with | .nx e2 s2 => whileM t b n e2 s2 | .ct e2 s2 => whileM t b n e2 s2 | .bk e2 s2 => .nx e2 s2 | .rt v s2 => .rt v s2 | .exc x e2 s2 => .exc x e2 s2 | .stuck => .stuck) = _
  rw [hb]
def deal (s m w : Int) (l : Nat) : List (Str × T) := [("seed", .int s), ("many", .int m), ("now", .int w), ("left", .ref l)]
structure DealAt (st : Store) (d l : Nat) : Prop where
  ex : ∃ (s m w : Int) (ls : List Int), st[d]? = some (.dic (deal s m w l)) ∧ st[l]? = some (.lst (ls.map T.int)) ∧ 0 ≤ w ∧ (∀ x ∈ ls, 0 < x)
  ne : d ≠ l
structure Drawn (st st' : Store) (d l : Nat) : Prop where
  deal : DealAt st' d l
  len : st'.length = st.length
  same : ∀ j, j ≠ d → j ≠ l → st'[j]? = st[j]?
theorem Drawn.trans {st st1 st2 : Store} {d l : Nat} (a : Drawn st st1 d l) (b : Drawn st1 st2 d l) : Drawn st st2 d l := ⟨b.deal, b.len.trans a.len, fun j h1 h2 => (b.same j h1 h2).trans (a.same j h1 h2)⟩
theorem dget_at {st : Store} {d : Nat} {kvs : List (Str × T)} {k : Str} {v : T} (h : st[d]? = some (.dic kvs)) (e : getD' kvs k = some v) : kDGet (.ref d) (.str k) st = .ok v st := by
  unfold kDGet dicOf
  simp only [h, e]
theorem g_seed (s m w : Int) (l : Nat) : getD' (deal s m w l) "seed" = some (.int s) := rfl
theorem g_many (s m w : Int) (l : Nat) : getD' (deal s m w l) "many" = some (.int m) := rfl
theorem g_now (s m w : Int) (l : Nat) : getD' (deal s m w l) "now" = some (.int w) := rfl
theorem g_left (s m w : Int) (l : Nat) : getD' (deal s m w l) "left" = some (.ref l) := rfl
theorem p_now (s m w x : Int) (l : Nat) : putD (deal s m w l) "now" (.int x) = deal s m x l := rfl
theorem p_many (s m w x : Int) (l : Nat) : putD (deal s m w l) "many" (.int x) = deal s x w l := rfl
theorem draw_spec {st : Store} {d l : Nat} (h : DealAt st d l) {n : Int} (hn : 0 < n) (hn2 : n < 2 ^ 200) :
    ∃ (k : Int) (st' : Store), (defM 2 5 m_l_draw) [.ref d, .int n] st = .ok (.int k) st' ∧ 0 ≤ k ∧ k < n ∧ Drawn st st' d l := by
  obtain ⟨⟨s, m, w, ls, hd, hl, hw, hls⟩, hne⟩ := h
  have hn3 : n < 1606938044258990275541962092341162602522202993782792835301376 := Int.lt_of_lt_of_le hn2 (by decide)
  have dl : d < st.length := (List.getElem?_eq_some_iff.mp hd).1
  have ll : l < st.length := (List.getElem?_eq_some_iff.mp hl).1
  have loop : ∀ env : Mir.Env, env[0]? = some (some (.ref d)) → ∃ (w' : Int) (ls' : List Int) (st1 : Store), whileM (tAndM (tV (e2 (kEq false) (e2 kDGet (eVar 0) (eC (.str "now"))) (eC (.int 0)))) (tV (e2 (kGt) (eL kLen (aCons (e2 kDGet (eVar 0) (eC (.str "left"))) (aNil))) (eC (.int 0))))) (sDPutM (eM isL kPop (e2 kDGet (eVar 0) (eC (.str "left"))) aNil) (eVar 0) (eC (.str "now"))) 100000 env st = .nx env st1 ∧
      st1[d]? = some (.dic (deal s m w' l)) ∧ st1[l]? = some (.lst (ls'.map T.int)) ∧ 0 ≤ w' ∧ (∀ x ∈ ls', 0 < x) ∧ st1.length = st.length ∧ ∀ j, j ≠ d → j ≠ l → st1[j]? = st[j]? := by
    intro env he
    have cond : ∀ (st1 : Store) (w1 : Int) (ls1 : List Int), st1[d]? = some (.dic (deal s m w1 l)) → st1[l]? = some (.lst (ls1.map T.int)) →
        tAndM (tV (e2 (kEq false) (e2 kDGet (eVar 0) (eC (.str "now"))) (eC (.int 0)))) (tV (e2 (kGt) (eL kLen (aCons (e2 kDGet (eVar 0) (eC (.str "left"))) (aNil))) (eC (.int 0)))) env st1 = .ok (decide (w1 = 0) && decide ((0 : Int) < ls1.length)) st1 := by
      intro st1 w1 ls1 h1 h2
      simp only [tAndM, tV, e2, eL, aCons, aNil, eC, eVar, he, bind_ok, dget_at h1 (g_now ..), dget_at h1 (g_left ..), kEq, kLen, seqOf, tupOf, Mir.listOf, lstOf, h2, kGt]
      by_cases hw0 : w1 = 0 <;> simp [hw0, bind_ok]
    by_cases hgo : w = 0 ∧ ls ≠ []
    · obtain ⟨rfl, hne2⟩ := hgo
      obtain ⟨init, x, rfl⟩ : ∃ init x, ls = init ++ [x] := ⟨ls.dropLast, ls.getLast hne2, (List.dropLast_concat_getLast hne2).symm⟩
      have hx : 0 < x := hls x (by simp)
      refine ⟨x, init, (st.set l (.lst (init.map T.int))).set d (.dic (deal s m x l)), ?_, by simp [dl], ?_, by omega, fun y hy => hls y (by simp [hy]), by simp, fun j h1 h2 => by simp [h1.symm, h2.symm, Ne.symm h1, Ne.symm h2]⟩
      · rw [while_next (e2 := env) (s1 := st) (s2 := (st.set l (.lst (init.map T.int))).set d (.dic (deal s m x l)))]
        · rw [while_done (s1 := (st.set l (.lst (init.map T.int))).set d (.dic (deal s m x l)))]
          rw [cond _ x init (by simp [dl]) (by simp [ll, hne])]
          have : x ≠ 0 := by omega
          simp [this]
        · rw [cond st 0 (init ++ [x]) hd hl]
          simp
        · have hd1 : (st.set l (.lst (init.map T.int)))[d]? = some (.dic (deal s m 0 l)) := by simp [Ne.symm hne, hd]
          simp only [sDPutM, eM, e2, eC, eVar, he, bind_ok, dget_at hd (g_left ..), isL, Mir.listOf, lstOf, hl, aNil, kPop]
          simp [bind_ok, dicOf, hd1, of_ok, RS.of]
          rw [if_pos (show (deal s m 0 l).length < sizeLine by show 4 < sizeLine; decide), p_now]
      · simp [ll, hne]
    · refine ⟨w, ls, st, ?_, hd, hl, hw, hls, rfl, fun _ _ _ => rfl⟩
      rw [while_done (s1 := st)]
      rw [cond st w ls hd hl]
      congr 1
      by_cases hw0 : w = 0
      · have : ls = [] := Classical.byContradiction fun z => hgo ⟨hw0, z⟩
        simp [this]
      · simp [hw0]
  obtain ⟨w', ls', st1, hloop, hd1, hl1, hw1, hls1, hlen, hsame⟩ := loop [some (.ref d), some (.int n), none, none, none] rfl
  have dl1 : d < st1.length := by omega
  have h4 : ∀ a b c : Int, (deal a b c l).length < sizeLine := fun a b c => by show 4 < sizeLine; decide
  have hgt : ∀ env : Mir.Env, env[0]? = some (some (.ref d)) → tV (e2 (kGt) (e2 kDGet (eVar 0) (eC (.str "now"))) (eC (.int 0))) env st1 = .ok (decide (0 < w')) st1 := by
    intro env he
    simp only [tV, e2, eC, eVar, he, bind_ok, dget_at hd1 (g_now ..), kGt]
  show ∃ k st', (match m_l_draw [some (.ref d), some (.int n), none, none, none] st with | .rt t st' => R.ok t st' | .nx _ st' => R.ok .non st' | .exc x _ st' => .exc x st' | _ => .stuck) = R.ok (.int k) st' ∧ _
  by_cases hpos : 0 < w'
  · refine ⟨w' % n, st1.set d (.dic (deal s m (w' / n) l)), ?_, Int.emod_nonneg _ (by omega), Int.emod_lt_of_pos _ hn, ⟨⟨⟨s, m, w' / n, ls', by simp [dl1], by simp [hne, hl1], Int.ediv_nonneg (by omega) (by omega), hls1⟩, hne⟩, by simp [hlen], fun j h1 h2 => by rw [List.getElem?_set_ne (Ne.symm h1)]; exact hsame j h1 h2⟩⟩
    have e : m_l_draw [some (.ref d), some (.int n), none, none, none] st = .rt (.int (w' % n)) (st1.set d (.dic (deal s m (w' / n) l))) := by
      unfold m_l_draw
      unfold sSeq
      rw [hloop]
      simp [RS.seq, sIf, hgt [some (.ref d), some (.int n), none, none, none] rfl, hpos, RS.of, sSet, e2, eC, eVar, bind_ok, dget_at hd1 (g_now ..), kMod, hn, sDPutM, kDiv, hn3, dicOf, hd1, h4, p_now, sRet]
    rw [e]
  · have hw0 : w' = 0 := by omega
    subst hw0
    obtain ⟨one, hone⟩ : ∃ x, (s + 40692 * (m + 1)) * 48271 % 2147483629 = x := ⟨_, rfl⟩
    obtain ⟨other, hother⟩ : ∃ x, (one * one + 7919 * (m + 1) + s) % 2147483563 = x := ⟨_, rfl⟩
    let k := (other * other % 2147483647 * 30103 + one) / 4096 % n
    have o1 : 0 ≤ one ∧ one < 2147483629 := by
      rw [← hone]; exact ⟨Int.emod_nonneg _ (by decide), Int.emod_lt_of_pos _ (by decide)⟩
    have o2 : 0 ≤ other ∧ other < 2147483563 := by
      rw [← hother]; exact ⟨Int.emod_nonneg _ (by decide), Int.emod_lt_of_pos _ (by decide)⟩
    have hd2 : (st1.set d (.dic (deal s (m + 1) 0 l)))[d]? = some (.dic (deal s (m + 1) 0 l)) := by simp [dl1]
    refine ⟨k, st1.set d (.dic (deal s (m + 1) 0 l)), ?_, Int.emod_nonneg _ (by omega), Int.emod_lt_of_pos _ hn, ⟨⟨⟨s, m + 1, 0, ls', hd2, by simp [hne, hl1], by omega, hls1⟩, hne⟩, by simp [hlen], fun j h1 h2 => by rw [List.getElem?_set_ne (Ne.symm h1)]; exact hsame j h1 h2⟩⟩
    have m1 : ∀ (x : Int) (st : Store), kMul false (.int 40692) (.int x) st = .ok (.int (40692 * x)) st := fun x st => by simp [kMul]
    have m2 : ∀ (x : Int) (st : Store), kMul false (.int x) (.int 48271) st = .ok (.int (x * 48271)) st := fun x st => by simp [kMul]
    have m3 : ∀ (x : Int) (st : Store), kMul false (.int 7919) (.int x) st = .ok (.int (7919 * x)) st := fun x st => by simp [kMul]
    have m4 : ∀ (x : Int) (st : Store), kMul false (.int x) (.int 30103) st = .ok (.int (x * 30103)) st := fun x st => by simp [kMul]
    have m5 : ∀ (st : Store), kMul false (.int one) (.int one) st = .ok (.int (one * one)) st := fun st => by
      simp only [kMul]; rw [if_pos (.inl ⟨by omega, by omega⟩)]
    have m6 : ∀ (st : Store), kMul false (.int other) (.int other) st = .ok (.int (other * other)) st := fun st => by
      simp only [kMul]; rw [if_pos (.inl ⟨by omega, by omega⟩)]
    have e : m_l_draw [some (.ref d), some (.int n), none, none, none] st = .rt (.int k) (st1.set d (.dic (deal s (m + 1) 0 l))) := by
      unfold m_l_draw
      unfold sSeq
      rw [hloop]
      simp [RS.seq, sIf, hgt [some (.ref d), some (.int n), none, none, none] rfl, RS.of, sNext, sDPutM, e2, eC, eVar, bind_ok, dget_at hd1 (g_many ..), kAdd, dicOf, hd1, h4, p_many, sSet, dget_at hd2 (g_many ..), dget_at hd2 (g_seed ..), m1, m2, m3, m4, m5, m6, kMod, kDiv, hone, hother, sRet, hn, k]
    rw [e]
end Sh
namespace Sh
open PySem PySem.Spec PyProof.Rows L2 Mir
def ROk {α : Type} (r : Mir.R α) (P : α → Store → Prop) : Prop := ∃ a st, r = .ok a st ∧ P a st
def SNx (r : RS) (P : Mir.Env → Store → Prop) : Prop := ∃ e s, r = .nx e s ∧ P e s
def SRt (r : RS) (P : T → Store → Prop) : Prop := ∃ t s, r = .rt t s ∧ P t s
section
variable {α β : Type} {env : Mir.Env} {st : Store} {P : T → Store → Prop} {Q : Mir.Env → Store → Prop} {a b c : ME}
theorem ROk.imp {r : Mir.R α} {P P' : α → Store → Prop} (h : ROk r P) (i : ∀ a s, P a s → P' a s) : ROk r P' := let ⟨a, s, e, p⟩ := h; ⟨a, s, e, i a s p⟩
theorem SNx.imp {r : RS} {Q' : Mir.Env → Store → Prop} (h : SNx r Q) (i : ∀ a s, Q a s → Q' a s) : SNx r Q' := let ⟨a, s, e, p⟩ := h; ⟨a, s, e, i a s p⟩
theorem SRt.imp {r : RS} {P' : T → Store → Prop} (h : SRt r P) (i : ∀ a s, P a s → P' a s) : SRt r P' := let ⟨a, s, e, p⟩ := h; ⟨a, s, e, i a s p⟩
theorem r_ok {a : α} {P : α → Store → Prop} (h : P a st) : ROk (.ok a st) P := ⟨a, st, rfl, h⟩
theorem r_of {r : Mir.R α} {a : α} {s : Store} {P : α → Store → Prop} (e : r = .ok a s) (h : P a s) : ROk r P := ⟨a, s, e, h⟩
theorem r_bind {r : Mir.R α} {k : α → M β} {P : β → Store → Prop} (h : ROk r fun a s => ROk (k a s) P) : ROk (r.bind k) P := by
  obtain ⟨x, s, e, h⟩ := h; rw [e]; exact h
theorem r_var {i : Nat} (t : T) (e : env[i]? = some (some t)) (h : P t st) : ROk (eVar i env st) P := r_of (eVar_at e) h
theorem r_c {t : T} (h : P t st) : ROk (eC t env st) P := r_ok h
theorem r_e1 {k : T → M T} (h : ROk (a env st) fun t s => ROk (k t s) P) : ROk (e1 k a env st) P := r_bind h
theorem r_e2 {k : T → T → M T} (h : ROk (a env st) fun t s => ROk (b env s) fun u s2 => ROk (k t u s2) P) : ROk (e2 k a b env st) P := r_bind (h.imp fun _ _ h => r_bind h)
theorem r_eL {k : List T → M T} {m : Mir.Env → M (List T)} (h : ROk (m env st) fun ts s => ROk (k ts s) P) : ROk (eL k m env st) P := r_bind h
theorem r_nil {P : List T → Store → Prop} (h : P [] st) : ROk (aNil env st) P := r_ok h
theorem r_cons {m : Mir.Env → M (List T)} {P : List T → Store → Prop} (h : ROk (a env st) fun t s => ROk (m env s) fun ts s2 => P (t :: ts) s2) : ROk (aCons a m env st) P :=
  r_bind (h.imp fun _ _ h => r_bind (h.imp fun _ _ h => r_ok h))
theorem r_eM {is : T → Store → Bool} {k : T → List T → M T} {m : Mir.Env → M (List T)} (h : ROk (a env st) fun t s => is t s = true ∧ ROk (m env s) fun us s2 => ROk (k t us s2) P) : ROk (eM is k a m env st) P :=
  r_bind (h.imp fun _ _ h => by rw [if_pos h.1]; exact r_bind h.2)
theorem r_call {n : Nat} {f : List T → M T} {ts : List T} {s : Store} (hn : ts.length = n) (h : ROk (f ts s) P) : ROk (callM n f ts s) P := by
  unfold callM; rw [if_pos hn]; exact h
theorem r_tV {P : Bool → Store → Prop} (h : ROk (a env st) fun t s => ∃ z, t = .bl z ∧ P z s) : ROk (tV a env st) P := by
  refine r_bind (h.imp fun _ _ h => ?_)
  obtain ⟨z, e, h⟩ := h
  subst e
  exact r_ok h
theorem r_if {t : MT} (h : ROk (t env st) fun z s => if z = true then ROk (a env s) P else ROk (b env s) P) : ROk (eIf t a b env st) P := by
  refine r_bind (h.imp fun z s h => ?_)
  cases z with
  | true => exact h
  | false => exact h
theorem r_not {t : MT} {P : Bool → Store → Prop} (h : ROk (t env st) fun z s => P (!z) s) : ROk (tNotM t env st) P := r_bind (h.imp fun _ _ h => r_ok h)
theorem r_and {t u : MT} {P : Bool → Store → Prop} (h : ROk (t env st) fun z s => (z = true → ROk (u env s) P) ∧ (z = false → P false s)) : ROk (tAndM t u env st) P := by
  refine r_bind (h.imp fun z s h => ?_)
  cases z with
  | true => exact h.1 rfl
  | false => exact r_ok (h.2 rfl)
theorem r_or {t u : MT} {P : Bool → Store → Prop} (h : ROk (t env st) fun z s => (z = false → ROk (u env s) P) ∧ (z = true → P true s)) : ROk (tOrM t u env st) P := by
  refine r_bind (h.imp fun z s h => ?_)
  cases z with
  | false => exact h.1 rfl
  | true => exact r_ok (h.2 rfl)
theorem s_of {r : Mir.R α} {k : α → Store → RS} (h : ROk r fun a s => SNx (k a s) Q) : SNx (RS.of env r k) Q := by obtain ⟨x, s, e, h⟩ := h; rw [e]; exact h
theorem s_ofR {r : Mir.R α} {k : α → Store → RS} (h : ROk r fun a s => SRt (k a s) P) : SRt (RS.of env r k) P := by obtain ⟨x, s, e, h⟩ := h; rw [e]; exact h
theorem s_seq {m n : MS} (h : SNx (m env st) fun e s => SNx (n e s) Q) : SNx (sSeq m n env st) Q := by obtain ⟨x, s, e, h⟩ := h; unfold sSeq; rw [e]; exact h
theorem s_seqR {m n : MS} (h : SNx (m env st) fun e s => SRt (n e s) P) : SRt (sSeq m n env st) P := by obtain ⟨x, s, e, h⟩ := h; unfold sSeq; rw [e]; exact h
theorem s_set {i : Nat} {m : ME} (h : ROk (m env st) fun t s => Q (env.set i (some t)) s) : SNx (sSet i m env st) Q := s_of (h.imp fun _ _ h => ⟨_, _, rfl, h⟩)
theorem s_ret {m : ME} (h : ROk (m env st) P) : SRt (sRet m env st) P := s_ofR (h.imp fun _ _ h => ⟨_, _, rfl, h⟩)
theorem s_expr {m : ME} (h : ROk (m env st) fun _ s => Q env s) : SNx (sExpr m env st) Q := s_of (h.imp fun _ _ h => ⟨_, _, rfl, h⟩)
theorem s_next (h : Q env st) : SNx (sNext env st) Q := ⟨_, _, rfl, h⟩
theorem s_if {t : MT} {m n : MS} (h : ROk (t env st) fun z s => if z = true then SNx (m env s) Q else SNx (n env s) Q) : SNx (sIf t m n env st) Q := s_of (h.imp fun z s h => by cases z <;> exact h)
theorem s_par {i j : Nat} {m : Mir.Env → M (List T)} (h : ROk (m env st) fun ts s => ∃ t u, ts = [t, u] ∧ Q ((env.set i (some t)).set j (some u)) s) : SNx (sPar i j m env st) Q := s_of (h.imp fun _ _ ⟨t, u, e, h⟩ => by subst e; exact ⟨_, _, rfl, h⟩)
theorem s_asg {m : ME} {g : MG} (h : ROk (m env st) fun t s => SNx (g t env s) Q) : SNx (sAsg m g env st) Q := s_of (h.imp fun t s h => by
  obtain ⟨e, s', h1, h2⟩ := h
  rw [h1]; exact ⟨_, _, rfl, h2⟩)
theorem for_rule {chk : Store → Prop} {g : MG} {body : MS} {items : List T} (I : Nat → Mir.Env → Store → Prop) (h0 : I 0 env st) (hc : ∀ i e s, I i e s → chk s)
    (hs : ∀ i t e s, items[i]? = some t → I i e s → SNx (g t e s) fun e1 s1 => SNx (body e1 s1) fun e2 s2 => I (i + 1) e2 s2) : SNx (forM chk g body items env st) (I items.length) := by
  suffices H : ∀ (k : Nat) (l : List T) (e : Mir.Env) (s : Store), items.drop k = l → I k e s → k + l.length = items.length → SNx (forM chk g body l e s) (I items.length) from H 0 items env st rfl h0 (by simp)
  intro k l
  induction l generalizing k with
  | nil =>
    intro e s _ hi hl
    unfold Mir.forM
    rw [if_pos (hc k e s hi)]
    exact ⟨_, _, rfl, by rw [← hl]; exact hi⟩
  | cons t ts ih =>
    intro e s hd hi hl
    have ht : items[k]? = some t := by
      have : (items.drop k)[0]? = some t := by rw [hd]; rfl
      simpa using this
    obtain ⟨e1, s1, h1, e2, s2, h2, h3⟩ := hs k t e s ht hi
    unfold Mir.forM
    rw [if_pos (hc k e s hi), h1]
    dsimp only
    rw [h2]
    dsimp only
    refine ih (k + 1) e2 s2 ?_ h3 (by simp at hl; omega)
    rw [← List.drop_drop, hd]; rfl
theorem comp_rule {chk : Store → Prop} {g : GT} {t : MT} {envw : Mir.Env} {e : ME} {items : List T} {acc0 : List T} (I : Nat → List T → Store → Prop) (h0 : I 0 acc0 st) (hc : ∀ i acc s, I i acc s → chk s)
    (hs : ∀ i x acc s, items[i]? = some x → I i acc s → ∃ env1, bindG g x envw = some env1 ∧ ROk (t env1 s) fun z s1 => (z = false → I (i + 1) acc s1) ∧ (z = true → ROk (e env1 s1) fun y s2 => acc.length < sizeLine ∧ I (i + 1) (acc ++ [y]) s2)) :
    ROk (compM chk g t envw (compK1 e) items acc0 st) (I items.length) := by
  suffices H : ∀ (k : Nat) (l : List T) (acc : List T) (s : Store), items.drop k = l → I k acc s → k + l.length = items.length → ROk (compM chk g t envw (compK1 e) l acc s) (I items.length) from H 0 items acc0 st rfl h0 (by simp)
  intro k l
  induction l generalizing k with
  | nil =>
    intro acc s _ hi hl
    unfold compM
    rw [if_pos (hc k acc s hi)]
    exact ⟨_, _, rfl, by rw [← hl]; exact hi⟩
  | cons x ts ih =>
    intro acc s hd hi hl
    have ht : items[k]? = some x := by
      have : (items.drop k)[0]? = some x := by rw [hd]; rfl
      simpa using this
    obtain ⟨env1, he, z, s1, hz, hf, htr⟩ := hs k x acc s ht hi
    have hd' : items.drop (k + 1) = ts := by rw [← List.drop_drop, hd]; rfl
    have hl' : k + 1 + ts.length = items.length := by simp at hl; omega
    unfold compM
    rw [if_pos (hc k acc s hi), he]
    dsimp only
    rw [hz]
    dsimp only [R.noexc, R.bind]
    cases z with
    | false =>
      rw [if_neg (by decide)]
      exact ih (k + 1) acc s1 hd' (hf rfl) hl'
    | true =>
      rw [if_pos rfl]
      obtain ⟨y, s2, hy, hlt, hi2⟩ := htr rfl
      unfold compK1
      rw [hy]
      dsimp only [R.noexc, R.bind]
      rw [if_pos hlt]
      exact ih (k + 1) (acc ++ [y]) s2 hd' hi2 hl'
theorem r_comp {al : Bool} {mi : MI} {g : GT} {t : MT} {vs : List Nat} {k : Mir.Env → List T → M (List T)} (h : ROk (mi env st) fun it s => ROk (compM it.chk g t (wipeE env vs) k it.items [] s) fun acc s2 => ROk (mkL al acc s2) P) : ROk (eComp al mi g t vs k env st) P := by
  unfold eComp
  refine r_bind (h.imp fun it s h => ?_)
  obtain ⟨acc, s2, e, h⟩ := h
  rw [e]
  exact h
end
theorem def_rt {n m : Nat} {b : MS} {ts : List T} {st : Store} {P : T → Store → Prop} (h : SRt (b (ts.map some ++ List.replicate (m - n) none) st) P) : ROk (defM n m b ts st) P := by
  obtain ⟨t, s, e, h⟩ := h
  unfold defM
  rw [e]
  exact ⟨t, s, rfl, h⟩
def Wf (st : Store) : Prop := ∀ o ∈ st, obBelow st.length o = true
theorem pop_ok {f : List T → M T} {ts : List T} {st : Store} {P : T → Store → Prop} (h : ROk (f ts st) fun t s => ∃ u, (∀ o ∈ s.take st.length, obBelow st.length o = true) ∧ freeze s st.length t = some u ∧ P u (s.take st.length)) : ROk (popS f ts st) P := by
  obtain ⟨t, s, e, u, hw, hf, hp⟩ := h
  unfold popS
  rw [e]
  dsimp only
  rw [if_pos (List.all_eq_true.mpr hw), hf]
  exact ⟨u, _, rfl, hp⟩
mutual
theorem plain_freeze (st : Store) (n : Nat) : ∀ t : T, t.isBelow 0 = true → freeze st n t = some t
  | .non, _ => rfl
  | .bl _, _ => rfl
  | .int _, _ => rfl
  | .str _, _ => rfl
  | .fn _, _ => rfl
  | .ref k, h => by
    have h : decide (k < 0) = true := h
    simp at h
  | .tix ts, h => by
    have h : belows 0 ts = true := h
    unfold freeze; rw [plain_freezes st n ts h]; rfl
  | .tup ts, h => by
    have h : belows 0 ts = true := h
    unfold freeze; rw [plain_freezes st n ts h]; rfl
  | .lst ts, h => by
    have h : belows 0 ts = true := h
    unfold freeze; rw [plain_freezes st n ts h]; rfl
  | .scr ts, h => by
    have h : belows 0 ts = true := h
    unfold freeze; rw [if_pos (plain_belows n ts h)]
theorem plain_freezes (st : Store) (n : Nat) : ∀ ts : List T, belows 0 ts = true → freezes st n ts = some ts
  | [], _ => rfl
  | t :: ts, h => by
    have h : (t.isBelow 0 && belows 0 ts) = true := h
    rw [Bool.and_eq_true] at h
    unfold freezes
    rw [plain_freeze st n t h.1, plain_freezes st n ts h.2]
theorem plain_below (n : Nat) : ∀ t : T, t.isBelow 0 = true → t.isBelow n = true
  | .non, _ => rfl
  | .bl _, _ => rfl
  | .int _, _ => rfl
  | .str _, _ => rfl
  | .fn _, _ => rfl
  | .ref k, h => by
    have h : decide (k < 0) = true := h
    simp at h
  | .tup ts, h => plain_belows n ts h
  | .lst ts, h => plain_belows n ts h
  | .scr ts, h => plain_belows n ts h
  | .tix ts, h => plain_belows n ts h
theorem plain_belows (n : Nat) : ∀ ts : List T, belows 0 ts = true → belows n ts = true
  | [], _ => rfl
  | t :: ts, h => by
    have h : (t.isBelow 0 && belows 0 ts) = true := h
    rw [Bool.and_eq_true] at h
    show (t.isBelow n && belows n ts) = true
    rw [plain_below n t h.1, plain_belows n ts h.2]; rfl
end
theorem belows_iff {n : Nat} : ∀ {ts : List T}, belows n ts = true ↔ ∀ t ∈ ts, t.isBelow n = true
  | [] => by simp [belows]
  | t :: ts => by
    show (t.isBelow n && belows n ts) = true ↔ _
    rw [Bool.and_eq_true, belows_iff]; simp
theorem belows_ints (n : Nat) (ns : List Int) : belows n (ns.map T.int) = true := belows_iff.mpr fun t ht => by
  obtain ⟨i, _, rfl⟩ := List.mem_map.mp ht
  rfl
end Sh
namespace Sh
open PySem PySem.Spec PyProof.Rows L2 Mir
theorem mem_at {st : Store} {o : Ob} (h : o ∈ st) : ∃ j : Nat, st[j]? = some o := List.getElem?_of_mem h
theorem at_mem {st : Store} {o : Ob} {j : Nat} (h : st[j]? = some o) : o ∈ st := List.mem_of_getElem? h
theorem at_lt {st : Store} {o : Ob} {j : Nat} (h : st[j]? = some o) : j < st.length := (List.getElem?_eq_some_iff.mp h).1
theorem Drawn.wf {st st' : Store} {d l : Nat} (h : Drawn st st' d l) (w : Wf st) : Wf st' := by
  intro o ho
  obtain ⟨j, hj⟩ := mem_at ho
  obtain ⟨s, m, w', ls, hd, hl, _, _⟩ := h.deal.ex
  by_cases h1 : j = d
  · subst h1
    rw [hd] at hj
    cases hj
    have := at_lt hl
    simp [obBelow, Sh.deal, belows, T.isBelow, this]
  · by_cases h2 : j = l
    · subst h2
      rw [hl] at hj
      cases hj
      exact belows_ints _ _
    · rw [h.same j h1 h2] at hj
      rw [h.len]
      exact w o (at_mem hj)
theorem draw_pop {st : Store} {d l : Nat} (h : DealAt st d l) (hw : Wf st) {n : Int} (hn : 0 < n) (hn2 : n < 2 ^ 200) :
    ROk (f_l_draw [.ref d, .int n] st) fun t s => ∃ k : Int, t = .int k ∧ 0 ≤ k ∧ k < n ∧ Drawn st s d l ∧ Wf s := by
  obtain ⟨k, st', e, h0, h1, D⟩ := draw_spec h hn hn2
  have w' := D.wf hw
  unfold f_l_draw
  refine pop_ok (r_of e ⟨.int k, ?_, rfl, k, rfl, h0, h1, ?_, ?_⟩)
  · rw [← D.len, List.take_length]; exact w'
  · rw [← D.len, List.take_length]; exact D
  · rw [← D.len, List.take_length]; exact w'
theorem isL_at {s : Store} {n : Nat} {ts : List T} (h : s[n]? = some (.lst ts)) : isL (.ref n) s = true := by
  unfold isL Mir.listOf lstOf; simp [h]
theorem append_at {s : Store} {n : Nat} {ts : List T} {y : T} {P : T → Store → Prop} (h : s[n]? = some (.lst ts)) (hl : ts.length < sizeLine) (q : P .non (s.set n (.lst (ts ++ [y])))) : ROk (kAppend (.ref n) [y] s) P := by
  refine r_of (a := .non) ?_ q
  unfold kAppend
  simp [h, hl]
theorem range1_ok {m : ME} {env : Mir.Env} {s s1 : Store} {n : Int} {P : Iter → Store → Prop} (e : m env s = .ok (.int n) s1) (h0 : -1000000 ≤ n) (h1 : n ≤ 1000000) (q : P ⟨Mir.rangeT 0 n.toNat, fun _ => True⟩ s1) : ROk (iRange1 m env s) P := by
  refine r_of (a := ⟨Mir.rangeT 0 n.toNat, fun _ => True⟩) (s := s1) ?_ q
  unfold iRange1
  rw [e]
  simp only [R.bind]
  rw [if_pos ⟨by omega, by omega⟩]
theorem rangeT_len (n : Nat) : (Mir.rangeT 0 n).length = n := by unfold Mir.rangeT; simp
theorem rangeT_get {n i : Nat} {t : T} (h : (Mir.rangeT 0 n)[i]? = some t) : t = .int i ∧ i < n := by
  unfold Mir.rangeT at h
  rw [List.getElem?_map] at h
  cases hi : (List.range n)[i]? with
  | none => rw [hi] at h; cases h
  | some k =>
    rw [hi] at h
    obtain ⟨h1, h2⟩ := List.getElem?_eq_some_iff.mp hi
    simp at h1 h2
    subst h2
    cases h
    exact ⟨by simp, h1⟩
theorem line1000 {n : Nat} (h : n ≤ 100000) : n < sizeLine := Nat.lt_of_le_of_lt h (by decide)
theorem sFor_rule {mi : MI} {g : MG} {body : MS} {env : Mir.Env} {st : Store} {Q : Mir.Env → Store → Prop} (h : ROk (mi env st) fun it s => ∃ I : Nat → Mir.Env → Store → Prop, I 0 env s ∧ (∀ i e s, I i e s → it.chk s) ∧
    (∀ i t e s, it.items[i]? = some t → I i e s → SNx (g t e s) fun e1 s1 => SNx (body e1 s1) fun e2 s2 => I (i + 1) e2 s2) ∧ ∀ e s, I it.items.length e s → Q e s) : SNx (sFor mi g body env st) Q := by
  unfold sFor
  refine s_of (h.imp fun it s ⟨I, h0, hc, hs, hq⟩ => ?_)
  exact (for_rule I h0 hc hs).imp hq
theorem gN_ok {i : Nat} {t : T} {e : Mir.Env} {s : Store} {Q : Mir.Env → Store → Prop} (h : Q (e.set i (some t)) s) : SNx (gN i t e s) Q := ⟨_, _, rfl, h⟩
theorem mkL_t {ts : List T} {s : Store} {P : T → Store → Prop} (q : P (.ref s.length) (s ++ [.lst ts])) : ROk (mkL true ts s) P := r_of (by unfold mkL; rfl) q
theorem mkL_f {ts : List T} {s : Store} {P : T → Store → Prop} (q : P (.lst ts) s) : ROk (mkL false ts s) P := r_of (by unfold mkL; rfl) q
theorem lstD_ok {al : Bool} {ts : List T} {s : Store} {P : T → Store → Prop} (h : ts.length ≤ 1000) (q : ROk (mkL al ts s) P) : ROk (kLstD al ts s) P := by
  unfold kLstD; rw [if_pos h]; exact q
theorem tupD_ok {ts : List T} {s : Store} {P : T → Store → Prop} (h : ts.length ≤ 1000) (q : P (.tup ts) s) : ROk (kTupD ts s) P := by
  unfold kTupD; rw [if_pos h]; exact r_ok q
theorem set_self {s : Store} {j : Nat} {o : Ob} (h : j < s.length) : (s.set j o)[j]? = some o := by simp [h]
theorem set_other {s : Store} {j k : Nat} {o : Ob} (h : j ≠ k) : (s.set j o)[k]? = s[k]? := by simp [h]
structure Over (st s : Store) (d l : Nat) : Prop where
  deal : DealAt s d l
  wf : Wf s
  len : st.length ≤ s.length
  same : ∀ j, j < st.length → j ≠ d → j ≠ l → s[j]? = st[j]?
theorem Over.refl {st : Store} {d l : Nat} (h : DealAt st d l) (w : Wf st) : Over st st d l := ⟨h, w, Nat.le_refl _, fun _ _ _ _ => rfl⟩
theorem Over.drawn {st s s' : Store} {d l : Nat} (h : Over st s d l) (D : Drawn s s' d l) (w : Wf s') : Over st s' d l :=
  ⟨D.deal, w, by rw [D.len]; exact h.len, fun j h1 h2 h3 => (D.same j h2 h3).trans (h.same j h1 h2 h3)⟩
mutual
theorem below_up {n m : Nat} (h : n ≤ m) : ∀ t : T, t.isBelow n = true → t.isBelow m = true
  | .non, _ => rfl
  | .bl _, _ => rfl
  | .int _, _ => rfl
  | .str _, _ => rfl
  | .ref k, q => by
    have q : decide (k < n) = true := q
    show decide (k < m) = true
    simp at q ⊢
    omega
  | .tup ts, q => belows_up h ts q
  | .lst ts, q => belows_up h ts q
  | .scr ts, q => belows_up h ts q
  | .tix ts, q => belows_up h ts q
  | .fn _, _ => rfl
theorem belows_up {n m : Nat} (h : n ≤ m) : ∀ ts : List T, belows n ts = true → belows m ts = true
  | [], _ => rfl
  | t :: ts, q => by
    have q : (t.isBelow n && belows n ts) = true := q
    rw [Bool.and_eq_true] at q
    show (t.isBelow m && belows m ts) = true
    rw [below_up h t q.1, belows_up h ts q.2]; rfl
end
theorem obBelow_up {n m : Nat} (h : n ≤ m) (o : Ob) (q : obBelow n o = true) : obBelow m o = true := by
  cases o with
  | lst ts => exact belows_up h ts q
  | dic kvs => exact belows_up h _ q
  | dtp kvs => exact belows_up h _ q
  | ins cl fs => exact belows_up h _ q
theorem Wf.push {s : Store} {o : Ob} (w : Wf s) (h : obBelow (s.length + 1) o = true) : Wf (s ++ [o]) := by
  intro x hx
  have e : (s ++ [o]).length = s.length + 1 := by simp
  rw [e]
  rcases List.mem_append.mp hx with hx | hx
  · exact obBelow_up (Nat.le_succ _) x (w x hx)
  · rw [List.mem_singleton.mp hx]; exact h
theorem Wf.set {s : Store} {j : Nat} {o : Ob} (w : Wf s) (h : obBelow s.length o = true) : Wf (s.set j o) := by
  intro x hx
  rw [List.length_set]
  rcases List.mem_or_eq_of_mem_set hx with hx | hx
  · exact w x hx
  · rw [hx]; exact h
theorem DealAt.lt {st : Store} {d l : Nat} (h : DealAt st d l) : d < st.length ∧ l < st.length := by
  obtain ⟨_, _, _, _, hd, hl, _⟩ := h.ex; exact ⟨at_lt hd, at_lt hl⟩
theorem DealAt.push {st : Store} {d l : Nat} {o : Ob} (h : DealAt st d l) : DealAt (st ++ [o]) d l := by
  obtain ⟨⟨s, m, w, ls, hd, hl, q⟩, ne⟩ := h
  exact ⟨⟨s, m, w, ls, by rw [List.getElem?_append_left (at_lt hd)]; exact hd, by rw [List.getElem?_append_left (at_lt hl)]; exact hl, q⟩, ne⟩
theorem DealAt.set {st : Store} {d l j : Nat} {o : Ob} (h : DealAt st d l) (h1 : j ≠ d) (h2 : j ≠ l) : DealAt (st.set j o) d l := by
  obtain ⟨⟨s, m, w, ls, hd, hl, q⟩, ne⟩ := h
  exact ⟨⟨s, m, w, ls, by rw [set_other h1]; exact hd, by rw [set_other h2]; exact hl, q⟩, ne⟩
theorem Over.push {st s : Store} {d l : Nat} {o : Ob} (h : Over st s d l) (q : obBelow (s.length + 1) o = true) : Over st (s ++ [o]) d l :=
  ⟨h.deal.push, h.wf.push q, by simp; have := h.len; omega, fun j h1 h2 h3 => by rw [List.getElem?_append_left (by have := h.len; omega)]; exact h.same j h1 h2 h3⟩
theorem Over.set {st s : Store} {d l j : Nat} {o : Ob} (h : Over st s d l) (hj : st.length ≤ j) (hd : DealAt st d l) (q : obBelow s.length o = true) : Over st (s.set j o) d l := by
  have := hd.lt
  exact ⟨h.deal.set (by omega) (by omega), h.wf.set q, by simp; exact h.len, fun k h1 h2 h3 => by rw [set_other (by omega)]; exact h.same k h1 h2 h3⟩
theorem Over.back {st s : Store} {d l : Nat} (h : Over st s d l) (h0 : DealAt st d l) (w0 : Wf st) : (∀ o ∈ s.take st.length, obBelow st.length o = true) ∧ Drawn st (s.take st.length) d l ∧ Wf (s.take st.length) := by
  have lt := h0.lt
  obtain ⟨⟨se, m, w, ls, hd, hl, q⟩, ne⟩ := h.deal
  have el : (s.take st.length).length = st.length := by rw [List.length_take]; have := h.len; omega
  have D : Drawn st (s.take st.length) d l := by
    refine ⟨⟨⟨se, m, w, ls, by rw [List.getElem?_take_of_lt lt.1]; exact hd, by rw [List.getElem?_take_of_lt lt.2]; exact hl, q⟩, ne⟩, el, fun j h1 h2 => ?_⟩
    by_cases hj : j < st.length
    · rw [List.getElem?_take_of_lt hj]; exact h.same j hj h1 h2
    · rw [List.getElem?_eq_none (by omega), List.getElem?_eq_none (by omega)]
  have W := D.wf w0
  refine ⟨fun o ho => ?_, D, W⟩
  have := W o ho
  rw [el] at this
  exact this
end Sh
namespace Sh
open PySem PySem.Spec PyProof.Rows L2 Mir
mutual
def alT : T → Bool
  | .ref _ => false
  | .scr _ => false
  | .tix _ => false
  | .fn _ => false
  | .tup ts => alTs ts
  | .lst ts => alTs ts
  | .str x => PyData.strOk x
  | _ => true
def alTs : List T → Bool
  | [] => true
  | t :: ts => alT t && alTs ts
end
mutual
def tsz : T → Nat
  | .tup ts => 1 + tszs ts
  | .lst ts => 1 + tszs ts
  | _ => 1
def tszs : List T → Nat
  | [] => 0
  | t :: ts => tsz t + tszs ts
end
theorem tsz_pos : ∀ t : T, 1 ≤ tsz t
  | .tup ts => by unfold tsz; omega
  | .lst ts => by unfold tsz; omega
  | .non => Nat.le_refl _
  | .bl _ => Nat.le_refl _
  | .int _ => Nat.le_refl _
  | .str _ => Nat.le_refl _
  | .ref _ => Nat.le_refl _
  | .scr _ => Nat.le_refl _
  | .tix _ => Nat.le_refl _
  | .fn _ => Nat.le_refl _
theorem alTs_iff : ∀ {ts : List T}, alTs ts = true ↔ ∀ t ∈ ts, alT t = true
  | [] => by simp [alTs]
  | t :: ts => by
    show (alT t && alTs ts) = true ↔ _
    rw [Bool.and_eq_true, alTs_iff]; simp
theorem tszs_append : ∀ (a b : List T), tszs (a ++ b) = tszs a + tszs b
  | [], b => by simp [tszs]
  | t :: a, b => by
    show tsz t + tszs (a ++ b) = tsz t + tszs a + tszs b
    rw [tszs_append a b]; omega
theorem tszs_len : ∀ a : List T, a.length ≤ tszs a
  | [] => Nat.le_refl _
  | t :: a => by
    have := tsz_pos t
    have := tszs_len a
    show a.length + 1 ≤ tsz t + tszs a
    omega
mutual
theorem al_plain : ∀ t : T, alT t = true → t.isBelow 0 = true
  | .non, _ => rfl
  | .bl _, _ => rfl
  | .int _, _ => rfl
  | .str _, _ => rfl
  | .ref _, h => by cases h
  | .scr _, h => by cases h
  | .tix _, h => by cases h
  | .fn _, h => by cases h
  | .tup ts, h => als_plain ts h
  | .lst ts, h => als_plain ts h
theorem als_plain : ∀ ts : List T, alTs ts = true → belows 0 ts = true
  | [], _ => rfl
  | t :: ts, h => by
    have h : (alT t && alTs ts) = true := h
    rw [Bool.and_eq_true] at h
    show (t.isBelow 0 && belows 0 ts) = true
    rw [al_plain t h.1, als_plain ts h.2]; rfl
end
def pairT (t : T) : T := .tup [t, t]
theorem zipM_self : ∀ ts : List T, zipM ts ts = ts.map pairT
  | [] => rfl
  | t :: ts => by
    show T.tup [t, t] :: zipM ts ts = pairT t :: ts.map pairT
    rw [zipM_self ts]; rfl
theorem isi_ok (n : String) (hn : n = "bool" ∨ n = "tuple" ∨ n = "list" ∨ n = "str" ∨ n = "int") (t : T) (h : alT t = true) (s : Store) : ∃ z, kIsi n t s = .ok (.bl z) s := by
  unfold kIsi
  cases t <;> first | (cases h; done) | skip
  all_goals (rcases hn with rfl | rfl | rfl | rfl | rfl <;> exact ⟨_, rfl⟩)
theorem isi2_ok (t : T) (h : alT t = true) (s : Store) : kIsi2 "tuple" "list" t s = .ok (.bl (match t with | .tup _ => true | .lst _ => true | _ => false)) s := by
  unfold kIsi2
  cases t <;> first | (cases h; done) | rfl
theorem ne_self (t : T) (h : alT t = true) (hs : (match t with | .tup _ => true | .lst _ => true | _ => false) = false) (s : Store) : kEq true t t s = .ok (.bl false) s := by
  cases t with
  | int i => simp [kEq]
  | bl i => simp [kEq]
  | non => rfl
  | str x => simp [kEq]
  | tup ts => cases hs
  | lst ts => cases hs
  | ref n => cases h
  | scr n => cases h
  | tix n => cases h
  | fn n => cases h
theorem ne_bl (z : Bool) (s : Store) : kEq true (.bl z) (.bl z) s = .ok (.bl false) s := by simp [kEq]
theorem isi_ne {n : String} {i : Nat} {env : Mir.Env} {t : T} {s : Store} (h : alT t = true) (hn : n = "bool" ∨ n = "tuple" ∨ n = "list" ∨ n = "str" ∨ n = "int") (e3 : env[3]? = some (some t)) (e4 : env[4]? = some (some t)) :
    tV (e2 (kEq true) (e1 (kIsi n) (eVar 3)) (e1 (kIsi n) (eVar 4))) env s = .ok false s := by
  obtain ⟨z, hz⟩ := isi_ok n hn t h s
  simp only [tV, e2, e1, eVar_at e3, eVar_at e4, bind_ok, hz, ne_bl]
def aBody : MS := (sSeq (sAsg (eM isL kPop (eVar 2) aNil) (gT 2 (gsCons (gN 3) (gsCons (gN 4) (gsNil))))) (
    sSeq (sIf (tOrM (tV (e2 (kEq true) (e1 (kIsi "bool") (eVar 3)) (e1 (kIsi "bool") (eVar 4)))) (tV (e2 (kEq true) (e1 (kIsi "tuple") (eVar 3)) (e1 (kIsi "tuple") (eVar 4))))) (sRet (eC (.bl false))) (sNext)) (
    sSeq (sIf (tOrM (tV (e2 (kEq true) (e1 (kIsi "list") (eVar 3)) (e1 (kIsi "list") (eVar 4)))) (tV (e2 (kEq true) (e1 (kIsi "str") (eVar 3)) (e1 (kIsi "str") (eVar 4))))) (sRet (eC (.bl false))) (sNext)) (
    sSeq (sIf (tV (e2 (kEq true) (e1 (kIsi "int") (eVar 3)) (e1 (kIsi "int") (eVar 4)))) (sRet (eC (.bl false))) (sNext)) (
    sIf (tV (e1 (kIsi2 "tuple" "list") (eVar 4))) (sSeq (sIf (tV (e2 (kEq true) (eL kLen (aCons (eVar 3) (aNil))) (eL kLen (aCons (eVar 4) (aNil))))) (sRet (eC (.bl false))) (sNext)) (
    sExpr (eM isL kExtend (eVar 2) (aCons (eL (kListZip false) (aCons (eVar 3) (aCons (eVar 4) (aNil)))) (aNil))))) (sIf (tV (e2 (kEq true) (eVar 3) (eVar 4))) (sRet (eC (.bl false))) (sNext)))))))
theorem aBody_ok {a b x y t : T} {ox oy : Option T} {n : Nat} {s : Store} {init : List T} (hs : s[n]? = some (.lst ((init ++ [t]).map pairT))) (h : alT t = true) (hl : tszs (init ++ [t]) ≤ 100000) :
    SNx (aBody [some a, some b, some (.ref n), ox, oy] s) fun e s2 => ∃ L, e = [some a, some b, some (.ref n), some t, some t] ∧ s2 = s.set n (.lst (L.map pairT)) ∧ (alTs init = true → alTs L = true) ∧ tszs L + 1 ≤ tszs (init ++ [t]) := by
  have hn := at_lt hs
  have hlen : ((init ++ [t]).map pairT).length = init.length + 1 := by simp
  unfold aBody
  refine s_seq (s_asg (r_eM (r_var (.ref n) rfl ⟨isL_at hs, r_nil (r_of (a := pairT t) (s := s.set n (.lst (init.map pairT))) ?_ ?_)⟩)))
  · unfold kPop
    simp [hs]
  show SNx (gT 2 _ (.tup [t, t]) _ _) _
  refine ⟨[some a, some b, some (.ref n), some t, some t], s.set n (.lst (init.map pairT)), by simp [gT, gsCons, gsNil, gN, RS.seq], ?_⟩
  have e3 : ([some a, some b, some (T.ref n), some t, some t] : Mir.Env)[3]? = some (some t) := rfl
  have e4 : ([some a, some b, some (T.ref n), some t, some t] : Mir.Env)[4]? = some (some t) := rfl
  generalize hE : ([some a, some b, some (T.ref n), some t, some t] : Mir.Env) = E at e3 e4 ⊢
  have e2' : E[2]? = some (some (.ref n)) := by rw [← hE]; rfl
  generalize hS : s.set n (.lst (init.map pairT)) = S
  have hSn : S[n]? = some (.lst (init.map pairT)) := by rw [← hS]; exact set_self hn
  refine s_seq (s_if (r_or (r_of (isi_ne (i := 0) h (by simp) e3 e4) ⟨fun _ => r_of (isi_ne (i := 0) h (by simp) e3 e4) ?_, fun z => by cases z⟩)))
  rw [if_neg (by decide)]
  refine s_next (s_seq (s_if (r_or (r_of (isi_ne (i := 0) h (by simp) e3 e4) ⟨fun _ => r_of (isi_ne (i := 0) h (by simp) e3 e4) ?_, fun z => by cases z⟩))))
  rw [if_neg (by decide)]
  refine s_next (s_seq (s_if (r_of (isi_ne (i := 0) h (by simp) e3 e4) ?_)))
  rw [if_neg (by decide)]
  refine s_next (s_if (r_tV (r_e1 (r_var t e4 (r_of (isi2_ok t h S) ⟨_, rfl, ?_⟩)))))
  have hsz : tszs (init ++ [t]) = tszs init + tsz t := by rw [tszs_append]; simp [tszs]
  have seq : ∀ ts : List T, alTs ts = true → seqOf t S = some ts → tsz t = 1 + tszs ts → SNx ((sSeq (sIf (tV (e2 (kEq true) (eL kLen (aCons (eVar 3) (aNil))) (eL kLen (aCons (eVar 4) (aNil))))) (sRet (eC (.bl false))) (sNext)) (
    sExpr (eM isL kExtend (eVar 2) (aCons (eL (kListZip false) (aCons (eVar 3) (aCons (eVar 4) (aNil)))) (aNil))))) E S) fun e s2 => ∃ L, e = E ∧ s2 = s.set n (.lst (L.map pairT)) ∧ (alTs init = true → alTs L = true) ∧ tszs L + 1 ≤ tszs (init ++ [t]) := by
    intro ts hal hq ht
    have hlen1 : kLen [t] S = .ok (.int ts.length) S := by
      cases t <;> first | (cases h; done) | (cases hq; done) | (simp [kLen, hq])
    refine s_seq (s_if (r_tV (r_e2 (r_eL (r_cons (r_var t e3 (r_nil (r_of hlen1 (r_eL (r_cons (r_var t e4 (r_nil (r_of hlen1 (r_of (a := .bl false) (s := S) (by simp [kEq]) ⟨false, rfl, ?_⟩))))))))))))))
    rw [if_neg (by decide)]
    refine s_next (s_expr (r_eM (r_var (.ref n) e2' ⟨isL_at hSn, r_cons (r_eL (r_cons (r_var t e3 (r_cons (r_var t e4 (r_nil (r_of (a := .lst (ts.map pairT)) (s := S) ?_ (r_nil (r_of (a := .non) (s := S.set n (.lst ((init ++ ts).map pairT))) ?_ ?_)))))))))⟩)))
    · unfold kListZip
      simp [hq, mkL, zipM_self]
    · unfold kExtend
      simp only [hSn, lstOf]
      rw [if_pos]
      · rw [List.map_append]
      · have h1 := tszs_len init
        have h2 := tszs_len ts
        simp only [List.length_map]
        exact Nat.le_of_lt (line1000 (by omega))
    · refine ⟨init ++ ts, rfl, by rw [← hS, List.set_set], fun hi => alTs_iff.mpr fun u hu => ?_, by rw [tszs_append, hsz, ht]; omega⟩
      rcases List.mem_append.mp hu with hu | hu
      · exact alTs_iff.mp hi u hu
      · exact alTs_iff.mp hal u hu
  cases t with
  | tup ts => exact seq ts h rfl rfl
  | lst ts => exact seq ts h rfl rfl
  | ref m => cases h
  | scr m => cases h
  | tix m => cases h
  | fn m => cases h
  | _ =>
    all_goals
      rw [if_neg (by simp)]
      refine s_if (r_tV (r_e2 (r_var _ e3 (r_var _ e4 (r_of (ne_self _ h rfl S) ⟨false, rfl, ?_⟩)))))
      rw [if_neg (by decide)]
      exact s_next ⟨init, rfl, hS.symm, fun hi => hi, by rw [hsz]; simp [tsz]⟩
end Sh
namespace Sh
open PySem PySem.Spec PyProof.Rows L2 Mir
theorem aLoop {a b : T} {n : Nat} : ∀ (k : Nat) (ox oy : Option T) (s : Store) (L : List T), s[n]? = some (.lst (L.map pairT)) → alTs L = true → tszs L < k → tszs L ≤ 100000 →
    SNx (whileM (tV (e2 (kGt) (eL kLen (aCons (eVar 2) (aNil))) (eC (.int 0)))) aBody k [some a, some b, some (.ref n), ox, oy] s) fun e s2 => s2 = s.set n (.lst [])
  | 0, _, _, _, _, _, _, h, _ => by omega
  | k + 1, ox, oy, s, L, hs, hal, hk, hl => by
    have hc : (tV (e2 (kGt) (eL kLen (aCons (eVar 2) (aNil))) (eC (.int 0)))) [some a, some b, some (.ref n), ox, oy] s = .ok (decide ((0 : Int) < L.length)) s := by
      simp [tV, e2, eL, aCons, aNil, eC, eVar, bind_ok, kLen, seqOf, tupOf, Mir.listOf, lstOf, hs, kGt]
    by_cases hL : L = []
    · subst hL
      refine ⟨_, s, while_done (by rw [hc]; simp), ?_⟩
      refine (List.ext_getElem? fun j => ?_)
      by_cases hj : n = j
      · subst hj
        rw [set_self (at_lt hs)]; exact hs
      · rw [set_other hj]
    · obtain ⟨init, t, rfl⟩ : ∃ init t, L = init ++ [t] := ⟨L.dropLast, L.getLast hL, (List.dropLast_concat_getLast hL).symm⟩
      have hal' := alTs_iff.mp hal
      obtain ⟨e, s2, hb, L2, rfl, rfl, hL2, hsz⟩ := aBody_ok (a := a) (b := b) (x := a) (y := a) (ox := ox) (oy := oy) hs (hal' t (by simp)) hl
      rw [while_next (by rw [hc]; simp) hb]
      refine (aLoop k _ _ _ L2 (set_self (at_lt hs)) (hL2 (alTs_iff.mpr fun u hu => hal' u (by simp [hu]))) (by omega) (by omega)).imp fun e s2 h => ?_
      rw [h, List.set_set]
theorem alike_spec {t : T} {st : Store} (h : alT t = true) (hs : tsz t ≤ 90000) (hw : Wf st) : ROk (f_l_alike [t, t] st) fun u s => u = .bl true ∧ s = st := by
  unfold f_l_alike
  refine pop_ok (def_rt ?_)
  show SRt (m_l_alike [some t, some t, none, none, none] st) _
  unfold m_l_alike
  refine s_seqR (s_set (r_eL (r_cons (r_eL (r_cons (r_var t rfl (r_cons (r_var t rfl (r_nil (tupD_ok (by simp) (r_nil (lstD_ok (by simp) (mkL_t ?_)))))))))))))
  have LL := aLoop (a := t) (b := t) (n := st.length) 100000 none none (st ++ [Ob.lst [T.tup [t, t]]]) [t] (by simp [pairT]) (by simp [alTs, h]) (by simp [tszs]; omega) (by simp [tszs]; omega)
  refine s_seqR (SNx.imp (Q := fun e s2 => s2 = (st ++ [Ob.lst [T.tup [t, t]]]).set st.length (.lst [])) LL fun e s e1 => ?_)
  refine s_ret (r_c ⟨.bl true, ?_, rfl, rfl, ?_⟩)
  · subst e1
    have : ((st ++ [Ob.lst [T.tup [t, t]]]).set st.length (Ob.lst [])).take st.length = st := by
      rw [List.take_set_of_le (Nat.le_refl _)]; simp
    rw [this]; exact hw
  · subst e1
    rw [List.take_set_of_le (Nat.le_refl _)]; simp
theorem comp_ints {g : GT} {t : MT} {envw : Mir.Env} {e : ME} {st : Store} (p : Int → Bool) (F : Int → T) : ∀ (ns : List Int) (acc : List T), acc.length + ns.length ≤ 100000 →
    (∀ n ∈ ns, ∃ env1, bindG g (.int n) envw = some env1 ∧ t env1 st = .ok (p n) st ∧ (p n = true → e env1 st = .ok (F n) st)) → compM (fun _ => True) g t envw (compK1 e) (ns.map T.int) acc st = .ok (acc ++ (ns.filter p).map F) st
  | [], acc, _, _ => by
    show compM (fun _ => True) g t envw (compK1 e) [] acc st = _
    unfold compM
    rw [if_pos trivial]; simp
  | n :: ns, acc, hl, h => by
    obtain ⟨env1, h1, h2, h3⟩ := h n List.mem_cons_self
    have hl' : acc.length + (ns.length + 1) ≤ 100000 := hl
    show compM (fun _ => True) g t envw (compK1 e) (T.int n :: ns.map T.int) acc st = _
    unfold compM
    rw [if_pos trivial, h1]
    dsimp only
    rw [h2]
    dsimp only [R.noexc, R.bind]
    cases hp : p n with
    | false =>
      rw [if_neg (by decide), comp_ints p F ns acc (by omega) fun m hm => h m (List.mem_cons_of_mem _ hm), List.filter_cons_of_neg (by simp [hp])]
    | true =>
      rw [if_pos rfl]
      rw [show compK1 e env1 acc st = .ok (acc ++ [F n]) st by
        unfold compK1
        rw [h3 hp]
        dsimp only [R.noexc, R.bind]
        rw [if_pos (line1000 (by omega))]]
      dsimp only
      rw [comp_ints p F ns (acc ++ [F n]) (by simp; omega) fun m hm => h m (List.mem_cons_of_mem _ hm), List.filter_cons_of_pos (by simp [hp])]
      simp
theorem deal_spec {st : Store} (hw : Wf st) (ns : List Int) (hn : ns.length ≤ 63) :
    ROk (f_l_deal [.scr (ns.map T.int), .int 0] st) fun t s => t = .ref (st.length + 1) ∧ DealAt s (st.length + 1) st.length ∧ Wf s ∧ s.length = st.length + 2 ∧ ∀ j, j < st.length → s[j]? = st[j]? := by
  unfold f_l_deal
  refine def_rt ?_
  show SRt (m_l_deal [some (.scr (ns.map T.int)), some (.int 0), none, none, none] st) _
  unfold m_l_deal
  let ab : List Int := ns.map fun n => if 0 - n > n then 0 - n else n
  have hab : ab.length = ns.length := by simp [ab]
  have any : ∀ (env : Mir.Env) (i : Nat) (ms : List Int) (s : Store), env[i]? = some (some (.lst (ms.map T.int))) → iAny (eVar i) env s = .ok ⟨ms.map T.int, fun _ => True⟩ s := fun env i ms s e => by
    unfold iAny; rw [eVar_at e]; rfl
  have hcut : cutT (ns.map T.int) (some 0) (some 63) = ns.map T.int := by
    unfold cutT
    rw [show HT.sIx (ns.map T.int).length 0 (some 0) = 0 from (HT.sIx_nat _ 0 0).trans (by simp), show HT.sIx (ns.map T.int).length (ns.map T.int).length (some 63) = (ns.map T.int).length from (HT.sIx_nat _ _ 63).trans (Nat.min_eq_right (by simpa using hn))]
    simp
    exact List.take_of_length_le (by simp)
  have cut : iAny (eCut false (eVar 0) (oSome (eVar 1)) (oSome (eC (.int 63)))) [some (.scr (ns.map T.int)), some (.int 0), none, none, none] st = .ok ⟨ns.map T.int, fun _ => True⟩ st := by
    unfold iAny eCut oSome eC
    simp [eVar, bind_ok, kCut, Mir.listOf, hcut, mkL, itA, itLM]
  refine s_seqR (s_set (r_comp (r_of cut (r_of (comp_ints (fun _ => true) (fun n => .int (if 0 - n > n then 0 - n else n)) ns [] (by simp; omega) fun n _ => ⟨_, rfl, rfl, fun _ => ?_⟩) (mkL_f ?_)))))
  · simp [eL, aCons, aNil, e2, eVar, eC, bind_ok, wipeE, kSub, kMax]
  have ee : [] ++ (ns.filter fun _ => true).map (fun n => T.int (if 0 - n > n then 0 - n else n)) = ab.map T.int := by
    rw [List.filter_eq_self.mpr (fun _ _ => rfl)]; simp [ab]
  rw [ee]
  refine s_seqR (s_set (r_of (a := .int 104729) (s := st) (by simp [e2, eC, eVar, bind_ok, kMul, kAdd]) ?_))
  refine s_seqR (sFor_rule (r_of (any _ 2 ab st rfl) ⟨fun i e s => ∃ x v, e = [some (.scr (ns.map T.int)), some (.int 0), some (.lst (ab.map T.int)), x, some (.int v)] ∧ s = st, ⟨none, 104729, rfl, rfl⟩, fun _ _ _ _ => trivial, ?_, ?_⟩))
  · rintro i t e s ht ⟨x, v, rfl, rfl⟩
    obtain ⟨n, rfl⟩ : ∃ n, t = .int n := by
      have := List.mem_of_getElem? ht
      obtain ⟨n, _, rfl⟩ := List.mem_map.mp this
      exact ⟨n, rfl⟩
    refine gN_ok (s_set (r_of (a := .int ((v * 69623 + n % 2147483629 + 1) % 2147483647)) (s := s) (by simp [e2, eC, eVar, bind_ok, kMul, kAdd, kMod]) ⟨_, _, rfl, rfl⟩))
  · rintro e s ⟨x, v, rfl, rfl⟩
    let big : List Int := ab.filter fun n => decide ((10 : Int) ^ 18 ≤ n)
    have hc : compM (fun _ => True) (.name 3) (tV (e2 (kGe) (eVar 3) (e2 kPow (eC (.int 10)) (eC (.int 18))))) (wipeE [some (.scr (ns.map T.int)), some (.int 0), some (.lst (ab.map T.int)), x, some (.int v)] [3]) (compK1 (eVar 3)) (ab.map T.int) [] s = .ok (big.map T.int) s := by
      rw [comp_ints (fun n => decide ((10 : Int) ^ 18 ≤ n)) T.int ab [] (by simp; omega) fun n _ => ⟨_, rfl, by simp [tV, e2, eC, eVar, bind_ok, wipeE, kPow, kGe], fun _ => by simp [eVar, wipeE]⟩]
      simp [big]
    refine s_ret ?_
    unfold eDict
    refine r_bind (r_cons (r_e2 (r_var (.int v) rfl (r_c (r_of (a := .int (v + 1)) (s := s) (by simp [kAdd]) (r_cons (r_c (r_cons (r_c (r_cons (r_e1 (r_comp (r_of (any _ 2 ab s rfl) (r_of hc (mkL_f (r_of (a := .ref s.length) (s := s ++ [.lst (big.reverse.map T.int)]) (by simp [kListRev, Mir.listOf, lstOf, mkL, List.map_reverse]) (r_nil ?_)))))))))))))))))
    refine r_of (a := .ref (s.length + 1)) (s := s ++ [.lst (big.reverse.map T.int)] ++ [.dic (Sh.deal (v + 1) 0 0 s.length)]) (by simp [Sh.deal]) ⟨rfl, ⟨⟨v + 1, 0, 0, big.reverse, by simp, by simp, by omega, fun y hy => ?_⟩, by omega⟩, ?_, by simp, fun j hj => ?_⟩
    · have : y ∈ big := by simpa using hy
      have := (List.mem_filter.mp this).2
      have := of_decide_eq_true this
      omega
    · refine (hw.push (o := .lst (big.reverse.map T.int)) (show belows _ _ = true from belows_ints _ _)).push ?_
      simp [obBelow, Sh.deal, belows, T.isBelow]; omega
    · rw [List.append_assoc, List.getElem?_append_left hj]
theorem ix_at {t v : T} {ts : List T} {i : Int} {s : Store} {P : T → Store → Prop} (hs : seqOf t s = some ts) (e : atI ts i = some v) (q : P v s) : ROk (kIx t (.int i) s) P := by
  refine r_of (a := v) (s := s) ?_ q
  unfold kIx
  cases t <;> first | (cases hs; done) | (simp only [hs, e])
theorem atI_of {ts : List T} {i : Int} {v : T} (h0 : 0 ≤ i) (hv : ts[i.toNat]? = some v) : atI ts i = some v := by
  have hlt := (List.getElem?_eq_some_iff.mp hv).1
  unfold atI ixN
  rw [if_pos h0, if_pos (by omega)]
  exact hv
theorem atI_neg {init : List T} {v : T} : atI (init ++ [v]) (-1) = some v := by
  unfold atI ixN
  rw [if_neg (by omega), if_pos (by simp; omega)]
  have e : (-1 + ((init.length : Int) + 1)).toNat = init.length := by omega
  simp [e]
theorem r_drawE {env : Mir.Env} {s : Store} {d l : Nat} {st : Store} {m : ME} {i : Nat} {P : T → Store → Prop} (hi : env[i]? = some (some (.ref d)))
    (hm : ROk (m env s) fun t s1 => ∃ n : Int, t = .int n ∧ 0 < n ∧ n ≤ 1000000 ∧ Over st s1 d l ∧ ∀ (k : Int) (s' : Store), 0 ≤ k → k < n → Over st s' d l → Drawn s1 s' d l → P (.int k) s') : ROk (eL (callM 2 f_l_draw) (aCons (eVar i) (aCons m aNil)) env s) P := by
  refine r_eL (r_cons (r_var (.ref d) hi (r_cons (hm.imp fun t s1 ⟨n, e, hn, hn2, ov, h⟩ => ?_))))
  subst e
  refine r_nil (r_call rfl ?_)
  refine (draw_pop ov.deal ov.wf hn (by omega)).imp fun t s' ⟨k, e, h0, h1, D, w⟩ => ?_
  subst e
  exact h k s' h0 h1 (ov.drawn D w) D
theorem sum_le {b : Int} : ∀ {a : List Int}, (∀ x ∈ a, x ≤ b) → a.sum ≤ a.length * b
  | [], _ => by simp
  | x :: a, h => by
    have h1 := h x List.mem_cons_self
    have h2 := sum_le fun y hy => h y (List.mem_cons_of_mem _ hy)
    rw [List.sum_cons, List.length_cons]
    have e : ((a.length + 1 : Nat) : Int) * b = a.length * b + b := by rw [Int.natCast_add, Int.add_mul]; simp
    rw [e]
    omega
theorem sum_nonneg : ∀ {a : List Int}, (∀ x ∈ a, 0 ≤ x) → 0 ≤ a.sum
  | [], _ => by simp
  | x :: a, h => by
    have h1 := h x List.mem_cons_self
    have h2 := sum_nonneg fun y hy => h y (List.mem_cons_of_mem _ hy)
    rw [List.sum_cons]; omega
theorem paces_spec {st : Store} {d l : Nat} (h : DealAt st d l) (hw : Wf st) {m : Nat} (hm : 1 ≤ m ∧ m ≤ 6) :
    ROk (f_l_paces [.ref d, .int m] st) fun t s => ∃ ps : List Int, t = .tup (ps.map T.int) ∧ ps.length = m ∧ ps.Pairwise (· < ·) ∧ (∀ p ∈ ps, -1000 ≤ p ∧ p ≤ 1000) ∧ Drawn st s d l ∧ Wf s := by
  unfold f_l_paces
  refine pop_ok (def_rt ?_)
  show SRt (m_l_paces [some (.ref d), some (.int m), none, none, none, none, none] st) _
  unfold m_l_paces
  let mx : Int := if (m : Int) - 1 > 1 then (m : Int) - 1 else 1
  have hmx : 1 ≤ mx ∧ mx ≤ 5 := by simp only [mx]; split <;> omega
  let wide : List Int := [2, 9, 400, 2000 / mx]
  have hq : 400 ≤ 2000 / mx ∧ 2000 / mx * mx ≤ 2000 := ⟨by
    rw [Int.le_ediv_iff_mul_le (by omega)]; omega, Int.ediv_mul_le _ (by omega)⟩
  refine s_seqR (s_set (r_of (a := .lst (wide.map T.int)) (s := st) ?_ ?_))
  · have hmax : kMax [.int 1, .int ((m : Int) - 1)] st = .ok (.int mx) st := rfl
    have hd : kDiv (.int 2000) (.int mx) st = .ok (.int (2000 / mx)) st := by
      unfold kDiv; simp only; rw [if_pos ⟨by omega, by omega⟩]
    simp [eL, aCons, aNil, eVar, bind_ok, kLstD, mkL, e2, eC, kSub, hmax, hd, wide]
  refine s_seqR (s_set (r_comp (range1_ok (n := (m : Int) - 1) (s1 := st) (by simp [e2, eVar, eC, bind_ok, kSub]) (by omega) (by omega) ?_)))
  refine (comp_rule (fun i acc s => ∃ ks : List Int, acc = ks.map T.int ∧ ks.length = i ∧ (∀ k ∈ ks, 1 ≤ k ∧ k ≤ 2000 / mx) ∧ Over st s d l) ⟨[], rfl, rfl, by simp, .refl h hw⟩ (fun _ _ _ _ => trivial) ?_).imp ?_
  · rintro i x acc s hx ⟨ks, rfl, hl, hks, ov⟩
    obtain ⟨rfl, hi⟩ := rangeT_get hx
    have hi : i < m := by omega
    refine ⟨_, rfl, r_of (a := true) (s := s) rfl ⟨fun z => (by cases z), fun _ => ?_⟩⟩
    refine r_e2 (r_c (r_drawE (st := st) (d := d) (l := l) rfl (r_e2 (r_var (.lst (wide.map T.int)) rfl (r_drawE (st := st) (d := d) (l := l) rfl (r_c ⟨4, rfl, by omega, by omega, ov, fun j s1 hj0 hj1 ov1 _ => ?_⟩))))))
    obtain ⟨w, hw1⟩ : ∃ w, wide[j.toNat]? = some w := ⟨_, List.getElem?_eq_getElem (show j.toNat < 4 by omega)⟩
    have hw2 : 0 < w ∧ w ≤ 2000 / mx := by
      have := List.mem_of_getElem? hw1
      simp only [wide, List.mem_cons, List.not_mem_nil, or_false] at this
      rcases this with rfl | rfl | rfl | rfl <;> omega
    have hw3 : 2000 / mx ≤ 2000 := Int.ediv_le_self _ (by omega)
    refine ix_at (v := .int w) rfl (atI_of hj0 (by rw [List.getElem?_map, hw1]; rfl)) ⟨w, rfl, hw2.1, by omega, ov1, fun k s2 hk0 hk1 ov2 _ => ?_⟩
    refine r_of (a := .int (1 + k)) (s := s2) rfl ⟨by simp; exact line1000 (by omega), ks ++ [1 + k], by simp, by simp [hl], fun y hy => ?_, ov2⟩
    rcases List.mem_append.mp hy with hy | hy
    · exact hks y hy
    · rw [List.mem_singleton.mp hy]; omega
  · rintro acc s ⟨ks, rfl, hl, hks, ov⟩
    have hl : ks.length = m - 1 := hl.trans ((rangeT_len _).trans (by omega))
    have hsum : ks.sum ≤ 2000 := by
      have h1 := sum_le (b := 2000 / mx) fun x hx => (hks x hx).2
      have h2 : (ks.length : Int) ≤ mx := by rw [hl]; simp only [mx]; split <;> omega
      have h3 : (ks.length : Int) * (2000 / mx) ≤ mx * (2000 / mx) := Int.mul_le_mul_of_nonneg_right h2 (by omega)
      rw [Int.mul_comm mx] at h3
      omega
    have hsum0 : 0 ≤ ks.sum := sum_nonneg fun x hx => by have := hks x hx; omega
    refine mkL_f (s_seqR (s_set (r_eL (r_cons (r_e2 (r_drawE (st := st) (d := d) (l := l) rfl (r_e2 (r_c (r_eL (r_cons (r_var (.lst (ks.map T.int)) rfl (r_nil (r_of (a := .int ks.sum) (s := s) ?_ (r_of (a := .int (2001 - ks.sum)) (s := s) rfl ⟨_, rfl, by omega, by omega, ov, fun k s1 hk0 hk1 ov1 _ => r_c (r_of (a := .int (k - 1000)) (s := s1) rfl (r_nil (lstD_ok (by simp) (mkL_t ?_))))⟩))))))))))))))
    · simp [kSum, kInts, seqOf, tupOf, Mir.listOf, lstOf, intsOf_map, sumI]
    have hF : st.length ≤ s1.length := ov1.len
    refine s_seqR (sFor_rule (r_of (a := ⟨ks.map T.int, fun _ => True⟩) (s := s1 ++ [.lst [.int (k - 1000)]]) rfl ⟨fun i e s => ∃ (y x : Option T) (init : List Int) (v : Int), e = [some (.ref d), some (.int m), some (.lst (wide.map T.int)), some (.lst (ks.map T.int)), y, some (.ref s1.length), x] ∧ s[s1.length]? = some (.lst ((init ++ [v]).map T.int)) ∧ Over st s d l ∧
      init.length = i ∧ (init ++ [v]).Pairwise (· < ·) ∧ (∀ p ∈ init ++ [v], -1000 ≤ p ∧ p ≤ v) ∧ v = k - 1000 + (ks.take i).sum, ?_, fun _ _ _ _ => trivial, ?_, ?_⟩))
    · refine ⟨none, none, [], k - 1000, rfl, by simp, ov1.push rfl, rfl, by simp, fun p hp => ?_, by simp⟩
      have : p = k - 1000 := by simpa using hp
      omega
    · rintro i t e s ht ⟨y, x, init, v, rfl, hs, ov2, hi, hpw, hb, hv⟩
      obtain ⟨stp, hst⟩ : ∃ stp, ks[i]? = some stp := by
        have : (ks.map T.int)[i]? = some t := ht
        rw [List.getElem?_map] at this
        cases q : ks[i]? with
        | none => rw [q] at this; cases this
        | some z => exact ⟨z, rfl⟩
      have et : t = .int stp := by
        have : (ks.map T.int)[i]? = some t := ht
        rw [List.getElem?_map, hst] at this
        exact (Option.some.inj this).symm
      subst et
      have hstp := hks stp (List.mem_of_getElem? hst)
      have hil : i < ks.length := (List.getElem?_eq_some_iff.mp hst).1
      have hix : atI ((init ++ [v]).map T.int) (-1) = some (.int v) := by
        rw [List.map_append]; exact atI_neg
      refine gN_ok (s_expr (r_eM (r_var (.ref s1.length) rfl ⟨isL_at hs, r_cons (r_e2 (r_e2 (r_var (.ref s1.length) rfl (r_e1 (r_c (r_of (a := T.int (-1)) (s := s) rfl (ix_at (v := T.int v) (by simp [seqOf, tupOf, Mir.listOf, lstOf, hs]) hix (r_var (.int stp) rfl (r_of (a := T.int (v + stp)) (s := s) rfl (r_nil (append_at hs (by simp; exact line1000 (by omega)) ?_)))))))))))⟩)))
      refine ⟨y, some (.int stp), init ++ [v], v + stp, rfl, by rw [set_self (at_lt hs)]; simp, ov2.set hF h ?_, by simp [hi], ?_, fun p hp => ?_, ?_⟩
      · show belows _ _ = true
        rw [show ((init ++ [v]).map T.int ++ [T.int (v + stp)]) = (init ++ [v] ++ [v + stp]).map T.int by simp]
        exact belows_ints _ _
      · refine List.pairwise_append.mpr ⟨hpw, by simp, fun a ha b hb' => ?_⟩
        have := hb a ha
        rw [List.mem_singleton.mp hb']
        omega
      · rcases List.mem_append.mp hp with hp | hp
        · have := hb p hp; omega
        · have := hb v (by simp)
          rw [List.mem_singleton.mp hp]; omega
      · rw [List.take_add_one, hst, hv]
        simp
        omega
    · rintro e s2 ⟨y, x, init, v, rfl, hs, ov2, hi, hpw, hb, hv⟩
      have hv2 : v ≤ 1000 := by
        have : ks.take (ks.map T.int).length = ks := List.take_of_length_le (by simp)
        rw [this] at hv
        omega
      obtain ⟨b1, b2, b3⟩ := ov2.back h hw
      refine s_ret (r_eL (r_cons (r_var (.ref s1.length) rfl (r_nil (r_of (a := .tup ((init ++ [v]).map T.int)) (s := s2) ?_ ⟨.tup ((init ++ [v]).map T.int), b1, plain_freeze _ _ _ (belows_ints _ _), init ++ [v], rfl, ?_, hpw, fun p hp => ?_, b2, b3⟩)))))
      · simp [kTuple, seqOf, tupOf, Mir.listOf, lstOf, hs]
      · have : init.length = ks.length := hi.trans (by simp)
        simp; omega
      · have := hb p hp; omega
def pairI (p : Int × Int) : T := .tup [.int p.1, .int p.2]
def OkTab (z : Nat) (tb : List (Int × Int)) : Prop := tb.length = z * z ∧ ∀ p ∈ tb, (0 ≤ p.1 ∧ p.1 < z) ∧ (0 ≤ p.2 ∧ p.2 < z)
def TabsAt (s : Store) (n m cnt z : Nat) : Prop :=
  ∃ rs : List Nat, s[m]? = some (.lst (rs.map T.ref)) ∧ n ≤ m ∧ rs.length = cnt ∧ ∀ r ∈ rs, n ≤ r ∧ r ≠ m ∧ ∃ tb, s[r]? = some (.lst (tb.map pairI)) ∧ OkTab z tb
theorem pairs_plain : ∀ tb : List (Int × Int), belows 0 (tb.map pairI) = true := fun tb => belows_iff.mpr fun t ht => by
  obtain ⟨p, _, rfl⟩ := List.mem_map.mp ht
  rfl
theorem mul_ok {a : Int} (b : Int) (s : Store) (h : -1000 ≤ a ∧ a ≤ 1000) : kMul false (.int a) (.int b) s = .ok (.int (a * b)) s := by
  unfold kMul; simp only; rw [if_pos (.inl ⟨by omega, by omega⟩)]
theorem div_ok (a : Int) {b : Int} (s : Store) (h : 0 < b ∧ b ≤ 1000) : kDiv (.int a) (.int b) s = .ok (.int (a / b)) s := by
  unfold kDiv; simp only; rw [if_pos ⟨by omega, by omega⟩]
theorem tri_cast (m : Nat) : ((m : Int) * ((m : Int) - 1)) / 2 = ((m * (m - 1) / 2 : Nat) : Int) := by
  cases m with
  | zero => rfl
  | succ k =>
    have : ((k + 1 : Nat) : Int) - 1 = (k : Int) := by omega
    rw [this]
    simp
structure TabI (st s : Store) (d l F z : Nat) (rs : List Nat) : Prop where
  ov : Over st s d l
  at_ : s[F]? = some (.lst (rs.map T.ref))
  le : st.length ≤ F
  tab : ∀ r ∈ rs, st.length ≤ r ∧ r ≠ F ∧ ∃ tb, s[r]? = some (.lst (tb.map pairI)) ∧ OkTab z tb
section
variable {st s s1 : Store} {d l F z : Nat} {rs : List Nat} {tb : List (Int × Int)}
theorem TabI.tabs (h : TabI st s d l F z rs) : TabsAt s st.length F rs.length z := ⟨rs, h.at_, h.le, rfl, h.tab⟩
theorem TabI.drawn (h : TabI st s d l F z rs) (h0 : DealAt st d l) (D : Drawn s s1 d l) : TabI st s1 d l F z rs := by
  have lt := h0.lt
  have le := h.le
  refine ⟨h.ov.drawn D (D.wf h.ov.wf), (D.same _ (by omega) (by omega)).trans h.at_, le, fun r hr => ?_⟩
  obtain ⟨a, b, tb, c, e⟩ := h.tab r hr
  exact ⟨a, b, tb, (D.same _ (by omega) (by omega)).trans c, e⟩
theorem refs_below {n : Nat} {rs : List Nat} (h : ∀ r ∈ rs, r < n) : belows n (rs.map T.ref) = true := belows_iff.mpr fun t ht => by
  obtain ⟨r, hr, rfl⟩ := List.mem_map.mp ht
  show decide (r < n) = true
  simpa using h r hr
theorem TabI.push (h : TabI st s d l F z rs) (tb : List (Int × Int)) : TabI st (s ++ [.lst (tb.map pairI)]) d l F z rs := by
  refine ⟨h.ov.push (show belows _ _ = true from plain_belows _ _ (pairs_plain tb)), by rw [List.getElem?_append_left (at_lt h.at_)]; exact h.at_, h.le, fun r hr => ?_⟩
  obtain ⟨a, b, tb', c, e⟩ := h.tab r hr
  exact ⟨a, b, tb', by rw [List.getElem?_append_left (at_lt c)]; exact c, e⟩
theorem TabI.write (h : TabI st s d l F z rs) (h0 : DealAt st d l) (rs' : List Nat) (hr : ∀ r ∈ rs', st.length ≤ r ∧ r ≠ F ∧ ∃ tb, s[r]? = some (.lst (tb.map pairI)) ∧ OkTab z tb) : TabI st (s.set F (.lst (rs'.map T.ref))) d l F z rs' := by
  refine ⟨h.ov.set h.le h0 (refs_below fun r hr' => let ⟨_, _, _, c, _⟩ := hr r hr'; at_lt c), set_self (at_lt h.at_), h.le, fun r hr' => ?_⟩
  obtain ⟨a, b, tb', c, e⟩ := hr r hr'
  exact ⟨a, b, tb', by rw [set_other (Ne.symm b)]; exact c, e⟩
theorem TabI.add (h : TabI st s d l F z rs) (h0 : DealAt st d l) (ok : OkTab z tb) : TabI st ((s ++ [Ob.lst (tb.map pairI)]).set F (Ob.lst (rs.map T.ref ++ [T.ref s.length]))) d l F z (rs ++ [s.length]) := by
  have h1 := (h.push tb).write h0 (rs ++ [s.length]) fun r hr => ?_
  · rw [List.map_append] at h1; exact h1
  · rcases List.mem_append.mp hr with hr | hr
    · exact (h.push tb).tab r hr
    · rw [List.mem_singleton.mp hr]
      have := at_lt h.at_
      have := h.le
      exact ⟨by omega, by omega, tb, by simp, ok⟩
end
theorem s_sub {a b : ME} {v : T} {env : Mir.Env} {st : Store} {Q : Mir.Env → Store → Prop} (h : ROk (a env st) fun o s1 => ROk (b env s1) fun i s2 => ∃ s3, putAt s2 o i v = some s3 ∧ Q env s3) : SNx (gSubM a b v env st) Q := by
  obtain ⟨o, s1, e1, i, s2, e2, s3, e3, h⟩ := h
  unfold gSubM
  rw [e1, bind_ok, e2, bind_ok, e3]
  exact ⟨_, _, rfl, h⟩
theorem mod_ok (a : Int) {b : Int} (s : Store) (h : 0 < b) : kMod (.int a) (.int b) s = .ok (.int (a % b)) s := by
  unfold kMod; simp only; rw [if_pos h]
theorem add_ok (a b : Int) (s : Store) : kAdd false (.int a) (.int b) s = .ok (.int (a + b)) s := rfl
theorem lt_mul {x y w q : Int} (hx : 0 ≤ x ∧ x < w) (hy : 0 ≤ y ∧ y < q) : 0 ≤ x * q + y ∧ x * q + y < w * q := by
  have h1 : 0 ≤ x * q := Int.mul_nonneg hx.1 (by omega)
  have h2 : x * q ≤ (w - 1) * q := Int.mul_le_mul_of_nonneg_right (by omega) (by omega)
  rw [Int.sub_mul] at h2
  omega
structure Keep (s0 s : Store) : Prop where
  len : s0.length ≤ s.length
  same : ∀ j, j < s0.length → s[j]? = s0[j]?
theorem Keep.push {s0 s : Store} {o : Ob} (k : Keep s0 s) : Keep s0 (s ++ [o]) := ⟨by simp; have := k.len; omega, fun j hj => by
  have := k.len
  rw [List.getElem?_append_left (by omega)]; exact k.same j hj⟩
theorem Keep.set {s0 s : Store} {o : Ob} {i : Nat} (k : Keep s0 s) (h : s0.length ≤ i) : Keep s0 (s.set i o) := ⟨by simp; exact k.len, fun j hj => by rw [set_other (by omega)]; exact k.same j hj⟩
theorem Over.trans {st s0 s : Store} {d l : Nat} (a : Over st s0 d l) (b : Over s0 s d l) : Over st s d l :=
  ⟨b.deal, b.wf, Nat.le_trans a.len b.len, fun j h1 h2 h3 => (b.same j (Nat.lt_of_lt_of_le h1 a.len) h2 h3).trans (a.same j h1 h2 h3)⟩
theorem TabI.base {st s0 s : Store} {d l F z : Nat} {rs : List Nat} (ov : Over st s0 d l) (I : TabI s0 s d l F z rs) : TabI st s d l F z rs :=
  ⟨ov.trans I.ov, I.at_, Nat.le_trans ov.len I.le, fun r hr => let ⟨a, b⟩ := I.tab r hr; ⟨Nat.le_trans ov.len a, b⟩⟩
def bookT (ps : List Int) (z : Nat) (tbs : List (List (Int × Int))) : T := .tup [.tup (ps.map T.int), .int z, .tup (tbs.map fun tb => T.tup (tb.map pairI))]
structure OkBook (m z : Nat) (ps : List Int) (tbs : List (List (Int × Int))) : Prop where
  len : ps.length = m
  rise : ps.Pairwise (· < ·)
  bound : ∀ p ∈ ps, -1000 ≤ p ∧ p ≤ 1000
  many : tbs.length = m * (m - 1) / 2
  tabs : ∀ tb ∈ tbs, OkTab z tb
theorem TabI.poke {st s : Store} {d l F z r : Nat} {rs : List Nat} {tb' : List (Int × Int)} (h0 : DealAt st d l) (I : TabI st s d l F z rs) (hr : r ∈ rs) (ok : OkTab z tb') : TabI st (s.set r (.lst (tb'.map pairI))) d l F z rs := by
  obtain ⟨a, b, tb, c, _⟩ := I.tab r hr
  refine ⟨I.ov.set a h0 (show belows _ _ = true from plain_belows _ _ (pairs_plain tb')), by rw [set_other b]; exact I.at_, I.le, fun r' hr' => ?_⟩
  obtain ⟨a', b', tb2, c', e'⟩ := I.tab r' hr'
  by_cases e : r = r'
  · subst e
    exact ⟨a', b', tb', set_self (at_lt c), ok⟩
  · exact ⟨a', b', tb2, by rw [set_other e]; exact c', e'⟩
theorem tuple_at {s : Store} {n : Nat} {ts : List T} {P : T → Store → Prop} (h : s[n]? = some (.lst ts)) (q : P (.tup ts) s) : ROk (kTuple [.ref n] s) P :=
  r_of (a := .tup ts) (s := s) (by simp [kTuple, seqOf, tupOf, Mir.listOf, lstOf, h]) q
theorem book_plain {ps : List Int} {z : Nat} {tbs : List (List (Int × Int))} : (bookT ps z tbs).isBelow 0 = true := by
  show belows 0 [_, _, _] = true
  refine belows_iff.mpr fun t ht => ?_
  simp only [List.mem_cons, List.not_mem_nil, or_false] at ht
  rcases ht with rfl | rfl | rfl
  · exact belows_ints 0 ps
  · rfl
  · refine belows_iff.mpr fun t ht => ?_
    obtain ⟨tb, _, rfl⟩ := List.mem_map.mp ht
    exact pairs_plain tb
def look (z : Nat) (tbs : List (List (Int × Int))) (u v a b : Int) : Int × Int := (tbs.getD (u * (u - 1) / 2 + v).toNat []).getD (a * z + b).toNat (0, 0)
theorem tri_lt {u v m : Nat} (hv : v < u) (hu : u < m) : u * (u - 1) / 2 + v < m * (m - 1) / 2 := by
  have h1 : u * (u - 1) / 2 + u = (u + 1) * u / 2 := by
    have : (u + 1) * u = u * (u - 1) + u * 2 := by
      cases u with
      | zero => rfl
      | succ k => simp [Nat.mul_comm, Nat.mul_add, Nat.add_mul]; omega
    rw [this, Nat.add_mul_div_right _ _ (by decide)]
  have h2 : (u + 1) * u ≤ m * (m - 1) := Nat.mul_le_mul hu (by omega)
  have h3 : (u + 1) * u / 2 ≤ m * (m - 1) / 2 := Nat.div_le_div_right h2
  omega
structure Ask (m z : Nat) (u v a b : Int) : Prop where
  v0 : 0 ≤ v
  vu : v < u
  um : u < m
  a0 : 0 ≤ a ∧ a < z
  b0 : 0 ≤ b ∧ b < z
theorem look_at {m z : Nat} {ps : List Int} {tbs : List (List (Int × Int))} (ok : OkBook m z ps tbs) {u v a b : Int} (h : Ask m z u v a b) :
    ∃ tb, tbs[(u * (u - 1) / 2 + v).toNat]? = some tb ∧ tb[(a * z + b).toNat]? = some (look z tbs u v a b) ∧ 0 ≤ u * (u - 1) / 2 + v ∧ 0 ≤ a * z + b ∧
      ((0 ≤ (look z tbs u v a b).1 ∧ (look z tbs u v a b).1 < z) ∧ (0 ≤ (look z tbs u v a b).2 ∧ (look z tbs u v a b).2 < z)) := by
  obtain ⟨v0, vu, um, a0, b0⟩ := h
  obtain ⟨U, rfl⟩ := Int.eq_ofNat_of_zero_le (show 0 ≤ u by omega)
  obtain ⟨V', rfl⟩ := Int.eq_ofNat_of_zero_le v0
  have e1 : ((U : Int) * ((U : Int) - 1)) / 2 + (V' : Int) = ((U * (U - 1) / 2 + V' : Nat) : Int) := by rw [tri_cast]; simp
  have lt := tri_lt (u := U) (v := V') (m := m) (by omega) (by omega)
  have hz := lt_mul a0 b0
  rw [← Int.natCast_mul] at hz
  unfold look
  rw [e1, Int.toNat_natCast]
  obtain ⟨tb, ht⟩ : ∃ tb, tbs[U * (U - 1) / 2 + V']? = some tb := ⟨_, List.getElem?_eq_getElem (show U * (U - 1) / 2 + V' < tbs.length by rw [ok.many]; exact lt)⟩
  have okt := ok.tabs tb (List.mem_of_getElem? ht)
  obtain ⟨p, hp⟩ : ∃ p, tb[(a * z + b).toNat]? = some p := ⟨_, List.getElem?_eq_getElem (show (a * z + b).toNat < tb.length by rw [okt.1]; omega)⟩
  have g1 : tbs.getD (U * (U - 1) / 2 + V') [] = tb := by rw [List.getD_eq_getElem?_getD, ht]; rfl
  rw [g1]
  have g2 : tb.getD (a * z + b).toNat (0, 0) = p := by rw [List.getD_eq_getElem?_getD, hp]; rfl
  rw [g2]
  exact ⟨tb, ht, hp, by omega, hz.1, okt.2 p (List.mem_of_getElem? hp)⟩
section
variable {m z : Nat} {ps : List Int} {tbs : List (List (Int × Int))} {u v a b : Int} {st : Store}
theorem Wf.take (hw : Wf st) : ∀ o ∈ st.take st.length, obBelow st.length o = true := by rw [List.take_length]; exact hw
end
theorem eq_of {α : Type} {r : Mir.R α} {a : α} {s : Store} (h : ROk r fun t s' => t = a ∧ s' = s) : r = .ok a s := by
  obtain ⟨t, s', e, rfl, rfl⟩ := h; exact e
def rowT (r : List (Int × Int)) : T := .tup (r.map pairI)
theorem cutT_to (ts : List T) (k : Nat) : cutT ts none (some (k : Int)) = ts.take k := by
  unfold cutT
  rw [show HT.sIx ts.length 0 none = 0 from rfl, HT.sIx_nat, List.drop_zero, Nat.sub_zero]
  by_cases h : k ≤ ts.length
  · rw [Nat.min_eq_left h]
  · rw [Nat.min_eq_right (by omega), List.take_of_length_le (Nat.le_refl _), List.take_of_length_le (by omega)]
theorem cutT_from (ts : List T) (k : Nat) : cutT ts (some (k : Int)) none = ts.drop k := by
  unfold cutT
  rw [show HT.sIx ts.length ts.length none = ts.length from rfl, HT.sIx_nat]
  by_cases h : k ≤ ts.length
  · rw [Nat.min_eq_left h, List.take_of_length_le (by simp)]
  · rw [Nat.min_eq_right (by omega)]
    simp
    omega
def passed (z : Nat) (tbs : List (List (Int × Int))) (x y : Int × Int) : (Int × Int) × (Int × Int) := ((y.1, (look z tbs x.1 y.1 x.2 y.2).1), (x.1, (look z tbs x.1 y.1 x.2 y.2).2))
def stepR (z : Nat) (tbs : List (List (Int × Int))) (r : List (Int × Int)) (k : Nat) : List (Int × Int) := match r[k]?, r[k + 1]? with
  | some x, some y => (r.set k (passed z tbs x y).1).set (k + 1) (passed z tbs x y).2
  | _, _ => r
def AskAt (m z : Nat) (r : List (Int × Int)) (k : Nat) : Prop := ∃ x y, r[k]? = some x ∧ r[k + 1]? = some y ∧ Ask m z x.1 y.1 x.2 y.2
def GoodW (m z : Nat) (tbs : List (List (Int × Int))) : List (Int × Int) → List Nat → Prop
  | _, [] => True
  | r, k :: ks => AskAt m z r k ∧ GoodW m z tbs (stepR z tbs r k) ks
theorem GoodW.at {m z : Nat} {tbs : List (List (Int × Int))} : ∀ {ks : List Nat} {r : List (Int × Int)}, GoodW m z tbs r ks → ∀ i k, ks[i]? = some k → AskAt m z ((ks.take i).foldl (stepR z tbs) r) k
  | [], _, _, i, k, e => by simp at e
  | a :: ks, r, h, 0, k, e => by
    simp at e; subst e; exact h.1
  | a :: ks, r, h, i + 1, k, e => by
    have := GoodW.at h.2 i k (by simpa using e)
    simpa using this
section
variable {m z : Nat} {ps : List Int} {tbs : List (List (Int × Int))} {st : Store} {r : List (Int × Int)} {k : Nat}
theorem stepR_at {x y : Int × Int} (h1 : r[k]? = some x) (h2 : r[k + 1]? = some y) : stepR z tbs r k = (r.set k (passed z tbs x y).1).set (k + 1) (passed z tbs x y).2 := by
  unfold stepR; rw [h1, h2]
end
theorem g_two {g1 g2 : MG} {a b : T} {e : Mir.Env} {s : Store} {Q : Mir.Env → Store → Prop} (h : SNx (g1 a e s) fun e1 s1 => SNx (g2 b e1 s1) Q) : SNx (gT 2 (gsCons g1 (gsCons g2 gsNil)) (.tup [a, b]) e s) Q := by
  obtain ⟨e1, s1, h1, e2, s2, h2, q⟩ := h
  refine ⟨e2, s2, ?_, q⟩
  show gsCons g1 (gsCons g2 gsNil) [a, b] e s = _
  unfold gsCons
  simp only [h1, RS.seq]
  rw [h2]
  rfl
def intsT (us : List Int) : T := .tup (us.map T.int)
structure Three (m z : Nat) (x y w : Int × Int) : Prop where
  xm : x.1 < m
  yx : y.1 < x.1
  wy : w.1 < y.1
  w0 : 0 ≤ w.1
  bx : 0 ≤ x.2 ∧ x.2 < z
  by_ : 0 ≤ y.2 ∧ y.2 < z
  bw : 0 ≤ w.2 ∧ w.2 < z
section
variable {m z : Nat} {ps : List Int} {tbs : List (List (Int × Int))} {x y w : Int × Int}
theorem passed_ok (ok : OkBook m z ps tbs) (h : Ask m z x.1 y.1 x.2 y.2) : (0 ≤ (passed z tbs x y).1.2 ∧ (passed z tbs x y).1.2 < z) ∧ (0 ≤ (passed z tbs x y).2.2 ∧ (passed z tbs x y).2.2 < z) := by
  obtain ⟨_, _, _, _, _, h⟩ := look_at ok h; exact h
end
structure Case where
  m : Nat
  z : Nat
  ps : List Int
  tbs : List (List (Int × Int))
  x : Int × Int
  y : Int × Int
  w : Int × Int
structure Case.Ok (c : Case) : Prop where
  mm : c.m ≤ 6
  zz : c.z ≤ 6
  book : OkBook c.m c.z c.ps c.tbs
  three : Three c.m c.z c.x c.y c.w
theorem r_cut {env : Mir.Env} {st : Store} {P : T → Store → Prop} {al : Bool} {m : ME} {lo hi : MO} (h : ROk (m env st) fun t s => ROk (lo env s) fun l s1 => ROk (hi env s1) fun u s2 => ROk (kCut al t l u s2) P) : ROk (eCut al m lo hi env st) P :=
  r_bind (h.imp fun _ _ h => r_bind (h.imp fun _ _ h => r_bind h))
theorem ints_alT (us : List Int) : alT (intsT us) = true := alTs_iff.mpr fun t ht => by
  obtain ⟨i, _, rfl⟩ := List.mem_map.mp ht
  rfl
theorem ints_tszs : ∀ us : List Int, tszs (us.map T.int) = us.length
  | [] => rfl
  | u :: us => by
    show 1 + tszs (us.map T.int) = _
    rw [ints_tszs us, List.length_cons]; omega
end Sh
namespace Sh
open PySem PySem.Spec PyProof.Rows L2 Mir
theorem tszs_le {n : Nat} : ∀ {ts : List T}, (∀ t ∈ ts, tsz t ≤ n) → tszs ts ≤ ts.length * n
  | [], _ => Nat.zero_le _
  | t :: ts, h => by
    have h1 := h t List.mem_cons_self
    have h2 := tszs_le fun u hu => h u (List.mem_cons_of_mem _ hu)
    show tsz t + tszs ts ≤ (ts.length + 1) * n
    rw [Nat.add_mul, Nat.one_mul]
    omega
section
variable {m z : Nat} {ps : List Int} {tbs : List (List (Int × Int))}
theorem pairs_tszs : ∀ tb : List (Int × Int), tszs (tb.map pairI) = tb.length * 3
  | [] => rfl
  | p :: tb => by
    show 3 + tszs (tb.map pairI) = (tb.length + 1) * 3
    rw [pairs_tszs tb]; omega
theorem book_sz (ok : OkBook m z ps tbs) (hm : m ≤ 6) (hz : z ≤ 6) : tsz (bookT ps z tbs) ≤ 2000 := by
  have h1 : tszs (tbs.map fun tb => T.tup (tb.map pairI)) ≤ tbs.length * 109 := by
    have := tszs_le (n := 109) (ts := tbs.map fun tb => T.tup (tb.map pairI)) fun t ht => by
      obtain ⟨tb, h, rfl⟩ := List.mem_map.mp ht
      show 1 + tszs (tb.map pairI) ≤ 109
      rw [pairs_tszs, (ok.tabs tb h).1]
      have : z * z ≤ 6 * 6 := Nat.mul_le_mul hz hz
      omega
    rwa [List.length_map] at this
  have h2 : tbs.length ≤ 15 := by
    rw [ok.many]
    have : m * (m - 1) ≤ 6 * 5 := Nat.mul_le_mul hm (by omega)
    omega
  show 1 + ((1 + tszs (ps.map T.int)) + (1 + ((1 + tszs (tbs.map fun tb => T.tup (tb.map pairI))) + 0))) ≤ 2000
  rw [ints_tszs, ok.len]
  omega
theorem pairs_alT (tb : List (Int × Int)) : alTs (tb.map pairI) = true := alTs_iff.mpr fun t ht => by
  obtain ⟨p, _, rfl⟩ := List.mem_map.mp ht
  rfl
theorem book_alT : alT (bookT ps z tbs) = true := by
  show (alT (intsT ps) && (alT (.int z) && (alTs (tbs.map fun tb => T.tup (tb.map pairI)) && true))) = true
  rw [ints_alT, alTs_iff.mpr fun t ht => ?_]
  · rfl
  · obtain ⟨tb, _, rfl⟩ := List.mem_map.mp ht
    exact pairs_alT tb
end
end Sh
namespace Sh
open PySem PySem.Spec PyProof.Rows L2 Mir
end Sh
namespace Sh
open PySem PySem.Spec PyProof.Rows L2 Mir
theorem pop_exc {f : List T → M T} {ts : List T} {st s : Store} {x : Ex} (h : f ts st = .exc x s) (hw : ∀ o ∈ s.take st.length, obBelow st.length o = true) (hb : belows st.length (x.fs.map (·.2)) = true) : popS f ts st = .exc x (s.take st.length) := by
  unfold popS
  rw [h]
  dsimp only
  rw [if_pos ⟨List.all_eq_true.mpr hw, hb⟩]
theorem def_exc {n m : Nat} {b : MS} {ts : List T} {st s : Store} {x : Ex} {e : Mir.Env} (h : b (ts.map some ++ List.replicate (m - n) none) st = .exc x e s) : defM n m b ts st = .exc x s := by
  unfold defM
  rw [h]
def RowOk (m z : Nat) (r : List (Int × Int)) : Prop := ∀ w ∈ r, (0 ≤ w.1 ∧ w.1 < m) ∧ (0 ≤ w.2 ∧ w.2 < z)
section
variable {m z : Nat} {ps : List Int} {tbs : List (List (Int × Int))} {st : Store} {r : List (Int × Int)} {p : Int}
theorem RowOk.step (ok : OkBook m z ps tbs) (hr : RowOk m z r) {k : Nat} (h : AskAt m z r k) : RowOk m z (stepR z tbs r k) := by
  obtain ⟨x, y, h1, h2, hk⟩ := h
  have P := passed_ok ok hk
  have hx := hr x (List.mem_of_getElem? h1)
  have hy := hr y (List.mem_of_getElem? h2)
  rw [stepR_at h1 h2]
  intro w hw
  rcases List.mem_or_eq_of_mem_set hw with h | h
  · rcases List.mem_or_eq_of_mem_set h with h | h
    · exact hr w h
    · rw [h]; exact ⟨hy.1, P.1⟩
  · rw [h]; exact ⟨hx.1, P.2⟩
end
end Sh
namespace Sh
open PySem PySem.Spec PyProof.Rows L2 Mir
def SA (r : RS) (Q : Mir.Env → Store → Prop) (P : T → Store → Prop) (E : Ex → Mir.Env → Store → Prop) : Prop := match r with
  | .nx e s => Q e s
  | .rt t s => P t s
  | .exc x e s => E x e s
  | _ => False
def RK (r : Mir.R T) (P : T → Store → Prop) (E : Ex → Store → Prop) : Prop := match r with
  | .ok t s => P t s
  | .exc x s => E x s
  | .stuck => False
section
variable {env : Mir.Env} {st : Store} {Q : Mir.Env → Store → Prop} {P : T → Store → Prop} {E : Ex → Mir.Env → Store → Prop} {m n : MS} {e a b : ME} {t : MT}
theorem sa_nx {r : RS} (h : SNx r Q) : SA r Q P E := by obtain ⟨e, s, h1, h2⟩ := h; rw [h1]; exact h2
theorem sa_rt {r : RS} (h : SRt r P) : SA r Q P E := by obtain ⟨e, s, h1, h2⟩ := h; rw [h1]; exact h2
theorem sa_imp {r : RS} {Q' P' E'} (h : SA r Q' P' E') (h1 : ∀ e s, Q' e s → Q e s) (h2 : ∀ t s, P' t s → P t s) (h3 : ∀ x e s, E' x e s → E x e s) : SA r Q P E := by
  cases r with
  | nx e s => exact h1 e s h
  | rt t s => exact h2 t s h
  | exc x e s => exact h3 x e s h
  | bk e s => exact h
  | ct e s => exact h
  | stuck => exact h
theorem sa_seq (h : SA (m env st) (fun e s => SA (n e s) Q P E) P E) : SA (sSeq m n env st) Q P E := by
  unfold sSeq
  cases hr : m env st with
  | nx e s => rw [hr] at h; exact h
  | rt t s => rw [hr] at h; exact h
  | exc x e s => rw [hr] at h; exact h
  | bk e s => rw [hr] at h; exact h
  | ct e s => rw [hr] at h; exact h
  | stuck => rw [hr] at h; exact h
theorem sa_of {α : Type} {r : Mir.R α} {k : α → Store → RS} (h : ROk r fun a s => SA (k a s) Q P E) : SA (RS.of env r k) Q P E := by
  obtain ⟨x, s, e, h⟩ := h; rw [e]; exact h
theorem sa_set {i : Nat} (h : ROk (e env st) fun t s => Q (env.set i (some t)) s) : SA (sSet i e env st) Q P E := sa_nx (s_set h)
theorem sa_ret (h : ROk (e env st) P) : SA (sRet e env st) Q P E := sa_rt (s_ret h)
theorem sa_expr (h : ROk (e env st) fun _ s => Q env s) : SA (sExpr e env st) Q P E := sa_nx (s_expr h)
theorem sa_next (h : Q env st) : SA (sNext env st) Q P E := h
theorem sa_if (h : ROk (t env st) fun z s => if z = true then SA (m env s) Q P E else SA (n env s) Q P E) : SA (sIf t m n env st) Q P E :=
  sa_of (h.imp fun z s h => by cases z <;> exact h)
theorem sa_par {i j : Nat} {m : Mir.Env → M (List T)} (h : ROk (m env st) fun ts s => ∃ t u, ts = [t, u] ∧ Q ((env.set i (some t)).set j (some u)) s) : SA (sPar i j m env st) Q P E := sa_nx (s_par h)
theorem two_in {t u : T} {P : T → T → Prop} (h : P t u) : ∃ t' u', [t, u] = [t', u'] ∧ P t' u' := ⟨_, _, rfl, h⟩
theorem sa_asg {g : MG} (h : ROk (e env st) fun t s => SNx (g t env s) Q) : SA (sAsg e g env st) Q P E := sa_nx (s_asg h)
theorem sa_raise {x : Str} {flds : List Str} {m : Mir.Env → M (List T)} (h : ROk (m env st) fun ts s => ts.length = flds.length ∧ E ⟨x, (flds.zip ts).reverse⟩ env s) : SA (sRaise x flds m env st) Q P E := by
  obtain ⟨ts, s, h1, h2, h3⟩ := h
  unfold sRaise
  rw [h1]
  show SA (if ts.length = flds.length then RS.exc _ env s else .stuck) Q P E
  rw [if_pos h2]; exact h3
theorem sa_for {mi : MI} {g : MG} {body : MS} (h : ROk (mi env st) fun it s => ∃ I : Nat → Mir.Env → Store → Prop, I 0 env s ∧ (∀ i e s, I i e s → it.chk s) ∧
    (∀ i t e s, it.items[i]? = some t → I i e s → SNx (g t e s) fun e1 s1 => SA (body e1 s1) (fun e2 s2 => I (i + 1) e2 s2) P E) ∧ ∀ e s, I it.items.length e s → Q e s) : SA (sFor mi g body env st) Q P E := by
  obtain ⟨it, s, h1, I, h0, hc, hs, hq⟩ := h
  unfold sFor
  rw [h1]
  show SA (forM it.chk g body it.items env s) Q P E
  suffices H : ∀ (k : Nat) (l : List T) (e : Mir.Env) (s : Store), it.items.drop k = l → I k e s → k + l.length = it.items.length → SA (forM it.chk g body l e s) (I it.items.length) P E from
    sa_imp (H 0 it.items env s rfl h0 (by simp)) hq (fun _ _ h => h) fun _ _ _ h => h
  intro k l
  induction l generalizing k with
  | nil =>
    intro e s _ hi hl
    unfold Mir.forM
    rw [if_pos (hc k e s hi)]
    show I it.items.length e s
    rw [← hl]; exact hi
  | cons t ts ih =>
    intro e s hd hi hl
    have ht : it.items[k]? = some t := by
      have : (it.items.drop k)[0]? = some t := by rw [hd]; rfl
      simpa using this
    obtain ⟨e1, s1, h1, h2⟩ := hs k t e s ht hi
    unfold Mir.forM
    rw [if_pos (hc k e s hi), h1]
    dsimp only
    cases hb : body e1 s1 with
    | nx e2 s2 =>
      rw [hb] at h2
      dsimp only
      refine ih (k + 1) e2 s2 ?_ h2 (by simp at hl; omega)
      rw [← List.drop_drop, hd]; rfl
    | rt t s => rw [hb] at h2; exact h2
    | exc x e s => rw [hb] at h2; exact h2
    | bk e s => rw [hb] at h2; exact h2.elim
    | ct e s => rw [hb] at h2; exact h2.elim
    | stuck => rw [hb] at h2; exact h2.elim
end
theorem pop_sa {n m : Nat} {b : MS} {ts : List T} {st : Store} {P : T → Store → Prop} {E : Ex → Store → Prop} (h : SA (b (ts.map some ++ List.replicate (m - n) none) st) (fun _ s => (∀ o ∈ s.take st.length, obBelow st.length o = true) ∧ P .non (s.take st.length))
    (fun t s => ∃ u, (∀ o ∈ s.take st.length, obBelow st.length o = true) ∧ freeze s st.length t = some u ∧ P u (s.take st.length))
    fun x _ s => (∀ o ∈ s.take st.length, obBelow st.length o = true) ∧ belows st.length (x.fs.map (·.2)) = true ∧ E x (s.take st.length)) : RK (popS (defM n m b) ts st) P E := by
  cases hr : b (ts.map some ++ List.replicate (m - n) none) st with
  | nx e s =>
    rw [hr] at h
    have hd : defM n m b ts st = .ok .non s := by unfold defM; rw [hr]
    unfold popS
    rw [hd]
    dsimp only
    rw [if_pos (List.all_eq_true.mpr h.1)]
    exact h.2
  | rt t s =>
    rw [hr] at h
    obtain ⟨u, h1, h2, h3⟩ := h
    have hd : defM n m b ts st = .ok t s := by unfold defM; rw [hr]
    unfold popS
    rw [hd]
    dsimp only
    rw [if_pos (List.all_eq_true.mpr h1), h2]
    exact h3
  | exc x e s =>
    rw [hr] at h
    have := pop_exc (f := defM n m b) (ts := ts) (def_exc (n := n) (m := m) hr) h.1 h.2.1
    rw [this]
    exact h.2.2
  | bk e s => rw [hr] at h; exact h.elim
  | ct e s => rw [hr] at h; exact h.elim
  | stuck => rw [hr] at h; exact h.elim
theorem rk_ok {r : Mir.R T} {P : T → Store → Prop} (h : RK r P fun _ _ => False) : ROk r P := by
  cases r with
  | ok t s => exact ⟨t, s, rfl, h⟩
  | exc x s => exact h.elim
  | stuck => exact h.elim
theorem pop_pure {n m : Nat} {b : MS} {ts : List T} {st : Store} {u : T} (hw : Wf st) (h : SA (b (ts.map some ++ List.replicate (m - n) none) st) (fun _ _ => False) (fun t s => s.take st.length = st ∧ freeze s st.length t = some u) fun _ _ _ => False) :
    popS (defM n m b) ts st = .ok u st := by
  refine eq_of (rk_ok (pop_sa (sa_imp h (fun _ _ h => h.elim) (fun t s h => ?_) fun _ _ _ h => h.elim)))
  refine ⟨u, ?_, h.2, rfl, h.1⟩
  rw [h.1]; exact hw
theorem pop_toldX {n m : Nat} {b : MS} {ts : List T} {st : Store} {r : Mir.R T} (hw : Wf st) (h : SA (b (ts.map some ++ List.replicate (m - n) none) st) (fun _ _ => False) (fun t s => s.take st.length = st ∧ ∃ u, freeze s st.length t = some u ∧ r = .ok u st)
    fun x _ s => s.take st.length = st ∧ belows st.length (x.fs.map (·.2)) = true ∧ r = .exc x st) : popS (defM n m b) ts st = r := by
  have := pop_sa (n := n) (m := m) (b := b) (ts := ts) (st := st) (P := fun u s => r = .ok u s) (E := fun x s => r = .exc x s) (sa_imp h (fun _ _ h => h.elim) (fun t s ⟨h1, u, h2, h3⟩ => ⟨u, by rw [h1]; exact hw, h2, by rw [h1]; exact h3⟩) fun x _ s ⟨h1, h2, h3⟩ => ⟨by rw [h1]; exact hw, h2, by rw [h1]; exact h3⟩)
  cases hr : popS (defM n m b) ts st with
  | ok t s => rw [hr] at this; exact (show r = .ok t s from this).symm
  | exc x s => rw [hr] at this; exact (show r = .exc x s from this).symm
  | stuck => rw [hr] at this; exact this.elim
section
variable {s : Store} {P : T → Store → Prop} {a b : Int}
theorem r_v {env : Mir.Env} {i : Nat} {t : T} (e : env[i]? = some (some t)) (h : P t s) : ROk (eVar i env s) P := r_var t e h
theorem r_cl {n : Nat} {f : List T → M T} {ts : List T} (hn : ts.length.beq n = true) (h : ROk (f ts s) P) : ROk (callM n f ts s) P := r_call (Nat.eq_of_beq_eq_true hn) h
theorem r_bl {z : Bool} {P : Bool → Prop} (h : P z) : ∃ y, T.bl z = .bl y ∧ P y := ⟨z, rfl, h⟩
theorem r_add (h : P (.int (a + b)) s) : ROk (kAdd false (.int a) (.int b) s) P := r_of (add_ok _ _ _) h
theorem r_sub (h : P (.int (a - b)) s) : ROk (kSub (.int a) (.int b) s) P := r_of rfl h
theorem r_lt (h : P (.bl (decide (a < b))) s) : ROk (kLt (.int a) (.int b) s) P := r_of rfl h
theorem r_le (h : P (.bl (decide (a ≤ b))) s) : ROk (kLe (.int a) (.int b) s) P := r_of rfl h
theorem r_gt (h : P (.bl (decide (b < a))) s) : ROk (kGt (.int a) (.int b) s) P := r_of rfl h
theorem r_ge (h : P (.bl (decide (b ≤ a))) s) : ROk (kGe (.int a) (.int b) s) P := r_of rfl h
theorem r_eqI (h : P (.bl (decide (a = b))) s) : ROk (kEq false (.int a) (.int b) s) P := r_of (a := .bl (decide (a = b))) (s := s) (by simp [kEq]) h
theorem r_neI (h : P (.bl (!decide (a = b))) s) : ROk (kEq true (.int a) (.int b) s) P := r_of (a := .bl (!decide (a = b))) (s := s) (by simp [kEq]) h
theorem r_eqS {x y : Str} (h : P (.bl (decide (x = y))) s) : ROk (kEq false (.str x) (.str y) s) P := r_of (a := .bl (decide (x = y))) (s := s) (by simp [kEq]) h
theorem r_neg (h : P (.int (-a)) s) : ROk (kNeg (.int a) s) P := r_of rfl h
theorem r_mod (hb : 0 < b) (h : P (.int (a % b)) s) : ROk (kMod (.int a) (.int b) s) P := r_of (mod_ok a s hb) h
theorem r_div (hb : 0 < b ∧ b ≤ 1000) (h : P (.int (a / b)) s) : ROk (kDiv (.int a) (.int b) s) P := r_of (div_ok a s hb) h
theorem r_mul (ha : -1000 ≤ a ∧ a ≤ 1000) (h : P (.int (a * b)) s) : ROk (kMul false (.int a) (.int b) s) P := r_of (mul_ok b s ha) h
theorem r_lenT {ts : List T} (h : P (.int ts.length) s) : ROk (kLen [.tup ts] s) P := r_of (a := .int ts.length) (s := s) (by simp [kLen, seqOf, tupOf]) h
theorem r_lenL {ts : List T} (h : P (.int ts.length) s) : ROk (kLen [.lst ts] s) P := r_of (a := .int ts.length) (s := s) (by simp [kLen, seqOf, tupOf, Mir.listOf, lstOf]) h
theorem r_lenIs {qs : List Int} (h : P (.int qs.length) s) : ROk (kLen [intsT qs] s) P := r_of (a := .int qs.length) (s := s) (by simp [intsT, kLen, seqOf, tupOf]) h
theorem r_lenRs {r : List (Int × Int)} (h : P (.int r.length) s) : ROk (kLen [rowT r] s) P := r_of (a := .int r.length) (s := s) (by simp [rowT, kLen, seqOf, tupOf]) h
theorem r_cutTo {qs : List Int} {k : Nat} {al : Bool} (h : P (intsT (qs.take k)) s) : ROk (kCut al (intsT qs) none (some (k : Int)) s) P := r_of (a := intsT (qs.take k)) (s := s) (by
  show Mir.R.ok (T.tup (cutT (qs.map T.int) none (some (k : Int)))) s = _
  rw [cutT_to, ← List.map_take]; rfl) h
theorem r_cutFrom {qs : List Int} {k : Nat} {al : Bool} (h : P (intsT (qs.drop k)) s) : ROk (kCut al (intsT qs) (some (k : Int)) none s) P := r_of (a := intsT (qs.drop k)) (s := s) (by
  show Mir.R.ok (T.tup (cutT (qs.map T.int) (some (k : Int)) none)) s = _
  rw [cutT_from, ← List.map_drop]; rfl) h
theorem r_isN {t : T} {neg : Bool} (h : P (.bl (if neg then !isNonT t else isNonT t)) s) : ROk (kIsN neg t s) P := r_of rfl h
theorem r_tupT {ts : List T} (h : P (.tup ts) s) : ROk (kTuple [.tup ts] s) P := r_of (a := .tup ts) (s := s) (by simp [kTuple, seqOf, tupOf]) h
theorem r_tupL {ts : List T} (h : P (.tup ts) s) : ROk (kTuple [.lst ts] s) P := r_of (a := .tup ts) (s := s) (by simp [kTuple, seqOf, tupOf, Mir.listOf, lstOf]) h
theorem r_oN {env : Mir.Env} {P : Option Int → Store → Prop} (h : P none s) : ROk (oNone env s) P := r_of rfl h
theorem r_oS {e : ME} {env : Mir.Env} {P : Option Int → Store → Prop} (h : ROk (e env s) fun t s => ∃ i, t = .int i ∧ P (some i) s) : ROk (oSome e env s) P := by
  refine r_bind (h.imp fun t s h => ?_)
  obtain ⟨i, e, h⟩ := h
  subst e
  exact r_ok h
theorem r_in {i : Int} {P : Int → Prop} (h : P i) : ∃ j, T.int i = .int j ∧ P j := ⟨i, rfl, h⟩
theorem r_cutT {ts : List T} {lo hi : Option Int} {al : Bool} (h : P (.tup (cutT ts lo hi)) s) : ROk (kCut al (.tup ts) lo hi s) P := r_of (a := .tup (cutT ts lo hi)) (s := s) (by simp [kCut]) h
theorem r_and' {env : Mir.Env} {x y : ME} (h : ROk (x env s) fun t s => ∃ z, t = .bl z ∧ if z = true then ROk (y env s) P else P (.bl false) s) : ROk (eAnd x y env s) P := by
  refine r_bind (h.imp fun t s h => ?_)
  obtain ⟨z, e, h⟩ := h
  subst e
  cases z with
  | true => exact h
  | false => exact r_ok h
theorem r_not' {env : Mir.Env} {x : ME} (h : ROk (x env s) fun t s => ∃ z, t = .bl z ∧ P (.bl !z) s) : ROk (eNot x env s) P := by
  refine r_bind (h.imp fun t s h => ?_)
  obtain ⟨z, e, h⟩ := h
  subst e
  exact r_ok h
theorem r_chain {env : Mir.Env} {k k' : T → T → M T} {x y w : ME} (h : ROk (x env s) fun t s => ROk (y env s) fun u s2 => ROk (k t u s2) fun v s3 => ∃ z, v = .bl z ∧ if z = true then ROk (w env s3) (fun r s4 => ROk (k' u r s4) P) else P (.bl false) s3) : ROk (eChain k k' x y w env s) P := by
  refine r_bind (h.imp fun t s h => r_bind (h.imp fun u s h => r_bind (h.imp fun v s h => ?_)))
  obtain ⟨z, e, h⟩ := h
  subst e
  cases z with
  | true => exact r_bind (h.imp fun _ _ h => h)
  | false => exact r_ok h
end
theorem rt_sa {r : RS} {P : T → Store → Prop} (h : SA r (fun _ _ => False) P fun _ _ _ => False) : SRt r P := by
  cases r with
  | rt t s => exact ⟨t, s, rfl, h⟩
  | _ => all_goals exact h.elim
theorem r_drw {st s : Store} {d l : Nat} {n : Int} {P : T → Store → Prop} (ov : Over st s d l) (hn : 0 < n) (hn2 : n < 2 ^ 200) (h : ∀ (k : Int) (s' : Store), 0 ≤ k → k < n → Over st s' d l → Drawn s s' d l → P (.int k) s') : ROk (f_l_draw [.ref d, .int n] s) P := by
  refine (draw_pop ov.deal ov.wf hn hn2).imp fun t s' ⟨k, e, h0, h1, D, w⟩ => ?_
  subst e
  exact h k s' h0 h1 (ov.drawn D w) D
theorem ite_t {z : Bool} {A B : Prop} (h : z = true) (a : A) : if z = true then A else B := by rw [if_pos h]; exact a
theorem ite_f {z : Bool} {A B : Prop} (h : z = false) (b : B) : if z = true then A else B := by rw [if_neg (by rw [h]; decide)]; exact b
theorem r_and2 {t u : MT} {env : Mir.Env} {st : Store} {P : Bool → Store → Prop} (h : ROk (t env st) fun z s => if z = true then ROk (u env s) P else P false s) : ROk (tAndM t u env st) P :=
  r_and (h.imp fun z s h => ⟨fun e => by rw [if_pos e] at h; exact h, fun e => by rw [if_neg (by rw [e]; decide)] at h; exact h⟩)
theorem r_or2 {t u : MT} {env : Mir.Env} {st : Store} {P : Bool → Store → Prop} (h : ROk (t env st) fun z s => if z = true then P true s else ROk (u env s) P) : ROk (tOrM t u env st) P :=
  r_or (h.imp fun z s h => ⟨fun e => by rw [if_neg (by rw [e]; decide)] at h; exact h, fun e => by rw [if_pos e] at h; exact h⟩)
theorem r_intB {z : Bool} {s : Store} {P : T → Store → Prop} (h : P (.int (if z = true then 1 else 0)) s) : ROk (kInt [.bl z] s) P := r_of rfl h
theorem r_abs {i : Int} {s : Store} {P : T → Store → Prop} (h : P (.int i.natAbs) s) : ROk (kAbs [.int i] s) P := r_of (a := .int i.natAbs) (s := s) (by
  unfold kAbs
  simp only
  congr 2
  split <;> omega) h
theorem dite_c {p : Prop} [Decidable p] {A B : Prop} (h1 : p → A) (h2 : ¬p → B) : if decide p = true then A else B := by
  by_cases h : p
  · rw [if_pos (decide_eq_true h)]; exact h1 h
  · rw [if_neg (by simp [h])]; exact h2 h
theorem dite_n {p : Prop} [Decidable p] {A B : Prop} (h1 : ¬p → A) (h2 : p → B) : if (!decide p) = true then A else B := by
  by_cases h : p
  · rw [if_neg (by simp [h])]; exact h2 h
  · rw [if_pos (by simp [h])]; exact h1 h
theorem bite_n {z : Bool} {A B : Prop} (h1 : z = false → A) (h2 : z = true → B) : if (!z) = true then A else B := by
  cases z
  · exact h1 rfl
  · exact h2 rfl
theorem le1000 {n : Nat} (h : n.ble 1000 = true) : n ≤ 1000 := Nat.le_of_ble_eq_true h
end Sh
namespace Sh
open PySem PySem.Spec PyProof.Rows L2 Mir
mutual
def dataT : T → PyData
  | .non => .none
  | .bl b => .bool b
  | .int i => .int i
  | .str s => .str s
  | .tup ts => .tuple (datasT ts)
  | .lst ts => .list (datasT ts)
  | .scr _ => .none
  | .tix _ => .none
  | .fn _ => .none
  | .ref _ => .none
def datasT : List T → List PyData
  | [] => []
  | t :: ts => dataT t :: datasT ts
end
mutual
def ddp : T → Nat
  | .tup ts => 1 + ddps ts
  | .lst ts => 1 + ddps ts
  | _ => 0
def ddps : List T → Nat
  | [] => 0
  | t :: ts => max (ddp t) (ddps ts)
end
mutual
theorem data_ok : ∀ t : T, alT t = true → snap0 t = some (dataT t) ∧ (dataT t).canLay0 = true ∧ (dataT t).depth ≤ ddp t
  | .non, _ => ⟨rfl, rfl, by simp [dataT, PyData.depth]⟩
  | .bl b, _ => ⟨rfl, rfl, by simp [dataT, PyData.depth]⟩
  | .int i, _ => ⟨rfl, rfl, by simp [dataT, PyData.depth]⟩
  | .str s, h => ⟨rfl, by
      have h : PyData.strOk s = true := h
      simpa [dataT, PyData.canLay0] using h, by simp [dataT, PyData.depth]⟩
  | .tup ts, h => by
    obtain ⟨h1, h2, h3⟩ := datas_ok ts h
    refine ⟨by unfold snap0; rw [h1]; rfl, by simpa [dataT, PyData.canLay0] using h2, ?_⟩
    simp only [dataT, PyData.depth, ddp]
    omega
  | .lst ts, h => by
    obtain ⟨h1, h2, h3⟩ := datas_ok ts h
    refine ⟨by unfold snap0; rw [h1]; rfl, by simpa [dataT, PyData.canLay0] using h2, ?_⟩
    simp only [dataT, PyData.depth, ddp]
    omega
  | .ref _, h => by cases h
  | .scr _, h => by cases h
  | .tix _, h => by cases h
  | .fn _, h => by cases h
theorem datas_ok : ∀ ts : List T, alTs ts = true → snaps ts = some (datasT ts) ∧ PyData.canLayAll0 (datasT ts) = true ∧ PyData.depthAll (datasT ts) ≤ ddps ts
  | [], _ => ⟨rfl, by simp [datasT, PyData.canLayAll0], by simp [datasT, PyData.depthAll]⟩
  | t :: ts, h => by
    have h : (alT t && alTs ts) = true := h
    rw [Bool.and_eq_true] at h
    obtain ⟨h1, h2, h3⟩ := data_ok t h.1
    obtain ⟨g1, g2, g3⟩ := datas_ok ts h.2
    refine ⟨by unfold snaps; rw [h1, g1]; rfl, by simp [datasT, PyData.canLayAll0, h2, g2], ?_⟩
    simp only [datasT, PyData.depthAll, ddps]
    omega
end
mutual
theorem eqv_self : ∀ t : T, PyData.eqv (dataT t) (dataT t) = true
  | .non => by simp [dataT, PyData.eqv]
  | .bl b => by simp [dataT, PyData.eqv]
  | .int i => by simp [dataT, PyData.eqv]
  | .str s => by simp [dataT, PyData.eqv]
  | .tup ts => by simp [dataT, PyData.eqv, eqvs_self ts]
  | .lst ts => by simp [dataT, PyData.eqv, eqvs_self ts]
  | .ref _ => by simp [dataT, PyData.eqv]
  | .scr _ => by simp [dataT, PyData.eqv]
  | .tix _ => by simp [dataT, PyData.eqv]
  | .fn _ => by simp [dataT, PyData.eqv]
theorem eqvs_self : ∀ ts : List T, PyData.eqvAll (datasT ts) (datasT ts) = true
  | [] => by simp [datasT, PyData.eqvAll]
  | t :: ts => by simp [datasT, PyData.eqvAll, eqv_self t, eqvs_self ts]
end
theorem snap_plain {t : T} {st : Store} (h : alT t = true) : snap t st = some (dataT t) := by
  have h0 := (data_ok t h).1
  unfold snap
  cases t <;> first | exact h0 | skip
  case lst ts =>
    have h1 := (datas_ok ts h).1
    simp only [Mir.listOf, lstOf, h1]
    rfl
  case ref => cases h
  case scr => cases h
theorem eq_plain {neg : Bool} {t u : T} {st : Store} (ht : alT t = true) (hu : alT u = true) (dt : ddp t ≤ 64) (du : ddp u ≤ 64) : kEq neg t u st = .ok (.bl (if neg then !PyData.eqv (dataT t) (dataT u) else PyData.eqv (dataT t) (dataT u))) st := by
  have hD : kEqD neg t u st = .ok (.bl (if neg then !PyData.eqv (dataT t) (dataT u) else PyData.eqv (dataT t) (dataT u))) st := by
    unfold kEqD
    rw [snap_plain ht, snap_plain hu]
    dsimp only
    obtain ⟨_, h2, h3⟩ := data_ok t ht
    obtain ⟨_, g2, g3⟩ := data_ok u hu
    rw [if_pos]
    unfold SeqAt.shaped
    rw [h2, g2]
    simp
    omega
  have hb : ∀ {α : Type} [DecidableEq α] (a b : α), decide (a = b) = (a == b) := fun a b => by
    by_cases h : a = b
    · subst h; simp
    · simp [h]
  unfold kEq
  split
  · simp [dataT, PyData.eqv, hb]
  · simp [dataT, PyData.eqv, hb]
  · simp [dataT, PyData.eqv, hb]
  · exact hD
theorem eq_same {t : T} {st : Store} (ht : alT t = true) (dt : ddp t ≤ 64) : kEq false t t st = .ok (.bl true) st := by
  rw [eq_plain ht ht dt dt, eqv_self]; rfl
theorem ddps_le {n : Nat} : ∀ {ts : List T}, (∀ t ∈ ts, ddp t ≤ n) → ddps ts ≤ n
  | [], _ => Nat.zero_le _
  | t :: ts, h => by
    have h1 := h t (by simp)
    have h2 := ddps_le (ts := ts) fun u hu => h u (by simp [hu])
    show max (ddp t) (ddps ts) ≤ n
    omega
theorem pairs_ddp (us : List (Int × Int)) : ddps (us.map pairI) ≤ 1 := ddps_le fun t ht => by
  obtain ⟨i, _, rfl⟩ := List.mem_map.mp ht
  exact Nat.le_refl _
end Sh
namespace Sh
open PySem PySem.Spec PyProof.Rows L2 Mir
end Sh
namespace Sh
open PySem PySem.Spec PyProof.Rows L2 Mir
local macro_rules | `(tactic| array_get_dec) => `(tactic| first
  | with_reducible refine sa_seq ?_ | with_reducible refine sa_set ?_ | with_reducible refine sa_ret ?_ | with_reducible refine sa_expr ?_ | with_reducible refine sa_next ?_ | with_reducible refine sa_if ?_ | with_reducible refine sa_par ?_ | with_reducible refine two_in ?_ | with_reducible refine sa_asg ?_
  | ((with_reducible apply r_v); rfl) | with_reducible refine r_c ?_ | with_reducible refine r_e2 ?_ | with_reducible refine r_eL ?_ | with_reducible refine r_e1 ?_ | with_reducible refine r_cons ?_ | with_reducible refine r_nil ?_
  | ((with_reducible refine r_cl ?_ ?_); rfl) | with_reducible refine r_tV ?_ | with_reducible refine r_bl ?_ | with_reducible refine r_if ?_ | with_reducible refine r_not ?_ | with_reducible refine r_cut ?_ | with_reducible refine r_oN ?_ | with_reducible refine r_oS ?_ | with_reducible refine r_in ?_ | with_reducible refine r_and' ?_ | with_reducible refine r_not' ?_ | with_reducible refine r_chain ?_
  | with_reducible refine r_add ?_ | with_reducible refine r_sub ?_ | with_reducible refine r_lt ?_ | with_reducible refine r_le ?_ | with_reducible refine r_gt ?_ | with_reducible refine r_ge ?_ | with_reducible refine r_eqI ?_ | with_reducible refine r_neI ?_ | with_reducible refine r_eqS ?_ | with_reducible refine r_neg ?_
  | ((with_reducible refine r_mod ?_ ?_); first | omega | decide) | ((with_reducible refine r_div ?_ ?_); first | omega | decide) | ((with_reducible refine r_mul ?_ ?_); first | omega | decide)
  | with_reducible refine r_lenT ?_ | with_reducible refine r_lenL ?_ | with_reducible refine r_lenIs ?_ | with_reducible refine r_lenRs ?_ | with_reducible refine r_cutTo ?_ | with_reducible refine r_cutFrom ?_ | with_reducible refine r_isN ?_ | with_reducible refine r_tupT ?_ | with_reducible refine r_tupL ?_ | with_reducible refine r_cutT ?_
  | ((with_reducible refine tupD_ok ?_ ?_); exact le1000 rfl) | ((with_reducible refine lstD_ok ?_ ?_); exact le1000 rfl) | with_reducible refine mkL_f ?_ | with_reducible refine mkL_t ?_ | with_reducible refine gN_ok ?_ | with_reducible refine g_two ?_ | with_reducible refine s_sub ?_)
theorem ix_tup {s : Store} {ts : List T} {i : Int} {v : T} {P : T → Store → Prop} (h0 : 0 ≤ i) (hv : ts[i.toNat]? = some v) (q : P v s) : ROk (kIx (.tup ts) (.int i) s) P :=
  ix_at (ts := ts) rfl (atI_of h0 hv) q
end Sh
namespace Sh
open PySem PySem.Spec PyProof.Rows L2 Mir
end Sh
namespace ShR
open PySem PySem.Spec PyProof.Rows L2 Mir Sh
local macro_rules | `(tactic| array_get_dec) => `(tactic| first
  | with_reducible refine sa_seq ?_ | with_reducible refine sa_set ?_ | with_reducible refine sa_ret ?_ | with_reducible refine sa_expr ?_ | with_reducible refine sa_next ?_ | with_reducible refine sa_if ?_ | with_reducible refine sa_par ?_ | with_reducible refine two_in ?_ | with_reducible refine sa_asg ?_
  | ((with_reducible apply r_v); rfl) | with_reducible refine r_c ?_ | with_reducible refine r_e2 ?_ | with_reducible refine r_eL ?_ | with_reducible refine r_e1 ?_ | with_reducible refine r_cons ?_ | with_reducible refine r_nil ?_
  | ((with_reducible refine r_cl ?_ ?_); rfl) | with_reducible refine r_tV ?_ | with_reducible refine r_bl ?_ | with_reducible refine r_if ?_ | with_reducible refine r_not ?_ | with_reducible refine r_cut ?_ | with_reducible refine r_oN ?_ | with_reducible refine r_oS ?_ | with_reducible refine r_in ?_ | with_reducible refine r_and' ?_ | with_reducible refine r_not' ?_ | with_reducible refine r_chain ?_
  | with_reducible refine r_add ?_ | with_reducible refine r_sub ?_ | with_reducible refine r_lt ?_ | with_reducible refine r_le ?_ | with_reducible refine r_gt ?_ | with_reducible refine r_ge ?_ | with_reducible refine r_eqI ?_ | with_reducible refine r_neI ?_ | with_reducible refine r_eqS ?_ | with_reducible refine r_neg ?_
  | ((with_reducible refine r_mod ?_ ?_); first | omega | decide) | ((with_reducible refine r_div ?_ ?_); first | omega | decide) | ((with_reducible refine r_mul ?_ ?_); first | omega | decide)
  | with_reducible refine r_lenT ?_ | with_reducible refine r_lenL ?_ | with_reducible refine r_lenIs ?_ | with_reducible refine r_lenRs ?_ | with_reducible refine r_cutTo ?_ | with_reducible refine r_cutFrom ?_ | with_reducible refine r_isN ?_ | with_reducible refine r_tupT ?_ | with_reducible refine r_tupL ?_ | with_reducible refine r_cutT ?_
  | ((with_reducible refine tupD_ok ?_ ?_); exact le1000 rfl) | ((with_reducible refine lstD_ok ?_ ?_); exact le1000 rfl) | with_reducible refine mkL_f ?_ | with_reducible refine mkL_t ?_ | with_reducible refine gN_ok ?_ | with_reducible refine g_two ?_ | with_reducible refine s_sub ?_)
end ShR
namespace Sh
open PySem PySem.Spec PyProof.Rows L2 Mir
local macro_rules | `(tactic| array_get_dec) => `(tactic| first
  | with_reducible refine sa_seq ?_ | with_reducible refine sa_set ?_ | with_reducible refine sa_ret ?_ | with_reducible refine sa_expr ?_ | with_reducible refine sa_next ?_ | with_reducible refine sa_if ?_ | with_reducible refine sa_par ?_ | with_reducible refine two_in ?_ | with_reducible refine sa_asg ?_
  | ((with_reducible apply r_v); rfl) | with_reducible refine r_c ?_ | with_reducible refine r_e2 ?_ | with_reducible refine r_eL ?_ | with_reducible refine r_e1 ?_ | with_reducible refine r_cons ?_ | with_reducible refine r_nil ?_
  | ((with_reducible refine r_cl ?_ ?_); rfl) | with_reducible refine r_tV ?_ | with_reducible refine r_bl ?_ | with_reducible refine r_if ?_ | with_reducible refine r_not ?_ | with_reducible refine r_cut ?_ | with_reducible refine r_oN ?_ | with_reducible refine r_oS ?_ | with_reducible refine r_in ?_ | with_reducible refine r_and' ?_ | with_reducible refine r_not' ?_ | with_reducible refine r_chain ?_
  | with_reducible refine r_add ?_ | with_reducible refine r_sub ?_ | with_reducible refine r_lt ?_ | with_reducible refine r_le ?_ | with_reducible refine r_gt ?_ | with_reducible refine r_ge ?_ | with_reducible refine r_eqI ?_ | with_reducible refine r_neI ?_ | with_reducible refine r_eqS ?_ | with_reducible refine r_neg ?_
  | ((with_reducible refine r_mod ?_ ?_); first | omega | decide) | ((with_reducible refine r_div ?_ ?_); first | omega | decide) | ((with_reducible refine r_mul ?_ ?_); first | omega | decide)
  | with_reducible refine r_lenT ?_ | with_reducible refine r_lenL ?_ | with_reducible refine r_lenIs ?_ | with_reducible refine r_lenRs ?_ | with_reducible refine r_cutTo ?_ | with_reducible refine r_cutFrom ?_ | with_reducible refine r_isN ?_ | with_reducible refine r_tupT ?_ | with_reducible refine r_tupL ?_ | with_reducible refine r_cutT ?_
  | ((with_reducible refine tupD_ok ?_ ?_); exact le1000 rfl) | ((with_reducible refine lstD_ok ?_ ?_); exact le1000 rfl) | with_reducible refine mkL_f ?_ | with_reducible refine mkL_t ?_ | with_reducible refine gN_ok ?_ | with_reducible refine g_two ?_ | with_reducible refine s_sub ?_
  | ((with_reducible refine ite_t ?_ ?_); first | (with_reducible rfl) | decide +kernel | rfl) | ((with_reducible refine ite_f ?_ ?_); first | (with_reducible rfl) | decide +kernel | rfl) | with_reducible refine r_and2 ?_ | with_reducible refine r_or2 ?_ | with_reducible refine r_intB ?_ | with_reducible refine r_abs ?_)
noncomputable def m_is_tuple_of : MS := sRet (eAnd (e1 (kIsi "tuple") (eVar 0)) (e2 (kEq false) (eL kLen (aCons (eVar 0) (aNil))) (eVar 1)))
noncomputable def f_is_tuple_of : List T → M T := popS (defM 2 2 m_is_tuple_of)
noncomputable def m_is_whole : MS := sRet (eAnd (e1 (kIsi "int") (eVar 0)) (eNot (e1 (kIsi "bool") (eVar 0))))
noncomputable def f_is_whole : List T → M T := popS (defM 1 1 m_is_whole)
noncomputable def m_is_below : MS := sRet (eAnd (eL (callM 1 f_is_whole) (aCons (eVar 0) (aNil))) (eChain (kLe) (kLt) (eC (.int 0)) (eVar 0) (eVar 1)))
noncomputable def f_is_below : List T → M T := popS (defM 2 2 m_is_below)
section
variable {st : Store}
def lenIs (n : Int) : T → Bool
  | .tup ts => decide ((ts.length : Int) = n)
  | _ => false
def isIntT : T → Bool
  | .int _ => true
  | _ => false
def belowT (n : Int) : T → Bool
  | .int i => decide (0 ≤ i ∧ i < n)
  | _ => false
theorem tuple_of_spec (hw : Wf st) {t : T} (h : alT t = true) (n : Int) : f_is_tuple_of [t, .int n] st = .ok (.bl (lenIs n t)) st := by
  refine pop_pure hw ?_
  show SA (m_is_tuple_of [some t, some (.int n)] st) _ _ _
  unfold m_is_tuple_of
  cases t with
  | tup ts =>
    repeat array_get_dec
    refine r_of (a := .bl true) (s := st) rfl ?_
    repeat array_get_dec
    exact ⟨List.take_length, rfl⟩
  | ref n => cases h
  | scr n => cases h
  | tix n => cases h
  | fn n => cases h
  | _ =>
    all_goals
      repeat array_get_dec
      refine r_of (a := .bl false) (s := st) rfl ?_
      repeat array_get_dec
      exact ⟨List.take_length, rfl⟩
theorem whole_spec (hw : Wf st) {t : T} (h : alT t = true) : f_is_whole [t] st = .ok (.bl (isIntT t)) st := by
  refine pop_pure hw ?_
  show SA (m_is_whole [some t] st) _ _ _
  unfold m_is_whole
  cases t with
  | int i =>
    repeat array_get_dec
    refine r_of (a := .bl true) (s := st) rfl ?_
    repeat array_get_dec
    refine r_of (a := .bl false) (s := st) rfl ?_
    repeat array_get_dec
    exact ⟨List.take_length, rfl⟩
  | bl i =>
    repeat array_get_dec
    refine r_of (a := .bl true) (s := st) rfl ?_
    repeat array_get_dec
    refine r_of (a := .bl true) (s := st) rfl ?_
    repeat array_get_dec
    exact ⟨List.take_length, rfl⟩
  | ref n => cases h
  | scr n => cases h
  | tix n => cases h
  | fn n => cases h
  | _ =>
    all_goals
      repeat array_get_dec
      refine r_of (a := .bl false) (s := st) rfl ?_
      repeat array_get_dec
      exact ⟨List.take_length, rfl⟩
theorem below_spec (hw : Wf st) {t : T} (h : alT t = true) (n : Int) : f_is_below [t, .int n] st = .ok (.bl (belowT n t)) st := by
  refine pop_pure hw ?_
  show SA (m_is_below [some t, .some (.int n)] st) _ _ _
  unfold m_is_below
  have e := whole_spec hw h
  cases t with
  | int i =>
    repeat array_get_dec
    refine r_of e ?_
    repeat array_get_dec
    refine dite_c (fun h1 => ?_) fun h1 => ?_
    · repeat array_get_dec
      refine ⟨List.take_length, ?_⟩
      show some (T.bl (decide (i < n))) = some (.bl (decide (0 ≤ i ∧ i < n)))
      congr 2
      exact decide_eq_decide.mpr ⟨fun h => ⟨h1, h⟩, fun h => h.2⟩
    · refine ⟨List.take_length, ?_⟩
      show some (T.bl false) = some (.bl (decide (0 ≤ i ∧ i < n)))
      rw [decide_eq_false (by omega)]
  | ref n => cases h
  | scr n => cases h
  | tix n => cases h
  | fn n => cases h
  | _ =>
    all_goals
      repeat array_get_dec
      refine r_of e ?_
      repeat array_get_dec
      exact ⟨List.take_length, rfl⟩
end
theorem g_three {g1 g2 g3 : MG} {a b c : T} {e : Mir.Env} {s : Store} {Q : Mir.Env → Store → Prop} (h : SNx (g1 a e s) fun e1 s1 => SNx (g2 b e1 s1) fun e2 s2 => SNx (g3 c e2 s2) Q) : SNx (gT 3 (gsCons g1 (gsCons g2 (gsCons g3 gsNil))) (.tup [a, b, c]) e s) Q := by
  obtain ⟨e1, s1, h1, e2, s2, h2, e3, s3, h3, q⟩ := h
  refine ⟨e3, s3, ?_, q⟩
  show gsCons g1 (gsCons g2 (gsCons g3 gsNil)) [a, b, c] e s = _
  simp only [gsCons, h1, RS.seq, h2, h3]
  rfl
section
variable {st : Store} {w : List Int}
theorem drop_get {α : Type} {ts : List α} {i : Nat} {t : α} (h : ts[i]? = some t) : ts.drop i = t :: ts.drop (i + 1) := by
  have hil := (List.getElem?_eq_some_iff.mp h).1
  rw [List.drop_eq_getElem_cons hil, (List.getElem?_eq_some_iff.mp h).2]
end
theorem r_ixL {L : List T} {i : Int} {s : Store} {P : T → Store → Prop} (h0 : 0 ≤ i) (h1 : i < L.length) (q : ∀ x ∈ L, P x s) : ROk (kIx (.lst L) (.int i) s) P := by
  have hl : i.toNat < L.length := by omega
  exact ix_at (ts := L) (v := L[i.toNat]) rfl (atI_of h0 (List.getElem?_eq_getElem hl)) (q _ (List.getElem_mem hl))
end Sh
namespace Sh
open PySem PySem.Spec PyProof.Rows L2 Mir
local macro_rules | `(tactic| array_get_dec) => `(tactic| first
  | with_reducible refine sa_seq ?_ | with_reducible refine sa_set ?_ | with_reducible refine sa_ret ?_ | with_reducible refine sa_expr ?_ | with_reducible refine sa_next ?_ | with_reducible refine sa_if ?_ | with_reducible refine sa_par ?_ | with_reducible refine two_in ?_ | with_reducible refine sa_asg ?_
  | ((with_reducible apply r_v); rfl) | with_reducible refine r_c ?_ | with_reducible refine r_e2 ?_ | with_reducible refine r_eL ?_ | with_reducible refine r_e1 ?_ | with_reducible refine r_cons ?_ | with_reducible refine r_nil ?_
  | ((with_reducible refine r_cl ?_ ?_); rfl) | with_reducible refine r_tV ?_ | with_reducible refine r_bl ?_ | with_reducible refine r_if ?_ | with_reducible refine r_not ?_ | with_reducible refine r_cut ?_ | with_reducible refine r_oN ?_ | with_reducible refine r_oS ?_ | with_reducible refine r_in ?_ | with_reducible refine r_and' ?_ | with_reducible refine r_not' ?_ | with_reducible refine r_chain ?_
  | with_reducible refine r_add ?_ | with_reducible refine r_sub ?_ | with_reducible refine r_lt ?_ | with_reducible refine r_le ?_ | with_reducible refine r_gt ?_ | with_reducible refine r_ge ?_ | with_reducible refine r_eqI ?_ | with_reducible refine r_neI ?_ | with_reducible refine r_eqS ?_ | with_reducible refine r_neg ?_
  | ((with_reducible refine r_mod ?_ ?_); first | omega | decide) | ((with_reducible refine r_div ?_ ?_); first | omega | decide) | ((with_reducible refine r_mul ?_ ?_); first | omega | decide)
  | with_reducible refine r_lenT ?_ | with_reducible refine r_lenL ?_ | with_reducible refine r_lenIs ?_ | with_reducible refine r_lenRs ?_ | with_reducible refine r_cutTo ?_ | with_reducible refine r_cutFrom ?_ | with_reducible refine r_isN ?_ | with_reducible refine r_tupT ?_ | with_reducible refine r_tupL ?_ | with_reducible refine r_cutT ?_
  | ((with_reducible refine tupD_ok ?_ ?_); exact le1000 rfl) | ((with_reducible refine lstD_ok ?_ ?_); exact le1000 rfl) | with_reducible refine mkL_f ?_ | with_reducible refine mkL_t ?_ | with_reducible refine gN_ok ?_ | with_reducible refine g_two ?_ | with_reducible refine s_sub ?_
  | ((with_reducible refine ite_t ?_ ?_); first | (with_reducible rfl) | decide +kernel | rfl) | ((with_reducible refine ite_f ?_ ?_); first | (with_reducible rfl) | decide +kernel | rfl) | with_reducible refine r_and2 ?_ | with_reducible refine r_or2 ?_ | with_reducible refine r_intB ?_ | with_reducible refine r_abs ?_)
mutual
def wbT (n : Nat) : T → Bool
  | .tup ts => decide (ts.length ≤ n) && wbTs n ts
  | .lst _ => false
  | _ => true
def wbTs (n : Nat) : List T → Bool
  | [] => true
  | t :: ts => wbT n t && wbTs n ts
end
theorem wbTs_iff {n : Nat} : ∀ {ts : List T}, wbTs n ts = true ↔ ∀ t ∈ ts, wbT n t = true
  | [] => by simp [wbTs]
  | t :: ts => by
    show (wbT n t && wbTs n ts) = true ↔ _
    rw [Bool.and_eq_true, wbTs_iff]; simp
def Th (n : Nat) (t : T) : Prop := alT t = true ∧ wbT n t = true
theorem th_tup {n : Nat} {ts : List T} : Th n (.tup ts) ↔ ts.length ≤ n ∧ ∀ t ∈ ts, Th n t := by
  constructor
  · rintro ⟨h1, h2⟩
    have h2 : (decide (ts.length ≤ n) && wbTs n ts) = true := h2
    rw [Bool.and_eq_true, decide_eq_true_iff] at h2
    exact ⟨h2.1, fun t ht => ⟨alTs_iff.mp h1 t ht, wbTs_iff.mp h2.2 t ht⟩⟩
  · rintro ⟨h1, h2⟩
    refine ⟨alTs_iff.mpr fun t ht => (h2 t ht).1, ?_⟩
    show (decide (ts.length ≤ n) && wbTs n ts) = true
    rw [Bool.and_eq_true, decide_eq_true_iff]
    exact ⟨h1, wbTs_iff.mpr fun t ht => (h2 t ht).2⟩
theorem Th.plain {n : Nat} {t : T} (h : Th n t) : t.isBelow 0 = true := al_plain _ h.1
def isTupB : T → Bool
  | .tup _ => true
  | _ => false
theorem isi_tup {t : T} {s : Store} (h : alT t = true) : kIsi "tuple" t s = .ok (.bl (isTupB t)) s := by
  cases t <;> first | (cases h; done) | rfl
end Sh
namespace Sh
open PySem PySem.Spec PyProof.Rows L2 Mir
local macro_rules | `(tactic| array_get_dec) => `(tactic| first
  | with_reducible refine sa_seq ?_ | with_reducible refine sa_set ?_ | with_reducible refine sa_ret ?_ | with_reducible refine sa_expr ?_ | with_reducible refine sa_next ?_ | with_reducible refine sa_if ?_ | with_reducible refine sa_par ?_ | with_reducible refine two_in ?_ | with_reducible refine sa_asg ?_
  | ((with_reducible apply r_v); rfl) | with_reducible refine r_c ?_ | with_reducible refine r_e2 ?_ | with_reducible refine r_eL ?_ | with_reducible refine r_e1 ?_ | with_reducible refine r_cons ?_ | with_reducible refine r_nil ?_
  | ((with_reducible refine r_cl ?_ ?_); rfl) | with_reducible refine r_tV ?_ | with_reducible refine r_bl ?_ | with_reducible refine r_if ?_ | with_reducible refine r_not ?_ | with_reducible refine r_cut ?_ | with_reducible refine r_oN ?_ | with_reducible refine r_oS ?_ | with_reducible refine r_in ?_ | with_reducible refine r_and' ?_ | with_reducible refine r_not' ?_ | with_reducible refine r_chain ?_
  | with_reducible refine r_add ?_ | with_reducible refine r_sub ?_ | with_reducible refine r_lt ?_ | with_reducible refine r_le ?_ | with_reducible refine r_gt ?_ | with_reducible refine r_ge ?_ | with_reducible refine r_eqI ?_ | with_reducible refine r_neI ?_ | with_reducible refine r_eqS ?_ | with_reducible refine r_neg ?_
  | ((with_reducible refine r_mod ?_ ?_); first | omega | decide) | ((with_reducible refine r_div ?_ ?_); first | omega | decide) | ((with_reducible refine r_mul ?_ ?_); first | omega | decide)
  | with_reducible refine r_lenT ?_ | with_reducible refine r_lenL ?_ | with_reducible refine r_lenIs ?_ | with_reducible refine r_lenRs ?_ | with_reducible refine r_cutTo ?_ | with_reducible refine r_cutFrom ?_ | with_reducible refine r_isN ?_ | with_reducible refine r_tupT ?_ | with_reducible refine r_tupL ?_ | with_reducible refine r_cutT ?_
  | ((with_reducible refine tupD_ok ?_ ?_); exact le1000 rfl) | ((with_reducible refine lstD_ok ?_ ?_); exact le1000 rfl) | with_reducible refine mkL_f ?_ | with_reducible refine mkL_t ?_ | with_reducible refine gN_ok ?_ | with_reducible refine g_two ?_ | with_reducible refine s_sub ?_
  | ((with_reducible refine ite_t ?_ ?_); first | (with_reducible rfl) | decide +kernel | rfl) | ((with_reducible refine ite_f ?_ ?_); first | (with_reducible rfl) | decide +kernel | rfl) | with_reducible refine r_and2 ?_ | with_reducible refine r_or2 ?_ | with_reducible refine r_intB ?_ | with_reducible refine r_abs ?_)
section
variable {m z : Nat} {ps : List Int} {tbs : List (List (Int × Int))} {st : Store} {d l : Nat}
theorem lenIs_no {t : T} (h : ¬ ∃ a b, t = .tup [a, b]) : lenIs 2 t = false := by
  cases t with
  | tup ts =>
    refine decide_eq_false fun e => h ?_
    match ts, e with
    | [], e => simp at e
    | [_], e => simp at e
    | [a, b], _ => exact ⟨a, b, rfl⟩
    | _ :: _ :: _ :: _, e => simp at e; omega
  | _ => all_goals rfl
end
noncomputable def m_look_paces : MS := sSeq (sIf (tOrM (tNotM (tV (e1 (kIsi "tuple") (eVar 0)))) (tNotM (tV (eChain (kLe) (kLe) (eC (.int 1)) (eL kLen (aCons (eVar 0) (aNil))) (eC (.int 5)))))) (sRaise "NoBook" ["word", "at"] (aCons (eC (.str "paces")) (aCons (eC (.int 0)) (aNil)))) (sNext)) (
    sFor (iEnumA (eVar 0)) (gT 2 (gsCons (gN 1) (gsCons (gN 2) (gsNil)))) (sSeq (sIf (tOrM (tNotM (tV (eL (callM 1 f_is_whole) (aCons (eVar 2) (aNil))))) (tNotM (tV (eChain (kLe) (kLe) (e1 kNeg (eC (.int 1000))) (eVar 2) (eC (.int 1000)))))) (sRaise "NoBook" ["word", "at"] (aCons (eC (.str "paces")) (aCons (eVar 1) (aNil)))) (sNext)) (
    sIf (tAndM (tV (e2 (kGt) (eVar 1) (eC (.int 0)))) (tV (e2 (kLe) (eVar 2) (e2 kIx (eVar 0) (e2 kSub (eVar 1) (eC (.int 1))))))) (sRaise "NoBook" ["word", "at"] (aCons (eC (.str "paces")) (aCons (eVar 1) (aNil)))) (sNext))))
noncomputable def f_look_paces : List T → M T := popS (defM 1 3 m_look_paces)
noncomputable def m_look_table : MS := sSeq (sIf (tNotM (tV (eL (callM 2 f_is_tuple_of) (aCons (eVar 1) (aCons (e2 (kMul false) (eVar 2) (eVar 2)) (aNil)))))) (sRaise "NoBook" ["word", "at"] (aCons (eC (.str "table")) (aCons (eVar 0) (aNil)))) (sNext)) (
    sFor (iEnumA (eVar 1)) (gT 2 (gsCons (gN 3) (gsCons (gN 4) (gsNil)))) (sIf (tOrM (tNotM (tV (eL (callM 2 f_is_tuple_of) (aCons (eVar 4) (aCons (eC (.int 2)) (aNil)))))) (tNotM (tV (eL kAll (aCons (eComp false (iAny (eVar 4)) (.name 5) (tYesM) [5] (compK1 (eL (callM 2 f_is_below) (aCons (eVar 5) (aCons (eVar 2) (aNil)))))) (aNil)))))) (sRaise "NoBook" ["word", "at"] (aCons (eC (.str "pair")) (aCons (e2 (kAdd false) (e2 (kMul false) (e2 (kMul false) (eVar 0) (eVar 2)) (eVar 2)) (eVar 3)) (aNil)))) (sNext)))
noncomputable def f_look_table : List T → M T := popS (defM 3 6 m_look_table)
noncomputable def m_look_book : MS := sSeq (sIf (tNotM (tV (eL (callM 2 f_is_tuple_of) (aCons (eVar 0) (aCons (eC (.int 3)) (aNil)))))) (sRaise "NoBook" ["word", "at"] (aCons (eC (.str "form")) (aCons (eC (.int 0)) (aNil)))) (sNext)) (
    sSeq (sAsg (eVar 0) (gT 3 (gsCons (gN 1) (gsCons (gN 2) (gsCons (gN 3) (gsNil)))))) (
    sSeq (sExpr (eL (callM 1 f_look_paces) (aCons (eVar 1) (aNil)))) (
    sSeq (sIf (tOrM (tNotM (tV (eL (callM 1 f_is_whole) (aCons (eVar 2) (aNil))))) (tNotM (tV (eChain (kLe) (kLe) (eC (.int 1)) (eVar 2) (eC (.int 6)))))) (sRaise "NoBook" ["word", "at"] (aCons (eC (.str "sorts")) (aCons (eC (.int 0)) (aNil)))) (sNext)) (
    sSeq (sIf (tNotM (tV (eL (callM 2 f_is_tuple_of) (aCons (eVar 3) (aCons (e2 kDiv (e2 (kMul false) (eL kLen (aCons (eVar 1) (aNil))) (e2 kSub (eL kLen (aCons (eVar 1) (aNil))) (eC (.int 1)))) (eC (.int 2))) (aNil)))))) (sRaise "NoBook" ["word", "at"] (aCons (eC (.str "tables")) (aCons (eC (.int 0)) (aNil)))) (sNext)) (
    sSeq (sFor (iEnumA (eVar 3)) (gT 2 (gsCons (gN 4) (gsCons (gN 5) (gsNil)))) (sExpr (eL (callM 3 f_look_table) (aCons (eVar 4) (aCons (eVar 5) (aCons (eVar 2) (aNil))))))) (
    sRet (eC (.bl true))))))))
noncomputable def f_look_book : List T → M T := popS (defM 1 6 m_look_book)
def pacesW : Option Int → List T → Nat → Option Nat
  | _, [], _ => none
  | pr, t :: ts, k => match t with
    | .int i => if -1000 ≤ i ∧ i ≤ 1000 then (match pr with
      | some p => if i ≤ p then some k else pacesW (some i) ts (k + 1)
      | none => pacesW (some i) ts (k + 1)) else some k
    | _ => some k
def pacesR : T → Option Nat
  | .tup ts => if 1 ≤ ts.length ∧ ts.length ≤ 5 then pacesW none ts 0 else some 0
  | _ => some 0
def pairB (z : Int) : T → Bool
  | .tup [a, b] => belowT z a && belowT z b
  | _ => false
def tabW (z : Int) : List T → Nat → Option Nat
  | [], _ => none
  | t :: ts, n => if pairB z t = true then tabW z ts (n + 1) else some n
def itemsT : T → List T
  | .tup ts => ts
  | _ => []
def noBook (p : Str × Int) : Ex := ⟨"NoBook", [("at", .int p.2), ("word", .str p.1)]⟩
theorem pacesW_int {pr : Option Int} {i : Int} {ts : List T} {k : Nat} : pacesW pr (.int i :: ts) k = if -1000 ≤ i ∧ i ≤ 1000 then (match pr with
      | some p => if i ≤ p then some k else pacesW (some i) ts (k + 1)
      | none => pacesW (some i) ts (k + 1)) else some k := rfl
theorem pacesW_no {pr : Option Int} {t : T} {ts : List T} {k : Nat} (h : isIntT t = false) : pacesW pr (t :: ts) k = some k := by
  cases t <;> first | rfl | cases h
section
variable {st : Store}
def PrevI (ts : List T) (i : Nat) : Option Int → Prop
  | none => i = 0
  | some p => 0 < i ∧ ts[i - 1]? = some (.int p)
theorem look_paces_spec (hw : Wf st) {t : T} (h : alT t = true) : f_look_paces [t] st = (match pacesR t with | none => .ok .non st | some k => .exc (noBook ("paces", k)) st) := by
  suffices H : ∀ R, pacesR t = R → f_look_paces [t] st = (match R with | none => .ok .non st | some k => .exc (noBook (("paces" : Str), (k : Int))) st) from H _ rfl
  intro R hR
  have key : RK (f_look_paces [t] st) (fun u s => R = none ∧ u = .non ∧ s = st) fun x s => ∃ k : Nat, R = some k ∧ x = noBook (("paces" : Str), (k : Int)) ∧ s = st := by
    refine pop_sa (sa_imp (Q' := fun _ s => R = none ∧ s = st) (P' := fun _ _ => False) (E' := fun x _ s => ∃ k : Nat, R = some k ∧ x = noBook (("paces" : Str), (k : Int)) ∧ s = st) ?_ ?_ (fun _ _ h => h.elim) ?_)
    · show SA (m_look_paces [some t, none, none] st) _ _ _
      unfold m_look_paces
      by_cases ht : ∃ ts, t = .tup ts
      · obtain ⟨ts, rfl⟩ := ht
        have hR' : (if 1 ≤ ts.length ∧ ts.length ≤ 5 then pacesW none ts 0 else some 0) = R := hR
        by_cases hlen : 1 ≤ ts.length ∧ ts.length ≤ 5
        · rw [if_pos hlen] at hR'
          refine sa_seq (sa_if (r_or2 (r_not (r_tV (r_e1 (r_v rfl (r_of (isi_tup h) (r_bl (ite_f rfl ?_)))))))))
          refine r_not (r_tV (r_chain (r_c (r_eL (r_cons (r_v rfl (r_nil (r_lenT (r_le (r_bl (dite_c (fun _ => ?_) fun z => absurd (show (1 : Int) ≤ ts.length by omega) z)))))))))))
          refine r_c (r_le (r_bl (dite_n (fun z => absurd (show (ts.length : Int) ≤ 5 by omega) z) fun _ => sa_next ?_)))
          have hen : iEnumA (eVar 0) [some (.tup ts), none, none] st = .ok ⟨enumT ts, fun _ => True⟩ st := rfl
          refine sa_for (r_of hen ⟨fun i e s => ∃ a b pr, e = [some (.tup ts), a, b] ∧ s = st ∧ PrevI ts i pr ∧ R = pacesW pr (ts.drop i) i, ⟨none, none, none, rfl, rfl, rfl, hR'.symm⟩, fun _ _ _ _ => trivial, ?_, ?_⟩)
          · rintro i t e s ht ⟨a, b, pr, rfl, rfl, hpr, hX⟩
            obtain ⟨u, hu, rfl⟩ := enumT_get ht
            have hua : alT u = true := alTs_iff.mp h u (List.mem_of_getElem? hu)
            rw [drop_get hu] at hX
            refine ⟨[some (.tup ts), some (.int i), some u], s, by simp [gT, gsCons, gsNil, gN, RS.seq], ?_⟩
            have wu := whole_spec hw hua
            cases hi : isIntT u with
            | false =>
              rw [pacesW_no hi] at hX
              rw [hi] at wu
              repeat array_get_dec
              refine r_of wu ?_
              refine r_bl ?_
              refine ite_t rfl ?_
              refine ite_t rfl ?_
              exact sa_raise (r_cons (r_c (r_cons (r_v rfl (r_nil ⟨rfl, i, hX, rfl, rfl⟩)))))
            | true =>
              obtain ⟨v, rfl⟩ : ∃ v, u = .int v := by cases u <;> first | exact ⟨_, rfl⟩ | cases hi
              rw [pacesW_int] at hX
              rw [hi] at wu
              have bad : ¬ (-1000 ≤ v ∧ v ≤ 1000) → SA (sRaise "NoBook" ["word", "at"] (aCons (eC (.str "paces")) (aCons (eVar 1) (aNil))) [some (.tup ts), some (.int i), some (.int v)] s) (fun e s => SA (sIf (tAndM (tV (e2 (kGt) (eVar 1) (eC (.int 0)))) (tV (e2 (kLe) (eVar 2) (e2 kIx (eVar 0) (e2 kSub (eVar 1) (eC (.int 1))))))) (sRaise "NoBook" ["word", "at"] (aCons (eC (.str "paces")) (aCons (eVar 1) (aNil)))) (sNext) e s) (fun e s' => ∃ a b pr, e = [some (.tup ts), a, b] ∧ s' = s ∧ PrevI ts (i + 1) pr ∧ R = pacesW pr (ts.drop (i + 1)) (i + 1)) (fun _ _ => False) fun x _ s' => ∃ k : Nat, R = some k ∧ x = noBook (("paces" : Str), (k : Int)) ∧ s' = s) (fun _ _ => False) fun x _ s' => ∃ k : Nat, R = some k ∧ x = noBook (("paces" : Str), (k : Int)) ∧ s' = s := fun hb => by
                rw [if_neg hb] at hX
                exact sa_raise (r_cons (r_c (r_cons (r_v rfl (r_nil ⟨rfl, i, hX, rfl, rfl⟩)))))
              refine sa_seq (sa_if (r_or2 (r_not (r_tV (r_eL (r_cons (r_v rfl (r_nil (r_cl rfl (r_of wu (r_bl (ite_f rfl ?_))))))))))))
              refine r_not (r_tV (r_chain (r_e1 (r_c (r_neg (r_v rfl (r_le (r_bl (dite_c (fun h1 => ?_) fun h1 => ?_)))))))))
              · refine r_c (r_le (r_bl (dite_n (fun h2 => ?_) fun h2 => ?_)))
                · exact bad fun z => h2 z.2
                · rw [if_pos ⟨by omega, h2⟩] at hX
                  refine sa_next ?_
                  cases pr with
                  | none =>
                    have hi0 : i = 0 := hpr
                    subst hi0
                    refine sa_if (r_and2 (r_tV (r_e2 (r_v rfl (r_c (r_gt (r_bl (ite_f rfl (ite_f rfl (sa_next ?_))))))))))
                    exact ⟨_, _, some v, rfl, rfl, ⟨by omega, hu⟩, hX⟩
                  | some p =>
                    obtain ⟨hi0, hp⟩ := hpr
                    refine sa_if (r_and2 (r_tV (r_e2 (r_v rfl (r_c (r_gt (r_bl (dite_c (fun _ => ?_) fun z => absurd (show (0 : Int) < i by omega) z))))))))
                    refine r_tV (r_e2 (r_v rfl (r_e2 (r_v rfl (r_e2 (r_v rfl (r_c (r_sub (ix_tup (by omega) (by rw [show ((i : Int) - 1).toNat = i - 1 by omega]; exact hp) (r_le (r_bl (dite_c (fun h3 => ?_) fun h3 => ?_))))))))))))
                    · have hX : R = if v ≤ p then some i else pacesW (some v) (ts.drop (i + 1)) (i + 1) := hX
                      rw [if_pos h3] at hX
                      exact sa_raise (r_cons (r_c (r_cons (r_v rfl (r_nil ⟨rfl, i, hX, rfl, rfl⟩)))))
                    · have hX : R = if v ≤ p then some i else pacesW (some v) (ts.drop (i + 1)) (i + 1) := hX
                      rw [if_neg h3] at hX
                      exact sa_next ⟨_, _, some v, rfl, rfl, ⟨by omega, hu⟩, hX⟩
              · refine r_bl ?_
                refine ite_t rfl ?_
                exact bad fun z => h1 (by omega)
          · rintro e s ⟨a, b, pr, rfl, rfl, hpr, hX⟩
            have hX : R = pacesW pr (ts.drop (enumT ts).length) (enumT ts).length := hX
            rw [enumT_len, List.drop_length] at hX
            exact ⟨hX, rfl⟩
        · rw [if_neg hlen] at hR'
          have rs : SA (sRaise "NoBook" ["word", "at"] (aCons (eC (.str "paces")) (aCons (eC (.int 0)) (aNil))) [some (.tup ts), none, none] st) (fun _ _ => False) (fun _ _ => False) (fun x _ s => ∃ k : Nat, R = some k ∧ x = noBook (("paces" : Str), (k : Int)) ∧ s = st) :=
            sa_raise (r_cons (r_c (r_cons (r_c (r_nil ⟨rfl, 0, hR'.symm, rfl, rfl⟩)))))
          refine sa_seq (sa_if (r_or2 (r_not (r_tV (r_e1 (r_v rfl (r_of (isi_tup h) (r_bl (ite_f rfl ?_)))))))))
          refine r_not (r_tV (r_chain (r_c (r_eL (r_cons (r_v rfl (r_nil (r_lenT (r_le (r_bl (dite_c (fun h1 => ?_) fun h1 => ?_)))))))))))
          · refine r_c (r_le (r_bl (dite_n (fun _ => ?_) fun z => absurd (show 1 ≤ ts.length ∧ ts.length ≤ 5 by omega) hlen)))
            exact sa_imp rs (fun _ _ h => h.elim) (fun _ _ h => h.elim) fun _ _ _ h => h
          · refine r_bl ?_
            refine ite_t rfl ?_
            exact sa_imp rs (fun _ _ h => h.elim) (fun _ _ h => h.elim) fun _ _ _ h => h
      · have e := isi_tup (s := st) h
        have e2 : isTupB t = false := by cases t <;> first | rfl | exact absurd ⟨_, rfl⟩ ht
        rw [e2] at e
        have e3 : R = some 0 := by
          rw [← hR]
          cases t <;> first | rfl | exact absurd ⟨_, rfl⟩ ht
        repeat array_get_dec
        refine r_of e ?_
        refine r_bl ?_
        refine ite_t rfl ?_
        refine ite_t rfl ?_
        exact sa_raise (r_cons (r_c (r_cons (r_c (r_nil ⟨rfl, 0, e3, rfl, rfl⟩)))))
    · rintro e s ⟨h1, rfl⟩
      rw [List.take_length]
      exact ⟨hw, h1, rfl, rfl⟩
    · rintro x e s ⟨k, h1, rfl, rfl⟩
      rw [List.take_length]
      exact ⟨hw, rfl, k, h1, rfl, rfl⟩
  cases hF : f_look_paces [t] st with
  | ok u s =>
    rw [hF] at key
    obtain ⟨h1, h2, h3⟩ := (show R = none ∧ u = .non ∧ s = st from key)
    subst h1 h2 h3; rfl
  | exc x s =>
    rw [hF] at key
    obtain ⟨k, h1, h2, h3⟩ := (show ∃ k : Nat, R = some k ∧ x = noBook (("paces" : Str), (k : Int)) ∧ s = st from key)
    subst h1 h2 h3; rfl
  | stuck => rw [hF] at key; exact key.elim
end
theorem blsOf_map45 : ∀ bs : List Bool, blsOf (bs.map T.bl) = some bs
  | [] => rfl
  | b :: bs => by
    show (blsOf (bs.map T.bl)).map (b :: ·) = some (b :: bs)
    rw [blsOf_map45 bs]; rfl
theorem all_bls {bs : List Bool} {s : Store} {P : T → Store → Prop} (h : P (.bl (bs.all id)) s) : ROk (kAll [.lst (bs.map T.bl)] s) P := by
  refine r_of (a := .bl (bs.all id)) (s := s) ?_ h
  simp [kAll, kBls, Mir.listOf, lstOf, blsOf_map45]
theorem comp_bls {j v : Nat} {E : Mir.Env} {s : Store} {us : List T} {e : ME} (f : T → Bool) {P : T → Store → Prop} (hj : E[j]? = some (some (.tup us))) (hl : us.length ≤ 1000) (he : ∀ u ∈ us, e ((wipeE E [v]).set v (some u)) s = .ok (.bl (f u)) s) (q : P (.lst ((us.map f).map T.bl)) s) :
    ROk (eComp false (iAny (eVar j)) (.name v) (tYesM) [v] (compK1 e) E s) P := by
  have hit : iAny (eVar j) E s = .ok ⟨us, fun _ => True⟩ s := by
    unfold iAny; rw [eVar_at hj]; rfl
  refine r_comp (r_of hit ?_)
  refine (comp_rule (fun i acc s' => acc = ((us.take i).map f).map T.bl ∧ s' = s) ⟨rfl, rfl⟩ (fun _ _ _ _ => trivial) ?_).imp ?_
  · rintro k x acc s' hx ⟨rfl, rfl⟩
    have hx : us[k]? = some x := hx
    refine ⟨(wipeE E [v]).set v (some x), rfl, r_of (a := true) (s := s') rfl ⟨fun q => (by cases q), fun _ => r_of (he x (List.mem_of_getElem? hx)) ⟨by simp; exact line1000 (by omega), ?_, rfl⟩⟩⟩
    rw [List.take_add_one, hx]; simp
  · rintro acc s' ⟨rfl, rfl⟩
    refine mkL_f ?_
    show P (.lst (((us.take us.length).map f).map T.bl)) s'
    rw [List.take_length]; exact q
theorem all_map (us : List T) (f : T → Bool) : (us.map f).all id = us.all f := by
  induction us with
  | nil => rfl
  | cons u us ih => simp [ih]
section
variable {st : Store} {z : Int}
theorem pairB_of {t : T} (h : lenIs 2 t = true) : ∃ a b, t = .tup [a, b] ∧ pairB z t = [a, b].all (belowT z) := by
  by_cases h2 : ∃ a b, t = .tup [a, b]
  · obtain ⟨a, b, rfl⟩ := h2
    exact ⟨a, b, rfl, by simp [pairB]⟩
  · rw [lenIs_no h2] at h; cases h
theorem pairB_no {t : T} (h : lenIs 2 t = false) : pairB z t = false := by
  unfold pairB
  split
  · exact absurd h (by show ¬ decide (((2 : Nat) : Int) = 2) = false; decide)
  · rfl
theorem tabW_go {t : T} {ts : List T} {n : Nat} (h : pairB z t = true) : tabW z (t :: ts) n = tabW z ts (n + 1) := by
  show (if pairB z t = true then _ else _) = _
  rw [if_pos h]
theorem tabW_stop {t : T} {ts : List T} {n : Nat} (h : pairB z t = false) : tabW z (t :: ts) n = some n := by
  show (if pairB z t = true then _ else _) = _
  rw [if_neg (by rw [h]; decide)]
def pairOf (z k : Int) : Option Nat → Option (Str × Int)
  | some n => some (("pair" : Str), k * (z * z) + n)
  | none => none
def tabR (z k : Int) (t : T) : Option (Str × Int) := if lenIs (z * z) t = true then pairOf z k (tabW z (itemsT t) 0) else some (("table" : Str), k)
def nonM (o : Option (Str × Int)) (st : Store) : Mir.R T := match o with
  | none => .ok .non st
  | some p => .exc (noBook p) st
theorem nonM_of {n m : Nat} {b : MS} {ts : List T} {R : Option (Str × Int)} (hw : Wf st) (h : SA (b (ts.map some ++ List.replicate (m - n) none) st) (fun _ s => R = none ∧ s = st) (fun _ _ => False) fun x _ s => ∃ p, R = some p ∧ x = noBook p ∧ s = st) : popS (defM n m b) ts st = nonM R st := by
  have key : RK (popS (defM n m b) ts st) (fun u s => R = none ∧ u = .non ∧ s = st) fun x s => ∃ p, R = some p ∧ x = noBook p ∧ s = st := by
    refine pop_sa (sa_imp h ?_ (fun _ _ h => h.elim) ?_)
    · rintro e s ⟨h1, rfl⟩
      rw [List.take_length]
      exact ⟨hw, h1, rfl, rfl⟩
    · rintro x e s ⟨k, h1, rfl, rfl⟩
      rw [List.take_length]
      exact ⟨hw, rfl, k, h1, rfl, rfl⟩
  cases hF : popS (defM n m b) ts st with
  | ok u s =>
    rw [hF] at key
    obtain ⟨h1, h2, h3⟩ := (show R = none ∧ u = .non ∧ s = st from key)
    subst h1 h2 h3; rfl
  | exc x s =>
    rw [hF] at key
    obtain ⟨k, h1, h2, h3⟩ := (show ∃ p, R = some p ∧ x = noBook p ∧ s = st from key)
    subst h1 h2 h3; rfl
  | stuck => rw [hF] at key; exact key.elim
theorem look_table_spec (hw : Wf st) {t : T} {N : Nat} (h : Th N t) (hN : N ≤ 900) (hz : 1 ≤ z ∧ z ≤ 6) {k : Int} (hk : 0 ≤ k ∧ k ≤ 100) : f_look_table [.int k, t, .int z] st = nonM (tabR z k t) st := by
  refine nonM_of hw ?_
  show SA (m_look_table [some (.int k), some t, some (.int z), none, none, none] st) _ _ _
  unfold m_look_table
  have tt := tuple_of_spec hw h.1 (z * z)
  have mz : kMul false (.int z) (.int z) st = .ok (.int (z * z)) st := mul_ok _ _ (by omega)
  cases hL : lenIs (z * z) t with
  | false =>
    rw [hL] at tt
    have e : tabR z k t = some (("table" : Str), k) := by unfold tabR; rw [hL]; rfl
    rw [e]
    refine sa_seq (sa_if (r_not (r_tV (r_eL (r_cons (r_v rfl (r_cons (r_e2 (r_v rfl (r_v rfl (r_of mz (r_nil (r_cl rfl (r_of tt (r_bl (ite_t rfl ?_))))))))))))))))
    exact sa_raise (r_cons (r_c (r_cons (r_v rfl (r_nil ⟨rfl, _, rfl, rfl, rfl⟩)))))
  | true =>
    rw [hL] at tt
    obtain ⟨ts, rfl⟩ : ∃ ts, t = .tup ts := by cases t <;> first | exact ⟨_, rfl⟩ | cases hL
    obtain ⟨hlen, hall⟩ := th_tup.mp h
    obtain ⟨R, hR⟩ : ∃ R, tabW z ts 0 = R := ⟨_, rfl⟩
    have e : tabR z k (.tup ts) = pairOf z k R := by
      unfold tabR; rw [hL, ← hR]; rfl
    rw [e]
    refine sa_seq (sa_if (r_not (r_tV (r_eL (r_cons (r_v rfl (r_cons (r_e2 (r_v rfl (r_v rfl (r_of mz (r_nil (r_cl rfl (r_of tt (r_bl (ite_f rfl (sa_next ?_)))))))))))))))))
    have hen : iEnumA (eVar 1) [some (.int k), some (.tup ts), some (.int z), none, none, none] st = .ok ⟨enumT ts, fun _ => True⟩ st := rfl
    refine sa_for (r_of hen ⟨fun i e s => ∃ a b c, e = [some (.int k), some (.tup ts), some (.int z), a, b, c] ∧ s = st ∧ tabW z (ts.drop i) i = R, ⟨none, none, none, rfl, rfl, hR⟩, fun _ _ _ _ => trivial, ?_, ?_⟩)
    · rintro i t e s ht ⟨a, b, c, rfl, rfl, hX⟩
      obtain ⟨u, hu, rfl⟩ := enumT_get ht
      have hut := hall u (List.mem_of_getElem? hu)
      rw [drop_get hu] at hX
      refine ⟨[some (.int k), some (.tup ts), some (.int z), some (.int i), some u, c], s, by simp [gT, gsCons, gsNil, gN, RS.seq], ?_⟩
      have tu := tuple_of_spec hw hut.1 2
      have bad : pairB z u = false → SA (sRaise "NoBook" ["word", "at"] (aCons (eC (.str "pair")) (aCons (e2 (kAdd false) (e2 (kMul false) (e2 (kMul false) (eVar 0) (eVar 2)) (eVar 2)) (eVar 3)) (aNil))) [some (.int k), some (.tup ts), some (.int z), some (.int i), some u, c] s) (fun _ _ => False) (fun _ _ => False) fun x _ s' => ∃ p, pairOf z k R = some p ∧ x = noBook p ∧ s' = s := fun hb => by
        rw [tabW_stop hb] at hX
        rw [← hX]
        refine sa_raise (r_cons (r_c (r_cons (r_e2 (r_e2 (r_e2 (r_v rfl (r_v rfl (r_mul (by omega) (r_v rfl (r_mul ?_ (r_v rfl (r_add (r_nil ⟨rfl, _, rfl, ?_, rfl⟩))))))))))))))
        · have : k * z ≤ 100 * 6 := Int.mul_le_mul (by omega) hz.2 (by omega) (by omega)
          have : 0 ≤ k * z := Int.mul_nonneg (by omega) (by omega)
          omega
        · rw [Int.mul_assoc]; rfl
      refine sa_if (r_or2 (r_not (r_tV (r_eL (r_cons (r_v rfl (r_cons (r_c (r_nil (r_cl rfl (r_of tu (r_bl ?_))))))))))))
      cases h2 : lenIs 2 u with
      | false =>
        refine ite_t rfl ?_
        refine ite_t rfl ?_
        exact sa_imp (bad (pairB_no h2)) (fun _ _ h => h.elim) (fun _ _ h => h) fun _ _ _ h => h
      | true =>
        obtain ⟨a, b, rfl, hp⟩ := pairB_of (z := z) h2
        refine ite_f rfl ?_
        refine r_not (r_tV (r_eL (r_cons (comp_bls (us := [a, b]) (belowT z) rfl (by simp) (fun v hv => ?_) ?_))))
        · have bv := below_spec hw (hut.1 |> fun h => alTs_iff.mp h v hv) z
          exact eq_of (r_eL (r_cons (r_v rfl (r_cons (r_v rfl (r_nil (r_cl rfl (r_of bv ⟨rfl, rfl⟩))))))))
        · refine r_nil (all_bls ?_)
          rw [all_map, ← hp]
          refine r_bl ?_
          refine bite_n (fun hf => ?_) fun hf => ?_
          · exact sa_imp (bad hf) (fun _ _ h => h.elim) (fun _ _ h => h) fun _ _ _ h => h
          · rw [tabW_go hf] at hX
            exact sa_next ⟨_, _, _, rfl, rfl, hX⟩
    · rintro e s ⟨a, b, c, rfl, rfl, hX⟩
      have hX : tabW z (ts.drop (enumT ts).length) (enumT ts).length = R := hX
      rw [enumT_len, List.drop_length] at hX
      have hX : none = R := hX
      rw [← hX]
      exact ⟨rfl, rfl⟩
end
def tablesR (z : Int) : List T → Nat → Option (Str × Int)
  | [], _ => none
  | t :: ts, k => match tabR z k t with
    | some p => some p
    | none => tablesR z ts (k + 1)
theorem tablesR_go {z : Int} {t : T} {ts : List T} {k : Nat} (h : tabR z k t = none) : tablesR z (t :: ts) k = tablesR z ts (k + 1) := by
  show (match tabR z k t with | some p => some p | none => tablesR z ts (k + 1)) = _
  rw [h]
theorem tablesR_stop {z : Int} {t : T} {ts : List T} {k : Nat} {p : Str × Int} (h : tabR z k t = some p) : tablesR z (t :: ts) k = some p := by
  show (match tabR z k t with | some p => some p | none => tablesR z ts (k + 1)) = _
  rw [h]
def triI (n : Nat) : Int := (n : Int) * ((n : Int) - 1) / 2
def tabsR (K z : Int) (B : T) : Option (Str × Int) := if lenIs K B = true then tablesR z (itemsT B) 0 else some (("tables" : Str), (0 : Int))
theorem tabsR_no {K z : Int} {B : T} (h : lenIs K B = false) : tabsR K z B = some (("tables" : Str), (0 : Int)) := if_neg (by rw [h]; decide)
theorem tabsR_go {K z : Int} {B : T} (h : lenIs K B = true) : tabsR K z B = tablesR z (itemsT B) 0 := if_pos h
def restR (P S B : T) : Option (Str × Int) := match S with
  | .int z => if 1 ≤ z ∧ z ≤ 6 then tabsR (triI (itemsT P).length) z B else some (("sorts" : Str), (0 : Int))
  | _ => some (("sorts" : Str), (0 : Int))
def bookX : T → Option (Str × Int)
  | .tup [P, S, B] => match pacesR P with
    | some k => some (("paces" : Str), (k : Int))
    | none => restR P S B
  | _ => some (("form" : Str), (0 : Int))
def lookB (o : Option (Str × Int)) (st : Store) : Mir.R T := match o with
  | none => .ok (.bl true) st
  | some p => .exc (noBook p) st
section
variable {st : Store} {z : Int}
theorem sa_exprR {e : ME} {env : Mir.Env} {r : Mir.R T} {Q : Mir.Env → Store → Prop} {P : T → Store → Prop} {E : Ex → Mir.Env → Store → Prop} (h : e env st = r) (hr : RK r (fun _ s => Q env s) fun x s => E x env s) : SA (sExpr e env st) Q P E := by
  unfold sExpr
  rw [h]
  cases r with
  | ok t s => exact hr
  | exc x s => exact hr
  | stuck => exact hr
theorem lenIs3 {t : T} (h : lenIs 3 t = true) : ∃ a b c, t = .tup [a, b, c] := by
  cases t with
  | tup ts =>
    have e : (ts.length : Int) = 3 := of_decide_eq_true h
    match ts, e with
    | [], e => simp at e
    | [_], e => simp at e
    | [_, _], e => simp at e
    | [a, b, c], _ => exact ⟨a, b, c, rfl⟩
    | _ :: _ :: _ :: _ :: _, e => simp at e; omega
  | _ => all_goals cases h
theorem bookX_no {t : T} (h : lenIs 3 t = false) : bookX t = some (("form" : Str), (0 : Int)) := by
  unfold bookX
  split
  · exact absurd h (by show ¬ decide (((3 : Nat) : Int) = 3) = false; decide)
  · rfl
theorem lookB_of {n m : Nat} {b : MS} {ts : List T} {R : Option (Str × Int)} (hw : Wf st) (h : SA (b (ts.map some ++ List.replicate (m - n) none) st) (fun _ _ => False) (fun t s => R = none ∧ t = .bl true ∧ s = st) fun x _ s => ∃ p, R = some p ∧ x = noBook p ∧ s = st) : popS (defM n m b) ts st = lookB R st := by
  refine pop_toldX hw (sa_imp h (fun _ _ h => h) ?_ ?_)
  · rintro t s ⟨h1, rfl, rfl⟩
    exact ⟨List.take_length, .bl true, rfl, by rw [h1]; rfl⟩
  · rintro x e s ⟨p, h1, rfl, rfl⟩
    exact ⟨List.take_length, rfl, by rw [h1]; rfl⟩
theorem pacesR_none {P : T} (h : pacesR P = none) : ∃ ts, P = .tup ts ∧ 1 ≤ ts.length ∧ ts.length ≤ 5 := by
  unfold pacesR at h
  split at h
  · rename_i ts
    by_cases hl : 1 ≤ ts.length ∧ ts.length ≤ 5
    · exact ⟨ts, rfl, hl⟩
    · rw [if_neg hl] at h; cases h
  · cases h
theorem tri_le {n : Nat} (h : n ≤ 5) : 0 ≤ triI n ∧ triI n ≤ 10 := by
  unfold triI
  have : n = 0 ∨ n = 1 ∨ n = 2 ∨ n = 3 ∨ n = 4 ∨ n = 5 := by omega
  rcases this with rfl | rfl | rfl | rfl | rfl | rfl <;> decide
def lbP (R : Option (Str × Int)) (st : Store) : T → Store → Prop := fun t s => R = none ∧ t = .bl true ∧ s = st
def lbE (R : Option (Str × Int)) (st : Store) : Ex → Mir.Env → Store → Prop := fun x _ s => ∃ p, R = some p ∧ x = noBook p ∧ s = st
noncomputable def lb1 : MS := sSeq (sFor (iEnumA (eVar 3)) (gT 2 (gsCons (gN 4) (gsCons (gN 5) (gsNil)))) (sExpr (eL (callM 3 f_look_table) (aCons (eVar 4) (aCons (eVar 5) (aCons (eVar 2) (aNil))))))) (sRet (eC (.bl true)))
noncomputable def lb2 : MS := sSeq (sIf (tNotM (tV (eL (callM 2 f_is_tuple_of) (aCons (eVar 3) (aCons (e2 kDiv (e2 (kMul false) (eL kLen (aCons (eVar 1) (aNil))) (e2 kSub (eL kLen (aCons (eVar 1) (aNil))) (eC (.int 1)))) (eC (.int 2))) (aNil)))))) (sRaise "NoBook" ["word", "at"] (aCons (eC (.str "tables")) (aCons (eC (.int 0)) (aNil)))) (sNext)) lb1
noncomputable def lb3 : MS := sSeq (sIf (tOrM (tNotM (tV (eL (callM 1 f_is_whole) (aCons (eVar 2) (aNil))))) (tNotM (tV (eChain (kLe) (kLe) (eC (.int 1)) (eVar 2) (eC (.int 6)))))) (sRaise "NoBook" ["word", "at"] (aCons (eC (.str "sorts")) (aCons (eC (.int 0)) (aNil)))) (sNext)) lb2
theorem raise_lb {w : Str} {e : Mir.Env} {Q : Mir.Env → Store → Prop} : SA (sRaise "NoBook" ["word", "at"] (aCons (eC (.str w)) (aCons (eC (.int 0)) (aNil))) e st) Q (lbP (some (w, 0)) st) (lbE (some (w, 0)) st) :=
  sa_raise (r_cons (r_c (r_cons (r_c (r_nil ⟨rfl, _, rfl, rfl, rfl⟩)))))
theorem callT {A B C : T} {a b d : Option T} : eL (callM 3 f_look_table) (aCons (eVar 4) (aCons (eVar 5) (aCons (eVar 2) (aNil)))) [a, b, some C, d, some A, some B] st = f_look_table [A, B, C] st := by
  simp only [eL, aCons, aNil, eVar, List.getElem?_cons_zero, List.getElem?_cons_succ, bind_ok, callM, List.length_cons, List.length_nil, if_pos]
theorem gset {A B : T} {a b c d x y : Option T} {Q : Mir.Env → Store → Prop} (h : Q [a, b, c, d, some A, some B] st) : SNx (gT 2 (gsCons (gN 4) (gsCons (gN 5) (gsNil))) (.tup [A, B]) [a, b, c, d, x, y] st) Q := g_two (gN_ok (gN_ok h))
theorem lb1_spec (hw : Wf st) {N : Nat} (hN : N ≤ 900) (hz : 1 ≤ z ∧ z ≤ 6) {a b : Option T} {bs : List T} (hB : ∀ u ∈ bs, Th N u) (hl : bs.length ≤ 10) {Q : Mir.Env → Store → Prop} {R : Option (Str × Int)} (hR : tablesR z bs 0 = R) :
    SA (lb1 [a, b, some (.int z), some (.tup bs), none, none] st) Q (lbP R st) (lbE R st) := by
  have hen : iEnumA (eVar 3) [a, b, some (.int z), some (.tup bs), none, none] st = .ok ⟨enumT bs, fun _ => True⟩ st := rfl
  refine sa_seq (sa_for (r_of hen ⟨fun i e s => ∃ x y, e = [a, b, some (.int z), some (.tup bs), x, y] ∧ s = st ∧ tablesR z (bs.drop i) i = R, ⟨none, none, rfl, rfl, hR⟩, fun _ _ _ _ => trivial, ?_, ?_⟩))
  · rintro i t e s ht ⟨x, y, rfl, rfl, hX⟩
    obtain ⟨u, hu, rfl⟩ := enumT_get ht
    have hut := hB u (List.mem_of_getElem? hu)
    have hil := (List.getElem?_eq_some_iff.mp hu).1
    rw [drop_get hu] at hX
    obtain ⟨k, hk⟩ : ∃ k : Int, (i : Int) = k := ⟨_, rfl⟩
    rw [hk]
    refine gset ?_
    have lt := look_table_spec (z := z) (k := k) hw hut hN hz ⟨by omega, by omega⟩
    refine sa_exprR callT ?_
    rw [lt]
    have e0 : tabR z k u = tabR z (i : Int) u := by rw [hk]
    cases hq : tabR z i u with
    | none =>
      rw [e0, hq]
      rw [tablesR_go hq] at hX
      exact ⟨_, _, rfl, rfl, hX⟩
    | some p =>
      rw [e0, hq]
      rw [tablesR_stop hq] at hX
      exact ⟨p, hX.symm, rfl, rfl⟩
  · rintro e s ⟨x, y, rfl, rfl, hX⟩
    have hX : tablesR z (bs.drop (enumT bs).length) (enumT bs).length = R := hX
    rw [enumT_len, List.drop_length] at hX
    refine sa_ret (r_c ⟨?_, rfl, rfl⟩)
    rw [← hX]; rfl
theorem tri5 {a c d e f : Option T} {ps : List T} (h5 : ps.length ≤ 5) : e2 kDiv (e2 (kMul false) (eL kLen (aCons (eVar 1) (aNil))) (e2 kSub (eL kLen (aCons (eVar 1) (aNil))) (eC (.int 1)))) (eC (.int 2)) [a, some (.tup ps), c, d, e, f] st = .ok (.int (triI ps.length)) st := by
  have tl := tri_le h5
  refine eq_of ?_
  repeat array_get_dec
  exact ⟨rfl, rfl⟩
structure SAx (m : MS) (env : Mir.Env) (st : Store) (Q : Mir.Env → Store → Prop) (P : T → Store → Prop) (E : Ex → Mir.Env → Store → Prop) : Prop where
  h : SA (m env st) Q P E
theorem lb2_K (hw : Wf st) {N : Nat} (hN : N ≤ 900) (hz : 1 ≤ z ∧ z ≤ 6) {a p : Option T} {K : Int} {B : T} (tl : K ≤ 10) (hB : Th N B) {Q : Mir.Env → Store → Prop} {R : Option (Str × Int)}
    (hR : tabsR K z B = R)
    (tri : e2 kDiv (e2 (kMul false) (eL kLen (aCons (eVar 1) (aNil))) (e2 kSub (eL kLen (aCons (eVar 1) (aNil))) (eC (.int 1)))) (eC (.int 2)) [a, p, some (.int z), some B, none, none] st = .ok (.int K) st) :
    SAx lb2 [a, p, some (.int z), some B, none, none] st Q (lbP R st) (lbE R st) := by
  refine ⟨?_⟩
  have tb := tuple_of_spec hw hB.1 K
  cases hb : lenIs K B with
  | false =>
    rw [hb] at tb
    rw [tabsR_no hb] at hR
    subst hR
    exact sa_seq (sa_if (r_not (r_tV (r_eL (r_cons (r_v rfl (r_cons (r_of tri (r_nil (r_cl rfl (r_of tb (r_bl (ite_t rfl raise_lb)))))))))))))
  | true =>
    rw [hb] at tb
    rw [tabsR_go hb] at hR
    refine sa_seq (sa_if (r_not (r_tV (r_eL (r_cons (r_v rfl (r_cons (r_of tri (r_nil (r_cl rfl (r_of tb (r_bl (ite_f rfl (sa_next ?_))))))))))))))
    cases B with
    | tup bs =>
      have e : (bs.length : Int) = K := of_decide_eq_true hb
      exact lb1_spec hw hN hz (th_tup.mp hB).2 (by omega) hR
    | _ => all_goals cases hb
theorem lb3_spec (hw : Wf st) {N : Nat} (hN : N ≤ 900) {a : Option T} {ps : List T} {S B : T} (h5 : ps.length ≤ 5) (hS : Th N S) (hB : Th N B) {Q : Mir.Env → Store → Prop} {R : Option (Str × Int)} (hR : restR (.tup ps) S B = R) :
    SA (lb3 [a, some (.tup ps), some S, some B, none, none] st) Q (lbP R st) (lbE R st) := by
  have ws := whole_spec hw hS.1
  cases hi : isIntT S with
  | false =>
    have e : restR (.tup ps) S B = some (("sorts" : Str), (0 : Int)) := by cases S <;> first | rfl | cases hi
    rw [hi] at ws
    rw [e] at hR
    subst hR
    exact sa_seq (sa_if (r_or2 (r_not (r_tV (r_eL (r_cons (r_v rfl (r_nil (r_cl rfl (r_of ws (r_bl (ite_t rfl (ite_t rfl raise_lb)))))))))))))
  | true =>
    obtain ⟨z, rfl⟩ : ∃ v, S = .int v := by cases S <;> first | exact ⟨_, rfl⟩ | cases hi
    have hR : (if 1 ≤ z ∧ z ≤ 6 then tabsR (triI ps.length) z B else some (("sorts" : Str), (0 : Int))) = R := hR
    rw [hi] at ws
    have bad : ¬ (1 ≤ z ∧ z ≤ 6) → SA (sRaise "NoBook" ["word", "at"] (aCons (eC (.str "sorts")) (aCons (eC (.int 0)) (aNil))) [a, some (.tup ps), some (.int z), some B, none, none] st) (fun e s => SA (lb2 e s) Q (lbP R st) (lbE R st)) (lbP R st) (lbE R st) := fun hz => by
      rw [if_neg hz] at hR
      subst hR
      exact raise_lb
    refine sa_seq (sa_if (r_or2 (r_not (r_tV (r_eL (r_cons (r_v rfl (r_nil (r_cl rfl (r_of ws (r_bl (ite_f rfl ?_))))))))))))
    refine r_not (r_tV (r_chain (r_c (r_v rfl (r_le (r_bl (dite_c (fun h1 => ?_) fun h1 => ?_)))))))
    · refine r_c (r_le (r_bl (dite_n (fun h2 => ?_) fun h2 => ?_)))
      · exact bad (fun q => h2 q.2)
      · have hz : 1 ≤ z ∧ z ≤ 6 := ⟨h1, h2⟩
        rw [if_pos hz] at hR
        refine sa_next ?_
        have q1 := tri5 (st := st) (a := a) (c := some (.int z)) (d := some B) (e := none) (f := none) h5
        have q0 := @lb2_K st z hw N hN hz a (some (.tup ps)) (triI ps.length) B (tri_le h5).2 hB Q R hR q1
        clear q1 bad ws
        cases q0
        assumption
    · refine r_bl ?_
      refine ite_t rfl ?_
      exact bad (fun q => h1 q.1)
theorem look_book_spec (hw : Wf st) {t : T} {N : Nat} (h : Th N t) (hN : N ≤ 900) : f_look_book [t] st = lookB (bookX t) st := by
  refine lookB_of hw ?_
  show SA (m_look_book [some t, none, none, none, none, none] st) _ (lbP (bookX t) st) (lbE (bookX t) st)
  have tt := tuple_of_spec hw h.1 3
  cases hL : lenIs 3 t with
  | false =>
    rw [hL] at tt
    rw [bookX_no hL]
    exact sa_seq (sa_if (r_not (r_tV (r_eL (r_cons (r_v rfl (r_cons (r_c (r_nil (r_cl rfl (r_of tt (r_bl (ite_t rfl raise_lb)))))))))))))
  | true =>
    rw [hL] at tt
    obtain ⟨P, S, B, rfl⟩ := lenIs3 hL
    have hP : Th N P := (th_tup.mp h).2 P (by simp)
    have hS : Th N S := (th_tup.mp h).2 S (by simp)
    have hB : Th N B := (th_tup.mp h).2 B (by simp)
    refine sa_seq (sa_if (r_not (r_tV (r_eL (r_cons (r_v rfl (r_cons (r_c (r_nil (r_cl rfl (r_of tt (r_bl (ite_f rfl (sa_next ?_))))))))))))))
    refine sa_seq (sa_asg (r_v rfl (g_three (gN_ok (gN_ok (gN_ok ?_))))))
    show SA (sSeq _ lb3 [some (.tup [P, S, B]), some P, some S, some B, none, none] st) _ _ _
    have lp := look_paces_spec hw hP.1
    have hX : bookX (.tup [P, S, B]) = match pacesR P with
      | some k => some (("paces" : Str), (k : Int))
      | none => restR P S B := rfl
    have call : eL (callM 1 f_look_paces) (aCons (eVar 1) (aNil)) [some (.tup [P, S, B]), some P, some S, some B, none, none] st = f_look_paces [P] st := by
      simp only [eL, aCons, aNil, eVar, List.getElem?_cons_zero, List.getElem?_cons_succ, bind_ok, callM, List.length_cons, List.length_nil, if_pos]
    refine sa_seq (sa_exprR call ?_)
    rw [lp]
    cases hp : pacesR P with
    | some k =>
      rw [hp] at hX
      rw [hX]
      exact ⟨_, rfl, rfl, rfl⟩
    | none =>
      rw [hp] at hX
      have hX : bookX (.tup [P, S, B]) = restR P S B := hX
      obtain ⟨ps, rfl, l1, l5⟩ := pacesR_none hp
      exact lb3_spec hw hN l5 hS hB hX.symm
end
theorem pacesW_ok : ∀ (l : List Int) (pr : Option Int) (k : Nat), (∀ p ∈ l, -1000 ≤ p ∧ p ≤ 1000) → l.Pairwise (· < ·) → (∀ p, pr = some p → ∀ x ∈ l, p < x) → pacesW pr (l.map T.int) k = none
  | [], pr, k, _, _, _ => by cases pr <;> rfl
  | i :: l, pr, k, hb, hp, hq => by
    show pacesW pr (.int i :: l.map T.int) k = none
    rw [List.pairwise_cons] at hp
    have go : pacesW (some i) (l.map T.int) (k + 1) = none := pacesW_ok l (some i) (k + 1) (fun p h => hb p (by simp [h])) hp.2 fun p e x hx => by cases e; exact hp.1 x hx
    rw [pacesW_int, if_pos (hb i (by simp))]
    cases pr with
    | none => exact go
    | some p =>
      show (if i ≤ p then some k else pacesW (some i) (l.map T.int) (k + 1)) = none
      have := hq p rfl i (by simp)
      rw [if_neg (by omega)]; exact go
theorem tabW_ok {z : Nat} : ∀ (l : List (Int × Int)) (k : Nat), (∀ p ∈ l, (0 ≤ p.1 ∧ p.1 < z) ∧ (0 ≤ p.2 ∧ p.2 < z)) → tabW (z : Int) (l.map pairI) k = none
  | [], k, _ => rfl
  | p :: l, k, h => by
    have hp := h p (by simp)
    show tabW (z : Int) (pairI p :: l.map pairI) k = none
    have e : pairB (z : Int) (pairI p) = true := by
      show (belowT z (.int p.1) && belowT z (.int p.2)) = true
      rw [show belowT z (.int p.1) = true from decide_eq_true hp.1, show belowT z (.int p.2) = true from decide_eq_true hp.2]; rfl
    rw [tabW_go e]
    exact tabW_ok l (k + 1) fun q hq => h q (by simp [hq])
theorem tablesR_ok {z : Nat} : ∀ (tbs : List (List (Int × Int))) (k : Nat), (∀ tb ∈ tbs, OkTab z tb) → tablesR (z : Int) (tbs.map fun tb => T.tup (tb.map pairI)) k = none
  | [], k, _ => rfl
  | tb :: tbs, k, h => by
    obtain ⟨h1, h2⟩ := h tb (by simp)
    show tablesR (z : Int) (T.tup (tb.map pairI) :: tbs.map fun tb => T.tup (tb.map pairI)) k = none
    rw [tablesR_go (by
      unfold tabR
      rw [if_pos (show lenIs ((z : Int) * z) (.tup (tb.map pairI)) = true from decide_eq_true (by rw [List.length_map, h1]; simp))]
      show pairOf _ _ (tabW (z : Int) (tb.map pairI) 0) = none
      rw [tabW_ok tb 0 h2]; rfl)]
    exact tablesR_ok tbs (k + 1) fun q hq => h q (by simp [hq])
theorem bookX_ok {m z : Nat} {ps : List Int} {tbs : List (List (Int × Int))} (ok : OkBook m z ps tbs) (hm : 1 ≤ m ∧ m ≤ 5) (hz : 1 ≤ z ∧ z ≤ 6) : bookX (bookT ps z tbs) = none := by
  have e : bookX (bookT ps z tbs) = match pacesR (.tup (ps.map T.int)) with
    | some k => some (("paces" : Str), (k : Int))
    | none => restR (.tup (ps.map T.int)) (.int z) (.tup (tbs.map fun tb => T.tup (tb.map pairI))) := rfl
  have e1 : pacesR (.tup (ps.map T.int)) = none := by
    show (if 1 ≤ (ps.map T.int).length ∧ (ps.map T.int).length ≤ 5 then _ else _) = _
    rw [List.length_map, ok.len, if_pos hm]
    exact pacesW_ok ps none 0 ok.bound ok.rise fun p h => by cases h
  rw [e, e1]
  show (if 1 ≤ (z : Int) ∧ (z : Int) ≤ 6 then tabsR (triI (ps.map T.int).length) (z : Int) (.tup (tbs.map fun tb => T.tup (tb.map pairI))) else _) = none
  rw [if_pos (by omega), tabsR_go, show itemsT (.tup (tbs.map fun tb => T.tup (tb.map pairI))) = tbs.map fun tb => T.tup (tb.map pairI) from rfl]
  · exact tablesR_ok tbs 0 ok.tabs
  · refine decide_eq_true ?_
    rw [List.length_map, List.length_map, ok.len, ok.many]
    have : m = 1 ∨ m = 2 ∨ m = 3 ∨ m = 4 ∨ m = 5 := by omega
    rcases this with rfl | rfl | rfl | rfl | rfl <;> decide
theorem bookX_th {m z : Nat} {ps : List Int} {tbs : List (List (Int × Int))} (ok : OkBook m z ps tbs) (hm : 1 ≤ m ∧ m ≤ 5) (hz : 1 ≤ z ∧ z ≤ 6) : Th 36 (bookT ps z tbs) := by
  have i0 : ∀ i, Th 36 (.int i) := fun i => ⟨rfl, rfl⟩
  refine th_tup.mpr ⟨by simp, fun t ht => ?_⟩
  simp only [List.mem_cons, List.not_mem_nil, or_false] at ht
  rcases ht with rfl | rfl | rfl
  · refine th_tup.mpr ⟨by rw [List.length_map, ok.len]; omega, fun t ht => ?_⟩
    obtain ⟨i, _, rfl⟩ := List.mem_map.mp ht
    exact i0 i
  · exact i0 _
  · refine th_tup.mpr ⟨?_, fun t ht => ?_⟩
    · rw [List.length_map, ok.many]
      have : m = 1 ∨ m = 2 ∨ m = 3 ∨ m = 4 ∨ m = 5 := by omega
      rcases this with rfl | rfl | rfl | rfl | rfl <;> decide
    · obtain ⟨tb, htb, rfl⟩ := List.mem_map.mp ht
      obtain ⟨h1, h2⟩ := ok.tabs tb htb
      refine th_tup.mpr ⟨?_, fun t ht => ?_⟩
      · rw [List.length_map, h1]
        have : z * z ≤ 6 * 6 := Nat.mul_le_mul hz.2 hz.2
        omega
      · obtain ⟨p, _, rfl⟩ := List.mem_map.mp ht
        refine th_tup.mpr ⟨by simp, fun t ht => ?_⟩
        simp only [List.mem_cons, List.not_mem_nil, or_false] at ht
        rcases ht with rfl | rfl <;> exact i0 _
end Sh
namespace Mir
open PySem PySem.Spec PyProof.Rows L2
end Mir
namespace HX
open PySem PySem.Spec PyProof.Rows L2
theorem mulW1 (l : Addr) (items : Array Value) (n : Nat) (dd : Option Addr) (sl : Array (Option Value)) (x : Int) (u : Tok) (c0 : (decide (x < -(2 ^ 63)) || decide (x ≥ 2 ^ 63)) = false) (c1 : (items.isEmpty || x == 1) = true) :
    Meets (Builtin.«tuple.__mul__» ⟨[.ref l, .int x u], []⟩) (fun _ R s => s.heap.get? l = some { cls := .type "tuple", dict := dd, data := .seq items n, slots := sl } ∧ R (.ok (.ret (Value.ref l))) s) :=
  .of_wp fun prog w A R s h => by
    obtain ⟨hp, g, d, tk, os⟩ := s
    obtain ⟨hl, h⟩ := h
    have f1 := AutoSeq1.idx_int
    wp_walk using wpAny_loadPart' hl
    repeat (first
      | (refine wpAny_ite_false (decide_eq_false (by rw [c0]; exact Bool.false_ne_true)) ?_; wp_walk using wpAny_loadPart' hl)
      | (refine wpAny_ite_true (decide_eq_true (by rw [c1])) ?_; wp_walk using wpAny_loadPart' hl))
    exact ⟨_, rfl, h⟩
theorem mulW0 (l : Addr) (items : Array Value) (n : Nat) (dd : Option Addr) (sl : Array (Option Value)) (x : Int) (u : Tok) (c0 : (decide (x < -(2 ^ 63)) || decide (x ≥ 2 ^ 63)) = false) (c1 : (items.isEmpty || x == 1) = false) (c2 : (decide (x ≤ 0) || items.isEmpty) = true) :
    Meets (Builtin.«tuple.__mul__» ⟨[.ref l, .int x u], []⟩) (fun _ R s => s.heap.get? l = some { cls := .type "tuple", dict := dd, data := .seq items n, slots := sl } ∧
      R (.ok (.ret (Value.ref s.heap.objs.size))) { s with heap := s.heap.push { cls := Value.type "tuple", data := Data.seq #[] }, toks := s.toks }) :=
  .of_wp fun prog w A R s h => by
    obtain ⟨hp, g, d, tk, os⟩ := s
    obtain ⟨hl, h⟩ := h
    have f1 := AutoSeq1.idx_int
    wp_walk using wpAny_loadPart' hl
    repeat (first
      | (refine wpAny_ite_false (decide_eq_false (by rw [c0]; exact Bool.false_ne_true)) ?_; wp_walk using wpAny_loadPart' hl)
      | (refine wpAny_ite_false (decide_eq_false (by rw [c1]; exact Bool.false_ne_true)) ?_; wp_walk using wpAny_loadPart' hl)
      | (refine wpAny_ite_true (decide_eq_true (by rw [c2])) ?_; wp_walk using wpAny_loadPart' hl))
    exact ⟨_, rfl, h⟩
def rRepA (K : PySem.W.Frag) : R2 := fun x y H Q => ∃ l k xs, x = .ref l ∧ y = .int k ∧ SqT K H l xs ∧ xs ≠ [] ∧ 0 ≤ k ∧ k ≤ 1000 ∧ xs.length ≤ 1000 ∧ (k = 1 → Q (.ref l) H) ∧ (k ≠ 1 → ∀ p, H p = none → Q (.ref p) (upd H p (.tup (List.replicate k.toNat xs).flatten)))
section
variable {X : Cx}
theorem op_repA : OpR X (binaryOp .Mult) (rRepA X.K) := by
  intro pins s σ H x y v u Q I rx ry h
  obtain ⟨l, k, xs, rfl, rfl, hT, hne, h1, h2, hz, q1, q2⟩ := h
  by_cases hk : 2 ≤ k
  · exact op_repT pins s σ H _ _ v u Q I rx ry ⟨l, k, xs, rfl, rfl, hT, hne, hk, h2, hz, q2 (by omega)⟩
  cases rx
  obtain ⟨t, rfl⟩ := ry
  obtain ⟨its, r, ⟨⟨cls, dd, data, sl⟩, ho, hc, n, hd⟩, hs⟩ := I.tuple hT
  simp only at hc hd
  subst hc hd
  have hle : its.length = xs.length := r.length.symm
  have hn : its ≠ [] := fun e => hne (by
    rw [e] at hle
    exact List.eq_nil_of_length_eq_zero hle.symm)
  have hi : its.toArray.isEmpty = false := by
    cases its with
    | nil => exact absurd rfl hn
    | cons a b => rfl
  have c0 : (decide (k < -(2 ^ 63)) || decide (k ≥ 2 ^ 63)) = false := by
    rw [decide_eq_false (by omega), decide_eq_false (by omega)] <;> rfl
  by_cases hk1 : k = 1
  · have c1 : (its.toArray.isEmpty || k == 1) = true := by
      rw [hi, Bool.false_or, hk1]; rfl
    exact wpAny_binaryOp_repeat_ref (T := "tuple") (U := "int") (by decide) ⟨_, ho, rfl⟩ (fun s' => typeIs_int s' k t) noFill_tuple_mul F.fills_int_mul F.slot_int_rmul repeat_tuple F.slot_int_index.lookup
      (call_meets F.slot_int_rmul (typeIs_int s k t) F.entry_int_rmul (F.args_int_rmul_2 _ _) (int_rmul_tuple k t l its.toArray n dd sl)
        ⟨ho, rfl, ⟨_, ho, rfl⟩, call_meets F.slot_tuple_mul ⟨_, ho, rfl⟩ F.entry_tuple_mul (F.args_tuple_mul_2 _ _) (mulW1 l its.toArray n dd sl k t c0 c1) ⟨ho, ⟨.ref l, H, I, rfl, q1 hk1⟩⟩⟩)
  · have hk0 : k = 0 := by omega
    have c1 : (its.toArray.isEmpty || k == 1) = false := by
      rw [hi, Bool.false_or]
      exact beq_eq_false_iff_ne.mpr hk1
    have c2 : (decide (k ≤ 0) || its.toArray.isEmpty) = true := by
      rw [decide_eq_true (by omega)]; rfl
    refine wpAny_binaryOp_repeat_ref (T := "tuple") (U := "int") (by decide) ⟨_, ho, rfl⟩ (fun s' => typeIs_int s' k t) noFill_tuple_mul F.fills_int_mul F.slot_int_rmul repeat_tuple F.slot_int_index.lookup
      (call_meets F.slot_int_rmul (typeIs_int s k t) F.entry_int_rmul (F.args_int_rmul_2 _ _) (int_rmul_tuple k t l its.toArray n dd sl)
        ⟨ho, rfl, ⟨_, ho, rfl⟩, call_meets F.slot_tuple_mul ⟨_, ho, rfl⟩ F.entry_tuple_mul (F.args_tuple_mul_2 _ _) (mulW0 l its.toArray n dd sl k t c0 c1 c2) ⟨ho, ?_⟩⟩)
    have e : (List.replicate k.toNat xs).flatten = [] := by rw [hk0]; rfl
    have q := q2 hk1
    rw [e] at q
    refine ⟨.ref s.heap.objs.size, _, I.laid (t' := s.toks) (o := .tup []) (fun b ob q => Heap.get?_push_of_some _ q) (Nat.le_refl _) ?_, rfl, q _ (I.hok.fresh (Nat.le_refl _))⟩
    exact ⟨by simp, _, .nil, IsTup.new _ _⟩
end
end HX
namespace Mir
variable [Tabl]
open PySem PySem.Spec PyProof.Rows L2
def kRepA (t u : T) : M T := fun st => match t, u with
  | .tup ts, .int k => if ts ≠ [] ∧ 0 ≤ k ∧ k ≤ 1000 ∧ ts.length ≤ 1000 then .ok (.tup (List.replicate k.toNat ts).flatten) st else .stuck
  | _, _ => .stuck
theorem k_repA {K : PySem.W.Frag} : Op2 K (HX.rRepA K) kRepA := by
  intro mg W ρ st H σ t u x y Q hK rel hx hy h
  unfold kRepA at h
  split at h
  · rename_i ts k
    split at h
    · rename_i hc
      obtain ⟨p, xs, rfl, g, q⟩ := hx
      refine ⟨p, k, xs, rfl, hy, g.sq hK, fun e => hc.1 ?_, hc.2.1, hc.2.2.1, by rw [q.length]; exact hc.2.2.2, fun e => ?_, fun _ o ho => fin_mkT h rel ho (q.flat _)⟩
      · rw [e] at q
        have := q.length
        exact List.eq_nil_of_length_eq_zero this.symm
      · subst e
        have e2 : (List.replicate (1 : Int).toNat ts).flatten = ts := by simp
        rw [e2] at h
        exact h.val rel _ ⟨p, xs, rfl, g, q⟩
    · exact h.elim
  · exact h.elim
end Mir
namespace Sh
open PySem PySem.Spec PyProof.Rows L2 Mir
local macro_rules | `(tactic| array_get_dec) => `(tactic| first
  | with_reducible refine sa_seq ?_ | with_reducible refine sa_set ?_ | with_reducible refine sa_ret ?_ | with_reducible refine sa_expr ?_ | with_reducible refine sa_next ?_ | with_reducible refine sa_if ?_ | with_reducible refine sa_par ?_ | with_reducible refine two_in ?_ | with_reducible refine sa_asg ?_
  | ((with_reducible apply r_v); rfl) | with_reducible refine r_c ?_ | with_reducible refine r_e2 ?_ | with_reducible refine r_eL ?_ | with_reducible refine r_e1 ?_ | with_reducible refine r_cons ?_ | with_reducible refine r_nil ?_
  | ((with_reducible refine r_cl ?_ ?_); rfl) | with_reducible refine r_tV ?_ | with_reducible refine r_bl ?_ | with_reducible refine r_if ?_ | with_reducible refine r_not ?_ | with_reducible refine r_cut ?_ | with_reducible refine r_oN ?_ | with_reducible refine r_oS ?_ | with_reducible refine r_in ?_ | with_reducible refine r_and' ?_ | with_reducible refine r_not' ?_ | with_reducible refine r_chain ?_
  | with_reducible refine r_add ?_ | with_reducible refine r_sub ?_ | with_reducible refine r_lt ?_ | with_reducible refine r_le ?_ | with_reducible refine r_gt ?_ | with_reducible refine r_ge ?_ | with_reducible refine r_eqI ?_ | with_reducible refine r_neI ?_ | with_reducible refine r_eqS ?_ | with_reducible refine r_neg ?_
  | ((with_reducible refine r_mod ?_ ?_); first | omega | decide) | ((with_reducible refine r_div ?_ ?_); first | omega | decide) | ((with_reducible refine r_mul ?_ ?_); first | omega | decide)
  | with_reducible refine r_lenT ?_ | with_reducible refine r_lenL ?_ | with_reducible refine r_lenIs ?_ | with_reducible refine r_lenRs ?_ | with_reducible refine r_cutTo ?_ | with_reducible refine r_cutFrom ?_ | with_reducible refine r_isN ?_ | with_reducible refine r_tupT ?_ | with_reducible refine r_tupL ?_ | with_reducible refine r_cutT ?_
  | ((with_reducible refine tupD_ok ?_ ?_); exact le1000 rfl) | ((with_reducible refine lstD_ok ?_ ?_); exact le1000 rfl) | with_reducible refine mkL_f ?_ | with_reducible refine mkL_t ?_ | with_reducible refine gN_ok ?_ | with_reducible refine g_two ?_ | with_reducible refine s_sub ?_
  | ((with_reducible refine ite_t ?_ ?_); first | (with_reducible rfl) | decide +kernel | rfl) | ((with_reducible refine ite_f ?_ ?_); first | (with_reducible rfl) | decide +kernel | rfl) | with_reducible refine r_and2 ?_ | with_reducible refine r_or2 ?_ | with_reducible refine r_intB ?_ | with_reducible refine r_abs ?_)
noncomputable def kb_e : ME := eComp false (iRange1 (eL kLen (aCons (eVar 0) (aNil)))) (.name 1) (tYesM) [1, 2] (compK2 (iRange1 (eVar 1)) (.name 2) (tYesM) [2] (eL kTupD (aCons (eVar 1) (aCons (eVar 2) (aNil)))))
noncomputable def m_kinds_by_two : MS := sRet kb_e
noncomputable def f_kinds_by_two : List T → M T := popS (defM 1 3 m_kinds_by_two)
noncomputable def bb_e : ME := eComp false (iRange1 (eVar 0)) (.name 1) (tYesM) [1, 2] (compK2 (iRange1 (eVar 0)) (.name 2) (tYesM) [2] (eL kTupD (aCons (eVar 1) (aCons (eVar 2) (aNil)))))
noncomputable def m_burdens_by_two : MS := sRet bb_e
noncomputable def f_burdens_by_two : List T → M T := popS (defM 1 3 m_burdens_by_two)
theorem compK_rule {st : Store} {chk : Store → Prop} {g : GT} {t : MT} {envw : Mir.Env} {kk : Mir.Env → List T → M (List T)} {items : List T} {acc0 : List T} (I : Nat → List T → Store → Prop) (h0 : I 0 acc0 st) (hc : ∀ i acc s, I i acc s → chk s)
    (hs : ∀ i x acc s, items[i]? = some x → I i acc s → ∃ env1, bindG g x envw = some env1 ∧ ROk (t env1 s) fun z s1 => (z = false → I (i + 1) acc s1) ∧ (z = true → ROk (kk env1 acc s1) fun acc2 s2 => I (i + 1) acc2 s2)) :
    ROk (compM chk g t envw kk items acc0 st) (I items.length) := by
  suffices H : ∀ (k : Nat) (l : List T) (acc : List T) (s : Store), items.drop k = l → I k acc s → k + l.length = items.length → ROk (compM chk g t envw kk l acc s) (I items.length) from H 0 items acc0 st rfl h0 (by simp)
  intro k l
  induction l generalizing k with
  | nil =>
    intro acc s _ hi hl
    unfold compM
    rw [if_pos (hc k acc s hi)]
    exact ⟨_, _, rfl, by rw [← hl]; exact hi⟩
  | cons x ts ih =>
    intro acc s hd hi hl
    have ht : items[k]? = some x := by
      have : (items.drop k)[0]? = some x := by rw [hd]; rfl
      simpa using this
    obtain ⟨env1, he, z, s1, hz, hf, htr⟩ := hs k x acc s ht hi
    have hd' : items.drop (k + 1) = ts := by rw [← List.drop_drop, hd]; rfl
    have hl' : k + 1 + ts.length = items.length := by simp at hl; omega
    unfold compM
    rw [if_pos (hc k acc s hi), he]
    dsimp only
    rw [hz]
    dsimp only [R.noexc, R.bind]
    cases z with
    | false =>
      rw [if_neg (by decide)]
      exact ih (k + 1) acc s1 hd' (hf rfl) hl'
    | true =>
      rw [if_pos rfl]
      obtain ⟨acc2, s2, hy, hi2⟩ := htr rfl
      rw [hy]
      dsimp only [R.bind]
      exact ih (k + 1) acc2 s2 hd' hi2 hl'
theorem comp_rg {st : Store} {envw : Mir.Env} {e : ME} {v n : Nat} {acc0 : List T} (F : Nat → T) (hl : acc0.length + n ≤ 1000) (h : ∀ i, i < n → e (envw.set v (some (.int (i : Int)))) st = .ok (F i) st) :
    compM (fun _ => True) (.name v) (tYesM) envw (compK1 e) (Mir.rangeT 0 n) acc0 st = .ok (acc0 ++ (List.range n).map F) st := by
  refine eq_of ((comp_rule (fun i acc s => acc = acc0 ++ (List.range i).map F ∧ s = st) ⟨by simp, rfl⟩ (fun _ _ _ _ => trivial) ?_).imp ?_)
  · rintro i x acc s hx ⟨rfl, rfl⟩
    obtain ⟨rfl, hi⟩ := rangeT_get hx
    refine ⟨_, rfl, r_of (a := true) (s := s) rfl ⟨fun q => (by cases q), fun _ => r_of (h i hi) ⟨?_, ?_, rfl⟩⟩⟩
    · simp only [List.length_append, List.length_map, List.length_range]
      exact line1000 (by omega)
    · simp [List.range_succ]
  · rintro acc s ⟨rfl, rfl⟩
    rw [rangeT_len]
    exact ⟨rfl, rfl⟩
def kinds2 (m : Nat) : List (Int × Int) := (List.range m).flatMap fun u : Nat => (List.range u).map fun v : Nat => ((u : Int), (v : Int))
def burd2 (n : Nat) : List (Int × Int) := (List.range n).flatMap fun u : Nat => (List.range n).map fun v : Nat => ((u : Int), (v : Int))
theorem kinds2_len : ∀ m, m ≤ 5 → (kinds2 m).length = m * (m - 1) / 2 := by decide +kernel
theorem burd2_len : ∀ m, m ≤ 6 → (burd2 m).length = m * m := by decide +kernel
theorem burd2_mem {n : Nat} {p : Int × Int} (h : p ∈ burd2 n) : (0 ≤ p.1 ∧ p.1 < n) ∧ (0 ≤ p.2 ∧ p.2 < n) := by
  obtain ⟨u, hu, h⟩ := List.mem_flatMap.mp h
  obtain ⟨v, hv, rfl⟩ := List.mem_map.mp h
  have := List.mem_range.mp hu
  have := List.mem_range.mp hv
  exact ⟨⟨by omega, by simp; omega⟩, ⟨by omega, by simp; omega⟩⟩
theorem plain_pairs (l : List (Int × Int)) : (T.lst (l.map pairI)).isBelow 0 = true := pairs_plain l
section
variable {st : Store}
theorem kb_ok {ps : List Int} (h5 : ps.length ≤ 5) : kb_e [some (intsT ps), none, none] st = .ok (.lst ((kinds2 ps.length).map pairI)) st := by
  unfold kb_e
  have ln : eL kLen (aCons (eVar 0) aNil) [some (intsT ps), none, none] st = .ok (.int (ps.length : Int)) st := eq_of (r_eL (r_cons (r_v rfl (r_nil (r_lenIs ⟨rfl, rfl⟩)))))
  refine eq_of (r_comp (range1_ok (n := (ps.length : Int)) (s1 := st) ln (by omega) (by omega) ?_))
  refine (compK_rule (fun i acc s => acc = ((List.range i).flatMap fun u : Nat => (List.range u).map fun v : Nat => ((u : Int), (v : Int))).map pairI ∧ i ≤ 5 ∧ s = st) ⟨rfl, by omega, rfl⟩ (fun _ _ _ _ => trivial) ?_).imp ?_
  · rintro i x acc s hx ⟨rfl, hi5, rfl⟩
    obtain ⟨rfl, hi⟩ := rangeT_get (show (Mir.rangeT 0 (ps.length : Int).toNat)[i]? = some x from hx)
    refine ⟨_, rfl, r_of (a := true) (s := s) rfl ⟨fun q => (by cases q), fun _ => ?_⟩⟩
    refine r_of (a := ((List.range i).flatMap fun u : Nat => (List.range u).map fun v : Nat => ((u : Int), (v : Int))).map pairI ++ (List.range i).map fun v : Nat => pairI ((i : Int), (v : Int))) (s := s) ?_ ?_
    · unfold compK2
      have mi : iRange1 (eVar 1) ((wipeE [some (intsT ps), none, none] [1, 2]).set 1 (some (.int (i : Int)))) s = .ok ⟨Mir.rangeT 0 i, fun _ => True⟩ s := eq_of (range1_ok (n := (i : Int)) (s1 := s) rfl (by omega) (by omega) ⟨by simp, rfl⟩)
      rw [mi]
      dsimp only [R.noexc, R.bind]
      refine comp_rg (fun v => pairI ((i : Int), (v : Int))) ?_ fun v hv => ?_
      · have := kinds2_len i hi5
        unfold kinds2 at this
        rw [List.length_map, this]
        have : i * (i - 1) / 2 ≤ 5 * 4 / 2 := Nat.div_le_div_right (Nat.mul_le_mul hi5 (by omega))
        omega
      · exact eq_of (r_eL (r_cons (r_v rfl (r_cons (r_v rfl (r_nil (tupD_ok (by simp) ⟨rfl, rfl⟩)))))))
    · refine ⟨?_, by omega, rfl⟩
      rw [List.range_succ, List.flatMap_append, List.map_append]
      simp
  · rintro acc s ⟨rfl, _, rfl⟩
    have e : (Mir.rangeT 0 (ps.length : Int).toNat).length = ps.length := by rw [rangeT_len]; simp
    refine mkL_f ?_
    show T.lst (((List.range (Mir.rangeT 0 (ps.length : Int).toNat).length).flatMap _).map pairI) = .lst ((kinds2 ps.length).map pairI) ∧ s = s
    rw [e]
    exact ⟨rfl, rfl⟩
theorem kinds_by_two_spec (hw : Wf st) {ps : List Int} (h5 : ps.length ≤ 5) : f_kinds_by_two [intsT ps] st = .ok (.lst ((kinds2 ps.length).map pairI)) st := by
  refine pop_pure hw ?_
  show SA (m_kinds_by_two [some (intsT ps), none, none] st) _ _ _
  unfold m_kinds_by_two
  have cv := kb_ok (st := st) h5
  generalize kb_e = CE at cv ⊢
  exact sa_ret (r_of cv ⟨List.take_length, plain_freeze _ _ _ (plain_pairs _)⟩)
theorem bb_ok {n : Nat} (hn : n ≤ 6) : bb_e [some (.int (n : Int)), none, none] st = .ok (.lst ((burd2 n).map pairI)) st := by
  unfold bb_e
  refine eq_of (r_comp (range1_ok (n := (n : Int)) (s1 := st) rfl (by omega) (by omega) ?_))
  refine (compK_rule (fun i acc s => acc = ((List.range i).flatMap fun u : Nat => (List.range n).map fun v : Nat => ((u : Int), (v : Int))).map pairI ∧ acc.length = i * n ∧ i ≤ 6 ∧ s = st) ⟨rfl, by simp, by omega, rfl⟩ (fun _ _ _ _ => trivial) ?_).imp ?_
  · rintro i x acc s hx ⟨rfl, hal, hi5, rfl⟩
    obtain ⟨rfl, hi⟩ := rangeT_get (show (Mir.rangeT 0 (n : Int).toNat)[i]? = some x from hx)
    refine ⟨_, rfl, r_of (a := true) (s := s) rfl ⟨fun q => (by cases q), fun _ => ?_⟩⟩
    refine r_of (a := ((List.range i).flatMap fun u : Nat => (List.range n).map fun v : Nat => ((u : Int), (v : Int))).map pairI ++ (List.range n).map fun v : Nat => pairI ((i : Int), (v : Int))) (s := s) ?_ ?_
    · unfold compK2
      have mi : iRange1 (eVar 0) ((wipeE [some (T.int (n : Int)), none, none] [1, 2]).set 1 (some (.int (i : Int)))) s = .ok ⟨Mir.rangeT 0 n, fun _ => True⟩ s := eq_of (range1_ok (n := (n : Int)) (s1 := s) rfl (by omega) (by omega) ⟨by simp, rfl⟩)
      rw [mi]
      dsimp only [R.noexc, R.bind]
      refine comp_rg (fun v => pairI ((i : Int), (v : Int))) ?_ fun v hv => ?_
      · rw [hal]
        have : i * n ≤ 6 * 6 := Nat.mul_le_mul hi5 hn
        omega
      · exact eq_of (r_eL (r_cons (r_v rfl (r_cons (r_v rfl (r_nil (tupD_ok (by simp) ⟨rfl, rfl⟩)))))))
    · refine ⟨?_, ?_, by omega, rfl⟩
      · rw [List.range_succ, List.flatMap_append, List.map_append]
        simp
      · rw [List.length_append, hal, List.length_map, List.length_range, Nat.add_mul, Nat.one_mul]
  · rintro acc s ⟨rfl, _, _, rfl⟩
    have e : (Mir.rangeT 0 (n : Int).toNat).length = n := by rw [rangeT_len]; simp
    refine mkL_f ?_
    show T.lst (((List.range (Mir.rangeT 0 (n : Int).toNat).length).flatMap _).map pairI) = .lst ((burd2 n).map pairI) ∧ s = s
    rw [e]
    exact ⟨rfl, rfl⟩
theorem burdens_by_two_spec (hw : Wf st) {n : Nat} (hn : n ≤ 6) : f_burdens_by_two [.int (n : Int)] st = .ok (.lst ((burd2 n).map pairI)) st := by
  refine pop_pure hw ?_
  show SA (m_burdens_by_two [some (.int (n : Int)), none, none] st) _ _ _
  unfold m_burdens_by_two
  have cv := bb_ok (st := st) hn
  generalize bb_e = CE at cv ⊢
  exact sa_ret (r_of cv ⟨List.take_length, plain_freeze _ _ _ (plain_pairs _)⟩)
end
def tabU (tb : List (Int × Int)) : T := .tup (tb.map pairI)
theorem r_rep {ts : List T} {k : Int} {s : Store} {P : T → Store → Prop} (h1 : ts ≠ []) (h2 : 0 ≤ k ∧ k ≤ 1000) (h3 : ts.length ≤ 1000) (q : P (.tup (List.replicate k.toNat ts).flatten) s) : ROk (kRepA (.tup ts) (.int k) s) P :=
  r_of (a := .tup (List.replicate k.toNat ts).flatten) (s := s) (by unfold kRepA; simp only; rw [if_pos ⟨h1, h2.1, h2.2, h3⟩]) q
end Sh
namespace Mir
open PySem PySem.Spec PyProof.Rows L2
end Mir
namespace Mir
open PySem PySem.Spec PyProof.Rows L2
end Mir
namespace HX
open PySem PySem.Spec PyProof.Rows L2
def uniq : List (List Int) → List (List Int)
  | [] => []
  | x :: xs => if x ∈ xs then uniq xs else x :: uniq xs
end HX
namespace Mir
open PySem PySem.Spec PyProof.Rows L2
end Mir
namespace Mir
open PySem PySem.Spec PyProof.Rows L2
end Mir
namespace HX
open PySem PySem.Spec PyProof.Rows L2 LamX NdefX
structure LOk (P : Program) (w : World) (K : PySem.W.Frag) (mg : Str → Option Value) (base : Heap) (CX : CXT) (k : Nat) (f : Addr) (F : LF) (ps fr : List Str) (sp : List (Option V) → Sp) : Prop where
  len : ∀ ws vs H Q E, sp ws vs H Q E → vs.length = ps.length
  run : ∀ (A : Around) (outer : List Env) (s : Shared) (H : Hp) (us : List Value) (vs : List V) (ws : List (Option V)) (Q : VK) (E : XK), RoomG k A → Env0 P w K mg base A outer s H → H f = some (LamO f F) → H F.c = some (CodeO F.c F.qual) →
    CellsAt F.cl fr ws s.heap H → Vals vs us → sp ws vs H Q E → codeAny (model P w) A (.call (.ref f) ⟨us, []⟩) (CR CX outer P w H s Q E) s
section
variable {CX : CXT} {P : Program} {w : World} {K : PySem.W.Frag} {mg : Str → Option Value} {base : Heap} {N ps fr : List Str} {F : LF} {f : Addr} {k j : Nat} {sp sp' : List (Option V) → Sp}
theorem LOk.mono (o : LOk P w K mg base CX j f F ps fr sp) (h : j ≤ k) : LOk P w K mg base CX k f F ps fr sp := ⟨o.len, fun A outer s H us vs ws Q E hr => o.run A outer s H us vs ws Q E (hr.mono h)⟩
theorem lok_of (S : NScope N ps fr F.scope) (hb : ∀ (pm ctv : Value) (us : List Value), us.length = ps.length → bindArgs (F.fd pm ctv) ⟨us, []⟩ = pure (ps.zip us)) (len : ∀ ws vs H Q E, sp ws vs H Q E → vs.length = ps.length)
    (hbody : ∀ (A : Around) (outer : List Env) (s : Shared) (H : Hp) (vs : List V) (ws : List (Option V)) (Q : VK) (E : XK), RoomG k (A.deeper (envF F.nf f s.heap.objs.size)) → H f = some (LamO f F) → H F.c = some (CodeO F.c F.qual) → ws.length = fr.length → sp ws vs H Q E →
      ∃ t, PE (ncx CX P w K mg base N F.nf f A outer s H E) F.body t ∧ t (startF N vs ws) H Q) :
    LOk P w K mg base CX (k + 1) f F ps fr sp := by
  refine ⟨len, fun A outer s H us vs ws Q E hr e0 hf hc C r hsp => ?_⟩
  have hl := len _ _ _ _ _ hsp
  have lim : s.heap.NoLimit := e0.mod.nolimit.keeps fun b o e => (e0.bs b o e).1
  obtain ⟨od, sl, pm, ctv, ho⟩ := lamO_at e0.hok hf
  have S' : NScope N ps fr F.nf.scope := S
  refine PySem.W.kla_callFunE hr.depth ho rfl S.co S.gen rfl (codeO_at e0.hok hc) ?_
  rw [hb pm ctv us (by rw [← r.length]; exact hl)]
  refine wpAny_pure (wpAny_newFunctionEnv S.nocell (fun ⟨n, _⟩ hy => S.par n (List.of_mem_zip hy).1) (fun h₁ hns hsb => ⟨lim.fresh _ hsb, ?_⟩) S.kind)
  show codeAny _ _ (.expr F.body (envF F.nf f s.heap.objs.size)) _ _
  have kp : ∀ b o, s.heap.get? b = some o → h₁.get? b = some o := fun b o e => hsb.extBut b o (Nat.ne_of_lt (Heap.lt_size e)) (Heap.get?_push_of_some _ e)
  obtain ⟨t, ht, hq⟩ := hbody A outer s H vs ws Q E (hr.deeper _) hf hc C.len hsp
  have C' : CellsAt F.nf.cl fr ws s.heap H := C
  have I : Inv (ncx CX P w K mg base N F.nf f A outer s H E) [] (startF N vs ws) H { s with heap := h₁, toks := s.toks + (ps.zip us).length } := inv_startN S' hr.hd e0 hl r C' hns kp
  refine PySem.W.kla_codeExpr (wpAny_mono (ht.run [] _ (startF N vs ws) H Q I hq) (fun v s' hs => ?_) fun e s' hs => hs)
  obtain ⟨w', H', J', rv, q⟩ := hs
  exact ⟨w', H', J'.os, J'.bare, J'.base, J'.hok, rv, q⟩
end
section
variable {X : Cx} {CX : CXT} {k j : Nat} {ps fr : List Str} {js : List Nat} {E : XK} {F : LF} {sp : List (Option V) → Sp}
theorem run_l {pins : List (Addr × Obj)} {σ : L2.St} {H : Hp} {s : Shared} {Q : VK} {f : Addr} {us : List Value} {vs : List V} {ws : List (Option V)} (Fn : LOk X.prog X.w X.K X.mg X.base CX k f F ps fr sp) (hr : RoomG j X.A) (hk : k ≤ j) (hx : PassesAt CX X σ E) (I : Inv X pins σ H s)
    (hf : H f = some (LamO f F)) (hc : H F.c = some (CodeO F.c F.qual)) (C : CellsAt F.cl fr ws s.heap H) (r : Vals vs us) (q : sp ws vs H Q E) :
    wpAny (model X.prog X.w) X.A (call (.ref f) us) (EP X pins σ Q) X.xe s := by
  refine wpAny_call (codeAny_mono (Fn.run X.A X.stack s H us vs _ Q E (hr.mono hk) I.env0 hf hc C r q) fun r s' hq => ?_)
  cases r with
  | error e => exact hx pins H s e s' I hq
  | ok fl =>
    cases fl with
    | ret u => exact I.after hq
    | next => exact False.elim hq
    | brk => exact False.elim hq
    | cont => exact False.elim hq
theorem lamAt_of {pins : List (Addr × Obj)} {σ : L2.St} {H : Hp} {s : Shared} {f : Addr} (I : Inv X pins σ H s) (e : H f = some (LamO f F)) : PySem.W.FnAt f s.heap := by
  obtain ⟨od, sl, pm, ctv, ho⟩ := lamO_at I.hok e
  exact ⟨_, od, _, sl, ho⟩
end
theorem law_callTG {P : Program} {w : World} {K : PySem.W.Frag} {mg mb : Str → Option Value} {CX : CXT} {k : Nat} {fa a : Addr} {cs : List (Addr × Addr)} {fd : FuncData} {x : Str} {sp : Sp} {s₁ : Shared} {vs : List Value} {ns : List Int}
    (KX : K.In s₁.heap) (hns : s₁.heap.Ns mainGlobals mg) (hb : s₁.heap.Ns builtinsNs mb) (hbb : ∀ x : Str, x ≠ "__name__" → mb x = bootBuiltins x) (hlim : s₁.heap.NoLimit) (hg : s₁.gens = #[])
    (hT : ∀ p ∈ cs, s₁.heap.get? p.2 = some { cls := .none, data := .fields #[] }) (nT : ∀ p ∈ cs, K.lookup p.2 = none) (C : ∀ p ∈ cs, PySem.W.CodeHd s₁.heap p.1 p.2)
    (hbm : ∃ (bm : Addr) (ob : Obj), mg "__builtins__" = some (.ref bm) ∧ bm ≠ builtinsNs ∧ s₁.heap.get? bm = some ob ∧ ob.cls = .type "module" ∧ ob.dict = some builtinsNs ∧ ob.data = .plain)
    (ha : s₁.heap.get? a = some { cls := .type "list", data := .seq vs.toArray }) (hi : IntsAre vs ns) (hl : ns.length ≤ sizeLine) (hr : RoomG k callerA)
    (F : ∀ base : Heap, K.In base → base.Ns mainGlobals mg → (∀ p ∈ cs, TabB base mg p.1 p.2) → FnG P w K mg base CX k fa fd [x] sp) (hbind : ∀ (s : Shared) (u : Value), BindsTo s fd ⟨[u], []⟩ [(x, u)])
    (hsp : ∀ H : Hp, (∀ p ∈ cs, H p.2 = some (.tbl #[])) → SqL K H a (ns.map V.int) → sp [.ref a] H (fun v _ => v = .bl true) fun _ _ _ => False)
    (hCX : ∀ H e s', CX [] H s₁ (fun _ _ _ => False) e s' → False) :
    codeAny (model P w) callerA (.call (.ref fa) ⟨[.ref a], []⟩) (fun r s' => r = .ok (.ret (.bool true)) ∧ OldK s₁.heap s'.heap ∧ s'.os = s₁.os ∧ AllBare s'.gens) s₁ := by
  have rv := vals_ints hi
  have lenV := hi.length
  have isT : ∀ b : Addr, b ∈ cs.map (·.2) → s₁.heap.get? b = some { cls := .none, data := .fields #[] } := fun b hb => by
    obtain ⟨p, hp, e⟩ := List.mem_map.mp hb
    rw [← e]
    exact hT p hp
  have aT : a ∉ cs.map (·.2) := fun z => by
    have q := isT a z
    rw [ha] at q
    have z' : Data.seq vs.toArray _ = Data.fields #[] := congrArg Obj.data (Option.some.inj q)
    cases z'
  have memT : ∀ p ∈ cs, p.2 ∈ cs.map (·.2) := fun p hp => List.mem_map.mpr ⟨p, hp, rfl⟩
  have core : ∀ H : Hp, (∀ p ∈ cs, H p.2 = some (.tbl #[])) → (∀ b, H b = none ∨ b ∈ cs.map (·.2) ∨ ∃ o xs, H b = some (.frz o (.lst xs))) → SqL K H a (ns.map V.int) → HOk P w H s₁.heap → (∀ b, H b ≠ none → b = a ∨ b ∈ cs.map (·.2)) → (H a ≠ none → K.lookup a = none) →
      codeAny (model P w) callerA (.call (.ref fa) ⟨[.ref a], []⟩) (fun r s' => r = .ok (.ret (.bool true)) ∧ OldK s₁.heap s'.heap ∧ s'.os = s₁.os ∧ AllBare s'.gens) s₁ := by
    intro H hH hO hS hok hA hK
    have base_of : ∀ {b : Addr} {o : Obj}, s₁.heap.get? b = some o → H b = none → (hidT s₁.heap H).get? b = some o := fun e n => hidT_get e n
    have noD : ∀ {b : Addr} {o : Obj}, s₁.heap.get? b = some o → (∀ vs n, o.data ≠ .seq vs n) → o.data ≠ .fields #[] → H b = none := fun {b o} e h1 h2 => by
      cases q : H b with
      | none => rfl
      | some u =>
        rcases hA b (by rw [q]; simp) with e' | e'
        · rw [e', ha] at e
          cases e
          exact (h1 _ _ rfl).elim
        · rw [isT b e'] at e
          cases e
          exact (h2 rfl).elim
    have noA : ∀ {b : Addr} {o : Obj} {es : Array DictEntry} {ep : Nat}, s₁.heap.get? b = some o → o.data = .dict es ep → H b = none := fun {b o es ep} e d => by
      refine noD e (fun vs n z => ?_) fun z => ?_
      · rw [d] at z
        cases z
      · rw [d] at z
        cases z
    have nsK : ∀ {b : Addr} {m : Str → Option Value}, s₁.heap.Ns b m → (hidT s₁.heap H).Ns b m := fun {b m} ⟨o, es, ep, e, d, r⟩ => ⟨o, es, ep, base_of e (noA e d), d, r⟩
    have hKb : K.In (hidT s₁.heap H) := fun b o e => base_of (KX b o e) (by
      cases q : H b with
      | none => rfl
      | some u =>
        rcases hA b (by rw [q]; simp) with e' | e'
        · rw [e'] at e q
          rw [hK (by rw [q]; simp)] at e
          cases e
        · obtain ⟨p, hp, ep⟩ := List.mem_map.mp e'
          rw [← ep, nT p hp] at e
          cases e)
    have hM : L2.Mod K mg (hidT s₁.heap H) := ⟨hKb, nsK hns, ⟨mb, nsK hb, hbb⟩, let ⟨mc, h1, h2⟩ := hlim; ⟨mc, nsK h1, h2⟩⟩
    have TB : ∀ p ∈ cs, TabB (hidT s₁.heap H) mg p.1 p.2 := fun p hp => by
      have hTp := hT p hp
      refine ⟨?_, ?_, fun z => ?_⟩
      · obtain ⟨o, us, file, tf, flags, tg, inF, text, tt, e1, r1, r2, r3, r4, r5, r6, r7, r8, hne⟩ := C p hp
        refine ⟨o, us, file, tf, flags, tg, inF, text, tt, base_of e1 (noD e1 (fun vs n z => ?_) fun z => ?_), r1, r2, r3, r4, r5, r6, r7, r8, hne⟩
        · rw [r2] at z
          cases z
        · rw [r2] at z
          cases z
          simp at r3
      · obtain ⟨bm, ob, b1, b2, b3, b4, b5, b6⟩ := hbm
        have nG : bm ≠ mainGlobals := fun q => by
          obtain ⟨o, es, ep, e, hd, _⟩ := hns
          rw [q, e] at b3
          cases b3
          rw [hd] at b6
          cases b6
        have nP : bm ≠ p.2 := fun q => by
          rw [q, hTp] at b3
          cases b3
          cases b6
        refine ⟨bm, ob, b1, b2, nG, nP, base_of b3 (noD b3 (fun vs n z => ?_) fun z => ?_), b4, b5, b6⟩
        · rw [b6] at z
          cases z
        · rw [b6] at z
          cases z
      · obtain ⟨o, es, ep, e, hd, _⟩ := hns
        rw [z, hTp] at e
        cases e
        cases hd
    have e0 : Env0 P w K mg (hidT s₁.heap H) callerA [] s₁ H := ⟨rfl, hM, fun b o e => of_hidT e, Nat.le_of_eq (hidT_size _ _), trivial, fun b hb => absurd (show b ∈ ([] : List Addr) from hb) (by simp), hok, .of_eq hg⟩
    refine codeAny_mono ((F _ hKb (nsK hns) TB).goes callerA [] s₁ H ⟨[.ref a], []⟩ [.ref a] [.ref a] _ _ hr e0 (hbind s₁ (.ref a)) (.cons rfl .nil) (hsp H hH hS)) fun r s' h => ?_
    cases r with
    | error e => exact (hCX H e s' h).elim
    | ok fl =>
      cases fl with
      | next => exact False.elim h
      | brk => exact False.elim h
      | cont => exact False.elim h
      | ret u =>
        obtain ⟨v, H', os, bare, un, hok', r', q⟩ := h
        have q' : v = .bl true := q
        subst q'
        obtain rfl : u = Value.bool true := r'
        have key : ∀ b o, b ∉ cs.map (·.2) → s₁.heap.get? b = some o → s'.heap.get? b = some o := fun b o nb e => by
          cases q : H b with
          | none => exact un.keep b o e q (by intro z; exact absurd (show b ∈ ([] : List Addr) from z) (by simp)) (by simp)
          | some u =>
            rcases hO b with z | z | ⟨ob, xs, z⟩
            · rw [q] at z; cases z
            · exact absurd z nb
            · have z2 := un.frzs b ob _ z
              obtain ⟨e1, _⟩ := hok b _ z
              obtain ⟨e2, _⟩ := hok' b _ z2
              rw [e] at e1; cases e1
              exact e2
        have grown : ∀ p ∈ cs, ∃ more : Array Value, s'.heap.get? p.2 = some { cls := .none, data := .fields more } := fun p hp => by
          obtain ⟨more, z⟩ := un.tbls p.2 #[] (hH p hp)
          exact ⟨_, hok' p.2 _ z⟩
        refine ⟨rfl, ⟨fun b o e => ?_, fun b o e => ?_⟩, os, bare⟩
        · by_cases hb : b ∈ cs.map (·.2)
          · obtain ⟨p, hp, ep⟩ := List.mem_map.mp hb
            obtain ⟨more, hm⟩ := grown p hp
            rw [← ep] at e ⊢
            rw [hT p hp] at e
            cases e
            exact .inr (.inl ⟨((C p hp).tab (hT p hp)).isCodeTable, rfl, #[], more, rfl, by rw [Array.empty_append]; exact hm⟩)
          · exact .inl (key b o hb e)
        · by_cases hb : b ∈ cs.map (·.2)
          · obtain ⟨p, hp, ep⟩ := List.mem_map.mp hb
            obtain ⟨more, hm⟩ := grown p hp
            rw [← ep]
            exact ⟨_, hm⟩
          · exact ⟨o, key b o hb e⟩
  cases hk : K.lookup a with
  | some o =>
    have e := KX a o hk
    rw [ha] at e
    cases e
    refine core (fun b => if b ∈ cs.map (·.2) then some (.tbl #[]) else none) (fun p hp => if_pos (memT p hp)) (fun b => ?_) (.inr ⟨_, vs.toArray, _, hk, rfl, rfl, rfl, by rw [List.size_toArray, lenV]; exact hl, by simpa using rv⟩) (fun b u z => ?_) (fun b z => ?_) fun z => absurd (show (if a ∈ cs.map (·.2) then some (HO.tbl #[]) else none) = none from if_neg aT) z
    · by_cases hb : b ∈ cs.map (·.2)
      · exact .inr (.inl hb)
      · exact .inl (if_neg hb)
    · by_cases hb : b ∈ cs.map (·.2)
      · have z' := (if_pos hb).symm.trans z
        cases z'
        exact isT b hb
      · have z' := (if_neg hb).symm.trans z
        cases z'
    · by_cases hb : b ∈ cs.map (·.2)
      · exact .inr hb
      · exact absurd (if_neg hb) z
  | none =>
    refine core (fun b => if b = a then some (.frz { cls := .type "list", data := .seq vs.toArray } (.lst (ns.map V.int))) else if b ∈ cs.map (·.2) then some (.tbl #[]) else none) (fun p hp => (if_neg (show ¬ p.2 = a from fun z => aT (by rw [← z]; exact memT p hp))).trans (if_pos (memT p hp))) (fun b => ?_)
      (.inl (.inr ⟨{ cls := .type "list", data := .seq vs.toArray }, if_pos rfl⟩)) (fun b u z => ?_) (fun b z => ?_) fun _ => hk
    · by_cases hb : b = a
      · exact .inr (.inr ⟨_, _, if_pos hb⟩)
      · by_cases hb2 : b ∈ cs.map (·.2)
        · exact .inr (.inl hb2)
        · exact .inl ((if_neg hb).trans (if_neg hb2))
    · by_cases hb : b = a
      · have z' := (if_pos hb).symm.trans z
        cases z'
        rw [hb]
        exact ⟨ha, by rw [List.length_map]; exact hl, vs, _, rv, ha⟩
      · have z1 := (if_neg hb).symm.trans z
        by_cases hb2 : b ∈ cs.map (·.2)
        · have z' := (if_pos hb2).symm.trans z1
          cases z'
          exact isT b hb2
        · have z' := (if_neg hb2).symm.trans z1
          cases z'
    · by_cases hb : b = a
      · exact .inl hb
      · by_cases hb2 : b ∈ cs.map (·.2)
        · exact .inr hb2
        · exact absurd ((if_neg hb).trans (if_neg hb2)) z
def OwnTabs (q : Program) (K : PySem.W.Frag) (mg : Str → Option Value) (h : Heap) : Prop := ∀ (x : Str) (fa : Addr), ((recsOf q).any fun e => e.name == x) = true → mg x = some (.ref fa) → OwnTab K fa h
structure LawTG (P : Program) (w : World) (K : PySem.W.Frag) (CX : CXT) (k n : Nat) (x : Str) (mg : Str → Option Value) (fa : Addr) (h : Heap) : Prop where
  ex : ∃ (fd : FuncData) (cs : List (Addr × Addr)) (sp : Sp), (∀ p ∈ cs, h.get? p.2 = some { cls := .none, data := .fields #[] }) ∧ (∀ p ∈ cs, K.lookup p.2 = none) ∧ (∀ p ∈ cs, PySem.W.CodeHd h p.1 p.2) ∧ (∀ (s : Shared) (u : Value), BindsTo s fd ⟨[u], []⟩ [(x, u)]) ∧
    (∀ (H : Hp) (a : Addr) (ns : List Int), ns.length ≤ n → (∀ p ∈ cs, H p.2 = some (.tbl #[])) → SqL K H a (ns.map V.int) → sp [.ref a] H (fun v _ => v = .bl true) fun _ _ _ => False) ∧
    ∀ base : Heap, K.In base → base.Ns mainGlobals mg → (∀ p ∈ cs, TabB base mg p.1 p.2) → FnG P w K mg base CX k fa fd [x] sp
theorem walk_ofTG {l : PySem.W.OpenLaw} {n k : Nat} {q : Program} {loose : List Str} {XP : (Str → Option Value) → Heap → Prop} {YP : World → Heap → Prop} {d : DefRec} {K : Params → PySem.W.Frag} {CX : World → CXT} {x : Str}
    (hn : l.most = some n) (hn2 : n ≤ sizeLine) (hdf : d.params.defaults = []) (hr : RoomG k callerA) (hY : ∀ (w : World) (h : Heap), YP w h → (K w.params).In h)
    (F : ∀ (w : World) (mg : Str → Option Value) (fa : Addr) (h : Heap), (K w.params).In h → h.Ns mainGlobals mg → mg d.name = some (.ref fa) → OwnTabs q (K w.params) mg h → LawTG l.prog w (K w.params) (CX w) k n x mg fa h)
    (hCX : ∀ (w : World) (H : Hp) (s : Shared) (e : Value) (s' : Shared), CX w [] H s (fun _ _ _ => False) e s' → False) :
    PySem.W.WalkO q loose XP YP l.row.toRowW d [] (fun f vs => PySem.call f vs) := by
  refine Att.attach_callB hn hdf fun w s₀ s₁ mg mb fa o pm cd doc a vs ns G Y ho hd hcd hmg hobj hints hlen hbits hg => ?_
  have KX := hY w _ Y
  have own : OwnTabs q (K w.params) mg s₁.heap := fun x fx hrec hmx c P o1 fd1 e dd vs1 sl k1 k2 k3 k4 k5 => by
    obtain ⟨dL, hm, hn1⟩ := List.any_eq_true.mp hrec
    have hn2 : dL.name = x := beq_iff_eq.mp hn1
    obtain ⟨a', o', fd', c', P', h1, h2, h3, h4, h5, h6⟩ := G.T.tab dL hm
    rw [hn2, hmx] at h1
    cases h1
    have g1 := KX _ _ k1
    rw [g1] at h2
    cases h2
    rw [k2] at h3
    cases h3
    rw [k3] at h4
    cases h4
    obtain ⟨⟨oc, vc, e1, _, e3, e4⟩, hP⟩ := h6
    have g2 := KX _ _ k4
    rw [g2] at e1
    cases e1
    cases e3
    rw [k5] at e4
    cases e4
    exact hP
  obtain ⟨fd, cs, sp, hT, nT, C, hb, hsp, hF⟩ := (F w mg fa _ KX G.T.g hmg own).ex
  exact law_callTG KX G.T.g G.T.b G.T.builtins G.T.nolimit hg hT nT C G.T.bmain hobj hints (Nat.le_trans hlen hn2) hr hF hb (fun H hH hS => hsp H a ns hlen hH hS) fun H e s' => hCX w H s₁ e s'
theorem own_tab {q : Program} {K : PySem.W.Frag} {mg : Str → Option Value} {h : Heap} {x : Str} {f c P : Addr} {st : Stmt} {oc kV doc pm ct : Value} {od an : Option Addr} {osl : Array (Option Value)} {qual : Str} (T : OwnTabs q K mg h) (hrec : ((recsOf q).any fun e => e.name == x) = true) (hm : mg x = some (.ref f))
    (l : K.lookup f = some ⟨oc, od, .func (PySem.W.fnOf x qual (defArgs st) (defBody st) (defScope st) .none kV doc pm an (.ref c) ct), osl⟩) (hh : PySem.W.codeHdIn K c P = true) : h.get? P = some { cls := .none, data := .fields #[] } := by
  have O := T x f hrec hm
  unfold PySem.W.codeHdIn at hh
  split at hh
  · rename_i vs _ hk
    simp only [Bool.and_eq_true] at hh
    obtain ⟨⟨⟨⟨⟨e1, e2⟩, e3⟩, e4⟩, e5⟩, e6⟩ := hh
    split at e1
    · rename_i P' h11
      have hP : P' = P := beq_iff_eq.mp e1
      subst hP
      exact O c P' _ _ _ _ vs _ l rfl rfl hk h11
    · cases e1
  · cases hh
end HX
namespace Mir
variable [Tabl]
open PySem PySem.Spec PyProof.Rows L2
def callV (L : Nat → List T → M T) (m : ME) (mr : Env → M (List T)) : ME := fun env st => (m env st).bind fun t st1 => match t with
  | .fn n => (mr env st1).bind fun ts st2 => L n ts st2
  | _ => .stuck
section
variable {ρ : Ro} {H H1 : Hp} {st : Store}
theorem Ext.lam (eN : LamX.ExtN H H1) (nn : ∀ b, H1 b = none → H b = none) (tb : ∀ b ps, H b = some (.tbl ps) → ∃ qs, H1 b = some (.tbl qs)) : Ext ρ H ρ H1 :=
  ⟨⟨[], by simp⟩, rfl, fun _ h => h, fun _ h => .inl h, fun _ h => .inl h, fun b xs h => eN b _ h (fun _ z => nomatch z), fun b o h _ nt => eN b o h nt, tb⟩
theorem Rel.lam (r : Rel ρ st H) (eN : LamX.ExtN H H1) (nn : ∀ b, H1 b = none → H b = none) (tb : ∀ b ps, H b = some (.tbl ps) → ∃ qs, H1 b = some (.tbl qs)) (T1 : NdefX.TabsN Tabl.T H1) : Rel ρ st H1 := by
  refine ⟨r.len, r.nodup, fun n ob a e g => OV_grow (Ext.lam eN nn tb).grow (h := r.at_ n ob a e g) fun o h => ?_, fun a h => ?_, T1⟩
  · obtain ⟨o', e1, e2, _⟩ := OV_some2 (r.at_ n ob a e g)
    rw [h] at e1
    cases e1
    exact eN a o h e2
  · obtain ⟨h1, o, h2, h3⟩ := r.priv a h
    refine ⟨h1, ?_⟩
    rcases tbl_or o with ⟨ps, rfl⟩ | z
    · obtain ⟨qs, q⟩ := tb a ps h2
      exact ⟨_, q, fun _ z => nomatch z⟩
    · exact ⟨o, eN a o h2 z, h3⟩
end
section
variable {X : Cx} {W : WX} {pos p : Pos} {e : Expr} {es : List Expr} {mr : Env → M (List T)} {x : Str} {k j i : Nat}
theorem j_lam {nm : Nat → Nat → Str} {c P : Addr} {params : Arguments} {body : Expr} {scope : Scope} (n : Nat) (TB : LamX.TabB X.base X.mg c P) (hcode : X.env.code = .ref c) (hm : (P, nm) ∈ Tabl.T) (hn : nm pos.line pos.col = X.env.qual ++ "<lambda>")
    (hdef : defaultsOf params X.env = ([], [])) (hfree : ∀ y ∈ scope.names, y.2 = .free → False) (hlf : ∀ c', Tabl.lf n c' = ⟨X.env.qual ++ "<lambda>", params, body, scope, cloFrom X.env.cells scope.names [], c'⟩) :
    JE X W (.Lambda params body scope pos) (eC (.fn n)) := by
  refine ⟨fun pins s σ H Q I ⟨ρ, st, env, hK, rel, re, h⟩ => ?_⟩
  refine HX.lam_makeN I TB hcode hm hn (fun q hq e => (Tabl.uniq q hq _ hm e)) rel.tabs hdef (fun y hy z => (hfree y hy z).elim) fun f c' H1 s' I1 eN nn tb T1 f0 f1 c1 => ?_
  have x1 : Ext ρ H ρ H1 := Ext.lam eN nn tb
  have r1 := rel.lam eN nn tb T1
  refine ⟨.ref f, H1, I1, rfl, h ρ H1 x1 r1 (.ref f) ⟨f, c', rfl, by rw [hlf c']; exact f1, by rw [hlf c']; exact c1, ⟨rel.out f0, rel.notd f0⟩, ⟨fun z => ?_, fun z => ?_⟩⟩⟩
  · obtain ⟨o, e1, _, e3⟩ := r1.tracked2 z
    rw [c1] at e1
    cases e1
    exact e3 _ rfl
  · obtain ⟨_, o, e1, e3⟩ := r1.priv _ z
    rw [c1] at e1
    cases e1
    exact e3 _ rfl
end
section
variable {P : Program} {w : World} {K : PySem.W.Frag} {mg : Str → Option Value} {base : Heap}
def DefBodyC (P : Program) (w : World) (K : PySem.W.Frag) (mg : Str → Option Value) (base : Heap) (k : Nat) (N : List Str) (qual : Str) (sc : Scope) (f : Addr) (cdv : Value) (b : List Stmt) (m : MS) : Prop :=
  ∀ (A : Around) (outer : List PySem.Env) (s : Shared) (H : Hp) (E : XK), HX.RoomG k (A.deeper (envOfC qual sc s.heap.objs.size f cdv)) → JB (BX P w K mg base N qual sc f cdv A outer s H E) (WB E) b m
theorem def_okC {x qual : Str} {st : Stmt} {f : Addr} {oc kV doc pm cdv ct : Value} {od an : Option Addr} {osl : Array (Option Value)} {N ps : List Str} {k : Nat} {m : MS} (lk : K.lookup f = some ⟨oc, od, .func (PySem.W.fnOf x qual (defArgs st) (defBody st) (defScope st) .none kV doc pm an cdv ct), osl⟩) (hc : PySem.W.codeIn K cdv qual = true) (S : FnScope N ps (defScope st))
    (hb : DefBodyC P w K mg base k N qual (defScope st) f cdv (defBody st) m) : HX.FnG P w K mg base (L2.CX P w) (k + 1) f (PySem.W.fnOf x qual (defArgs st) (defBody st) (defScope st) .none kV doc pm an cdv ct) ps (spM K mg ps.length (defM ps.length N.length m)) := by
  refine HX.fn_ofG lk hc S (spM_len (n := ps.length)) fun A outer s H vs Q E hr ⟨ρ, st', ts, hK, rel, rv, hl, h⟩ => ⟨_, hb A outer s H E hr, ?_⟩
  refine ⟨ρ, st', ts.map some ++ List.replicate (N.length - ts.length) none, hK, rel, RE.start rv, ?_⟩
  unfold defM at h
  rw [hl]
  cases hm : m (ts.map some ++ List.replicate (N.length - ps.length) none) st' with
  | nx e s' =>
    rw [hm] at h
    exact fun ρ' H' σ x r re => h ρ' H' x r .non rfl
  | rt t s' => rw [hm] at h; exact fun ρ' H' v x r rv => h ρ' H' x r v rv
  | bk e s' => rw [hm] at h; exact h.elim
  | ct e s' => rw [hm] at h; exact h.elim
  | exc xx e s' => rw [hm] at h; exact fun ρ' H' σ c d x r re rx => h ρ' H' c d x r rx
  | stuck => rw [hm] at h; exact h.elim
theorem def_popC {x qual : Str} {st : Stmt} {f : Addr} {oc kV doc pm cdv ct : Value} {od an : Option Addr} {osl : Array (Option Value)} {N ps : List Str} {k n l : Nat} {m : MS} (lk : K.lookup f = some ⟨oc, od, .func (PySem.W.fnOf x qual (defArgs st) (defBody st) (defScope st) .none kV doc pm an cdv ct), osl⟩) (hc : PySem.W.codeIn K cdv qual = true) (S : FnScope N ps (defScope st)) (hn : ps.length = n) (hl : N.length = l)
    (hb : DefBodyC P w K mg base k N qual (defScope st) f cdv (defBody st) m) : HX.FnG P w K mg base (L2.CX P w) (k + 1) f (PySem.W.fnOf x qual (defArgs st) (defBody st) (defScope st) .none kV doc pm an cdv ct) ps (spM K mg n (popS (defM n l m))) := by
  subst hn hl
  exact popMG (def_okC lk hc S hb)
def lamM (n : Nat) (m : ME) : List T → M T := fun ts st => if ts.length = n then m (ts.map some) st else .stuck
theorem lamM_else {n : Nat} {m : ME} : ∀ (ts : List T) (st : Store), ts.length ≠ n → lamM n m ts st = .stuck := fun ts st h => if_neg h
theorem RE.lam {ρ : Ro} {H : Hp} {ts : List T} {vs : List V} {N : List Str} (hN : N.length = vs.length) (h : RVs ρ H ts vs) : RE ρ H (ts.map some) (NdefX.startF N vs []) := by
  have e : NdefX.startF N vs [] = vs.map some := by
    unfold NdefX.startF
    simp [hN]
  rw [e]
  refine ⟨by simp [h.length], fun i t q => ?_⟩
  rw [List.getElem?_map] at q
  cases q1 : ts[i]? with
  | none => rw [q1] at q; cases q
  | some u =>
    rw [q1] at q; cases q
    obtain ⟨v, hv, rv⟩ := h.get q1
    exact ⟨v, by rw [List.getElem?_map, hv]; rfl, rv⟩
theorem lam_ok {F : HX.LF} {ps : List Str} {f : Addr} {k n : Nat} {m : ME} (S : NdefX.NScope ps ps [] F.scope) (hn : ps.length = n) (hb : ∀ (pm ctv : Value) (us : List Value), us.length = ps.length → bindArgs (F.fd pm ctv) ⟨us, []⟩ = pure (ps.zip us))
    (hbody : ∀ (A : Around) (outer : List PySem.Env) (s : Shared) (H : Hp) (E : XK), HX.RoomG k (A.deeper (NdefX.envF F.nf f s.heap.objs.size)) → JE (NdefX.ncx (L2.CX P w) P w K mg base ps F.nf f A outer s H E) (WB E) F.body m) :
    HX.LOk P w K mg base (L2.CX P w) (k + 1) f F ps [] (fun _ => spM K mg n (lamM n m)) := by
  subst hn
  refine HX.lok_of S hb (fun _ vs H Q E h => spM_len vs H Q E h) fun A outer s H vs ws Q E hr _ _ hw ⟨ρ, st, ts, hK, rel, rvs, hl, h⟩ => ⟨_, hbody A outer s H E hr, ?_⟩
  have hw0 : ws = [] := List.length_eq_zero_iff.mp hw
  subst hw0
  refine ⟨ρ, st, ts.map some, hK, rel, RE.lam (by rw [rvs.length, hl]) rvs, ?_⟩
  unfold lamM at h
  rw [if_pos hl] at h
  cases hm : m (ts.map some) st with
  | ok t s' => rw [hm] at h; exact h
  | exc xx s' => rw [hm] at h; exact fun ρ' H' c d x r rx => h ρ' H' c d x r rx
  | stuck => rw [hm] at h; exact h.elim
theorem lam_no {F : HX.LF} {f : Addr} {k : Nat} : HX.LOk P w K mg base (L2.CX P w) k f F [] [] (fun _ => spM K mg 0 fun _ _ => .stuck) :=
  ⟨fun _ vs H Q E h => spM_len vs H Q E h, fun A outer s H us vs ws Q E _ _ _ _ _ _ ⟨_, _, _, _, _, _, _, h⟩ => h.elim⟩
end
def noArgs : Arguments := { posonlyargs := [], args := [], vararg := none, kwonlyargs := [], kw_defaults := [], kwarg := none, defaults := [] }
def lamParams (e : Expr) : Arguments := match e with | .Lambda a _ _ _ => a | _ => noArgs
def lamBody (e : Expr) : Expr := match e with | .Lambda _ b _ _ => b | e => e
def lamScope (e : Expr) : Scope := match e with | .Lambda _ _ s _ => s | _ => { kind := .function, names := [], isGenerator := false, isCoroutine := false, more := [] }
def retOf (s : Stmt) : Expr := match s with | .Return (some e) _ => e | _ => .Name "" ⟨0, 0, 0, 0⟩
def argOf (e : Expr) (i : Nat) : Expr := match e with | .Call _ as _ _ => as.getD i (.Name "" ⟨0, 0, 0, 0⟩) | e => e
end Mir
namespace HX
open PySem PySem.Spec PyProof.Rows L2 LamX NdefX
theorem RoomG.in1 {k : Nat} {A : Around} (r : RoomG (k + 1) A) : RoomG k A.in1 := ⟨r.toRoom.in1, r.gd⟩
end HX
namespace Mir
variable [Tabl]
open PySem PySem.Spec PyProof.Rows L2
def RWs (ρ : Ro) (H : Hp) (cs : List (Option T)) (ws : List (Option V)) : Prop := cs.length = ws.length ∧ ∀ (i : Nat) (t : T), cs[i]? = some (some t) → ∃ v, ws[i]? = some (some v) ∧ RV ρ H t v
theorem RE.lamC {ρ : Ro} {H : Hp} {ts : List T} {vs : List V} {cs : List (Option T)} {ws : List (Option V)} {N : List Str} (hN : N.length = vs.length + ws.length) (h : RVs ρ H ts vs) (hc : RWs ρ H cs ws) : RE ρ H (ts.map some ++ cs) (NdefX.startF N vs ws) := by
  have e : NdefX.startF N vs ws = vs.map some ++ ws := by
    unfold NdefX.startF
    have : N.length - vs.length - ws.length = 0 := by omega
    rw [this]
    simp
  rw [e]
  refine ⟨by simp [h.length, hc.1], fun i t q => ?_⟩
  by_cases hi : i < ts.length
  · rw [List.getElem?_append_left (by simpa using hi), List.getElem?_map] at q
    cases q1 : ts[i]? with
    | none => rw [q1] at q; cases q
    | some u =>
      rw [q1] at q; cases q
      obtain ⟨v, hv, rv⟩ := h.get q1
      exact ⟨v, by rw [List.getElem?_append_left (by rw [List.length_map, h.length]; exact hi), List.getElem?_map, hv]; rfl, rv⟩
  · rw [List.getElem?_append_right (by simpa using hi), List.length_map] at q
    obtain ⟨v, hv, rv⟩ := hc.2 _ t q
    exact ⟨v, by rw [List.getElem?_append_right (by rw [List.length_map, h.length]; omega), List.length_map, h.length]; exact hv, rv⟩
def spC (K : PySem.W.Frag) (mg : Str → Option Value) (n : Nat) (m : ME) : List (Option V) → Sp := fun ws vs H Q E =>
  ∃ ρ st ts cs, ρ.K = K ∧ Rel ρ st H ∧ RVs ρ H ts vs ∧ ts.length = n ∧ RWs ρ H cs ws ∧ Fin mg (fun c d _ H => E c d H) ρ H [] (m (ts.map some ++ cs) st) (KQ Q)
section
variable {P : Program} {w : World} {K : PySem.W.Frag} {mg : Str → Option Value} {base : Heap}
theorem lam_okC {F : HX.LF} {N ps fr : List Str} {f : Addr} {k n : Nat} {m : ME} (S : NdefX.NScope N ps fr F.scope) (hn : ps.length = n) (hN : N.length = ps.length + fr.length) (hb : ∀ (pm ctv : Value) (us : List Value), us.length = ps.length → bindArgs (F.fd pm ctv) ⟨us, []⟩ = pure (ps.zip us))
    (hbody : ∀ (A : Around) (outer : List PySem.Env) (s : Shared) (H : Hp) (E : XK), HX.RoomG k (A.deeper (NdefX.envF F.nf f s.heap.objs.size)) → JE (NdefX.ncx (L2.CX P w) P w K mg base N F.nf f A outer s H E) (WB E) F.body m) :
    HX.LOk P w K mg base (L2.CX P w) (k + 1) f F ps fr (spC K mg n m) := by
  subst hn
  refine HX.lok_of S hb (fun ws vs H Q E ⟨ρ, st, ts, cs, _, _, r, hl, _⟩ => by rw [r.length, hl]) fun A outer s H vs ws Q E hr _ _ hw ⟨ρ, st, ts, cs, hK, rel, rvs, hl, hc, h⟩ => ⟨_, hbody A outer s H E hr, ?_⟩
  refine ⟨ρ, st, ts.map some ++ cs, hK, rel, RE.lamC (by rw [hN, rvs.length, hl, hw]) rvs hc, ?_⟩
  cases hm : m (ts.map some ++ cs) st with
  | ok t s' => rw [hm] at h; exact h
  | exc xx s' => rw [hm] at h; exact fun ρ' H' c d x r rx => h ρ' H' c d x r rx
  | stuck => rw [hm] at h; exact h.elim
end
def keysM (m : ME) (cs : List (Option T)) : List T → M (List T)
  | [] => fun st => .ok [] st
  | t :: ts => fun st => match m (some t :: cs) st with
    | .ok k st1 => match keysM m cs ts st1 with
      | .ok ks st2 => .ok (k :: ks) st2
      | _ => .stuck
    | _ => .stuck
theorem keysM_cons {m : ME} {cs : List (Option T)} {t : T} {ts ks : List T} {st st2 : Store} (h : keysM m cs (t :: ts) st = .ok ks st2) : ∃ k ks' st1, ks = k :: ks' ∧ m (some t :: cs) st = .ok k st1 ∧ keysM m cs ts st1 = .ok ks' st2 := by
  unfold keysM at h
  cases h1 : m (some t :: cs) st with
  | ok k st1 =>
    rw [h1] at h
    dsimp only at h
    cases h2 : keysM m cs ts st1 with
    | ok ks' s2 =>
      rw [h2] at h
      cases h
      exact ⟨k, ks', st1, rfl, rfl, h2⟩
    | exc x s => rw [h2] at h; cases h
    | stuck => rw [h2] at h; cases h
  | exc x s => rw [h1] at h; cases h
  | stuck => rw [h1] at h; cases h
section
variable {X : Cx} {F : HX.LF} {f kS : Addr} {m : ME} {cs : List (Option T)} {ws : List (Option V)} {ts : List T} {xs : List V} {K : List T} {stE : Store} {ρ0 : Ro} {H0 : Hp}
structure KJ (X : Cx) (F : HX.LF) (f kS : Addr) (m : ME) (cs : List (Option T)) (ws : List (Option V)) (ts : List T) (xs : List V) (K : List T) (stE : Store) (ρ0 : Ro) (H0 : Hp) (i : Nat) (ks : List V) (H : Hp) : Prop where
  ex : ∃ ρ st, CS X.K kS ρ st H (K.take i) ∧ H kS = some (.lst ks) ∧ RVs ρ H ts xs ∧ RWs ρ H cs ws ∧ (H f = some (HX.LamO f F) ∧ f ∉ ρ.s ∧ f ∉ ρ.d) ∧ (H F.c = some (LamX.CodeO F.c F.qual) ∧ F.c ∉ ρ.s ∧ F.c ∉ ρ.d) ∧ NExt kS ρ0 H0 ρ H ∧ keysM m cs (ts.drop i) st = .ok (K.drop i) stE
theorem RWs.grow {ρ ρ' : Ro} {H H' : Hp} (e : Grow ρ H ρ' H') (h : RWs ρ H cs ws) : RWs ρ' H' cs ws := ⟨h.1, fun i t q => let ⟨v, a, b⟩ := h.2 i t q; ⟨v, a, b.grow e⟩⟩
theorem KJ.step {i : Nat} {ks : List V} {H : Hp} {x : V} (h : KJ X F f kS m cs ws ts xs K stE ρ0 H0 i ks H) (hx : xs[i]? = some x) :
    (H f = some (HX.LamO f F) ∧ H F.c = some (LamX.CodeO F.c F.qual)) ∧ spC X.K X.mg 1 m ws [x] H (fun w H2 => H2 kS = some (.lst ks) ∧ KJ X F f kS m cs ws ts xs K stE ρ0 H0 (i + 1) (ks ++ [w]) (upd H2 kS (.lst (ks ++ [w])))) fun _ _ _ => False := by
  obtain ⟨ρ, st, c, hk, rv, rc, ⟨f1, f2, f3⟩, ⟨c1, c2, c3⟩, ne, hm⟩ := h.ex
  obtain ⟨t, ht, rx⟩ := rv.get' hx
  have hil := (List.getElem?_eq_some_iff.mp ht).1
  have hd : ts.drop i = t :: ts.drop (i + 1) := by
    rw [List.drop_eq_getElem_cons hil, (List.getElem?_eq_some_iff.mp ht).2]
  rw [hd] at hm
  obtain ⟨k, ks', st1, e1, e2, e3⟩ := keysM_cons hm
  have hki : K[i]? = some k := by
    have : (K.drop i)[0]? = some k := by rw [e1]; rfl
    simpa using this
  have hkd : K.drop (i + 1) = ks' := by rw [← List.drop_drop, e1]; rfl
  refine ⟨⟨f1, c1⟩, ρ, st, [t], cs, c.K, c.rel, ⟨x, [], rfl, rx, rfl⟩, rfl, rc, ?_⟩
  show Fin X.mg _ ρ H [] (m (some t :: cs) st) _
  rw [e2]
  intro ρ' H' x' rel' v rvk
  have c4 := c.step x' rel'
  obtain ⟨ys, h1, h2⟩ := c4.l
  have hkS : H' kS = some (.lst ks) := x'.keep _ _ hk (c.rel.priv _ c.d).1 fun _ z => nomatch z
  rw [hkS] at h1
  cases h1
  have gp : Grow ρ' H' ρ' (upd H' kS (.lst (ks ++ [v]))) := Grow.poke c4.d hkS
  have kf : H' f = some (HX.LamO f F) := x'.keep _ _ f1 f2 fun _ z => by unfold HX.LamO at z; cases z
  have kc : H' F.c = some (LamX.CodeO F.c F.qual) := x'.keep _ _ c1 c2 fun _ z => by unfold LamX.CodeO at z; cases z
  have nf : f ≠ kS := fun z => by rw [z, hkS] at kf; unfold HX.LamO at kf; cases kf
  have nc : F.c ≠ kS := fun z => by rw [z, hkS] at kc; unfold LamX.CodeO at kc; cases kc
  refine ⟨hkS, ⟨ρ', st1, ⟨c4.K, c4.d, ⟨ks ++ [v], upd_same, ?_⟩, rel'.poke c4.d hkS⟩, upd_same, (rv.mono x').grow gp, (rc.grow x'.grow).grow gp, ⟨by rw [upd_ne nf]; exact kf, x'.notin f1 f2, x'.notd f1 f2 f3⟩, ⟨by rw [upd_ne nc]; exact kc, x'.notin c1 c2, x'.notd c1 c2 c3⟩, ?_, by rw [hkd]; exact e3⟩⟩
  · rw [List.take_add_one, hki]
    exact RVs.grow gp (h2.append ⟨v, [], rfl, rvk, rfl⟩)
  · have e5 : NExt kS ρ0 H0 ρ' H' := Ext.trans ne (c.norm x')
    show Ext ρ0 (upd H0 kS (.lst [])) ρ' (upd (upd H' kS (.lst (ks ++ [v]))) kS (.lst []))
    rw [upd_upd]
    exact e5
end
end Mir
namespace Mir
open PySem PySem.Spec PyProof.Rows L2
end Mir
namespace HX
open PySem PySem.Spec PyProof.Rows L2 LamX NdefX
structure FOk (P : Program) (w : World) (K : PySem.W.Frag) (mg : Str → Option Value) (base : Heap) (CX : CXT) (k : Nat) (f : Addr) (F : NF) (ps fr : List Str) (sp : List (Option V) → Sp) : Prop where
  len : ∀ ws vs H Q E, sp ws vs H Q E → vs.length = ps.length
  run : ∀ (A : Around) (outer : List Env) (s : Shared) (H : Hp) (us : List Value) (vs : List V) (ws : List (Option V)) (Q : VK) (E : XK), RoomG k A → Env0 P w K mg base A outer s H → H f = some (FnO f F) → H F.c = some (CodeO F.c F.qual) →
    CellsAt F.cl fr ws s.heap H → Vals vs us → sp ws vs H Q E → codeAny (model P w) A (.call (.ref f) ⟨us, []⟩) (CR CX outer P w H s Q E) s
section
variable {CX : CXT} {P : Program} {w : World} {K : PySem.W.Frag} {mg : Str → Option Value} {base : Heap} {N ps fr : List Str} {F : NF} {f : Addr} {k j : Nat} {sp sp' : List (Option V) → Sp}
theorem FOk.mono (o : FOk P w K mg base CX j f F ps fr sp) (h : j ≤ k) : FOk P w K mg base CX k f F ps fr sp := ⟨o.len, fun A outer s H us vs ws Q E hr => o.run A outer s H us vs ws Q E (hr.mono h)⟩
theorem FOk.imp (o : FOk P w K mg base CX k f F ps fr sp) (h : ∀ ws vs H Q E, sp' ws vs H Q E → sp ws vs H Q E) : FOk P w K mg base CX k f F ps fr sp' :=
  ⟨fun ws vs H Q E q => o.len ws vs H Q E (h _ _ _ _ _ q), fun A outer s H us vs ws Q E hr e0 hf hc C r q => o.run A outer s H us vs ws Q E hr e0 hf hc C r (h _ _ _ _ _ q)⟩
end
end HX
namespace Mir
variable [Tabl]
open PySem PySem.Spec PyProof.Rows L2
section
variable {X : Cx} {F : NdefX.NF} {f kS : Addr} {m : ME} {cs : List (Option T)} {ws : List (Option V)} {ts : List T} {xs : List V} {K : List T} {stE : Store} {ρ0 : Ro} {H0 : Hp}
structure FJ (X : Cx) (F : NdefX.NF) (f kS : Addr) (m : ME) (cs : List (Option T)) (ws : List (Option V)) (ts : List T) (xs : List V) (K : List T) (stE : Store) (ρ0 : Ro) (H0 : Hp) (i : Nat) (ks : List V) (H : Hp) : Prop where
  ex : ∃ ρ st, CS X.K kS ρ st H (K.take i) ∧ H kS = some (.lst ks) ∧ RVs ρ H ts xs ∧ RWs ρ H cs ws ∧ (H f = some (NdefX.FnO f F) ∧ f ∉ ρ.s ∧ f ∉ ρ.d) ∧ (H F.c = some (LamX.CodeO F.c F.qual) ∧ F.c ∉ ρ.s ∧ F.c ∉ ρ.d) ∧ NExt kS ρ0 H0 ρ H ∧ keysM m cs (ts.drop i) st = .ok (K.drop i) stE
theorem FJ.step {i : Nat} {ks : List V} {H : Hp} {x : V} (h : FJ X F f kS m cs ws ts xs K stE ρ0 H0 i ks H) (hx : xs[i]? = some x) :
    (H f = some (NdefX.FnO f F) ∧ H F.c = some (LamX.CodeO F.c F.qual)) ∧ spC X.K X.mg 1 m ws [x] H (fun w H2 => H2 kS = some (.lst ks) ∧ FJ X F f kS m cs ws ts xs K stE ρ0 H0 (i + 1) (ks ++ [w]) (upd H2 kS (.lst (ks ++ [w])))) fun _ _ _ => False := by
  obtain ⟨ρ, st, c, hk, rv, rc, ⟨f1, f2, f3⟩, ⟨c1, c2, c3⟩, ne, hm⟩ := h.ex
  obtain ⟨t, ht, rx⟩ := rv.get' hx
  have hil := (List.getElem?_eq_some_iff.mp ht).1
  have hd : ts.drop i = t :: ts.drop (i + 1) := by
    rw [List.drop_eq_getElem_cons hil, (List.getElem?_eq_some_iff.mp ht).2]
  rw [hd] at hm
  obtain ⟨k, ks', st1, e1, e2, e3⟩ := keysM_cons hm
  have hki : K[i]? = some k := by
    have : (K.drop i)[0]? = some k := by rw [e1]; rfl
    simpa using this
  have hkd : K.drop (i + 1) = ks' := by rw [← List.drop_drop, e1]; rfl
  refine ⟨⟨f1, c1⟩, ρ, st, [t], cs, c.K, c.rel, ⟨x, [], rfl, rx, rfl⟩, rfl, rc, ?_⟩
  show Fin X.mg _ ρ H [] (m (some t :: cs) st) _
  rw [e2]
  intro ρ' H' x' rel' v rvk
  have c4 := c.step x' rel'
  obtain ⟨ys, h1, h2⟩ := c4.l
  have hkS : H' kS = some (.lst ks) := x'.keep _ _ hk (c.rel.priv _ c.d).1 fun _ z => nomatch z
  rw [hkS] at h1
  cases h1
  have gp : Grow ρ' H' ρ' (upd H' kS (.lst (ks ++ [v]))) := Grow.poke c4.d hkS
  have kf : H' f = some (NdefX.FnO f F) := x'.keep _ _ f1 f2 fun _ z => by unfold NdefX.FnO at z; cases z
  have kc : H' F.c = some (LamX.CodeO F.c F.qual) := x'.keep _ _ c1 c2 fun _ z => by unfold LamX.CodeO at z; cases z
  have nf : f ≠ kS := fun z => by rw [z, hkS] at kf; unfold NdefX.FnO at kf; cases kf
  have nc : F.c ≠ kS := fun z => by rw [z, hkS] at kc; unfold LamX.CodeO at kc; cases kc
  refine ⟨hkS, ⟨ρ', st1, ⟨c4.K, c4.d, ⟨ks ++ [v], upd_same, ?_⟩, rel'.poke c4.d hkS⟩, upd_same, (rv.mono x').grow gp, (rc.grow x'.grow).grow gp, ⟨by rw [upd_ne nf]; exact kf, x'.notin f1 f2, x'.notd f1 f2 f3⟩, ⟨by rw [upd_ne nc]; exact kc, x'.notin c1 c2, x'.notd c1 c2 c3⟩, ?_, by rw [hkd]; exact e3⟩⟩
  · rw [List.take_add_one, hki]
    exact RVs.grow gp (h2.append ⟨v, [], rfl, rvk, rfl⟩)
  · have e5 : NExt kS ρ0 H0 ρ' H' := Ext.trans ne (c.norm x')
    show Ext ρ0 (upd H0 kS (.lst [])) ρ' (upd (upd H' kS (.lst (ks ++ [v]))) kS (.lst []))
    rw [upd_upd]
    exact e5
end
end Mir
namespace L2
open PySem PySem.Spec PyProof.Rows
end L2
namespace Mir
open PySem PySem.Spec PyProof.Rows L2
end Mir
namespace Mir
variable [Tabl]
open PySem PySem.Spec PyProof.Rows L2
structure DefK (P : Program) (w : World) (K : PySem.W.Frag) (mg : Str → Option Value) (base : Heap) (k : Nat) (x : Str) (ps : List Str) (n : Nat) (ks : List Str) (fm : List T → M T) : Prop where
  ex : ∃ (f : Addr) (fd : FuncData), HX.FnG P w K mg base (L2.CX P w) k f fd ps (spM K mg ps.length fm) ∧ mg x = some (.ref f) ∧ PySem.W.keepIn K (.ref f) = true ∧ ∀ (s : Shared) (us ws : List Value), us.length = n → ws.length = ks.length → BindsTo s fd ⟨us, ks.zip ws⟩ (ps.zip (us ++ ws))
theorem fun_kb {K : PySem.W.Frag} {x qual : Str} {st : Stmt} {f : Addr} {fd : FuncData} {ps ks : List Str} {n : Nat} (F : Fun K x qual st f fd)
    (h : ∀ (kV doc pm : Value) (an : Option Addr) (cdv ct : Value) (us ws : List Value), us.length = n → ws.length = ks.length → bindArgs (PySem.W.fnOf x qual (defArgs st) (defBody st) (defScope st) .none kV doc pm an cdv ct) ⟨us, ks.zip ws⟩ = pure (ps.zip (us ++ ws))) (s : Shared) (us ws : List Value) (h1 : us.length = n) (h2 : ws.length = ks.length) : BindsTo s fd ⟨us, ks.zip ws⟩ (ps.zip (us ++ ws)) := by
  obtain ⟨oc, od, kV, doc, pm, an, cdv, ct, osl, rfl, lk, hcd⟩ := F.ex
  exact .of_eq (h kV doc pm an cdv ct us ws h1 h2)
abbrev JK (X : Cx) (W : WX) (kws : List Keyword) (m : Env → M (List T)) : Prop := PK X kws (tA X.K X.mg W m)
section
variable {X : Cx} {W : WX} {pos p kpos : Pos} {a e : Expr} {es : List Expr} {kws : List Keyword} {mr mk : Env → M (List T)} {ma : ME} {x : Str} {nm : Option Str} {k j : Nat} {ps ks : List Str} {fm : List T → M T}
theorem pk_imp {t t' : TA} (h : PK X kws t) (i : ∀ σ H Q, t' σ H Q → t σ H Q) : PK X kws t' := ⟨fun pos pins s σ H Q I q => h.run pos pins s σ H Q I (i σ H Q q)⟩
theorem jk_nil : JK X W [] aNil := pk_imp pk_nil fun σ H Q ⟨ρ, st, env, hK, rel, re, h⟩ => h.val rel _ rfl
theorem jk_cons (ha : JE X W a ma) (hr : JK X W kws mr) : JK X W (⟨nm, a, kpos⟩ :: kws) (aCons ma mr) :=
  pk_imp (pk_cons ha hr) fun σ H Q ⟨ρ, st, env, hK, rel, re, h⟩ => ⟨ρ, st, env, hK, rel, re, h.bind.imp fun ρ1 H1 t ⟨st1, x1, rel1, h1⟩ v rv =>
    ⟨ρ1, st1, env, x1.K.trans hK, rel1, re.mono x1, h1.bind.imp fun ρ2 H2 ts ⟨st2, x2, rel2, h2⟩ vs rvs => h2.val rel2 _ ⟨v, vs, rfl, rv.mono x2, rvs⟩⟩⟩
def eLK (n m : Nat) (fm : List T → M T) (mr mk : Env → M (List T)) : ME := fun env st => (mr env st).bind fun ts st1 => (mk env st1).bind fun us st2 => if ts.length = n ∧ us.length = m then fm (ts ++ us) st2 else .stuck
theorem j_defK {n m : Nat} (D : DefK X.prog X.w X.K X.mg X.base k x ps n ks fm) (hr : HX.RoomG j X.A) (hj : k ≤ j) (tk : Takes X W) (ha : JA X W (e :: es) mr) (hkw : JK X W kws mk)
    (hm : ks.length = m := by rfl) (hn : ps.length = n + m := by rfl) (hall : (backToKw pos (keywordEach kws X.env)).all (·.1.isSome) = true := by rfl) (hks : (backToKw pos (keywordEach kws X.env)).filterMap (·.1) = ks := by rfl)
    (hg : Gl X x := by rfl) (hdb : (x == ("__debug__" : Str)) = false := by decide) (he : starEach (e :: es) X.env = (false, eval e X.env) :: starEach es X.env := by rfl)
    (hpl : ((backTo pos (starEach (e :: es) X.env)).any (·.1) || (backToKw pos (keywordEach kws X.env)).any (·.1.isNone)) = false := by rfl) :
    JE X W (.Call (.Name x p) (e :: es) kws pos) (eLK n m fm mr mk) := by
  obtain ⟨f, fd, F, hmg, hkeep, hb⟩ := D.ex
  refine ⟨fun pins s σ H Q I ⟨ρ, st, env, hK, rel, re, h⟩ => ?_⟩
  refine wpAny_Call_Name_kw (ld_glob I hg hmg ?_ hdb)
  refine PySem.W.callWith_KW (h₀ := X.base) I.ok.mod.kin hkeep hall (thn (ha.run pos pins s σ H (fun vs H1 => ∃ ρ1 st1 ts, ρ1.K = X.K ∧ Rel ρ1 st1 H1 ∧ RE ρ1 H1 env σ ∧ RVs ρ1 H1 ts vs ∧ Fin X.mg W ρ1 H1 σ ((mk env st1).bind fun us st2 => if ts.length = n ∧ us.length = m then fm (ts ++ us) st2 else .stuck) (KQ Q)) I ⟨ρ, st, env, hK, rel, re, h.bind.imp fun ρ1 H1 ts ⟨st1, x1, rel1, h1⟩ vs rvs => ⟨ρ1, st1, ts, x1.K.trans hK, rel1, re.mono x1, rvs, h1⟩⟩) fun us s1 ⟨vs, H1, I1, r, ρ1, st1, ts, hK1, rel1, re1, rvs, h1⟩ => ?_) hpl he
  refine thn (hkw.run pos pins s1 σ H1 (fun zs H2 => ∃ ρ2 st2 xs, ρ2.K = X.K ∧ Rel ρ2 st2 H2 ∧ RVs ρ2 H2 ts vs ∧ RVs ρ2 H2 xs zs ∧ Fin X.mg W ρ2 H2 σ (if ts.length = n ∧ xs.length = m then fm (ts ++ xs) st2 else .stuck) (KQ Q)) I1 ⟨ρ1, st1, env, hK1, rel1, re1, h1.bind.imp fun ρ2 H2 xs ⟨st2, x2, rel2, h2⟩ zs rvz => ⟨ρ2, st2, xs, x2.K.trans hK1, rel2, rvs.mono x2, rvz, h2⟩⟩) fun ws s2 ⟨zs, H2, I2, rz, ρ2, st2, xs, hK2, rel2, rvs2, rvz, h2⟩ => ⟨I2.kIn, ?_⟩
  rw [hks]
  by_cases hc : ts.length = n ∧ xs.length = m
  · rw [if_pos hc] at h2
    have r2 : Vals (vs ++ zs) (us ++ ws) := r.append rz
    have hus : us.length = n := by rw [← r.length, rvs2.length, hc.1]
    have hws : ws.length = ks.length := by rw [← rz.length, rvz.length, hc.2, hm]
    have hsp : spM X.K X.mg ps.length fm (vs ++ zs) H2 Q (WE W σ) := by
      refine ⟨ρ2, st2, ts ++ xs, hK2, rel2, rvs2.append rvz, by rw [List.length_append, hn, hc.1, hc.2], ?_⟩
      cases hf : fm (ts ++ xs) st2 with
      | ok t s => rw [hf] at h2; exact h2
      | exc xx s => rw [hf] at h2; exact h2
      | stuck => rw [hf] at h2; exact h2
    refine wpAny_call (codeAny_mono (F.goes X.A X.stack s2 H2 ⟨us, ks.zip ws⟩ (us ++ ws) (vs ++ zs) Q (WE W σ) (hr.mono hj) I2.env0 (hb s2 us ws hus hws) r2 hsp) fun r s' hqq => ?_)
    cases r with
    | error e => exact passAt tk σ pins H2 s2 e s' I2 hqq
    | ok fl =>
      cases fl with
      | ret u => exact I2.after hqq
      | next => exact False.elim hqq
      | brk => exact False.elim hqq
      | cont => exact False.elim hqq
  · rw [if_neg hc] at h2
    exact h2.elim
end
end Mir
namespace Mir
open PySem PySem.Spec PyProof.Rows L2
end Mir
namespace Mir
variable [Tabl]
open PySem PySem.Spec PyProof.Rows L2
def valTv (kvs : List (List Int × T)) (k : List Int) : Option T := (kvs.find? fun p => decide (p.1 = k)).map (·.2)
def putTv (kvs : List (List Int × T)) (k : List Int) (v : T) : List (List Int × T) := if kvs.any (fun p => decide (p.1 = k)) then kvs.map fun p => if p.1 = k then (p.1, v) else p else kvs ++ [(k, v)]
section
variable {ρ : Ro} {H : Hp} {st : Store}
theorem inl_inj : ∀ {a b : List Int}, (a.map Sum.inl : List Key) = b.map Sum.inl → a = b
  | [], [], _ => rfl
  | [], _ :: _, h => by simp at h
  | _ :: _, [], h => by simp at h
  | a :: as, b :: bs, h => by
    simp only [List.map_cons, List.cons.injEq] at h
    rw [Sum.inl.inj h.1, inl_inj h.2]
theorem RTs.length : ∀ {ts : List (List Int × T)} {vs : List (List Key × V)}, RTs ρ H ts vs → vs.length = ts.length
  | [], _, h => by cases h; rfl
  | (k, t) :: ts, _, h => by
    obtain ⟨x, r, rfl, _, q⟩ := h
    simp [RTs.length q]
theorem RTs.append : ∀ {ts us : List (List Int × T)} {vs ws : List (List Key × V)}, RTs ρ H ts vs → RTs ρ H us ws → RTs ρ H (ts ++ us) (vs ++ ws)
  | [], _, _, _, h, q => by cases h; exact q
  | (k, t) :: ts, us, _, _, h, q => by
    obtain ⟨x, r, rfl, h1, h2⟩ := h
    exact ⟨x, _, rfl, h1, RTs.append h2 q⟩
theorem RTs.val : ∀ {ts : List (List Int × T)} {vs : List (List Key × V)} {k : List Int}, RTs ρ H ts vs → match valTv ts k with
    | some t => ∃ v, valV vs (k.map Sum.inl) = some v ∧ RV ρ H t v
    | none => valV vs (k.map Sum.inl) = none
  | [], _, _, h => by cases h; rfl
  | (k', t) :: ts, _, k, h => by
    obtain ⟨x, r, rfl, h1, h2⟩ := h
    by_cases hk : k' = k
    · subst hk
      have e : valTv ((k', t) :: ts) k' = some t := by unfold valTv; simp
      rw [e]
      exact ⟨x, valV_pos rfl, h1⟩
    · have e : valTv ((k', t) :: ts) k = valTv ts k := by unfold valTv; simp [List.find?_cons, hk]
      rw [e]
      have := RTs.val (k := k) h2
      rw [valV_neg (p := ((k'.map Sum.inl : List Key), x)) (by intro z; exact hk (inl_inj z))]
      exact this
theorem RTs.any : ∀ {ts : List (List Int × T)} {vs : List (List Key × V)} {k : List Int}, RTs ρ H ts vs → (vs.any fun kv => decide (kv.1 = k.map Sum.inl)) = ts.any fun p => decide (p.1 = k)
  | [], _, _, h => by cases h; rfl
  | (k', t) :: ts, _, k, h => by
    obtain ⟨x, r, rfl, h1, h2⟩ := h
    rw [List.any_cons, List.any_cons, RTs.any h2]
    congr 1
    by_cases hk : k' = k
    · subst hk; simp
    · rw [decide_eq_false (show ¬ (k', t).1 = k from hk), decide_eq_false (show ¬ (k'.map Sum.inl : List Key) = k.map Sum.inl from fun z => hk (inl_inj z))]
theorem RTs.setAll : ∀ {ts : List (List Int × T)} {vs : List (List Key × V)} {k : List Int} {t : T} {v : V}, RTs ρ H ts vs → RV ρ H t v → RTs ρ H (ts.map fun p => if p.1 = k then (p.1, t) else p) (vs.map fun kv => if kv.1 = k.map Sum.inl then (kv.1, v) else kv)
  | [], _, _, _, _, h, _ => by cases h; rfl
  | (k', u) :: ts, _, k, t, v, h, q => by
    obtain ⟨x, r, rfl, h1, h2⟩ := h
    by_cases hk : k' = k
    · subst hk
      rw [List.map_cons, List.map_cons, if_pos rfl, if_pos rfl]
      exact ⟨v, _, rfl, q, RTs.setAll h2 q⟩
    · rw [List.map_cons, List.map_cons, if_neg hk, if_neg (fun z => hk (inl_inj z))]
      exact ⟨x, _, rfl, h1, RTs.setAll h2 q⟩
theorem RTs.put {ts : List (List Int × T)} {vs : List (List Key × V)} {k : List Int} {t : T} {v : V} (h : RTs ρ H ts vs) (q : RV ρ H t v) : RTs ρ H (putTv ts k t) (putK vs (k.map Sum.inl) v) := by
  unfold putTv putK
  rw [h.any]
  split
  · exact h.setAll q
  · exact h.append ⟨v, [], rfl, q, rfl⟩
end
end Mir
namespace Mir
open PySem PySem.Spec PyProof.Rows L2
end Mir
namespace Mir
open PySem PySem.Spec PyProof.Rows L2
end Mir
namespace Mir
open PySem PySem.Spec PyProof.Rows L2
end Mir
namespace Mir
open PySem PySem.Spec PyProof.Rows L2
end Mir
namespace Mir
open PySem PySem.Spec PyProof.Rows L2
end Mir
namespace Mir
open PySem PySem.Spec PyProof.Rows L2
end Mir
namespace Mir
open PySem PySem.Spec PyProof.Rows L2
end Mir
namespace Mir
open PySem PySem.Spec PyProof.Rows L2
end Mir
namespace Mir
open PySem PySem.Spec PyProof.Rows L2
end Mir
namespace Mir
open PySem PySem.Spec PyProof.Rows L2
end Mir
namespace Mir
open PySem PySem.Spec PyProof.Rows L2
end Mir
namespace Mir
open PySem PySem.Spec PyProof.Rows L2
end Mir
namespace Mir
open PySem PySem.Spec PyProof.Rows L2
end Mir
namespace Mir
open PySem PySem.Spec PyProof.Rows L2
end Mir
namespace Mir
open PySem PySem.Spec PyProof.Rows L2
end Mir
namespace Mir
open PySem PySem.Spec PyProof.Rows L2
end Mir
namespace Mir
open PySem PySem.Spec PyProof.Rows L2
end Mir
namespace Mir
variable [Tabl]
open PySem PySem.Spec PyProof.Rows L2
section
variable {ρ : Ro} {H : Hp} {st : Store}
theorem RFs.length : ∀ {ts : List (Str × T)} {xs : List (Str × V)}, RFs ρ H ts xs → xs.length = ts.length
  | [], _, h => by cases h; rfl
  | (k, u) :: ts, _, h => by
    obtain ⟨x, r, rfl, q, q'⟩ := h
    simp [RFs.length q']
def putS (f : Str) (t : T) : List (Str × T) → List (Str × T)
  | [] => [(f, t)]
  | (g, x) :: r => if g = f then (g, t) :: r else (g, x) :: putS f t r
theorem RFs.put {f : Str} {t : T} {v : V} (hv : RV ρ H t v) : ∀ {ts : List (Str × T)} {xs : List (Str × V)}, RFs ρ H ts xs → RFs ρ H (putS f t ts) (putF f v xs)
  | [], _, h => by cases h; exact ⟨v, [], rfl, hv, rfl⟩
  | (k, u) :: ts, _, h => by
    obtain ⟨x, r, rfl, q, q'⟩ := h
    unfold putS putF
    by_cases hk : k = f
    · rw [if_pos hk, if_pos hk]
      exact ⟨v, r, rfl, hv, q'⟩
    · rw [if_neg hk, if_neg hk]
      exact ⟨x, _, rfl, q, RFs.put hv q'⟩
end
end Mir
namespace Mir
variable [Tabl]
open PySem PySem.Spec PyProof.Rows L2
structure FunT (K : PySem.W.Frag) (x qual : Str) (st : Stmt) (m : Nat) (f : Addr) (fd : FuncData) : Prop where
  ex : ∃ (oc : Value) (od : Option Addr) (T : Addr) (kV doc pm : Value) (an : Option Addr) (cdv ct : Value) (osl : Array (Option Value)) (o : Obj) (its : List Value) (n : Nat),
    fd = PySem.W.fnOf x qual (defArgs st) (defBody st) (defScope st) (.ref T) kV doc pm an cdv ct ∧ K.lookup f = some ⟨oc, od, .func fd, osl⟩ ∧ PySem.W.codeIn K cdv qual = true ∧ K.lookup T = some o ∧ o.data = .seq its.toArray n ∧ its.length = m
section
variable {P : Program} {w : World} {K : PySem.W.Frag} {mg : Str → Option Value} {base : Heap}
theorem FunT.binds {x qual : Str} {st : Stmt} {m : Nat} {f : Addr} {fd : FuncData} {ps : List Str} (F : FunT K x qual st m f fd)
    (h : ∀ (T : Addr) (kV doc pm : Value) (an : Option Addr) (cdv ct : Value) (us its : List Value), us.length = ps.length → its.length = m →
      ∃ k, bindArgs (PySem.W.fnOf x qual (defArgs st) (defBody st) (defScope st) (.ref T) kV doc pm an cdv ct) ⟨us, []⟩ = seqItems? (.ref T) >>= k ∧ k (some its.toArray) = pure (ps.zip us)) : Binds K fd ps [] := by
  obtain ⟨oc, od, T, kV, doc, pm, an, cdv, ct, osl, o, its, n, rfl, lk, hcd, lT, oT, hl⟩ := F.ex
  intro s us X hlen
  rw [List.append_nil] at hlen ⊢
  obtain ⟨k, e1, e2⟩ := h T kV doc pm an cdv ct us its hlen hl
  refine BindsTo.of_looks fun M => ?_
  rw [e1]
  exact looks_items X lT oT (.of_pure e2)
end
end Mir
namespace Mir
open PySem PySem.Spec PyProof.Rows L2
end Mir
namespace Mir
open PySem PySem.Spec PyProof.Rows L2
end Mir
namespace Mir
open PySem PySem.Spec PyProof.Rows L2
end Mir
namespace Mir
open PySem PySem.Spec PyProof.Rows L2
end Mir
namespace Mir
open PySem PySem.Spec PyProof.Rows L2
end Mir
namespace Mir
variable [Tabl]
open PySem PySem.Spec PyProof.Rows L2
structure FunE (K : PySem.W.Frag) (x qual : Str) (st : Stmt) (es : List Addr) (f : Addr) (fd : FuncData) : Prop where
  ex : ∃ (oc : Value) (od : Option Addr) (T : Addr) (kV doc pm : Value) (an : Option Addr) (cdv ct : Value) (osl : Array (Option Value)) (o : Obj) (n : Nat),
    fd = PySem.W.fnOf x qual (defArgs st) (defBody st) (defScope st) (.ref T) kV doc pm an cdv ct ∧ K.lookup f = some ⟨oc, od, .func fd, osl⟩ ∧ PySem.W.codeIn K cdv qual = true ∧ K.lookup T = some o ∧ o.data = .seq (es.map Value.ref).toArray n
section
variable {K : PySem.W.Frag}
theorem FunE.binds {x qual : Str} {st : Stmt} {es : List Addr} {f : Addr} {fd : FuncData} {ps : List Str} (F : FunE K x qual st es f fd) (j : Nat)
    (h : ∀ (T : Addr) (kV doc pm : Value) (an : Option Addr) (cdv ct : Value) (us its : List Value), (us ++ its.drop j).length = ps.length → its.length = es.length →
      ∃ k, bindArgs (PySem.W.fnOf x qual (defArgs st) (defBody st) (defScope st) (.ref T) kV doc pm an cdv ct) ⟨us, []⟩ = seqItems? (.ref T) >>= k ∧ k (some its.toArray) = pure (ps.zip (us ++ its.drop j))) : Binds K fd ps ((es.drop j).map Value.ref) := by
  obtain ⟨oc, od, T, kV, doc, pm, an, cdv, ct, osl, o, n, rfl, lk, hcd, lT, oT⟩ := F.ex
  intro s us X hlen
  rw [List.map_drop] at hlen ⊢
  obtain ⟨k, e1, e2⟩ := h T kV doc pm an cdv ct us (es.map Value.ref) hlen (by rw [List.length_map])
  refine BindsTo.of_looks fun M => ?_
  rw [e1]
  exact looks_items X lT oT (.of_pure e2)
end
end Mir
namespace Mir
open PySem PySem.Spec PyProof.Rows L2
end Mir
namespace Mir
open PySem PySem.Spec PyProof.Rows L2
end Mir
namespace Mir
open PySem PySem.Spec PyProof.Rows L2
end Mir
namespace Mir
open PySem PySem.Spec PyProof.Rows L2
end Mir
namespace Mir
variable [Tabl]
open PySem PySem.Spec PyProof.Rows L2
def LamsOkC (P : Program) (w : World) (K : PySem.W.Frag) (mg : Str → Option Value) (base : Heap) (k : Nat) (L : Nat → List T → M T) : Prop :=
  ∀ (n : Nat) (f c : Addr), (Tabl.lf n c).c = c ∧ ∃ ps fr ws np sp, HX.LOk P w K mg base (L2.CX P w) k f (Tabl.lf n c) ps fr sp ∧
    (∀ (h : Heap) (H : Hp), (∀ b o, base.get? b = some o → h.get? b = some o ∧ H b = none) → ∀ vs Q E, spM K mg np (L n) vs H Q E → NdefX.CellsAt (Tabl.lf n c).cl fr ws h H ∧ sp ws vs H Q E) ∧
    ∀ ts st, ts.length ≠ np → L n ts st = .stuck
section
variable {X : Cx} {W : WX} {pos p : Pos} {e : Expr} {es : List Expr} {mr : Env → M (List T)} {x : Str} {k j i : Nat}
theorem j_callVC {L : Nat → List T → M T} (D : LamsOkC X.prog X.w X.K X.mg X.base k L) (hr : HX.RoomG j X.A) (hj : k ≤ j) (tk : Takes X W) (hN : X.N[i]? = some x) (ha : JA X W (e :: es) mr) (hv : Vis X.env.scope x := by first | exact Or.inl rfl | exact Or.inr (Or.inl rfl) | exact Or.inr (Or.inr rfl))
    (hd : (x == ("__debug__" : Str)) = false := by decide) (hcd : (x == ("__classdict__" : Str)) = false := by decide)
    (he : starEach (e :: es) X.env = (false, eval e X.env) :: starEach es X.env := by rfl) (hpl : (backTo pos (starEach es X.env)).any (·.1) = false := by rfl) :
    JE X W (.Call (.Name x p) (e :: es) [] pos) (callV L (eVar i) mr) := by
  refine ⟨fun pins s σ H Q I ⟨ρ, st, env, hK, rel, re, h⟩ => ?_⟩
  unfold callV eVar at h
  cases e0 : env[i]? with
  | none => rw [e0] at h; exact h.elim
  | some o =>
  cases o with
  | none => rw [e0] at h; exact h.elim
  | some t =>
  rw [e0] at h
  cases t with
  | fn n =>
    obtain ⟨v, a, b⟩ := re.2 i _ e0
    obtain ⟨f, c, rfl, hf, hc, _, _⟩ := id b
    have h : Fin X.mg W ρ H σ ((mr env st).bind fun ts st2 => L n ts st2) (KQ Q) := h
    refine wpAny_Call_Name_kw (thn ((pe_var (pos := p) hN hv hd hcd).run pins s σ H (fun v H1 => v = .ref f ∧ H1 = H) I ⟨.ref f, a, rfl, rfl⟩) fun u s1 ⟨v, H1, I1, r1, q1⟩ => ?_)
    obtain ⟨ev, eH⟩ := q1
    subst ev
    rw [eH] at I1
    obtain rfl : u = Value.ref f := r1
    refine PySem.W.callWith_F (first := []) (HX.lamAt_of I1 hf) (thn (ha.run pos pins s1 σ H (fun vs H2 => ∃ ρ2 st2 ts, ρ2.K = X.K ∧ Rel ρ2 st2 H2 ∧ RVs ρ2 H2 ts vs ∧ RV ρ2 H2 (.fn n) (.ref f) ∧ Fin X.mg W ρ2 H2 σ (L n ts st2) (KQ Q)) I1 ⟨ρ, st, env, hK, rel, re, h.bind.imp fun ρ2 H2 ts ⟨st2, x2, rel2, h2⟩ vs rvs => ⟨ρ2, st2, ts, x2.K.trans hK, rel2, rvs, b.mono x2, h2⟩⟩) fun us s2 ⟨vs, H2, I2, r, ρ2, st2, ts, hK2, rel2, rvs, b2, h2⟩ => ?_) he hpl
    obtain ⟨f', c', ef, hf2, hc2, _, _⟩ := b2
    cases ef
    refine ⟨HX.lamAt_of I2 hf2, ?_⟩
    show wpAny _ _ (call (.ref f) us) _ _ _
    obtain ⟨d2, ps, fr, ws, np, sp, D1, D3, D2⟩ := D n f c'
    have hl : ts.length = np := by
      refine Decidable.byContradiction fun z => ?_
      rw [D2 ts st2 z] at h2
      exact h2
    have h3 : spM X.K X.mg np (L n) vs H2 Q (fun c d H => W c d σ H) := by
      refine ⟨ρ2, st2, ts, hK2, rel2, rvs, hl, ?_⟩
      cases hr2 : L n ts st2 with
      | ok t s => rw [hr2] at h2; exact h2
      | exc xx s => rw [hr2] at h2; exact h2
      | stuck => rw [hr2] at h2; exact h2
    obtain ⟨C, hs⟩ := D3 s2.heap H2 I2.bs vs Q _ h3
    exact HX.run_l (ws := ws) D1 hr hj (passAt tk σ) I2 hf2 (by rw [d2]; exact hc2) C r hs
  | _ => exact h.elim
theorem j_lamC {nm : Nat → Nat → Str} {c P : Addr} {params : Arguments} {body : Expr} {scope : Scope} (n : Nat) (TB : LamX.TabB X.base X.mg c P) (hcode : X.env.code = .ref c) (hm : (P, nm) ∈ Tabl.T) (hn : nm pos.line pos.col = X.env.qual ++ "<lambda>")
    (hdef : defaultsOf params X.env = ([], [])) (hfree : X.Ok → ∀ y ∈ scope.names, y.2 = .free → ∃ c, X.env.cells.lookup y.1 = some c) (hlf : ∀ c', Tabl.lf n c' = ⟨X.env.qual ++ "<lambda>", params, body, scope, cloFrom X.env.cells scope.names [], c'⟩) :
    JE X W (.Lambda params body scope pos) (eC (.fn n)) := by
  refine ⟨fun pins s σ H Q I ⟨ρ, st, env, hK, rel, re, h⟩ => ?_⟩
  refine HX.lam_makeN I TB hcode hm hn (fun q hq e => (Tabl.uniq q hq _ hm e)) rel.tabs hdef (hfree I.ok) fun f c' H1 s' I1 eN nn tb T1 f0 f1 c1 => ?_
  have x1 : Ext ρ H ρ H1 := Ext.lam eN nn tb
  have r1 := rel.lam eN nn tb T1
  refine ⟨.ref f, H1, I1, rfl, h ρ H1 x1 r1 (.ref f) ⟨f, c', rfl, by rw [hlf c']; exact f1, by rw [hlf c']; exact c1, ⟨rel.out f0, rel.notd f0⟩, ⟨fun z => ?_, fun z => ?_⟩⟩⟩
  · obtain ⟨o, e1, _, e3⟩ := r1.tracked2 z
    rw [c1] at e1
    cases e1
    exact e3 _ rfl
  · obtain ⟨_, o, e1, e3⟩ := r1.priv _ z
    rw [c1] at e1
    cases e1
    exact e3 _ rfl
end
def cellOf (X : Cx) (x : Str) : Addr := (X.env.cells.lookup x).getD 0
def CellI (base : Heap) (a : Addr) (S : Int) : Prop := ∃ o t, base.get? a = some o ∧ o.data = .cell (some (.int S t))
section
variable {P : Program} {w : World} {K : PySem.W.Frag} {mg : Str → Option Value} {base : Heap}
theorem clo_cells {x : Str} {a : Addr} {S : Int} {cl : List (Str × Addr)} (hcl : cl = [(x, a)]) (hc : CellI base a S) (h : Heap) (H : Hp) (hb : ∀ b o, base.get? b = some o → h.get? b = some o ∧ H b = none) :
    NdefX.CellsAt cl [x] [some (.int S)] h H := by
  subst hcl
  obtain ⟨o, t, ho, hd⟩ := hc
  obtain ⟨h1, h2⟩ := hb a o ho
  have key : ∀ y c, List.lookup y [(x, a)] = some c → y = x ∧ c = a := fun y c e => by
    rw [List.lookup_cons] at e
    cases hy : (y == x) with
    | true => rw [hy] at e; cases e; exact ⟨beq_iff_eq.mp hy, rfl⟩
    | false => rw [hy] at e; cases e
  refine ⟨rfl, fun y c e => ?_, fun y z c e1 e2 => ?_, fun i y e => ?_⟩
  · obtain ⟨_, rfl⟩ := key y c e
    exact ⟨h2, _, o, h1, hd⟩
  · exact (key y c e1).1.trans (key z c e2).1.symm
  · cases i with
    | succ i => cases e
    | zero =>
      cases e
      refine ⟨a, by simp [List.lookup_cons], fun v hv => ?_⟩
      cases hv
      exact ⟨.int S t, ⟨t, rfl⟩, o, h1, hd⟩
def lamC (n : Nat) (m : ME) (S : Int) : List T → M T := fun ts st => if ts.length = n then m (ts.map some ++ [some (.int S)]) st else .stuck
theorem lamC_else {n : Nat} {m : ME} {S : Int} : ∀ (ts : List T) (st : Store), ts.length ≠ n → lamC n m S ts st = .stuck := fun ts st h => if_neg h
theorem lamC_sp {n : Nat} {m : ME} {S : Int} {vs : List V} {H : Hp} {Q : VK} {E : XK} (h : spM K mg n (lamC n m S) vs H Q E) : spC K mg n m [some (.int S)] vs H Q E := by
  obtain ⟨ρ, st, ts, hK, rel, rvs, hl, h⟩ := h
  refine ⟨ρ, st, ts, [some (.int S)], hK, rel, rvs, hl, ⟨rfl, fun i t q => ?_⟩, ?_⟩
  · cases i with
    | succ i => cases q
    | zero => cases q; exact ⟨.int S, rfl, rfl⟩
  · unfold lamC at h
    rw [if_pos hl] at h
    cases hm : m (ts.map some ++ [some (.int S)]) st with
    | ok t s' => rw [hm] at h; exact h
    | exc xx s' => rw [hm] at h; exact h
    | stuck => rw [hm] at h; exact h.elim
theorem lamOk0 {n : Nat} {f c : Addr} {k np : Nat} {L : Nat → List T → M T} {ps : List Str} (h1 : (Tabl.lf n c).cl = []) (h2 : (Tabl.lf n c).c = c) (h3 : HX.LOk P w K mg base (L2.CX P w) k f (Tabl.lf n c) ps [] (fun _ => spM K mg np (L n))) (h4 : ∀ ts st, ts.length ≠ np → L n ts st = .stuck) :
    (Tabl.lf n c).c = c ∧ ∃ ps fr ws np sp, HX.LOk P w K mg base (L2.CX P w) k f (Tabl.lf n c) ps fr sp ∧
    (∀ (h : Heap) (H : Hp), (∀ b o, base.get? b = some o → h.get? b = some o ∧ H b = none) → ∀ vs Q E, spM K mg np (L n) vs H Q E → NdefX.CellsAt (Tabl.lf n c).cl fr ws h H ∧ sp ws vs H Q E) ∧
    ∀ ts st, ts.length ≠ np → L n ts st = .stuck :=
  ⟨h2, ps, [], [], np, _, h3, fun h H _ vs Q E z => ⟨by rw [h1]; exact ⟨rfl, fun y c e => (by cases e), fun x y c e => (by cases e), fun i y e => (by cases e)⟩, z⟩, h4⟩
theorem lamOkS {n : Nat} {f c : Addr} {L : Nat → List T → M T} (h2 : (Tabl.lf n c).c = c) (h3 : L n = fun _ _ => .stuck) :
    (Tabl.lf n c).c = c ∧ ∃ ps fr ws np sp, HX.LOk P w K mg base (L2.CX P w) 1 f (Tabl.lf n c) ps fr sp ∧
    (∀ (h : Heap) (H : Hp), (∀ b o, base.get? b = some o → h.get? b = some o ∧ H b = none) → ∀ vs Q E, spM K mg np (L n) vs H Q E → NdefX.CellsAt (Tabl.lf n c).cl fr ws h H ∧ sp ws vs H Q E) ∧
    ∀ ts st, ts.length ≠ np → L n ts st = .stuck :=
  ⟨h2, [], [], [], 0, _, lam_no, fun h H _ vs Q E z => by obtain ⟨_, _, _, _, _, _, _, z⟩ := z; rw [h3] at z; exact z.elim, fun _ _ _ => by rw [h3]⟩
theorem lamOk1 {n : Nat} {f c : Addr} {k np : Nat} {L : Nat → List T → M T} {ps : List Str} {x : Str} {a : Addr} {S : Int} {m : ME} (h1 : (Tabl.lf n c).cl = [(x, a)]) (h2 : (Tabl.lf n c).c = c) (h3 : HX.LOk P w K mg base (L2.CX P w) k f (Tabl.lf n c) ps [x] (spC K mg np m))
    (h4 : L n = lamC np m S) (hc : CellI base a S) :
    (Tabl.lf n c).c = c ∧ ∃ ps fr ws np sp, HX.LOk P w K mg base (L2.CX P w) k f (Tabl.lf n c) ps fr sp ∧
    (∀ (h : Heap) (H : Hp), (∀ b o, base.get? b = some o → h.get? b = some o ∧ H b = none) → ∀ vs Q E, spM K mg np (L n) vs H Q E → NdefX.CellsAt (Tabl.lf n c).cl fr ws h H ∧ sp ws vs H Q E) ∧
    ∀ ts st, ts.length ≠ np → L n ts st = .stuck :=
  ⟨h2, ps, [x], [some (.int S)], np, _, h3, fun h H hb vs Q E z => ⟨clo_cells h1 hc h H hb, lamC_sp (by rw [← h4]; exact z)⟩, fun ts st hl => by rw [h4]; exact lamC_else ts st hl⟩
end
section
variable {X : Cx} {pins : List (Addr × Obj)} {σ : L2.St} {H : Hp} {s : Shared}
def baseWith (X : Cx) (h : Heap) (a : Addr) : Heap := PySem.W.hideAll h ((List.range h.objs.size).filter fun b => decide (b ≠ a) && (X.base.get? b).isNone)
theorem baseWith_keep (I : Inv X pins σ H s) (a : Addr) : ∀ b o, X.base.get? b = some o → (baseWith X s.heap a).get? b = some o := fun b o e =>
  PySem.W.hideAll_get _ (I.bs b o e).1 fun hm => by
    have q := (List.mem_filter.mp hm).2
    rw [e] at q
    simp at q
theorem baseWith_cell {a : Addr} {o : Obj} (h : s.heap.get? a = some o) : (baseWith X s.heap a).get? a = some o :=
  PySem.W.hideAll_get _ h fun hm => by
    have q := (List.mem_filter.mp hm).2
    simp at q
theorem of_baseWith {a b : Addr} {o : Obj} (e : (baseWith X s.heap a).get? b = some o) : s.heap.get? b = some o ∧ (b = a ∨ ∃ u, X.base.get? b = some u) := by
  have e' := PySem.W.of_hideAll _ e
  refine ⟨e', Classical.byContradiction fun z => ?_⟩
  have z1 : b ≠ a := fun q => z (.inl q)
  have z2 : X.base.get? b = none := by
    cases q : X.base.get? b with
    | none => rfl
    | some u => exact (z (.inr ⟨u, q⟩)).elim
  have hm : b ∈ (List.range s.heap.objs.size).filter fun b => decide (b ≠ a) && (X.base.get? b).isNone := List.mem_filter.mpr ⟨List.mem_range.mpr (Heap.lt_size e'), by simp [z1, z2]⟩
  have w := PySem.W.hideAll_none _ (h := s.heap) hm
  unfold baseWith at e
  rw [w] at e
  cases e
theorem env0_with (I : Inv X pins σ H s) {x : Str} {a : Addr} (ha : X.env.cells.lookup x = some a) (hfn : X.fn x = true) : Env0 X.prog X.w X.K X.mg (baseWith X s.heap a) X.A X.stack s H := by
  have kp := baseWith_keep I a
  have nfr : ∀ b ∈ frs X.stack, b ≠ a := fun b hb z => by
    rcases List.mem_cons.mp (I.stkSub b hb) with e | hb
    · exact I.cne x a ha (z.symm.trans e)
    · obtain ⟨_, o, ho, _⟩ := I.ok.funs.mem hb
      have h1 := Heap.lt_size ho
      have h2 := I.ok.cab x a hfn ha
      rw [z] at h1
      exact absurd (Nat.lt_of_lt_of_le h1 h2) (Nat.lt_irrefl _)
  have fF : ∀ l : List PySem.Env, (∀ b ∈ frs l, b ≠ a) → s.heap.FunFrames X.base l → s.heap.FunFrames (baseWith X s.heap a) l := by
    intro l
    induction l with
    | nil => intro _ _; trivial
    | cons env r ih =>
      intro hn0 hl
      obtain ⟨hk, ⟨L, oL, hf, hn, hoL, hdL⟩, hr⟩ := hl
      have eF : frs (env :: r) = L :: frs r := by unfold frs; rw [List.filterMap_cons, hf]
      rw [eF] at hn0
      refine ⟨hk, ⟨L, oL, hf, ?_, hoL, hdL⟩, ih (fun b hb => hn0 b (List.mem_cons_of_mem _ hb)) hr⟩
      cases q : (baseWith X s.heap a).get? L with
      | none => rfl
      | some u =>
        rcases (of_baseWith q).2 with e | ⟨u2, e⟩
        · exact (hn0 L List.mem_cons_self e).elim
        · rw [hn] at e; cases e
  refine ⟨I.ok.frames, ⟨I.mod.kin.keeps kp, I.mod.glob.keeps kp, ?_, I.mod.nolimit.keeps kp⟩, fun b ob e => ?_, ?_, fF _ nfr I.stack, I.stkFree, I.hok, I.bare⟩
  · obtain ⟨mb, h1, h2⟩ := I.mod.blt
    exact ⟨mb, h1.keeps kp, h2⟩
  · obtain ⟨e1, e2⟩ := of_baseWith e
    refine ⟨e1, ?_⟩
    rcases e2 with rfl | ⟨u, e2⟩
    · exact I.freeC x b ha
    · exact (I.bs b u e2).2
  · unfold baseWith
    rw [PySem.W.hideAll_size]
    exact Nat.le_refl _
end
theorem Def.to0 {P : Program} {w : World} {K : PySem.W.Frag} {mg : Str → Option Value} {base : Heap} {k : Nat} {x : Str} {ps : List Str} {fm : List T → M T} (D : Def P w K mg base k x ps fm) : ∃ f, mg x = some (.ref f) ∧ PySem.W.keepIn K (.ref f) = true :=
  let ⟨f, _, _, h1, h2, _⟩ := D.ex; ⟨f, h1, h2⟩
theorem clo2 (m1 m2 : ME) (n : Nat) (env : Env) (st : Store) : aCons m1 (aCons m2 (aCons (eC (.fn n)) aNil)) env st = (aCons m1 (aCons m2 aNil) env st).bind fun ts st1 => .ok (ts ++ [.fn n]) st1 := by
  unfold aCons aNil eC R.bind
  cases m1 env st with
  | ok t s =>
    dsimp only
    cases m2 env s with
    | ok t2 s2 => rfl
    | exc x s2 => rfl
    | stuck => rfl
  | exc x s => rfl
  | stuck => rfl
def eClo (i : Nat) (m2 : Int → List T → M T) (mr : Env → M (List T)) : ME := fun env st => (mr env st).bind fun ts st1 => match env[i]? with
  | some (some (.int S)) => m2 S ts st1
  | _ => .stuck
section
variable {X : Cx} {W : WX} {pos p : Pos} {e : Expr} {es : List Expr} {mr mx : Env → M (List T)} {x xc : Str} {k j i n0 : Nat} {ps : List Str} {np : Nat}
theorem j_clo {fA : (Nat → List T → M T) → List T → M T} {LL : Addr → Int → Nat → List T → M T} {m2 : Int → List T → M T}
    (D0 : ∃ f, X.mg x = some (.ref f) ∧ PySem.W.keepIn X.K (.ref f) = true)
    (D : ∀ base2 L, LamsOkC X.prog X.w X.K X.mg base2 k L → Def X.prog X.w X.K X.mg base2 n0 x ps (fA L))
    (hL : ∀ base2 a S, CellI base2 a S → LamsOkC X.prog X.w X.K X.mg base2 k (LL a S))
    (hm2 : ∀ S ts st, m2 S ts st = .stuck ∨ ∃ r st', m2 S ts st = .ok r st' ∧ ts.length + 1 = np ∧ ∀ a, fA (LL a S) (ts ++ [.fn (a + 3)]) st = .ok r st')
    (hps : ps.length = np) (hr : HX.RoomG j X.A) (hj : n0 ≤ j) (tk : Takes X W) (hN : X.N[i]? = some xc) (hcell : X.env.scope.names.lookup xc = some .cell) (hfn : X.fn xc = true)
    (hmx : ∀ env st, mx env st = (mr env st).bind fun ts st1 => .ok (ts ++ [.fn (cellOf X xc + 3)]) st1) (ha : JA X W (e :: es) mx)
    (hg : Gl X x := by rfl) (hdb : (x == ("__debug__" : Str)) = false := by decide) (he : starEach (e :: es) X.env = (false, eval e X.env) :: starEach es X.env := by rfl) (hpl : (backTo pos (starEach es X.env)).any (·.1) = false := by rfl) :
    JE X W (.Call (.Name x p) (e :: es) [] pos) (eClo i m2 mr) := by
  refine ⟨fun pins s σ H Q I ⟨ρ, st, env, hK, rel, re, h⟩ => ?_⟩
  obtain ⟨a, hca⟩ := I.ok.has xc (.inl hcell)
  have ecell : cellOf X xc = a := by unfold cellOf; rw [hca]; rfl
  obtain ⟨f, hmf, hkf⟩ := D0
  unfold eClo at h
  refine wpAny_Call_Name_kw (ld_glob I hg hmf ?_ hdb)
  -- what the arguments leave to the call
  refine PySem.W.callWith_K (h₀ := X.base) I.ok.mod.kin hkf (thn (ha.run pos pins s σ H (fun vs H2 => ∃ ρ2 st2 ts S r st', ρ2.K = X.K ∧ Rel ρ2 st2 H2 ∧ RVs ρ2 H2 (ts ++ [.fn (a + 3)]) vs ∧ σ[i]? = some (some (.int S)) ∧ m2 S ts st2 = .ok r st' ∧ Fin X.mg W ρ2 H2 σ (R.ok r st') (KQ Q)) I ⟨ρ, st, env, hK, rel, re, ?_⟩) fun us s1 ⟨vs, H1, I1, rv, ρ2, st2, ts, S, r, st', hK2, rel2, rvs, hS, hr2, hQ⟩ => ⟨I1.kIn, ?_⟩) he hpl
  · rw [hmx, ecell]
    cases hmr : mr env st with
    | stuck => rw [hmr] at h; exact h.elim
    | exc xx st1 => rw [hmr] at h; exact h
    | ok ts st1 =>
      rw [hmr] at h
      have h : Fin X.mg W ρ H σ (match env[i]? with | some (some (.int S)) => m2 S ts st1 | _ => .stuck) (KQ Q) := h
      intro ρ2 H2 x2 rel2 vs rvs
      cases e0 : env[i]? with
      | none => rw [e0] at h; exact h.elim
      | some o =>
      cases o with
      | none => rw [e0] at h; exact h.elim
      | some t =>
      rw [e0] at h
      cases t with
      | int S =>
        have h : Fin X.mg W ρ H σ (m2 S ts st1) (KQ Q) := h
        obtain ⟨v, hv, hrv⟩ := re.2 i _ e0
        have hv2 : v = .int S := hrv
        subst hv2
        rcases hm2 S ts st1 with z | ⟨r, st', z, _, _⟩
        · rw [z] at h; exact h.elim
        · rw [z] at h
          exact ⟨ρ2, st1, ts, S, r, st', x2.K.trans hK, rel2, rvs, hv, z, fun ρ3 H3 x3 rel3 => h ρ3 H3 (x2.trans x3) rel3⟩
      | _ => exact h.elim
  · obtain ⟨m, hns, hl⟩ := I1.loc
    obtain ⟨u, ru, lk⟩ := hl i xc _ hN hS (Or.inr (Or.inl hcell))
    obtain ⟨t, rfl⟩ : ∃ t, u = Value.int S t := ru
    have hcI : CellI (baseWith X s1.heap a) a S := by
      rcases lk with ⟨z, _⟩ | ⟨_, c2, hc2, o, ho, hd⟩
      · have z' : X.env.scope.names.lookup xc = some .local := z
        rw [hcell] at z'
        cases z'
      · rw [hca] at hc2
        cases hc2
        exact ⟨o, t, baseWith_cell ho, hd⟩
    obtain ⟨f', fd, Fn, hm', hk', hb'⟩ := (D (baseWith X s1.heap a) (LL a S) (hL _ a S hcI)).ex
    rw [hmf] at hm'
    cases hm'
    rcases hm2 S ts st2 with z | ⟨r', st'', z, hln, hfa⟩
    · rw [z] at hr2; cases hr2
    · rw [z] at hr2
      cases hr2
      have hsp : spM X.K X.mg ps.length (fA (LL a S)) vs H1 Q (fun c d H => W c d σ H) := by
        refine ⟨ρ2, st2, ts ++ [.fn (a + 3)], hK2, rel2, rvs, by simp [hps, hln], ?_⟩
        rw [hfa a]
        exact hQ
      have hlen : us.length = ps.length := by rw [← rv.length]; exact Fn.lens _ _ _ _ hsp
      have bb := hb' s1 us I1.kIn (by rw [List.append_nil]; exact hlen)
      rw [List.append_nil] at bb
      refine wpAny_call (codeAny_mono (Fn.goes X.A X.stack s1 H1 ⟨us, []⟩ us vs Q _ (hr.mono hj) (env0_with I1 hca hfn) bb rv hsp) fun r s' hqq => ?_)
      cases r with
      | error e => exact passAt tk σ pins H1 s1 e s' I1 hqq
      | ok fl =>
        cases fl with
        | ret u => exact I1.after hqq
        | next => exact False.elim hqq
        | brk => exact False.elim hqq
        | cont => exact False.elim hqq
end
end Mir
namespace Sh
open PySem PySem.Spec PyProof.Rows L2 Mir
local macro_rules | `(tactic| array_get_dec) => `(tactic| first
  | with_reducible refine sa_seq ?_ | with_reducible refine sa_set ?_ | with_reducible refine sa_ret ?_ | with_reducible refine sa_expr ?_ | with_reducible refine sa_next ?_ | with_reducible refine sa_if ?_ | with_reducible refine sa_par ?_ | with_reducible refine two_in ?_ | with_reducible refine sa_asg ?_
  | ((with_reducible apply r_v); rfl) | with_reducible refine r_c ?_ | with_reducible refine r_e2 ?_ | with_reducible refine r_eL ?_ | with_reducible refine r_e1 ?_ | with_reducible refine r_cons ?_ | with_reducible refine r_nil ?_
  | ((with_reducible refine r_cl ?_ ?_); rfl) | with_reducible refine r_tV ?_ | with_reducible refine r_bl ?_ | with_reducible refine r_if ?_ | with_reducible refine r_not ?_ | with_reducible refine r_cut ?_ | with_reducible refine r_oN ?_ | with_reducible refine r_oS ?_ | with_reducible refine r_in ?_ | with_reducible refine r_and' ?_ | with_reducible refine r_not' ?_ | with_reducible refine r_chain ?_
  | with_reducible refine r_add ?_ | with_reducible refine r_sub ?_ | with_reducible refine r_lt ?_ | with_reducible refine r_le ?_ | with_reducible refine r_gt ?_ | with_reducible refine r_ge ?_ | with_reducible refine r_eqI ?_ | with_reducible refine r_neI ?_ | with_reducible refine r_eqS ?_ | with_reducible refine r_neg ?_
  | ((with_reducible refine r_mod ?_ ?_); first | omega | decide) | ((with_reducible refine r_div ?_ ?_); first | omega | decide) | ((with_reducible refine r_mul ?_ ?_); first | omega | decide)
  | with_reducible refine r_lenT ?_ | with_reducible refine r_lenL ?_ | with_reducible refine r_lenIs ?_ | with_reducible refine r_lenRs ?_ | with_reducible refine r_cutTo ?_ | with_reducible refine r_cutFrom ?_ | with_reducible refine r_isN ?_ | with_reducible refine r_tupT ?_ | with_reducible refine r_tupL ?_ | with_reducible refine r_cutT ?_
  | ((with_reducible refine tupD_ok ?_ ?_); exact le1000 rfl) | ((with_reducible refine lstD_ok ?_ ?_); exact le1000 rfl) | with_reducible refine mkL_f ?_ | with_reducible refine mkL_t ?_ | with_reducible refine gN_ok ?_ | with_reducible refine g_two ?_ | with_reducible refine s_sub ?_
  | ((with_reducible refine ite_t ?_ ?_); first | (with_reducible rfl) | decide +kernel | rfl) | ((with_reducible refine ite_f ?_ ?_); first | (with_reducible rfl) | decide +kernel | rfl) | with_reducible refine r_and2 ?_ | with_reducible refine r_or2 ?_ | with_reducible refine r_intB ?_ | with_reducible refine r_abs ?_)
def gP (g : Int → Int → Int × Int) (z : Nat) : List (Int × Int) := (burd2 z).map fun p => g p.1 p.2
noncomputable def at_e (LAM : Nat → List T → M T) : ME := eComp false (iAny (eL (callM 1 f_burdens_by_two) (aCons (eVar 1) (aNil)))) (.tup [4, 5]) (tYesM) [4, 5] (compK1 (callV LAM (eVar 2) (aCons (eVar 4) (aCons (eVar 5) (aNil)))))
noncomputable def m_alike_tables (LAM : Nat → List T → M T) : MS := sSeq (sSet 3 (eL kTuple (aCons (at_e LAM) (aNil)))) (
    sRet (eL kTupD (aCons (eVar 0) (aCons (eVar 1) (aCons (e2 kRepA (eL kTupD (aCons (eVar 3) (aNil))) (eL kLen (aCons (eL (callM 1 f_kinds_by_two) (aCons (eVar 0) (aNil))) (aNil)))) (aNil))))))
noncomputable def f_alike_tablesL (LAM : Nat → List T → M T) : List T → M T := popS (defM 3 6 (m_alike_tables LAM))
noncomputable def f_lam0 : List T → M T := lamM 2 (eL kTupD (aCons (eVar 1) (aCons (eVar 0) (aNil))))
noncomputable def f_lam1 : List T → M T := lamM 2 (eL kTupD (aCons (eVar 0) (aCons (eVar 1) (aNil))))
noncomputable def f_lam2 : List T → M T := lamM 2 (eL kTupD (aCons (eL kMin (aCons (eVar 0) (aCons (eVar 1) (aNil)))) (aCons (eL kMax (aCons (eVar 0) (aCons (eVar 1) (aNil)))) (aNil))))
noncomputable def lamL04 : Nat → List T → M T
  | 0 => f_lam0
  | 1 => f_lam1
  | 2 => f_lam2
  | _ => fun _ _ => .stuck
noncomputable abbrev f_alike_tables : List T → M T := f_alike_tablesL lamL04
noncomputable def m_clam : ME := eL kTupD (aCons (eVar 1) (aCons (e2 kMod (e2 kSub (e2 (kMul false) (eC (.int 2)) (eVar 1)) (eVar 0)) (eVar 2)) (aNil)))
noncomputable def lamLC (a : Addr) (S : Int) : Nat → List T → M T := fun n => if n = a + 3 then lamC 2 m_clam S else fun _ _ => .stuck
theorem r_callV4 {env : Mir.Env} {s : Store} {P : T → Store → Prop} {L : Nat → List T → M T} {m : ME} {mr : Mir.Env → M (List T)} (h : ROk (m env s) fun t s1 => ∃ n, t = .fn n ∧ ROk (mr env s1) fun ts s2 => ROk (L n ts s2) P) : ROk (callV L m mr env s) P := by
  obtain ⟨t, s1, e, n, rfl, h⟩ := h
  unfold callV
  rw [e]
  obtain ⟨ts, s2, e2, h⟩ := h
  dsimp only [R.bind]
  rw [e2]
  exact h
section
variable {st : Store} {m z n : Nat} {ps : List Int} {L : Nat → List T → M T} {g : Int → Int → Int × Int}
def Becomes (L : Nat → List T → M T) (n z : Nat) (g : Int → Int → Int × Int) : Prop := ∀ (a b : Int) (st : Store), (0 ≤ a ∧ a < z) → (0 ≤ b ∧ b < z) → L n [.int a, .int b] st = .ok (pairI (g a b)) st
theorem at_ok (hL : Becomes L n z g) (hw : Wf st) (hz : z ≤ 6) {x3 x4 x5 : Option T} : at_e L [some (intsT ps), some (.int (z : Int)), some (.fn n), x3, x4, x5] st = .ok (.lst ((gP g z).map pairI)) st := by
  unfold at_e
  have bb := burdens_by_two_spec hw hz
  have hit : iAny (eL (callM 1 f_burdens_by_two) (aCons (eVar 1) (aNil))) [some (intsT ps), some (.int (z : Int)), some (.fn n), x3, x4, x5] st = .ok ⟨(burd2 z).map pairI, fun _ => True⟩ st := by
    have e : eL (callM 1 f_burdens_by_two) (aCons (eVar 1) (aNil)) [some (intsT ps), some (.int (z : Int)), some (.fn n), x3, x4, x5] st = .ok (.lst ((burd2 z).map pairI)) st := eq_of (r_eL (r_cons (r_v rfl (r_nil (r_cl rfl (r_of bb ⟨rfl, rfl⟩))))))
    unfold iAny
    rw [e]; rfl
  have hl := burd2_len z hz
  have hl36 : (burd2 z).length ≤ 36 := by rw [hl]; exact Nat.mul_le_mul hz hz
  refine eq_of (r_comp (r_of hit ?_))
  refine (comp_rule (fun i acc s => acc = (((burd2 z).take i).map fun p => g p.1 p.2).map pairI ∧ s = st) ⟨rfl, rfl⟩ (fun _ _ _ _ => trivial) ?_).imp ?_
  · rintro i x acc s hx ⟨rfl, rfl⟩
    have hx : ((burd2 z).map pairI)[i]? = some x := hx
    rw [List.getElem?_map] at hx
    obtain ⟨q, hq, rfl⟩ := Option.map_eq_some_iff.mp hx
    have hm2 := burd2_mem (List.mem_of_getElem? hq)
    have pb := hL q.1 q.2 s hm2.1 hm2.2
    refine ⟨_, rfl, r_of (a := true) (s := s) rfl ⟨fun q => (by cases q), fun _ => ?_⟩⟩
    refine r_callV4 (r_v rfl ⟨n, rfl, r_cons (r_v rfl (r_cons (r_v rfl (r_nil (r_of pb ?_)))))⟩)
    refine ⟨?_, ?_, rfl⟩
    · have := (List.getElem?_eq_some_iff.mp hq).1
      simp only [List.length_map, List.length_take]
      exact line1000 (by omega)
    · rw [List.take_add_one, hq]
      simp
  · rintro acc s ⟨rfl, rfl⟩
    refine mkL_f ⟨?_, rfl⟩
    show T.lst ((((burd2 z).take ((burd2 z).map pairI).length).map _).map pairI) = _
    rw [List.length_map, List.take_length]
    rfl
def madeB (g : Int → Int → Int × Int) (z m : Nat) : List (List (Int × Int)) := List.replicate (m * (m - 1) / 2) (gP g z)
theorem alike_tables_spec (hL : Becomes L n z g) (hw : Wf st) (hm : m ≤ 5) (hz : z ≤ 6) (hps : ps.length = m) : f_alike_tablesL L [intsT ps, .int (z : Int), .fn n] st = .ok (bookT ps z (madeB g z m)) st := by
  have cv := at_ok (ps := ps) hL hw hz (x3 := none) (x4 := none) (x5 := none)
  have kb := kinds_by_two_spec (st := st) (ps := ps) hw (by omega)
  rw [hps] at kb
  have hkl := kinds2_len m hm
  have h10 : m * (m - 1) / 2 ≤ 10 := Nat.div_le_div_right (c := 2) (Nat.mul_le_mul hm (show m - 1 ≤ 4 by omega))
  obtain ⟨Z, hZ⟩ : ∃ Z : Int, (z : Int) = Z := ⟨_, rfl⟩
  have hout : bookT ps z (madeB g z m) = .tup [intsT ps, .int Z, .tup (List.replicate (m * (m - 1) / 2) (tabU (gP g z)))] := by
    rw [← hZ]
    unfold bookT madeB
    rw [List.map_replicate]
    rfl
  rw [hout]
  rw [hZ] at cv ⊢
  obtain ⟨Q, hQ⟩ : ∃ Q : Int, ((m * (m - 1) / 2 : Nat) : Int) = Q := ⟨_, rfl⟩
  have hQ2 : Q.toNat = m * (m - 1) / 2 := by rw [← hQ]; rfl
  have hq0 : 0 ≤ Q ∧ Q ≤ 1000 := by omega
  have hpl : (T.tup [intsT ps, .int Z, .tup (List.replicate (m * (m - 1) / 2) (tabU (gP g z)))]).isBelow 0 = true := by
    rw [← hout]
    exact book_plain
  refine pop_pure hw ?_
  show SA (m_alike_tables L [some (intsT ps), some (.int Z), some (.fn n), none, none, none] st) _ _ _
  unfold m_alike_tables
  generalize at_e L = CE at cv ⊢
  have cv2 : eL kTuple (aCons CE (aNil)) [some (intsT ps), some (.int Z), some (.fn n), none, none, none] st = .ok (tabU (gP g z)) st := eq_of (r_eL (r_cons (r_of cv (r_nil (r_tupL ⟨rfl, rfl⟩)))))
  generalize eL kTuple (aCons CE (aNil)) = CE2 at cv2 ⊢
  refine sa_seq (sa_set (r_of cv2 ?_))
  show SA (sRet _ [some (intsT ps), some (.int Z), some (.fn n), some (tabU (gP g z)), none, none] st) _ _ _
  have ekl : eL kLen (aCons (eL (callM 1 f_kinds_by_two) (aCons (eVar 0) (aNil))) (aNil)) [some (intsT ps), some (.int Z), some (.fn n), some (tabU (gP g z)), none, none] st = .ok (.int ((m * (m - 1) / 2 : Nat) : Int)) st :=
    eq_of (r_eL (r_cons (r_eL (r_cons (r_v rfl (r_nil (r_cl rfl (r_of kb (r_nil (r_lenL ⟨by rw [List.length_map, hkl], rfl⟩))))))))))
  rw [hQ] at ekl
  generalize eL kLen (aCons (eL (callM 1 f_kinds_by_two) (aCons (eVar 0) (aNil))) (aNil)) = KE at ekl ⊢
  have hout2 : (List.replicate Q.toNat [tabU (gP g z)]).flatten = List.replicate (m * (m - 1) / 2) (tabU (gP g z)) := by
    rw [hQ2]
    simp
  generalize tabU (gP g z) = TB at hout2 hpl ekl ⊢
  have ev : eL kTupD (aCons (eVar 0) (aCons (eVar 1) (aCons (e2 kRepA (eL kTupD (aCons (eVar 3) (aNil))) KE) (aNil)))) [some (intsT ps), some (.int Z), some (.fn n), some TB, none, none] st = .ok (.tup [intsT ps, .int Z, .tup (List.replicate (m * (m - 1) / 2) TB)]) st := by
    refine eq_of (r_eL (r_cons (r_v rfl (r_cons (r_v rfl (r_cons (r_e2 (r_eL (r_cons (r_v rfl (r_nil (tupD_ok (by simp) (r_of ekl (r_rep (by simp) hq0 (by simp) (r_nil (tupD_ok (by simp) ⟨?_, rfl⟩))))))))))))))))
    rw [hout2]
  generalize eL kTupD (aCons (eVar 0) (aCons (eVar 1) (aCons (e2 kRepA (eL kTupD (aCons (eVar 3) (aNil))) KE) (aNil)))) = RE at ev ⊢
  refine sa_ret (r_of ev ⟨List.take_length, plain_freeze _ _ _ hpl⟩)
end
theorem bec0 (z : Nat) : Becomes lamL04 0 z fun a b => (b, a) := fun a b st _ _ => by
  show f_lam0 [.int a, .int b] st = _
  unfold f_lam0 lamM
  show eL kTupD _ [some (.int a), some (.int b)] st = _
  exact eq_of (r_eL (r_cons (r_v rfl (r_cons (r_v rfl (r_nil (tupD_ok (by simp) ⟨rfl, rfl⟩)))))))
theorem bec1 (z : Nat) : Becomes lamL04 1 z fun a b => (a, b) := fun a b st _ _ => by
  show f_lam1 [.int a, .int b] st = _
  unfold f_lam1 lamM
  show eL kTupD _ [some (.int a), some (.int b)] st = _
  exact eq_of (r_eL (r_cons (r_v rfl (r_cons (r_v rfl (r_nil (tupD_ok (by simp) ⟨rfl, rfl⟩)))))))
theorem bec2 (z : Nat) : Becomes lamL04 2 z fun a b => (if b < a then b else a, if b > a then b else a) := fun a b st _ _ => by
  show f_lam2 [.int a, .int b] st = _
  unfold f_lam2 lamM
  show eL kTupD _ [some (.int a), some (.int b)] st = _
  have h1 : kMin [.int a, .int b] st = .ok (.int (if b < a then b else a)) st := rfl
  have h2 : kMax [.int a, .int b] st = .ok (.int (if b > a then b else a)) st := rfl
  exact eq_of (r_eL (r_cons (r_eL (r_cons (r_v rfl (r_cons (r_v rfl (r_nil (r_of h1 (r_cons (r_eL (r_cons (r_v rfl (r_cons (r_v rfl (r_nil (r_of h2 (r_nil (tupD_ok (by simp) ⟨rfl, rfl⟩)))))))))))))))))))
def foldG (z : Int) (a b : Int) : Int × Int := (b, (2 * b - a) % z)
theorem bec3 {z : Nat} (a0 : Addr) (hz : 1 ≤ z ∧ z ≤ 6) : Becomes (lamLC a0 (z : Int)) (a0 + 3) z (foldG z) := fun a b st ha hb => by
  have e : lamLC a0 (z : Int) (a0 + 3) = lamC 2 m_clam (z : Int) := if_pos rfl
  rw [e]
  obtain ⟨Z, hZ⟩ : ∃ Z : Int, (z : Int) = Z := ⟨_, rfl⟩
  rw [hZ]
  show m_clam [some (.int a), some (.int b), some (.int Z)] st = _
  unfold m_clam
  exact eq_of (r_eL (r_cons (r_v rfl (r_cons (r_e2 (r_e2 (r_e2 (r_c (r_v rfl (r_mul (by omega) (r_v rfl (r_sub (r_v rfl (r_mod (by omega) (r_nil (tupD_ok (by simp) ⟨rfl, rfl⟩))))))))))))))))
noncomputable def foldM (S : Int) : List T → M T
  | [.tup us, .int Z] => fun st => @ite _ (Wf st ∧ Z = S ∧ (1 ≤ Z ∧ Z ≤ 6) ∧ us.length ≤ 5 ∧ (∃ ps : List Int, us = ps.map T.int)) (Classical.propDecidable _) (.ok (.tup [.tup us, .int Z, .tup (List.replicate (us.length * (us.length - 1) / 2) (tabU (gP (foldG Z) Z.toNat)))]) st) .stuck
  | _ => fun _ => .stuck
theorem foldM_eq {st : Store} {m z : Nat} {ps : List Int} (hw : Wf st) (hm : m ≤ 5) (hz : 1 ≤ z ∧ z ≤ 6) (hps : ps.length = m) : foldM (z : Int) [intsT ps, .int (z : Int)] st = .ok (bookT ps z (madeB (foldG z) z m)) st := by
  show @ite _ _ (Classical.propDecidable _) _ _ = _
  rw [if_pos ⟨hw, rfl, by omega, by rw [List.length_map, hps]; exact hm, ps, rfl⟩]
  unfold bookT madeB
  rw [List.map_replicate, List.length_map, hps]
  rfl
theorem foldM_ok : ∀ (S : Int) (ts : List T) (st : Store), foldM S ts st = .stuck ∨ ∃ r st', foldM S ts st = .ok r st' ∧ ts.length + 1 = 3 ∧ ∀ a, f_alike_tablesL (lamLC a S) (ts ++ [.fn (a + 3)]) st = .ok r st' := by
  intro S ts st
  cases h : foldM S ts st with
  | stuck => exact .inl rfl
  | exc x s =>
    exfalso
    unfold foldM at h
    split at h
    · split at h <;> cases h
    · cases h
  | ok r st' =>
    refine .inr ⟨r, st', rfl, ?_⟩
    unfold foldM at h
    split at h
    · rename_i us Z
      split at h
      · rename_i hc
        obtain ⟨hw, rfl, hz, hl, ps, rfl⟩ := hc
        refine ⟨rfl, fun a => ?_⟩
        obtain ⟨z, rfl⟩ : ∃ z : Nat, Z = (z : Int) := ⟨Z.toNat, by omega⟩
        have hz' : 1 ≤ z ∧ z ≤ 6 := by omega
        have sp := alike_tables_spec (ps := ps) (m := ps.length) (bec3 a hz') hw (by simpa using hl) hz'.2 rfl
        have e := foldM_eq hw (m := ps.length) (by simpa using hl) hz' (ps := ps) rfl
        have e2 : foldM (z : Int) [intsT ps, .int (z : Int)] st = .ok r st' := by
          rw [← h]
          show @ite _ _ (Classical.propDecidable _) _ _ = _
          rw [if_pos ⟨hw, rfl, by omega, hl, ps, rfl⟩]
        rw [e] at e2
        cases e2
        exact sp
      · cases h
    · cases h
noncomputable def m_keeping : MS := sRet (eL (callM 3 f_alike_tables) (aCons (eVar 0) (aCons (eVar 1) (aCons (eC (.fn 0)) (aNil)))))
noncomputable def f_keeping : List T → M T := popS (defM 2 2 m_keeping)
noncomputable def m_staying : MS := sRet (eL (callM 3 f_alike_tables) (aCons (eVar 0) (aCons (eVar 1) (aCons (eC (.fn 1)) (aNil)))))
noncomputable def f_staying : List T → M T := popS (defM 2 2 m_staying)
noncomputable def m_sorting : MS := sRet (eL (callM 3 f_alike_tables) (aCons (eVar 0) (aCons (eVar 1) (aCons (eC (.fn 2)) (aNil)))))
noncomputable def f_sorting : List T → M T := popS (defM 2 2 m_sorting)
noncomputable def m_folding : MS := sRet (eClo 1 foldM (aCons (eVar 0) (aCons (eVar 1) (aNil))))
noncomputable def f_folding : List T → M T := popS (defM 2 2 m_folding)
section
variable {st : Store} {m z : Nat} {ps : List Int}
theorem made_one {k : Nat} {g : Int → Int → Int × Int} (hL : Becomes lamL04 k z g) (hw : Wf st) (hm : m ≤ 5) (hz : z ≤ 6) (hps : ps.length = m) :
    popS (defM 2 2 (sRet (eL (callM 3 f_alike_tables) (aCons (eVar 0) (aCons (eVar 1) (aCons (eC (.fn k)) (aNil))))))) [intsT ps, .int (z : Int)] st = .ok (bookT ps z (madeB g z m)) st := by
  have sp := alike_tables_spec (ps := ps) (m := m) hL hw hm hz hps
  obtain ⟨Z, hZ⟩ : ∃ Z : Int, (z : Int) = Z := ⟨_, rfl⟩
  rw [hZ] at sp ⊢
  have hpl : (bookT ps z (madeB g z m)).isBelow 0 = true := book_plain
  generalize bookT ps z (madeB g z m) = B at sp hpl ⊢
  have ev : eL (callM 3 f_alike_tables) (aCons (eVar 0) (aCons (eVar 1) (aCons (eC (.fn k)) (aNil)))) [some (intsT ps), some (.int Z)] st = .ok B st := eq_of (r_eL (r_cons (r_v rfl (r_cons (r_v rfl (r_cons (r_c (r_nil (r_cl rfl (r_of sp ⟨rfl, rfl⟩))))))))))
  generalize eL (callM 3 f_alike_tables) (aCons (eVar 0) (aCons (eVar 1) (aCons (eC (.fn k)) (aNil)))) = RE at ev ⊢
  refine pop_pure hw ?_
  show SA (sRet RE [some (intsT ps), some (.int Z)] st) _ _ _
  exact sa_ret (r_of ev ⟨List.take_length, plain_freeze _ _ _ hpl⟩)
theorem folding_spec (hw : Wf st) (hm : m ≤ 5) (hz : 1 ≤ z ∧ z ≤ 6) (hps : ps.length = m) : f_folding [intsT ps, .int (z : Int)] st = .ok (bookT ps z (madeB (foldG z) z m)) st := by
  have sp := foldM_eq (ps := ps) hw hm hz hps
  obtain ⟨Z, hZ⟩ : ∃ Z : Int, (z : Int) = Z := ⟨_, rfl⟩
  rw [hZ] at sp ⊢
  have hpl : (bookT ps z (madeB (foldG Z) z m)).isBelow 0 = true := book_plain
  generalize bookT ps z (madeB (foldG Z) z m) = B at sp hpl ⊢
  have ev : eClo 1 foldM (aCons (eVar 0) (aCons (eVar 1) (aNil))) [some (intsT ps), some (.int Z)] st = .ok B st := sp
  refine pop_pure hw ?_
  show SA (sRet (eClo 1 foldM (aCons (eVar 0) (aCons (eVar 1) (aNil)))) [some (intsT ps), some (.int Z)] st) _ _ _
  generalize eClo 1 foldM (aCons (eVar 0) (aCons (eVar 1) (aNil))) = RE at ev ⊢
  exact sa_ret (r_of ev ⟨List.take_length, plain_freeze _ _ _ hpl⟩)
end
noncomputable def tu_e : ME := eComp false (iAny (eL (callM 1 f_burdens_by_two) (aCons (eVar 2) (aNil)))) (.tup [6, 7]) (tYesM) [6, 7] (compK1 (eL kTupD (aCons (e2 kMod (e2 (kAdd false) (eVar 7) (eVar 5)) (eVar 2)) (aCons (e2 kMod (e2 (kAdd false) (eVar 6) (eVar 4)) (eVar 2)) (aNil)))))
noncomputable def tu_b : MS := sExpr (eM isL kAppend (eVar 3) (aCons (eL kTuple (aCons tu_e (aNil))) (aNil)))
noncomputable def m_turning : MS := sSeq (sSet 3 (eL (kLstD true) (aNil))) (
    sSeq (sFor (iAny (eVar 1)) (gT 2 (gsCons (gN 4) (gsCons (gN 5) (gsNil)))) tu_b) (
    sRet (eL kTupD (aCons (eVar 0) (aCons (eVar 2) (aCons (eL kTuple (aCons (eVar 3) (aNil))) (aNil)))))))
noncomputable def f_turning : List T → M T := popS (defM 3 8 m_turning)
def turnG (Z d e a b : Int) : Int × Int := ((b + e) % Z, (a + d) % Z)
section
variable {st : Store} {m z : Nat} {ps : List Int}
theorem tu_ok (hw : Wf st) (hz : 1 ≤ z ∧ z ≤ 6) {Z d e : Int} (hZ : (z : Int) = Z) {x0 x1 x3 x6 x7 : Option T} : tu_e [x0, x1, some (.int Z), x3, some (.int d), some (.int e), x6, x7] st = .ok (.lst ((gP (turnG Z d e) z).map pairI)) st := by
  unfold tu_e
  have bb := burdens_by_two_spec hw hz.2
  rw [hZ] at bb
  have hit : iAny (eL (callM 1 f_burdens_by_two) (aCons (eVar 2) (aNil))) [x0, x1, some (.int Z), x3, some (.int d), some (.int e), x6, x7] st = .ok ⟨(burd2 z).map pairI, fun _ => True⟩ st := by
    have e : eL (callM 1 f_burdens_by_two) (aCons (eVar 2) (aNil)) [x0, x1, some (.int Z), x3, some (.int d), some (.int e), x6, x7] st = .ok (.lst ((burd2 z).map pairI)) st := eq_of (r_eL (r_cons (r_v rfl (r_nil (r_cl rfl (r_of bb ⟨rfl, rfl⟩))))))
    unfold iAny
    rw [e]; rfl
  have hl := burd2_len z hz.2
  have hl36 : (burd2 z).length ≤ 36 := by rw [hl]; exact Nat.mul_le_mul hz.2 hz.2
  refine eq_of (r_comp (r_of hit ?_))
  refine (comp_rule (fun i acc s => acc = (((burd2 z).take i).map fun p => turnG Z d e p.1 p.2).map pairI ∧ s = st) ⟨rfl, rfl⟩ (fun _ _ _ _ => trivial) ?_).imp ?_
  · rintro i x acc s hx ⟨rfl, rfl⟩
    have hx : ((burd2 z).map pairI)[i]? = some x := hx
    rw [List.getElem?_map] at hx
    obtain ⟨q, hq, rfl⟩ := Option.map_eq_some_iff.mp hx
    have hz0 : 0 < Z := by omega
    refine ⟨_, rfl, r_of (a := true) (s := s) rfl ⟨fun q => (by cases q), fun _ => ?_⟩⟩
    refine r_eL (r_cons (r_e2 (r_e2 (r_v rfl (r_v rfl (r_add (r_v rfl (r_mod hz0 (r_cons (r_e2 (r_e2 (r_v rfl (r_v rfl (r_add (r_v rfl (r_mod hz0 (r_nil (tupD_ok (by simp) ?_))))))))))))))))))
    refine ⟨?_, ?_, rfl⟩
    · have := (List.getElem?_eq_some_iff.mp hq).1
      simp only [List.length_map, List.length_take]
      exact line1000 (by omega)
    · rw [List.take_add_one, hq]
      simp [turnG, pairI]
  · rintro acc s ⟨rfl, rfl⟩
    refine mkL_f ⟨?_, rfl⟩
    show T.lst ((((burd2 z).take ((burd2 z).map pairI).length).map _).map pairI) = _
    rw [List.length_map, List.take_length]
    rfl
theorem tabs_belowX (n : Nat) (l : List (Int × Int)) (f : Int × Int → List (Int × Int)) : belows n (l.map fun p => tabU (f p)) = true := plain_belows n _ (belows_iff.mpr fun t ht => by
  obtain ⟨j, _, rfl⟩ := List.mem_map.mp ht
  exact pairs_plain _)
def turnB (ds : List (Int × Int)) (z : Nat) : List (List (Int × Int)) := ds.map fun p => gP (turnG z p.1 p.2) z
theorem turning_spec (hw : Wf st) (hz : 1 ≤ z ∧ z ≤ 6) {ds : List (Int × Int)} (hd : ds.length ≤ 10) : f_turning [intsT ps, .tup (ds.map pairI), .int (z : Int)] st = .ok (bookT ps z (turnB ds z)) st := by
  obtain ⟨Z, hZ⟩ : ∃ Z : Int, (z : Int) = Z := ⟨_, rfl⟩
  have hout : bookT ps z (turnB ds z) = .tup [intsT ps, .int Z, .tup (ds.map fun p => tabU (gP (turnG Z p.1 p.2) z))] := by
    rw [← hZ]
    unfold bookT turnB
    rw [List.map_map]
    rfl
  have be := fun (s : Store) (hs : Wf s) (d e : Int) x0 x1 x3 x6 x7 => tu_ok (st := s) hs hz hZ (d := d) (e := e) (x0 := x0) (x1 := x1) (x3 := x3) (x6 := x6) (x7 := x7)
  rw [hout, hZ]
  generalize hP : intsT ps = P
  have hPl : P.isBelow 0 = true := by rw [← hP]; exact belows_ints 0 ps
  generalize hS : T.tup (ds.map pairI) = S
  refine pop_pure hw ?_
  show SA (m_turning [some P, some S, some (.int Z), none, none, none, none, none] st) _ _ _
  unfold m_turning tu_b
  generalize tu_e = CE at be ⊢
  refine sa_seq (sa_set (r_eL (r_nil (lstD_ok (by simp) (mkL_t ?_)))))
  show SA (sSeq _ _ [some P, some S, some (.int Z), some (.ref st.length), none, none, none, none] (st ++ [.lst []])) _ _ _
  have hit : iAny (eVar 1) [some P, some S, some (.int Z), some (.ref st.length), none, none, none, none] (st ++ [.lst []]) = .ok ⟨ds.map pairI, fun _ => True⟩ (st ++ [.lst []]) := by
    rw [← hS]; rfl
  generalize iAny (eVar 1) = IT at hit ⊢
  refine sa_seq (sa_for (r_of hit ⟨fun i e s => ∃ a b c f, e = [some P, some S, some (.int Z), some (.ref st.length), a, b, c, f] ∧ s = st ++ [.lst ((ds.take i).map fun p => tabU (gP (turnG Z p.1 p.2) z))], ⟨_, _, _, _, rfl, rfl⟩, fun _ _ _ _ => trivial, ?_, ?_⟩))
  · rintro i t e s ht ⟨a, b, c, f, rfl, rfl⟩
    have ht : (ds.map pairI)[i]? = some t := ht
    rw [List.getElem?_map] at ht
    obtain ⟨p, hp, rfl⟩ := Option.map_eq_some_iff.mp ht
    have hil := (List.getElem?_eq_some_iff.mp hp).1
    have cv := be (st ++ [.lst ((ds.take i).map fun p => tabU (gP (turnG Z p.1 p.2) z))]) (hw.push (o := .lst _) (show belows _ _ = true from tabs_belowX _ _ _)) p.1 p.2 (some P) (some S) (some (.ref st.length)) c f
    have hs : (st ++ [Ob.lst ((ds.take i).map fun p => tabU (gP (turnG Z p.1 p.2) z))])[st.length]? = some (.lst ((ds.take i).map fun p => tabU (gP (turnG Z p.1 p.2) z))) := by simp
    refine g_two (gN_ok (gN_ok ?_))
    refine sa_expr (r_eM (r_v rfl ⟨isL_at hs, r_cons (r_eL (r_cons (r_of cv (r_nil (r_tupL (r_nil (append_at hs ?_ ?_))))))) ⟩))
    · simp only [List.length_map, List.length_take]
      exact line1000 (by omega)
    · refine ⟨_, _, _, _, rfl, ?_⟩
      rw [List.take_add_one, hp]
      simp [tabU]
  · rintro e s ⟨a, b, c, f, rfl, rfl⟩
    have hl : ds.take (ds.map pairI).length = ds := by rw [List.length_map, List.take_length]
    have hs : (st ++ [Ob.lst ((ds.take (ds.map pairI).length).map fun p => tabU (gP (turnG Z p.1 p.2) z))])[st.length]? = some (.lst (ds.map fun p => tabU (gP (turnG Z p.1 p.2) z))) := by rw [hl]; simp
    refine sa_ret (r_eL (r_cons (r_v rfl (r_cons (r_v rfl (r_cons (r_eL (r_cons (r_v rfl (r_nil (tuple_at hs (r_nil (tupD_ok (by simp) ⟨by simp, plain_freeze _ _ _ ?_⟩)))))))))))))
    show (_ && (_ && (_ && true))) = true
    rw [hPl, show (T.int Z).isBelow 0 = true from rfl, show (T.tup (ds.map fun p => tabU (gP (turnG Z p.1 p.2) z))).isBelow 0 = true from tabs_belowX 0 _ _]
    rfl
end
section
variable {env envw : Mir.Env} {st s : Store} {al : Bool} {mi : MI} {m : ME} {t : MT} {e : ME} {v : Nat} {chk : Store → Prop} {items : List T}
theorem r_anyR {n : Nat} {ts : List T} {P : Iter → Store → Prop} (h : ROk (m env st) fun t s => t = .ref n ∧ s[n]? = some (.lst ts) ∧ P ⟨ts, fun s => s[n]? = some (.lst ts)⟩ s) : ROk (iAny m env st) P := by
  refine r_bind (h.imp fun t s h => ?_)
  obtain ⟨rfl, e, h⟩ := h
  simp only [itA, itLM, e]
  exact r_ok h
end
noncomputable def du_p (x y : ME) : MS := sExpr (eM isL kAppend (eVar 7) (aCons (eL kTupD (aCons x (aCons y (aNil)))) (aNil)))
noncomputable def du_t2 : MT := tAndM (tV (e2 (kEq false) (eVar 3) (eC (.int 2)))) (tV (e2 (kGt) (eVar 9) (eVar 10)))
noncomputable def du_t1 : MT := tOrM (tV (e2 (kEq false) (eVar 3) (eC (.int 1)))) (tV (e2 (kEq false) (eVar 3) (eC (.int 2))))
noncomputable def du_t3 : MT := tV (e2 (kEq false) (eVar 3) (eC (.int 3)))
noncomputable def du_t4 : MT := tV (e2 (kEq false) (eVar 3) (eC (.int 4)))
noncomputable def du_i : MS := sIf du_t2 (du_p (eVar 10) (eVar 9)) (sIf du_t1 (du_p (eVar 9) (eVar 10)) (sIf du_t3 (du_p (eVar 10) (e2 kMod (e2 kSub (e2 (kAdd false) (e2 (kAdd false) (eVar 10) (eVar 10)) (eVar 2)) (eVar 9)) (eVar 2))) (sIf du_t4 (du_p (e2 kMod (e2 (kAdd false) (e2 (kAdd false) (eVar 10) (eVar 6)) (e2 (kMul false) (eC (.int 1200)) (eVar 2))) (eVar 2)) (e2 kMod (e2 (kAdd false) (e2 (kAdd false) (eVar 9) (eVar 5)) (e2 (kMul false) (eC (.int 1200)) (eVar 2))) (eVar 2))) (du_p (eVar 10) (eVar 9)))))
noncomputable def du_n : MS := sSeq (sPar 9 10 (aCons (e2 kDiv (eVar 8) (eVar 2)) (aCons (e2 kMod (eVar 8) (eVar 2)) aNil))) du_i
noncomputable def du_k : MS := sSeq (sSet 7 (eL (kLstD true) (aNil))) (
    sSeq (sFor (iRange1 (e2 (kMul false) (eVar 2) (eVar 2))) (gN 8) du_n) (
    sExpr (eM isL kAppend (eVar 4) (aCons (eL kTuple (aCons (eVar 7) (aNil))) (aNil)))))
noncomputable def m_l_due04 : MS := sSeq (sSet 4 (eL (kLstD true) (aNil))) (
    sSeq (sFor (iAny (eVar 1)) (gT 2 (gsCons (gN 5) (gsCons (gN 6) (gsNil)))) du_k) (
    sRet (eL kTupD (aCons (eVar 0) (aCons (eVar 2) (aCons (eL kTuple (aCons (eVar 4) (aNil))) (aNil)))))))
noncomputable def f_l_due04 : List T → M T := popS (defM 4 11 m_l_due04)
def dueG (f Z d e a b : Int) : Int × Int := if f = 2 ∧ b < a then (b, a) else if f = 1 ∨ f = 2 then (a, b) else if f = 3 then (b, (b + b + Z - a) % Z) else if f = 4 then ((b + e + 1200 * Z) % Z, (a + d + 1200 * Z) % Z) else (b, a)
section
variable {s : Store} {F G : Nat} {a b f Z d e n : Int} {L : List T} {x0 x1 x8 x9 x10 : Option T} {Q : Mir.Env → Store → Prop} {P : T → Store → Prop} {E : Ex → Mir.Env → Store → Prop}
theorem du_app {env : Mir.Env} {x y : ME} {u v : Int} (hG : env[7]? = some (some (.ref G))) (hx : x env s = .ok (.int u) s) (hy : y env s = .ok (.int v) s) (hs : s[G]? = some (.lst L)) (hl : L.length ≤ 400) (q : Q env (s.set G (.lst (L ++ [pairI (u, v)])))) : SA (du_p x y env s) Q P E := by
  unfold du_p
  refine sa_expr (r_eM (r_v hG ⟨isL_at hs, r_cons (r_eL (r_cons (r_of hx (r_cons (r_of hy (r_nil (tupD_ok (by simp) (r_nil (append_at hs (line1000 (by omega)) q)))))))))⟩))
theorem du_i_ok (hz : 0 < Z) (hs : s[G]? = some (.lst L)) (hl : L.length ≤ 400) (q : Q [x0, x1, some (.int Z), some (.int f), some (.ref F), some (.int d), some (.int e), some (.ref G), x8, some (.int a), some (.int b)] (s.set G (.lst (L ++ [pairI (dueG f Z d e a b)])))) :
    SA (du_i [x0, x1, some (.int Z), some (.int f), some (.ref F), some (.int d), some (.int e), some (.ref G), x8, some (.int a), some (.int b)] s) Q P E := by
  have t2 : du_t2 [x0, x1, some (.int Z), some (.int f), some (.ref F), some (.int d), some (.int e), some (.ref G), x8, some (.int a), some (.int b)] s = .ok (decide (f = 2) && decide (b < a)) s := by
    unfold du_t2
    refine eq_of (r_and2 (r_tV (r_e2 (r_v rfl (r_c (r_eqI (r_bl ?_)))))))
    refine dite_c (fun h => ?_) fun h => ⟨by simp [h], rfl⟩
    refine r_tV (r_e2 (r_v rfl (r_v rfl (r_gt (r_bl ⟨by simp [h], rfl⟩)))))
  have t1 : du_t1 [x0, x1, some (.int Z), some (.int f), some (.ref F), some (.int d), some (.int e), some (.ref G), x8, some (.int a), some (.int b)] s = .ok (decide (f = 1) || decide (f = 2)) s := by
    unfold du_t1
    refine eq_of (r_or2 (r_tV (r_e2 (r_v rfl (r_c (r_eqI (r_bl ?_)))))))
    refine dite_c (fun h => ⟨by simp [h], rfl⟩) fun h => ?_
    refine r_tV (r_e2 (r_v rfl (r_c (r_eqI (r_bl ⟨by simp [h], rfl⟩)))))
  have t3 : du_t3 [x0, x1, some (.int Z), some (.int f), some (.ref F), some (.int d), some (.int e), some (.ref G), x8, some (.int a), some (.int b)] s = .ok (decide (f = 3)) s := by
    unfold du_t3
    refine eq_of (r_tV (r_e2 (r_v rfl (r_c (r_eqI (r_bl ⟨rfl, rfl⟩))))))
  have t4 : du_t4 [x0, x1, some (.int Z), some (.int f), some (.ref F), some (.int d), some (.int e), some (.ref G), x8, some (.int a), some (.int b)] s = .ok (decide (f = 4)) s := by
    unfold du_t4
    refine eq_of (r_tV (r_e2 (r_v rfl (r_c (r_eqI (r_bl ⟨rfl, rfl⟩))))))
  unfold du_i
  generalize du_t1 = T1 at t1 ⊢
  generalize du_t2 = T2 at t2 ⊢
  generalize du_t3 = T3 at t3 ⊢
  generalize du_t4 = T4 at t4 ⊢
  have m12 : ∀ s : Store, kMul false (.int 1200) (.int Z) s = .ok (.int (1200 * Z)) s := fun s => by unfold kMul; simp only; rw [if_pos (.inl ⟨by decide, by decide⟩)]
  by_cases c2 : f = 2 ∧ b < a
  · have e1 : dueG f Z d e a b = (b, a) := if_pos c2
    rw [e1] at q
    refine sa_if (r_of t2 (ite_t (by simp [c2]) (du_app rfl rfl rfl hs hl q)))
  refine sa_if (r_of t2 (ite_f ?_ ?_))
  · cases h : (decide (f = 2) && decide (b < a)) with
    | false => rfl
    | true => simp at h; exact (c2 h).elim
  by_cases c1 : f = 1 ∨ f = 2
  · have e1 : dueG f Z d e a b = (a, b) := (if_neg c2).trans (if_pos c1)
    rw [e1] at q
    refine sa_if (r_of t1 (ite_t (by simpa using c1) (du_app rfl rfl rfl hs hl q)))
  refine sa_if (r_of t1 (ite_f ?_ ?_))
  · cases h : (decide (f = 1) || decide (f = 2)) with
    | false => rfl
    | true => simp at h; exact (c1 h).elim
  by_cases c3 : f = 3
  · have e1 : dueG f Z d e a b = (b, (b + b + Z - a) % Z) := (if_neg c2).trans ((if_neg c1).trans (if_pos c3))
    rw [e1] at q
    refine sa_if (r_of t3 (ite_t (by simp [c3]) (du_app rfl rfl ?_ hs hl q)))
    exact eq_of (r_e2 (r_e2 (r_e2 (r_e2 (r_v rfl (r_v rfl (r_add (r_v rfl (r_add (r_v rfl (r_sub (r_v rfl (r_mod hz ⟨rfl, rfl⟩)))))))))))))
  refine sa_if (r_of t3 (ite_f (by simp [c3]) ?_))
  by_cases c4 : f = 4
  · have e1 : dueG f Z d e a b = ((b + e + 1200 * Z) % Z, (a + d + 1200 * Z) % Z) := (if_neg c2).trans ((if_neg c1).trans ((if_neg c3).trans (if_pos c4)))
    rw [e1] at q
    refine sa_if (r_of t4 (ite_t (by simp [c4]) (du_app rfl ?_ ?_ hs hl q)))
    · exact eq_of (r_e2 (r_e2 (r_e2 (r_v rfl (r_v rfl (r_add (r_e2 (r_c (r_v rfl (r_of (m12 s) (r_add (r_v rfl (r_mod hz ⟨rfl, rfl⟩)))))))))))))
    · exact eq_of (r_e2 (r_e2 (r_e2 (r_v rfl (r_v rfl (r_add (r_e2 (r_c (r_v rfl (r_of (m12 s) (r_add (r_v rfl (r_mod hz ⟨rfl, rfl⟩)))))))))))))
  · have e1 : dueG f Z d e a b = (b, a) := (if_neg c2).trans ((if_neg c1).trans ((if_neg c3).trans (if_neg c4)))
    rw [e1] at q
    refine sa_if (r_of t4 (ite_f (by simp [c4]) (du_app rfl rfl rfl hs hl q)))
theorem du_n_ok (hz : 0 < Z ∧ Z ≤ 1000) (hs : s[G]? = some (.lst L)) (hl : L.length ≤ 400) (q : ∀ x9 x10, Q [x0, x1, some (.int Z), some (.int f), some (.ref F), some (.int d), some (.int e), some (.ref G), some (.int n), x9, x10] (s.set G (.lst (L ++ [pairI (dueG f Z d e (n / Z) (n % Z))])))) :
    SA (du_n [x0, x1, some (.int Z), some (.int f), some (.ref F), some (.int d), some (.int e), some (.ref G), some (.int n), x9, x10] s) Q P E := by
  unfold du_n
  refine sa_seq (sa_par (r_cons (r_e2 (r_v rfl (r_v rfl (r_div hz (r_cons (r_e2 (r_v rfl (r_v rfl (r_mod hz.1 (r_nil (two_in ?_)))))))))))))
  exact du_i_ok hz.1 hs hl (q _ _)
theorem burd2_range : ∀ z : Nat, z ≤ 6 → burd2 z = (List.range (z * z)).map fun n : Nat => (((n : Int) / (z : Int)), ((n : Int) % (z : Int))) := by decide +kernel
theorem du_k_ok {z : Nat} (hz : 1 ≤ z ∧ z ≤ 6) (hZ : (z : Int) = Z) {x7 : Option T} (hF : s[F]? = some (.lst L)) (hl : L.length ≤ 400) (q : ∀ x7 x8 x9 x10 o, Q [x0, x1, some (.int Z), some (.int f), some (.ref F), some (.int d), some (.int e), x7, x8, x9, x10] ((s ++ [o]).set F (.lst (L ++ [tabU (gP (dueG f Z d e) z)])))) :
    SA (du_k [x0, x1, some (.int Z), some (.int f), some (.ref F), some (.int d), some (.int e), x7, x8, x9, x10] s) Q P E := by
  have hzz : z * z ≤ 6 * 6 := Nat.mul_le_mul hz.2 hz.2
  have hZZ : Z * Z = ((z * z : Nat) : Int) := by rw [Int.natCast_mul, hZ]
  have hZ1 : -1000 ≤ Z ∧ Z ≤ 1000 := by omega
  have hz2 : 0 < Z ∧ Z ≤ 1000 := by omega
  have hFl := at_lt hF
  have hG : ∀ L' : List T, (s ++ [Ob.lst L'])[s.length]? = some (.lst L') := fun L' => by simp
  have mz : ∀ x8 x9 x10 : Option T, e2 (kMul false) (eVar 2) (eVar 2) [x0, x1, some (.int Z), some (.int f), some (.ref F), some (.int d), some (.int e), some (.ref s.length), x8, x9, x10] (s ++ [.lst []]) = .ok (.int (Z * Z)) (s ++ [.lst []]) := fun _ _ _ => eq_of (r_e2 (r_v rfl (r_v rfl (r_mul hZ1 ⟨rfl, rfl⟩))))
  have e1 : (Mir.rangeT 0 (Z * Z).toNat).length = z * z := by rw [rangeT_len, hZZ, Int.toNat_natCast]
  have e2' : ((List.range (Mir.rangeT 0 (Z * Z).toNat).length).map fun n : Nat => pairI (dueG f Z d e ((n : Int) / Z) ((n : Int) % Z))) = (gP (dueG f Z d e) z).map pairI := by
    rw [e1]
    unfold gP
    rw [burd2_range z hz.2, hZ]
    simp [List.map_map, Function.comp_def]
  have bound : -1000000 ≤ Z * Z ∧ Z * Z ≤ 1000000 := by omega
  unfold du_k
  refine sa_seq (sa_set (r_eL (r_nil (lstD_ok (by simp) (mkL_t ?_)))))
  show SA (sSeq _ _ [x0, x1, some (.int Z), some (.int f), some (.ref F), some (.int d), some (.int e), some (.ref s.length), x8, x9, x10] (s ++ [.lst []])) _ _ _
  refine sa_seq (sa_for (range1_ok (n := Z * Z) (s1 := s ++ [.lst []]) (mz _ _ _) bound.1 bound.2 ⟨fun i e' s' => ∃ x8 x9 x10, e' = [x0, x1, some (.int Z), some (.int f), some (.ref F), some (.int d), some (.int e), some (.ref s.length), x8, x9, x10] ∧ s' = s ++ [.lst ((List.range i).map fun n : Nat => pairI (dueG f Z d e ((n : Int) / Z) ((n : Int) % Z)))], ⟨_, _, _, rfl, rfl⟩, fun _ _ _ _ => trivial, ?_, ?_⟩))
  · rintro i t e' s' ht ⟨x8, x9, x10, rfl, rfl⟩
    obtain ⟨rfl, hi⟩ := rangeT_get ht
    refine gN_ok ?_
    refine du_n_ok hz2 (hG _) (by simp; omega) fun x9 x10 => ?_
    refine ⟨_, _, _, rfl, ?_⟩
    rw [List.range_succ]
    simp
  · rintro e' s' ⟨x8, x9, x10, rfl, rfl⟩
    rw [e2']
    have hF2 : (s ++ [Ob.lst ((gP (dueG f Z d e) z).map pairI)])[F]? = some (.lst L) := by rw [List.getElem?_append_left hFl]; exact hF
    refine sa_expr (r_eM (r_v rfl ⟨isL_at hF2, r_cons (r_eL (r_cons (r_v rfl (r_nil (tuple_at (hG _) (r_nil (append_at hF2 (line1000 (by omega)) (q _ _ _ _ _))))))))⟩))
end
def dueB (f : Int) (ds : List (Int × Int)) (z : Nat) : List (List (Int × Int)) := ds.map fun p => gP (dueG f z p.1 p.2) z
section
variable {st : Store} {m z : Nat} {ps : List Int}
theorem due04_spec (hw : Wf st) (hz : 1 ≤ z ∧ z ≤ 6) {ds : List (Int × Int)} (hd : ds.length ≤ 10) {r : Nat} {f : Int} (hr : st[r]? = some (.lst (ds.map pairI))) : f_l_due04 [intsT ps, .ref r, .int (z : Int), .int f] st = .ok (bookT ps z (dueB f ds z)) st := by
  obtain ⟨Z, hZ⟩ : ∃ Z : Int, (z : Int) = Z := ⟨_, rfl⟩
  have hout : bookT ps z (dueB f ds z) = .tup [intsT ps, .int Z, .tup (ds.map fun p => tabU (gP (dueG f Z p.1 p.2) z))] := by
    rw [← hZ]
    unfold bookT dueB
    rw [List.map_map]
    rfl
  have be := fun (s : Store) (F : Nat) (d e : Int) (L : List T) x0 x1 x7 x8 x9 x10 (Q : Mir.Env → Store → Prop) hF hl q => du_k_ok (s := s) (F := F) (f := f) (d := d) (e := e) (L := L) (x0 := x0) (x1 := x1) (x7 := x7) (x8 := x8) (x9 := x9) (x10 := x10) (Q := Q) (P := fun t s => s.take st.length = st ∧ freeze s st.length t = some (.tup [intsT ps, .int Z, .tup (ds.map fun p => tabU (gP (dueG f Z p.1 p.2) z))])) (E := fun _ _ _ => False) hz hZ hF hl q
  have hrl := at_lt hr
  rw [hout, hZ]
  have hPl : (intsT ps).isBelow 0 = true := belows_ints 0 ps
  generalize intsT ps = P at be hPl ⊢
  refine pop_pure hw ?_
  show SA (m_l_due04 [some P, some (.ref r), some (.int Z), some (.int f), none, none, none, none, none, none, none] st) _ _ _
  unfold m_l_due04
  generalize du_k = CE at be ⊢
  refine sa_seq (sa_set (r_eL (r_nil (lstD_ok (by simp) (mkL_t ?_)))))
  show SA (sSeq _ _ [some P, some (.ref r), some (.int Z), some (.int f), some (.ref st.length), none, none, none, none, none, none] (st ++ [.lst []])) _ _ _
  have hit : ROk (iAny (eVar 1) [some P, some (.ref r), some (.int Z), some (.int f), some (.ref st.length), none, none, none, none, none, none] (st ++ [.lst []])) fun it s => it = ⟨ds.map pairI, fun s => s[r]? = some (.lst (ds.map pairI))⟩ ∧ s = st ++ [.lst []] := r_anyR (n := r) (ts := ds.map pairI) (r_v rfl ⟨rfl, by rw [List.getElem?_append_left hrl]; exact hr, rfl, rfl⟩)
  generalize iAny (eVar 1) = IT at hit ⊢
  refine sa_seq (sa_for (r_of (eq_of hit) ⟨fun i e s => ∃ a b c f' g h, e = [some P, some (.ref r), some (.int Z), some (.int f), some (.ref st.length), a, b, c, f', g, h] ∧ s.take st.length = st ∧ s[st.length]? = some (.lst ((ds.take i).map fun p => tabU (gP (dueG f Z p.1 p.2) z))), ⟨_, _, _, _, _, _, rfl, by simp, by simp⟩, ?_, ?_, ?_⟩))
  · rintro i e s ⟨a, b, c, f', g, h, rfl, h1, h2⟩
    show s[r]? = _
    have e3 : s[r]? = (s.take st.length)[r]? := by rw [List.getElem?_take, if_pos hrl]
    rw [e3, h1]
    exact hr
  · rintro i t e s ht ⟨a, b, c, f', g, h, rfl, h1, h2⟩
    have ht : (ds.map pairI)[i]? = some t := ht
    rw [List.getElem?_map] at ht
    obtain ⟨p, hp, rfl⟩ := Option.map_eq_some_iff.mp ht
    have hil := (List.getElem?_eq_some_iff.mp hp).1
    have hl := at_lt h2
    refine g_two (gN_ok (gN_ok ?_))
    refine be s st.length p.1 p.2 _ _ _ _ _ _ _ _ h2 (by simp; omega) fun x7 x8 x9 x10 o => ?_
    refine ⟨_, _, _, _, _, _, rfl, ?_, ?_⟩
    · rw [List.take_set_of_le (Nat.le_refl _), List.take_append_of_le_length (by omega)]; exact h1
    · rw [set_self (by simp; omega), List.take_add_one, hp]
      simp
  · rintro e s ⟨a, b, c, f', g, h, rfl, h1, h2⟩
    have hl : ds.take (ds.map pairI).length = ds := by rw [List.length_map, List.take_length]
    have h2 : s[st.length]? = some (.lst ((ds.take (ds.map pairI).length).map fun p => tabU (gP (dueG f Z p.1 p.2) z))) := h2
    rw [hl] at h2
    refine sa_ret (r_eL (r_cons (r_v rfl (r_cons (r_v rfl (r_cons (r_eL (r_cons (r_v rfl (r_nil (tuple_at h2 (r_nil (tupD_ok (by simp) ⟨h1, plain_freeze _ _ _ ?_⟩)))))))))))))
    show (_ && (_ && (_ && true))) = true
    rw [hPl, show (T.int Z).isBelow 0 = true from rfl, show (T.tup (ds.map fun p => tabU (gP (dueG f Z p.1 p.2) z))).isBelow 0 = true from tabs_belowX 0 _ _]
    rfl
end
theorem r_eLK4 {n m : Nat} {fm : List T → M T} {mr mk : Mir.Env → M (List T)} {env : Mir.Env} {st : Store} {P : T → Store → Prop} (h : ROk (mr env st) fun ts s => ROk (mk env s) fun us s2 => (ts.length = n ∧ us.length = m) ∧ ROk (fm (ts ++ us) s2) P) : ROk (eLK n m fm mr mk env st) P := by
  obtain ⟨ts, s, e1, us, s2, e2, hl, h⟩ := h
  unfold eLK
  rw [e1]
  dsimp only [R.bind]
  rw [e2]
  dsimp only [R.bind]
  rw [if_pos hl]
  exact h
theorem gP_same {g h : Int → Int → Int × Int} {z : Nat} (e : ∀ a b : Int, (0 ≤ a ∧ a < z) → (0 ≤ b ∧ b < z) → g a b = h a b) : gP g z = gP h z := by
  unfold gP
  refine List.map_congr_left fun p hp => ?_
  have hm := burd2_mem hp
  exact e _ _ hm.1 hm.2
theorem gP_ok {g : Int → Int → Int × Int} {z : Nat} (hz : z ≤ 6) (h : ∀ a b : Int, (0 ≤ a ∧ a < z) → (0 ≤ b ∧ b < z) → (0 ≤ (g a b).1 ∧ (g a b).1 < z) ∧ (0 ≤ (g a b).2 ∧ (g a b).2 < z)) : OkTab z (gP g z) := by
  refine ⟨by unfold gP; rw [List.length_map, burd2_len z hz], fun p hp => ?_⟩
  obtain ⟨q, hq, rfl⟩ := List.mem_map.mp hp
  have hm := burd2_mem hq
  exact h q.1 q.2 hm.1 hm.2
theorem due_const {g : Int → Int → Int × Int} {f : Int} {z m : Nat} {ds : List (Int × Int)} (hd : ds.length = m * (m - 1) / 2) (h : ∀ d e : Int, gP (dueG f z d e) z = gP g z) : dueB f ds z = madeB g z m := by
  unfold dueB madeB
  rw [← hd]
  refine List.eq_replicate_iff.mpr ⟨by simp, fun b hb => ?_⟩
  obtain ⟨p, _, rfl⟩ := List.mem_map.mp hb
  exact h _ _
section
variable {z m : Nat} {ds : List (Int × Int)}
theorem due0 (hd : ds.length = m * (m - 1) / 2) : dueB 0 ds z = madeB (fun a b => (b, a)) z m := due_const hd fun d e => gP_same fun a b _ _ => by simp [dueG]
theorem due1 (hd : ds.length = m * (m - 1) / 2) : dueB 1 ds z = madeB (fun a b => (a, b)) z m := due_const hd fun d e => gP_same fun a b _ _ => by simp [dueG]
theorem due2 (hd : ds.length = m * (m - 1) / 2) : dueB 2 ds z = madeB (fun a b => (if b < a then b else a, if b > a then b else a)) z m := due_const hd fun d e => gP_same fun a b _ _ => by
  unfold dueG
  by_cases h : b < a
  · rw [if_pos ⟨rfl, h⟩, if_pos h, if_neg (by omega)]
  · rw [if_neg (fun z => h z.2), if_pos (.inr rfl), if_neg h]
    by_cases h2 : b > a
    · rw [if_pos h2]
    · rw [if_neg h2]
      have : a = b := by omega
      rw [this]
theorem due3 (hd : ds.length = m * (m - 1) / 2) : dueB 3 ds z = madeB (foldG z) z m := due_const hd fun d e => gP_same fun a b _ _ => by
  have e1 : dueG 3 z d e a b = (b, (b + b + z - a) % z) := by simp [dueG]
  rw [e1]
  unfold foldG
  have e2 : b + b + (z : Int) - a = 2 * b - a + z := by omega
  rw [e2, Int.add_emod_right]
theorem due4 : dueB 4 ds z = turnB ds z := by
  unfold dueB turnB
  refine List.map_congr_left fun p _ => gP_same fun a b _ _ => ?_
  have e1 : dueG 4 z p.1 p.2 a b = ((b + p.2 + 1200 * z) % z, (a + p.1 + 1200 * z) % z) := by simp [dueG]
  rw [e1]
  unfold turnG
  rw [Int.add_mul_emod_self_right, Int.add_mul_emod_self_right]
theorem due_okB {ps : List Int} (hps : ps.length = m) (hr : ps.Pairwise (· < ·)) (hb : ∀ p ∈ ps, -1000 ≤ p ∧ p ≤ 1000) (hz : 1 ≤ z ∧ z ≤ 6) (hd : ds.length = m * (m - 1) / 2) (f : Int) : OkBook m z ps (dueB f ds z) := by
  refine ⟨hps, hr, hb, by unfold dueB; rw [List.length_map, hd], fun tb ht => ?_⟩
  obtain ⟨p, _, rfl⟩ := List.mem_map.mp ht
  have hz0 : (0 : Int) < z := by omega
  refine gP_ok hz.2 fun a b ha hb => ?_
  unfold dueG
  split
  · exact ⟨hb, ha⟩
  split
  · exact ⟨ha, hb⟩
  split
  · exact ⟨hb, Int.emod_nonneg _ (by omega), Int.emod_lt_of_pos _ hz0⟩
  split
  · exact ⟨⟨Int.emod_nonneg _ (by omega), Int.emod_lt_of_pos _ hz0⟩, Int.emod_nonneg _ (by omega), Int.emod_lt_of_pos _ hz0⟩
  · exact ⟨hb, ha⟩
end
noncomputable def k04_w : MS := sSeq (sSet 7 (e2 kIx (eL (kLstD false) (aCons (eVar 3) (aCons (eC (.int 1000)) (aNil)))) (eL (callM 2 f_l_draw) (aCons (eVar 1) (aCons (eC (.int 2)) (aNil)))))) (
    sExpr (eM isL kAppend (eVar 5) (aCons (eL kTupD (aCons (e2 kSub (eL (callM 2 f_l_draw) (aCons (eVar 1) (aCons (e2 (kAdd false) (e2 (kMul false) (eC (.int 2)) (eVar 7)) (eC (.int 1))) (aNil)))) (eVar 7)) (aCons (e2 kSub (eL (callM 2 f_l_draw) (aCons (eVar 1) (aCons (e2 (kAdd false) (e2 (kMul false) (eC (.int 2)) (eVar 7)) (eC (.int 1))) (aNil)))) (eVar 7)) (aNil)))) (aNil))))
noncomputable def k04_c : MS := (sIf (tOrM (tNotM (tV (eL (callM 2 f_l_alike) (aCons (eVar 12) (aCons (eL (callM 4 f_l_due04) (aCons (eVar 4) (aCons (eVar 5) (aCons (eVar 3) (aCons (eVar 11) (aNil)))))) (aNil)))))) (tV (e2 (kIsT true) (eL (callM 1 f_look_book) (aCons (eVar 12) (aNil))) (eC (.bl true))))) (sRet (eC (.bl false))) (sNext))
noncomputable def k04_f : MS := sFor (iEnumA (eVar 9)) (gT 2 (gsCons (gN 11) (gsCons (gN 12) (gsNil)))) k04_c
noncomputable def k04_a : ME := (eL (kLstD false) (aCons (eLK 1 1 f_keeping (aCons (eVar 4) (aNil)) (aCons (eVar 3) (aNil))) (aCons (eLK 1 1 f_staying (aCons (eVar 4) (aNil)) (aCons (eVar 3) (aNil))) (aCons (eLK 1 1 f_sorting (aCons (eVar 4) (aNil)) (aCons (eVar 3) (aNil))) (aNil)))))
noncomputable def k04_b : ME := (e2 (kAdd false) (eVar 9) (eL (kLstD false) (aCons (eLK 1 1 f_folding (aCons (eVar 4) (aNil)) (aCons (eVar 3) (aNil))) (aCons (eLK 2 1 f_turning (aCons (eVar 4) (aCons (eVar 8) (aNil))) (aCons (eVar 3) (aNil))) (aNil)))))
noncomputable def k04_t : MS := (sSeq (sSet 9 k04_a) (sSeq (sSet 9 k04_b) k04_f))
noncomputable def k04_e : ME := (eAnd (e2 (kEq false) (eLK 2 1 f_turning (aCons (eVar 4) (aCons (eVar 8) (aNil))) (aCons (eVar 3) (aNil))) (e2 kIx (eVar 9) (eC (.int 4)))) (e2 (kEq false) (eVar 8) (eL kTuple (aCons (eVar 5) (aNil)))))
noncomputable def k04_n : ME := (e2 kDiv (e2 (kMul false) (eVar 2) (e2 kSub (eVar 2) (eC (.int 1)))) (eC (.int 2)))
noncomputable def m_law04 : MS := sSeq (sSet 1 (eL (callM 2 f_l_deal) (aCons (eVar 0) (aCons (eC (.int 0)) (aNil))))) (
    sSeq (sPar 2 3 (aCons (e2 (kAdd false) (eC (.int 1)) (eL (callM 2 f_l_draw) (aCons (eVar 1) (aCons (eC (.int 5)) (aNil))))) (aCons (e2 (kAdd false) (eC (.int 1)) (eL (callM 2 f_l_draw) (aCons (eVar 1) (aCons (eC (.int 6)) (aNil))))) aNil))) (
    sSeq (sPar 4 5 (aCons (eL (callM 2 f_l_paces) (aCons (eVar 1) (aCons (eVar 2) (aNil)))) (aCons (eL (kLstD true) (aNil)) aNil))) (
    sSeq (sFor (iRange1 k04_n) (gN 6) k04_w) (
    sSeq (sPar 8 9 (aCons (eL kTuple (aCons (eVar 5) (aNil))) (aCons (eL (kLstD false) (aNil)) aNil))) (
    sSeq (sFor (iRange1 (eC (.int 2))) (gN 10) k04_t) (
    sRet k04_e))))))
noncomputable def f_law04 : List T → M T := popS (defM 1 13 m_law04)
def pairsT (ds : List (Int × Int)) : T := .tup (ds.map pairI)
def BK (ps : List Int) (z : Nat) (ds : List (Int × Int)) (f : Int) : T := bookT ps z (dueB f ds z)
structure D04 (m z : Nat) (ps : List Int) (ds : List (Int × Int)) (Z : Int) (P TL : T) (R : Nat) : Prop where
  hm : 1 ≤ m ∧ m ≤ 5
  hz : 1 ≤ z ∧ z ≤ 6
  hps : ps.length = m
  rise : ps.Pairwise (· < ·)
  bnd : ∀ p ∈ ps, -1000 ≤ p ∧ p ≤ 1000
  hd : ds.length = m * (m - 1) / 2
  hZ : (z : Int) = Z
  hP : intsT ps = P
  hT : pairsT ds = TL
section
variable {s : Store} {z m R : Nat} {ps : List Int} {ds : List (Int × Int)} {Z : Int} {P TL : T}
theorem D04.ten (D : D04 m z ps ds Z P TL R) : ds.length ≤ 10 := by
  rw [D.hd]
  exact Nat.div_le_div_right (c := 2) (Nat.mul_le_mul D.hm.2 (show m - 1 ≤ 4 by have := D.hm; omega))
theorem D04.turning (D : D04 m z ps ds Z P TL R) (hw : Wf s) : f_turning [P, TL, .int Z] s = .ok (BK ps z ds 4) s := by
  have h := turning_spec (ps := ps) hw D.hz D.ten
  rw [← D.hP, ← D.hT, ← D.hZ]
  unfold BK
  rw [due4]
  exact h
theorem D04.a_ok (D : D04 m z ps ds Z P TL R) (hw : Wf s) {E : Mir.Env} (h3 : E[3]? = some (some (.int Z))) (h4 : E[4]? = some (some P)) : k04_a E s = .ok (.lst [BK ps z ds 0, BK ps z ds 1, BK ps z ds 2]) s := by
  have g0 := made_one (ps := ps) (bec0 z) hw D.hm.2 D.hz.2 D.hps
  have g1 := made_one (ps := ps) (bec1 z) hw D.hm.2 D.hz.2 D.hps
  have g2 := made_one (ps := ps) (bec2 z) hw D.hm.2 D.hz.2 D.hps
  rw [← due0 D.hd, D.hP, D.hZ] at g0
  rw [← due1 D.hd, D.hP, D.hZ] at g1
  rw [← due2 D.hd, D.hP, D.hZ] at g2
  have k0 : f_keeping ([P] ++ [.int Z]) s = .ok (BK ps z ds 0) s := g0
  have k1 : f_staying ([P] ++ [.int Z]) s = .ok (BK ps z ds 1) s := g1
  have k2 : f_sorting ([P] ++ [.int Z]) s = .ok (BK ps z ds 2) s := g2
  generalize BK ps z ds 0 = B0 at k0 ⊢
  generalize BK ps z ds 1 = B1 at k1 ⊢
  generalize BK ps z ds 2 = B2 at k2 ⊢
  unfold k04_a
  exact eq_of (r_eL (r_cons (r_eLK4 (r_cons (r_v h4 (r_nil (r_cons (r_v h3 (r_nil ⟨⟨rfl, rfl⟩, r_of k0 (r_cons (r_eLK4 (r_cons (r_v h4 (r_nil (r_cons (r_v h3 (r_nil ⟨⟨rfl, rfl⟩, r_of k1 (r_cons (r_eLK4 (r_cons (r_v h4 (r_nil (r_cons (r_v h3 (r_nil ⟨⟨rfl, rfl⟩, r_of k2 (r_nil (lstD_ok (by simp) (mkL_f ⟨rfl, rfl⟩)))⟩))))))))⟩))))))))⟩)))))))))
theorem D04.b_ok (D : D04 m z ps ds Z P TL R) (hw : Wf s) {E : Mir.Env} (h3 : E[3]? = some (some (.int Z))) (h4 : E[4]? = some (some P)) (h8 : E[8]? = some (some TL)) (h9 : E[9]? = some (some (.lst [BK ps z ds 0, BK ps z ds 1, BK ps z ds 2]))) : k04_b E s = .ok (.lst [BK ps z ds 0, BK ps z ds 1, BK ps z ds 2, BK ps z ds 3, BK ps z ds 4]) s := by
  have g3 := folding_spec (ps := ps) hw D.hm.2 D.hz D.hps
  rw [← due3 D.hd, D.hP, D.hZ] at g3
  have k3 : f_folding ([P] ++ [.int Z]) s = .ok (BK ps z ds 3) s := g3
  have k4 : f_turning ([P, TL] ++ [.int Z]) s = .ok (BK ps z ds 4) s := D.turning hw
  generalize BK ps z ds 0 = B0 at h9 ⊢
  generalize BK ps z ds 1 = B1 at h9 ⊢
  generalize BK ps z ds 2 = B2 at h9 ⊢
  generalize BK ps z ds 3 = B3 at k3 ⊢
  generalize BK ps z ds 4 = B4 at k4 ⊢
  unfold k04_b
  exact eq_of (r_e2 (r_v h9 (r_eL (r_cons (r_eLK4 (r_cons (r_v h4 (r_nil (r_cons (r_v h3 (r_nil ⟨⟨rfl, rfl⟩, r_of k3 (r_cons (r_eLK4 (r_cons (r_v h4 (r_cons (r_v h8 (r_nil (r_cons (r_v h3 (r_nil ⟨⟨rfl, rfl⟩, r_of k4 (r_nil (lstD_ok (by simp) (mkL_f (r_of (by rfl) ⟨rfl, rfl⟩))))⟩))))))))))⟩)))))))))))
end
section
variable {s s0 : Store} {z m R : Nat} {ps : List Int} {ds : List (Int × Int)} {Z : Int} {P TL : T} {x0 x1 x2 x6 x7 x8 x9 x10 x11 x12 : Option T}
theorem book_ddp04 {ps : List Int} {z : Nat} {tbs : List (List (Int × Int))} : ddp (bookT ps z tbs) ≤ 64 := by
  have h2 : ddps (tbs.map fun tb => T.tup (tb.map pairI)) ≤ 2 := ddps_le fun t ht => by
    obtain ⟨tb, _, rfl⟩ := List.mem_map.mp ht
    have := pairs_ddp tb
    show 1 + ddps (tb.map pairI) ≤ 2
    omega
  have h1 : ddps (ps.map T.int) ≤ 0 := ddps_le fun t ht => by
    obtain ⟨i, _, rfl⟩ := List.mem_map.mp ht
    exact Nat.le_refl _
  show 1 + max (1 + ddps (ps.map T.int)) (max 0 (max (1 + ddps (tbs.map fun tb => T.tup (tb.map pairI))) 0)) ≤ 64
  omega
theorem k04_c_ok (D : D04 m z ps ds Z P TL R) (hw : Wf s) (hs : s[R]? = some (.lst (ds.map pairI))) {i : Int} {Q : Mir.Env → Store → Prop} {PP : T → Store → Prop} {E : Ex → Mir.Env → Store → Prop}
    (q : Q [x0, x1, x2, some (.int Z), some P, some (.ref R), x6, x7, x8, x9, x10, some (.int i), some (BK ps z ds i)] s) :
    SA (k04_c [x0, x1, x2, some (.int Z), some P, some (.ref R), x6, x7, x8, x9, x10, some (.int i), some (BK ps z ds i)] s) Q PP E := by
  have okB := due_okB D.hps D.rise D.bnd D.hz D.hd i
  have due := due04_spec (ps := ps) (f := i) hw D.hz D.ten hs
  have lk := look_book_spec hw (bookX_th okB D.hm D.hz) (by decide)
  rw [bookX_ok okB D.hm D.hz] at lk
  have lk : f_look_book [BK ps z ds i] s = .ok (.bl true) s := lk
  have al := alike_spec (t := BK ps z ds i) (st := s) book_alT (Nat.le_trans (book_sz okB (by have := D.hm; omega) D.hz.2) (by decide)) hw
  rw [D.hP, D.hZ] at due
  have due : f_l_due04 [P, .ref R, .int Z, .int i] s = .ok (BK ps z ds i) s := due
  generalize BK ps z ds i = B at due lk al q ⊢
  unfold k04_c
  refine sa_if (r_or2 (r_not (r_tV (r_eL (r_cons (r_v rfl (r_cons (r_eL (r_cons (r_v rfl (r_cons (r_v rfl (r_cons (r_v rfl (r_cons (r_v rfl (r_nil (r_cl rfl (r_of due (r_nil (r_cl rfl (al.imp fun u s h => ?_))))))))))))))))))))))
  obtain ⟨rfl, rfl⟩ := h
  refine r_bl (ite_f rfl ?_)
  have isT : kIsT true (.bl true) (.bl true) s = .ok (.bl false) s := rfl
  refine r_tV (r_e2 (r_eL (r_cons (r_v rfl (r_nil (r_cl rfl (r_of lk (r_c (r_of isT (r_bl (ite_f rfl (sa_next ?_))))))))))))
  exact q
theorem k04_f_ok (D : D04 m z ps ds Z P TL R) (hw : Wf s) (hs : s[R]? = some (.lst (ds.map pairI))) {Q : Mir.Env → Store → Prop} {PP : T → Store → Prop} {E : Ex → Mir.Env → Store → Prop}
    (q : ∀ x11 x12, Q [x0, x1, x2, some (.int Z), some P, some (.ref R), x6, x7, x8, some (.lst [BK ps z ds 0, BK ps z ds 1, BK ps z ds 2, BK ps z ds 3, BK ps z ds 4]), x10, x11, x12] s) :
    SA (k04_f [x0, x1, x2, some (.int Z), some P, some (.ref R), x6, x7, x8, some (.lst [BK ps z ds 0, BK ps z ds 1, BK ps z ds 2, BK ps z ds 3, BK ps z ds 4]), x10, x11, x12] s) Q PP E := by
  have cc := fun (i : Int) (x9 x10 : Option T) (Q : Mir.Env → Store → Prop) q => k04_c_ok (x0 := x0) (x1 := x1) (x2 := x2) (x6 := x6) (x7 := x7) (x8 := x8) (x9 := x9) (x10 := x10) D hw hs (i := i) (Q := Q) (PP := PP) (E := E) q
  generalize BK ps z ds = B at cc q ⊢
  unfold k04_f
  have hit : iEnumA (eVar 9) [x0, x1, x2, some (.int Z), some P, some (.ref R), x6, x7, x8, some (.lst [B 0, B 1, B 2, B 3, B 4]), x10, x11, x12] s = .ok ⟨[.tup [.int 0, B 0], .tup [.int 1, B 1], .tup [.int 2, B 2], .tup [.int 3, B 3], .tup [.int 4, B 4]], fun _ => True⟩ s := rfl
  generalize k04_c = KC at cc ⊢
  generalize iEnumA (eVar 9) = IT at hit ⊢
  refine sa_for (r_of hit ⟨fun i e s' => ∃ x11 x12, e = [x0, x1, x2, some (.int Z), some P, some (.ref R), x6, x7, x8, some (.lst [B 0, B 1, B 2, B 3, B 4]), x10, x11, x12] ∧ s' = s, ⟨_, _, rfl, rfl⟩, fun _ _ _ _ => trivial, ?_, ?_⟩)
  · rintro i t e s' ht ⟨x11, x12, rfl, rfl⟩
    have key : ∃ k : Int, t = .tup [.int k, B k] := by
      rcases i with _ | _ | _ | _ | _ | i
      · exact ⟨0, (Option.some.inj ht).symm⟩
      · exact ⟨1, (Option.some.inj ht).symm⟩
      · exact ⟨2, (Option.some.inj ht).symm⟩
      · exact ⟨3, (Option.some.inj ht).symm⟩
      · exact ⟨4, (Option.some.inj ht).symm⟩
      · cases ht
    obtain ⟨k, rfl⟩ := key
    refine g_two (gN_ok (gN_ok ?_))
    exact cc k _ _ _ ⟨_, _, rfl, rfl⟩
  · rintro e s' ⟨x11, x12, rfl, rfl⟩
    exact q _ _
theorem k04_t_ok (D : D04 m z ps ds Z P TL R) (hw : Wf s) (hs : s[R]? = some (.lst (ds.map pairI))) {Q : Mir.Env → Store → Prop} {PP : T → Store → Prop} {E : Ex → Mir.Env → Store → Prop}
    (q : ∀ x11 x12, Q [x0, x1, x2, some (.int Z), some P, some (.ref R), x6, x7, some TL, some (.lst [BK ps z ds 0, BK ps z ds 1, BK ps z ds 2, BK ps z ds 3, BK ps z ds 4]), x10, x11, x12] s) :
    SA (k04_t [x0, x1, x2, some (.int Z), some P, some (.ref R), x6, x7, some TL, x9, x10, x11, x12] s) Q PP E := by
  have ff := fun (x11 x12 : Option T) => k04_f_ok (x0 := x0) (x1 := x1) (x2 := x2) (x6 := x6) (x7 := x7) (x8 := some TL) (x10 := x10) (x11 := x11) (x12 := x12) D hw hs (Q := Q) (PP := PP) (E := E) q
  have ea := D.a_ok hw (E := [x0, x1, x2, some (.int Z), some P, some (.ref R), x6, x7, some TL, x9, x10, x11, x12]) rfl rfl
  have eb := D.b_ok hw (E := [x0, x1, x2, some (.int Z), some P, some (.ref R), x6, x7, some TL, some (.lst [BK ps z ds 0, BK ps z ds 1, BK ps z ds 2]), x10, x11, x12]) rfl rfl rfl rfl
  generalize BK ps z ds = B at ff ea eb ⊢
  unfold k04_t
  generalize k04_f = KF at ff ⊢
  generalize k04_a = KA at ea ⊢
  generalize k04_b = KB at eb ⊢
  refine sa_seq (sa_set (r_of ea ?_))
  show SA (sSeq _ _ [x0, x1, x2, some (.int Z), some P, some (.ref R), x6, x7, some TL, some (.lst [B 0, B 1, B 2]), x10, x11, x12] s) _ _ _
  refine sa_seq (sa_set (r_of eb ?_))
  exact ff _ _
theorem k04_e_ok (D : D04 m z ps ds Z P TL R) (hw : Wf s) (hs : s[R]? = some (.lst (ds.map pairI))) :
    k04_e [x0, x1, x2, some (.int Z), some P, some (.ref R), x6, x7, some TL, some (.lst [BK ps z ds 0, BK ps z ds 1, BK ps z ds 2, BK ps z ds 3, BK ps z ds 4]), x10, x11, x12] s = .ok (.bl true) s := by
  have tu : f_turning ([P, TL] ++ [.int Z]) s = .ok (BK ps z ds 4) s := D.turning hw
  have e4 : kEq false (BK ps z ds 4) (BK ps z ds 4) s = .ok (.bl true) s := eq_same book_alT book_ddp04
  have ha : alT TL = true := by rw [← D.hT]; exact pairs_alT ds
  have hd : ddp TL ≤ 64 := by
    rw [← D.hT]
    show 1 + ddps (ds.map pairI) ≤ 64
    have := pairs_ddp ds
    omega
  have eT : kEq false TL TL s = .ok (.bl true) s := eq_same ha hd
  have tt : (T.tup (ds.map pairI)) = TL := D.hT
  generalize BK ps z ds = B at tu e4 ⊢
  unfold k04_e
  refine eq_of (r_and' (r_e2 (r_eLK4 (r_cons (r_v rfl (r_cons (r_v rfl (r_nil (r_cons (r_v rfl (r_nil ⟨⟨rfl, rfl⟩, r_of tu (r_e2 (r_v rfl (r_c (r_of (a := B 4) (s := s) rfl (r_of e4 ⟨true, rfl, ?_⟩)))))⟩)))))))))))
  refine ite_t rfl ?_
  refine r_e2 (r_v rfl (r_eL (r_cons (r_v rfl (r_nil (tuple_at hs ?_))))))
  rw [tt]
  exact r_of eT ⟨rfl, rfl⟩
end
section
variable {s s0 : Store} {R : Nat} {ds : List (Int × Int)} {Z : Int} {P : T} {x0 x2 x6 x7 x8 x9 x10 x11 x12 : Option T}
theorem k04_w_ok (ov : Over s0 s 1 0) (D0 : DealAt s0 1 0) (hR : s0.length ≤ R) (hs : s[R]? = some (.lst (ds.map pairI))) (hl : ds.length ≤ 100) (hZ : 1 ≤ Z ∧ Z ≤ 6) :
    SA (k04_w [x0, some (.ref 1), x2, some (.int Z), some P, some (.ref R), x6, x7, x8, x9, x10, x11, x12] s) (fun e s' => ∃ x7 p, e = [x0, some (.ref 1), x2, some (.int Z), some P, some (.ref R), x6, x7, x8, x9, x10, x11, x12] ∧ Over s0 s' 1 0 ∧ s'[R]? = some (.lst ((ds ++ [p]).map pairI))) (fun _ _ => False) fun _ _ _ => False := by
  have l0 := D0.lt
  have hR1 : R ≠ 1 := by omega
  have hR0 : R ≠ 0 := by have := D0.lt; omega
  unfold k04_w
  refine sa_seq (sa_set (r_e2 (r_eL (r_cons (r_v rfl (r_cons (r_c (r_nil (lstD_ok (by simp) (mkL_f (r_eL (r_cons (r_v rfl (r_cons (r_c (r_nil (r_cl rfl (r_drw ov (by decide) (by decide) fun k s1 k0 k1 ov1 D1 => ?_))))))))))))))))))
  refine r_ixL k0 (by simpa using k1) fun x hx => ?_
  obtain ⟨W, rfl, hW⟩ : ∃ W : Int, x = .int W ∧ 1 ≤ W ∧ W ≤ 1000 := by
    simp only [List.mem_cons, List.not_mem_nil, or_false] at hx
    rcases hx with rfl | rfl
    · exact ⟨Z, rfl, hZ.1, by omega⟩
    · exact ⟨1000, rfl, by decide, by decide⟩
  show SA (sExpr _ [x0, some (.ref 1), x2, some (.int Z), some P, some (.ref R), x6, some (.int W), x8, x9, x10, x11, x12] s1) _ _ _
  have h1 : s1[R]? = some (.lst (ds.map pairI)) := (D1.same R hR1 hR0).trans hs
  refine sa_expr (r_eM (r_v rfl ⟨isL_at h1, r_cons (r_eL (r_cons (r_e2 (r_eL (r_cons (r_v rfl (r_cons (r_e2 (r_e2 (r_c (r_v rfl (r_mul (by decide) (r_c (r_add (r_nil (r_cl rfl (r_drw ov1 (by omega) (by omega) fun a s2 _ _ ov2 D2 => ?_)))))))))))))))))⟩))
  refine r_v rfl (r_sub (r_cons (r_e2 (r_eL (r_cons (r_v rfl (r_cons (r_e2 (r_e2 (r_c (r_v rfl (r_mul (by decide) (r_c (r_add (r_nil (r_cl rfl (r_drw ov2 (by omega) (by omega) fun b s3 _ _ ov3 D3 => ?_)))))))))))))))))
  have h3 : s3[R]? = some (.lst (ds.map pairI)) := (D3.same R hR1 hR0).trans ((D2.same R hR1 hR0).trans h1)
  refine r_v rfl (r_sub (r_nil (tupD_ok (by simp) (r_nil (append_at h3 (line1000 (by simp; omega)) ?_)))))
  refine ⟨_, (a - W, b - W), rfl, ov3.set hR D0 ?_, ?_⟩
  · show belows _ _ = true
    exact plain_belows _ _ (by
      have : ds.map pairI ++ [T.tup [T.int (a - W), T.int (b - W)]] = (ds ++ [(a - W, b - W)]).map pairI := by simp [pairI]
      rw [this]; exact pairs_plain _)
  · rw [set_self (at_lt h3)]
    simp [pairI]
end
theorem k04_n_ok {m : Nat} (hm : m ≤ 10) {s : Store} {E : Mir.Env} (h : E[2]? = some (some (.int (m : Int)))) : k04_n E s = .ok (.int ((m * (m - 1) / 2 : Nat) : Int)) s := by
  unfold k04_n
  rw [← tri_cast]
  obtain ⟨M, hM⟩ : ∃ M : Int, (m : Int) = M := ⟨_, rfl⟩
  rw [hM] at h ⊢
  exact eq_of (r_e2 (r_e2 (r_v h (r_e2 (r_v h (r_c (r_sub (r_mul (by omega) (r_c (r_div (by decide) ⟨rfl, rfl⟩))))))))))
theorem k04_rest {s0 s : Store} {m z R : Nat} {ps : List Int} {Z M : Int} {P : T} {x0 : Option T} (D0 : DealAt s0 1 0) (ov : Over s0 s 1 0) (hR : s0.length ≤ R) (hs : s[R]? = some (.lst [])) (hm : 1 ≤ m ∧ m ≤ 5) (hz : 1 ≤ z ∧ z ≤ 6) (hps : ps.length = m) (rise : ps.Pairwise (· < ·)) (bnd : ∀ p ∈ ps, -1000 ≤ p ∧ p ≤ 1000) (hZ : (z : Int) = Z) (hM : (m : Int) = M) (hP : intsT ps = P) :
    SA (sSeq (sFor (iRange1 k04_n) (gN 6) k04_w) (
    sSeq (sPar 8 9 (aCons (eL kTuple (aCons (eVar 5) (aNil))) (aCons (eL (kLstD false) (aNil)) aNil))) (
    sSeq (sFor (iRange1 (eC (.int 2))) (gN 10) k04_t) (
    sRet k04_e))) [x0, some (.ref 1), some (.int M), some (.int Z), some P, some (.ref R), none, none, none, none, none, none, none] s) (fun _ _ => False) (fun t _ => t = .bl true) (fun _ _ _ => False) := by
  have hZ6 : 1 ≤ Z ∧ Z ≤ 6 := by omega
  have en : ∀ (s : Store) (E : Mir.Env), E[2]? = some (some (.int M)) → k04_n E s = .ok (.int ((m * (m - 1) / 2 : Nat) : Int)) s := fun s E h => k04_n_ok (by omega) (by rw [hM]; exact h)
  have h10 : m * (m - 1) / 2 ≤ 10 := Nat.div_le_div_right (c := 2) (Nat.mul_le_mul hm.2 (show m - 1 ≤ 4 by omega))
  have ww := fun (s : Store) (ds : List (Int × Int)) (x6 x7 : Option T) ov hs hl => k04_w_ok (s := s) (s0 := s0) (R := R) (ds := ds) (Z := Z) (P := P) (x0 := x0) (x2 := some (.int M)) (x6 := x6) (x7 := x7) (x8 := none) (x9 := none) (x10 := none) (x11 := none) (x12 := none) ov D0 hR hs hl hZ6
  have tt := @k04_t_ok
  have ee := @k04_e_ok
  have e1 : (Mir.rangeT 0 (((m * (m - 1) / 2 : Nat) : Int)).toNat).length = m * (m - 1) / 2 := by rw [rangeT_len, Int.toNat_natCast]
  have hit0 : iRange1 k04_n [x0, some (.ref 1), some (.int M), some (.int Z), some P, some (.ref R), none, none, none, none, none, none, none] s = .ok ⟨Mir.rangeT 0 (((m * (m - 1) / 2 : Nat) : Int)).toNat, fun _ => True⟩ s := by
    refine eq_of (range1_ok (n := ((m * (m - 1) / 2 : Nat) : Int)) (s1 := s) (en _ _ rfl) (by omega) (by omega) ⟨rfl, rfl⟩)
  have hit2 : ∀ {e : Mir.Env} {s : Store}, iRange1 (eC (.int 2)) e s = .ok ⟨Mir.rangeT 0 2, fun _ => True⟩ s := by intros; rfl
  generalize Mir.rangeT 0 (((m * (m - 1) / 2 : Nat) : Int)).toNat = RG at hit0 e1
  generalize k04_w = KW at ww ⊢
  generalize k04_t = KT at tt ⊢
  generalize k04_e = KE at ee ⊢
  generalize iRange1 k04_n = IT at hit0 ⊢
  generalize iRange1 (eC (.int 2)) = IT2 at hit2 ⊢
  refine sa_seq (sa_for (r_of hit0 ⟨fun i e s' => ∃ ds x6 x7, ds.length = i ∧ e = [x0, some (.ref 1), some (.int M), some (.int Z), some P, some (.ref R), x6, x7, none, none, none, none, none] ∧ Over s0 s' 1 0 ∧ s'[R]? = some (.lst (ds.map pairI)) ∧ i ≤ 100000, ⟨[], none, none, rfl, rfl, ov, hs, by omega⟩, fun _ _ _ _ => trivial, ?_, ?_⟩))
  · rintro i t e s' ht ⟨ds, x6, x7, hdl, rfl, ov', hs', _⟩
    have hi : i < RG.length := (List.getElem?_eq_some_iff.mp ht).1
    refine gN_ok ?_
    refine sa_imp (ww s' ds (some t) x7 ov' hs' (by omega)) (fun e s h => ?_) (fun _ _ h => h.elim) fun _ _ _ h => h.elim
    obtain ⟨x7, p, rfl, ov2, hs2⟩ := h
    exact ⟨ds ++ [p], some t, x7, by simp [hdl], rfl, ov2, hs2, by omega⟩
  rintro e s' ⟨ds, x6, x7, hdl, rfl, ov', hs', _⟩
  have hdl : ds.length = RG.length := hdl
  rw [e1] at hdl
  have D : D04 m z ps ds Z P (pairsT ds) R := ⟨hm, hz, hps, rise, bnd, hdl, hZ, hP, rfl⟩
  have w := ov'.wf
  refine sa_seq (sa_par (r_cons (r_eL (r_cons (r_v rfl (r_nil (tuple_at hs' (r_cons (r_eL (r_nil (lstD_ok (by simp) (mkL_f (r_nil (two_in ?_))))))))))))))
  show SA (sSeq _ _ [x0, some (.ref 1), some (.int M), some (.int Z), some P, some (.ref R), x6, x7, some (pairsT ds), some (.lst []), none, none, none] s') _ _ _
  refine sa_seq (sa_for (r_of hit2 ⟨fun i e s2 => s2 = s' ∧ ∃ x9 x10 x11 x12, e = [x0, some (.ref 1), some (.int M), some (.int Z), some P, some (.ref R), x6, x7, some (pairsT ds), x9, x10, x11, x12] ∧ (i ≠ 0 → x9 = some (.lst [BK ps z ds 0, BK ps z ds 1, BK ps z ds 2, BK ps z ds 3, BK ps z ds 4])), ⟨rfl, _, _, _, _, rfl, fun h => (h rfl).elim⟩, fun _ _ _ _ => trivial, ?_, ?_⟩))
  · rintro i t e s2 ht ⟨rfl, x9, x10, x11, x12, rfl, _⟩
    refine gN_ok ?_
    exact tt D w hs' fun x11 x12 => ⟨rfl, _, _, _, _, rfl, fun _ => rfl⟩
  · rintro e s2 ⟨rfl, x9, x10, x11, x12, rfl, h9⟩
    have h9 := h9 (by decide)
    subst h9
    exact sa_ret (r_of (ee D w hs') rfl)
theorem k04_holds : LawM f_law04 := by
  intro ns hn
  suffices h : ROk (f_law04 [.scr (ns.map T.int)] []) fun t _ => t = .bl true by
    obtain ⟨t, s, e, rfl⟩ := h; exact ⟨s, e⟩
  unfold f_law04
  refine pop_ok (def_rt (rt_sa ?_))
  generalize hscr : T.scr (ns.map T.int) = scr
  show SA (m_law04 [some scr, none, none, none, none, none, none, none, none, none, none, none, none] []) _ _ _
  unfold m_law04
  have rr := @k04_rest
  generalize hKM : (sSeq (sFor (iRange1 k04_n) (gN 6) k04_w) (
    sSeq (sPar 8 9 (aCons (eL kTuple (aCons (eVar 5) (aNil))) (aCons (eL (kLstD false) (aNil)) aNil))) (
    sSeq (sFor (iRange1 (eC (.int 2))) (gN 10) k04_t) (
    sRet k04_e)))) = KM at rr ⊢
  refine sa_seq (sa_set (r_eL (r_cons (r_v rfl (r_cons (r_c (r_nil (r_cl rfl ?_))))))))
  subst hscr
  refine (deal_spec (st := []) (fun o ho => by cases ho) ns hn).imp fun t s0 ⟨et, D0, w0, l0, _⟩ => ?_
  subst et
  generalize hscr : T.scr (ns.map T.int) = scr
  repeat array_get_dec
  refine r_drw (Over.refl D0 w0) (by decide) (by decide) fun k s1 k0 k1 ov1 _ => ?_
  repeat array_get_dec
  obtain ⟨m, hm, em⟩ : ∃ m : Nat, (1 ≤ m ∧ m ≤ 5) ∧ (1 : Int) + k = m := ⟨(1 + k).toNat, by omega, by omega⟩
  rw [em]
  refine r_drw ov1 (by decide) (by decide) fun k s2 k0 k1 ov2 _ => ?_
  repeat array_get_dec
  obtain ⟨z, hz, ez⟩ : ∃ z : Nat, (1 ≤ z ∧ z ≤ 6) ∧ (1 : Int) + k = z := ⟨(1 + k).toNat, by omega, by omega⟩
  rw [ez]
  obtain ⟨M, hM⟩ : ∃ M : Int, (m : Int) = M := ⟨_, rfl⟩
  obtain ⟨Z, hZ⟩ : ∃ Z : Int, (z : Int) = Z := ⟨_, rfl⟩
  have pc := paces_spec ov2.deal ov2.wf (m := m) (by omega)
  rw [hM] at pc ⊢
  rw [hZ]
  refine pc.imp fun t s3 ⟨ps, et, hps, rise, bnd, D3, w3⟩ => ?_
  subst et
  have ov3 := ov2.drawn D3 w3
  refine r_cons (r_eL (r_nil (lstD_ok (by simp) (mkL_t (r_nil (two_in ?_))))))
  have q := rr (s0 := s0) (s := s3 ++ [.lst []]) (R := s3.length) (x0 := some scr) D0 (ov3.push (o := .lst []) rfl) ov3.len (by simp) hm hz hps rise bnd hZ hM rfl
  refine sa_imp q (fun _ _ h => h) (fun t s h => ?_) fun _ _ _ h => h
  subst h
  exact ⟨.bl true, by simp, rfl, rfl⟩
end Sh
namespace Lk04
noncomputable section
open PySem PySem.Spec PyProof.Rows L2 Mir
def topS (i : Nat) : Stmt := PySem.Challenge.pw_wherefrom_k04_books_made.main.body.getD i (.Pass ⟨0, 0, 0, 0⟩)
def nm_keeping : Nat → Nat → Str := fun _ _ => ("keeping" ++ ".<locals>." ++ "<lambda>" : Str)
def nm_staying : Nat → Nat → Str := fun _ _ => ("staying" ++ ".<locals>." ++ "<lambda>" : Str)
def nm_sorting : Nat → Nat → Str := fun _ _ => ("sorting" ++ ".<locals>." ++ "<lambda>" : Str)
def nm_folding : Nat → Nat → Str := fun _ _ => ("folding" ++ ".<locals>." ++ "<lambda>" : Str)
def f_lam0 : List T → M T := lamM 2 (eL kTupD (aCons (eVar 1) (aCons (eVar 0) (aNil))))
def lf0 (c : Addr) : HX.LF := ⟨("keeping" ++ ".<locals>." ++ "<lambda>" : Str), lamParams (argOf (retOf ((defBody (topS 17)).getD 0 (.Pass ⟨0, 0, 0, 0⟩))) 2), lamBody (argOf (retOf ((defBody (topS 17)).getD 0 (.Pass ⟨0, 0, 0, 0⟩))) 2), lamScope (argOf (retOf ((defBody (topS 17)).getD 0 (.Pass ⟨0, 0, 0, 0⟩))) 2), [], c⟩
theorem lam_ok0 [Tabl] {P : Program} {w : World} {K : PySem.W.Frag} {mg : Str → Option Value} {base : Heap} {f c : Addr} : HX.LOk P w K mg base (L2.CX P w) 1 f (lf0 c) ["a", "b"] [] (fun _ => spM K mg 2 f_lam0) :=
  lam_ok (NdefX.nscope_by (show NdefX.nscB ["a", "b"] ["a", "b"] [] (lamScope (argOf (retOf ((defBody (topS 17)).getD 0 (.Pass ⟨0, 0, 0, 0⟩))) 2)) = true by decide +kernel)) rfl (fun _ _ us hl => match us, hl with | [_, _], _ => rfl) fun A outer s H E hr => (j_tup (ja_cons (j_var 1) (ja_cons (j_var 0) ja_nil)))
def f_lam1 : List T → M T := lamM 2 (eL kTupD (aCons (eVar 0) (aCons (eVar 1) (aNil))))
def lf1 (c : Addr) : HX.LF := ⟨("staying" ++ ".<locals>." ++ "<lambda>" : Str), lamParams (argOf (retOf ((defBody (topS 18)).getD 0 (.Pass ⟨0, 0, 0, 0⟩))) 2), lamBody (argOf (retOf ((defBody (topS 18)).getD 0 (.Pass ⟨0, 0, 0, 0⟩))) 2), lamScope (argOf (retOf ((defBody (topS 18)).getD 0 (.Pass ⟨0, 0, 0, 0⟩))) 2), [], c⟩
theorem lam_ok1 [Tabl] {P : Program} {w : World} {K : PySem.W.Frag} {mg : Str → Option Value} {base : Heap} {f c : Addr} : HX.LOk P w K mg base (L2.CX P w) 1 f (lf1 c) ["a", "b"] [] (fun _ => spM K mg 2 f_lam1) :=
  lam_ok (NdefX.nscope_by (show NdefX.nscB ["a", "b"] ["a", "b"] [] (lamScope (argOf (retOf ((defBody (topS 18)).getD 0 (.Pass ⟨0, 0, 0, 0⟩))) 2)) = true by decide +kernel)) rfl (fun _ _ us hl => match us, hl with | [_, _], _ => rfl) fun A outer s H E hr => (j_tup (ja_cons (j_var 0) (ja_cons (j_var 1) ja_nil)))
def f_lam2 : List T → M T := lamM 2 (eL kTupD (aCons (eL kMin (aCons (eVar 0) (aCons (eVar 1) (aNil)))) (aCons (eL kMax (aCons (eVar 0) (aCons (eVar 1) (aNil)))) (aNil))))
def lf2 (c : Addr) : HX.LF := ⟨("sorting" ++ ".<locals>." ++ "<lambda>" : Str), lamParams (argOf (retOf ((defBody (topS 19)).getD 0 (.Pass ⟨0, 0, 0, 0⟩))) 2), lamBody (argOf (retOf ((defBody (topS 19)).getD 0 (.Pass ⟨0, 0, 0, 0⟩))) 2), lamScope (argOf (retOf ((defBody (topS 19)).getD 0 (.Pass ⟨0, 0, 0, 0⟩))) 2), [], c⟩
theorem lam_ok2 [Tabl] {P : Program} {w : World} {K : PySem.W.Frag} {mg : Str → Option Value} {base : Heap} {f c : Addr} (g_max : mg "max" = none) (g_min : mg "min" = none) : HX.LOk P w K mg base (L2.CX P w) 1 f (lf2 c) ["a", "b"] [] (fun _ => spM K mg 2 f_lam2) :=
  lam_ok (NdefX.nscope_by (show NdefX.nscB ["a", "b"] ["a", "b"] [] (lamScope (argOf (retOf ((defBody (topS 19)).getD 0 (.Pass ⟨0, 0, 0, 0⟩))) 2)) = true by decide +kernel)) rfl (fun _ _ us hl => match us, hl with | [_, _], _ => rfl) fun A outer s H E hr => (j_tup (ja_cons (jc_min g_min (ja_cons (j_var 0) (ja_cons (j_var 1) ja_nil))) (ja_cons (jc_max g_max (ja_cons (j_var 0) (ja_cons (j_var 1) ja_nil))) ja_nil)))
def m_clam : ME := eL kTupD (aCons (eVar 1) (aCons (e2 kMod (e2 kSub (e2 (kMul false) (eC (.int 2)) (eVar 1)) (eVar 0)) (eVar 2)) (aNil)))
def clf (a c : Addr) : HX.LF := ⟨("folding" ++ ".<locals>." ++ "<lambda>" : Str), lamParams (argOf (retOf ((defBody (topS 20)).getD 0 (.Pass ⟨0, 0, 0, 0⟩))) 2), lamBody (argOf (retOf ((defBody (topS 20)).getD 0 (.Pass ⟨0, 0, 0, 0⟩))) 2), lamScope (argOf (retOf ((defBody (topS 20)).getD 0 (.Pass ⟨0, 0, 0, 0⟩))) 2), [("sorts", a)], c⟩
theorem clam_ok [Tabl] {P : Program} {w : World} {K : PySem.W.Frag} {mg : Str → Option Value} {base : Heap} {f a c : Addr} : HX.LOk P w K mg base (L2.CX P w) 1 f (clf a c) ["a", "b"] ["sorts"] (spC K mg 2 m_clam) :=
  lam_okC (N := ["a", "b", "sorts"]) (NdefX.nscope_by (show NdefX.nscB ["a", "b", "sorts"] ["a", "b"] ["sorts"] (lamScope (argOf (retOf ((defBody (topS 20)).getD 0 (.Pass ⟨0, 0, 0, 0⟩))) 2)) = true by decide +kernel)) rfl rfl (fun _ _ us hl => match us, hl with | [_, _], _ => rfl) fun A outer s H E hr => (j_tup (ja_cons (j_var 1) (ja_cons (j_bin op_mod k_mod (j_bin op_sub k_sub (j_bin op_mulAll (k_mul (al := false)) j_int (j_var 1)) (j_var 0)) (j_var 2)) ja_nil)))
theorem nsc_folding : ∀ y ∈ (lamScope (argOf (retOf ((defBody (topS 20)).getD 0 (.Pass ⟨0, 0, 0, 0⟩))) 2)).names, y.2 = .free → (defScope (topS 20)).names.lookup y.1 = some .cell := by decide +kernel
def lamLC (a : Addr) (S : Int) : Nat → List T → M T := fun n => if n = a + 3 then lamC 2 m_clam S else fun _ _ => .stuck
def lamL : Nat → List T → M T
  | 0 => f_lam0
  | 1 => f_lam1
  | 2 => f_lam2
  | _ => fun _ _ => .stuck
def lfs : Nat → Addr → HX.LF
  | 0, c => lf0 c
  | 1, c => lf1 c
  | 2, c => lf2 c
  | n + 3, c => clf n c
theorem lams_ok [Tabl] {P : Program} {w : World} {K : PySem.W.Frag} {mg : Str → Option Value} {base : Heap} (g_max : mg "max" = none) (g_min : mg "min" = none) (hlf : Tabl.lf = lfs) : LamsOkC P w K mg base 1 lamL := by
  intro n f c
  match n with
  | 0 =>
    have e : Tabl.lf 0 c = lf0 c := by rw [hlf]; rfl
    exact lamOk0 (by rw [e]; rfl) (by rw [e]; rfl) (by rw [e]; exact lam_ok0) lamM_else
  | 1 =>
    have e : Tabl.lf 1 c = lf1 c := by rw [hlf]; rfl
    exact lamOk0 (by rw [e]; rfl) (by rw [e]; rfl) (by rw [e]; exact lam_ok1) lamM_else
  | 2 =>
    have e : Tabl.lf 2 c = lf2 c := by rw [hlf]; rfl
    exact lamOk0 (by rw [e]; rfl) (by rw [e]; rfl) (by rw [e]; exact lam_ok2 g_max g_min) lamM_else
  | n + 3 =>
    have e : Tabl.lf (n + 3) c = clf n c := by rw [hlf]; rfl
    exact lamOkS (by rw [e]; rfl) rfl
theorem lams_okC [Tabl] {P : Program} {w : World} {K : PySem.W.Frag} {mg : Str → Option Value} {base : Heap} (g_max : mg "max" = none) (g_min : mg "min" = none) (hlf : Tabl.lf = lfs) {a : Addr} {S : Int} (hc : CellI base a S) : LamsOkC P w K mg base 1 (lamLC a S) := by
  intro n f c
  by_cases hn : n = a + 3
  · have e : Tabl.lf n c = clf a c := by rw [hlf, hn]; rfl
    exact lamOk1 (by rw [e]; rfl) (by rw [e]; rfl) (by rw [e]; exact clam_ok) (if_pos hn) hc
  · have hs : lamLC a S n = fun _ _ => .stuck := if_neg hn
    have hcc : (Tabl.lf n c).c = c := by
      rw [hlf]
      match n with
      | 0 => rfl
      | 1 => rfl
      | 2 => rfl
      | n + 3 => rfl
    exact lamOkS hcc hs
section
variable [Tabl]
abbrev s_i_NoBook : Stmt := (clsBody (topS 2)).getD 0 (.Pass ⟨0, 0, 0, 0⟩)
abbrev N_i_NoBook : List Str := ["self", "word", "at"]
theorem sc_i_NoBook : FnScope N_i_NoBook ["self", "word", "at"] (defScope s_i_NoBook) := ⟨rfl, rfl, rfl, by decide +kernel, rfl, by decide +kernel, by decide +kernel⟩
theorem bi_NoBook {P : Program} {w : World} {K : PySem.W.Frag} {mg : Str → Option Value} {base : Heap} {f RC : Addr} (m : mg "RoadError" = some (.ref RC)) (T : HX.RootC K RC) (cdv : Value) (A : Around) (outer : List PySem.Env) (s : Shared) (H : Hp) (E : XK) :
    PSs (cxOf (L2.CX P w) P w K mg base N_i_NoBook "NoBook.__init__" (defScope s_i_NoBook) f cdv A outer s H E) (defBody s_i_NoBook) (HX.tI2 K "no book" "word" "at") :=
  pss_cons (ps_expr (HX.pe_rinit rfl m (by decide) T.sp T.rd T.fc (pa_cons (pe_var (i := 0) rfl (by first | exact Or.inl rfl | exact Or.inr (Or.inl rfl) | exact Or.inr (Or.inr rfl))) (pa_cons pe_str pa_nil)))) (pss_cons (ps_ost (pe_var (i := 0) rfl (by first | exact Or.inl rfl | exact Or.inr (Or.inl rfl) | exact Or.inr (Or.inr rfl))) (pe_var (i := 1) rfl (by first | exact Or.inl rfl | exact Or.inr (Or.inl rfl) | exact Or.inr (Or.inr rfl)))) (pss_one (ps_ost (pe_var (i := 0) rfl (by first | exact Or.inl rfl | exact Or.inr (Or.inl rfl) | exact Or.inr (Or.inr rfl))) (pe_var (i := 2) rfl (by first | exact Or.inl rfl | exact Or.inr (Or.inl rfl) | exact Or.inr (Or.inr rfl))))))
abbrev s_l_deal : Stmt := topS 23
abbrev N_l_deal : List Str := ["_law_script", "_law_base", "_law_some", "_law_one", "_law_seed"]
theorem sc_l_deal : FnScope N_l_deal ["_law_script", "_law_base"] (defScope s_l_deal) := ⟨rfl, rfl, rfl, by decide +kernel, rfl, by decide +kernel, by decide +kernel⟩
abbrev m_l_deal : MS := Sh.m_l_deal
abbrev f_l_deal : List T → M T := Sh.f_l_deal
theorem bd_l_deal {P : Program} {w : World} {K : PySem.W.Frag} {mg : Str → Option Value} {base : Heap} {f : Addr} (g_max : mg "max" = none) (g_list : mg "list" = none) (g_reversed : mg "reversed" = none) :
    DefBody P w K mg base 0 N_l_deal "_law_deal" (defScope s_l_deal) f (defBody s_l_deal) m_l_deal := by
  intro cdv A outer s H E hr
  have ND := sc_l_deal.nd
  have hp : PassesOwn (model P w) (BX P w K mg base N_l_deal "_law_deal" (defScope s_l_deal) f cdv A outer s H E).A (BX P w K mg base N_l_deal "_law_deal" (defScope s_l_deal) f cdv A outer s H E).env (BX P w K mg base N_l_deal "_law_deal" (defScope s_l_deal) f cdv A outer s H E).xe := passes_of rfl
  exact (jb_cons (js_setLc false rfl ND (ji_any (j_cut (al := false) (j_var 0) (jo_some (j_var 1)) (jo_some j_int))) (blkOk_by (own := [("_law_one", 3)]) (by dsimp only [BX, cxOf, envOfC, compEnvC]; decide +kernel)) (fun _ _ _ _ _ => (pg_name (i := 3) ND rfl (.inl rfl) (.inr rfl))) (fun _ _ _ _ _ => jts_nil) (fun _ _ _ _ _ => (jc_max g_max (ja_cons (j_var 3) (ja_cons (j_bin op_sub k_sub j_int (j_var 3)) ja_nil)))) (sw_true rfl rfl rfl (by decide +kernel)))
    (jb_cons (js_set (i := 4) ND (j_bin op_addAll (k_add (al := false)) j_int (j_bin op_mulAll (k_mul (al := false)) j_int (j_var 1))))
    (jb_cons (js_for hp rfl (ji_any (j_var 2)) (jg_name (i := 3) ND) (jb_one (js_set (i := 4) ND (j_bin op_mod k_mod (j_bin op_addAll (k_add (al := false)) (j_bin op_addAll (k_add (al := false)) (j_bin op_mulAll (k_mul (al := false)) (j_var 4) j_int) (j_bin op_mod k_mod (j_var 3) j_int)) j_int) j_int))))
    (jb_one (js_ret (j_dict (jd_cons (j_bin op_addAll (k_add (al := true)) (j_var 4) j_int) (jd_cons j_int (jd_cons j_int (jd_cons (j_listRev true rfl (by rfl) g_list (by rfl) g_reversed (j_lc false rfl ND (ji_any (j_var 2)) (blkOk_by (own := [("_law_one", 3)]) (by dsimp only [BX, cxOf, envOfC, compEnvC]; decide +kernel)) (fun _ _ _ _ _ => (pg_name (i := 3) ND rfl (.inl rfl) (.inr rfl))) (fun _ _ _ _ _ => (jts_one (jt_cmp op_ge k_ge (j_var 3) (j_bin op_pow k_pow j_int j_int)))) (fun _ _ _ _ _ => (j_var 3)))) jd_nil))))))))))
theorem ok_l_deal {P : Program} {w : World} {K : PySem.W.Frag} {mg : Str → Option Value} {base : Heap} {f : Addr} {fd : FuncData} (F : Fun K "_law_deal" "_law_deal" s_l_deal f fd) (g_max : mg "max" = none) (g_list : mg "list" = none) (g_reversed : mg "reversed" = none) :
    HX.FnG P w K mg base (L2.CX P w) 1 f fd ["_law_script", "_law_base"] (spM K mg 2 f_l_deal) :=
  def_raw F sc_l_deal rfl rfl (bd_l_deal g_max g_list g_reversed)
abbrev s_l_draw : Stmt := topS 24
abbrev N_l_draw : List Str := ["_law_deal_here", "_law_many", "_law_digit", "_law_one", "_law_other"]
theorem sc_l_draw : FnScope N_l_draw ["_law_deal_here", "_law_many"] (defScope s_l_draw) := ⟨rfl, rfl, rfl, by decide +kernel, rfl, by decide +kernel, by decide +kernel⟩
abbrev m_l_draw : MS := Sh.m_l_draw
abbrev f_l_draw : List T → M T := Sh.f_l_draw
theorem bd_l_draw {P : Program} {w : World} {K : PySem.W.Frag} {mg : Str → Option Value} {base : Heap} {f : Addr} (g_len : mg "len" = none) :
    DefBody P w K mg base 0 N_l_draw "_law_draw" (defScope s_l_draw) f (defBody s_l_draw) m_l_draw := by
  intro cdv A outer s H E hr
  have ND := sc_l_draw.nd
  have hp : PassesOwn (model P w) (BX P w K mg base N_l_draw "_law_draw" (defScope s_l_draw) f cdv A outer s H E).A (BX P w K mg base N_l_draw "_law_draw" (defScope s_l_draw) f cdv A outer s H E).env (BX P w K mg base N_l_draw "_law_draw" (defScope s_l_draw) f cdv A outer s H E).xe := passes_of rfl
  exact (jb_cons (js_while 100000 hp ((jw_and (jt_cmp (op_eqAll (units hr (j := 64) (by decide) (by decide))) k_eq (j_dget (units hr (j := 1) (by decide) (by decide)) (j_var 0) j_str) j_int) (jw_and1 (jt_cmp op_gt k_gt (jc_len g_len (ja_cons (j_dget (units hr (j := 1) (by decide) (by decide)) (j_var 0) j_str) ja_nil)) j_int)))).pt (jb_one (js_dput (units hr (j := 1) (by decide) (by decide)) (j_var 0) j_str (jm_pop0 (j_dget (units hr (j := 1) (by decide) (by decide)) (j_var 0) j_str)))))
    (jb_cons (js_if (jt_cmp op_gt k_gt (j_dget (units hr (j := 1) (by decide) (by decide)) (j_var 0) j_str) j_int) (jb_cons (js_set (i := 2) ND (j_bin op_mod k_mod (j_dget (units hr (j := 1) (by decide) (by decide)) (j_var 0) j_str) (j_var 1)))
    (jb_cons (js_dput (units hr (j := 1) (by decide) (by decide)) (j_var 0) j_str (j_bin op_fdivW k_div (j_dget (units hr (j := 1) (by decide) (by decide)) (j_var 0) j_str) (j_var 1)))
    (jb_one (js_ret (j_var 2))))) jb_nil)
    (jb_cons (js_dput (units hr (j := 1) (by decide) (by decide)) (j_var 0) j_str (j_bin op_addAll (k_add (al := false)) (j_dget (units hr (j := 1) (by decide) (by decide)) (j_var 0) j_str) j_int))
    (jb_cons (js_set (i := 3) ND (j_bin op_mod k_mod (j_bin op_mulAll (k_mul (al := false)) (j_bin op_addAll (k_add (al := false)) (j_dget (units hr (j := 1) (by decide) (by decide)) (j_var 0) j_str) (j_bin op_mulAll (k_mul (al := false)) j_int (j_dget (units hr (j := 1) (by decide) (by decide)) (j_var 0) j_str))) j_int) j_int))
    (jb_cons (js_set (i := 4) ND (j_bin op_mod k_mod (j_bin op_addAll (k_add (al := false)) (j_bin op_addAll (k_add (al := false)) (j_bin op_mulAll (k_mul (al := false)) (j_var 3) (j_var 3)) (j_bin op_mulAll (k_mul (al := false)) j_int (j_dget (units hr (j := 1) (by decide) (by decide)) (j_var 0) j_str))) (j_dget (units hr (j := 1) (by decide) (by decide)) (j_var 0) j_str)) j_int))
    (jb_one (js_ret (j_bin op_mod k_mod (j_bin op_fdivW k_div (j_bin op_addAll (k_add (al := false)) (j_bin op_mulAll (k_mul (al := false)) (j_bin op_mod k_mod (j_bin op_mulAll (k_mul (al := false)) (j_var 4) (j_var 4)) j_int) j_int) (j_var 3)) j_int) (j_var 1)))))))))
theorem ok_l_draw {P : Program} {w : World} {K : PySem.W.Frag} {mg : Str → Option Value} {base : Heap} {f : Addr} {fd : FuncData} (F : Fun K "_law_draw" "_law_draw" s_l_draw f fd) (g_len : mg "len" = none) :
    HX.FnG P w K mg base (L2.CX P w) 1 f fd ["_law_deal_here", "_law_many"] (spM K mg 2 f_l_draw) :=
  def_pop F sc_l_draw rfl rfl (bd_l_draw g_len)
abbrev s_l_paces : Stmt := topS 26
abbrev N_l_paces : List Str := ["_law_deal_here", "_law_many", "_law_wide", "_law_steps", "_law_k", "_law_found", "_law_step"]
theorem sc_l_paces : FnScope N_l_paces ["_law_deal_here", "_law_many"] (defScope s_l_paces) := ⟨rfl, rfl, rfl, by decide +kernel, rfl, by decide +kernel, by decide +kernel⟩
abbrev m_l_paces : MS := Sh.m_l_paces
abbrev f_l_paces : List T → M T := Sh.f_l_paces
theorem bd_l_paces {P : Program} {w : World} {K : PySem.W.Frag} {mg : Str → Option Value} {base : Heap} {f : Addr} (g_max : mg "max" = none) (g_range : mg "range" = none) (g_sum : mg "sum" = none) (g_tuple : mg "tuple" = none) (d_l_draw : Def P w K mg base 1 "_law_draw" ["_law_deal_here", "_law_many"] f_l_draw) :
    DefBody P w K mg base 1 N_l_paces "_law_paces" (defScope s_l_paces) f (defBody s_l_paces) m_l_paces := by
  intro cdv A outer s H E hr
  have ND := sc_l_paces.nd
  have tk : Takes (BX P w K mg base N_l_paces "_law_paces" (defScope s_l_paces) f cdv A outer s H E) (WB E) := takes_of rfl rfl rfl rfl
  have hp : PassesOwn (model P w) (BX P w K mg base N_l_paces "_law_paces" (defScope s_l_paces) f cdv A outer s H E).A (BX P w K mg base N_l_paces "_law_paces" (defScope s_l_paces) f cdv A outer s H E).env (BX P w K mg base N_l_paces "_law_paces" (defScope s_l_paces) f cdv A outer s H E).xe := passes_of rfl
  exact (jb_cons (js_set (i := 2) ND (j_lst (al := false) (ja_cons j_int (ja_cons j_int (ja_cons j_int (ja_cons (j_bin op_fdivW k_div j_int (jc_max g_max (ja_cons j_int (ja_cons (j_bin op_sub k_sub (j_var 1) j_int) ja_nil)))) ja_nil))))))
    (jb_cons (js_setLc false rfl ND (ji_range1 g_range (j_bin op_sub k_sub (j_var 1) j_int)) (blkOk_by (own := [("_law_k", 4)]) (by dsimp only [BX, cxOf, envOfC, compEnvC]; decide +kernel)) (fun _ _ _ _ _ => (pg_name (i := 4) ND rfl (.inl rfl) (.inr rfl))) (fun _ _ _ _ _ => jts_nil) (fun _ _ _ _ _ => (j_bin op_addAll (k_add (al := false)) j_int (j_def d_l_draw hr (by decide) takesF (ja_cons (j_var 0) (ja_cons (j_ix ix_all k_ix (j_var 2) (j_def d_l_draw hr (by decide) takesF (ja_cons (j_var 0) (ja_cons j_int ja_nil)))) ja_nil))))) (sw_true rfl rfl rfl (by decide +kernel)))
    (jb_cons (js_set (i := 5) ND (j_lst (al := true) (ja_cons (j_bin op_sub k_sub (j_def d_l_draw hr (by decide) tk (ja_cons (j_var 0) (ja_cons (j_bin op_sub k_sub j_int (jc_sum g_sum (ja_cons (j_var 3) ja_nil))) ja_nil))) j_int) ja_nil)))
    (jb_cons (js_for hp rfl (ji_any (j_var 3)) (jg_name (i := 6) ND) (jb_one (js_expr (jm_append (j_var 5) (ja_cons (j_bin op_addAll (k_add (al := false)) (j_ix ix_all k_ix (j_var 5) (j_neg j_int)) (j_var 6)) ja_nil)))))
    (jb_one (js_ret (jc_tuple g_tuple (ja_cons (j_var 5) ja_nil))))))))
theorem ok_l_paces {P : Program} {w : World} {K : PySem.W.Frag} {mg : Str → Option Value} {base : Heap} {f : Addr} {fd : FuncData} (F : Fun K "_law_paces" "_law_paces" s_l_paces f fd) (g_max : mg "max" = none) (g_range : mg "range" = none) (g_sum : mg "sum" = none) (g_tuple : mg "tuple" = none) (d_l_draw : Def P w K mg base 1 "_law_draw" ["_law_deal_here", "_law_many"] f_l_draw) :
    HX.FnG P w K mg base (L2.CX P w) 2 f fd ["_law_deal_here", "_law_many"] (spM K mg 2 f_l_paces) :=
  def_pop F sc_l_paces rfl rfl (bd_l_paces g_max g_range g_sum g_tuple d_l_draw)
abbrev s_burdens_by_two : Stmt := topS 15
abbrev N_burdens_by_two : List Str := ["sorts", "a", "b"]
theorem sc_burdens_by_two : FnScope N_burdens_by_two ["sorts"] (defScope s_burdens_by_two) := ⟨rfl, rfl, rfl, by decide +kernel, rfl, by decide +kernel, by decide +kernel⟩
def m_burdens_by_two : MS := sRet (eComp false (iRange1 (eVar 0)) (.name 1) (tYesM) [1, 2] (compK2 (iRange1 (eVar 0)) (.name 2) (tYesM) [2] (eL kTupD (aCons (eVar 1) (aCons (eVar 2) (aNil))))))
def f_burdens_by_two : List T → M T := popS (defM 1 3 m_burdens_by_two)
theorem bd_burdens_by_two {P : Program} {w : World} {K : PySem.W.Frag} {mg : Str → Option Value} {base : Heap} {f : Addr} (g_range : mg "range" = none) :
    DefBody P w K mg base 0 N_burdens_by_two "burdens_by_two" (defScope s_burdens_by_two) f (defBody s_burdens_by_two) m_burdens_by_two := by
  intro cdv A outer s H E hr
  have ND := sc_burdens_by_two.nd
  exact (jb_one (js_ret (j_lc2 false rfl ND (ji_range1 g_range (j_var 0)) (blkOk_by (own := [("a", 1), ("b", 2)]) (by dsimp only [BX, cxOf, envOfC, compEnvC]; decide +kernel)) (fun _ _ _ _ _ => (pg_name (i := 1) ND rfl (.inl rfl) (.inr rfl))) (fun _ _ _ _ _ => jts_nil) (fun _ _ _ _ _ => (ji_range1 g_range (j_var 0))) (fun _ _ _ _ _ => (pg_name (i := 2) ND rfl (.inl rfl) (.inr rfl))) (fun _ _ _ _ _ => jts_nil) (fun _ _ _ _ _ => (j_tup (ja_cons (j_var 1) (ja_cons (j_var 2) ja_nil)))))))
theorem ok_burdens_by_two {P : Program} {w : World} {K : PySem.W.Frag} {mg : Str → Option Value} {base : Heap} {f : Addr} {fd : FuncData} (F : Fun K "burdens_by_two" "burdens_by_two" s_burdens_by_two f fd) (g_range : mg "range" = none) :
    HX.FnG P w K mg base (L2.CX P w) 1 f fd ["sorts"] (spM K mg 1 f_burdens_by_two) :=
  def_pop F sc_burdens_by_two rfl rfl (bd_burdens_by_two g_range)
abbrev s_kinds_by_two : Stmt := topS 14
abbrev N_kinds_by_two : List Str := ["paces", "u", "v"]
theorem sc_kinds_by_two : FnScope N_kinds_by_two ["paces"] (defScope s_kinds_by_two) := ⟨rfl, rfl, rfl, by decide +kernel, rfl, by decide +kernel, by decide +kernel⟩
def m_kinds_by_two : MS := sRet (eComp false (iRange1 (eL kLen (aCons (eVar 0) (aNil)))) (.name 1) (tYesM) [1, 2] (compK2 (iRange1 (eVar 1)) (.name 2) (tYesM) [2] (eL kTupD (aCons (eVar 1) (aCons (eVar 2) (aNil))))))
def f_kinds_by_two : List T → M T := popS (defM 1 3 m_kinds_by_two)
theorem bd_kinds_by_two {P : Program} {w : World} {K : PySem.W.Frag} {mg : Str → Option Value} {base : Heap} {f : Addr} (g_range : mg "range" = none) (g_len : mg "len" = none) :
    DefBody P w K mg base 0 N_kinds_by_two "kinds_by_two" (defScope s_kinds_by_two) f (defBody s_kinds_by_two) m_kinds_by_two := by
  intro cdv A outer s H E hr
  have ND := sc_kinds_by_two.nd
  exact (jb_one (js_ret (j_lc2 false rfl ND (ji_range1 g_range (jc_len g_len (ja_cons (j_var 0) ja_nil))) (blkOk_by (own := [("u", 1), ("v", 2)]) (by dsimp only [BX, cxOf, envOfC, compEnvC]; decide +kernel)) (fun _ _ _ _ _ => (pg_name (i := 1) ND rfl (.inl rfl) (.inr rfl))) (fun _ _ _ _ _ => jts_nil) (fun _ _ _ _ _ => (ji_range1 g_range (j_var 1))) (fun _ _ _ _ _ => (pg_name (i := 2) ND rfl (.inl rfl) (.inr rfl))) (fun _ _ _ _ _ => jts_nil) (fun _ _ _ _ _ => (j_tup (ja_cons (j_var 1) (ja_cons (j_var 2) ja_nil)))))))
theorem ok_kinds_by_two {P : Program} {w : World} {K : PySem.W.Frag} {mg : Str → Option Value} {base : Heap} {f : Addr} {fd : FuncData} (F : Fun K "kinds_by_two" "kinds_by_two" s_kinds_by_two f fd) (g_range : mg "range" = none) (g_len : mg "len" = none) :
    HX.FnG P w K mg base (L2.CX P w) 1 f fd ["paces"] (spM K mg 1 f_kinds_by_two) :=
  def_pop F sc_kinds_by_two rfl rfl (bd_kinds_by_two g_range g_len)
abbrev s_alike_tables : Stmt := topS 16
abbrev N_alike_tables : List Str := ["paces", "sorts", "becomes", "table", "a", "b"]
theorem sc_alike_tables : FnScope N_alike_tables ["paces", "sorts", "becomes"] (defScope s_alike_tables) := ⟨rfl, rfl, rfl, by decide +kernel, rfl, by decide +kernel, by decide +kernel⟩
def m_alike_tables (LAM : Nat → List T → M T) : MS := sSeq (sSet 3 (eL kTuple (aCons (eComp false (iAny (eL (callM 1 f_burdens_by_two) (aCons (eVar 1) (aNil)))) (.tup [4, 5]) (tYesM) [4, 5] (compK1 (callV LAM (eVar 2) (aCons (eVar 4) (aCons (eVar 5) (aNil)))))) (aNil)))) (
    sRet (eL kTupD (aCons (eVar 0) (aCons (eVar 1) (aCons (e2 kRepA (eL kTupD (aCons (eVar 3) (aNil))) (eL kLen (aCons (eL (callM 1 f_kinds_by_two) (aCons (eVar 0) (aNil))) (aNil)))) (aNil))))))
def f_alike_tablesL (LAM : Nat → List T → M T) : List T → M T := popS (defM 3 6 (m_alike_tables LAM))
abbrev f_alike_tables : List T → M T := f_alike_tablesL lamL
theorem bd_alike_tables {P : Program} {w : World} {K : PySem.W.Frag} {mg : Str → Option Value} {base : Heap} {f : Addr} (g_tuple : mg "tuple" = none) (g_len : mg "len" = none) (d_burdens_by_two : Def P w K mg base 1 "burdens_by_two" ["sorts"] f_burdens_by_two) (d_kinds_by_two : Def P w K mg base 1 "kinds_by_two" ["paces"] f_kinds_by_two) {LAM : Nat → List T → M T} (hL : LamsOkC P w K mg base 1 LAM) :
    DefBody P w K mg base 1 N_alike_tables "alike_tables" (defScope s_alike_tables) f (defBody s_alike_tables) (m_alike_tables LAM) := by
  intro cdv A outer s H E hr
  have ND := sc_alike_tables.nd
  have tk : Takes (BX P w K mg base N_alike_tables "alike_tables" (defScope s_alike_tables) f cdv A outer s H E) (WB E) := takes_of rfl rfl rfl rfl
  exact (jb_cons (js_set (i := 3) ND (jc_tuple g_tuple (ja_cons (j_lc false rfl ND (ji_any (j_def d_burdens_by_two hr (by decide) tk (ja_cons (j_var 1) ja_nil))) (blkOk_by (own := [("a", 4), ("b", 5)]) (by dsimp only [BX, cxOf, envOfC, compEnvC]; decide +kernel)) (fun _ _ _ _ _ => (pg_tup rfl (pgs_cons (pg_name (i := 4) ND rfl (.inl rfl) (.inr rfl)) (pgs_cons (pg_name (i := 5) ND rfl (.inl rfl) (.inr rfl)) pgs_nil)))) (fun _ _ _ _ _ => jts_nil) (fun _ _ _ _ _ => (j_callVC hL hr (by decide) takesF rfl (ja_cons (j_var 4) (ja_cons (j_var 5) ja_nil))))) ja_nil)))
    (jb_one (js_ret (j_tup (ja_cons (j_var 0) (ja_cons (j_var 1) (ja_cons (j_bin HX.op_repA k_repA (j_tup (ja_cons (j_var 3) ja_nil)) (jc_len g_len (ja_cons (j_def d_kinds_by_two hr (by decide) tk (ja_cons (j_var 0) ja_nil)) ja_nil))) ja_nil)))))))
theorem ok_alike_tables {P : Program} {w : World} {K : PySem.W.Frag} {mg : Str → Option Value} {base : Heap} {f : Addr} {fd : FuncData} (F : Fun K "alike_tables" "alike_tables" s_alike_tables f fd) (g_tuple : mg "tuple" = none) (g_len : mg "len" = none) (d_burdens_by_two : Def P w K mg base 1 "burdens_by_two" ["sorts"] f_burdens_by_two) (d_kinds_by_two : Def P w K mg base 1 "kinds_by_two" ["paces"] f_kinds_by_two) {LAM : Nat → List T → M T} (hL : LamsOkC P w K mg base 1 LAM) :
    HX.FnG P w K mg base (L2.CX P w) 2 f fd ["paces", "sorts", "becomes"] (spM K mg 3 (f_alike_tablesL LAM)) :=
  def_pop F sc_alike_tables rfl rfl (bd_alike_tables g_tuple g_len d_burdens_by_two d_kinds_by_two hL)
abbrev s_keeping : Stmt := topS 17
abbrev N_keeping : List Str := ["paces", "sorts"]
theorem sc_keeping : FnScope N_keeping ["paces", "sorts"] (defScope s_keeping) := ⟨rfl, rfl, rfl, by decide +kernel, rfl, by decide +kernel, by decide +kernel⟩
def m_keeping : MS := sRet (eL (callM 3 f_alike_tables) (aCons (eVar 0) (aCons (eVar 1) (aCons (eC (.fn 0)) (aNil)))))
def f_keeping : List T → M T := popS (defM 2 2 m_keeping)
theorem bd_keeping {P : Program} {w : World} {K : PySem.W.Frag} {mg : Str → Option Value} {base : Heap} {f tc tp : Addr} (d_alike_tables : Def P w K mg base 2 "alike_tables" ["paces", "sorts", "becomes"] f_alike_tables) (tb : LamX.TabB base mg tc tp) (hm : (tp, nm_keeping) ∈ Tabl.T) (hlf : Tabl.lf = lfs) :
    DefBodyC P w K mg base 2 N_keeping "keeping" (defScope s_keeping) f (.ref tc) (defBody s_keeping) m_keeping := by
  intro A outer s H E hr
  have ND := sc_keeping.nd
  have tk : Takes (BX P w K mg base N_keeping "keeping" (defScope s_keeping) f (.ref tc) A outer s H E) (WB E) := takes_of rfl rfl rfl rfl
  exact (jb_one (js_ret (j_def d_alike_tables hr (by decide) tk (ja_cons (j_var 0) (ja_cons (j_var 1) (ja_cons (j_lam 0 tb rfl hm rfl rfl (by decide +kernel) fun c2 => (congrFun (congrFun hlf 0) c2).trans rfl) ja_nil))))))
theorem ok_keeping {P : Program} {w : World} {K : PySem.W.Frag} {mg : Str → Option Value} {base : Heap} {f tc tp : Addr} {oc kV dc pm ct : Value} {od an : Option Addr} {sl : Array (Option Value)} (lk : K.lookup f = some ⟨oc, od, .func (PySem.W.fnOf "keeping" "keeping" (defArgs s_keeping) (defBody s_keeping) (defScope s_keeping) .none kV dc pm an (.ref tc) ct), sl⟩) (hc : PySem.W.codeIn K (.ref tc) "keeping" = true) (d_alike_tables : Def P w K mg base 2 "alike_tables" ["paces", "sorts", "becomes"] f_alike_tables) (tb : LamX.TabB base mg tc tp) (hm : (tp, nm_keeping) ∈ Tabl.T) (hlf : Tabl.lf = lfs) :
    HX.FnG P w K mg base (L2.CX P w) 3 f (PySem.W.fnOf "keeping" "keeping" (defArgs s_keeping) (defBody s_keeping) (defScope s_keeping) .none kV dc pm an (.ref tc) ct) ["paces", "sorts"] (spM K mg 2 f_keeping) :=
  def_popC lk hc sc_keeping rfl rfl (bd_keeping d_alike_tables tb hm hlf)
abbrev s_staying : Stmt := topS 18
abbrev N_staying : List Str := ["paces", "sorts"]
theorem sc_staying : FnScope N_staying ["paces", "sorts"] (defScope s_staying) := ⟨rfl, rfl, rfl, by decide +kernel, rfl, by decide +kernel, by decide +kernel⟩
def m_staying : MS := sRet (eL (callM 3 f_alike_tables) (aCons (eVar 0) (aCons (eVar 1) (aCons (eC (.fn 1)) (aNil)))))
def f_staying : List T → M T := popS (defM 2 2 m_staying)
theorem bd_staying {P : Program} {w : World} {K : PySem.W.Frag} {mg : Str → Option Value} {base : Heap} {f tc tp : Addr} (d_alike_tables : Def P w K mg base 2 "alike_tables" ["paces", "sorts", "becomes"] f_alike_tables) (tb : LamX.TabB base mg tc tp) (hm : (tp, nm_staying) ∈ Tabl.T) (hlf : Tabl.lf = lfs) :
    DefBodyC P w K mg base 2 N_staying "staying" (defScope s_staying) f (.ref tc) (defBody s_staying) m_staying := by
  intro A outer s H E hr
  have ND := sc_staying.nd
  have tk : Takes (BX P w K mg base N_staying "staying" (defScope s_staying) f (.ref tc) A outer s H E) (WB E) := takes_of rfl rfl rfl rfl
  exact (jb_one (js_ret (j_def d_alike_tables hr (by decide) tk (ja_cons (j_var 0) (ja_cons (j_var 1) (ja_cons (j_lam 1 tb rfl hm rfl rfl (by decide +kernel) fun c2 => (congrFun (congrFun hlf 1) c2).trans rfl) ja_nil))))))
theorem ok_staying {P : Program} {w : World} {K : PySem.W.Frag} {mg : Str → Option Value} {base : Heap} {f tc tp : Addr} {oc kV dc pm ct : Value} {od an : Option Addr} {sl : Array (Option Value)} (lk : K.lookup f = some ⟨oc, od, .func (PySem.W.fnOf "staying" "staying" (defArgs s_staying) (defBody s_staying) (defScope s_staying) .none kV dc pm an (.ref tc) ct), sl⟩) (hc : PySem.W.codeIn K (.ref tc) "staying" = true) (d_alike_tables : Def P w K mg base 2 "alike_tables" ["paces", "sorts", "becomes"] f_alike_tables) (tb : LamX.TabB base mg tc tp) (hm : (tp, nm_staying) ∈ Tabl.T) (hlf : Tabl.lf = lfs) :
    HX.FnG P w K mg base (L2.CX P w) 3 f (PySem.W.fnOf "staying" "staying" (defArgs s_staying) (defBody s_staying) (defScope s_staying) .none kV dc pm an (.ref tc) ct) ["paces", "sorts"] (spM K mg 2 f_staying) :=
  def_popC lk hc sc_staying rfl rfl (bd_staying d_alike_tables tb hm hlf)
abbrev s_sorting : Stmt := topS 19
abbrev N_sorting : List Str := ["paces", "sorts"]
theorem sc_sorting : FnScope N_sorting ["paces", "sorts"] (defScope s_sorting) := ⟨rfl, rfl, rfl, by decide +kernel, rfl, by decide +kernel, by decide +kernel⟩
def m_sorting : MS := sRet (eL (callM 3 f_alike_tables) (aCons (eVar 0) (aCons (eVar 1) (aCons (eC (.fn 2)) (aNil)))))
def f_sorting : List T → M T := popS (defM 2 2 m_sorting)
theorem bd_sorting {P : Program} {w : World} {K : PySem.W.Frag} {mg : Str → Option Value} {base : Heap} {f tc tp : Addr} (d_alike_tables : Def P w K mg base 2 "alike_tables" ["paces", "sorts", "becomes"] f_alike_tables) (tb : LamX.TabB base mg tc tp) (hm : (tp, nm_sorting) ∈ Tabl.T) (hlf : Tabl.lf = lfs) :
    DefBodyC P w K mg base 2 N_sorting "sorting" (defScope s_sorting) f (.ref tc) (defBody s_sorting) m_sorting := by
  intro A outer s H E hr
  have ND := sc_sorting.nd
  have tk : Takes (BX P w K mg base N_sorting "sorting" (defScope s_sorting) f (.ref tc) A outer s H E) (WB E) := takes_of rfl rfl rfl rfl
  exact (jb_one (js_ret (j_def d_alike_tables hr (by decide) tk (ja_cons (j_var 0) (ja_cons (j_var 1) (ja_cons (j_lam 2 tb rfl hm rfl rfl (by decide +kernel) fun c2 => (congrFun (congrFun hlf 2) c2).trans rfl) ja_nil))))))
theorem ok_sorting {P : Program} {w : World} {K : PySem.W.Frag} {mg : Str → Option Value} {base : Heap} {f tc tp : Addr} {oc kV dc pm ct : Value} {od an : Option Addr} {sl : Array (Option Value)} (lk : K.lookup f = some ⟨oc, od, .func (PySem.W.fnOf "sorting" "sorting" (defArgs s_sorting) (defBody s_sorting) (defScope s_sorting) .none kV dc pm an (.ref tc) ct), sl⟩) (hc : PySem.W.codeIn K (.ref tc) "sorting" = true) (d_alike_tables : Def P w K mg base 2 "alike_tables" ["paces", "sorts", "becomes"] f_alike_tables) (tb : LamX.TabB base mg tc tp) (hm : (tp, nm_sorting) ∈ Tabl.T) (hlf : Tabl.lf = lfs) :
    HX.FnG P w K mg base (L2.CX P w) 3 f (PySem.W.fnOf "sorting" "sorting" (defArgs s_sorting) (defBody s_sorting) (defScope s_sorting) .none kV dc pm an (.ref tc) ct) ["paces", "sorts"] (spM K mg 2 f_sorting) :=
  def_popC lk hc sc_sorting rfl rfl (bd_sorting d_alike_tables tb hm hlf)
abbrev s_turning : Stmt := topS 21
abbrev N_turning : List Str := ["paces", "steps", "sorts", "tables", "d", "e", "a", "b"]
theorem sc_turning : FnScope N_turning ["paces", "steps", "sorts"] (defScope s_turning) := ⟨rfl, rfl, rfl, by decide +kernel, rfl, by decide +kernel, by decide +kernel⟩
def m_turning : MS := sSeq (sSet 3 (eL (kLstD true) (aNil))) (
    sSeq (sFor (iAny (eVar 1)) (gT 2 (gsCons (gN 4) (gsCons (gN 5) (gsNil)))) (sExpr (eM isL kAppend (eVar 3) (aCons (eL kTuple (aCons (eComp false (iAny (eL (callM 1 f_burdens_by_two) (aCons (eVar 2) (aNil)))) (.tup [6, 7]) (tYesM) [6, 7] (compK1 (eL kTupD (aCons (e2 kMod (e2 (kAdd false) (eVar 7) (eVar 5)) (eVar 2)) (aCons (e2 kMod (e2 (kAdd false) (eVar 6) (eVar 4)) (eVar 2)) (aNil)))))) (aNil))) (aNil))))) (
    sRet (eL kTupD (aCons (eVar 0) (aCons (eVar 2) (aCons (eL kTuple (aCons (eVar 3) (aNil))) (aNil)))))))
def f_turning : List T → M T := popS (defM 3 8 m_turning)
theorem bd_turning {P : Program} {w : World} {K : PySem.W.Frag} {mg : Str → Option Value} {base : Heap} {f : Addr} (g_tuple : mg "tuple" = none) (d_burdens_by_two : Def P w K mg base 1 "burdens_by_two" ["sorts"] f_burdens_by_two) :
    DefBody P w K mg base 1 N_turning "turning" (defScope s_turning) f (defBody s_turning) m_turning := by
  intro cdv A outer s H E hr
  have ND := sc_turning.nd
  have tk : Takes (BX P w K mg base N_turning "turning" (defScope s_turning) f cdv A outer s H E) (WB E) := takes_of rfl rfl rfl rfl
  have hp : PassesOwn (model P w) (BX P w K mg base N_turning "turning" (defScope s_turning) f cdv A outer s H E).A (BX P w K mg base N_turning "turning" (defScope s_turning) f cdv A outer s H E).env (BX P w K mg base N_turning "turning" (defScope s_turning) f cdv A outer s H E).xe := passes_of rfl
  exact (jb_cons (js_set (i := 3) ND (j_lst (al := true) ja_nil))
    (jb_cons (js_for hp rfl (ji_any (j_var 1)) (jg_tup rfl (jgs_cons (jg_name (i := 4) ND) (jgs_cons (jg_name (i := 5) ND) jgs_nil))) (jb_one (js_expr (jm_append (j_var 3) (ja_cons (jc_tuple g_tuple (ja_cons (j_lc false rfl ND (ji_any (j_def d_burdens_by_two hr (by decide) tk (ja_cons (j_var 2) ja_nil))) (blkOk_by (own := [("a", 6), ("b", 7)]) (by dsimp only [BX, cxOf, envOfC, compEnvC]; decide +kernel)) (fun _ _ _ _ _ => (pg_tup rfl (pgs_cons (pg_name (i := 6) ND rfl (.inl rfl) (.inr rfl)) (pgs_cons (pg_name (i := 7) ND rfl (.inl rfl) (.inr rfl)) pgs_nil)))) (fun _ _ _ _ _ => jts_nil) (fun _ _ _ _ _ => (j_tup (ja_cons (j_bin op_mod k_mod (j_bin op_addAll (k_add (al := false)) (j_var 7) (j_var 5)) (j_var 2)) (ja_cons (j_bin op_mod k_mod (j_bin op_addAll (k_add (al := false)) (j_var 6) (j_var 4)) (j_var 2)) ja_nil))))) ja_nil)) ja_nil)))))
    (jb_one (js_ret (j_tup (ja_cons (j_var 0) (ja_cons (j_var 2) (ja_cons (jc_tuple g_tuple (ja_cons (j_var 3) ja_nil)) ja_nil))))))))
theorem ok_turning {P : Program} {w : World} {K : PySem.W.Frag} {mg : Str → Option Value} {base : Heap} {f : Addr} {fd : FuncData} (F : Fun K "turning" "turning" s_turning f fd) (g_tuple : mg "tuple" = none) (d_burdens_by_two : Def P w K mg base 1 "burdens_by_two" ["sorts"] f_burdens_by_two) :
    HX.FnG P w K mg base (L2.CX P w) 2 f fd ["paces", "steps", "sorts"] (spM K mg 3 f_turning) :=
  def_pop F sc_turning rfl rfl (bd_turning g_tuple d_burdens_by_two)
abbrev s_folding : Stmt := topS 20
abbrev N_folding : List Str := ["paces", "sorts"]
theorem sc_folding : FnScope N_folding ["paces", "sorts"] (defScope s_folding) := ⟨rfl, rfl, rfl, by decide +kernel, rfl, by decide +kernel, by decide +kernel⟩
def m_folding : MS := sRet (eClo 1 Sh.foldM (aCons (eVar 0) (aCons (eVar 1) (aNil))))
def f_folding : List T → M T := popS (defM 2 2 m_folding)
theorem bd_folding {P : Program} {w : World} {K : PySem.W.Frag} {mg : Str → Option Value} {base : Heap} {f tc tp : Addr} (d_alike_tables : Def P w K mg base 2 "alike_tables" ["paces", "sorts", "becomes"] f_alike_tables) (d_alike_tablesA : ∀ (base2 : Heap) (LAM : Nat → List T → M T), LamsOkC P w K mg base2 1 LAM → Def P w K mg base2 2 "alike_tables" ["paces", "sorts", "becomes"] (f_alike_tablesL LAM)) (g_max : mg "max" = none) (g_min : mg "min" = none) (tb : LamX.TabB base mg tc tp) (hm : (tp, nm_folding) ∈ Tabl.T) (hlf : Tabl.lf = lfs) :
    DefBodyC P w K mg base 2 N_folding "folding" (defScope s_folding) f (.ref tc) (defBody s_folding) m_folding := by
  intro A outer s H E hr
  have ND := sc_folding.nd
  have tk : Takes (BX P w K mg base N_folding "folding" (defScope s_folding) f (.ref tc) A outer s H E) (WB E) := takes_of rfl rfl rfl rfl
  exact (jb_one (js_ret (j_clo (xc := "sorts") d_alike_tables.to0 d_alike_tablesA (fun base2 a S hc => lams_okC g_max g_min hlf hc) Sh.foldM_ok rfl hr (by decide) tk rfl (show (defScope s_folding).names.lookup ("sorts" : Str) = some NameKind.cell by decide +kernel) rfl (fun env st => clo2 _ _ _ env st) (ja_cons (j_var 0) (ja_cons (j_var 1) (ja_cons (j_lamC (Mir.cellOf _ "sorts" + 3) tb rfl hm rfl rfl (fun ok y hy z => ok.has y.1 (Or.inl (nsc_folding y hy z))) fun c2 => (congrFun (congrFun hlf _) c2).trans rfl) ja_nil))))))
theorem ok_folding {P : Program} {w : World} {K : PySem.W.Frag} {mg : Str → Option Value} {base : Heap} {f tc tp : Addr} {oc kV dc pm ct : Value} {od an : Option Addr} {sl : Array (Option Value)} (lk : K.lookup f = some ⟨oc, od, .func (PySem.W.fnOf "folding" "folding" (defArgs s_folding) (defBody s_folding) (defScope s_folding) .none kV dc pm an (.ref tc) ct), sl⟩) (hc : PySem.W.codeIn K (.ref tc) "folding" = true) (d_alike_tables : Def P w K mg base 2 "alike_tables" ["paces", "sorts", "becomes"] f_alike_tables) (d_alike_tablesA : ∀ (base2 : Heap) (LAM : Nat → List T → M T), LamsOkC P w K mg base2 1 LAM → Def P w K mg base2 2 "alike_tables" ["paces", "sorts", "becomes"] (f_alike_tablesL LAM)) (g_max : mg "max" = none) (g_min : mg "min" = none) (tb : LamX.TabB base mg tc tp) (hm : (tp, nm_folding) ∈ Tabl.T) (hlf : Tabl.lf = lfs) :
    HX.FnG P w K mg base (L2.CX P w) 3 f (PySem.W.fnOf "folding" "folding" (defArgs s_folding) (defBody s_folding) (defScope s_folding) .none kV dc pm an (.ref tc) ct) ["paces", "sorts"] (spM K mg 2 f_folding) :=
  def_popC lk hc sc_folding rfl rfl (bd_folding d_alike_tables d_alike_tablesA g_max g_min tb hm hlf)
abbrev s_l_alike : Stmt := topS 25
abbrev N_l_alike : List Str := ["_law_found", "_law_due_here", "_law_left", "_law_one", "_law_other"]
theorem sc_l_alike : FnScope N_l_alike ["_law_found", "_law_due_here"] (defScope s_l_alike) := ⟨rfl, rfl, rfl, by decide +kernel, rfl, by decide +kernel, by decide +kernel⟩
abbrev m_l_alike : MS := Sh.m_l_alike
abbrev f_l_alike : List T → M T := Sh.f_l_alike
theorem bd_l_alike {P : Program} {w : World} {K : PySem.W.Frag} {mg : Str → Option Value} {base : Heap} {f : Addr} (g_len : mg "len" = none) (g_isinstance : mg "isinstance" = none) (g_bool : mg "bool" = none) (g_tuple : mg "tuple" = none) (g_list : mg "list" = none) (g_str : mg "str" = none) (g_int : mg "int" = none) (g_zip : mg "zip" = none) :
    DefBody P w K mg base 0 N_l_alike "_law_alike" (defScope s_l_alike) f (defBody s_l_alike) m_l_alike := by
  intro cdv A outer s H E hr
  have ND := sc_l_alike.nd
  have hp : PassesOwn (model P w) (BX P w K mg base N_l_alike "_law_alike" (defScope s_l_alike) f cdv A outer s H E).A (BX P w K mg base N_l_alike "_law_alike" (defScope s_l_alike) f cdv A outer s H E).env (BX P w K mg base N_l_alike "_law_alike" (defScope s_l_alike) f cdv A outer s H E).xe := passes_of rfl
  exact (jb_cons (js_set (i := 2) ND (j_lst (al := true) (ja_cons (j_tup (ja_cons (j_var 0) (ja_cons (j_var 1) ja_nil))) ja_nil)))
    (jb_cons (js_while 100000 hp (jt_cmp op_gt k_gt (jc_len g_len (ja_cons (j_var 2) ja_nil)) j_int) (jb_cons (js_asg (jm_pop0 (j_var 2)) (jg_tup rfl (jgs_cons (jg_name (i := 3) ND) (jgs_cons (jg_name (i := 4) ND) jgs_nil))))
    (jb_cons (js_if ((jw_or (jt_cmp (op_neAll (units hr (j := 64) (by decide) (by decide))) k_eq (j_isi g_isinstance g_bool boot_bool (j_var 3)) (j_isi g_isinstance g_bool boot_bool (j_var 4))) (jw_or1 (jt_cmp (op_neAll (units hr (j := 64) (by decide) (by decide))) k_eq (j_isi g_isinstance g_tuple boot_tuple (j_var 3)) (j_isi g_isinstance g_tuple boot_tuple (j_var 4)))))).pt (jb_one (js_ret j_bl)) jb_nil)
    (jb_cons (js_if ((jw_or (jt_cmp (op_neAll (units hr (j := 64) (by decide) (by decide))) k_eq (j_isi g_isinstance g_list boot_list (j_var 3)) (j_isi g_isinstance g_list boot_list (j_var 4))) (jw_or1 (jt_cmp (op_neAll (units hr (j := 64) (by decide) (by decide))) k_eq (j_isi g_isinstance g_str boot_str (j_var 3)) (j_isi g_isinstance g_str boot_str (j_var 4)))))).pt (jb_one (js_ret j_bl)) jb_nil)
    (jb_cons (js_if (jt_cmp (op_neAll (units hr (j := 64) (by decide) (by decide))) k_eq (j_isi g_isinstance g_int boot_int (j_var 3)) (j_isi g_isinstance g_int boot_int (j_var 4))) (jb_one (js_ret j_bl)) jb_nil)
    (jb_one (js_if (jt_val (j_isi2 g_isinstance g_tuple boot_tuple g_list boot_list (j_var 4))) (jb_cons (js_if (jt_cmp (op_neAll (units hr (j := 64) (by decide) (by decide))) k_eq (jc_len g_len (ja_cons (j_var 3) ja_nil)) (jc_len g_len (ja_cons (j_var 4) ja_nil))) (jb_one (js_ret j_bl)) jb_nil)
    (jb_one (js_expr (jm_extend (j_var 2) (ja_cons (j_listZip false rfl (by rfl) g_list (by rfl) g_zip (ja_cons (j_var 3) (ja_cons (j_var 4) ja_nil))) ja_nil))))) (jb_one (js_if (jt_cmp (op_neAll (units hr (j := 64) (by decide) (by decide))) k_eq (j_var 3) (j_var 4)) (jb_one (js_ret j_bl)) jb_nil)))))))))
    (jb_one (js_ret j_bl))))
theorem ok_l_alike {P : Program} {w : World} {K : PySem.W.Frag} {mg : Str → Option Value} {base : Heap} {f : Addr} {fd : FuncData} (F : Fun K "_law_alike" "_law_alike" s_l_alike f fd) (g_len : mg "len" = none) (g_isinstance : mg "isinstance" = none) (g_bool : mg "bool" = none) (g_tuple : mg "tuple" = none) (g_list : mg "list" = none) (g_str : mg "str" = none) (g_int : mg "int" = none) (g_zip : mg "zip" = none) :
    HX.FnG P w K mg base (L2.CX P w) 1 f fd ["_law_found", "_law_due_here"] (spM K mg 2 f_l_alike) :=
  def_pop F sc_l_alike rfl rfl (bd_l_alike g_len g_isinstance g_bool g_tuple g_list g_str g_int g_zip)
abbrev s_is_whole : Stmt := topS 7
abbrev N_is_whole : List Str := ["thing"]
theorem sc_is_whole : FnScope N_is_whole ["thing"] (defScope s_is_whole) := ⟨rfl, rfl, rfl, by decide +kernel, rfl, by decide +kernel, by decide +kernel⟩
def m_is_whole : MS := sRet (eAnd (e1 (kIsi "int") (eVar 0)) (eNot (e1 (kIsi "bool") (eVar 0))))
def f_is_whole : List T → M T := popS (defM 1 1 m_is_whole)
theorem bd_is_whole {P : Program} {w : World} {K : PySem.W.Frag} {mg : Str → Option Value} {base : Heap} {f : Addr} (g_isinstance : mg "isinstance" = none) (g_int : mg "int" = none) (g_bool : mg "bool" = none) :
    DefBody P w K mg base 0 N_is_whole "is_whole" (defScope s_is_whole) f (defBody s_is_whole) m_is_whole := by
  intro cdv A outer s H E hr
  have ND := sc_is_whole.nd
  exact (jb_one (js_ret (j_and (j_isi g_isinstance g_int boot_int (j_var 0)) (j_one (j_not (j_isi g_isinstance g_bool boot_bool (j_var 0)))))))
theorem ok_is_whole {P : Program} {w : World} {K : PySem.W.Frag} {mg : Str → Option Value} {base : Heap} {f : Addr} {fd : FuncData} (F : Fun K "is_whole" "is_whole" s_is_whole f fd) (g_isinstance : mg "isinstance" = none) (g_int : mg "int" = none) (g_bool : mg "bool" = none) :
    HX.FnG P w K mg base (L2.CX P w) 1 f fd ["thing"] (spM K mg 1 f_is_whole) :=
  def_pop F sc_is_whole rfl rfl (bd_is_whole g_isinstance g_int g_bool)
abbrev s_look_paces : Stmt := topS 10
abbrev N_look_paces : List Str := ["paces", "k", "pace"]
theorem sc_look_paces : FnScope N_look_paces ["paces"] (defScope s_look_paces) := ⟨rfl, rfl, rfl, by decide +kernel, rfl, by decide +kernel, by decide +kernel⟩
def m_look_paces : MS := sSeq (sIf (tOrM (tNotM (tV (e1 (kIsi "tuple") (eVar 0)))) (tNotM (tV (eChain (kLe) (kLe) (eC (.int 1)) (eL kLen (aCons (eVar 0) (aNil))) (eC (.int 5)))))) (sRaise "NoBook" ["word", "at"] (aCons (eC (.str "paces")) (aCons (eC (.int 0)) (aNil)))) (sNext)) (
    sFor (iEnumA (eVar 0)) (gT 2 (gsCons (gN 1) (gsCons (gN 2) (gsNil)))) (sSeq (sIf (tOrM (tNotM (tV (eL (callM 1 f_is_whole) (aCons (eVar 2) (aNil))))) (tNotM (tV (eChain (kLe) (kLe) (e1 kNeg (eC (.int 1000))) (eVar 2) (eC (.int 1000)))))) (sRaise "NoBook" ["word", "at"] (aCons (eC (.str "paces")) (aCons (eVar 1) (aNil)))) (sNext)) (
    sIf (tAndM (tV (e2 (kGt) (eVar 1) (eC (.int 0)))) (tV (e2 (kLe) (eVar 2) (e2 kIx (eVar 0) (e2 kSub (eVar 1) (eC (.int 1))))))) (sRaise "NoBook" ["word", "at"] (aCons (eC (.str "paces")) (aCons (eVar 1) (aNil)))) (sNext))))
def f_look_paces : List T → M T := popS (defM 1 3 m_look_paces)
theorem bd_look_paces {P : Program} {w : World} {K : PySem.W.Frag} {mg : Str → Option Value} {base : Heap} {f : Addr} (g_isinstance : mg "isinstance" = none) (g_tuple : mg "tuple" = none) (g_len : mg "len" = none) (g_MOST_KINDS : ∃ t, mg "MOST_KINDS" = some (.int 5 t)) (g_enumerate : mg "enumerate" = none) (g_MOST_PACE : ∃ t, mg "MOST_PACE" = some (.int 1000 t)) (d_is_whole : Def P w K mg base 1 "is_whole" ["thing"] f_is_whole) (r_NoBook : RaiseD P w K mg base "NoBook" ["word", "at"]) :
    DefBody P w K mg base 2 N_look_paces "look_paces" (defScope s_look_paces) f (defBody s_look_paces) m_look_paces := by
  intro cdv A outer s H E hr
  have ND := sc_look_paces.nd
  have tk : Takes (BX P w K mg base N_look_paces "look_paces" (defScope s_look_paces) f cdv A outer s H E) (WB E) := takes_of rfl rfl rfl rfl
  have hp : PassesOwn (model P w) (BX P w K mg base N_look_paces "look_paces" (defScope s_look_paces) f cdv A outer s H E).A (BX P w K mg base N_look_paces "look_paces" (defScope s_look_paces) f cdv A outer s H E).env (BX P w K mg base N_look_paces "look_paces" (defScope s_look_paces) f cdv A outer s H E).xe := passes_of rfl
  exact (jb_cons (js_if ((jw_or (jt_not (jt_val (j_isi g_isinstance g_tuple boot_tuple (j_var 0)))) (jw_or1 (jt_not (jt_chain op_le k_le op_le k_le j_int (jc_len g_len (ja_cons (j_var 0) ja_nil)) (j_topInt g_MOST_KINDS)))))).pt (jb_one (js_raise r_NoBook hr (by decide) tk rfl (ja_cons j_str (ja_cons j_int ja_nil)))) jb_nil)
    (jb_one (js_for hp rfl (ji_enumA g_enumerate (j_var 0)) (jg_tup rfl (jgs_cons (jg_name (i := 1) ND) (jgs_cons (jg_name (i := 2) ND) jgs_nil))) (jb_cons (js_if ((jw_or (jt_not (jt_val (j_def d_is_whole hr (by decide) tk (ja_cons (j_var 2) ja_nil)))) (jw_or1 (jt_not (jt_chain op_le k_le op_le k_le (j_neg (j_topInt g_MOST_PACE)) (j_var 2) (j_topInt g_MOST_PACE)))))).pt (jb_one (js_raise r_NoBook hr (by decide) tk rfl (ja_cons j_str (ja_cons (j_var 1) ja_nil)))) jb_nil)
    (jb_one (js_if ((jw_and (jt_cmp op_gt k_gt (j_var 1) j_int) (jw_and1 (jt_cmp op_le k_le (j_var 2) (j_ix ix_all k_ix (j_var 0) (j_bin op_sub k_sub (j_var 1) j_int)))))).pt (jb_one (js_raise r_NoBook hr (by decide) tk rfl (ja_cons j_str (ja_cons (j_var 1) ja_nil)))) jb_nil))))))
theorem ok_look_paces {P : Program} {w : World} {K : PySem.W.Frag} {mg : Str → Option Value} {base : Heap} {f : Addr} {fd : FuncData} (F : Fun K "look_paces" "look_paces" s_look_paces f fd) (g_isinstance : mg "isinstance" = none) (g_tuple : mg "tuple" = none) (g_len : mg "len" = none) (g_MOST_KINDS : ∃ t, mg "MOST_KINDS" = some (.int 5 t)) (g_enumerate : mg "enumerate" = none) (g_MOST_PACE : ∃ t, mg "MOST_PACE" = some (.int 1000 t)) (d_is_whole : Def P w K mg base 1 "is_whole" ["thing"] f_is_whole) (r_NoBook : RaiseD P w K mg base "NoBook" ["word", "at"]) :
    HX.FnG P w K mg base (L2.CX P w) 3 f fd ["paces"] (spM K mg 1 f_look_paces) :=
  def_pop F sc_look_paces rfl rfl (bd_look_paces g_isinstance g_tuple g_len g_MOST_KINDS g_enumerate g_MOST_PACE d_is_whole r_NoBook)
abbrev s_is_tuple_of : Stmt := topS 9
abbrev N_is_tuple_of : List Str := ["thing", "many"]
theorem sc_is_tuple_of : FnScope N_is_tuple_of ["thing", "many"] (defScope s_is_tuple_of) := ⟨rfl, rfl, rfl, by decide +kernel, rfl, by decide +kernel, by decide +kernel⟩
def m_is_tuple_of : MS := sRet (eAnd (e1 (kIsi "tuple") (eVar 0)) (e2 (kEq false) (eL kLen (aCons (eVar 0) (aNil))) (eVar 1)))
def f_is_tuple_of : List T → M T := popS (defM 2 2 m_is_tuple_of)
theorem bd_is_tuple_of {P : Program} {w : World} {K : PySem.W.Frag} {mg : Str → Option Value} {base : Heap} {f : Addr} (g_isinstance : mg "isinstance" = none) (g_tuple : mg "tuple" = none) (g_len : mg "len" = none) :
    DefBody P w K mg base 0 N_is_tuple_of "is_tuple_of" (defScope s_is_tuple_of) f (defBody s_is_tuple_of) m_is_tuple_of := by
  intro cdv A outer s H E hr
  have ND := sc_is_tuple_of.nd
  exact (jb_one (js_ret (j_and (j_isi g_isinstance g_tuple boot_tuple (j_var 0)) (j_one (j_cmp (op_eqAll (units hr (j := 64) (by decide) (by decide))) k_eq (jc_len g_len (ja_cons (j_var 0) ja_nil)) (j_var 1))))))
theorem ok_is_tuple_of {P : Program} {w : World} {K : PySem.W.Frag} {mg : Str → Option Value} {base : Heap} {f : Addr} {fd : FuncData} (F : Fun K "is_tuple_of" "is_tuple_of" s_is_tuple_of f fd) (g_isinstance : mg "isinstance" = none) (g_tuple : mg "tuple" = none) (g_len : mg "len" = none) :
    HX.FnG P w K mg base (L2.CX P w) 1 f fd ["thing", "many"] (spM K mg 2 f_is_tuple_of) :=
  def_pop F sc_is_tuple_of rfl rfl (bd_is_tuple_of g_isinstance g_tuple g_len)
abbrev s_is_below : Stmt := topS 8
abbrev N_is_below : List Str := ["thing", "many"]
theorem sc_is_below : FnScope N_is_below ["thing", "many"] (defScope s_is_below) := ⟨rfl, rfl, rfl, by decide +kernel, rfl, by decide +kernel, by decide +kernel⟩
def m_is_below : MS := sRet (eAnd (eL (callM 1 f_is_whole) (aCons (eVar 0) (aNil))) (eChain (kLe) (kLt) (eC (.int 0)) (eVar 0) (eVar 1)))
def f_is_below : List T → M T := popS (defM 2 2 m_is_below)
theorem bd_is_below {P : Program} {w : World} {K : PySem.W.Frag} {mg : Str → Option Value} {base : Heap} {f : Addr} (d_is_whole : Def P w K mg base 1 "is_whole" ["thing"] f_is_whole) :
    DefBody P w K mg base 1 N_is_below "is_below" (defScope s_is_below) f (defBody s_is_below) m_is_below := by
  intro cdv A outer s H E hr
  have ND := sc_is_below.nd
  have tk : Takes (BX P w K mg base N_is_below "is_below" (defScope s_is_below) f cdv A outer s H E) (WB E) := takes_of rfl rfl rfl rfl
  exact (jb_one (js_ret (j_and (j_def d_is_whole hr (by decide) tk (ja_cons (j_var 0) ja_nil)) (j_one (j_chain op_le k_le op_lt k_lt j_int (j_var 0) (j_var 1))))))
theorem ok_is_below {P : Program} {w : World} {K : PySem.W.Frag} {mg : Str → Option Value} {base : Heap} {f : Addr} {fd : FuncData} (F : Fun K "is_below" "is_below" s_is_below f fd) (d_is_whole : Def P w K mg base 1 "is_whole" ["thing"] f_is_whole) :
    HX.FnG P w K mg base (L2.CX P w) 2 f fd ["thing", "many"] (spM K mg 2 f_is_below) :=
  def_pop F sc_is_below rfl rfl (bd_is_below d_is_whole)
abbrev s_look_table : Stmt := topS 11
abbrev N_look_table : List Str := ["k", "table", "sorts", "n", "pair", "burden"]
theorem sc_look_table : FnScope N_look_table ["k", "table", "sorts"] (defScope s_look_table) := ⟨rfl, rfl, rfl, by decide +kernel, rfl, by decide +kernel, by decide +kernel⟩
def m_look_table : MS := sSeq (sIf (tNotM (tV (eL (callM 2 f_is_tuple_of) (aCons (eVar 1) (aCons (e2 (kMul false) (eVar 2) (eVar 2)) (aNil)))))) (sRaise "NoBook" ["word", "at"] (aCons (eC (.str "table")) (aCons (eVar 0) (aNil)))) (sNext)) (
    sFor (iEnumA (eVar 1)) (gT 2 (gsCons (gN 3) (gsCons (gN 4) (gsNil)))) (sIf (tOrM (tNotM (tV (eL (callM 2 f_is_tuple_of) (aCons (eVar 4) (aCons (eC (.int 2)) (aNil)))))) (tNotM (tV (eL kAll (aCons (eComp false (iAny (eVar 4)) (.name 5) (tYesM) [5] (compK1 (eL (callM 2 f_is_below) (aCons (eVar 5) (aCons (eVar 2) (aNil)))))) (aNil)))))) (sRaise "NoBook" ["word", "at"] (aCons (eC (.str "pair")) (aCons (e2 (kAdd false) (e2 (kMul false) (e2 (kMul false) (eVar 0) (eVar 2)) (eVar 2)) (eVar 3)) (aNil)))) (sNext)))
def f_look_table : List T → M T := popS (defM 3 6 m_look_table)
theorem bd_look_table {P : Program} {w : World} {K : PySem.W.Frag} {mg : Str → Option Value} {base : Heap} {f : Addr} (g_enumerate : mg "enumerate" = none) (g_all : mg "all" = none) (d_is_tuple_of : Def P w K mg base 1 "is_tuple_of" ["thing", "many"] f_is_tuple_of) (d_is_below : Def P w K mg base 2 "is_below" ["thing", "many"] f_is_below) (r_NoBook : RaiseD P w K mg base "NoBook" ["word", "at"]) :
    DefBody P w K mg base 2 N_look_table "look_table" (defScope s_look_table) f (defBody s_look_table) m_look_table := by
  intro cdv A outer s H E hr
  have ND := sc_look_table.nd
  have tk : Takes (BX P w K mg base N_look_table "look_table" (defScope s_look_table) f cdv A outer s H E) (WB E) := takes_of rfl rfl rfl rfl
  have hp : PassesOwn (model P w) (BX P w K mg base N_look_table "look_table" (defScope s_look_table) f cdv A outer s H E).A (BX P w K mg base N_look_table "look_table" (defScope s_look_table) f cdv A outer s H E).env (BX P w K mg base N_look_table "look_table" (defScope s_look_table) f cdv A outer s H E).xe := passes_of rfl
  exact (jb_cons (js_if (jt_not (jt_val (j_def d_is_tuple_of hr (by decide) tk (ja_cons (j_var 1) (ja_cons (j_bin op_mulAll (k_mul (al := false)) (j_var 2) (j_var 2)) ja_nil))))) (jb_one (js_raise r_NoBook hr (by decide) tk rfl (ja_cons j_str (ja_cons (j_var 0) ja_nil)))) jb_nil)
    (jb_one (js_for hp rfl (ji_enumA g_enumerate (j_var 1)) (jg_tup rfl (jgs_cons (jg_name (i := 3) ND) (jgs_cons (jg_name (i := 4) ND) jgs_nil))) (jb_one (js_if ((jw_or (jt_not (jt_val (j_def d_is_tuple_of hr (by decide) tk (ja_cons (j_var 4) (ja_cons j_int ja_nil))))) (jw_or1 (jt_not (jt_val (jc_all g_all (ja_cons (j_lc false rfl ND (ji_any (j_var 4)) (blkOk_by (own := [("burden", 5)]) (by dsimp only [BX, cxOf, envOfC, compEnvC]; decide +kernel)) (fun _ _ _ _ _ => (pg_name (i := 5) ND rfl (.inl rfl) (.inr rfl))) (fun _ _ _ _ _ => jts_nil) (fun _ _ _ _ _ => (j_def d_is_below hr (by decide) takesF (ja_cons (j_var 5) (ja_cons (j_var 2) ja_nil))))) ja_nil))))))).pt (jb_one (js_raise r_NoBook hr (by decide) tk rfl (ja_cons j_str (ja_cons (j_bin op_addAll (k_add (al := false)) (j_bin op_mulAll (k_mul (al := false)) (j_bin op_mulAll (k_mul (al := false)) (j_var 0) (j_var 2)) (j_var 2)) (j_var 3)) ja_nil)))) jb_nil)))))
theorem ok_look_table {P : Program} {w : World} {K : PySem.W.Frag} {mg : Str → Option Value} {base : Heap} {f : Addr} {fd : FuncData} (F : Fun K "look_table" "look_table" s_look_table f fd) (g_enumerate : mg "enumerate" = none) (g_all : mg "all" = none) (d_is_tuple_of : Def P w K mg base 1 "is_tuple_of" ["thing", "many"] f_is_tuple_of) (d_is_below : Def P w K mg base 2 "is_below" ["thing", "many"] f_is_below) (r_NoBook : RaiseD P w K mg base "NoBook" ["word", "at"]) :
    HX.FnG P w K mg base (L2.CX P w) 3 f fd ["k", "table", "sorts"] (spM K mg 3 f_look_table) :=
  def_pop F sc_look_table rfl rfl (bd_look_table g_enumerate g_all d_is_tuple_of d_is_below r_NoBook)
abbrev s_look_book : Stmt := topS 12
abbrev N_look_book : List Str := ["book", "paces", "sorts", "tables", "k", "table"]
theorem sc_look_book : FnScope N_look_book ["book"] (defScope s_look_book) := ⟨rfl, rfl, rfl, by decide +kernel, rfl, by decide +kernel, by decide +kernel⟩
def m_look_book : MS := sSeq (sIf (tNotM (tV (eL (callM 2 f_is_tuple_of) (aCons (eVar 0) (aCons (eC (.int 3)) (aNil)))))) (sRaise "NoBook" ["word", "at"] (aCons (eC (.str "form")) (aCons (eC (.int 0)) (aNil)))) (sNext)) (
    sSeq (sAsg (eVar 0) (gT 3 (gsCons (gN 1) (gsCons (gN 2) (gsCons (gN 3) (gsNil)))))) (
    sSeq (sExpr (eL (callM 1 f_look_paces) (aCons (eVar 1) (aNil)))) (
    sSeq (sIf (tOrM (tNotM (tV (eL (callM 1 f_is_whole) (aCons (eVar 2) (aNil))))) (tNotM (tV (eChain (kLe) (kLe) (eC (.int 1)) (eVar 2) (eC (.int 6)))))) (sRaise "NoBook" ["word", "at"] (aCons (eC (.str "sorts")) (aCons (eC (.int 0)) (aNil)))) (sNext)) (
    sSeq (sIf (tNotM (tV (eL (callM 2 f_is_tuple_of) (aCons (eVar 3) (aCons (e2 kDiv (e2 (kMul false) (eL kLen (aCons (eVar 1) (aNil))) (e2 kSub (eL kLen (aCons (eVar 1) (aNil))) (eC (.int 1)))) (eC (.int 2))) (aNil)))))) (sRaise "NoBook" ["word", "at"] (aCons (eC (.str "tables")) (aCons (eC (.int 0)) (aNil)))) (sNext)) (
    sSeq (sFor (iEnumA (eVar 3)) (gT 2 (gsCons (gN 4) (gsCons (gN 5) (gsNil)))) (sExpr (eL (callM 3 f_look_table) (aCons (eVar 4) (aCons (eVar 5) (aCons (eVar 2) (aNil))))))) (
    sRet (eC (.bl true))))))))
def f_look_book : List T → M T := popS (defM 1 6 m_look_book)
theorem bd_look_book {P : Program} {w : World} {K : PySem.W.Frag} {mg : Str → Option Value} {base : Heap} {f : Addr} (g_MOST_SORTS : ∃ t, mg "MOST_SORTS" = some (.int 6 t)) (g_len : mg "len" = none) (g_enumerate : mg "enumerate" = none) (d_is_tuple_of : Def P w K mg base 1 "is_tuple_of" ["thing", "many"] f_is_tuple_of) (d_look_paces : Def P w K mg base 3 "look_paces" ["paces"] f_look_paces) (d_is_whole : Def P w K mg base 1 "is_whole" ["thing"] f_is_whole) (d_look_table : Def P w K mg base 3 "look_table" ["k", "table", "sorts"] f_look_table) (r_NoBook : RaiseD P w K mg base "NoBook" ["word", "at"]) :
    DefBody P w K mg base 3 N_look_book "look_book" (defScope s_look_book) f (defBody s_look_book) m_look_book := by
  intro cdv A outer s H E hr
  have ND := sc_look_book.nd
  have tk : Takes (BX P w K mg base N_look_book "look_book" (defScope s_look_book) f cdv A outer s H E) (WB E) := takes_of rfl rfl rfl rfl
  have hp : PassesOwn (model P w) (BX P w K mg base N_look_book "look_book" (defScope s_look_book) f cdv A outer s H E).A (BX P w K mg base N_look_book "look_book" (defScope s_look_book) f cdv A outer s H E).env (BX P w K mg base N_look_book "look_book" (defScope s_look_book) f cdv A outer s H E).xe := passes_of rfl
  exact (jb_cons (js_if (jt_not (jt_val (j_def d_is_tuple_of hr (by decide) tk (ja_cons (j_var 0) (ja_cons j_int ja_nil))))) (jb_one (js_raise r_NoBook hr (by decide) tk rfl (ja_cons j_str (ja_cons j_int ja_nil)))) jb_nil)
    (jb_cons (js_asg (j_var 0) (jg_tup rfl (jgs_cons (jg_name (i := 1) ND) (jgs_cons (jg_name (i := 2) ND) (jgs_cons (jg_name (i := 3) ND) jgs_nil)))))
    (jb_cons (js_expr (j_def d_look_paces hr (by decide) tk (ja_cons (j_var 1) ja_nil)))
    (jb_cons (js_if ((jw_or (jt_not (jt_val (j_def d_is_whole hr (by decide) tk (ja_cons (j_var 2) ja_nil)))) (jw_or1 (jt_not (jt_chain op_le k_le op_le k_le j_int (j_var 2) (j_topInt g_MOST_SORTS)))))).pt (jb_one (js_raise r_NoBook hr (by decide) tk rfl (ja_cons j_str (ja_cons j_int ja_nil)))) jb_nil)
    (jb_cons (js_if (jt_not (jt_val (j_def d_is_tuple_of hr (by decide) tk (ja_cons (j_var 3) (ja_cons (j_bin op_fdivW k_div (j_bin op_mulAll (k_mul (al := false)) (jc_len g_len (ja_cons (j_var 1) ja_nil)) (j_bin op_sub k_sub (jc_len g_len (ja_cons (j_var 1) ja_nil)) j_int)) j_int) ja_nil))))) (jb_one (js_raise r_NoBook hr (by decide) tk rfl (ja_cons j_str (ja_cons j_int ja_nil)))) jb_nil)
    (jb_cons (js_for hp rfl (ji_enumA g_enumerate (j_var 3)) (jg_tup rfl (jgs_cons (jg_name (i := 4) ND) (jgs_cons (jg_name (i := 5) ND) jgs_nil))) (jb_one (js_expr (j_def d_look_table hr (by decide) tk (ja_cons (j_var 4) (ja_cons (j_var 5) (ja_cons (j_var 2) ja_nil)))))))
    (jb_one (js_ret j_bl))))))))
theorem ok_look_book {P : Program} {w : World} {K : PySem.W.Frag} {mg : Str → Option Value} {base : Heap} {f : Addr} {fd : FuncData} (F : Fun K "look_book" "look_book" s_look_book f fd) (g_MOST_SORTS : ∃ t, mg "MOST_SORTS" = some (.int 6 t)) (g_len : mg "len" = none) (g_enumerate : mg "enumerate" = none) (d_is_tuple_of : Def P w K mg base 1 "is_tuple_of" ["thing", "many"] f_is_tuple_of) (d_look_paces : Def P w K mg base 3 "look_paces" ["paces"] f_look_paces) (d_is_whole : Def P w K mg base 1 "is_whole" ["thing"] f_is_whole) (d_look_table : Def P w K mg base 3 "look_table" ["k", "table", "sorts"] f_look_table) (r_NoBook : RaiseD P w K mg base "NoBook" ["word", "at"]) :
    HX.FnG P w K mg base (L2.CX P w) 4 f fd ["book"] (spM K mg 1 f_look_book) :=
  def_pop F sc_look_book rfl rfl (bd_look_book g_MOST_SORTS g_len g_enumerate d_is_tuple_of d_look_paces d_is_whole d_look_table r_NoBook)
abbrev s_l_due : Stmt := topS 27
abbrev N_l_due : List Str := ["_law_paces_here", "_law_steps", "_law_size", "_law_form", "_law_tables", "_law_d", "_law_e", "_law_pairs", "_law_n", "_law_a", "_law_b"]
theorem sc_l_due : FnScope N_l_due ["_law_paces_here", "_law_steps", "_law_size", "_law_form"] (defScope s_l_due) := ⟨rfl, rfl, rfl, by decide +kernel, rfl, by decide +kernel, by decide +kernel⟩
def m_l_due : MS := sSeq (sSet 4 (eL (kLstD true) (aNil))) (
    sSeq (sFor (iAny (eVar 1)) (gT 2 (gsCons (gN 5) (gsCons (gN 6) (gsNil)))) (sSeq (sSet 7 (eL (kLstD true) (aNil))) (
    sSeq (sFor (iRange1 (e2 (kMul false) (eVar 2) (eVar 2))) (gN 8) (sSeq (sPar 9 10 (aCons (e2 kDiv (eVar 8) (eVar 2)) (aCons (e2 kMod (eVar 8) (eVar 2)) aNil))) (
    sIf (tAndM (tV (e2 (kEq false) (eVar 3) (eC (.int 2)))) (tV (e2 (kGt) (eVar 9) (eVar 10)))) (sExpr (eM isL kAppend (eVar 7) (aCons (eL kTupD (aCons (eVar 10) (aCons (eVar 9) (aNil)))) (aNil)))) (sIf (tOrM (tV (e2 (kEq false) (eVar 3) (eC (.int 1)))) (tV (e2 (kEq false) (eVar 3) (eC (.int 2))))) (sExpr (eM isL kAppend (eVar 7) (aCons (eL kTupD (aCons (eVar 9) (aCons (eVar 10) (aNil)))) (aNil)))) (sIf (tV (e2 (kEq false) (eVar 3) (eC (.int 3)))) (sExpr (eM isL kAppend (eVar 7) (aCons (eL kTupD (aCons (eVar 10) (aCons (e2 kMod (e2 kSub (e2 (kAdd false) (e2 (kAdd false) (eVar 10) (eVar 10)) (eVar 2)) (eVar 9)) (eVar 2)) (aNil)))) (aNil)))) (sIf (tV (e2 (kEq false) (eVar 3) (eC (.int 4)))) (sExpr (eM isL kAppend (eVar 7) (aCons (eL kTupD (aCons (e2 kMod (e2 (kAdd false) (e2 (kAdd false) (eVar 10) (eVar 6)) (e2 (kMul false) (eC (.int 1200)) (eVar 2))) (eVar 2)) (aCons (e2 kMod (e2 (kAdd false) (e2 (kAdd false) (eVar 9) (eVar 5)) (e2 (kMul false) (eC (.int 1200)) (eVar 2))) (eVar 2)) (aNil)))) (aNil)))) (sExpr (eM isL kAppend (eVar 7) (aCons (eL kTupD (aCons (eVar 10) (aCons (eVar 9) (aNil)))) (aNil)))))))))) (
    sExpr (eM isL kAppend (eVar 4) (aCons (eL kTuple (aCons (eVar 7) (aNil))) (aNil))))))) (
    sRet (eL kTupD (aCons (eVar 0) (aCons (eVar 2) (aCons (eL kTuple (aCons (eVar 4) (aNil))) (aNil)))))))
def f_l_due : List T → M T := popS (defM 4 11 m_l_due)
theorem bd_l_due {P : Program} {w : World} {K : PySem.W.Frag} {mg : Str → Option Value} {base : Heap} {f : Addr} (g_range : mg "range" = none) (g_tuple : mg "tuple" = none) :
    DefBody P w K mg base 0 N_l_due "_law_due" (defScope s_l_due) f (defBody s_l_due) m_l_due := by
  intro cdv A outer s H E hr
  have ND := sc_l_due.nd
  have hp : PassesOwn (model P w) (BX P w K mg base N_l_due "_law_due" (defScope s_l_due) f cdv A outer s H E).A (BX P w K mg base N_l_due "_law_due" (defScope s_l_due) f cdv A outer s H E).env (BX P w K mg base N_l_due "_law_due" (defScope s_l_due) f cdv A outer s H E).xe := passes_of rfl
  exact (jb_cons (js_set (i := 4) ND (j_lst (al := true) ja_nil))
    (jb_cons (js_for hp rfl (ji_any (j_var 1)) (jg_tup rfl (jgs_cons (jg_name (i := 5) ND) (jgs_cons (jg_name (i := 6) ND) jgs_nil))) (jb_cons (js_set (i := 7) ND (j_lst (al := true) ja_nil))
    (jb_cons (js_for hp rfl (ji_range1 g_range (j_bin op_mulAll (k_mul (al := false)) (j_var 2) (j_var 2))) (jg_name (i := 8) ND) (jb_cons (js_par (i := 9) (j := 10) rfl ND (ja_cons (j_bin op_fdivW k_div (j_var 8) (j_var 2)) (ja_cons (j_bin op_mod k_mod (j_var 8) (j_var 2)) ja_nil)))
    (jb_one (js_if ((jw_and (jt_cmp (op_eqAll (units hr (j := 64) (by decide) (by decide))) k_eq (j_var 3) j_int) (jw_and1 (jt_cmp op_gt k_gt (j_var 9) (j_var 10))))).pt (jb_one (js_expr (jm_append (j_var 7) (ja_cons (j_tup (ja_cons (j_var 10) (ja_cons (j_var 9) ja_nil))) ja_nil)))) (jb_one (js_if ((jw_or (jt_cmp (op_eqAll (units hr (j := 64) (by decide) (by decide))) k_eq (j_var 3) j_int) (jw_or1 (jt_cmp (op_eqAll (units hr (j := 64) (by decide) (by decide))) k_eq (j_var 3) j_int)))).pt (jb_one (js_expr (jm_append (j_var 7) (ja_cons (j_tup (ja_cons (j_var 9) (ja_cons (j_var 10) ja_nil))) ja_nil)))) (jb_one (js_if (jt_cmp (op_eqAll (units hr (j := 64) (by decide) (by decide))) k_eq (j_var 3) j_int) (jb_one (js_expr (jm_append (j_var 7) (ja_cons (j_tup (ja_cons (j_var 10) (ja_cons (j_bin op_mod k_mod (j_bin op_sub k_sub (j_bin op_addAll (k_add (al := false)) (j_bin op_addAll (k_add (al := false)) (j_var 10) (j_var 10)) (j_var 2)) (j_var 9)) (j_var 2)) ja_nil))) ja_nil)))) (jb_one (js_if (jt_cmp (op_eqAll (units hr (j := 64) (by decide) (by decide))) k_eq (j_var 3) j_int) (jb_one (js_expr (jm_append (j_var 7) (ja_cons (j_tup (ja_cons (j_bin op_mod k_mod (j_bin op_addAll (k_add (al := false)) (j_bin op_addAll (k_add (al := false)) (j_var 10) (j_var 6)) (j_bin op_mulAll (k_mul (al := false)) j_int (j_var 2))) (j_var 2)) (ja_cons (j_bin op_mod k_mod (j_bin op_addAll (k_add (al := false)) (j_bin op_addAll (k_add (al := false)) (j_var 9) (j_var 5)) (j_bin op_mulAll (k_mul (al := false)) j_int (j_var 2))) (j_var 2)) ja_nil))) ja_nil)))) (jb_one (js_expr (jm_append (j_var 7) (ja_cons (j_tup (ja_cons (j_var 10) (ja_cons (j_var 9) ja_nil))) ja_nil))))))))))))))
    (jb_one (js_expr (jm_append (j_var 4) (ja_cons (jc_tuple g_tuple (ja_cons (j_var 7) ja_nil)) ja_nil)))))))
    (jb_one (js_ret (j_tup (ja_cons (j_var 0) (ja_cons (j_var 2) (ja_cons (jc_tuple g_tuple (ja_cons (j_var 4) ja_nil)) ja_nil))))))))
theorem ok_l_due {P : Program} {w : World} {K : PySem.W.Frag} {mg : Str → Option Value} {base : Heap} {f : Addr} {fd : FuncData} (F : Fun K "_law_due" "_law_due" s_l_due f fd) (g_range : mg "range" = none) (g_tuple : mg "tuple" = none) :
    HX.FnG P w K mg base (L2.CX P w) 1 f fd ["_law_paces_here", "_law_steps", "_law_size", "_law_form"] (spM K mg 4 f_l_due) :=
  def_pop F sc_l_due rfl rfl (bd_l_due g_range g_tuple)
abbrev s_law : Stmt := topS 28
abbrev N_law : List Str := ["_law_script", "_law_deal_here", "_law_many", "_law_size", "_law_paces_here", "_law_steps", "_law_k", "_law_wide", "_law_told", "_law_found", "_law_turn", "_law_form", "_law_book"]
theorem sc_law : FnScope N_law ["_law_script"] (defScope s_law) := ⟨rfl, rfl, rfl, by decide +kernel, rfl, by decide +kernel, by decide +kernel⟩
def m_law : MS := sSeq (sSet 1 (eL (callM 2 f_l_deal) (aCons (eVar 0) (aCons (eC (.int 0)) (aNil))))) (
    sSeq (sPar 2 3 (aCons (e2 (kAdd false) (eC (.int 1)) (eL (callM 2 f_l_draw) (aCons (eVar 1) (aCons (eC (.int 5)) (aNil))))) (aCons (e2 (kAdd false) (eC (.int 1)) (eL (callM 2 f_l_draw) (aCons (eVar 1) (aCons (eC (.int 6)) (aNil))))) aNil))) (
    sSeq (sPar 4 5 (aCons (eL (callM 2 f_l_paces) (aCons (eVar 1) (aCons (eVar 2) (aNil)))) (aCons (eL (kLstD true) (aNil)) aNil))) (
    sSeq (sFor (iRange1 (e2 kDiv (e2 (kMul false) (eVar 2) (e2 kSub (eVar 2) (eC (.int 1)))) (eC (.int 2)))) (gN 6) (sSeq (sSet 7 (e2 kIx (eL (kLstD false) (aCons (eVar 3) (aCons (eC (.int 1000)) (aNil)))) (eL (callM 2 f_l_draw) (aCons (eVar 1) (aCons (eC (.int 2)) (aNil)))))) (
    sExpr (eM isL kAppend (eVar 5) (aCons (eL kTupD (aCons (e2 kSub (eL (callM 2 f_l_draw) (aCons (eVar 1) (aCons (e2 (kAdd false) (e2 (kMul false) (eC (.int 2)) (eVar 7)) (eC (.int 1))) (aNil)))) (eVar 7)) (aCons (e2 kSub (eL (callM 2 f_l_draw) (aCons (eVar 1) (aCons (e2 (kAdd false) (e2 (kMul false) (eC (.int 2)) (eVar 7)) (eC (.int 1))) (aNil)))) (eVar 7)) (aNil)))) (aNil)))))) (
    sSeq (sPar 8 9 (aCons (eL kTuple (aCons (eVar 5) (aNil))) (aCons (eL (kLstD false) (aNil)) aNil))) (
    sSeq (sFor (iRange1 (eC (.int 2))) (gN 10) (sSeq (sSet 9 (eL (kLstD false) (aCons (eLK 1 1 f_keeping (aCons (eVar 4) (aNil)) (aCons (eVar 3) (aNil))) (aCons (eLK 1 1 f_staying (aCons (eVar 4) (aNil)) (aCons (eVar 3) (aNil))) (aCons (eLK 1 1 f_sorting (aCons (eVar 4) (aNil)) (aCons (eVar 3) (aNil))) (aNil)))))) (
    sSeq (sSet 9 (e2 (kAdd false) (eVar 9) (eL (kLstD false) (aCons (eLK 1 1 f_folding (aCons (eVar 4) (aNil)) (aCons (eVar 3) (aNil))) (aCons (eLK 2 1 f_turning (aCons (eVar 4) (aCons (eVar 8) (aNil))) (aCons (eVar 3) (aNil))) (aNil)))))) (
    sFor (iEnumA (eVar 9)) (gT 2 (gsCons (gN 11) (gsCons (gN 12) (gsNil)))) (sIf (tOrM (tNotM (tV (eL (callM 2 f_l_alike) (aCons (eVar 12) (aCons (eL (callM 4 f_l_due) (aCons (eVar 4) (aCons (eVar 5) (aCons (eVar 3) (aCons (eVar 11) (aNil)))))) (aNil)))))) (tV (e2 (kIsT true) (eL (callM 1 f_look_book) (aCons (eVar 12) (aNil))) (eC (.bl true))))) (sRet (eC (.bl false))) (sNext)))))) (
    sRet (eAnd (e2 (kEq false) (eLK 2 1 f_turning (aCons (eVar 4) (aCons (eVar 8) (aNil))) (aCons (eVar 3) (aNil))) (e2 kIx (eVar 9) (eC (.int 4)))) (e2 (kEq false) (eVar 8) (eL kTuple (aCons (eVar 5) (aNil)))))))))))
def f_law : List T → M T := popS (defM 1 13 m_law)
theorem bd_law {P : Program} {w : World} {K : PySem.W.Frag} {mg : Str → Option Value} {base : Heap} {f : Addr} (g_range : mg "range" = none) (g_tuple : mg "tuple" = none) (g_enumerate : mg "enumerate" = none) (d_l_deal : Def P w K mg base 1 "_law_deal" ["_law_script", "_law_base"] f_l_deal) (d_l_draw : Def P w K mg base 1 "_law_draw" ["_law_deal_here", "_law_many"] f_l_draw) (d_l_paces : Def P w K mg base 2 "_law_paces" ["_law_deal_here", "_law_many"] f_l_paces) (d_sorting : DefK P w K mg base 3 "sorting" ["paces", "sorts"] 1 ["sorts"] f_sorting) (d_staying : DefK P w K mg base 3 "staying" ["paces", "sorts"] 1 ["sorts"] f_staying) (d_keeping : DefK P w K mg base 3 "keeping" ["paces", "sorts"] 1 ["sorts"] f_keeping) (d_turning : DefK P w K mg base 2 "turning" ["paces", "steps", "sorts"] 2 ["sorts"] f_turning) (d_folding : DefK P w K mg base 3 "folding" ["paces", "sorts"] 1 ["sorts"] f_folding) (d_l_alike : Def P w K mg base 1 "_law_alike" ["_law_found", "_law_due_here"] f_l_alike) (d_l_due : Def P w K mg base 1 "_law_due" ["_law_paces_here", "_law_steps", "_law_size", "_law_form"] f_l_due) (d_look_book : Def P w K mg base 4 "look_book" ["book"] f_look_book) :
    DefBody P w K mg base 4 N_law "law" (defScope s_law) f (defBody s_law) m_law := by
  intro cdv A outer s H E hr
  have ND := sc_law.nd
  have tk : Takes (BX P w K mg base N_law "law" (defScope s_law) f cdv A outer s H E) (WB E) := takes_of rfl rfl rfl rfl
  have hp : PassesOwn (model P w) (BX P w K mg base N_law "law" (defScope s_law) f cdv A outer s H E).A (BX P w K mg base N_law "law" (defScope s_law) f cdv A outer s H E).env (BX P w K mg base N_law "law" (defScope s_law) f cdv A outer s H E).xe := passes_of rfl
  exact (jb_cons (js_set (i := 1) ND (j_def d_l_deal hr (by decide) tk (ja_cons (j_var 0) (ja_cons j_int ja_nil))))
    (jb_cons (js_par (i := 2) (j := 3) rfl ND (ja_cons (j_bin op_addAll (k_add (al := false)) j_int (j_def d_l_draw hr (by decide) tk (ja_cons (j_var 1) (ja_cons j_int ja_nil)))) (ja_cons (j_bin op_addAll (k_add (al := false)) j_int (j_def d_l_draw hr (by decide) tk (ja_cons (j_var 1) (ja_cons j_int ja_nil)))) ja_nil)))
    (jb_cons (js_par (i := 4) (j := 5) rfl ND (ja_cons (j_def d_l_paces hr (by decide) tk (ja_cons (j_var 1) (ja_cons (j_var 2) ja_nil))) (ja_cons (j_lst (al := true) ja_nil) ja_nil)))
    (jb_cons (js_for hp rfl (ji_range1 g_range (j_bin op_fdivW k_div (j_bin op_mulAll (k_mul (al := false)) (j_var 2) (j_bin op_sub k_sub (j_var 2) j_int)) j_int)) (jg_name (i := 6) ND) (jb_cons (js_set (i := 7) ND (j_ix ix_all k_ix (j_lst (al := false) (ja_cons (j_var 3) (ja_cons j_int ja_nil))) (j_def d_l_draw hr (by decide) tk (ja_cons (j_var 1) (ja_cons j_int ja_nil)))))
    (jb_one (js_expr (jm_append (j_var 5) (ja_cons (j_tup (ja_cons (j_bin op_sub k_sub (j_def d_l_draw hr (by decide) tk (ja_cons (j_var 1) (ja_cons (j_bin op_addAll (k_add (al := false)) (j_bin op_mulAll (k_mul (al := false)) j_int (j_var 7)) j_int) ja_nil))) (j_var 7)) (ja_cons (j_bin op_sub k_sub (j_def d_l_draw hr (by decide) tk (ja_cons (j_var 1) (ja_cons (j_bin op_addAll (k_add (al := false)) (j_bin op_mulAll (k_mul (al := false)) j_int (j_var 7)) j_int) ja_nil))) (j_var 7)) ja_nil))) ja_nil))))))
    (jb_cons (js_par (i := 8) (j := 9) rfl ND (ja_cons (jc_tuple g_tuple (ja_cons (j_var 5) ja_nil)) (ja_cons (j_lst (al := false) ja_nil) ja_nil)))
    (jb_cons (js_for hp rfl (ji_range1 g_range j_int) (jg_name (i := 10) ND) (jb_cons (js_set (i := 9) ND (j_lst (al := false) (ja_cons (j_defK d_keeping hr (by decide) tk (ja_cons (j_var 4) ja_nil) (jk_cons (j_var 3) jk_nil)) (ja_cons (j_defK d_staying hr (by decide) tk (ja_cons (j_var 4) ja_nil) (jk_cons (j_var 3) jk_nil)) (ja_cons (j_defK d_sorting hr (by decide) tk (ja_cons (j_var 4) ja_nil) (jk_cons (j_var 3) jk_nil)) ja_nil)))))
    (jb_cons (js_set (i := 9) ND (j_bin op_addAll (k_add (al := false)) (j_var 9) (j_lst (al := false) (ja_cons (j_defK d_folding hr (by decide) tk (ja_cons (j_var 4) ja_nil) (jk_cons (j_var 3) jk_nil)) (ja_cons (j_defK d_turning hr (by decide) tk (ja_cons (j_var 4) (ja_cons (j_var 8) ja_nil)) (jk_cons (j_var 3) jk_nil)) ja_nil)))))
    (jb_one (js_for hp rfl (ji_enumA g_enumerate (j_var 9)) (jg_tup rfl (jgs_cons (jg_name (i := 11) ND) (jgs_cons (jg_name (i := 12) ND) jgs_nil))) (jb_one (js_if ((jw_or (jt_not (jt_val (j_def d_l_alike hr (by decide) tk (ja_cons (j_var 12) (ja_cons (j_def d_l_due hr (by decide) tk (ja_cons (j_var 4) (ja_cons (j_var 5) (ja_cons (j_var 3) (ja_cons (j_var 11) ja_nil))))) ja_nil))))) (jw_or1 (jt_cmp op_notT k_isT (j_def d_look_book hr (by decide) tk (ja_cons (j_var 12) ja_nil)) j_bl)))).pt (jb_one (js_ret j_bl)) jb_nil)))))))
    (jb_one (js_ret (j_and (j_cmp (op_eqAll (units hr (j := 64) (by decide) (by decide))) k_eq (j_defK d_turning hr (by decide) tk (ja_cons (j_var 4) (ja_cons (j_var 8) ja_nil)) (jk_cons (j_var 3) jk_nil)) (j_ix ix_all k_ix (j_var 9) j_int)) (j_one (j_cmp (op_eqAll (units hr (j := 64) (by decide) (by decide))) k_eq (j_var 8) (jc_tuple g_tuple (ja_cons (j_var 5) ja_nil)))))))))))))
theorem ok_law {P : Program} {w : World} {K : PySem.W.Frag} {mg : Str → Option Value} {base : Heap} {f : Addr} {fd : FuncData} (F : Fun K "law" "law" s_law f fd) (g_range : mg "range" = none) (g_tuple : mg "tuple" = none) (g_enumerate : mg "enumerate" = none) (d_l_deal : Def P w K mg base 1 "_law_deal" ["_law_script", "_law_base"] f_l_deal) (d_l_draw : Def P w K mg base 1 "_law_draw" ["_law_deal_here", "_law_many"] f_l_draw) (d_l_paces : Def P w K mg base 2 "_law_paces" ["_law_deal_here", "_law_many"] f_l_paces) (d_sorting : DefK P w K mg base 3 "sorting" ["paces", "sorts"] 1 ["sorts"] f_sorting) (d_staying : DefK P w K mg base 3 "staying" ["paces", "sorts"] 1 ["sorts"] f_staying) (d_keeping : DefK P w K mg base 3 "keeping" ["paces", "sorts"] 1 ["sorts"] f_keeping) (d_turning : DefK P w K mg base 2 "turning" ["paces", "steps", "sorts"] 2 ["sorts"] f_turning) (d_folding : DefK P w K mg base 3 "folding" ["paces", "sorts"] 1 ["sorts"] f_folding) (d_l_alike : Def P w K mg base 1 "_law_alike" ["_law_found", "_law_due_here"] f_l_alike) (d_l_due : Def P w K mg base 1 "_law_due" ["_law_paces_here", "_law_steps", "_law_size", "_law_form"] f_l_due) (d_look_book : Def P w K mg base 4 "look_book" ["book"] f_look_book) :
    HX.FnG P w K mg base (L2.CX P w) 5 f fd ["_law_script"] (spM K mg 1 f_law) :=
  def_pop F sc_law rfl rfl (bd_law g_range g_tuple g_enumerate d_l_deal d_l_draw d_l_paces d_sorting d_staying d_keeping d_turning d_folding d_l_alike d_l_due d_look_book)
end
theorem holds : LawM f_law := Sh.k04_holds
theorem all_mk {l : PySem.W.OpenLaw} {w : World} {q : Program} {K : PySem.W.Frag} {h : Heap} {mg : Str → Option Value} {fa : Addr} (X : K.In h) (G : h.Ns mainGlobals mg) (hfa : mg "law" = some (.ref fa)) (OT : HX.OwnTabs q K mg h)
    (hlaw : LawM f_law) {f0 : Addr} {oc0 kV0 dc0 pm0 cd0 ct0 : Value} {od0 an0 : Option Addr} {sl0 : Array (Option Value)} {f1 : Addr} {oc1 kV1 dc1 pm1 cd1 ct1 : Value} {od1 an1 : Option Addr} {sl1 : Array (Option Value)} {f2 : Addr} {oc2 kV2 dc2 pm2 cd2 ct2 : Value} {od2 an2 : Option Addr} {sl2 : Array (Option Value)} {f3 : Addr} {oc3 kV3 dc3 pm3 cd3 ct3 : Value} {od3 an3 : Option Addr} {sl3 : Array (Option Value)} {f4 : Addr} {oc4 kV4 dc4 pm4 cd4 ct4 : Value} {od4 an4 : Option Addr} {sl4 : Array (Option Value)} {f5 : Addr} {oc5 kV5 dc5 pm5 cd5 ct5 : Value} {od5 an5 : Option Addr} {sl5 : Array (Option Value)} {f6 : Addr} {oc6 kV6 dc6 pm6 ct6 : Value} {od6 an6 : Option Addr} {sl6 : Array (Option Value)} {tc6 tp6 : Addr} {to6 : Value} {td6 : Option Addr} {tv6 : Array Value} {ts6 : Array (Option Value)} {f7 : Addr} {oc7 kV7 dc7 pm7 ct7 : Value} {od7 an7 : Option Addr} {sl7 : Array (Option Value)} {tc7 tp7 : Addr} {to7 : Value} {td7 : Option Addr} {tv7 : Array Value} {ts7 : Array (Option Value)} {f8 : Addr} {oc8 kV8 dc8 pm8 ct8 : Value} {od8 an8 : Option Addr} {sl8 : Array (Option Value)} {tc8 tp8 : Addr} {to8 : Value} {td8 : Option Addr} {tv8 : Array Value} {ts8 : Array (Option Value)} {f9 : Addr} {oc9 kV9 dc9 pm9 cd9 ct9 : Value} {od9 an9 : Option Addr} {sl9 : Array (Option Value)} {f10 : Addr} {oc10 kV10 dc10 pm10 ct10 : Value} {od10 an10 : Option Addr} {sl10 : Array (Option Value)} {tc10 tp10 : Addr} {to10 : Value} {td10 : Option Addr} {tv10 : Array Value} {ts10 : Array (Option Value)} {f11 : Addr} {oc11 kV11 dc11 pm11 cd11 ct11 : Value} {od11 an11 : Option Addr} {sl11 : Array (Option Value)} {f12 : Addr} {oc12 kV12 dc12 pm12 cd12 ct12 : Value} {od12 an12 : Option Addr} {sl12 : Array (Option Value)} {f13 : Addr} {oc13 kV13 dc13 pm13 cd13 ct13 : Value} {od13 an13 : Option Addr} {sl13 : Array (Option Value)} {f14 : Addr} {oc14 kV14 dc14 pm14 cd14 ct14 : Value} {od14 an14 : Option Addr} {sl14 : Array (Option Value)} {f15 : Addr} {oc15 kV15 dc15 pm15 cd15 ct15 : Value} {od15 an15 : Option Addr} {sl15 : Array (Option Value)} {f16 : Addr} {oc16 kV16 dc16 pm16 cd16 ct16 : Value} {od16 an16 : Option Addr} {sl16 : Array (Option Value)} {f17 : Addr} {oc17 kV17 dc17 pm17 cd17 ct17 : Value} {od17 an17 : Option Addr} {sl17 : Array (Option Value)} {f18 : Addr} {oc18 kV18 dc18 pm18 cd18 ct18 : Value} {od18 an18 : Option Addr} {sl18 : Array (Option Value)} {f19 : Addr} {oc19 kV19 dc19 pm19 cd19 ct19 : Value} {od19 an19 : Option Addr} {sl19 : Array (Option Value)} {zt13 : Tok} {zt15 : Tok} {zt17 : Tok} {v_NoBook : Addr} {v_RoadError : Addr} {nm_NoBook : _} {q_NoBook : _} {N_NoBook : _} {bs_NoBook : _} {bm_NoBook : _} {sn_NoBook : _} {sub_NoBook : _} {ab_NoBook : _} {col_NoBook : _} {dd_NoBook : _} {k0_NoBook : _} {k1_NoBook : _} {k2_NoBook : _} {k3_NoBook : _} {k5_NoBook : _} {u_NoBook : Addr} {oc_NoBook kV_NoBook dc_NoBook pm_NoBook cd_NoBook ct_NoBook : Value} {od_NoBook an_NoBook : Option Addr} {sl_NoBook : Array (Option Value)}
        (a0 : PySem.W.nsIn K mainGlobals "_law_deal" = some (some (.ref f0))) (l0 : K.lookup f0 = some ⟨oc0, od0, .func (PySem.W.fnOf "_law_deal" "_law_deal" (defArgs s_l_deal) (defBody s_l_deal) (defScope s_l_deal) .none kV0 dc0 pm0 an0 cd0 ct0), sl0⟩) (c0 : PySem.W.codeIn K cd0 "_law_deal" = true) (k0 : PySem.W.keepIn K (.ref f0) = true)
    (a1 : PySem.W.nsIn K mainGlobals "_law_draw" = some (some (.ref f1))) (l1 : K.lookup f1 = some ⟨oc1, od1, .func (PySem.W.fnOf "_law_draw" "_law_draw" (defArgs s_l_draw) (defBody s_l_draw) (defScope s_l_draw) .none kV1 dc1 pm1 an1 cd1 ct1), sl1⟩) (c1 : PySem.W.codeIn K cd1 "_law_draw" = true) (k1 : PySem.W.keepIn K (.ref f1) = true)
    (a2 : PySem.W.nsIn K mainGlobals "_law_paces" = some (some (.ref f2))) (l2 : K.lookup f2 = some ⟨oc2, od2, .func (PySem.W.fnOf "_law_paces" "_law_paces" (defArgs s_l_paces) (defBody s_l_paces) (defScope s_l_paces) .none kV2 dc2 pm2 an2 cd2 ct2), sl2⟩) (c2 : PySem.W.codeIn K cd2 "_law_paces" = true) (k2 : PySem.W.keepIn K (.ref f2) = true)
    (a3 : PySem.W.nsIn K mainGlobals "burdens_by_two" = some (some (.ref f3))) (l3 : K.lookup f3 = some ⟨oc3, od3, .func (PySem.W.fnOf "burdens_by_two" "burdens_by_two" (defArgs s_burdens_by_two) (defBody s_burdens_by_two) (defScope s_burdens_by_two) .none kV3 dc3 pm3 an3 cd3 ct3), sl3⟩) (c3 : PySem.W.codeIn K cd3 "burdens_by_two" = true) (k3 : PySem.W.keepIn K (.ref f3) = true)
    (a4 : PySem.W.nsIn K mainGlobals "kinds_by_two" = some (some (.ref f4))) (l4 : K.lookup f4 = some ⟨oc4, od4, .func (PySem.W.fnOf "kinds_by_two" "kinds_by_two" (defArgs s_kinds_by_two) (defBody s_kinds_by_two) (defScope s_kinds_by_two) .none kV4 dc4 pm4 an4 cd4 ct4), sl4⟩) (c4 : PySem.W.codeIn K cd4 "kinds_by_two" = true) (k4 : PySem.W.keepIn K (.ref f4) = true)
    (a5 : PySem.W.nsIn K mainGlobals "alike_tables" = some (some (.ref f5))) (l5 : K.lookup f5 = some ⟨oc5, od5, .func (PySem.W.fnOf "alike_tables" "alike_tables" (defArgs s_alike_tables) (defBody s_alike_tables) (defScope s_alike_tables) .none kV5 dc5 pm5 an5 cd5 ct5), sl5⟩) (c5 : PySem.W.codeIn K cd5 "alike_tables" = true) (k5 : PySem.W.keepIn K (.ref f5) = true)
    (a6 : PySem.W.nsIn K mainGlobals "keeping" = some (some (.ref f6))) (l6 : K.lookup f6 = some ⟨oc6, od6, .func (PySem.W.fnOf "keeping" "keeping" (defArgs s_keeping) (defBody s_keeping) (defScope s_keeping) .none kV6 dc6 pm6 an6 (.ref tc6) ct6), sl6⟩) (c6 : PySem.W.codeIn K (.ref tc6) "keeping" = true) (k6 : PySem.W.keepIn K (.ref f6) = true)
    (tl6 : K.lookup tc6 = some ⟨to6, td6, .fields tv6, ts6⟩) (te6 : tv6[11]? = some (.ref tp6)) (th6 : PySem.W.codeHdIn K tc6 tp6 = true) (tn6 : K.lookup tp6 = none) (tr6 : ((recsOf q).any fun e => e.name == "keeping") = true)
    (a7 : PySem.W.nsIn K mainGlobals "staying" = some (some (.ref f7))) (l7 : K.lookup f7 = some ⟨oc7, od7, .func (PySem.W.fnOf "staying" "staying" (defArgs s_staying) (defBody s_staying) (defScope s_staying) .none kV7 dc7 pm7 an7 (.ref tc7) ct7), sl7⟩) (c7 : PySem.W.codeIn K (.ref tc7) "staying" = true) (k7 : PySem.W.keepIn K (.ref f7) = true)
    (tl7 : K.lookup tc7 = some ⟨to7, td7, .fields tv7, ts7⟩) (te7 : tv7[11]? = some (.ref tp7)) (th7 : PySem.W.codeHdIn K tc7 tp7 = true) (tn7 : K.lookup tp7 = none) (tr7 : ((recsOf q).any fun e => e.name == "staying") = true)
    (a8 : PySem.W.nsIn K mainGlobals "sorting" = some (some (.ref f8))) (l8 : K.lookup f8 = some ⟨oc8, od8, .func (PySem.W.fnOf "sorting" "sorting" (defArgs s_sorting) (defBody s_sorting) (defScope s_sorting) .none kV8 dc8 pm8 an8 (.ref tc8) ct8), sl8⟩) (c8 : PySem.W.codeIn K (.ref tc8) "sorting" = true) (k8 : PySem.W.keepIn K (.ref f8) = true)
    (tl8 : K.lookup tc8 = some ⟨to8, td8, .fields tv8, ts8⟩) (te8 : tv8[11]? = some (.ref tp8)) (th8 : PySem.W.codeHdIn K tc8 tp8 = true) (tn8 : K.lookup tp8 = none) (tr8 : ((recsOf q).any fun e => e.name == "sorting") = true)
    (a9 : PySem.W.nsIn K mainGlobals "turning" = some (some (.ref f9))) (l9 : K.lookup f9 = some ⟨oc9, od9, .func (PySem.W.fnOf "turning" "turning" (defArgs s_turning) (defBody s_turning) (defScope s_turning) .none kV9 dc9 pm9 an9 cd9 ct9), sl9⟩) (c9 : PySem.W.codeIn K cd9 "turning" = true) (k9 : PySem.W.keepIn K (.ref f9) = true)
    (a10 : PySem.W.nsIn K mainGlobals "folding" = some (some (.ref f10))) (l10 : K.lookup f10 = some ⟨oc10, od10, .func (PySem.W.fnOf "folding" "folding" (defArgs s_folding) (defBody s_folding) (defScope s_folding) .none kV10 dc10 pm10 an10 (.ref tc10) ct10), sl10⟩) (c10 : PySem.W.codeIn K (.ref tc10) "folding" = true) (k10 : PySem.W.keepIn K (.ref f10) = true)
    (tl10 : K.lookup tc10 = some ⟨to10, td10, .fields tv10, ts10⟩) (te10 : tv10[11]? = some (.ref tp10)) (th10 : PySem.W.codeHdIn K tc10 tp10 = true) (tn10 : K.lookup tp10 = none) (tr10 : ((recsOf q).any fun e => e.name == "folding") = true)
    (a11 : PySem.W.nsIn K mainGlobals "_law_alike" = some (some (.ref f11))) (l11 : K.lookup f11 = some ⟨oc11, od11, .func (PySem.W.fnOf "_law_alike" "_law_alike" (defArgs s_l_alike) (defBody s_l_alike) (defScope s_l_alike) .none kV11 dc11 pm11 an11 cd11 ct11), sl11⟩) (c11 : PySem.W.codeIn K cd11 "_law_alike" = true) (k11 : PySem.W.keepIn K (.ref f11) = true)
    (a12 : PySem.W.nsIn K mainGlobals "is_whole" = some (some (.ref f12))) (l12 : K.lookup f12 = some ⟨oc12, od12, .func (PySem.W.fnOf "is_whole" "is_whole" (defArgs s_is_whole) (defBody s_is_whole) (defScope s_is_whole) .none kV12 dc12 pm12 an12 cd12 ct12), sl12⟩) (c12 : PySem.W.codeIn K cd12 "is_whole" = true) (k12 : PySem.W.keepIn K (.ref f12) = true)
    (a13 : PySem.W.nsIn K mainGlobals "look_paces" = some (some (.ref f13))) (l13 : K.lookup f13 = some ⟨oc13, od13, .func (PySem.W.fnOf "look_paces" "look_paces" (defArgs s_look_paces) (defBody s_look_paces) (defScope s_look_paces) .none kV13 dc13 pm13 an13 cd13 ct13), sl13⟩) (c13 : PySem.W.codeIn K cd13 "look_paces" = true) (k13 : PySem.W.keepIn K (.ref f13) = true)
    (a14 : PySem.W.nsIn K mainGlobals "is_tuple_of" = some (some (.ref f14))) (l14 : K.lookup f14 = some ⟨oc14, od14, .func (PySem.W.fnOf "is_tuple_of" "is_tuple_of" (defArgs s_is_tuple_of) (defBody s_is_tuple_of) (defScope s_is_tuple_of) .none kV14 dc14 pm14 an14 cd14 ct14), sl14⟩) (c14 : PySem.W.codeIn K cd14 "is_tuple_of" = true) (k14 : PySem.W.keepIn K (.ref f14) = true)
    (a15 : PySem.W.nsIn K mainGlobals "is_below" = some (some (.ref f15))) (l15 : K.lookup f15 = some ⟨oc15, od15, .func (PySem.W.fnOf "is_below" "is_below" (defArgs s_is_below) (defBody s_is_below) (defScope s_is_below) .none kV15 dc15 pm15 an15 cd15 ct15), sl15⟩) (c15 : PySem.W.codeIn K cd15 "is_below" = true) (k15 : PySem.W.keepIn K (.ref f15) = true)
    (a16 : PySem.W.nsIn K mainGlobals "look_table" = some (some (.ref f16))) (l16 : K.lookup f16 = some ⟨oc16, od16, .func (PySem.W.fnOf "look_table" "look_table" (defArgs s_look_table) (defBody s_look_table) (defScope s_look_table) .none kV16 dc16 pm16 an16 cd16 ct16), sl16⟩) (c16 : PySem.W.codeIn K cd16 "look_table" = true) (k16 : PySem.W.keepIn K (.ref f16) = true)
    (a17 : PySem.W.nsIn K mainGlobals "look_book" = some (some (.ref f17))) (l17 : K.lookup f17 = some ⟨oc17, od17, .func (PySem.W.fnOf "look_book" "look_book" (defArgs s_look_book) (defBody s_look_book) (defScope s_look_book) .none kV17 dc17 pm17 an17 cd17 ct17), sl17⟩) (c17 : PySem.W.codeIn K cd17 "look_book" = true) (k17 : PySem.W.keepIn K (.ref f17) = true)
    (a18 : PySem.W.nsIn K mainGlobals "_law_due" = some (some (.ref f18))) (l18 : K.lookup f18 = some ⟨oc18, od18, .func (PySem.W.fnOf "_law_due" "_law_due" (defArgs s_l_due) (defBody s_l_due) (defScope s_l_due) .none kV18 dc18 pm18 an18 cd18 ct18), sl18⟩) (c18 : PySem.W.codeIn K cd18 "_law_due" = true) (k18 : PySem.W.keepIn K (.ref f18) = true)
    (a19 : PySem.W.nsIn K mainGlobals "law" = some (some (.ref f19))) (l19 : K.lookup f19 = some ⟨oc19, od19, .func (PySem.W.fnOf "law" "law" (defArgs s_law) (defBody s_law) (defScope s_law) .none kV19 dc19 pm19 an19 cd19 ct19), sl19⟩) (c19 : PySem.W.codeIn K cd19 "law" = true) (k19 : PySem.W.keepIn K (.ref f19) = true)
    (z0 : PySem.W.nsIn K mainGlobals "max" = some none)
    (z1 : PySem.W.nsIn K mainGlobals "min" = some none)
    (z2 : PySem.W.nsIn K mainGlobals "list" = some none)
    (z3 : PySem.W.nsIn K mainGlobals "reversed" = some none)
    (z4 : PySem.W.nsIn K mainGlobals "len" = some none)
    (z5 : PySem.W.nsIn K mainGlobals "range" = some none)
    (z6 : PySem.W.nsIn K mainGlobals "sum" = some none)
    (z7 : PySem.W.nsIn K mainGlobals "tuple" = some none)
    (z8 : PySem.W.nsIn K mainGlobals "isinstance" = some none)
    (z9 : PySem.W.nsIn K mainGlobals "bool" = some none)
    (z10 : PySem.W.nsIn K mainGlobals "str" = some none)
    (z11 : PySem.W.nsIn K mainGlobals "int" = some none)
    (z12 : PySem.W.nsIn K mainGlobals "zip" = some none)
    (z13 : PySem.W.nsIn K mainGlobals "MOST_KINDS" = some (some (.int 5 zt13)))
    (z14 : PySem.W.nsIn K mainGlobals "enumerate" = some none)
    (z15 : PySem.W.nsIn K mainGlobals "MOST_PACE" = some (some (.int 1000 zt15)))
    (z16 : PySem.W.nsIn K mainGlobals "all" = some none)
    (z17 : PySem.W.nsIn K mainGlobals "MOST_SORTS" = some (some (.int 6 zt17)))
    (td7_6 : tp6 ≠ tp7)
    (td8_6 : tp6 ≠ tp8)
    (td8_7 : tp7 ≠ tp8)
    (td10_6 : tp6 ≠ tp10)
    (td10_7 : tp7 ≠ tp10)
    (td10_8 : tp8 ≠ tp10)
    (n_NoBook : PySem.W.nsIn K mainGlobals "NoBook" = some (some (.ref v_NoBook)))
    (hd_NoBook : PySem.W.hasDictIn K v_NoBook = true)
    (ty_NoBook : PySem.W.typeIn K (.ref v_NoBook) = some (.type "type"))
    (sb_NoBook : PySem.W.subIn K (.ref v_NoBook) (.type "BaseException") = some true)
    (n_RoadError : PySem.W.nsIn K mainGlobals "RoadError" = some (some (.ref v_RoadError)))
    (hd_RoadError : PySem.W.hasDictIn K v_RoadError = true)
    (ty_RoadError : PySem.W.typeIn K (.ref v_RoadError) = some (.type "type"))
    (sb_RoadError : PySem.W.subIn K (.ref v_RoadError) (.type "BaseException") = some true)
    (sp_RoadError : PySem.W.specialIn K (.ref v_RoadError) "__getattribute__" = some (some (.builtin "type.__getattribute__")))
    (rd_RoadError : PySem.W.readsIn K v_RoadError (.type "type") = true)
    (fc_RoadError : PySem.W.findCls K (.ref v_RoadError) (.type "type") "__init__" = some (.val (.builtin "ValueError.__init__")))
    (lk_NoBook : K.lookup v_NoBook = some (excClassObj nm_NoBook q_NoBook v_NoBook N_NoBook bs_NoBook bm_NoBook true sn_NoBook sub_NoBook ab_NoBook col_NoBook dd_NoBook k0_NoBook k1_NoBook k2_NoBook k3_NoBook k5_NoBook "ValueError.__new__"))
    (bm2_NoBook : PySem.HandSPX.refsVE bm_NoBook = true)
    (sa_NoBook : PySem.W.findIn K (.ref v_NoBook) "__setattr__" = some (some (.builtin "object.__setattr__")))
    (kp_NoBook : PySem.W.keepIn K (.ref v_NoBook) = true)
    (ini_NoBook : PySem.W.findIn K (.ref v_NoBook) "__init__" = some (some (.ref u_NoBook)))
    (tu_NoBook : PySem.W.typeIn K (.ref u_NoBook) = some (.type "function"))
    (lu_NoBook : K.lookup u_NoBook = some ⟨oc_NoBook, od_NoBook, .func (PySem.W.fnOf "__init__" "NoBook.__init__" (defArgs s_i_NoBook) (defBody s_i_NoBook) (defScope s_i_NoBook) .none kV_NoBook dc_NoBook pm_NoBook an_NoBook cd_NoBook ct_NoBook), sl_NoBook⟩)
    (cu_NoBook : PySem.W.codeIn K cd_NoBook "NoBook.__init__" = true)
    (ku_NoBook : PySem.W.keepIn K (.ref u_NoBook) = true)
    (fl_NoBook_word : PySem.W.findIn K (.ref v_NoBook) "word" = some none)
    (fl_NoBook_at : PySem.W.findIn K (.ref v_NoBook) "at" = some none)
    (ga_NoBook : PySem.W.findIn K (.ref v_NoBook) "__getattribute__" = some (some (.builtin "BaseException.__getattribute__")))
    (gt_NoBook : PySem.W.findIn K (.ref v_NoBook) "__getattr__" = some none)
    (cl_NoBook : PySem.W.findIn K (.ref v_NoBook) "__class__" = some (some (.builtin "object.__class__")))
    (mr_NoBook : PySem.W.mroIn K v_NoBook (.type "object") = some true) :
    HX.LawTG l.prog w K (L2.CX l.prog w) 5 63 "_law_script" mg fa h := by
  have e := hfa.symm.trans (PySem.W.mg_of X G a19)
  cases e
  obtain ⟨TT, hT1, hT2, hown⟩ : ∃ TT : Tabl, TT.T = [(tp6, nm_keeping), (tp7, nm_staying), (tp8, nm_sorting), (tp10, nm_folding)] ∧ TT.lf = lfs ∧ TT.own = false := ⟨⟨[(tp6, nm_keeping), (tp7, nm_staying), (tp8, nm_sorting), (tp10, nm_folding)], by
    intro p hp r hr e
    simp only [List.mem_cons, List.not_mem_nil, or_false] at hp hr
    rcases hp with rfl | rfl | rfl | rfl <;> rcases hr with rfl | rfl | rfl | rfl <;> first | exact absurd e td7_6 | exact absurd e.symm td7_6 | exact absurd e td8_6 | exact absurd e.symm td8_6 | exact absurd e td8_7 | exact absurd e.symm td8_7 | exact absurd e td10_6 | exact absurd e.symm td10_6 | exact absurd e td10_7 | exact absurd e.symm td10_7 | exact absurd e td10_8 | exact absurd e.symm td10_8 | rfl, lfs, false⟩, rfl, rfl, rfl⟩
  refine ⟨⟨PySem.W.fnOf "law" "law" (defArgs s_law) (defBody s_law) (defScope s_law) .none kV19 dc19 pm19 an19 cd19 ct19, [(tc6, tp6), (tc7, tp7), (tc8, tp8), (tc10, tp10)], @lawSpT TT K, fun p hp => ?_, fun p hp => ?_, fun p hp => ?_, fun s v => .of_eq rfl, fun H a ns hl hH hS => ⟨a, ns, rfl, hS, fun p hp => ?_, hl, fun _ => rfl⟩, fun base _ _ TB => ?_⟩⟩
  · simp only [List.mem_cons, List.not_mem_nil, or_false] at hp
    rcases hp with rfl | rfl | rfl | rfl
    · exact HX.own_tab OT tr6 (PySem.W.mg_of X G a6) l6 th6
    · exact HX.own_tab OT tr7 (PySem.W.mg_of X G a7) l7 th7
    · exact HX.own_tab OT tr8 (PySem.W.mg_of X G a8) l8 th8
    · exact HX.own_tab OT tr10 (PySem.W.mg_of X G a10) l10 th10
  · simp only [List.mem_cons, List.not_mem_nil, or_false] at hp
    rcases hp with rfl | rfl | rfl | rfl
    · exact tn6
    · exact tn7
    · exact tn8
    · exact tn10
  · simp only [List.mem_cons, List.not_mem_nil, or_false] at hp
    rcases hp with rfl | rfl | rfl | rfl
    · exact PySem.W.codeHd_of_K X th6
    · exact PySem.W.codeHd_of_K X th7
    · exact PySem.W.codeHd_of_K X th8
    · exact PySem.W.codeHd_of_K X th10
  · have hp : p ∈ ([(tp6, nm_keeping), (tp7, nm_staying), (tp8, nm_sorting), (tp10, nm_folding)] : List NdefX.NTab) := hT1 ▸ hp
    simp only [List.mem_cons, List.not_mem_nil, or_false] at hp
    rcases hp with rfl | rfl | rfl | rfl
    · exact hH (tc6, tp6) (by simp)
    · exact hH (tc7, tp7) (by simp)
    · exact hH (tc8, tp8) (by simp)
    · exact hH (tc10, tp10) (by simp)
  have m_NoBook : mg "NoBook" = some (.ref v_NoBook) := PySem.W.mg_of X G n_NoBook
  have m_RoadError : mg "RoadError" = some (.ref v_RoadError) := PySem.W.mg_of X G n_RoadError
  have T_RoadError : HX.RootC K v_RoadError := ⟨sp_RoadError, rd_RoadError, fc_RoadError⟩
  have FI_NoBook := fun_mk (st := s_i_NoBook) lu_NoBook cu_NoBook ku_NoBook
  have BI_NoBook : Binds K _ ["self", "word", "at"] [] := FI_NoBook.binds (ps := ["self", "word", "at"]) fun _ _ _ _ _ _ us hl => match us, hl with | [_, _, _], _ => rfl
  have r_NoBook : RaiseD l.prog w K mg base "NoBook" ["word", "at"] := ⟨v_NoBook, u_NoBook, _, ["self", "word", "at"], m_NoBook, ⟨⟨_, _, _, _, _, _, _, _, _, _, _, _, _, _, _, lk_NoBook, bm2_NoBook⟩, sa_NoBook, sb_NoBook, ty_NoBook, kp_NoBook⟩, ini_NoBook, tu_NoBook, BI_NoBook, .inr ⟨_, _, rfl, by decide, fl_NoBook_word, fl_NoBook_at, HX.init2_ok FI_NoBook sc_i_NoBook rfl rfl (bi_NoBook m_RoadError T_RoadError)⟩⟩
  have g_max : mg "max" = none := PySem.W.mg_none_of X G z0
  have g_min : mg "min" = none := PySem.W.mg_none_of X G z1
  have g_list : mg "list" = none := PySem.W.mg_none_of X G z2
  have g_reversed : mg "reversed" = none := PySem.W.mg_none_of X G z3
  have g_len : mg "len" = none := PySem.W.mg_none_of X G z4
  have g_range : mg "range" = none := PySem.W.mg_none_of X G z5
  have g_sum : mg "sum" = none := PySem.W.mg_none_of X G z6
  have g_tuple : mg "tuple" = none := PySem.W.mg_none_of X G z7
  have g_isinstance : mg "isinstance" = none := PySem.W.mg_none_of X G z8
  have g_bool : mg "bool" = none := PySem.W.mg_none_of X G z9
  have g_str : mg "str" = none := PySem.W.mg_none_of X G z10
  have g_int : mg "int" = none := PySem.W.mg_none_of X G z11
  have g_zip : mg "zip" = none := PySem.W.mg_none_of X G z12
  have g_MOST_KINDS : ∃ t, mg "MOST_KINDS" = some (.int 5 t) := ⟨_, PySem.W.mg_of X G z13⟩
  have g_enumerate : mg "enumerate" = none := PySem.W.mg_none_of X G z14
  have g_MOST_PACE : ∃ t, mg "MOST_PACE" = some (.int 1000 t) := ⟨_, PySem.W.mg_of X G z15⟩
  have g_all : mg "all" = none := PySem.W.mg_none_of X G z16
  have g_MOST_SORTS : ∃ t, mg "MOST_SORTS" = some (.int 6 t) := ⟨_, PySem.W.mg_of X G z17⟩
  have hlf : Tabl.lf = lfs := hT2
  have hL : LamsOkC l.prog w K mg base 1 lamL := lams_ok g_max g_min hlf
  have F0 := fun_mk (st := s_l_deal) l0 c0 k0
  have b0 : Binds K _ ["_law_script", "_law_base"] [] := F0.binds (ps := ["_law_script", "_law_base"]) fun _ _ _ _ _ _ us hl => match us, hl with | [_, _], _ => rfl
  have d_l_deal : Def l.prog w K mg base 1 "_law_deal" ["_law_script", "_law_base"] f_l_deal := ⟨f0, _, ok_l_deal F0 g_max g_list g_reversed, PySem.W.mg_of X G a0, k0, b0⟩
  have F1 := fun_mk (st := s_l_draw) l1 c1 k1
  have b1 : Binds K _ ["_law_deal_here", "_law_many"] [] := F1.binds (ps := ["_law_deal_here", "_law_many"]) fun _ _ _ _ _ _ us hl => match us, hl with | [_, _], _ => rfl
  have d_l_draw : Def l.prog w K mg base 1 "_law_draw" ["_law_deal_here", "_law_many"] f_l_draw := ⟨f1, _, ok_l_draw F1 g_len, PySem.W.mg_of X G a1, k1, b1⟩
  have F2 := fun_mk (st := s_l_paces) l2 c2 k2
  have b2 : Binds K _ ["_law_deal_here", "_law_many"] [] := F2.binds (ps := ["_law_deal_here", "_law_many"]) fun _ _ _ _ _ _ us hl => match us, hl with | [_, _], _ => rfl
  have d_l_paces : Def l.prog w K mg base 2 "_law_paces" ["_law_deal_here", "_law_many"] f_l_paces := ⟨f2, _, ok_l_paces F2 g_max g_range g_sum g_tuple d_l_draw, PySem.W.mg_of X G a2, k2, b2⟩
  have F3 := fun_mk (st := s_burdens_by_two) l3 c3 k3
  have b3 : Binds K _ ["sorts"] [] := F3.binds (ps := ["sorts"]) fun _ _ _ _ _ _ us hl => match us, hl with | [_], _ => rfl
  have d_burdens_by_two : Def l.prog w K mg base 1 "burdens_by_two" ["sorts"] f_burdens_by_two := ⟨f3, _, ok_burdens_by_two F3 g_range, PySem.W.mg_of X G a3, k3, b3⟩
  have F4 := fun_mk (st := s_kinds_by_two) l4 c4 k4
  have b4 : Binds K _ ["paces"] [] := F4.binds (ps := ["paces"]) fun _ _ _ _ _ _ us hl => match us, hl with | [_], _ => rfl
  have d_kinds_by_two : Def l.prog w K mg base 1 "kinds_by_two" ["paces"] f_kinds_by_two := ⟨f4, _, ok_kinds_by_two F4 g_range g_len, PySem.W.mg_of X G a4, k4, b4⟩
  have F5 := fun_mk (st := s_alike_tables) l5 c5 k5
  have b5 : Binds K _ ["paces", "sorts", "becomes"] [] := F5.binds (ps := ["paces", "sorts", "becomes"]) fun _ _ _ _ _ _ us hl => match us, hl with | [_, _, _], _ => rfl
  have d_alike_tables : Def l.prog w K mg base 2 "alike_tables" ["paces", "sorts", "becomes"] f_alike_tables := ⟨f5, _, ok_alike_tables F5 g_tuple g_len d_burdens_by_two d_kinds_by_two hL, PySem.W.mg_of X G a5, k5, b5⟩
  have d_alike_tablesA : ∀ (base2 : Heap) (LAM : Nat → List T → M T), LamsOkC l.prog w K mg base2 1 LAM → Def l.prog w K mg base2 2 "alike_tables" ["paces", "sorts", "becomes"] (f_alike_tablesL LAM) := fun base2 LAM hL => by have d_burdens_by_two : Def l.prog w K mg base2 1 "burdens_by_two" ["sorts"] f_burdens_by_two := ⟨f3, _, ok_burdens_by_two F3 g_range, PySem.W.mg_of X G a3, k3, b3⟩; have d_kinds_by_two : Def l.prog w K mg base2 1 "kinds_by_two" ["paces"] f_kinds_by_two := ⟨f4, _, ok_kinds_by_two F4 g_range g_len, PySem.W.mg_of X G a4, k4, b4⟩; exact ⟨f5, _, ok_alike_tables F5 g_tuple g_len d_burdens_by_two d_kinds_by_two hL, PySem.W.mg_of X G a5, k5, b5⟩
  have F6 := fun_mk (st := s_keeping) l6 c6 k6
  have tb6 : LamX.TabB base mg tc6 tp6 := TB (tc6, tp6) (by simp)
  have hm6 : (tp6, nm_keeping) ∈ Tabl.T := by rw [hT1]; simp
  have b6 := fun_kb (ps := ["paces", "sorts"]) (ks := ["sorts"]) (n := 1) F6 fun _ _ _ _ _ _ us ws h1 h2 => match us, ws, h1, h2 with | [_], [_], _, _ => rfl
  have d_keeping : DefK l.prog w K mg base 3 "keeping" ["paces", "sorts"] 1 ["sorts"] f_keeping := ⟨f6, _, ok_keeping l6 c6 d_alike_tables tb6 hm6 hlf, PySem.W.mg_of X G a6, k6, b6⟩
  have F7 := fun_mk (st := s_staying) l7 c7 k7
  have tb7 : LamX.TabB base mg tc7 tp7 := TB (tc7, tp7) (by simp)
  have hm7 : (tp7, nm_staying) ∈ Tabl.T := by rw [hT1]; simp
  have b7 := fun_kb (ps := ["paces", "sorts"]) (ks := ["sorts"]) (n := 1) F7 fun _ _ _ _ _ _ us ws h1 h2 => match us, ws, h1, h2 with | [_], [_], _, _ => rfl
  have d_staying : DefK l.prog w K mg base 3 "staying" ["paces", "sorts"] 1 ["sorts"] f_staying := ⟨f7, _, ok_staying l7 c7 d_alike_tables tb7 hm7 hlf, PySem.W.mg_of X G a7, k7, b7⟩
  have F8 := fun_mk (st := s_sorting) l8 c8 k8
  have tb8 : LamX.TabB base mg tc8 tp8 := TB (tc8, tp8) (by simp)
  have hm8 : (tp8, nm_sorting) ∈ Tabl.T := by rw [hT1]; simp
  have b8 := fun_kb (ps := ["paces", "sorts"]) (ks := ["sorts"]) (n := 1) F8 fun _ _ _ _ _ _ us ws h1 h2 => match us, ws, h1, h2 with | [_], [_], _, _ => rfl
  have d_sorting : DefK l.prog w K mg base 3 "sorting" ["paces", "sorts"] 1 ["sorts"] f_sorting := ⟨f8, _, ok_sorting l8 c8 d_alike_tables tb8 hm8 hlf, PySem.W.mg_of X G a8, k8, b8⟩
  have F9 := fun_mk (st := s_turning) l9 c9 k9
  have b9 := fun_kb (ps := ["paces", "steps", "sorts"]) (ks := ["sorts"]) (n := 2) F9 fun _ _ _ _ _ _ us ws h1 h2 => match us, ws, h1, h2 with | [_, _], [_], _, _ => rfl
  have d_turning : DefK l.prog w K mg base 2 "turning" ["paces", "steps", "sorts"] 2 ["sorts"] f_turning := ⟨f9, _, ok_turning F9 g_tuple d_burdens_by_two, PySem.W.mg_of X G a9, k9, b9⟩
  have F10 := fun_mk (st := s_folding) l10 c10 k10
  have tb10 : LamX.TabB base mg tc10 tp10 := TB (tc10, tp10) (by simp)
  have hm10 : (tp10, nm_folding) ∈ Tabl.T := by rw [hT1]; simp
  have b10 := fun_kb (ps := ["paces", "sorts"]) (ks := ["sorts"]) (n := 1) F10 fun _ _ _ _ _ _ us ws h1 h2 => match us, ws, h1, h2 with | [_], [_], _, _ => rfl
  have d_folding : DefK l.prog w K mg base 3 "folding" ["paces", "sorts"] 1 ["sorts"] f_folding := ⟨f10, _, ok_folding l10 c10 d_alike_tables d_alike_tablesA g_max g_min tb10 hm10 hlf, PySem.W.mg_of X G a10, k10, b10⟩
  have F11 := fun_mk (st := s_l_alike) l11 c11 k11
  have b11 : Binds K _ ["_law_found", "_law_due_here"] [] := F11.binds (ps := ["_law_found", "_law_due_here"]) fun _ _ _ _ _ _ us hl => match us, hl with | [_, _], _ => rfl
  have d_l_alike : Def l.prog w K mg base 1 "_law_alike" ["_law_found", "_law_due_here"] f_l_alike := ⟨f11, _, ok_l_alike F11 g_len g_isinstance g_bool g_tuple g_list g_str g_int g_zip, PySem.W.mg_of X G a11, k11, b11⟩
  have F12 := fun_mk (st := s_is_whole) l12 c12 k12
  have b12 : Binds K _ ["thing"] [] := F12.binds (ps := ["thing"]) fun _ _ _ _ _ _ us hl => match us, hl with | [_], _ => rfl
  have d_is_whole : Def l.prog w K mg base 1 "is_whole" ["thing"] f_is_whole := ⟨f12, _, ok_is_whole F12 g_isinstance g_int g_bool, PySem.W.mg_of X G a12, k12, b12⟩
  have F13 := fun_mk (st := s_look_paces) l13 c13 k13
  have b13 : Binds K _ ["paces"] [] := F13.binds (ps := ["paces"]) fun _ _ _ _ _ _ us hl => match us, hl with | [_], _ => rfl
  have d_look_paces : Def l.prog w K mg base 3 "look_paces" ["paces"] f_look_paces := ⟨f13, _, ok_look_paces F13 g_isinstance g_tuple g_len g_MOST_KINDS g_enumerate g_MOST_PACE d_is_whole r_NoBook, PySem.W.mg_of X G a13, k13, b13⟩
  have F14 := fun_mk (st := s_is_tuple_of) l14 c14 k14
  have b14 : Binds K _ ["thing", "many"] [] := F14.binds (ps := ["thing", "many"]) fun _ _ _ _ _ _ us hl => match us, hl with | [_, _], _ => rfl
  have d_is_tuple_of : Def l.prog w K mg base 1 "is_tuple_of" ["thing", "many"] f_is_tuple_of := ⟨f14, _, ok_is_tuple_of F14 g_isinstance g_tuple g_len, PySem.W.mg_of X G a14, k14, b14⟩
  have F15 := fun_mk (st := s_is_below) l15 c15 k15
  have b15 : Binds K _ ["thing", "many"] [] := F15.binds (ps := ["thing", "many"]) fun _ _ _ _ _ _ us hl => match us, hl with | [_, _], _ => rfl
  have d_is_below : Def l.prog w K mg base 2 "is_below" ["thing", "many"] f_is_below := ⟨f15, _, ok_is_below F15 d_is_whole, PySem.W.mg_of X G a15, k15, b15⟩
  have F16 := fun_mk (st := s_look_table) l16 c16 k16
  have b16 : Binds K _ ["k", "table", "sorts"] [] := F16.binds (ps := ["k", "table", "sorts"]) fun _ _ _ _ _ _ us hl => match us, hl with | [_, _, _], _ => rfl
  have d_look_table : Def l.prog w K mg base 3 "look_table" ["k", "table", "sorts"] f_look_table := ⟨f16, _, ok_look_table F16 g_enumerate g_all d_is_tuple_of d_is_below r_NoBook, PySem.W.mg_of X G a16, k16, b16⟩
  have F17 := fun_mk (st := s_look_book) l17 c17 k17
  have b17 : Binds K _ ["book"] [] := F17.binds (ps := ["book"]) fun _ _ _ _ _ _ us hl => match us, hl with | [_], _ => rfl
  have d_look_book : Def l.prog w K mg base 4 "look_book" ["book"] f_look_book := ⟨f17, _, ok_look_book F17 g_MOST_SORTS g_len g_enumerate d_is_tuple_of d_look_paces d_is_whole d_look_table r_NoBook, PySem.W.mg_of X G a17, k17, b17⟩
  have F18 := fun_mk (st := s_l_due) l18 c18 k18
  have b18 : Binds K _ ["_law_paces_here", "_law_steps", "_law_size", "_law_form"] [] := F18.binds (ps := ["_law_paces_here", "_law_steps", "_law_size", "_law_form"]) fun _ _ _ _ _ _ us hl => match us, hl with | [_, _, _, _], _ => rfl
  have d_l_due : Def l.prog w K mg base 1 "_law_due" ["_law_paces_here", "_law_steps", "_law_size", "_law_form"] f_l_due := ⟨f18, _, ok_l_due F18 g_range g_tuple, PySem.W.mg_of X G a18, k18, b18⟩
  have F19 := fun_mk (st := s_law) l19 c19 k19
  exact law_spT (ok_law F19 g_range g_tuple g_enumerate d_l_deal d_l_draw d_l_paces d_sorting d_staying d_keeping d_turning d_folding d_l_alike d_l_due d_look_book) hlaw
end
end Lk04
open PySem PySem.W PyProof.Rows
set_option maxHeartbeats 0 in
theorem PySem.Challenge.cw_wherefrom_k04_books_made_holds : PySem.Challenge.rw_wherefrom_k04_books_made.Holds := by
  w_on; o_law; k_head; (case hw => w_witness2)
  k_fill
  refine HX.walk_ofTG (l := PySem.Challenge.rw_wherefrom_k04_books_made) (n := 63) (k := 5) (x := "_law_script") (CX := fun w => L2.CX (PySem.Challenge.rw_wherefrom_k04_books_made).prog w) rfl (by decide) rfl ⟨⟨rfl, by decide, by decide⟩, rfl⟩ (fun w h Y => by first | exact PySem.W.kIn_of Y | exact PySem.W.km_in_of Y) ?F (fun w H s e s2 h => Mir.noCX h) 
  case F =>
    intro w mg fa h KX G hmg OT
    refine' Lk04.all_mk KX G hmg OT Lk04.holds ?a0 ?l0 ?c0 ?k0 ?a1 ?l1 ?c1 ?k1 ?a2 ?l2 ?c2 ?k2 ?a3 ?l3 ?c3 ?k3 ?a4 ?l4 ?c4 ?k4 ?a5 ?l5 ?c5 ?k5 ?a6 ?l6 ?c6 ?k6 ?tl6 ?te6 ?th6 ?tn6 ?tr6 ?a7 ?l7 ?c7 ?k7 ?tl7 ?te7 ?th7 ?tn7 ?tr7 ?a8 ?l8 ?c8 ?k8 ?tl8 ?te8 ?th8 ?tn8 ?tr8 ?a9 ?l9 ?c9 ?k9 ?a10 ?l10 ?c10 ?k10 ?tl10 ?te10 ?th10 ?tn10 ?tr10 ?a11 ?l11 ?c11 ?k11 ?a12 ?l12 ?c12 ?k12 ?a13 ?l13 ?c13 ?k13 ?a14 ?l14 ?c14 ?k14 ?a15 ?l15 ?c15 ?k15 ?a16 ?l16 ?c16 ?k16 ?a17 ?l17 ?c17 ?k17 ?a18 ?l18 ?c18 ?k18 ?a19 ?l19 ?c19 ?k19 ?z0 ?z1 ?z2 ?z3 ?z4 ?z5 ?z6 ?z7 ?z8 ?z9 ?z10 ?z11 ?z12 ?z13 ?z14 ?z15 ?z16 ?z17 ?td7_6 ?td8_6 ?td8_7 ?td10_6 ?td10_7 ?td10_8 ?n_NoBook ?hd_NoBook ?ty_NoBook ?sb_NoBook ?n_RoadError ?hd_RoadError ?ty_RoadError ?sb_RoadError ?sp_RoadError ?rd_RoadError ?fc_RoadError ?lk_NoBook ?bm2_NoBook ?sa_NoBook ?kp_NoBook ?ini_NoBook ?tu_NoBook ?lu_NoBook ?cu_NoBook ?ku_NoBook ?fl_NoBook_word ?fl_NoBook_at ?ga_NoBook ?gt_NoBook ?cl_NoBook ?mr_NoBook
    (case a0 => k_is); (case l0 => k_is); (case c0 => k_is); (case k0 => k_is); (case a1 => k_is); (case l1 => k_is); (case c1 => k_is); (case k1 => k_is); (case a2 => k_is); (case l2 => k_is); (case c2 => k_is); (case k2 => k_is); (case a3 => k_is); (case l3 => k_is); (case c3 => k_is); (case k3 => k_is); (case a4 => k_is); (case l4 => k_is); (case c4 => k_is); (case k4 => k_is); (case a5 => k_is); (case l5 => k_is); (case c5 => k_is); (case k5 => k_is); (case a6 => k_is); (case l6 => k_is); (case c6 => k_is); (case k6 => k_is); (case tl6 => k_is); (case te6 => first | rfl | decide | decide +kernel | k_is); (case th6 => first | rfl | decide | decide +kernel | k_is); (case tn6 => first | rfl | decide | decide +kernel | k_is); (case tr6 => first | rfl | decide | decide +kernel | k_is); (case a7 => k_is); (case l7 => k_is); (case c7 => k_is); (case k7 => k_is); (case tl7 => k_is); (case te7 => first | rfl | decide | decide +kernel | k_is); (case th7 => first | rfl | decide | decide +kernel | k_is); (case tn7 => first | rfl | decide | decide +kernel | k_is); (case tr7 => first | rfl | decide | decide +kernel | k_is); (case a8 => k_is); (case l8 => k_is); (case c8 => k_is); (case k8 => k_is); (case tl8 => k_is); (case te8 => first | rfl | decide | decide +kernel | k_is); (case th8 => first | rfl | decide | decide +kernel | k_is); (case tn8 => first | rfl | decide | decide +kernel | k_is); (case tr8 => first | rfl | decide | decide +kernel | k_is); (case a9 => k_is); (case l9 => k_is); (case c9 => k_is); (case k9 => k_is); (case a10 => k_is); (case l10 => k_is); (case c10 => k_is); (case k10 => k_is); (case tl10 => k_is); (case te10 => first | rfl | decide | decide +kernel | k_is); (case th10 => first | rfl | decide | decide +kernel | k_is); (case tn10 => first | rfl | decide | decide +kernel | k_is); (case tr10 => first | rfl | decide | decide +kernel | k_is); (case a11 => k_is); (case l11 => k_is); (case c11 => k_is); (case k11 => k_is); (case a12 => k_is); (case l12 => k_is); (case c12 => k_is); (case k12 => k_is); (case a13 => k_is); (case l13 => k_is); (case c13 => k_is); (case k13 => k_is); (case a14 => k_is); (case l14 => k_is); (case c14 => k_is); (case k14 => k_is); (case a15 => k_is); (case l15 => k_is); (case c15 => k_is); (case k15 => k_is); (case a16 => k_is); (case l16 => k_is); (case c16 => k_is); (case k16 => k_is); (case a17 => k_is); (case l17 => k_is); (case c17 => k_is); (case k17 => k_is); (case a18 => k_is); (case l18 => k_is); (case c18 => k_is); (case k18 => k_is); (case a19 => k_is); (case l19 => k_is); (case c19 => k_is); (case k19 => k_is); (case z0 => k_is); (case z1 => k_is); (case z2 => k_is); (case z3 => k_is); (case z4 => k_is); (case z5 => k_is); (case z6 => k_is); (case z7 => k_is); (case z8 => k_is); (case z9 => k_is); (case z10 => k_is); (case z11 => k_is); (case z12 => k_is); (case z13 => k_is); (case z14 => k_is); (case z15 => k_is); (case z16 => k_is); (case z17 => k_is); (case td7_6 => first | decide | decide +kernel | (intro z; cases z)); (case td8_6 => first | decide | decide +kernel | (intro z; cases z)); (case td8_7 => first | decide | decide +kernel | (intro z; cases z)); (case td10_6 => first | decide | decide +kernel | (intro z; cases z)); (case td10_7 => first | decide | decide +kernel | (intro z; cases z)); (case td10_8 => first | decide | decide +kernel | (intro z; cases z)); (case n_NoBook => k_is); (case hd_NoBook => k_is); (case ty_NoBook => k_is); (case sb_NoBook => k_is); (case n_RoadError => k_is); (case hd_RoadError => k_is); (case ty_RoadError => k_is); (case sb_RoadError => k_is); (case sp_RoadError => k_is); (case rd_RoadError => k_is); (case fc_RoadError => k_is); (case lk_NoBook => k_is); (case bm2_NoBook => first | rfl | decide +kernel); (case sa_NoBook => k_is); (case kp_NoBook => k_is); (case ini_NoBook => k_is); (case tu_NoBook => k_is); (case lu_NoBook => k_is); (case cu_NoBook => k_is); (case ku_NoBook => k_is); (case fl_NoBook_word => k_is); (case fl_NoBook_at => k_is); (case ga_NoBook => k_is); (case gt_NoBook => k_is); (case cl_NoBook => k_is); (case mr_NoBook => k_is)
