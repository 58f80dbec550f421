import PyProof.Rows.All
import Wide.All
import OpenK.AllK
import Wide.FinOn
import HandS.ForMost
import HandS.Wide
import HandS.IsInst
import HandS.RaiseMore
import HandS.TupMul
import HandS.TupAny
import PyProof.ReprRoads
import KE.KDictKeyed
import KE.KeyNested
import HandS.ForExc
import HandS.CallSlots
import PyProof.Rows.IntBool
import HandS.Deep
import HandS.Steps
import HandS.Dict
import HandS.Style
import HandS.Zip
import PyProof.Rows.SeqGen
import KE.GoesNew
import HandS.More
import HandS.Text
import PyProof.Rows.StrRev
import PyProof.StrBlockL
import HandS.SortInts
import HandS.TupLe
import HandS.Sort
import HandS.SetFor
import KE.DatumOrd
import KE.SortData
import HandS.SortRule
import KE.KDictZip
import HandS.Keys
import KE.DataFind
import HandS.Strs
import KE.KExcIs
import HandS.ExcInit
import HandS.ExcField
import HandS.Iter
import HandS.Conv
import HandS.SetBool
import KE.KDictPairs
import HandS.NoneIn
import KE.KTabLook
import PyProof.StrBlock2
import KE.DataMinMax
import HandS.SortKw
import KE.KDictSum
import KE.KDictCopyH
import HandS.TupSets
import HandS.SetKeys
import KE.KDictDisplayH
import KE.GoesMore
import PyProof.TupleOfGen
import PyProof.ListStr
import PyProof.TupleOfSeq
import PySem.Challenge.RW_logdrive_k78_names_turned
set_option Elab.async false
set_option linter.all false
set_option maxRecDepth 100000
set_option maxHeartbeats 4000000
namespace Dv
def Box (P : Prop) : Prop := P
theorem b7p {P : Prop} (h : Box P) : P := h
theorem b17 {P : Prop} (h : P) : Box P = True := eq_true h
end Dv
local macro_rules | `(tactic| show_term $t:tacticSeq) => `(tactic| (refine Dv.b7p ?_; simp (disch := (with_unfolding_all ($t))) only [↓Dv.b17]))
namespace Dv
open PySem L2 PySem.Spec PyProof.Rows
def TpA (H : Hp) (a : Addr) (vs : List V) : Prop := ∃ o : Obj, o.dict = none ∧ H a = some (.frz o (.tup vs))
theorem TpA.sq {K : PySem.W.Frag} {H : Hp} {a : Addr} {vs : List V} (h : TpA H a vs) : SqT K H a vs := by
  obtain ⟨o, _, e⟩ := h
  exact .inl (.inr ⟨o, e⟩)
theorem TpA.ne {H : Hp} {a : Addr} {vs : List V} (h : TpA H a vs) : H a ≠ none := by
  obtain ⟨o, _, e⟩ := h
  rw [e]; exact nofun
theorem TpA.congr {H H' : Hp} {a : Addr} {vs : List V} (h : TpA H a vs) (e : H' a = H a) : TpA H' a vs := by
  obtain ⟨o, d, q⟩ := h
  exact ⟨o, d, e.trans q⟩
def ao9 (H : Hp) (xs : List V) (Q : VK) : Prop := ∀ (p : Addr) (o : Obj), H p = none → o.dict = none → Q (.ref p) (upd H p (.frz o (.tup xs)))
section
variable {X : Cx} {pins : List (Addr × Obj)} {σ : L2.St} {H : Hp} {s : Shared} {Q : VK}
theorem b81 {its : List Value} {xs : List V} {n : Nat} (I : Inv X pins σ H s) (r : Vals xs its) (hz : xs.length ≤ sizeLine) (q : ao9 H xs Q) :
    EP X pins σ Q (.ref s.heap.objs.size) { s with heap := s.heap.push { cls := .type "tuple", data := .seq its.toArray n } } :=
  ⟨.ref s.heap.objs.size, _, I.laid (t' := s.toks) (o := .frz { cls := .type "tuple", data := .seq its.toArray n } (.tup xs)) (fun b ob q => Heap.get?_push_of_some _ q) (Nat.le_refl _)
    ⟨Heap.get?_push_size _ rfl, hz, its, r, ⟨_, Heap.get?_push_size _ rfl, rfl, _, rfl⟩⟩, rfl, q _ _ (I.hok.fresh (Nat.le_refl _)) rfl⟩
def bd2 (t : L2.TA) : TE := fun σ H Q => t σ H fun xs H1 => xs.length ≤ sizeLine ∧ ao9 H1 xs Q
theorem b58 {es : List Expr} {t : L2.TA} {x1 : Nat} {pos : Pos} (h : PA X es t) : PE X (.Tuple es x1 pos) (bd2 t) := by
  refine ⟨fun pins s σ H Q I hq => ?_⟩
  refine wpAny_Tuple_spliced (thn (h.run pos pins s σ H _ I hq) fun us s1 ⟨xs, H1, I1, r, z, q⟩ => ⟨by rw [← r.length]; exact z, b81 I1 r z q⟩)
def b8m (K : PySem.W.Frag) : R2 := fun x y H Q => ∃ a b xs ys, x = .ref a ∧ y = .ref b ∧ SqT K H a xs ∧ SqT K H b ys ∧ xs.length + ys.length ≤ sizeLine ∧
  (xs = [] → Q (.ref b) H) ∧ (xs ≠ [] → ys = [] → Q (.ref a) H) ∧ (xs ≠ [] → ys ≠ [] → ao9 H (xs ++ ys) Q)
theorem op_catP : OpR X (binaryOp .Add) (b8m X.K) := by
  intro pins s σ H x y v u Q I rx ry h
  obtain ⟨a, b, xs, ys, rfl, rfl, ha, hb, hz, q0, q1, q2⟩ := h
  cases rx
  cases ry
  obtain ⟨its, r1, p1, _⟩ := I.tuple ha
  obtain ⟨its2, r2, p2, _⟩ := I.tuple hb
  by_cases hx : xs = []
  · subst hx
    cases r1
    exact cat_tup0 p1 p2 ⟨.ref b, H, I, rfl, q0 rfl⟩
  · refine HT.cat_tup p1 p2 (fun z => hx (r1.nil_iff.mp z)) (fun z => ⟨.ref a, H, I, rfl, q1 hx (r2.nil_iff.mp z)⟩) (fun z => ?_) (by rw [← r1.length, ← r2.length]; exact hz)
    have := b81 (n := 0) I (r1.append r2) (by rw [List.length_append]; exact hz) (q2 hx fun w => z (r2.nil_iff.mpr w))
    simpa using this
def bh7 (K : PySem.W.Frag) : V → Option Int → Option Int → Hp → VK → Prop := fun x lo hi H Q => ∃ a xs, x = .ref a ∧ SqT K H a xs ∧
  (HT.sIx xs.length 0 lo = 0 ∧ HT.sIx xs.length xs.length hi = xs.length → Q (.ref a) H) ∧ (¬ (HT.sIx xs.length 0 lo = 0 ∧ HT.sIx xs.length xs.length hi = xs.length) → ao9 H (cutV xs lo hi) Q)
theorem sl_tupP : SlR X (bh7 X.K) := by
  intro pins s σ H x v vl vu lo hi sl Q I rx hs pl pu h
  obtain ⟨a, xs, rfl, hx, q1, q2⟩ := h
  cases rx
  obtain ⟨its, r, ht, hz⟩ := I.tuple hx
  have hlen : its.toArray.size = xs.length := by rw [List.size_toArray]; exact r.length.symm
  refine ⟨"tuple", _, PyProof.Rows.slot_tuple_getitem.lookup, ht.typeIs, ?_⟩
  by_cases hw : HT.sIx xs.length 0 lo = 0 ∧ HT.sIx xs.length xs.length hi = xs.length
  · exact getItem_tuple_whole ht hs pl pu (by rw [hlen]; exact hw) ⟨.ref a, H, I, rfl, q1 hw⟩
  · refine HT.getItem_tuple_cut ht hs pl pu (by rw [hlen]; exact hw) ?_ (by rw [hlen]; exact hz)
    rw [hlen]
    exact b81 (n := 0) I ((r.drop (HT.sIx xs.length 0 lo)).take (HT.sIx xs.length xs.length hi - HT.sIx xs.length 0 lo)) (Nat.le_trans (cutV_length xs lo hi) hz) (q2 hw)
theorem a0p : CallR X (.type "tuple") (fun xs H Q => ∃ p ys, xs = [.ref p] ∧ ((SqL X.K H p ys ∧ ao9 H ys Q) ∨ (SqT X.K H p ys ∧ Q (.ref p) H))) := by
  intro pins s σ H xs us Q I r h
  obtain ⟨p, ys, rfl, h⟩ := h
  obtain ⟨u, rfl, rx⟩ := vals1 r
  cases rx
  rcases h with ⟨hq, q⟩ | ⟨hq, q⟩
  · obtain ⟨its, r', pl, hz⟩ := I.list hq
    have hlen := r'.length
    refine call_tuple_list pl.isList (fun h' kp => ?_) (by simp only [List.size_toArray] <;> omega)
    have I1 : Inv X pins σ H { s with heap := h' } := I.kept (t' := s.toks) kp
    exact b81 (n := 0) I1 r' hz q
  · obtain ⟨its, r', pl, hz⟩ := I.tuple hq
    exact call_tuple_same pl ⟨.ref p, H, I, rfl, q⟩
def bn3 (K : PySem.W.Frag) : R2 := fun x y H Q => ∃ l k xs, x = .ref l ∧ y = .int k ∧ SqT K H l xs ∧ xs ≠ [] ∧ 2 ≤ k ∧ k ≤ 1000 ∧ xs.length ≤ 1000 ∧ ao9 H (List.replicate k.toNat xs).flatten Q
theorem TpA.type {a : Addr} {vs : List V} (I : Inv X pins σ H s) (h : TpA H a vs) : s.TypeIs (.ref a) "tuple" ∧ ∀ b, Value.ref a = .ref b → ∃ ob, s.heap.get? b = some ob ∧ ob.dict = none := by
  obtain ⟨o, d, e⟩ := h
  obtain ⟨g, _, its, r, o', g', c, _⟩ := I.hok a _ e
  rw [g] at g'
  cases g'
  exact ⟨⟨o, g, c⟩, fun b q => by cases q; exact ⟨o, g, d⟩⟩
def tyS (K : PySem.W.Frag) (T : String) (x : V) (H : Hp) : Prop := tyV K T x H ∨ (T = "tuple" ∧ ∃ a vs, x = .ref a ∧ TpA H a vs)
def tBS (K : PySem.W.Frag) (T : String) (r : V → List V → Hp → VK → Prop) (to : TE) (t : L2.TA) : TE := fun σ H Q => to σ H fun x H1 => tyS K T x H1 ∧ t σ H1 fun xs H2 => r x xs H2 Q
variable {o e : Expr} {es : List Expr} {to : TE} {t : L2.TA} {name : Str} {apos cpos : Pos} {T id : String} {r : V → List V → Hp → VK → Prop}
end
end Dv
namespace Dv
open PySem L2
inductive DK where
  | k (x : Key) | t (xs : List Key)
  deriving DecidableEq
inductive D where
  | non | bl (b : Bool) | int (i : Int) | str (x : Str)
  | tup (xs : List D) | lst (own : Bool) (xs : List D) | dic (own tk : Bool) (ks : List DK) (vs : List D) | scr (ns : List Int) | ty (n : String) | raw (x : Addr)
  | pr (xs : List D) | exc (c : Str) (ns : List Str) (vs : List D) | xds (ns : List Str) (vs : List D) | obj (own : Bool) (c : Str) (ns : List Str) (vs : List D)
  | pgs (own : Bool) (ks : List D)
  | dicL (ks : List DK) (vs : List D)
  | otp (ds : List D)
def flat : D → Option V
  | .non => some .non | .bl b => some (.bl b) | .int i => some (.int i) | .str x => some (.str x) | .ty n => some (.ty n) | .raw x => some (.ref x)
  | _ => none
def owned : D → Bool
  | .lst true _ => true | .dic true _ _ _ => true | .obj true _ _ _ => true | .pgs true _ => true | .dicL _ _ => true | .otp _ => true | _ => false
mutual
def fr : D → D
  | .lst true ds => .lst false (frL ds)
  | .dic true tk ks ds => .dic false tk ks (frL ds)
  | .obj true c ns ds => .obj false c ns (frL ds)
  | .pgs _ ds => .pgs false ds
  | .dicL ks vs => .dic false false ks vs
  | .otp ds => .tup (frL ds)
  | .non => .non | .bl b => .bl b | .int i => .int i | .str x => .str x
  | .tup xs => .tup xs | .lst false xs => .lst false xs | .dic false tk ks vs => .dic false tk ks vs | .scr ns => .scr ns | .ty n => .ty n | .raw x => .raw x
  | .pr xs => .pr xs | .exc c ns vs => .exc c ns vs | .xds ns vs => .xds ns vs | .obj false c ns vs => .obj false c ns vs
def frL : List D → List D
  | [] => []
  | d :: ds => fr d :: frL ds
end
theorem a6r {d : D} (h : owned d = false) : fr d = d := by
  cases d with
  | lst o xs => cases o with
    | true => cases h
    | false => rfl
  | dic o tk ks xs => cases o with
    | true => cases h
    | false => rfl
  | obj o c ns xs => cases o with
    | true => cases h
    | false => rfl
  | pgs o xs => cases o with
    | true => cases h
    | false => rfl
  | dicL _ _ => cases h
  | otp _ => cases h
  | _ => rfl
theorem ar9 (ds : List D) : frL ds = ds.map fr := by
  induction ds with
  | nil => rfl
  | cons d ds ih => show fr d :: frL ds = _; rw [ih]; rfl
theorem a4h (d : D) : owned (fr d) = false := by
  cases d with
  | lst o xs => cases o <;> rfl
  | dic o tk ks xs => cases o <;> rfl
  | obj o c ns xs => cases o <;> rfl
  | pgs o xs => rfl
  | dicL _ _ => rfl
  | otp _ => rfl
  | _ => rfl
abbrev Reg := Addr → Option D
structure Zt where
  sc : Option (Addr × List Int)
  cls : Str → Option Addr
  wo : World
def Stat (Z : Zt) (a : Addr) (d : D) : Prop := ∃ ns, Z.sc = some (a, ns) ∧ d = .scr ns
def Sh (Z : Zt) (S : Reg) (v : V) (d : D) : Prop :=
  match flat d with
  | some w => v = w
  | none => ∃ a, v = .ref a ∧ (S a = some d ∨ Stat Z a d)
abbrev ShL (Z : Zt) (S : Reg) : List V → List D → Prop := Paired (Sh Z S)
abbrev tik (ns : List Int) : DK := .t (ns.map Sum.inl)
abbrev tkx (xs : List (List Int × Addr)) : List (List Int × Addr × Value) := xs.map fun x => (x.1, x.2, Value.bool true)
def dxO (a : Addr) (xs : List (List Int × Addr)) : HO := .ext fun h => (a == sysModules) = false ∧ (xs.map (·.1)).Nodup ∧ ∃ o es ep, h.get? a = some o ∧ o.ExactDict ∧ o.data = .dict es ep ∧
  ∀ (P : Program) (w : World), es.toList = (tkx xs).map (entryOfKey (tupleKind (intKind P w)))
def DicAt (H : Hp) (a : Addr) (tk : Bool) (ks : List DK) (vs : List V) : Prop :=
  (tk = false ∧ ∃ kk : List Key, ks = kk.map .k ∧ kk.Nodup ∧ kk.length = vs.length ∧ H a = some (.dK (kk.zip vs))) ∨
  (tk = true ∧ ∃ xs : List (List Int × Addr), ks = xs.map (fun x => tik x.1) ∧ vs = xs.map (fun x => V.ref x.2) ∧ H a = some (dxO a xs))
def DicRd (H : Hp) (a : Addr) (tk : Bool) (ks : List DK) (vs : List V) : Prop :=
  (tk = false ∧ ∃ kk : List Key, ks = kk.map .k ∧ kk.Nodup ∧ kk.length = vs.length ∧ Rd H a (.dK (kk.zip vs))) ∨
  (tk = true ∧ ∃ xs : List (List Int × Addr), ks = xs.map (fun x => tik x.1) ∧ vs = xs.map (fun x => V.ref x.2) ∧ H a = some (dxO a xs))
theorem DicAt.rd {H : Hp} {a : Addr} {tk : Bool} {ks : List DK} {vs : List V} (h : DicAt H a tk ks vs) : DicRd H a tk ks vs := by
  rcases h with ⟨e0, kk, e1, en, e2, e3⟩ | h
  · exact .inl ⟨e0, kk, e1, en, e2, .inl e3⟩
  · exact .inr h
def DicFz (H : Hp) (a : Addr) (ks : List DK) (vs : List V) : Prop := ∃ (kk : List Key) (o : Obj), ks = kk.map .k ∧ kk.Nodup ∧ kk.length = vs.length ∧ H a = some (.frz o (.dK (kk.zip vs)))
theorem DicFz.rd {H : Hp} {a : Addr} {ks : List DK} {vs : List V} (h : DicFz H a ks vs) : DicRd H a false ks vs := let ⟨kk, o, e1, en, e2, e3⟩ := h; .inl ⟨rfl, kk, e1, en, e2, .inr ⟨o, e3⟩⟩
theorem DicFz.congr {H H' : Hp} {a : Addr} {ks : List DK} {vs : List V} (h : DicFz H a ks vs) (e : H' a = H a) : DicFz H' a ks vs := let ⟨kk, o, e1, en, e2, e3⟩ := h; ⟨kk, o, e1, en, e2, e.trans e3⟩
def exh (a C dx : Addr) : HO := .ext fun h => ∃ oe : Obj, h.get? a = some oe ∧ (oe.cls = .ref C ∧ oe.dict = some dx) ∧ ∃ vs, oe.data = .fields vs
def ObjAt (Z : Zt) (H : Hp) (a : Addr) (c : Str) (ns : List Str) (vs : List V) : Prop :=
  ∃ C dx fs, Z.cls c = some C ∧ H a = some (.ins C dx fs) ∧ ns.Nodup ∧ ns.length = vs.length ∧ ∀ f, fs.lookup f = (ns.zip vs).lookup f
mutual
def nkD : D → Option NestedKey
  | .non => some .none | .int i => some (.num i) | .str x => some (.text x)
  | .tup xs => (match a8p xs with | some ks => some (.tup ks) | none => none)
  | _ => none
def a8p : List D → Option (List NestedKey)
  | [] => some []
  | d :: ds => match nkD d, a8p ds with | some k, some ks => some (k :: ks) | _, _ => none
end
abbrev pgx (xs : List (NestedKey × Addr)) : List (NestedKey × Addr × Value) := xs.map fun x => (x.1, x.2, Value.bool true)
def pgO (w : World) (a : Addr) (xs : List (NestedKey × Addr)) : HO := .ext fun h => (a == sysModules) = false ∧ (xs.map (·.1)).Nodup ∧ ∃ o es ep, h.get? a = some o ∧ o.ExactDict ∧ o.data = .dict es ep ∧
  ∀ P : Program, es.toList = (pgx xs).map (entryOfKey (nestedKind P w))
def PgAt (Z : Zt) (H : Hp) (a : Addr) (ds : List D) (vs : List V) : Prop := ∃ xs : List (NestedKey × Addr), ds.map nkD = xs.map (fun x => some x.1) ∧ vs = xs.map (fun x => V.ref x.2) ∧ H a = some (pgO Z.wo a xs)
def Node (Z : Zt) (H : Hp) (S : Reg) (a : Addr) : D → Prop
  | .tup ds => ∃ vs, TpA H a vs ∧ ShL Z S vs ds
  | .pr ds => ∃ vs, H a = some (.tup vs) ∧ ShL Z S vs ds
  | .exc c ns ds => ∃ C dx, Z.cls c = some C ∧ H a = some (exh a C dx) ∧ S dx = some (.xds ns ds)
  | .xds ns ds => ∃ vs, ns.length = vs.length ∧ H a = some (.xd (ns.zip vs)) ∧ ShL Z S vs ds
  | .obj false c ns ds => ∃ vs, ObjAt Z H a c ns vs ∧ ShL Z S vs ds
  | .pgs false ds => ∃ vs, PgAt Z H a ds vs ∧ ShL Z S vs ds
  | .lst false ds => ∃ vs, H a = some (.lst vs) ∧ ShL Z S vs ds
  | .dic false tk ks ds => ∃ vs, DicRd H a tk ks vs ∧ ShL Z S vs ds
  | _ => False
def Le (S S' : Reg) : Prop := ∀ a d, S a = some d → S' a = some d
structure InvS (K : PySem.W.Frag) (Z : Zt) (H : Hp) (S : Reg) : Prop where
  node : ∀ a d, S a = some d → Node Z H S a d
  sc : ∀ a ns, Z.sc = some (a, ns) → (∃ o, H a = some (.frz o (.lst (ns.map V.int)))) ∨ ∀ H2, SqL K H2 a (ns.map V.int)
theorem Le.refl (S : Reg) : Le S S := fun _ _ h => h
theorem Le.trans {S S1 S2 : Reg} (a : Le S S1) (b : Le S1 S2) : Le S S2 := fun _ _ h => b _ _ (a _ _ h)
theorem Sh.mono {Z : Zt} {S S' : Reg} {v : V} {d : D} (h : Sh Z S v d) (l : Le S S') : Sh Z S' v d := by
  unfold Sh at h ⊢
  cases e : flat d with
  | some w => rw [e] at h; exact h
  | none =>
    rw [e] at h
    obtain ⟨a, rfl, h⟩ := h
    exact ⟨a, rfl, h.imp (l _ _) id⟩
theorem ShL.mono {Z : Zt} {S S' : Reg} {vs : List V} {ds : List D} (h : ShL Z S vs ds) (l : Le S S') : ShL Z S' vs ds :=
  Paired.mapP h fun _ _ x => x.mono l
mutual
def Own (Z : Zt) (H : Hp) (S : Reg) : D → V → List Addr → Prop
  | .lst true ds, v, A => ∃ a vs B, v = .ref a ∧ A = a :: B ∧ H a = some (.lst vs) ∧ S a = none ∧ OwnL Z H S ds vs B
  | .dic true tk ks ds, v, A => ∃ a vs B, v = .ref a ∧ A = a :: B ∧ DicAt H a tk ks vs ∧ S a = none ∧ OwnL Z H S ds vs B
  | .obj true c ns ds, v, A => ∃ a vs B, v = .ref a ∧ A = a :: B ∧ ObjAt Z H a c ns vs ∧ S a = none ∧ OwnL Z H S ds vs B
  | .pgs true ds, v, A => ∃ a vs, v = .ref a ∧ A = [a] ∧ PgAt Z H a ds vs ∧ S a = none ∧ ShL Z S vs ds
  | .dicL ks ds, v, A => ∃ a vs, v = .ref a ∧ A = [a] ∧ DicFz H a ks vs ∧ S a = none ∧ ShL Z S vs ds
  | .otp ds, v, A => ∃ a vs B, v = .ref a ∧ A = a :: B ∧ TpA H a vs ∧ S a = none ∧ OwnL Z H S ds vs B
  | .non, v, A => A = [] ∧ v = .non
  | .bl b, v, A => A = [] ∧ v = .bl b
  | .int i, v, A => A = [] ∧ v = .int i
  | .str x, v, A => A = [] ∧ v = .str x
  | .ty n, v, A => A = [] ∧ v = .ty n
  | .raw x, v, A => A = [] ∧ v = .ref x
  | .tup xs, v, A => A = [] ∧ Sh Z S v (.tup xs)
  | .lst false xs, v, A => A = [] ∧ Sh Z S v (.lst false xs)
  | .dic false tk ks vs, v, A => A = [] ∧ Sh Z S v (.dic false tk ks vs)
  | .scr ns, v, A => A = [] ∧ Sh Z S v (.scr ns)
  | .pr xs, v, A => A = [] ∧ Sh Z S v (.pr xs)
  | .exc c ns vs, v, A => A = [] ∧ Sh Z S v (.exc c ns vs)
  | .xds ns vs, v, A => A = [] ∧ Sh Z S v (.xds ns vs)
  | .obj false c ns vs, v, A => A = [] ∧ Sh Z S v (.obj false c ns vs)
  | .pgs false ds, v, A => A = [] ∧ Sh Z S v (.pgs false ds)
def OwnL (Z : Zt) (H : Hp) (S : Reg) : List D → List V → List Addr → Prop
  | [], vs, A => vs = [] ∧ A = []
  | d :: ds, vs, A => ∃ v r A1 A2, vs = v :: r ∧ A = A1 ++ A2 ∧ Own Z H S d v A1 ∧ OwnL Z H S ds r A2
end
theorem Own.of_sh {Z : Zt} {H : Hp} {S : Reg} {d : D} {v : V} (h : Sh Z S v d) (o : owned d = false) : Own Z H S d v [] := by
  cases d with
  | lst b xs => cases b with
    | true => cases o
    | false => exact ⟨rfl, h⟩
  | dic b tk ks xs => cases b with
    | true => cases o
    | false => exact ⟨rfl, h⟩
  | obj b c ns xs => cases b with
    | true => cases o
    | false => exact ⟨rfl, h⟩
  | pgs b xs => cases b with
    | true => cases o
    | false => exact ⟨rfl, h⟩
  | dicL _ _ => cases o
  | otp _ => cases o
  | pr xs => exact ⟨rfl, h⟩
  | exc c ns xs => exact ⟨rfl, h⟩
  | xds ns xs => exact ⟨rfl, h⟩
  | tup xs => exact ⟨rfl, h⟩
  | scr ns => exact ⟨rfl, h⟩
  | non => exact ⟨rfl, h⟩
  | bl b => exact ⟨rfl, h⟩
  | int i => exact ⟨rfl, h⟩
  | str x => exact ⟨rfl, h⟩
  | ty x => exact ⟨rfl, h⟩
  | raw x => exact ⟨rfl, h⟩
theorem Own.sh {Z : Zt} {H : Hp} {S : Reg} {d : D} {v : V} {A : List Addr} (h : Own Z H S d v A) (o : owned d = false) : A = [] ∧ Sh Z S v d := by
  cases d with
  | lst b xs => cases b with
    | true => cases o
    | false => exact h
  | dic b tk ks xs => cases b with
    | true => cases o
    | false => exact h
  | obj b c ns xs => cases b with
    | true => cases o
    | false => exact h
  | pgs b xs => cases b with
    | true => cases o
    | false => exact h
  | dicL _ _ => cases o
  | otp _ => cases o
  | pr xs => exact h
  | exc c ns xs => exact h
  | xds ns xs => exact h
  | tup xs => exact h
  | scr ns => exact h
  | non => exact h
  | bl b => exact h
  | int i => exact h
  | str x => exact h
  | ty x => exact h
  | raw x => exact h
theorem OwnL.of_sh {Z : Zt} {H : Hp} {S : Reg} : ∀ {ds : List D} {vs : List V}, ShL Z S vs ds → (∀ d ∈ ds, owned d = false) → OwnL Z H S ds vs []
  | [], _, h, _ => by cases h; exact ⟨rfl, rfl⟩
  | d :: ds, _, h, o => by
    cases h with
    | cons a b => exact ⟨_, _, [], [], rfl, rfl, Own.of_sh a (o d List.mem_cons_self), OwnL.of_sh b fun x hx => o x (List.mem_cons_of_mem _ hx)⟩
theorem DicAt.congr {H H' : Hp} {a : Addr} {tk : Bool} {ks : List DK} {vs : List V} (h : DicAt H a tk ks vs) (e : H' a = H a) : DicAt H' a tk ks vs := by
  rcases h with ⟨e0, kk, e1, en, e2, e3⟩ | ⟨e0, kk, e1, e2, e3⟩
  · exact .inl ⟨e0, kk, e1, en, e2, e.trans e3⟩
  · exact .inr ⟨e0, kk, e1, e2, e.trans e3⟩
theorem DicRd.congr {H H' : Hp} {a : Addr} {tk : Bool} {ks : List DK} {vs : List V} (h : DicRd H a tk ks vs) (e : H' a = H a) : DicRd H' a tk ks vs := by
  rcases h with ⟨e0, kk, e1, en, e2, e3 | ⟨o, e3⟩⟩ | ⟨e0, kk, e1, e2, e3⟩
  · exact .inl ⟨e0, kk, e1, en, e2, .inl (e.trans e3)⟩
  · exact .inl ⟨e0, kk, e1, en, e2, .inr ⟨o, e.trans e3⟩⟩
  · exact .inr ⟨e0, kk, e1, e2, e.trans e3⟩
theorem DicRd.ne {H : Hp} {a : Addr} {tk : Bool} {ks : List DK} {vs : List V} (h : DicRd H a tk ks vs) : H a ≠ none := by
  rcases h with ⟨e0, kk, e1, en, e2, e3 | ⟨o, e3⟩⟩ | ⟨e0, kk, e1, e2, e3⟩ <;> rw [e3] <;> exact fun z => nomatch z
theorem ObjAt.congr {Z : Zt} {H H' : Hp} {a : Addr} {c : Str} {ns : List Str} {vs : List V} (h : ObjAt Z H a c ns vs) (e : H' a = H a) : ObjAt Z H' a c ns vs := by
  obtain ⟨C, dx, fs, h1, h2, h3⟩ := h
  exact ⟨C, dx, fs, h1, e.trans h2, h3⟩
theorem PgAt.congr {Z : Zt} {H H' : Hp} {a : Addr} {ds : List D} {vs : List V} (h : PgAt Z H a ds vs) (e : H' a = H a) : PgAt Z H' a ds vs := by
  obtain ⟨xs, h1, h2, h3⟩ := h
  exact ⟨xs, h1, h2, e.trans h3⟩
theorem PgAt.ne {Z : Zt} {H : Hp} {a : Addr} {ds : List D} {vs : List V} (h : PgAt Z H a ds vs) : H a ≠ none := by
  obtain ⟨xs, h1, h2, h3⟩ := h
  rw [h3]; exact nofun
theorem ObjAt.ne {Z : Zt} {H : Hp} {a : Addr} {c : Str} {ns : List Str} {vs : List V} (h : ObjAt Z H a c ns vs) : H a ≠ none := by
  obtain ⟨C, dx, fs, h1, h2, h3⟩ := h
  rw [h2]; exact nofun
theorem DicAt.ne {H : Hp} {a : Addr} {tk : Bool} {ks : List DK} {vs : List V} (h : DicAt H a tk ks vs) : H a ≠ none := by
  rcases h with ⟨e0, kk, e1, en, e2, e3⟩ | ⟨e0, kk, e1, e2, e3⟩ <;> rw [e3] <;> exact fun z => nomatch z
section
variable {K : PySem.W.Frag} {Z : Zt} {H H' : Hp} {S S' : Reg}
mutual
theorem Own.keep (l : Le S S') : ∀ (d : D) {v : V} {A : List Addr}, Own Z H S d v A → (∀ b ∈ A, H' b = H b ∧ S' b = none) → Own Z H' S' d v A
  | .lst true ds, v, A, h, k => by
    obtain ⟨a, vs, B, rfl, rfl, e, _, h⟩ := h
    exact ⟨a, vs, B, rfl, rfl, (k a List.mem_cons_self).1.trans e, (k a List.mem_cons_self).2, OwnL.keep l ds h fun b hb => k b (List.mem_cons_of_mem _ hb)⟩
  | .dic true tk ks ds, v, A, h, k => by
    obtain ⟨a, vs, B, rfl, rfl, e, _, h⟩ := h
    exact ⟨a, vs, B, rfl, rfl, e.congr (k a List.mem_cons_self).1, (k a List.mem_cons_self).2, OwnL.keep l ds h fun b hb => k b (List.mem_cons_of_mem _ hb)⟩
  | .obj true c ns ds, v, A, h, k => by
    obtain ⟨a, vs, B, rfl, rfl, e, _, h⟩ := h
    exact ⟨a, vs, B, rfl, rfl, e.congr (k a List.mem_cons_self).1, (k a List.mem_cons_self).2, OwnL.keep l ds h fun b hb => k b (List.mem_cons_of_mem _ hb)⟩
  | .non, v, A, h, _ => h
  | .bl b, v, A, h, _ => h
  | .int i, v, A, h, _ => h
  | .str x, v, A, h, _ => h
  | .ty x, v, A, h, _ => h
  | .raw x, v, A, h, _ => h
  | .tup xs, v, A, h, _ => ⟨h.1, h.2.mono l⟩
  | .lst false xs, v, A, h, _ => ⟨h.1, h.2.mono l⟩
  | .dic false tk ks vs, v, A, h, _ => ⟨h.1, h.2.mono l⟩
  | .scr ns, v, A, h, _ => ⟨h.1, h.2.mono l⟩
  | .pr xs, v, A, h, _ => ⟨h.1, h.2.mono l⟩
  | .exc _ _ _, v, A, h, _ => ⟨h.1, h.2.mono l⟩
  | .xds _ _, v, A, h, _ => ⟨h.1, h.2.mono l⟩
  | .obj false _ _ _, v, A, h, _ => ⟨h.1, h.2.mono l⟩
  | .pgs true ds, v, A, h, k => by
    obtain ⟨a, vs, rfl, rfl, e, _, h⟩ := h
    exact ⟨a, vs, rfl, rfl, e.congr (k a List.mem_cons_self).1, (k a List.mem_cons_self).2, h.mono l⟩
  | .pgs false _, v, A, h, _ => ⟨h.1, h.2.mono l⟩
  | .dicL ks ds, v, A, h, k => by
    obtain ⟨a, vs, rfl, rfl, e, _, h⟩ := h
    exact ⟨a, vs, rfl, rfl, e.congr (k a List.mem_cons_self).1, (k a List.mem_cons_self).2, h.mono l⟩
  | .otp ds, v, A, h, k => by
    obtain ⟨a, vs, B, rfl, rfl, ⟨o, od, e⟩, _, h⟩ := h
    exact ⟨a, vs, B, rfl, rfl, ⟨o, od, (k a List.mem_cons_self).1.trans e⟩, (k a List.mem_cons_self).2, OwnL.keep l ds h fun b hb => k b (List.mem_cons_of_mem _ hb)⟩
theorem OwnL.keep (l : Le S S') : ∀ (ds : List D) {vs : List V} {A : List Addr}, OwnL Z H S ds vs A → (∀ b ∈ A, H' b = H b ∧ S' b = none) → OwnL Z H' S' ds vs A
  | [], _, _, h, _ => h
  | d :: ds, _, _, h, k => by
    obtain ⟨v, r, A1, A2, rfl, rfl, h1, h2⟩ := h
    exact ⟨v, r, A1, A2, rfl, rfl, Own.keep l d h1 fun b hb => k b (List.mem_append_left _ hb), OwnL.keep l ds h2 fun b hb => k b (List.mem_append_right _ hb)⟩
end
mutual
theorem Own.mem : ∀ (d : D) {v : V} {A : List Addr}, Own Z H S d v A → ∀ b ∈ A, S b = none ∧ H b ≠ none
  | .lst true ds, v, A, h, b, hb => by
    obtain ⟨a, vs, B, rfl, rfl, e, n, h⟩ := h
    rcases List.mem_cons.mp hb with rfl | hb
    · exact ⟨n, by rw [e]; exact fun z => nomatch z⟩
    · exact OwnL.mem ds h b hb
  | .dic true tk ks ds, v, A, h, b, hb => by
    obtain ⟨a, vs, B, rfl, rfl, e, n, h⟩ := h
    rcases List.mem_cons.mp hb with rfl | hb
    · exact ⟨n, e.ne⟩
    · exact OwnL.mem ds h b hb
  | .obj true c ns ds, v, A, h, b, hb => by
    obtain ⟨a, vs, B, rfl, rfl, e, n, h⟩ := h
    rcases List.mem_cons.mp hb with rfl | hb
    · exact ⟨n, e.ne⟩
    · exact OwnL.mem ds h b hb
  | .non, v, A, h, b, hb => by rw [h.1] at hb; cases hb
  | .bl _, v, A, h, b, hb => by rw [h.1] at hb; cases hb
  | .int _, v, A, h, b, hb => by rw [h.1] at hb; cases hb
  | .str _, v, A, h, b, hb => by rw [h.1] at hb; cases hb
  | .ty _, v, A, h, b, hb => by rw [h.1] at hb; cases hb
  | .raw _, v, A, h, b, hb => by rw [h.1] at hb; cases hb
  | .tup _, v, A, h, b, hb => by rw [h.1] at hb; cases hb
  | .lst false _, v, A, h, b, hb => by rw [h.1] at hb; cases hb
  | .dic false _ _ _, v, A, h, b, hb => by rw [h.1] at hb; cases hb
  | .scr _, v, A, h, b, hb => by rw [h.1] at hb; cases hb
  | .pr _, v, A, h, b, hb => by rw [h.1] at hb; cases hb
  | .exc _ _ _, v, A, h, b, hb => by rw [h.1] at hb; cases hb
  | .xds _ _, v, A, h, b, hb => by rw [h.1] at hb; cases hb
  | .obj false _ _ _, v, A, h, b, hb => by rw [h.1] at hb; cases hb
  | .pgs true ds, v, A, h, b, hb => by
    obtain ⟨a, vs, rfl, rfl, e, n, h⟩ := h
    rw [List.mem_singleton.mp hb]
    exact ⟨n, e.ne⟩
  | .pgs false _, v, A, h, b, hb => by rw [h.1] at hb; cases hb
  | .dicL ks ds, v, A, h, b, hb => by
    obtain ⟨a, vs, rfl, rfl, e, n, h⟩ := h
    rw [List.mem_singleton.mp hb]
    exact ⟨n, e.rd.ne⟩
  | .otp ds, v, A, h, b, hb => by
    obtain ⟨a, vs, B, rfl, rfl, e, n, h⟩ := h
    rcases List.mem_cons.mp hb with rfl | hb
    · exact ⟨n, e.ne⟩
    · exact OwnL.mem ds h b hb
theorem OwnL.mem : ∀ (ds : List D) {vs : List V} {A : List Addr}, OwnL Z H S ds vs A → ∀ b ∈ A, S b = none ∧ H b ≠ none
  | [], _, _, h, b, hb => by rw [h.2] at hb; cases hb
  | d :: ds, _, _, h, b, hb => by
    obtain ⟨v, r, A1, A2, rfl, rfl, h1, h2⟩ := h
    rcases List.mem_append.mp hb with hb | hb
    · exact Own.mem d h1 b hb
    · exact OwnL.mem ds h2 b hb
end
def put (S : Reg) (a : Addr) (d : D) : Reg := fun b => if b = a then some d else S b
theorem put_same {a : Addr} {d : D} : put S a d a = some d := if_pos rfl
theorem a5b {a b : Addr} {d : D} (h : b ≠ a) : put S a d b = S b := if_neg h
theorem a2x {a : Addr} {d : D} (h : S a = none) : Le S (put S a d) := fun b e hb => by
  have : b ≠ a := by rintro rfl; rw [h] at hb; cases hb
  rw [a5b this]; exact hb
theorem Node.mono {a : Addr} {d : D} (h : Node Z H S a d) (l : Le S S') (k : H' a = H a) : Node Z H' S' a d := by
  cases d with
  | tup ds => obtain ⟨vs, e, r⟩ := h; exact ⟨vs, e.congr k, r.mono l⟩
  | pr ds => obtain ⟨vs, e, r⟩ := h; exact ⟨vs, k.trans e, r.mono l⟩
  | exc c ns ds => obtain ⟨C, dx, e1, e2, e3⟩ := h; exact ⟨C, dx, e1, k.trans e2, l _ _ e3⟩
  | xds ns ds => obtain ⟨vs, e1, e2, r⟩ := h; exact ⟨vs, e1, k.trans e2, r.mono l⟩
  | obj b c ns ds => cases b with
    | true => exact h
    | false => obtain ⟨vs, e, r⟩ := h; exact ⟨vs, e.congr k, r.mono l⟩
  | pgs b ds => cases b with
    | true => exact h
    | false => obtain ⟨vs, e, r⟩ := h; exact ⟨vs, e.congr k, r.mono l⟩
  | lst b ds => cases b with
    | true => exact h
    | false => obtain ⟨vs, e, r⟩ := h; exact ⟨vs, k.trans e, r.mono l⟩
  | dic b tk ks ds => cases b with
    | true => exact h
    | false => obtain ⟨vs, e, r⟩ := h; exact ⟨vs, e.congr k, r.mono l⟩
  | _ => exact h
theorem Node.ne {a : Addr} {d : D} (h : Node Z H S a d) : H a ≠ none := by
  cases d with
  | tup ds => obtain ⟨vs, e, r⟩ := h; exact e.ne
  | pr ds => obtain ⟨vs, e, r⟩ := h; rw [e]; exact fun z => nomatch z
  | exc c ns ds => obtain ⟨C, dx, e1, e2, e3⟩ := h; rw [e2]; exact fun z => nomatch z
  | xds ns ds => obtain ⟨vs, e1, e2, r⟩ := h; rw [e2]; exact fun z => nomatch z
  | obj b c ns ds => cases b with
    | true => exact h.elim
    | false => obtain ⟨vs, e, r⟩ := h; exact e.ne
  | pgs b ds => cases b with
    | true => exact h.elim
    | false => obtain ⟨vs, e, r⟩ := h; exact e.ne
  | lst b ds => cases b with
    | true => exact h.elim
    | false => obtain ⟨vs, e, r⟩ := h; rw [e]; exact fun z => nomatch z
  | dic b tk ks ds => cases b with
    | true => exact h.elim
    | false => obtain ⟨vs, e, r⟩ := h; exact e.ne
  | _ => exact h.elim
theorem InvS.put {a : Addr} {d : D} (I : InvS K Z H S) (h : S a = none) (n : Node Z H (put S a d) a d) : InvS K Z H (put S a d) := by
  refine ⟨fun b e hb => ?_, I.sc⟩
  by_cases hba : b = a
  · subst hba; rw [put_same] at hb; cases hb; exact n
  · rw [a5b hba] at hb
    exact (I.node b e hb).mono (a2x h) rfl
theorem InvS.heap (I : InvS K Z H S) (k : ∀ b, S b ≠ none → H' b = H b) (kf : ∀ a o u, H a = some (.frz o (.lst u)) → H' a = H a) : InvS K Z H' S :=
  ⟨fun b e hb => (I.node b e hb).mono (Le.refl S) (k b (by rw [hb]; exact fun z => nomatch z)), fun a ns e => by
    rcases I.sc a ns e with ⟨o, h⟩ | h
    · exact .inl ⟨o, (kf a o _ h).trans h⟩
    · exact .inr h⟩
theorem InvS.fresh (I : InvS K Z H S) {p : Addr} (h : H p = none) : S p = none := by
  cases e : S p with
  | none => rfl
  | some d => exact absurd h (I.node p d e).ne
end
end Dv
namespace Dv
open PySem L2
section
variable {K : PySem.W.Frag} {Z : Zt} {H H' : Hp} {S S' : Reg}
theorem InvS.scr (I : InvS K Z H S) {v : V} {ns : List Int} (h : Sh Z S v (.scr ns)) : ∃ a, v = .ref a ∧ SqL K H a (ns.map V.int) := by
  obtain ⟨a, rfl, h | ⟨ns, hz, e⟩⟩ := h
  · exact (I.node a _ h).elim
  · cases e
    refine ⟨a, rfl, ?_⟩
    rcases I.sc a _ hz with ⟨o, h⟩ | h
    · exact .inl (.inr ⟨o, h⟩)
    · exact h H
theorem InvS.lst (I : InvS K Z H S) {v : V} {ds : List D} (h : Sh Z S v (.lst false ds)) : ∃ a vs, v = .ref a ∧ H a = some (.lst vs) ∧ ShL Z S vs ds := by
  obtain ⟨a, rfl, h | ⟨ns, hz, e⟩⟩ := h
  · obtain ⟨vs, e, r⟩ := I.node a _ h
    exact ⟨a, vs, rfl, e, r⟩
  · cases e
theorem InvS.tup (I : InvS K Z H S) {v : V} {ds : List D} (h : Sh Z S v (.tup ds)) : ∃ a vs, v = .ref a ∧ TpA H a vs ∧ ShL Z S vs ds := by
  obtain ⟨a, rfl, h | ⟨ns, hz, e⟩⟩ := h
  · obtain ⟨vs, e, r⟩ := I.node a _ h
    exact ⟨a, vs, rfl, e, r⟩
  · cases e
theorem InvS.pr (I : InvS K Z H S) {v : V} {ds : List D} (h : Sh Z S v (.pr ds)) : ∃ a vs, v = .ref a ∧ H a = some (.tup vs) ∧ ShL Z S vs ds := by
  obtain ⟨a, rfl, h | ⟨ns, hz, e⟩⟩ := h
  · obtain ⟨vs, e, r⟩ := I.node a _ h
    exact ⟨a, vs, rfl, e, r⟩
  · cases e
theorem InvS.exc (I : InvS K Z H S) {v : V} {c : Str} {ns : List Str} {ds : List D} (h : Sh Z S v (.exc c ns ds)) : ∃ a C dx vs, v = .ref a ∧ Z.cls c = some C ∧ H a = some (exh a C dx) ∧ ns.length = vs.length ∧ H dx = some (.xd (ns.zip vs)) ∧ ShL Z S vs ds := by
  obtain ⟨a, rfl, h | ⟨ns, hz, e⟩⟩ := h
  · obtain ⟨C, dx, e1, e2, e3⟩ := I.node a _ h
    obtain ⟨vs, e4, e5, r⟩ := I.node dx _ e3
    exact ⟨a, C, dx, vs, rfl, e1, e2, e4, e5, r⟩
  · cases e
theorem InvS.obj (I : InvS K Z H S) {v : V} {c : Str} {ns : List Str} {ds : List D} (h : Sh Z S v (.obj false c ns ds)) : ∃ a vs, v = .ref a ∧ ObjAt Z H a c ns vs ∧ ShL Z S vs ds := by
  obtain ⟨a, rfl, h | ⟨ns, hz, e⟩⟩ := h
  · obtain ⟨vs, e, r⟩ := I.node a _ h
    exact ⟨a, vs, rfl, e, r⟩
  · cases e
theorem InvS.dic (I : InvS K Z H S) {v : V} {tk : Bool} {ks : List DK} {ds : List D} (h : Sh Z S v (.dic false tk ks ds)) : ∃ a vs, v = .ref a ∧ DicRd H a tk ks vs ∧ ShL Z S vs ds := by
  obtain ⟨a, rfl, h | ⟨ns, hz, e⟩⟩ := h
  · obtain ⟨vs, e, r⟩ := I.node a _ h
    exact ⟨a, vs, rfl, e, r⟩
  · cases e
mutual
theorem Own.freeze : ∀ (d : D) {S : Reg} {v : V} {A : List Addr}, InvS K Z H S → Own Z H S d v A → A.Nodup →
    ∃ S', Le S S' ∧ InvS K Z H S' ∧ Sh Z S' v (fr d) ∧ ∀ b, S' b ≠ none → S b ≠ none ∨ b ∈ A
  | .lst true ds, S, v, A, I, h, nd => by
    obtain ⟨a, vs, B, rfl, rfl, e, n, h⟩ := h
    obtain ⟨na, nB⟩ := List.nodup_cons.mp nd
    obtain ⟨S1, l1, I1, r, k1⟩ := OwnL.freeze ds I h nB
    have n1 : S1 a = none := by
      cases q : S1 a with
      | none => rfl
      | some x =>
        rcases k1 a (by rw [q]; exact fun z => nomatch z) with z | z
        · exact absurd n z
        · exact absurd z na
    refine ⟨put S1 a (.lst false (frL ds)), l1.trans (a2x n1), I1.put n1 ⟨vs, e, r.mono (a2x n1)⟩, ⟨a, rfl, .inl put_same⟩, fun b hb => ?_⟩
    by_cases hba : b = a
    · exact .inr (hba ▸ List.mem_cons_self)
    · rw [a5b hba] at hb
      exact (k1 b hb).imp id (List.mem_cons_of_mem _)
  | .dic true tk ks ds, S, v, A, I, h, nd => by
    obtain ⟨a, vs, B, rfl, rfl, e, n, h⟩ := h
    obtain ⟨na, nB⟩ := List.nodup_cons.mp nd
    obtain ⟨S1, l1, I1, r, k1⟩ := OwnL.freeze ds I h nB
    have n1 : S1 a = none := by
      cases q : S1 a with
      | none => rfl
      | some x =>
        rcases k1 a (by rw [q]; exact fun z => nomatch z) with z | z
        · exact absurd n z
        · exact absurd z na
    refine ⟨put S1 a (.dic false tk ks (frL ds)), l1.trans (a2x n1), I1.put n1 ⟨vs, e.rd, r.mono (a2x n1)⟩, ⟨a, rfl, .inl put_same⟩, fun b hb => ?_⟩
    by_cases hba : b = a
    · exact .inr (hba ▸ List.mem_cons_self)
    · rw [a5b hba] at hb
      exact (k1 b hb).imp id (List.mem_cons_of_mem _)
  | .obj true c ns ds, S, v, A, I, h, nd => by
    obtain ⟨a, vs, B, rfl, rfl, e, n, h⟩ := h
    obtain ⟨na, nB⟩ := List.nodup_cons.mp nd
    obtain ⟨S1, l1, I1, r, k1⟩ := OwnL.freeze ds I h nB
    have n1 : S1 a = none := by
      cases q : S1 a with
      | none => rfl
      | some x =>
        rcases k1 a (by rw [q]; exact fun z => nomatch z) with z | z
        · exact absurd n z
        · exact absurd z na
    refine ⟨put S1 a (.obj false c ns (frL ds)), l1.trans (a2x n1), I1.put n1 ⟨vs, e, r.mono (a2x n1)⟩, ⟨a, rfl, .inl put_same⟩, fun b hb => ?_⟩
    by_cases hba : b = a
    · exact .inr (hba ▸ List.mem_cons_self)
    · rw [a5b hba] at hb
      exact (k1 b hb).imp id (List.mem_cons_of_mem _)
  | .non, S, v, A, I, h, _ => ⟨S, Le.refl S, I, h.2, fun _ q => .inl q⟩
  | .bl _, S, v, A, I, h, _ => ⟨S, Le.refl S, I, h.2, fun _ q => .inl q⟩
  | .int _, S, v, A, I, h, _ => ⟨S, Le.refl S, I, h.2, fun _ q => .inl q⟩
  | .str _, S, v, A, I, h, _ => ⟨S, Le.refl S, I, h.2, fun _ q => .inl q⟩
  | .ty _, S, v, A, I, h, _ => ⟨S, Le.refl S, I, h.2, fun _ q => .inl q⟩
  | .raw _, S, v, A, I, h, _ => ⟨S, Le.refl S, I, h.2, fun _ q => .inl q⟩
  | .tup _, S, v, A, I, h, _ => ⟨S, Le.refl S, I, h.2, fun _ q => .inl q⟩
  | .lst false _, S, v, A, I, h, _ => ⟨S, Le.refl S, I, h.2, fun _ q => .inl q⟩
  | .dic false _ _ _, S, v, A, I, h, _ => ⟨S, Le.refl S, I, h.2, fun _ q => .inl q⟩
  | .scr _, S, v, A, I, h, _ => ⟨S, Le.refl S, I, h.2, fun _ q => .inl q⟩
  | .pr _, S, v, A, I, h, _ => ⟨S, Le.refl S, I, h.2, fun _ q => .inl q⟩
  | .exc _ _ _, S, v, A, I, h, _ => ⟨S, Le.refl S, I, h.2, fun _ q => .inl q⟩
  | .xds _ _, S, v, A, I, h, _ => ⟨S, Le.refl S, I, h.2, fun _ q => .inl q⟩
  | .obj false _ _ _, S, v, A, I, h, _ => ⟨S, Le.refl S, I, h.2, fun _ q => .inl q⟩
  | .pgs true ds, S, v, A, I, h, nd => by
    obtain ⟨a, vs, rfl, rfl, e, n, h⟩ := h
    refine ⟨put S a (.pgs false ds), a2x n, I.put n ⟨vs, e, h.mono (a2x n)⟩, ⟨a, rfl, .inl put_same⟩, fun b hb => ?_⟩
    by_cases hba : b = a
    · exact .inr (hba ▸ List.mem_cons_self)
    · rw [a5b hba] at hb
      exact .inl hb
  | .pgs false _, S, v, A, I, h, _ => ⟨S, Le.refl S, I, h.2, fun _ q => .inl q⟩
  | .dicL ks ds, S, v, A, I, h, nd => by
    obtain ⟨a, vs, rfl, rfl, e, n, h⟩ := h
    refine ⟨put S a (.dic false false ks ds), a2x n, I.put n ⟨vs, e.rd, h.mono (a2x n)⟩, ⟨a, rfl, .inl put_same⟩, fun b hb => ?_⟩
    by_cases hba : b = a
    · exact .inr (hba ▸ List.mem_cons_self)
    · rw [a5b hba] at hb
      exact .inl hb
  | .otp ds, S, v, A, I, h, nd => by
    obtain ⟨a, vs, B, rfl, rfl, e, n, h⟩ := h
    obtain ⟨na, nB⟩ := List.nodup_cons.mp nd
    obtain ⟨S1, l1, I1, r, k1⟩ := OwnL.freeze ds I h nB
    have n1 : S1 a = none := by
      cases q : S1 a with
      | none => rfl
      | some x =>
        rcases k1 a (by rw [q]; exact fun z => nomatch z) with z | z
        · exact absurd n z
        · exact absurd z na
    refine ⟨put S1 a (.tup (frL ds)), l1.trans (a2x n1), I1.put n1 ⟨vs, e, r.mono (a2x n1)⟩, ⟨a, rfl, .inl put_same⟩, fun b hb => ?_⟩
    by_cases hba : b = a
    · exact .inr (hba ▸ List.mem_cons_self)
    · rw [a5b hba] at hb
      exact (k1 b hb).imp id (List.mem_cons_of_mem _)
theorem OwnL.freeze : ∀ (ds : List D) {S : Reg} {vs : List V} {A : List Addr}, InvS K Z H S → OwnL Z H S ds vs A → A.Nodup →
    ∃ S', Le S S' ∧ InvS K Z H S' ∧ ShL Z S' vs (frL ds) ∧ ∀ b, S' b ≠ none → S b ≠ none ∨ b ∈ A
  | [], S, vs, A, I, h, _ => by
    obtain ⟨rfl, rfl⟩ := h
    exact ⟨S, Le.refl S, I, .nil, fun _ q => .inl q⟩
  | d :: ds, S, vs, A, I, h, nd => by
    obtain ⟨v, r, A1, A2, rfl, rfl, h1, h2⟩ := h
    obtain ⟨n1, n2, dj⟩ := List.nodup_append.mp nd
    obtain ⟨S1, l1, I1, r1, k1⟩ := Own.freeze d I h1 n1
    have h2' : OwnL Z H S1 ds r A2 := OwnL.keep l1 ds h2 fun b hb => ⟨rfl, by
      cases q : S1 b with
      | none => rfl
      | some x =>
        rcases k1 b (by rw [q]; exact fun z => nomatch z) with z | z
        · exact absurd (OwnL.mem ds h2 b hb).1 z
        · exact absurd rfl (dj b z b hb)⟩
    obtain ⟨S2, l2, I2, r2, k2⟩ := OwnL.freeze ds I1 h2' n2
    refine ⟨S2, l1.trans l2, I2, .cons (r1.mono l2) r2, fun b hb => ?_⟩
    rcases k2 b hb with z | z
    · exact (k1 b z).imp id fun q => List.mem_append_left _ q
    · exact .inr (List.mem_append_right _ z)
end
end
inductive Slot where
  | own (d : D) | io (d : D) | lent (d : D)
abbrev Env := List (Option Slot)
structure Hold where
  L : List Addr
  P : Nat → Option V
def SlotOk (Z : Zt) (H : Hp) (S : Reg) (L : List Addr) (p : Option V) (s : Slot) (v : V) (A : List Addr) : Prop :=
  match s with
  | .own d => Own Z H S d v A
  | .io d => Own Z H S d v A ∧ p = some v
  | .lent d => A = [] ∧ p = some v ∧ ∃ B, Own Z H S d v B ∧ ∀ b ∈ B, b ∈ L
structure RelA (K : PySem.W.Frag) (Z : Zt) (O : Hold) (H : Hp) (S : Reg) (R : List Addr) (ρ : Env) (σ : St) (As : Nat → List Addr) : Prop where
  inv : InvS K Z H S
  len : ρ.length = σ.length
  sl : ∀ i s, ρ[i]? = some (some s) → ∃ v, σ[i]? = some (some v) ∧ SlotOk Z H S O.L (O.P i) s v (As i)
  nil : ∀ i, (∀ s, ρ[i]? ≠ some (some s)) → As i = []
  nd : ∀ i, (As i).Nodup
  dj : ∀ i j, i ≠ j → ∀ b ∈ As i, b ∉ As j
  dr : ∀ i, ∀ b ∈ As i, b ∉ R ∧ b ∉ O.L
  rest : ∀ b, b ∈ R ∨ b ∈ O.L → S b = none ∧ H b ≠ none
def Rel (K : PySem.W.Frag) (Z : Zt) (O : Hold) (H : Hp) (S : Reg) (R : List Addr) (ρ : Env) (σ : St) : Prop := ∃ As, RelA K Z O H S R ρ σ As
def Fr (O : Hold) (R : List Addr) (H H' : Hp) : Prop := ∀ b, b ∈ R ∨ b ∈ O.L → H' b = H b
theorem Fr.refl (O : Hold) (R : List Addr) (H : Hp) : Fr O R H H := fun _ _ => rfl
theorem Fr.trans {O : Hold} {R : List Addr} {H H1 H2 : Hp} (a : Fr O R H H1) (b : Fr O R H1 H2) : Fr O R H H2 := fun c h => (b c h).trans (a c h)
theorem Fr.drop {O : Hold} {A R : List Addr} {H H1 : Hp} (a : Fr O (A ++ R) H H1) : Fr O R H H1 := fun c h => a c (h.imp (List.mem_append_right _) id)
section
variable {K : PySem.W.Frag} {Z : Zt} {O : Hold} {H H' : Hp} {S S' : Reg} {R A : List Addr} {ρ : Env} {σ : St} {As : Nat → List Addr}
theorem SlotOk.keep {p : Option V} {s : Slot} {v : V} {A : List Addr} {L : List Addr} (h : SlotOk Z H S L p s v A) (l : Le S S') (k : ∀ b, b ∈ A ∨ b ∈ L → H' b = H b ∧ S' b = none) : SlotOk Z H' S' L p s v A := by
  cases s with
  | own d => exact Own.keep l d h fun b hb => k b (.inl hb)
  | io d => exact ⟨Own.keep l d h.1 fun b hb => k b (.inl hb), h.2⟩
  | lent d => obtain ⟨e, q, B, h, hB⟩ := h; exact ⟨e, q, B, Own.keep l d h fun b hb => k b (.inr (hB b hb)), hB⟩
theorem RelA.step (r : RelA K Z O H S R ρ σ As) (l : Le S S') (inv : InvS K Z H' S') (k : ∀ b, (b ∈ R ∨ b ∈ O.L ∨ ∃ i, b ∈ As i) → H' b = H b ∧ S' b = none) : RelA K Z O H' S' R ρ σ As :=
  ⟨inv, r.len, fun i s e => let ⟨v, hv, q⟩ := r.sl i s e; ⟨v, hv, q.keep l fun b hb => hb.elim (fun z => k b (.inr (.inr ⟨i, z⟩))) fun z => k b (.inr (.inl z))⟩, r.nil, r.nd, r.dj, r.dr,
    fun b hb => ⟨(k b (hb.imp id .inl)).2, by rw [(k b (hb.imp id .inl)).1]; exact (r.rest b hb).2⟩⟩
theorem RelA.mem (r : RelA K Z O H S R ρ σ As) {i : Nat} {b : Addr} (h : b ∈ As i) : S b = none ∧ H b ≠ none := by
  cases e : ρ[i]? with
  | none => rw [r.nil i (by rw [e]; exact fun _ z => nomatch z)] at h; cases h
  | some o =>
    cases o with
    | none => rw [r.nil i (by rw [e]; exact fun _ z => nomatch z)] at h; cases h
    | some s =>
      obtain ⟨v, hv, q⟩ := r.sl i s e
      cases s with
      | own d => exact Own.mem d q b h
      | io d => exact Own.mem d q.1 b h
      | lent d => rw [q.1] at h; cases h
theorem RelA.all (r : RelA K Z O H S R ρ σ As) {b : Addr} (h : b ∈ R ∨ b ∈ O.L ∨ ∃ i, b ∈ As i) : S b = none ∧ H b ≠ none := by
  rcases h with h | h | ⟨i, h⟩
  · exact r.rest b (.inl h)
  · exact r.rest b (.inr h)
  · exact r.mem h
theorem RelA.alloc {p : Addr} {o : HO} (r : RelA K Z O H S R ρ σ As) (h : H p = none) : RelA K Z O (upd H p o) S R ρ σ As := by
  refine r.step (Le.refl S) (r.inv.heap (fun b hb => upd_ne ?_) fun a o u e => upd_ne ?_) fun b hb => ⟨upd_ne ?_, (r.all hb).1⟩
  · rintro rfl; exact hb (r.inv.fresh h)
  · rintro rfl; rw [h] at e; cases e
  · rintro rfl; exact (r.all hb).2 h
theorem RelA.drop (r : RelA K Z O H S (A ++ R) ρ σ As) : RelA K Z O H S R ρ σ As :=
  ⟨r.inv, r.len, r.sl, r.nil, r.nd, r.dj, fun i b hb => ⟨fun z => (r.dr i b hb).1 (List.mem_append_right _ z), (r.dr i b hb).2⟩, fun b hb => r.rest b (hb.imp (List.mem_append_right _) id)⟩
theorem Rel.drop (r : Rel K Z O H S (A ++ R) ρ σ) : Rel K Z O H S R ρ σ := let ⟨As, r⟩ := r; ⟨As, r.drop⟩
theorem Rel.inv (r : Rel K Z O H S R ρ σ) : InvS K Z H S := let ⟨_, r⟩ := r; r.inv
theorem RelA.hold (r : RelA K Z O H S R ρ σ As) (hA : ∀ b ∈ A, S b = none ∧ H b ≠ none) (hd : ∀ i, ∀ b ∈ As i, b ∉ A) : RelA K Z O H S (A ++ R) ρ σ As :=
  ⟨r.inv, r.len, r.sl, r.nil, r.nd, r.dj, fun i b hb => ⟨fun z => (List.mem_append.mp z).elim (hd i b hb) (r.dr i b hb).1, (r.dr i b hb).2⟩,
    fun b hb => hb.elim (fun z => (List.mem_append.mp z).elim (hA b) fun z => r.rest b (.inl z)) fun z => r.rest b (.inr z)⟩
theorem Rel.new {p : Addr} {o : HO} (r : Rel K Z O H S R ρ σ) (h : H p = none) : Rel K Z O (upd H p o) S ([p] ++ R) ρ σ ∧ Fr O R H (upd H p o) ∧ S p = none ∧ p ∉ R ∧ p ∉ O.L := by
  obtain ⟨As, r⟩ := r
  have np : S p = none := r.inv.fresh h
  have nR : ∀ b, b ∈ R ∨ b ∈ O.L → b ≠ p := fun b hb => by rintro rfl; exact (r.rest b hb).2 h
  refine ⟨⟨As, (r.alloc h).hold (A := [p]) (fun b hb => ?_) fun i b hb z => ?_⟩, fun b hb => upd_ne (nR b hb), np, fun z => nR p (.inl z) rfl, fun z => nR p (.inr z) rfl⟩
  · obtain rfl := List.mem_singleton.mp hb
    exact ⟨np, by rw [upd_same]; exact fun z => nomatch z⟩
  · obtain rfl := List.mem_singleton.mp z
    exact (r.mem hb).2 h
theorem Rel.freeze {d : D} {v : V} (r : Rel K Z O H S (A ++ R) ρ σ) (h : Own Z H S d v A) (nd : A.Nodup) (hR : ∀ b ∈ A, b ∉ R ∧ b ∉ O.L) :
    ∃ S', Le S S' ∧ Sh Z S' v (fr d) ∧ Rel K Z O H S' R ρ σ := by
  obtain ⟨As, r⟩ := r
  obtain ⟨S', l, I, q, k⟩ := Own.freeze d r.inv h nd
  refine ⟨S', l, q, As, r.drop.step l I fun b hb => ⟨rfl, ?_⟩⟩
  cases e : S' b with
  | none => rfl
  | some x =>
    rcases k b (by rw [e]; exact fun z => nomatch z) with z | z
    · exact absurd (r.drop.all hb).1 z
    · rcases hb with hb | hb | ⟨i, hb⟩
      · exact absurd hb (hR b z).1
      · exact absurd hb (hR b z).2
      · exact absurd (List.mem_append_left _ z) (r.dr i b hb).1
end
end Dv
namespace Dv
open PySem L2
structure Exn where
  c : Str
  ns : List Str
  vs : List D
inductive Res (α : Type) where
  | ok (a : α) (ρ : Env) | ex (x : Exn) (ρ : Env) | bad
abbrev M (α : Type) := Env → Res α
def M.bind {α β : Type} (a : M α) (f : α → M β) : M β := fun ρ => match a ρ with
  | .ok x ρ' => f x ρ'
  | .ex x ρ' => .ex x ρ'
  | .bad => .bad
inductive Out where
  | nx (ρ : Env) | rt (d : D) (ρ : Env) | bk (ρ : Env) | ct (ρ : Env) | ex (x : Exn) (ρ : Env) | bad
abbrev C := Env → Out
inductive Opd where
  | nm (i : Nat) | va (d : D) | vw (d : D)
def Slot.d : Slot → D
  | .own d => d | .io d => d | .lent d => d
def look (ρ : Env) : Opd → Option D
  | .nm i => match ρ[i]? with | some (some s) => some s.d | _ => none
  | .va d => some d
  | .vw d => some d
def a3p (ρ : Env) : List Opd → Option (List D)
  | [] => some []
  | o :: os => match look ρ o, a3p ρ os with | some d, some ds => some (d :: ds) | _, _ => none
def ExcIs (Z : Zt) (H : Hp) (S : Reg) (cls : Value) (d : Option Addr) (x : Exn) : Prop :=
  ∃ C dx, Z.cls x.c = some C ∧ cls = .ref C ∧ d = some dx ∧ S dx = some (.xds x.ns x.vs)
def View (Z : Zt) (H : Hp) (S : Reg) (v : V) (d : D) : Prop := ∃ B, Own Z H S d v B
def OpdOk (Z : Zt) (L : List Addr) (H : Hp) (S : Reg) (σ : St) (o : Opd) (v : V) (A : List Addr) : Prop := match o with
  | .nm i => σ[i]? = some (some v) ∧ A = []
  | .va d => Own Z H S d v A
  | .vw d => A = [] ∧ ∃ B, Own Z H S d v B ∧ ∀ b ∈ B, b ∈ L
def OpdsOk (Z : Zt) (L : List Addr) (H : Hp) (S : Reg) (σ : St) : List Opd → List V → List Addr → Prop
  | [], vs, A => vs = [] ∧ A = []
  | o :: os, vs, A => ∃ v r A1 A2, vs = v :: r ∧ A = A1 ++ A2 ∧ OpdOk Z L H S σ o v A1 ∧ OpdsOk Z L H S σ os r A2
section
variable (K : PySem.W.Frag) (Z : Zt) (O : Hold) (W : WX) (H : Hp) (S : Reg) (R : List Addr) (σ : St)
def XP (x : Exn) (ρ' : Env) : Prop := ∀ H' S' cls d, Le S S' → ExcIs Z H' S' cls d x → Rel K Z O H' S' R ρ' σ → Fr O R H H' → W cls d σ H'
def Han (Q : V → Hp → Prop) (P : Hp → Reg → V → List Addr → Prop) (ρ' : Env) : Prop :=
  ∀ v H' S' A, Le S S' → P H' S' v A → A.Nodup → (∀ b ∈ A, b ∉ R ∧ b ∉ O.L) → Rel K Z O H' S' (A ++ R) ρ' σ → Fr O R H H' → Q v H'
def EPost (Q : VK) : Res D → Prop
  | .ok d ρ' => Han K Z O H S R σ Q (fun H' S' v A => Own Z H' S' d v A) ρ'
  | .ex x ρ' => XP K Z O W H S R σ x ρ'
  | .bad => False
def b38 (Q : VK) : Res Opd → Prop
  | .ok o ρ' => Han K Z O H S R σ Q (fun H' S' v A => OpdOk Z O.L H' S' σ o v A) ρ'
  | .ex x ρ' => XP K Z O W H S R σ x ρ'
  | .bad => False
def b4e (Q : List V → Hp → Prop) : Res (List Opd) → Prop
  | .ok os ρ' => ∀ vs H' S' A, Le S S' → OpdsOk Z O.L H' S' σ os vs A → A.Nodup → (∀ b ∈ A, b ∉ R ∧ b ∉ O.L) → Rel K Z O H' S' (A ++ R) ρ' σ → Fr O R H H' → Q vs H'
  | .ex x ρ' => XP K Z O W H S R σ x ρ'
  | .bad => False
def TPost (Q : Bool → Hp → Prop) : Res Bool → Prop
  | .ok b ρ' => ∀ H' S', Le S S' → Rel K Z O H' S' R ρ' σ → Fr O R H H' → Q b H'
  | .ex x ρ' => XP K Z O W H S R σ x ρ'
  | .bad => False
end
def SPost (K : PySem.W.Frag) (Z : Zt) (O : Hold) (W : WX) (H : Hp) (S : Reg) (R : List Addr) (E : Ends) : Out → Prop
  | .nx ρ' => ∀ σ' H' S', Le S S' → Rel K Z O H' S' R ρ' σ' → Fr O R H H' → E.nx σ' H'
  | .bk ρ' => ∀ σ' H' S', Le S S' → Rel K Z O H' S' R ρ' σ' → Fr O R H H' → E.bk σ' H'
  | .ct ρ' => ∀ σ' H' S', Le S S' → Rel K Z O H' S' R ρ' σ' → Fr O R H H' → E.ct σ' H'
  | .rt d ρ' => ∀ v σ' H' S' A, Le S S' → Own Z H' S' d v A → A.Nodup → (∀ b ∈ A, b ∉ R ∧ b ∉ O.L) → Rel K Z O H' S' (A ++ R) ρ' σ' → Fr O R H H' → E.rt v H'
  | .ex x ρ' => ∀ σ', XP K Z O W H S R σ' x ρ'
  | .bad => False
def SE (X : Cx) (Z : Zt) (W : WX) (e : Expr) (f : M D) : Prop :=
  ∃ t, PE X e t ∧ ∀ O H S R ρ σ Q, Rel X.K Z O H S R ρ σ → EPost X.K Z O W H S R σ Q (f ρ) → t σ H Q
def SO (X : Cx) (Z : Zt) (W : WX) (e : Expr) (f : M Opd) : Prop :=
  ∃ t, PE X e t ∧ ∀ O H S R ρ σ Q, Rel X.K Z O H S R ρ σ → b38 X.K Z O W H S R σ Q (f ρ) → t σ H Q
def SA (X : Cx) (Z : Zt) (W : WX) (es : List Expr) (f : M (List Opd)) : Prop :=
  ∃ t, PA X es t ∧ ∀ O H S R ρ σ Q, Rel X.K Z O H S R ρ σ → b4e X.K Z O W H S R σ Q (f ρ) → t σ H Q
def ST (X : Cx) (Z : Zt) (W : WX) (e : Expr) (f : M Bool) : Prop :=
  ∃ t, PT X e t ∧ ∀ O H S R ρ σ Q, Rel X.K Z O H S R ρ σ → TPost X.K Z O W H S R σ Q (f ρ) → t σ H Q
def SW (X : Cx) (Z : Zt) (W : WX) (e : Expr) (f : M Bool) : Prop :=
  ∃ t, PW X e t ∧ ∀ O H S R ρ σ Q, Rel X.K Z O H S R ρ σ → TPost X.K Z O W H S R σ Q (f ρ) → t σ H Q
def SS (X : Cx) (Z : Zt) (W : WX) (st : Stmt) (c : C) : Prop :=
  ∃ t, PS X st t ∧ ∀ O H S R ρ σ E, Rel X.K Z O H S R ρ σ → SPost X.K Z O W H S R E (c ρ) → t E σ H
def SSs (X : Cx) (Z : Zt) (W : WX) (st : List Stmt) (c : C) : Prop :=
  ∃ t, PSs X st t ∧ ∀ O H S R ρ σ E, Rel X.K Z O H S R ρ σ → SPost X.K Z O W H S R E (c ρ) → t E σ H
section
variable {K : PySem.W.Frag} {Z : Zt} {O : Hold} {W : WX} {H H1 : Hp} {S S1 : Reg} {R A : List Addr} {σ : St} {ρ ρ' : Env} {As : Nat → List Addr}
theorem XP.weak {x : Exn} (h : XP K Z O W H S R σ x ρ') (l : Le S S1) (k : Fr O R H H1) : XP K Z O W H1 S1 (A ++ R) σ x ρ' :=
  fun H' S' cls d l' e r f => h H' S' cls d (l.trans l') e r.drop (k.trans f.drop)
theorem XP.weak0 {x : Exn} (h : XP K Z O W H S R σ x ρ') (l : Le S S1) (k : Fr O R H H1) : XP K Z O W H1 S1 R σ x ρ' := XP.weak (A := []) h l k
theorem RelA.put {s : Slot} {v : V} {σ' : St} {i : Nat} (r : RelA K Z O H S (A ++ R) ρ σ As) (hs : SlotOk Z H S O.L (O.P i) s v A) (nd : A.Nodup) (hR : ∀ b ∈ A, b ∉ R ∧ b ∉ O.L)
    (hi : i < ρ.length) (hl : σ'.length = σ.length) (h1 : σ'[i]? = some (some v)) (h2 : ∀ j, j ≠ i → σ'[j]? = σ[j]?) : RelA K Z O H S R (ρ.set i (some s)) σ' (fun j => if j = i then A else As j) := by
  have q := r.drop
  refine ⟨q.inv, by rw [List.length_set, q.len, hl], fun j t e => ?_, fun j h => ?_, fun j => ?_, fun j m hjm b hb => ?_, fun j b hb => ?_, q.rest⟩
  · by_cases hj : j = i
    · subst hj
      rw [List.getElem?_set_self hi] at e
      cases e
      exact ⟨v, h1, by simpa using hs⟩
    · rw [List.getElem?_set_ne (Ne.symm hj)] at e
      obtain ⟨w, hw, z⟩ := q.sl j t e
      exact ⟨w, (h2 j hj).trans hw, by simpa [hj] using z⟩
  · by_cases hj : j = i
    · subst hj
      exact absurd (List.getElem?_set_self hi) (h s)
    · simp only [hj, if_false]
      refine q.nil j fun t e => h t ?_
      rw [List.getElem?_set_ne (Ne.symm hj)]
      exact e
  · by_cases hj : j = i
    · simpa [hj] using nd
    · simpa [hj] using q.nd j
  · by_cases hj : j = i
    · have hm : m ≠ i := fun z => hjm (hj.trans z.symm)
      simp only [hj, hm, if_true, if_false] at hb ⊢
      exact fun z => (r.dr m b z).1 (List.mem_append_left _ hb)
    · by_cases hm : m = i
      · simp only [hj, hm, if_true, if_false] at hb ⊢
        exact fun z => (r.dr j b hb).1 (List.mem_append_left _ z)
      · simp only [hj, hm, if_false] at hb ⊢
        exact q.dj j m hjm b hb
  · by_cases hj : j = i
    · simp only [hj, if_true] at hb
      exact hR b hb
    · simp only [hj, if_false] at hb
      exact q.dr j b hb
theorem RelA.take {i : Nat} (r : RelA K Z O H S R ρ σ As) : RelA K Z O H S (As i ++ R) (ρ.set i none) σ (fun j => if j = i then [] else As j) := by
  refine ⟨r.inv, by rw [List.length_set, r.len], fun j t e => ?_, fun j h => ?_, fun j => ?_, fun j m hjm b hb => ?_, fun j b hb => ?_, fun b hb => ?_⟩
  · by_cases hj : j = i
    · subst hj
      by_cases hi : j < ρ.length
      · rw [List.getElem?_set_self hi] at e; cases e
      · rw [List.getElem?_eq_none (by rw [List.length_set]; omega)] at e; cases e
    · rw [List.getElem?_set_ne (Ne.symm hj)] at e
      obtain ⟨w, hw, z⟩ := r.sl j t e
      exact ⟨w, hw, by simpa [hj] using z⟩
  · by_cases hj : j = i
    · simp [hj]
    · simp only [hj, if_false]
      refine r.nil j fun t e => h t ?_
      rw [List.getElem?_set_ne (Ne.symm hj)]
      exact e
  · by_cases hj : j = i
    · simp [hj]
    · simpa [hj] using r.nd j
  · by_cases hj : j = i
    · simp [hj] at hb
    · by_cases hm : m = i
      · simp [hm]
      · simp only [hj, hm, if_false] at hb ⊢
        exact r.dj j m hjm b hb
  · by_cases hj : j = i
    · simp [hj] at hb
    · simp only [hj, if_false] at hb
      exact ⟨fun z => (List.mem_append.mp z).elim (r.dj j i hj b hb) (r.dr j b hb).1, (r.dr j b hb).2⟩
  · rcases hb with hb | hb
    · rcases List.mem_append.mp hb with hb | hb
      · exact r.mem hb
      · exact r.rest b (.inl hb)
    · exact r.rest b (.inr hb)
def rdN (i : Nat) : M D := fun ρ => match ρ[i]? with
  | some (some (.own d)) => if owned d = true then .ok (fr d) (ρ.set i (some (.own (fr d)))) else .ok d ρ
  | some (some (.io d)) => if owned d = true then .ok (fr d) (ρ.set i (some (.io (fr d)))) else .ok d ρ
  | some (some (.lent d)) => if owned d = true then .bad else .ok d ρ
  | _ => .bad
def nmN (i : Nat) : M Opd := fun ρ => match ρ[i]? with
  | some (some _) => .ok (.nm i) ρ
  | _ => .bad
theorem Rel.slot {i : Nat} {s : Slot} (r : Rel K Z O H S R ρ σ) (h : ρ[i]? = some (some s)) : ∃ v, σ[i]? = some (some v) ∧ View Z H S v s.d := by
  obtain ⟨As, r⟩ := r
  obtain ⟨v, hv, q⟩ := r.sl i s h
  refine ⟨v, hv, ?_⟩
  cases s with
  | own d => exact ⟨_, q⟩
  | io d => exact ⟨_, q.1⟩
  | lent d => obtain ⟨_, _, B, q, _⟩ := q; exact ⟨B, q⟩
theorem ac4 {i : Nat} {d : D} {s : Slot} {v : V} (r : RelA K Z O H S R ρ σ As) (h : ρ[i]? = some (some s)) (hv : σ[i]? = some (some v)) (q : Own Z H S d v (As i)) (s' : Slot)
    (hs : ∀ S', Sh Z S' v (fr d) → SlotOk Z H S' O.L (O.P i) s' v []) : ∃ S', Le S S' ∧ Sh Z S' v (fr d) ∧ Rel K Z O H S' R (ρ.set i (some s')) σ := by
  have hi : i < ρ.length := (List.getElem?_eq_some_iff.mp h).1
  obtain ⟨S', l, z, As', r'⟩ := Rel.freeze (R := R) ⟨_, r.take (i := i)⟩ q (r.nd i) (r.dr i)
  have := RelA.put (R := R) (A := []) (σ' := σ) (i := i) (s := s') (v := v) r' (hs S' z) List.nodup_nil (fun _ hb => nomatch hb) (by rw [List.length_set]; exact hi) rfl hv fun _ _ => rfl
  rw [List.set_set] at this
  exact ⟨S', l, z, _, this⟩
theorem b8a {i : Nat} {Q : VK} (r : Rel K Z O H S R ρ σ) (h : EPost K Z O W H S R σ Q (rdN i ρ)) : ∃ v, σ[i]? = some (some v) ∧ Q v H := by
  unfold rdN at h
  cases e : ρ[i]? with
  | none => rw [e] at h; exact h.elim
  | some o =>
    cases o with
    | none => rw [e] at h; exact h.elim
    | some s =>
      rw [e] at h
      obtain ⟨As, r⟩ := r
      obtain ⟨v, hv, q⟩ := r.sl i s e
      refine ⟨v, hv, ?_⟩
      have plain : ∀ d, owned d = false → Own Z H S d v (As i) ∨ (∃ B, Own Z H S d v B) → EPost K Z O W H S R σ Q (.ok d ρ) → Q v H := fun d hd hq hp => by
        have hsh : Sh Z S v d := by
          rcases hq with hq | ⟨B, hq⟩
          · exact (hq.sh hd).2
          · exact (hq.sh hd).2
        exact hp v H S [] (Le.refl S) (Own.of_sh hsh hd) List.nodup_nil (fun _ hb => nomatch hb) ⟨As, r⟩ (Fr.refl _ _ _)
      cases s with
      | own d =>
        simp only at h
        cases hd : owned d with
        | true =>
          rw [if_pos hd] at h
          obtain ⟨S', l, z, r'⟩ := ac4 (d := d) r e hv q (.own (fr d)) fun S' z => Own.of_sh z (a4h d)
          exact h v H S' [] l (Own.of_sh z (a4h d)) List.nodup_nil (fun _ hb => nomatch hb) r' (Fr.refl _ _ _)
        | false =>
          rw [if_neg (by rw [hd]; decide)] at h
          exact plain d hd (.inl q) h
      | io d =>
        simp only at h
        cases hd : owned d with
        | true =>
          rw [if_pos hd] at h
          obtain ⟨S', l, z, r'⟩ := ac4 (d := d) r e hv q.1 (.io (fr d)) fun S' z => ⟨Own.of_sh z (a4h d), q.2⟩
          exact h v H S' [] l (Own.of_sh z (a4h d)) List.nodup_nil (fun _ hb => nomatch hb) r' (Fr.refl _ _ _)
        | false =>
          rw [if_neg (by rw [hd]; decide)] at h
          exact plain d hd (.inl q.1) h
      | lent d =>
        simp only at h
        cases hd : owned d with
        | true => rw [if_pos hd] at h; exact h.elim
        | false =>
          rw [if_neg (by rw [hd]; decide)] at h
          obtain ⟨_, _, B, q, _⟩ := q
          exact plain d hd (.inr ⟨B, q⟩) h
end
section
variable {X : Cx} {Z : Zt} {W : WX}
theorem j8 (i : Nat) {x : Str} {pos : Pos} (hN : X.N[i]? = some x := by rfl) (hv : Vis X.env.scope x := by first | exact Or.inl rfl | exact Or.inr (Or.inl rfl) | exact Or.inr (Or.inr rfl)) (hd : (x == ("__debug__" : Str)) = false := by decide)
    (hcd : (x == ("__classdict__" : Str)) = false := by decide) : SE X Z W (.Name x pos) (rdN i) :=
  ⟨_, pe_var hN hv hd hcd, fun _ _ _ _ _ _ _ r h => b8a r h⟩
theorem j5 (i : Nat) {x : Str} {pos : Pos} (hN : X.N[i]? = some x := by rfl) (hv : Vis X.env.scope x := by first | exact Or.inl rfl | exact Or.inr (Or.inl rfl) | exact Or.inr (Or.inr rfl)) (hd : (x == ("__debug__" : Str)) = false := by decide)
    (hcd : (x == ("__classdict__" : Str)) = false := by decide) : SO X Z W (.Name x pos) (nmN i) := by
  refine ⟨_, pe_var hN hv hd hcd, fun O H S R ρ σ Q r h => ?_⟩
  unfold nmN at h
  cases e : ρ[i]? with
  | none => rw [e] at h; exact h.elim
  | some o =>
    cases o with
    | none => rw [e] at h; exact h.elim
    | some s =>
      rw [e] at h
      obtain ⟨v, hv, _⟩ := r.slot e
      exact ⟨v, hv, h v H S [] (Le.refl S) ⟨hv, rfl⟩ List.nodup_nil (fun _ hb => nomatch hb) r (Fr.refl _ _ _)⟩
def va (f : M D) : M Opd := M.bind f fun d ρ => .ok (.va d) ρ
theorem d8 {e : Expr} {f : M D} (h : SE X Z W e f) : SO X Z W e (va f) := by
  obtain ⟨t, h1, h2⟩ := h
  refine ⟨t, h1, fun O H S R ρ σ Q r h => h2 O H S R ρ σ Q r ?_⟩
  unfold va M.bind at h
  cases e : f ρ with
  | ok d ρ' => rw [e] at h; exact h
  | ex x ρ' => rw [e] at h; exact h
  | bad => rw [e] at h; exact h
def t8 : M (List Opd) := fun ρ => .ok [] ρ
def d9 (f : M Opd) (g : M (List Opd)) : M (List Opd) := M.bind f fun o => M.bind g fun os ρ => .ok (o :: os) ρ
theorem j6 : SA X Z W [] t8 := ⟨_, pa_nil, fun O H S R ρ σ Q r h => h [] H S [] (Le.refl S) ⟨rfl, rfl⟩ List.nodup_nil (fun _ hb => nomatch hb) r (Fr.refl _ _ _)⟩
theorem OpdOk.keep {L : List Addr} {H H' : Hp} {S S' : Reg} {σ : St} {o : Opd} {v : V} {A : List Addr} (h : OpdOk Z L H S σ o v A) (l : Le S S') (k : ∀ b, b ∈ A ∨ b ∈ L → H' b = H b ∧ S' b = none) : OpdOk Z L H' S' σ o v A := by
  cases o with
  | nm i => exact h
  | va d => exact Own.keep l d h fun b hb => k b (.inl hb)
  | vw d =>
    obtain ⟨e, B, h, hB⟩ := h
    exact ⟨e, B, Own.keep l d h fun b hb => k b (.inr (hB b hb)), hB⟩
theorem OpdOk.mem {L : List Addr} {H : Hp} {S : Reg} {σ : St} {o : Opd} {v : V} {A : List Addr} (h : OpdOk Z L H S σ o v A) : ∀ b ∈ A, S b = none ∧ H b ≠ none := by
  cases o with
  | nm i => intro b hb; rw [h.2] at hb; cases hb
  | va d => exact Own.mem d h
  | vw d => intro b hb; rw [h.1] at hb; cases hb
theorem d7 {e : Expr} {es : List Expr} {f : M Opd} {g : M (List Opd)} (h : SO X Z W e f) (hs : SA X Z W es g) (hst : starEach (e :: es) X.env = (false, eval e X.env) :: starEach es X.env := by rfl) : SA X Z W (e :: es) (d9 f g) := by
  obtain ⟨t, h1, h2⟩ := h
  obtain ⟨u, u1, u2⟩ := hs
  refine ⟨_, pa_cons h1 u1 hst, fun O H S R ρ σ Q r h => h2 O H S R ρ σ _ r ?_⟩
  unfold d9 M.bind at h
  cases e : f ρ with
  | ok o ρ1 =>
    rw [e] at h
    intro v H1 S1 A1 l1 q1 n1 d1 r1 f1
    refine u2 O H1 S1 (A1 ++ R) ρ1 σ _ r1 ?_
    simp only at h
    cases e2 : g ρ1 with
    | ok os ρ2 =>
      rw [e2] at h
      intro vs H2 S2 A2 l2 q2 n2 d2 r2 f2
      have kA : ∀ b, b ∈ A1 ∨ b ∈ O.L → H2 b = H1 b ∧ S2 b = none := fun b hb => ⟨f2 b (hb.imp (List.mem_append_left _) id), by
        obtain ⟨As, r2⟩ := r2
        exact (r2.rest b (hb.imp (fun hb => List.mem_append_right _ (List.mem_append_left _ hb)) id)).1⟩
      have hperm : ∀ b, b ∈ A2 ++ (A1 ++ R) ↔ b ∈ (A1 ++ A2) ++ R := fun b => by simp [List.mem_append, or_left_comm, or_assoc]
      refine h (v :: vs) H2 S2 (A1 ++ A2) (l1.trans l2) ⟨v, vs, A1, A2, rfl, rfl, q1.keep l2 kA, q2⟩ (List.nodup_append.mpr ⟨n1, n2, fun a ha b hb z => (d2 b hb).1 (List.mem_append_left _ (z ▸ ha))⟩) (fun b hb => ?_) ?_ (f1.trans f2.drop)
      · rcases List.mem_append.mp hb with hb | hb
        · exact d1 b hb
        · exact ⟨fun z => (d2 b hb).1 (List.mem_append_right _ z), (d2 b hb).2⟩
      · obtain ⟨As, r2⟩ := r2
        exact ⟨As, r2.inv, r2.len, r2.sl, r2.nil, r2.nd, r2.dj, fun i b hb => ⟨fun z => (r2.dr i b hb).1 ((hperm b).mpr z), (r2.dr i b hb).2⟩, fun b hb => r2.rest b (hb.imp (hperm b).mpr id)⟩
    | ex x ρ2 => rw [e2] at h; exact h.weak l1 f1
    | bad => rw [e2] at h; exact h.elim
  | ex x ρ1 => rw [e] at h; exact h
  | bad => rw [e] at h; exact h.elim
end
end Dv
namespace Dv
open PySem L2
structure ExtS (K : PySem.W.Frag) (Z : Zt) (H : Hp) (S : Reg) (H' : Hp) (S' : Reg) : Prop where
  le : Le S S'
  inv : InvS K Z H' S'
  keep : ∀ b, H b ≠ none → H' b = H b ∧ (S b = none → S' b = none)
section
variable {K : PySem.W.Frag} {Z : Zt} {O : Hold} {W : WX} {H H' : Hp} {S S' : Reg} {R A : List Addr} {σ : St} {ρ : Env}
theorem ExtS.refl (I : InvS K Z H S) : ExtS K Z H S H S := ⟨Le.refl S, I, fun _ _ => ⟨rfl, id⟩⟩
theorem Rel.ext (r : Rel K Z O H S R ρ σ) (e : ExtS K Z H S H' S') (hA : ∀ b ∈ A, H b = none) (hm : ∀ b ∈ A, S' b = none ∧ H' b ≠ none) : Rel K Z O H' S' (A ++ R) ρ σ ∧ Fr O R H H' ∧ ∀ b ∈ A, b ∉ R ∧ b ∉ O.L := by
  obtain ⟨As, r⟩ := r
  have r' : RelA K Z O H' S' R ρ σ As := r.step e.le e.inv fun b hb => ⟨(e.keep b (r.all hb).2).1, (e.keep b (r.all hb).2).2 (r.all hb).1⟩
  refine ⟨⟨As, r'.hold hm fun i b hb z => ?_⟩, fun b hb => (e.keep b (r.rest b hb).2).1, fun b hb => ⟨fun z => ?_, fun z => ?_⟩⟩
  · exact (r.mem hb).2 (hA b z)
  · exact (r.rest b (.inl z)).2 (hA b hb)
  · exact (r.rest b (.inr z)).2 (hA b hb)
theorem View.keep {v : V} {d : D} (h : View Z H S v d) (e : ExtS K Z H S H' S') : View Z H' S' v d :=
  let ⟨B, h⟩ := h; ⟨B, Own.keep e.le d h fun b hb => ⟨(e.keep b (Own.mem d h b hb).2).1, (e.keep b (Own.mem d h b hb).2).2 (Own.mem d h b hb).1⟩⟩
end
def Gives (K : PySem.W.Frag) (Z : Zt) (H : Hp) (S : Reg) (d : D) (Q : VK) : Prop :=
  ∀ v H' S' A, ExtS K Z H S H' S' → Own Z H' S' d v A → A.Nodup → (∀ b ∈ A, H b = none) → Q v H'
section
variable {K : PySem.W.Frag} {Z : Zt} {O : Hold} {W : WX} {H H' : Hp} {S S' : Reg} {R A : List Addr} {σ : St} {ρ : Env} {Q : VK}
theorem a3d {d : D} (r : Rel K Z O H S R ρ σ) (h : EPost K Z O W H S R σ Q (.ok d ρ)) : Gives K Z H S d Q := fun v H' S' A e q nd fr => by
  obtain ⟨r', f, dj⟩ := r.ext (A := A) e fr fun b hb => Own.mem d q b hb
  exact h v H' S' A e.le q nd dj r' f
theorem a2c {d : D} {v : V} (g : Gives K Z H S d Q) (I : InvS K Z H S) (h : Sh Z S v d) (o : owned d = false) : Q v H :=
  g v H S [] (ExtS.refl I) (Own.of_sh h o) List.nodup_nil fun _ hb => nomatch hb
theorem a1d {ds : List D} {vs : List V} (g : Gives K Z H S (.lst true ds) Q) (I : InvS K Z H S) (h : ShL Z S vs ds) (o : ∀ d ∈ ds, owned d = false) {p : Addr} (hp : H p = none) : Q (.ref p) (upd H p (.lst vs)) := by
  have np := I.fresh hp
  have e : ExtS K Z H S (upd H p (.lst vs)) S := ⟨Le.refl S, I.heap (fun b hb => upd_ne fun z => by subst z; exact hb np) (fun a o u e => upd_ne fun z => by subst z; rw [hp] at e; cases e), fun b hb => ⟨upd_ne fun z => by subst z; exact hb hp, id⟩⟩
  exact g _ _ S [p] e ⟨p, vs, [], rfl, rfl, upd_same, np, OwnL.of_sh h o⟩ (by simp) fun b hb => by rw [List.mem_singleton.mp hb]; exact hp
theorem a4u {ds : List D} {vs : List V} (g : Gives K Z H S (.tup ds) Q) (I : InvS K Z H S) (h : ShL Z S vs ds) : ao9 H vs Q := fun p o hp hd => by
  have np := I.fresh hp
  have I1 : InvS K Z (upd H p (.frz o (.tup vs))) S := I.heap (fun b hb => upd_ne fun z => by subst z; exact hb np) (fun a o u e => upd_ne fun z => by subst z; rw [hp] at e; cases e)
  have l := a2x (d := .tup ds) np
  have e : ExtS K Z H S (upd H p (.frz o (.tup vs))) (put S p (.tup ds)) := ⟨l, I1.put np ⟨vs, ⟨o, hd, upd_same⟩, h.mono l⟩, fun b hb => ⟨upd_ne fun z => by subst z; exact hb hp, fun q => by rw [a5b (fun z => by subst z; exact hb hp)]; exact q⟩⟩
  exact g _ _ _ [] e ⟨rfl, p, rfl, .inl put_same⟩ List.nodup_nil fun _ hb => nomatch hb
abbrev ViewL (Z : Zt) (H : Hp) (S : Reg) : List V → List D → Prop := Paired (View Z H S)
theorem OwnL.views : ∀ {ds : List D} {vs : List V} {A : List Addr}, OwnL Z H S ds vs A → ViewL Z H S vs ds
  | [], _, _, h => by rw [h.1]; exact .nil
  | d :: ds, _, _, h => by
    obtain ⟨v, r, A1, A2, rfl, rfl, h1, h2⟩ := h
    exact .cons ⟨_, h1⟩ (OwnL.views h2)
theorem Sh.un (I : InvS K Z H S) {v : V} {d : D} (h : Sh Z S v d) : owned d = false := by
  cases d with
  | lst o xs =>
    cases o with
    | false => rfl
    | true =>
      obtain ⟨a, _, h | ⟨_, _, e⟩⟩ := h
      · exact (I.node a _ h).elim
      · cases e
  | dic o tk ks xs =>
    cases o with
    | false => rfl
    | true =>
      obtain ⟨a, _, h | ⟨_, _, e⟩⟩ := h
      · exact (I.node a _ h).elim
      · cases e
  | obj o c ns xs =>
    cases o with
    | false => rfl
    | true =>
      obtain ⟨a, _, h | ⟨_, _, e⟩⟩ := h
      · exact (I.node a _ h).elim
      · cases e
  | pgs o xs =>
    cases o with
    | false => rfl
    | true =>
      obtain ⟨a, _, h | ⟨_, _, e⟩⟩ := h
      · exact (I.node a _ h).elim
      · cases e
  | dicL ks xs =>
    obtain ⟨a, _, h | ⟨_, _, e⟩⟩ := h
    · exact (I.node a _ h).elim
    · cases e
  | otp xs =>
    obtain ⟨a, _, h | ⟨_, _, e⟩⟩ := h
    · exact (I.node a _ h).elim
    · cases e
  | _ => rfl
theorem Sh.view (I : InvS K Z H S) {v : V} {d : D} (h : Sh Z S v d) : View Z H S v d := ⟨[], Own.of_sh h (h.un I)⟩
theorem ShL.views (I : InvS K Z H S) {vs : List V} {ds : List D} (h : ShL Z S vs ds) : ViewL Z H S vs ds := Paired.mapP h fun _ _ x => x.view I
theorem ShL.un (I : InvS K Z H S) : ∀ {vs : List V} {ds : List D}, ShL Z S vs ds → ∀ d ∈ ds, owned d = false
  | _, _, .nil, _, h => nomatch h
  | _, _, .cons a b, d, h => by
    rcases List.mem_cons.mp h with rfl | h
    · exact a.un I
    · exact ShL.un I b d h
theorem View.sh {v : V} {d : D} (h : View Z H S v d) (o : owned d = false) : Sh Z S v d := let ⟨_, h⟩ := h; (h.sh o).2
def a0d (ds : List D) : Bool := ds.all fun d => !owned d
theorem z9 {ds : List D} (h : a0d ds = true) : ∀ d ∈ ds, owned d = false := fun d hd => by
  have := List.all_eq_true.mp h d hd
  simpa using this
theorem ViewL.sh : ∀ {vs : List V} {ds : List D}, ViewL Z H S vs ds → (∀ d ∈ ds, owned d = false) → ShL Z S vs ds
  | _, _, .nil, _ => .nil
  | _, _, .cons a b, o => .cons (a.sh (o _ List.mem_cons_self)) (ViewL.sh b fun d hd => o d (List.mem_cons_of_mem _ hd))
theorem View.flat {v w : V} {d : D} (h : View Z H S v d) (e : flat d = some w) : v = w := by
  have hs : Sh Z S v d := h.sh (by cases d with
    | lst o xs => cases e
    | dic o tk ks xs => cases e
    | obj o c ns xs => cases e
    | pgs o xs => cases e
    | dicL _ _ => cases e
    | otp _ => cases e
    | _ => rfl)
  unfold Sh at hs
  rw [e] at hs
  exact hs
theorem View.int {v : V} {i : Int} (h : View Z H S v (.int i)) : v = .int i := h.flat rfl
theorem View.str {v : V} {x : Str} (h : View Z H S v (.str x)) : v = .str x := h.flat rfl
theorem View.bl {v : V} {b : Bool} (h : View Z H S v (.bl b)) : v = .bl b := h.flat rfl
theorem View.non {v : V} (h : View Z H S v .non) : v = .non := h.flat rfl
theorem View.lst (I : InvS K Z H S) {v : V} {o : Bool} {ds : List D} (h : View Z H S v (.lst o ds)) : ∃ a vs, v = .ref a ∧ H a = some (.lst vs) ∧ ViewL Z H S vs ds := by
  cases o with
  | true =>
    obtain ⟨B, a, vs, B', rfl, _, e, _, q⟩ := h
    exact ⟨a, vs, rfl, e, q.views⟩
  | false =>
    obtain ⟨a, vs, rfl, e, q⟩ := I.lst (h.sh rfl)
    exact ⟨a, vs, rfl, e, q.views I⟩
theorem View.tup (I : InvS K Z H S) {v : V} {ds : List D} (h : View Z H S v (.tup ds)) : ∃ a vs, v = .ref a ∧ TpA H a vs ∧ ShL Z S vs ds := I.tup (h.sh rfl)
theorem View.pr (I : InvS K Z H S) {v : V} {ds : List D} (h : View Z H S v (.pr ds)) : ∃ a vs, v = .ref a ∧ H a = some (.tup vs) ∧ ShL Z S vs ds := I.pr (h.sh rfl)
theorem View.exc (I : InvS K Z H S) {v : V} {c : Str} {ns : List Str} {ds : List D} (h : View Z H S v (.exc c ns ds)) : ∃ a C dx vs, v = .ref a ∧ Z.cls c = some C ∧ H a = some (exh a C dx) ∧ ns.length = vs.length ∧ H dx = some (.xd (ns.zip vs)) ∧ ShL Z S vs ds := I.exc (h.sh rfl)
theorem View.dic (I : InvS K Z H S) {v : V} {o tk : Bool} {ks : List DK} {ds : List D} (h : View Z H S v (.dic o tk ks ds)) : ∃ a vs, v = .ref a ∧ DicRd H a tk ks vs ∧ ViewL Z H S vs ds := by
  cases o with
  | true =>
    obtain ⟨B, a, vs, B', rfl, _, e, _, q⟩ := h
    exact ⟨a, vs, rfl, e.rd, q.views⟩
  | false =>
    obtain ⟨a, vs, rfl, e, q⟩ := I.dic (h.sh rfl)
    exact ⟨a, vs, rfl, e, q.views I⟩
theorem View.dicL (I : InvS K Z H S) {v : V} {ks : List DK} {ds : List D} (h : View Z H S v (.dicL ks ds)) : ∃ a vs, v = .ref a ∧ DicRd H a false ks vs ∧ ViewL Z H S vs ds := by
  obtain ⟨B, a, vs, rfl, _, e, _, q⟩ := h
  exact ⟨a, vs, rfl, e.rd, q.views I⟩
theorem u5 {α β : Type} {F : α → β → Prop} : ∀ {xs : List α} {ys : List β}, Paired F xs ys → xs.length = ys.length
  | _, _, .nil => rfl
  | _, _, .cons _ t => by rw [List.length_cons, List.length_cons, u5 t]
theorem a1q {α β : Type} {F : α → β → Prop} : ∀ {xs : List α} {ys : List β}, Paired F xs ys → ∀ {i : Nat} {y : β}, ys[i]? = some y → ∃ x, xs[i]? = some x ∧ F x y
  | _, _, .nil, i, y, h => by simp at h
  | _, _, .cons a t, 0, y, h => by simp at h; subst h; exact ⟨_, rfl, a⟩
  | _, _, .cons a t, i + 1, y, h => by
    obtain ⟨x, h1, h2⟩ := a1q t (i := i) (y := y) (by simpa using h)
    exact ⟨x, by simpa using h1, h2⟩
theorem a4k {α β : Type} {F : α → β → Prop} : ∀ {xs xs' : List α} {ys ys' : List β}, Paired F xs ys → Paired F xs' ys' → Paired F (xs ++ xs') (ys ++ ys')
  | _, _, _, _, .nil, s => s
  | _, _, _, _, .cons r t, s => .cons r (a4k t s)
theorem a8g {α β : Type} {F : α → β → Prop} : ∀ {xs : List α} {ys : List β} (n : Nat), Paired F xs ys → Paired F (xs.take n) (ys.take n)
  | _, _, 0, _ => .nil
  | _, _, _ + 1, .nil => .nil
  | _, _, n + 1, .cons r t => .cons r (a8g n t)
theorem a8e {α β : Type} {F : α → β → Prop} : ∀ {xs : List α} {ys : List β} (n : Nat), Paired F xs ys → Paired F (xs.drop n) (ys.drop n)
  | _, _, 0, r => r
  | _, _, _ + 1, .nil => .nil
  | _, _, n + 1, .cons r t => a8e n t
theorem a4l {σ' : St} {o : Opd} {v : V} {A B : List Addr} {d : D} (r : Rel K Z O H S R ρ σ) (h : OpdOk Z O.L H S σ o v A) (l : look ρ o = some d) : View Z H S v d := by
  cases o with
  | nm i =>
    unfold look at l
    simp only at l
    cases e : ρ[i]? with
    | none => rw [e] at l; cases l
    | some q =>
      cases q with
      | none => rw [e] at l; cases l
      | some s =>
        rw [e] at l
        cases l
        obtain ⟨w, hw, q⟩ := r.slot e
        rw [h.1] at hw
        cases hw
        exact q
  | va x => cases l; exact ⟨_, h⟩
  | vw x => cases l; exact ⟨_, h.2.choose_spec.1⟩
theorem a6l : ∀ {os : List Opd} {vs : List V} {A : List Addr} {ds : List D}, Rel K Z O H S R ρ σ → OpdsOk Z O.L H S σ os vs A → a3p ρ os = some ds → ViewL Z H S vs ds
  | [], _, _, _, _, h, l => by cases l; rw [h.1]; exact .nil
  | o :: os, _, _, ds, r, h, l => by
    obtain ⟨v, rs, A1, A2, rfl, rfl, h1, h2⟩ := h
    unfold a3p at l
    cases e1 : look ρ o with
    | none => rw [e1] at l; cases l
    | some d =>
      cases e2 : a3p ρ os with
      | none => rw [e1, e2] at l; cases l
      | some ds' =>
        rw [e1, e2] at l
        cases l
        exact .cons (a4l (σ' := σ) (B := []) r h1 e1) (a6l r h2 e2)
end
def a6f (o : Option D) : M D := fun ρ => match o with | some d => .ok d ρ | none => .bad
def op2 (F : D → D → Option D) (f g : M Opd) : M D := M.bind f fun a => M.bind g fun b => fun ρ => match look ρ a, look ρ b with
  | some x, some y => a6f (F x y) ρ
  | _, _ => .bad
def a8n (K : PySem.W.Frag) (Z : Zt) (r : R2) (F : D → D → Option D) : Prop :=
  ∀ H S x y dx dy d Q, InvS K Z H S → View Z H S x dx → View Z H S y dy → F dx dy = some d → Gives K Z H S d Q → r x y H Q
section
variable {X : Cx} {Z : Zt} {W : WX} {a b : Expr} {f g : M Opd}
theorem a9d {r : R2} {F : D → D → Option D} {ta tb : TE} (hF : a8n X.K Z r F) (ha : ∀ O H S R ρ σ Q, Rel X.K Z O H S R ρ σ → b38 X.K Z O W H S R σ Q (f ρ) → ta σ H Q)
    (hb : ∀ O H S R ρ σ Q, Rel X.K Z O H S R ρ σ → b38 X.K Z O W H S R σ Q (g ρ) → tb σ H Q) : ∀ O H S R ρ σ Q, Rel X.K Z O H S R ρ σ → EPost X.K Z O W H S R σ Q (op2 F f g ρ) → tOp r ta tb σ H Q := by
  intro O H S R ρ σ Q r0 h
  refine ha O H S R ρ σ _ r0 ?_
  unfold op2 M.bind at h
  cases e1 : f ρ with
  | bad => rw [e1] at h; exact h.elim
  | ex x ρ1 => rw [e1] at h; exact h
  | ok o1 ρ1 =>
    rw [e1] at h
    intro v1 H1 S1 A1 l1 q1 n1 d1 r1 f1
    refine hb O H1 S1 (A1 ++ R) ρ1 σ _ r1 ?_
    simp only at h
    cases e2 : g ρ1 with
    | bad => rw [e2] at h; exact h.elim
    | ex x ρ2 => rw [e2] at h; exact h.weak l1 f1
    | ok o2 ρ2 =>
      rw [e2] at h
      intro v2 H2 S2 A2 l2 q2 n2 d2 r2 f2
      simp only at h
      have kA : ∀ b, b ∈ A1 ∨ b ∈ O.L → H2 b = H1 b ∧ S2 b = none := fun b hb => ⟨f2 b (hb.imp (List.mem_append_left _) id), by
        obtain ⟨As, r2⟩ := r2
        exact (r2.rest b (hb.imp (fun hb => List.mem_append_right _ (List.mem_append_left _ hb)) id)).1⟩
      cases e3 : look ρ2 o1 with
      | none => rw [e3] at h; exact h.elim
      | some dx =>
        cases e4 : look ρ2 o2 with
        | none => rw [e3, e4] at h; exact h.elim
        | some dy =>
          rw [e3, e4] at h
          simp only [a6f] at h
          cases e5 : F dx dy with
          | none => rw [e5] at h; exact h.elim
          | some d =>
            rw [e5] at h
            have rr : Rel X.K Z O H2 S2 R ρ2 σ := r2.drop.drop
            refine hF H2 S2 v1 v2 dx dy d Q r2.inv (a4l (σ' := σ) (B := []) r2 (q1.keep l2 kA) e3) (a4l (σ' := σ) (B := []) r2 q2 e4) e5 ?_
            intro v H' S' A e q nd hf
            obtain ⟨r', f', dj⟩ := rr.ext (A := A) e hf fun b hb => Own.mem d q b hb
            exact h v H' S' A ((l1.trans l2).trans e.le) q nd dj r' ((f1.trans f2.drop).trans f')
theorem a92 {op : Operator} {r : R2} {F : D → D → Option D} {pos : Pos} (ho : OpR X (binaryOp op) r) (hF : a8n X.K Z r F) (ha : SO X Z W a f) (hb : SO X Z W b g) : SE X Z W (.BinOp a op b pos) (op2 F f g) := by
  obtain ⟨ta, h1, h2⟩ := ha
  obtain ⟨tb, u1, u2⟩ := hb
  exact ⟨_, pe_op ho h1 u1, a9d hF h2 u2⟩
theorem b2h {op : CmpOp} {r : R2} {F : D → D → Option D} {pos : Pos} (ho : OpR X (compareOp op) r) (hF : a8n X.K Z r F) (ha : SO X Z W a f) (hb : SO X Z W b g) (hm : behindInMarks op b = false) : SE X Z W (.Compare a [op] [b] pos) (op2 F f g) := by
  obtain ⟨ta, h1, h2⟩ := ha
  obtain ⟨tb, u1, u2⟩ := hb
  exact ⟨_, pe_cmpR ho h1 u1 hm, a9d hF h2 u2⟩
def tst (f : M D) : M Bool := M.bind f fun d ρ => match d with | .bl b => .ok b ρ | _ => .bad
theorem ah0 {t : TE} (h2 : ∀ O H S R ρ σ Q, Rel X.K Z O H S R ρ σ → EPost X.K Z O W H S R σ Q (f' ρ) → t σ H Q) : ∀ O H S R ρ σ Q, Rel X.K Z O H S R ρ σ → TPost X.K Z O W H S R σ Q (tst f' ρ) → t σ H fun x H' => ∃ k, x = .bl k ∧ Q k H' := by
  intro O H S R ρ σ Q r h
  refine h2 O H S R ρ σ _ r ?_
  unfold tst M.bind at h
  cases e : f' ρ with
  | bad => rw [e] at h; exact h.elim
  | ex x ρ1 => rw [e] at h; exact h
  | ok d ρ1 =>
    rw [e] at h
    intro v H1 S1 A l q nd dj r1 fr1
    cases d with
    | bl b =>
      obtain ⟨rfl, rfl⟩ := q
      exact ⟨b, rfl, h H1 S1 l r1 fr1⟩
    | _ => exact h.elim
theorem a76 {op : CmpOp} {r : R2} {F : D → D → Option D} {pos : Pos} (ho : OpR X (compareOp op) r) (hF : a8n X.K Z r F) (ha : SO X Z W a f) (hb : SO X Z W b g) (hm : behindInMarks op b = false) : ST X Z W (.Compare a [op] [b] pos) (tst (op2 F f g)) := by
  obtain ⟨ta, h1, h2⟩ := ha
  obtain ⟨tb, u1, u2⟩ := hb
  exact ⟨_, pt_cmpR ho h1 u1 hm, ah0 (a9d hF h2 u2)⟩
theorem be4 {r : R2} {F : D → D → Option D} {pos : Pos} (ho : IxR X r) (hF : a8n X.K Z r F) (ha : SO X Z W a f) (hb : SO X Z W b g) (hs : PlainIx b) : SE X Z W (.Subscript a b pos) (op2 F f g) := by
  obtain ⟨ta, h1, h2⟩ := ha
  obtain ⟨tb, u1, u2⟩ := hb
  exact ⟨_, pe_ix ho h1 u1 hs, a9d hF h2 u2⟩
def cst (d : D) : M D := fun ρ => .ok d ρ
theorem a9v {d : D} {v : V} (e : flat d = some v) : ∀ O H S R ρ σ Q, Rel X.K Z O H S R ρ σ → EPost X.K Z O W H S R σ Q (cst d ρ) → tC v σ H Q := by
  intro O H S R ρ σ Q r h
  have o : owned d = false := by cases d <;> first | rfl | cases e
  refine h v H S [] (Le.refl S) (Own.of_sh ?_ o) List.nodup_nil (fun _ hb => nomatch hb) r (Fr.refl _ _ _)
  unfold Sh
  rw [e]
theorem j7 {i j pos} : SE X Z W (.Constant (.int i) j pos) (cst (.int i)) := ⟨_, pe_int, a9v rfl⟩
theorem b3u {b j pos} : SE X Z W (.Constant (.bool b) j pos) (cst (.bl b)) := ⟨_, pe_bl, a9v rfl⟩
theorem o8 {x j pos} : SE X Z W (.Constant (.str x) j pos) (cst (.str x)) := ⟨_, pe_str, a9v rfl⟩
end
end Dv
namespace Dv
open PySem L2
section
variable {K : PySem.W.Frag} {Z : Zt} {O : Hold} {W : WX} {H H1 : Hp} {S S1 : Reg} {R : List Addr} {E : Ends}
theorem SPost.weak {o : Out} (h : SPost K Z O W H S R E o) (l : Le S S1) (f : Fr O R H H1) : SPost K Z O W H1 S1 R E o := by
  cases o with
  | nx ρ => exact fun σ' H' S' l' r f' => h σ' H' S' (l.trans l') r (f.trans f')
  | bk ρ => exact fun σ' H' S' l' r f' => h σ' H' S' (l.trans l') r (f.trans f')
  | ct ρ => exact fun σ' H' S' l' r f' => h σ' H' S' (l.trans l') r (f.trans f')
  | rt d ρ => exact fun v σ' H' S' A l' q n dj r f' => h v σ' H' S' A (l.trans l') q n dj r (f.trans f')
  | ex x ρ => exact fun σ' => (h σ').weak0 l f
  | bad => exact h
end
def nxC : C := fun ρ => .nx ρ
def a09 (a b : C) : C := fun ρ => match a ρ with
  | .nx ρ' => b ρ'
  | o => o
def putS (i : Nat) (d : D) : C := fun ρ => match ρ[i]? with
  | some none => .nx (ρ.set i (some (.own d)))
  | some (some (.own _)) => .nx (ρ.set i (some (.own d)))
  | _ => .bad
def a8r (f : M D) (c : D → C) : C := fun ρ => match f ρ with
  | .ok d ρ' => c d ρ'
  | .ex x ρ' => .ex x ρ'
  | .bad => .bad
def setC (i : Nat) (f : M D) : C := a8r f (putS i)
def a69 (f : M D) : C := a8r f fun d ρ => .rt d ρ
def b1i (f : M D) : C := a8r f fun _ ρ => .nx ρ
def ifC (t : M Bool) (a b : C) : C := fun ρ => match t ρ with
  | .ok k ρ' => if k = true then a ρ' else b ρ'
  | .ex x ρ' => .ex x ρ'
  | .bad => .bad
def whileC (t : M Bool) (b : C) : Nat → C
  | 0 => fun _ => .bad
  | n + 1 => fun ρ => match t ρ with
    | .ok k ρ' => if k = true then (match b ρ' with
      | .nx ρ2 => whileC t b n ρ2
      | .ct ρ2 => whileC t b n ρ2
      | .bk ρ2 => .nx ρ2
      | .rt d ρ2 => .rt d ρ2
      | .ex x ρ2 => .ex x ρ2
      | .bad => .bad) else .nx ρ'
    | .ex x ρ' => .ex x ρ'
    | .bad => .bad
def a1h (step : D → C) : List D → C
  | [] => fun ρ => .nx ρ
  | d :: ds => fun ρ => match step d ρ with
    | .nx ρ' => a1h step ds ρ'
    | .ct ρ' => a1h step ds ρ'
    | .bk ρ' => .nx ρ'
    | .rt x ρ' => .rt x ρ'
    | .ex x ρ' => .ex x ρ'
    | .bad => .bad
def az4 (f : M (List D)) (g : D → C) (b : C) : C := fun ρ => match f ρ with
  | .ok ds ρ' => a1h (fun d => a09 (g d) b) ds ρ'
  | .ex x ρ' => .ex x ρ'
  | .bad => .bad
section
variable {X : Cx} {Z : Zt} {W : WX}
theorem a1p : SSs X Z W [] nxC := ⟨_, pss_nil, fun O H S R ρ σ E r h => h σ H S (Le.refl S) r (Fr.refl _ _ _)⟩
theorem m7 {st : Stmt} {rest : List Stmt} {c c' : C} (h : SS X Z W st c) (hs : SSs X Z W rest c') : SSs X Z W (st :: rest) (a09 c c') := by
  obtain ⟨t, h1, h2⟩ := h
  obtain ⟨u, u1, u2⟩ := hs
  refine ⟨_, pss_cons h1 u1, fun O H S R ρ σ E r h => h2 O H S R ρ σ _ r ?_⟩
  unfold a09 at h
  cases e : c ρ with
  | nx ρ1 =>
    rw [e] at h
    intro σ' H' S' l r' f
    exact u2 O H' S' R ρ1 σ' E r' (SPost.weak h l f)
  | bk ρ1 => rw [e] at h; exact h
  | ct ρ1 => rw [e] at h; exact h
  | rt d ρ1 => rw [e] at h; exact h
  | ex x ρ1 => rw [e] at h; exact h
  | bad => rw [e] at h; exact h
theorem v5 {st : Stmt} {c : C} (h : SS X Z W st c) : SSs X Z W [st] c := by
  obtain ⟨t, h1, h2⟩ := h
  exact ⟨_, pss_one h1, h2⟩
theorem a5o {f : M D} {c : D → C} {t : TE} {k : V → St → Hp → Ends → Prop}
    (h2 : ∀ O H S R ρ σ Q, Rel X.K Z O H S R ρ σ → EPost X.K Z O W H S R σ Q (f ρ) → t σ H Q)
    (hk : ∀ O H S R ρ σ E d v A, Rel X.K Z O H S (A ++ R) ρ σ → Own Z H S d v A → A.Nodup → (∀ b ∈ A, b ∉ R ∧ b ∉ O.L) → SPost X.K Z O W H S R E (c d ρ) → k v σ H E) :
    ∀ O H S R ρ σ E, Rel X.K Z O H S R ρ σ → SPost X.K Z O W H S R E (a8r f c ρ) → t σ H fun v H' => k v σ H' E := by
  intro O H S R ρ σ E r h
  refine h2 O H S R ρ σ _ r ?_
  unfold a8r at h
  cases e : f ρ with
  | ok d ρ1 =>
    rw [e] at h
    intro v H1 S1 A l q nd dj r1 f1
    exact hk O H1 S1 R ρ1 σ E d v A r1 q nd dj (SPost.weak h l f1)
  | ex x ρ1 => rw [e] at h; exact h σ
  | bad => rw [e] at h; exact h.elim
theorem a3a {i : Nat} {O : Hold} {H : Hp} {S : Reg} {R A : List Addr} {ρ : Env} {σ : St} {E : Ends} {d : D} {v : V} (r : Rel X.K Z O H S (A ++ R) ρ σ) (q : Own Z H S d v A) (nd : A.Nodup) (dj : ∀ b ∈ A, b ∉ R ∧ b ∉ O.L)
    (h : SPost X.K Z O W H S R E (putS i d ρ)) : E.nx (σ.set i (some v)) H := by
  have go : i < ρ.length → SPost X.K Z O W H S R E (.nx (ρ.set i (some (.own d)))) → E.nx (σ.set i (some v)) H := fun hi h => by
    obtain ⟨As, r⟩ := r
    have hs : i < σ.length := r.len ▸ hi
    exact h _ H S (Le.refl S) ⟨_, r.put (s := .own d) (v := v) (σ' := σ.set i (some v)) q nd dj hi (by rw [List.length_set]) (List.getElem?_set_self hs) fun j hj => List.getElem?_set_ne (Ne.symm hj)⟩ (Fr.refl _ _ _)
  unfold putS at h
  cases e : ρ[i]? with
  | none => rw [e] at h; exact h.elim
  | some o =>
    have hi : i < ρ.length := (List.getElem?_eq_some_iff.mp e).1
    cases o with
    | none => rw [e] at h; exact go hi h
    | some s =>
      cases s with
      | own d' => rw [e] at h; exact go hi h
      | io d' => rw [e] at h; exact h.elim
      | lent d' => rw [e] at h; exact h.elim
theorem v9 (i : Nat) {x : Str} {e : Expr} {f : M D} {pos pos' : Pos} (hN : X.N.Nodup) (he : SE X Z W e f) (hi : X.N[i]? = some x := by rfl) (hx : Loc X.env.scope x := by first | exact Or.inl rfl | exact Or.inr rfl)
    (hs : swapsWith e (some (.Name x pos')) pos.line X.env = pure false := by rfl) (hf : X.fn x = true ∨ X.env.scope.names.lookup x = some .local := by first | exact .inl rfl | exact .inr rfl) : SS X Z W (.Assign [.Name x pos'] e pos) (setC i f) := by
  obtain ⟨t, h1, h2⟩ := he
  exact ⟨_, ps_set hN hi hx h1 hs hf, a5o (k := fun v σ H E => E.nx (σ.set i (some v)) H) h2 fun O H S R ρ σ E d v A r q nd dj h => a3a r q nd dj h⟩
theorem a0u {e : Expr} {f : M D} {pos : Pos} (he : SE X Z W e f) : SS X Z W (.Return (some e) pos) (a69 f) := by
  obtain ⟨t, h1, h2⟩ := he
  exact ⟨_, ps_ret h1, a5o (k := fun v σ H E => E.rt v H) h2 fun O H S R ρ σ E d v A r q nd dj h => h v σ H S A (Le.refl S) q nd dj r (Fr.refl _ _ _)⟩
theorem a83 {e : Expr} {f : M D} {pos : Pos} (he : SE X Z W e f) (hs : swapsWith e none pos.line X.env = pure false := by rfl) : SS X Z W (.Expr e pos) (b1i f) := by
  obtain ⟨t, h1, h2⟩ := he
  exact ⟨_, ps_expr h1 hs, a5o (k := fun v σ H E => E.nx σ H) h2 fun O H S R ρ σ E d v A r q nd dj h => h σ H S (Le.refl S) r.drop (Fr.refl _ _ _)⟩
theorem a5d {c : Expr} {a b : List Stmt} {t : M Bool} {ca cb : C} {pos : Pos} (hc : ST X Z W c t) (ha : SSs X Z W a ca) (hb : SSs X Z W b cb) : SS X Z W (.If c a b pos) (ifC t ca cb) := by
  obtain ⟨tc, h1, h2⟩ := hc
  obtain ⟨ta, a1, a2⟩ := ha
  obtain ⟨tb, b1, b2⟩ := hb
  refine ⟨_, ps_if h1 a1 b1, fun O H S R ρ σ E r h => h2 O H S R ρ σ _ r ?_⟩
  unfold ifC at h
  cases e : t ρ with
  | bad => rw [e] at h; exact h.elim
  | ex x ρ1 => rw [e] at h; exact h σ
  | ok k ρ1 =>
    rw [e] at h
    intro H1 S1 l r1 f1
    cases k with
    | true => exact iteT (a2 O H1 S1 R ρ1 σ E r1 (SPost.weak h l f1))
    | false => exact iteF (b2 O H1 S1 R ρ1 σ E r1 (SPost.weak h l f1))
def a4e (q : St → Hp → Prop) : Ends := ⟨q, fun _ _ => False, fun _ _ => False, fun _ _ => False⟩
def SG (X : Cx) (Z : Zt) (W : WX) (tg : Expr) (g : D → C) : Prop :=
  ∃ t, PG X tg t ∧ ∀ O H S R ρ σ d v A q, Rel X.K Z O H S (A ++ R) ρ σ → Own Z H S d v A → A.Nodup → (∀ b ∈ A, b ∉ R ∧ b ∉ O.L) → SPost X.K Z O W H S R (a4e q) (g d ρ) → t v σ H q
theorem a0k (i : Nat) {x : Str} {pos : Pos} (hN : X.N.Nodup) (hi : X.N[i]? = some x := by rfl) (hx : Loc X.env.scope x := by first | exact Or.inl rfl | exact Or.inr rfl) (hf : X.fn x = true ∨ X.env.scope.names.lookup x = some .local := by first | exact .inl rfl | exact .inr rfl) :
    SG X Z W (.Name x pos) (putS i) := ⟨_, pg_name hN hi hx hf, fun O H S R ρ σ d v A q r qq nd dj h => a3a (E := a4e q) r qq nd dj h⟩
def ItS (K : PySem.W.Frag) (Z : Zt) (O : Hold) (R : List Addr) (H0 : Hp) (S0 : Reg) (J : It) (ds : List D) : Prop :=
  ∀ i H S, InvS K Z H S → Le S0 S → Fr O R H0 H → (∀ d, ds[i]? = some d → J.go i H ∧ ∀ x H', J.yld i H x H' → ∃ S', ExtS K Z H S H' S' ∧ Sh Z S' x d) ∧ (ds.length = i → J.stop i H)
def b0i (K : PySem.W.Frag) (Z : Zt) (O : Hold) (W : WX) (H : Hp) (S : Reg) (R : List Addr) (σ : St) (Q : It → Hp → Prop) : Res (List D) → Prop
  | .ok ds ρ' => ∀ J H' S', Le S S' → Rel K Z O H' S' R ρ' σ → Fr O R H H' → ItS K Z O R H' S' J ds → Q J H'
  | .ex x ρ' => XP K Z O W H S R σ x ρ'
  | .bad => False
def SI (X : Cx) (Z : Zt) (W : WX) (tg iter : Expr) (f : M (List D)) : Prop :=
  ∃ wi, PI X tg iter wi ∧ ∀ O H S R ρ σ Q, Rel X.K Z O H S R ρ σ → b0i X.K Z O W H S R σ Q (f ρ) → wi σ H Q
def LpN (K : PySem.W.Frag) (Z : Zt) (O : Hold) (W : WX) (R : List Addr) (E : Ends) (H0 : Hp) (S0 : Reg) (step : D → C) (ds : List D) (i : Nat) : St → Hp → Prop :=
  fun σ H => ∃ S ρ, (Le S0 S ∧ Fr O R H0 H) ∧ Rel K Z O H S R ρ σ ∧ i ≤ ds.length ∧ SPost K Z O W H S R E (a1h step (ds.drop i) ρ)
def b9w (N : St → Hp → Prop) (E : Ends) : Ends := ⟨N, E.rt, E.nx, N⟩
theorem b1b {J : It} {ds : List D} {H0 : Hp} {S0 : Reg} {g : D → C} {b : C} {tg : TG} {tb : TS} {O : Hold} {R : List Addr} {E : Ends}
    (h2 : ∀ O H S R ρ σ d v A q, Rel X.K Z O H S (A ++ R) ρ σ → Own Z H S d v A → A.Nodup → (∀ b ∈ A, b ∉ R ∧ b ∉ O.L) → SPost X.K Z O W H S R (a4e q) (g d ρ) → tg v σ H q)
    (hx : ∀ d ρ, (∃ ρ', g d ρ = .nx ρ') ∨ g d ρ = .bad)
    (b2 : ∀ O H S R ρ σ E, Rel X.K Z O H S R ρ σ → SPost X.K Z O W H S R E (b ρ) → tb E σ H) (hJ : ItS X.K Z O R H0 S0 J ds) :
    ∀ (i : Nat) (σ : St) (H : Hp), LpN X.K Z O W R E H0 S0 (fun d => a09 (g d) b) ds i σ H →
      (J.stop i H ∧ E.nx σ H) ∨ (J.go i H ∧ ∀ x H', J.yld i H x H' → tg x σ H' fun σ2 H2 => tb (b9w (LpN X.K Z O W R E H0 S0 (fun d => a09 (g d) b) ds (i + 1)) E) σ2 H2) := by
  rintro i σ H ⟨S, ρ, ⟨l0, f0⟩, r, hi, h⟩
  obtain ⟨j1, j2⟩ := hJ i H S r.inv l0 f0
  by_cases hlt : i < ds.length
  · have hd : ds[i]? = some ds[i] := List.getElem?_eq_getElem hlt
    obtain ⟨g1, g2⟩ := j1 _ hd
    refine .inr ⟨g1, fun x H' hy => ?_⟩
    obtain ⟨S', e, q⟩ := g2 x H' hy
    obtain ⟨r', f', _⟩ := r.ext (A := []) e (fun _ hb => nomatch hb) (fun _ hb => nomatch hb)
    rw [List.drop_eq_getElem_cons hlt] at h
    unfold a1h a09 at h
    have un : owned ds[i] = false := q.un e.inv
    rcases hx ds[i] ρ with ⟨ρ1, e1⟩ | e1
    · rw [e1] at h
      refine h2 O H' S' R ρ σ ds[i] x [] _ r' (Own.of_sh q un) List.nodup_nil (fun _ hb => nomatch hb) ?_
      rw [e1]
      intro σ2 H2 S2 l2 r2 f2
      refine b2 O H2 S2 R ρ1 σ2 _ r2 ?_
      simp only at h
      have l3 : Le S S2 := e.le.trans l2
      have f3 : Fr O R H H2 := f'.trans f2
      cases e2 : b ρ1 with
      | bad => rw [e2] at h; exact h.elim
      | ex x ρ2 => rw [e2] at h; exact SPost.weak (o := .ex x ρ2) h l3 f3
      | nx ρ2 => rw [e2] at h; exact fun σ' H' S' l' r' f' => ⟨S', ρ2, ⟨(l0.trans l3).trans l', (f0.trans f3).trans f'⟩, r', hlt, SPost.weak h (l3.trans l') (f3.trans f')⟩
      | ct ρ2 => rw [e2] at h; exact fun σ' H' S' l' r' f' => ⟨S', ρ2, ⟨(l0.trans l3).trans l', (f0.trans f3).trans f'⟩, r', hlt, SPost.weak h (l3.trans l') (f3.trans f')⟩
      | bk ρ2 => rw [e2] at h; exact SPost.weak (o := .nx ρ2) h l3 f3
      | rt d ρ2 => rw [e2] at h; exact SPost.weak (o := .rt d ρ2) h l3 f3
    · rw [e1] at h
      exact h.elim
  · have e : i = ds.length := by omega
    subst e
    rw [List.drop_length] at h
    exact .inl ⟨j2 rfl, h σ H S (Le.refl S) r (Fr.refl _ _ _)⟩
theorem a9e (i : Nat) (d : D) (ρ : Env) : (∃ ρ', putS i d ρ = .nx ρ') ∨ putS i d ρ = .bad := by
  unfold putS
  split <;> first | exact .inl ⟨_, rfl⟩ | exact .inr rfl
theorem a8x {tg iter : Expr} {body : List Stmt} {f : M (List D)} {g : D → C} {b : C} {pos : Pos} (hp : PassesOwn (model X.prog X.w) X.A X.env X.xe) (hc : X.calm = true) (hi : SI X Z W tg iter f) (hg : SG X Z W tg g)
    (hx : ∀ d ρ, (∃ ρ', g d ρ = .nx ρ') ∨ g d ρ = .bad) (hb : SSs X Z W body b) (hs : ∀ x, foldedSetIterable iter X.env x = pure x := by intro _; rfl) : SS X Z W (.For tg iter body [] pos) (az4 f g b) := by
  obtain ⟨wi, i1, i2⟩ := hi
  obtain ⟨tgt, g1, g2⟩ := hg
  obtain ⟨tb, b1, b2⟩ := hb
  refine ⟨_, ps_for hp hc i1 g1 b1 hs, fun O H S R ρ σ E r h => i2 O H S R ρ σ _ r ?_⟩
  unfold az4 at h
  cases e : f ρ with
  | bad => rw [e] at h; exact h.elim
  | ex x ρ1 => rw [e] at h; exact h σ
  | ok ds ρ1 =>
    rw [e] at h
    intro J H1 S1 l r1 f1 hJ
    refine ⟨fun i m σ H => m = ds.length - i ∧ LpN X.K Z O W R E H1 S1 (fun d => a09 (g d) b) ds i σ H, ⟨_, rfl, S1, ρ1, ⟨Le.refl _, Fr.refl _ _ _⟩, r1, Nat.zero_le _, SPost.weak h l f1⟩, ?_⟩
    rintro i m σ H ⟨rfl, hw⟩
    rcases b1b g2 hx b2 hJ i σ H hw with q | ⟨q1, q2⟩
    · exact .inl q
    · refine .inr ⟨q1, LpN X.K Z O W R E H1 S1 (fun d => a09 (g d) b) ds (i + 1), fun σ' H' hN => ?_, q2⟩
      obtain ⟨S, ρ, a1, a2, a3, a4⟩ := id hN
      exact ⟨ds.length - (i + 1), by omega, rfl, hN⟩
theorem b83 {K : PySem.W.Frag} {Z : Zt} {O : Hold} {R : List Addr} {H0 : Hp} {S0 : Reg} {a : Addr} {ds : List D} (h : S0 a = some (.lst false ds)) : ItS K Z O R H0 S0 (Itl K a) ds := fun i H S I l _ => by
  obtain ⟨vs, e, q⟩ := I.node a _ (l a _ h)
  refine ⟨fun d hd => ?_, fun hi => ⟨vs, SqL.of e, by rw [u5 q]; exact Nat.le_of_eq hi⟩⟩
  obtain ⟨v, hv, qv⟩ := a1q q hd
  refine ⟨⟨vs, v, SqL.of e, hv⟩, fun x H' hy => ?_⟩
  obtain ⟨rfl, hy⟩ := hy
  have := hy vs (SqL.of e)
  rw [hv] at this
  cases this
  exact ⟨S, ExtS.refl I, qv⟩
theorem b5x {K : PySem.W.Frag} {Z : Zt} {O : Hold} {R : List Addr} {H0 : Hp} {S0 : Reg} {a : Addr} {ds : List D} (h : S0 a = some (.tup ds)) : ItS K Z O R H0 S0 (Itt K a) ds := fun i H S I l _ => by
  obtain ⟨vs, e, q⟩ := I.node a _ (l a _ h)
  refine ⟨fun d hd => ?_, fun hi => ⟨vs, e.sq, by rw [u5 q]; exact Nat.le_of_eq hi⟩⟩
  obtain ⟨v, hv, qv⟩ := a1q q hd
  refine ⟨⟨vs, v, e.sq, hv⟩, fun x H' hy => ?_⟩
  obtain ⟨rfl, hy⟩ := hy
  have := hy vs (e.sq)
  rw [hv] at this
  cases this
  exact ⟨S, ExtS.refl I, qv⟩
theorem b7d {K : PySem.W.Frag} {Z : Zt} {O : Hold} {R : List Addr} {H0 : Hp} {S0 : Reg} (lo : Int) (n : Nat) : ItS K Z O R H0 S0 (Itr lo n) ((List.range n).map fun (k : Nat) => D.int (lo + (k : Int))) := fun i H S I l _ => by
  refine ⟨fun d hd => ?_, fun hi => by show n ≤ i; simp at hi; omega⟩
  rw [List.getElem?_map] at hd
  cases e : (List.range n)[i]? with
  | none => rw [e] at hd; cases hd
  | some k =>
    rw [e] at hd
    cases hd
    obtain ⟨h1, h2⟩ := List.getElem?_eq_some_iff.mp e
    rw [List.length_range] at h1
    rw [List.getElem_range] at h2
    subst h2
    refine ⟨h1, fun x H' hy => ?_⟩
    obtain ⟨rfl, rfl⟩ := hy
    exact ⟨S, ExtS.refl I, rfl⟩
theorem a5k {ds : List D} (h : ∀ d ∈ ds, owned d = false) : frL ds = ds := by
  rw [ar9]
  induction ds with
  | nil => rfl
  | cons d ds ih => rw [List.map_cons, a6r (h d List.mem_cons_self), ih fun x hx => h x (List.mem_cons_of_mem _ hx)]
def sign (c : Nat) : D := .str ⟨#[c]⟩
theorem b8k {K : PySem.W.Frag} {Z : Zt} {O : Hold} {R : List Addr} {H0 : Hp} {S0 : Reg} (x : Str) : ItS K Z O R H0 S0 (Its x) (x.cps.toList.map sign) := fun i H S I l _ => by
  refine ⟨fun d hd => ?_, fun hi => by show x.cps.size ≤ i; simp at hi; omega⟩
  rw [List.getElem?_map] at hd
  cases e : x.cps.toList[i]? with
  | none => rw [e] at hd; cases hd
  | some c =>
    rw [e] at hd
    cases hd
    obtain ⟨h1, h2⟩ := List.getElem?_eq_some_iff.mp e
    refine ⟨by show i < x.cps.size; simpa using h1, fun y H' hy => ?_⟩
    obtain ⟨rfl, c', hc, rfl⟩ := hy
    refine ⟨S, ExtS.refl I, ?_⟩
    have : x.cps[i]? = some c := by rw [← Array.getElem?_toList]; exact e
    rw [this] at hc
    cases hc
    exact rfl
def bk7 (K : PySem.W.Frag) (tl : TE) : TI := fun σ H R => tl σ H fun x H1 =>
  (∃ a xs, x = .ref a ∧ SqL K H1 a xs ∧ R (Itl K a) H1) ∨ (∃ a xs, x = .ref a ∧ SqT K H1 a xs ∧ R (Itt K a) H1) ∨ ∃ z, x = .str z ∧ R (Its z) H1
theorem b2o {tg l : Expr} {tl : TE} (hl : PE X l tl) : PI X tg l (bk7 X.K tl) := by
  refine ⟨fun pins s σ H R I h => thn (hl.run pins s σ H _ I h) fun v s1 hv => ?_⟩
  obtain ⟨x, H1, I1, r1, q1⟩ := hv
  have one : ∀ (b : Addr), b ∈ [s1.heap.objs.size] → FpOk X pins H1 b := fun b hb => by
    rw [List.mem_singleton.mp hb]
    exact I1.fpOk (Nat.le_refl _) (I1.hok.fresh (Nat.le_refl _))
  have kp : ∀ (ob : Obj), Inv X pins σ H1 { s1 with heap := s1.heap.push ob } := fun ob => I1.kept (t' := s1.toks) fun _ _ e => Heap.get?_push_of_some _ e
  rcases q1 with ⟨a, xs, rfl, hq, q⟩ | ⟨a, xs, rfl, hq, q⟩ | ⟨z, rfl, q⟩
  · obtain rfl : v = Value.ref a := r1
    obtain ⟨its, rv, pl, _⟩ := I1.list hq
    exact wpAny_pyIter_list pl.isList ⟨_, [s1.heap.objs.size], _, _, H1, rfl, kp _, turn_list a _, ⟨_, Heap.get?_push_size _ rfl, rfl, rfl⟩, one, q⟩
  · obtain rfl : v = Value.ref a := r1
    obtain ⟨its, rv, pl, _⟩ := I1.tuple hq
    exact wpAny_pyIter_tuple (show s1.heap.IsTuple a its.toArray from pl) ⟨_, [s1.heap.objs.size], _, _, H1, rfl, kp _, turn_tuple a _, ⟨_, Heap.get?_push_size _ rfl, rfl, rfl⟩, one, q⟩
  · obtain ⟨t, rfl⟩ := r1
    cases hz : z.cps.all (· < 128) with
    | false => exact wpAny_pyIter_wide hz (pi_one (tk := s1.toks) I1 _ (turn_str _ z t "str_iterator" (.inr rfl)) ⟨_, Heap.get?_push_size _ rfl, rfl, rfl⟩ q)
    | true => exact wpAny_pyIter_ascii hz (pi_one (tk := s1.toks) I1 _ (turn_str _ z t "str_ascii_iterator" (.inl rfl)) ⟨_, Heap.get?_push_size _ rfl, rfl, rfl⟩ q)
def b5d : D → Option (List D)
  | .tup ds => some ds
  | .lst true ds => some (frL ds)
  | .lst false ds => some ds
  | .str x => some (x.cps.toList.map sign)
  | _ => none
def itD (f : M D) : M (List D) := M.bind f fun d ρ => match b5d d with
  | some ds => .ok ds ρ
  | none => .bad
theorem a4p {tg e : Expr} {f : M D} (he : SE X Z W e f) : SI X Z W tg e (itD f) := by
  obtain ⟨t, h1, h2⟩ := he
  refine ⟨_, b2o h1, fun O H S R ρ σ Q r h => h2 O H S R ρ σ _ r ?_⟩
  unfold itD M.bind at h
  cases e : f ρ with
  | bad => rw [e] at h; exact h.elim
  | ex x ρ1 => rw [e] at h; exact h
  | ok d ρ1 =>
    rw [e] at h
    intro v H1 S1 A l q nd dj r1 f1
    obtain ⟨S2, l2, q2, r2⟩ := r1.freeze q nd dj
    have lst : ∀ ds, Sh Z S2 v (.lst false ds) → b0i X.K Z O W H S R σ Q (.ok ds ρ1) → ∃ a xs, v = .ref a ∧ SqL X.K H1 a xs ∧ Q (Itl X.K a) H1 := fun ds q3 h => by
      obtain ⟨a, rfl, hS | ⟨ns, _, hz⟩⟩ := q3
      · obtain ⟨vs, ha, _⟩ := r2.inv.node a _ hS
        exact ⟨a, vs, rfl, SqL.of ha, h _ H1 S2 (l.trans l2) r2 f1 (b83 hS)⟩
      · cases hz
    cases d with
    | lst o ds =>
      cases o with
      | true => exact .inl (lst _ q2 h)
      | false => exact .inl (lst _ q2 h)
    | tup ds =>
      obtain ⟨a, rfl, hS | ⟨ns, _, hz⟩⟩ := q2
      · obtain ⟨vs, ha, _⟩ := r2.inv.node a _ hS
        exact .inr (.inl ⟨a, vs, rfl, ha.sq, h _ H1 S2 (l.trans l2) r2 f1 (b5x hS)⟩)
      · cases hz
    | str x => exact .inr (.inr ⟨x, q2, h _ H1 S2 (l.trans l2) r2 f1 (b8k x)⟩)
    | _ => exact h.elim
def rg (a b : Int) : List D := (List.range (b - a).toNat).map fun (k : Nat) => D.int (a + (k : Int))
def ap0 (f : M (List Opd)) : M (List D) := M.bind f fun os ρ => match a3p ρ os with
  | some [.int n] => if n < 2 ^ 40 ∧ -(2 ^ 40) < n then .ok (rg 0 n) ρ else .bad
  | _ => .bad
def bi6 (f : M (List Opd)) : M (List D) := M.bind f fun os ρ => match a3p ρ os with
  | some [.int a, .int b] => if (a < 2 ^ 40 ∧ -(2 ^ 40) < a) ∧ (b < 2 ^ 40 ∧ -(2 ^ 40) < b) then .ok (rg a b) ρ else .bad
  | _ => .bad
theorem a3h {tg a : Expr} {f : M (List Opd)} {p pos : Pos} (hm : X.mg "range" = none) (ha : SA X Z W [a] f) (hg : Gl X "range" := by rfl) (hs : starEach [a] X.env = [(false, eval a X.env)] := by rfl) : SI X Z W tg (.Call (.Name "range" p) [a] [] pos) (ap0 f) := by
  obtain ⟨t, h1, h2⟩ := ha
  refine ⟨_, pi_range1 hg hm h1 hs, fun O H S R ρ σ Q r h => h2 O H S R ρ σ _ r ?_⟩
  unfold ap0 M.bind at h
  cases e : f ρ with
  | bad => rw [e] at h; exact h.elim
  | ex x ρ1 => rw [e] at h; exact h
  | ok os ρ1 =>
    rw [e] at h
    intro vs H1 S1 A l q nd dj r1 f1
    simp only at h
    split at h
    · rename_i n e2
      cases a6l r1 q e2 with
      | cons q1 q2 =>
        cases q2
        obtain rfl := q1.int
        split at h
        · rename_i hn
          have hi := b7d (K := X.K) (Z := Z) (O := O) (R := R) (H0 := H1) (S0 := S1) 0 n.toNat
          have hr : rg 0 n = (List.range n.toNat).map fun (k : Nat) => D.int (0 + (k : Int)) := by unfold rg; rw [Int.sub_zero]
          rw [hr] at h
          exact ⟨n, rfl, by omega, by omega, h _ H1 S1 l r1.drop f1 hi⟩
        · exact h.elim
    · exact h.elim
end
end Dv
namespace Dv
open PySem L2
inductive RF where
  | ok (d : D) (os : List D) | ex (x : Exn) (os : List D) | bad
def ArgsOk (Z : Zt) (H : Hp) (S : Reg) : List Bool → List D → List V → List Addr → Prop
  | [], ds, vs, A => ds = [] ∧ vs = [] ∧ A = []
  | io :: r, ds, vs, A => ∃ d dr v vr A1 A2, ds = d :: dr ∧ vs = v :: vr ∧ A = A1 ++ A2 ∧ Own Z H S d v A1 ∧ (io = false → owned d = false) ∧ ArgsOk Z H S r dr vr A2
def a78 (Z : Zt) (H : Hp) (S : Reg) : List Bool → List D → List V → List Addr → Prop
  | [], ds, _, A => ds = [] ∧ A = []
  | true :: r, ds, vs, A => ∃ d dr v vr A1 A2, ds = d :: dr ∧ vs = v :: vr ∧ A = A1 ++ A2 ∧ Own Z H S d v A1 ∧ a78 Z H S r dr vr A2
  | false :: r, ds, vs, A => ∃ v vr, vs = v :: vr ∧ a78 Z H S r ds vr A
def b70 (K : PySem.W.Frag) (Z : Zt) (H : Hp) (S : Reg) (R : List Addr) (io : List Bool) (vs : List V) (Q : VK) (E : XK) : RF → Prop
  | .ok d os => ∀ v H' S' A B, Le S S' → InvS K Z H' S' → Own Z H' S' d v A → a78 Z H' S' io os vs B → (A ++ B).Nodup → (∀ b ∈ A ++ B, b ∉ R) → (∀ b ∈ R, H' b = H b ∧ S' b = none) → Q v H'
  | .ex x os => ∀ cls dx H' S' B, Le S S' → InvS K Z H' S' → ExcIs Z H' S' cls dx x → a78 Z H' S' io os vs B → B.Nodup → (∀ b ∈ B, b ∉ R) → (∀ b ∈ R, H' b = H b ∧ S' b = none) → E cls dx H'
  | .bad => False
def spD (K : PySem.W.Frag) (cl : Str → Option Addr) (io : List Bool) (m : List D → RF) : World → Sp := fun w vs H Q E =>
  ∃ sc S R ds A, InvS K ⟨sc, cl, w⟩ H S ∧ ArgsOk ⟨sc, cl, w⟩ H S io ds vs A ∧ A.Nodup ∧ (∀ b ∈ A, b ∉ R) ∧ (∀ b ∈ R, S b = none ∧ H b ≠ none) ∧ b70 K ⟨sc, cl, w⟩ H S R io vs Q E (m ds)
structure FnG (P : Program) (w : World) (K : PySem.W.Frag) (mg : Str → Option Value) (base : Heap) (CX : CXT) (k : Nat) (f : Addr) (fd : FuncData) (ps : List Str) (sp : World → Sp) : Prop where
  len : ∀ vs H Q E, sp w vs H Q E → vs.length = ps.length
  go : ∀ (A : Around) (outer : List PySem.Env) (s : Shared) (H : Hp) (args : Args) (us : List Value) (vs : List V) (Q : VK) (E : XK), Room k A → A.guards = some [] → Env0 P w K mg base A outer s H → BindsTo s fd args (ps.zip us) → Vals vs us →
    sp w vs H Q E → codeAny (model P w) A (.call (.ref f) args) (CR CX outer P w H s Q E) s
section
variable {K : PySem.W.Frag} {Z : Zt} {O : Hold} {W : WX} {H H' : Hp} {S S' : Reg} {R A : List Addr} {σ : St} {ρ : Env}
theorem Rel.perm {R' : List Addr} (r : Rel K Z O H S R ρ σ) (h : ∀ b, b ∈ R' ↔ b ∈ R) : Rel K Z O H S R' ρ σ := by
  obtain ⟨As, r⟩ := r
  exact ⟨As, r.inv, r.len, r.sl, r.nil, r.nd, r.dj, fun i b hb => ⟨fun z => (r.dr i b hb).1 ((h b).mp z), (r.dr i b hb).2⟩, fun b hb => r.rest b (hb.imp (h b).mp id)⟩
theorem Rel.rest (r : Rel K Z O H S R ρ σ) : ∀ b, b ∈ R ∨ b ∈ O.L → S b = none ∧ H b ≠ none := let ⟨_, r⟩ := r; r.rest
theorem OpdsOk.keep : ∀ {os : List Opd} {vs : List V} {A : List Addr}, OpdsOk Z O.L H S σ os vs A → Le S S' → (∀ b, b ∈ A ∨ b ∈ O.L → H' b = H b ∧ S' b = none) → OpdsOk Z O.L H' S' σ os vs A
  | [], _, _, h, _, _ => h
  | o :: os, _, _, h, l, k => by
    obtain ⟨v, r, A1, A2, rfl, rfl, h1, h2⟩ := h
    exact ⟨v, r, A1, A2, rfl, rfl, h1.keep l fun b hb => k b (hb.imp (List.mem_append_left _) id), OpdsOk.keep h2 l fun b hb => k b (hb.imp (List.mem_append_right _) id)⟩
def prep : List Bool → List Opd → Env → Option (List D × Env)
  | [], [], ρ => some ([], ρ)
  | false :: io, .va d :: os, ρ => match prep io os ρ with | some (ds, ρ') => some (fr d :: ds, ρ') | none => none
  | true :: io, .va d :: os, ρ => match prep io os ρ with | some (ds, ρ') => some (d :: ds, ρ') | none => none
  | true :: io, .nm i :: os, ρ => match ρ[i]? with
    | some (some (.own d)) => (match prep io os (ρ.set i none) with | some (ds, ρ') => some (d :: ds, ρ') | none => none)
    | some (some (.io d)) => (match prep io os (ρ.set i none) with | some (ds, ρ') => some (d :: ds, ρ') | none => none)
    | _ => none
  | _, _, _ => none
def back (ρ0 : Env) : List Bool → List Opd → List D → Env → Option Env
  | [], [], [], ρ => some ρ
  | false :: io, _ :: os, ds, ρ => back ρ0 io os ds ρ
  | true :: io, .va _ :: os, _ :: ds, ρ => back ρ0 io os ds ρ
  | true :: io, .nm i :: os, d :: ds, ρ => match ρ0[i]? with
    | some (some (.own _)) => back ρ0 io os ds (ρ.set i (some (.own d)))
    | some (some (.io _)) => back ρ0 io os ds (ρ.set i (some (.io d)))
    | _ => none
  | _, _, _, _ => none
theorem a9m : ∀ (io : List Bool) (os : List Opd) (ρ : Env) {ds : List D} {ρ' : Env} {vs : List V} {A R : List Addr} {S : Reg}, prep io os ρ = some (ds, ρ') → Rel K Z O H S (A ++ R) ρ σ → OpdsOk Z O.L H S σ os vs A → A.Nodup → (∀ b ∈ A, b ∉ R ∧ b ∉ O.L) →
    ∃ S' B, Le S S' ∧ ArgsOk Z H S' io ds vs B ∧ B.Nodup ∧ (∀ b ∈ B, b ∉ R ∧ b ∉ O.L) ∧ Rel K Z O H S' (B ++ R) ρ' σ
  | [], [], ρ, ds, ρ', vs, A, R, S, e, r, h, nd, dj => by
    cases e
    obtain ⟨rfl, rfl⟩ := h
    exact ⟨S, [], Le.refl S, ⟨rfl, rfl, rfl⟩, List.nodup_nil, (fun _ hb => nomatch hb), r⟩
  | false :: io, .va d :: os, ρ, ds, ρ', vs, A, R, S, e, r, h, nd, dj => by
    unfold prep at e
    cases e1 : prep io os ρ with
    | none => rw [e1] at e; cases e
    | some q =>
      rw [e1] at e
      cases e
      obtain ⟨v, vr, A1, A2, rfl, rfl, h1, h2⟩ := h
      obtain ⟨n1, n2, dd⟩ := List.nodup_append.mp nd
      have r1 : Rel K Z O H S (A1 ++ (A2 ++ R)) ρ σ := r.perm fun b => by simp
      obtain ⟨S1, l1, q1, r2⟩ := r1.freeze h1 n1 fun b hb => ⟨fun z => (List.mem_append.mp z).elim (fun z => dd b hb b z rfl) (dj b (List.mem_append_left _ hb)).1, (dj b (List.mem_append_left _ hb)).2⟩
      have h2' := h2.keep l1 fun b hb => ⟨rfl, (r2.rest b (hb.imp (List.mem_append_left _) id)).1⟩
      obtain ⟨S2, B, l2, aa, nB, dB, r3⟩ := a9m io os ρ e1 r2 h2' n2 fun b hb => dj b (List.mem_append_right _ hb)
      exact ⟨S2, B, l1.trans l2, ⟨fr d, _, v, vr, [], B, rfl, rfl, rfl, Own.of_sh (q1.mono l2) (a4h d), fun _ => a4h d, aa⟩, nB, dB, r3⟩
  | true :: io, .va d :: os, ρ, ds, ρ', vs, A, R, S, e, r, h, nd, dj => by
    unfold prep at e
    cases e1 : prep io os ρ with
    | none => rw [e1] at e; cases e
    | some q =>
      rw [e1] at e
      cases e
      obtain ⟨v, vr, A1, A2, rfl, rfl, h1, h2⟩ := h
      obtain ⟨n1, n2, dd⟩ := List.nodup_append.mp nd
      have r1 : Rel K Z O H S (A2 ++ (A1 ++ R)) ρ σ := r.perm fun b => by simp [or_left_comm]
      obtain ⟨S2, B, l2, aa, nB, dB, r3⟩ := a9m io os ρ e1 r1 h2 n2 fun b hb => ⟨fun z => (List.mem_append.mp z).elim (fun z => dd b z b hb rfl) (dj b (List.mem_append_right _ hb)).1, (dj b (List.mem_append_right _ hb)).2⟩
      refine ⟨S2, A1 ++ B, l2, ⟨d, _, v, vr, A1, B, rfl, rfl, rfl, Own.keep l2 d h1 fun b hb => ⟨rfl, (r3.rest b (.inl (List.mem_append_right _ (List.mem_append_left _ hb)))).1⟩, nofun, aa⟩,
        List.nodup_append.mpr ⟨n1, nB, fun a ha b hb z => (dB b hb).1 (List.mem_append_left _ (z ▸ ha))⟩, fun b hb => ?_, r3.perm fun b => by simp [or_left_comm]⟩
      rcases List.mem_append.mp hb with hb | hb
      · exact dj b (List.mem_append_left _ hb)
      · exact ⟨fun z => (dB b hb).1 (List.mem_append_right _ z), (dB b hb).2⟩
  | true :: io, .nm i :: os, ρ, ds, ρ', vs, A, R, S, e, r, h, nd, dj => by
    obtain ⟨v, vr, A1, A2, rfl, rfl, ⟨hv, rfl⟩, h2⟩ := h
    have core : ∀ d s, ρ[i]? = some (some s) → (s = .own d ∨ s = .io d) → ∀ dr, prep io os (ρ.set i none) = some (dr, ρ') → ds = d :: dr → ∃ S' B, Le S S' ∧ ArgsOk Z H S' (true :: io) ds (v :: vr) B ∧ B.Nodup ∧ (∀ b ∈ B, b ∉ R ∧ b ∉ O.L) ∧ Rel K Z O H S' (B ++ R) ρ' σ := fun d s es hs dr e1 hd => by
      subst hd
      obtain ⟨As, r⟩ := r
      obtain ⟨w, hw, q⟩ := r.sl i s es
      rw [hv] at hw
      cases hw
      have q : Own Z H S d v (As i) := by
        rcases hs with rfl | rfl
        · exact q
        · exact q.1
      have r1 : Rel K Z O H S (A2 ++ (As i ++ R)) (ρ.set i none) σ := Rel.perm ⟨_, r.take (i := i)⟩ fun b => by simp [or_left_comm]
      have djA : ∀ b ∈ As i, b ∉ R ∧ b ∉ O.L := fun b hb => ⟨fun z => (r.dr i b hb).1 (List.mem_append_right _ z), (r.dr i b hb).2⟩
      obtain ⟨S2, B, l2, aa, nB, dB, r3⟩ := a9m io os (ρ.set i none) e1 r1 h2 (by simpa using nd) fun b hb => ⟨fun z => (List.mem_append.mp z).elim (fun z => (r.dr i b z).1 (by simp [hb])) (dj b hb).1, (dj b hb).2⟩
      refine ⟨S2, As i ++ B, l2, ⟨d, _, v, vr, As i, B, rfl, rfl, rfl, Own.keep l2 d q fun b hb => ⟨rfl, (r3.rest b (.inl (List.mem_append_right _ (List.mem_append_left _ hb)))).1⟩, nofun, aa⟩,
        List.nodup_append.mpr ⟨r.nd i, nB, fun a ha b hb z => (dB b hb).1 (List.mem_append_left _ (z ▸ ha))⟩, fun b hb => ?_, r3.perm fun b => by simp [or_left_comm]⟩
      rcases List.mem_append.mp hb with hb | hb
      · exact djA b hb
      · exact ⟨fun z => (dB b hb).1 (List.mem_append_right _ z), (dB b hb).2⟩
    unfold prep at e
    split at e
    · rename_i d es
      split at e
      · rename_i dr ρ2 e1
        cases e
        exact core d _ es (.inl rfl) _ e1 rfl
      · cases e
    · rename_i d es
      split at e
      · rename_i dr ρ2 e1
        cases e
        exact core d _ es (.inr rfl) _ e1 rfl
      · cases e
    · cases e
  | [], _ :: _, _, _, _, _, _, _, _, e, _, _, _, _ => by cases e
  | _ :: _, [], _, _, _, _, _, _, _, e, _, _, _, _ => by simp [prep] at e
  | false :: _, .nm _ :: _, _, _, _, _, _, _, _, e, _, _, _, _ => by simp [prep] at e
  | false :: _, .vw _ :: _, _, _, _, _, _, _, _, e, _, _, _, _ => by simp [prep] at e
  | true :: _, .vw _ :: _, _, _, _, _, _, _, _, e, _, _, _, _ => by simp [prep] at e
theorem a71 {ρ0 : Env} (hp : ∀ i d v, ρ0[i]? = some (some (.io d)) → σ[i]? = some (some v) → O.P i = some v) : ∀ (io : List Bool) (os : List Opd) (ds : List D) (ρ : Env) {ρ' : Env} {vs : List V} {A B R : List Addr}, back ρ0 io os ds ρ = some ρ' → OpdsOk Z O.L H' S' σ os vs A → a78 Z H S io ds vs B → B.Nodup → (∀ b ∈ B, b ∉ R ∧ b ∉ O.L) →
    ρ0.length = ρ.length → Rel K Z O H S (B ++ R) ρ σ → Rel K Z O H S R ρ' σ
  | [], [], [], ρ, ρ', vs, A, B, R, e, _, h, _, _, _, r => by
    cases e
    obtain ⟨_, rfl⟩ := h
    exact r
  | false :: io, o :: os, ds, ρ, ρ', vs, A, B, R, e, ho, h, nd, dj, hl, r => by
    obtain ⟨v, vr, rfl, h⟩ := h
    obtain ⟨v', vr', A1, A2, ev, rfl, _, h2⟩ := ho
    cases ev
    unfold back at e
    exact a71 hp io os ds ρ e h2 h nd dj hl r
  | true :: io, .va x :: os, d :: ds, ρ, ρ', vs, A, B, R, e, ho, h, nd, dj, hl, r => by
    obtain ⟨d', dr, v, vr, B1, B2, ed, rfl, rfl, q, h⟩ := h
    cases ed
    obtain ⟨v', vr', A1, A2, ev, rfl, _, h2⟩ := ho
    cases ev
    unfold back at e
    obtain ⟨n1, n2, dd⟩ := List.nodup_append.mp nd
    exact a71 hp io os ds ρ e h2 h n2 (fun b hb => dj b (List.mem_append_right _ hb)) hl (Rel.drop (A := B1) (r.perm fun b => by simp))
  | true :: io, .nm i :: os, d :: ds, ρ, ρ', vs, A, B, R, e, ho, h, nd, dj, hl, r => by
    obtain ⟨d', dr, v, vr, B1, B2, ed, rfl, rfl, q, h⟩ := h
    cases ed
    obtain ⟨v', vr', A1, A2, ev, rfl, ⟨hv, _⟩, h2⟩ := ho
    cases ev
    obtain ⟨n1, n2, dd⟩ := List.nodup_append.mp nd
    have r1 : Rel K Z O H S (B1 ++ (B2 ++ R)) ρ σ := r.perm fun b => by simp
    have put : ∀ s, SlotOk Z H S O.L (O.P i) s v B1 → i < ρ.length → Rel K Z O H S (B2 ++ R) (ρ.set i (some s)) σ := fun s hs hi => by
      obtain ⟨As, r1⟩ := r1
      exact ⟨_, r1.put (σ' := σ) hs n1 (fun b hb => ⟨fun z => (List.mem_append.mp z).elim (fun z => dd b hb b z rfl) (dj b (List.mem_append_left _ hb)).1, (dj b (List.mem_append_left _ hb)).2⟩) hi rfl hv fun _ _ => rfl⟩
    unfold back at e
    split at e
    · rename_i d0 es
      have hi : i < ρ.length := hl ▸ (List.getElem?_eq_some_iff.mp es).1
      exact a71 hp io os ds _ e h2 h n2 (fun b hb => dj b (List.mem_append_right _ hb)) (by rw [List.length_set]; exact hl) (put (.own d) q hi)
    · rename_i d0 es
      have hi : i < ρ.length := hl ▸ (List.getElem?_eq_some_iff.mp es).1
      exact a71 hp io os ds _ e h2 h n2 (fun b hb => dj b (List.mem_append_right _ hb)) (by rw [List.length_set]; exact hl) (put (.io d) ⟨q, hp i d0 v es hv⟩ hi)
    · cases e
  | [], [], _ :: _, _, _, _, _, _, _, e, _, _, _, _, _, _ => by simp [back] at e
  | [], _ :: _, _, _, _, _, _, _, _, e, _, _, _, _, _, _ => by simp [back] at e
  | _ :: _, [], _, _, _, _, _, _, _, e, _, _, _, _, _, _ => by simp [back] at e
  | true :: _, _ :: _, [], _, _, _, _, _, _, e, _, _, _, _, _, _ => by simp [back] at e
  | true :: _, .vw _ :: _, _ :: _, _, _, _, _, _, _, e, _, _, _, _, _, _ => by simp [back] at e
theorem a6m : ∀ (io : List Bool) (os : List Opd) (ρ : Env) {ds : List D} {ρ' : Env}, prep io os ρ = some (ds, ρ') → ρ'.length = ρ.length
  | [], [], ρ, _, _, e => by cases e; rfl
  | false :: io, .va d :: os, ρ, ds, ρ', e => by
    unfold prep at e
    split at e
    · rename_i e1; cases e; exact a6m io os ρ e1
    · cases e
  | true :: io, .va d :: os, ρ, ds, ρ', e => by
    unfold prep at e
    split at e
    · rename_i e1; cases e; exact a6m io os ρ e1
    · cases e
  | true :: io, .nm i :: os, ρ, ds, ρ', e => by
    unfold prep at e
    split at e
    · split at e
      · rename_i e1; cases e; rw [a6m io os _ e1, List.length_set]
      · cases e
    · split at e
      · rename_i e1; cases e; rw [a6m io os _ e1, List.length_set]
      · cases e
    · cases e
  | [], _ :: _, _, _, _, e => by cases e
  | _ :: _, [], _, _, _, e => by simp [prep] at e
  | false :: _, .nm _ :: _, _, _, _, e => by simp [prep] at e
  | false :: _, .vw _ :: _, _, _, _, e => by simp [prep] at e
  | true :: _, .vw _ :: _, _, _, _, e => by simp [prep] at e
end
def callC (io : List Bool) (m : List D → RF) (f : M (List Opd)) : M D := M.bind f fun os ρ => match prep io os ρ with
  | some (ds, ρ1) => (match m ds with
    | .ok d outs => (match back ρ io os outs ρ1 with | some ρ2 => .ok d ρ2 | none => .bad)
    | .ex x outs => (match back ρ io os outs ρ1 with | some ρ2 => .ex x ρ2 | none => .bad)
    | .bad => .bad)
  | none => .bad
section
variable {X : Cx} {Z : Zt} {W : WX} {CX : CXT} {k : Nat} {f : Addr} {fd : FuncData} {ps : List Str} {io : List Bool} {m : List D → RF} {x : Str} {p pos : Pos} {e : Expr} {es : List Expr}
theorem b2z {sp : World → Sp} {pins : List (Addr × Obj)} {σ : St} {H : Hp} {s : Shared} {Q : VK} {E : XK} {us : List Value} {vs : List V} (F : FnG X.prog X.w X.K X.mg X.base CX k f fd ps sp) (hr : Room k X.A) (hG : X.A.guards = some []) (hb : Binds X.K fd ps [])
    (hx : PassesAt CX X σ E) (I : Inv X pins σ H s) (r : Vals vs us) (h : sp X.w vs H Q E) : wpAny (model X.prog X.w) X.A (call (.ref f) us) (EP X pins σ Q) X.xe s := by
  have hl : (us ++ []).length = ps.length := by
    rw [List.append_nil, ← r.length]
    exact F.len _ _ _ _ h
  have hb' := hb s us I.kIn hl
  rw [List.append_nil] at hb'
  refine wpAny_call (codeAny_mono (F.go X.A X.stack s H ⟨us, []⟩ us vs Q E hr hG I.env0 hb' r h) fun q s' hq => ?_)
  match q, hq with
  | .error e, hq => exact hx pins H s e s' I hq
  | .ok (.ret u), hq => exact I.after hq
  | .ok .next, hq => exact hq.elim
  | .ok .brk, hq => exact hq.elim
  | .ok .cont, hq => exact hq.elim
def tCallG (sp : Sp) (E : St → XK) (t : TA) : TE := fun σ H Q => t σ H fun vs H1 => sp vs H1 Q (E σ)
theorem pe_callG {sp : World → Sp} {E : St → XK} {t : TA} (F : FnG X.prog X.w X.K X.mg X.base CX k f fd ps sp) (hr : Room k X.A) (hG : X.A.guards = some []) (hm : X.mg x = some (.ref f)) (hk : PySem.W.keepIn X.K (.ref f) = true) (hb : Binds X.K fd ps [])
    (hx : ∀ σ, PassesAt CX X σ (E σ)) (ha : PA X (e :: es) t) (hg : Gl X x) (hdb : (x == ("__debug__" : Str)) = false) (he : starEach (e :: es) X.env = (false, eval e X.env) :: starEach es X.env) (hpl : (backTo pos (starEach es X.env)).any (·.1) = false) :
    PE X (.Call (.Name x p) (e :: es) [] pos) (tCallG (sp X.w) E t) := by
  refine ⟨fun pins s σ H Q I h => wpAny_Call_Name_kw (ld_glob I hg hm ?_ hdb)⟩
  exact PySem.W.callWith_K (h₀ := X.base) I.ok.mod.kin hk (thn (ha.run pos pins s σ H _ I h) fun us s1 ⟨vs, H1, I1, r, q⟩ => ⟨I1.kIn, b2z F hr hG hb (hx σ) I1 r q⟩) he hpl
theorem aq6 {ta : TA} (hw : Z.wo = X.w) {g : M (List Opd)} (h2 : ∀ O H S R ρ σ Q, Rel X.K Z O H S R ρ σ → b4e X.K Z O W H S R σ Q (g ρ) → ta σ H Q) :
    ∀ O H S R ρ σ Q, Rel X.K Z O H S R ρ σ → EPost X.K Z O W H S R σ Q (callC io m g ρ) → tCallG (spD X.K Z.cls io m X.w) (WE W) ta σ H Q := by
  rw [← hw]
  intro O H S R ρ σ Q r h
  refine h2 O H S R ρ σ _ r ?_
  unfold callC M.bind at h
  cases e1 : g ρ with
  | bad => rw [e1] at h; exact h.elim
  | ex x ρ1 => rw [e1] at h; exact h
  | ok os ρ1 =>
    rw [e1] at h
    intro vs H1 S1 A l1 q1 n1 d1 r1 f1
    simp only at h
    cases e2 : prep io os ρ1 with
    | none => rw [e2] at h; exact h.elim
    | some pr =>
      obtain ⟨ds, ρ2⟩ := pr
      rw [e2] at h
      simp only at h
      obtain ⟨S2, B, l2, aa, nB, dB, As, r2⟩ := a9m io os ρ1 e2 r1 q1 n1 d1
      have hP : ∀ i d v, ρ1[i]? = some (some (.io d)) → σ[i]? = some (some v) → O.P i = some v := fun i d v es hv => by
        obtain ⟨As', r1⟩ := r1
        obtain ⟨w, hw, q⟩ := r1.sl i _ es
        rw [hv] at hw
        cases hw
        exact q.2
      have hlen : ρ1.length = ρ2.length := (a6m io os ρ1 e2).symm
      let Rc : List Addr := R ++ O.L ++ (List.range ρ2.length).flatMap As
      have inRc : ∀ b, b ∈ Rc ↔ b ∈ R ∨ b ∈ O.L ∨ ∃ i, b ∈ As i := fun b => by
        constructor
        · intro hb
          rcases List.mem_append.mp hb with hb | hb
          · rcases List.mem_append.mp hb with hb | hb
            · exact .inl hb
            · exact .inr (.inl hb)
          · obtain ⟨i, _, hb⟩ := List.mem_flatMap.mp hb
            exact .inr (.inr ⟨i, hb⟩)
        · rintro (hb | hb | ⟨i, hb⟩)
          · exact List.mem_append_left _ (List.mem_append_left _ hb)
          · exact List.mem_append_left _ (List.mem_append_right _ hb)
          · refine List.mem_append_right _ (List.mem_flatMap.mpr ⟨i, List.mem_range.mpr ?_, hb⟩)
            refine Nat.lt_of_not_le fun hi => ?_
            rw [r2.nil i (fun s => by rw [List.getElem?_eq_none hi]; exact fun z => nomatch z)] at hb
            cases hb
      have rest : ∀ b ∈ Rc, S2 b = none ∧ H1 b ≠ none := fun b hb => by
        rcases (inRc b).mp hb with hb | hb | ⟨i, hb⟩
        · exact r2.rest b (.inl (List.mem_append_right _ hb))
        · exact r2.rest b (.inr hb)
        · exact r2.mem hb
      have stepR : ∀ {H' : Hp} {S' : Reg}, Le S2 S' → InvS X.K Z H' S' → (∀ b ∈ Rc, H' b = H1 b ∧ S' b = none) → RelA X.K Z O H' S' R ρ2 σ As := fun {H' S'} l I k => r2.drop.step l I fun b hb => k b ((inRc b).mpr hb)
      have frm : ∀ {H' : Hp} {S' : Reg}, (∀ b ∈ Rc, H' b = H1 b ∧ S' b = none) → Fr O R H1 H' := fun {H' S'} k b hb => (k b ((inRc b).mpr (hb.imp id .inl))).1
      refine ⟨Z.sc, S2, Rc, ds, B, r2.inv, aa, nB, fun b hb z => ?_, rest, ?_⟩
      · rcases (inRc b).mp z with z | z | ⟨i, z⟩
        · exact (dB b hb).1 z
        · exact (dB b hb).2 z
        · exact (r2.dr i b z).1 (List.mem_append_left _ hb)
      · cases e3 : m ds with
        | bad => rw [e3] at h; exact h.elim
        | ok d outs =>
          rw [e3] at h
          simp only at h
          cases e4 : back ρ1 io os outs ρ2 with
          | none => rw [e4] at h; exact h.elim
          | some ρ3 =>
            rw [e4] at h
            intro v H' S' A' B' l3 I3 q3 o3 n3 d3 k3
            obtain ⟨na, nb, dab⟩ := List.nodup_append.mp n3
            have rr := stepR l3 I3 k3
            have dd : ∀ b ∈ A' ++ B', (b ∉ R ∧ b ∉ O.L) ∧ ∀ i, b ∉ As i := fun b hb => ⟨⟨fun z => d3 b hb ((inRc b).mpr (.inl z)), fun z => d3 b hb ((inRc b).mpr (.inr (.inl z)))⟩, fun i z => d3 b hb ((inRc b).mpr (.inr (.inr ⟨i, z⟩)))⟩
            have memO : ∀ (io : List Bool) (outs : List D) (vs : List V) (B' : List Addr), a78 Z H' S' io outs vs B' → ∀ b ∈ B', S' b = none ∧ H' b ≠ none := by
              intro io
              induction io with
              | nil => intro outs vs B' h b hb; rw [h.2] at hb; cases hb
              | cons c io ih =>
                intro outs vs B' h b hb
                cases c with
                | true =>
                  obtain ⟨d', dr, v', vr, A1, A2, _, _, rfl, q, h⟩ := h
                  rcases List.mem_append.mp hb with hb | hb
                  · exact Own.mem d' q b hb
                  · exact ih _ _ _ h b hb
                | false => obtain ⟨v', vr, _, h⟩ := h; exact ih _ _ _ h b hb
            have r3 : Rel X.K Z O H' S' (B' ++ (A' ++ R)) ρ2 σ := by
              have ra : RelA X.K Z O H' S' (A' ++ R) ρ2 σ As := rr.hold (fun b hb => Own.mem d q3 b hb) fun i b hb z => (dd b (List.mem_append_left _ z)).2 i hb
              exact ⟨As, ra.hold (fun b hb => memO _ _ _ _ o3 b hb) fun i b hb z => (dd b (List.mem_append_right _ z)).2 i hb⟩
            have r4 := a71 hP io os outs ρ2 e4 q1 o3 nb (fun b hb => ⟨fun z => (List.mem_append.mp z).elim (fun z => dab b z b hb rfl) (dd b (List.mem_append_right _ hb)).1.1, (dd b (List.mem_append_right _ hb)).1.2⟩) hlen r3
            exact h v H' S' A' ((l1.trans l2).trans l3) q3 na (fun b hb => (dd b (List.mem_append_left _ hb)).1) r4 (f1.trans (frm k3))
        | ex xx outs =>
          rw [e3] at h
          simp only at h
          cases e4 : back ρ1 io os outs ρ2 with
          | none => rw [e4] at h; exact h.elim
          | some ρ3 =>
            rw [e4] at h
            intro cls dx H' S' B' l3 I3 q3 o3 nb d3 k3
            have rr := stepR l3 I3 k3
            have dd : ∀ b ∈ B', (b ∉ R ∧ b ∉ O.L) ∧ ∀ i, b ∉ As i := fun b hb => ⟨⟨fun z => d3 b hb ((inRc b).mpr (.inl z)), fun z => d3 b hb ((inRc b).mpr (.inr (.inl z)))⟩, fun i z => d3 b hb ((inRc b).mpr (.inr (.inr ⟨i, z⟩)))⟩
            have memO : ∀ (io : List Bool) (outs : List D) (vs : List V) (B' : List Addr), a78 Z H' S' io outs vs B' → ∀ b ∈ B', S' b = none ∧ H' b ≠ none := by
              intro io
              induction io with
              | nil => intro outs vs B' h b hb; rw [h.2] at hb; cases hb
              | cons c io ih =>
                intro outs vs B' h b hb
                cases c with
                | true =>
                  obtain ⟨d', dr, v', vr, A1, A2, _, _, rfl, q, h⟩ := h
                  rcases List.mem_append.mp hb with hb | hb
                  · exact Own.mem d' q b hb
                  · exact ih _ _ _ h b hb
                | false => obtain ⟨v', vr, _, h⟩ := h; exact ih _ _ _ h b hb
            have r3 : Rel X.K Z O H' S' (B' ++ R) ρ2 σ := ⟨As, rr.hold (fun b hb => memO _ _ _ _ o3 b hb) fun i b hb z => (dd b z).2 i hb⟩
            have r4 := a71 hP io os outs ρ2 e4 q1 o3 nb (fun b hb => (dd b hb).1) hlen r3
            exact h H' S' cls dx ((l1.trans l2).trans l3) q3 r4 (f1.trans (frm k3))
theorem o9 {g : M (List Opd)} (F : FnG X.prog X.w X.K X.mg X.base CX k f fd ps (spD X.K Z.cls io m)) (hr : Room k X.A) (hG : X.A.guards = some []) (hm : X.mg x = some (.ref f)) (hk : PySem.W.keepIn X.K (.ref f) = true) (hb : Binds X.K fd ps [])
    (hx : ∀ σ, PassesAt CX X σ (WE W σ)) (ha : SA X Z W (e :: es) g) (hg : Gl X x := by rfl) (hdb : (x == ("__debug__" : Str)) = false := by decide) (he : starEach (e :: es) X.env = (false, eval e X.env) :: starEach es X.env := by rfl) (hpl : (backTo pos (starEach es X.env)).any (·.1) = false := by rfl) (hw : Z.wo = X.w := by assumption) :
    SE X Z W (.Call (.Name x p) (e :: es) [] pos) (callC io m g) := by
  obtain ⟨t, h1, h2⟩ := ha
  exact ⟨_, pe_callG (E := WE W) F hr hG hm hk hb hx h1 hg hdb he hpl, aq6 hw h2⟩
theorem t7 {E : St → XK} (σ : St) : PassesAt CX0 X σ (E σ) := fun _ _ _ _ _ _ h => h.elim
end
end Dv
namespace Dv
open PySem L2 PySem.Spec PyProof.Rows
def a9j : Nat → List Bool → List D → Env → Env
  | k, io :: r, d :: ds, ρ => a9j (k + 1) r ds (ρ.set k (some (if io = true then .io d else .own d)))
  | _, _, _, ρ => ρ
def a2l : Nat → List Bool → Env → Option (List D)
  | _, [], _ => some []
  | k, true :: r, ρ => (match ρ[k]? with
    | some (some (.io d)) => (match a2l (k + 1) r ρ with | some ds => some (d :: ds) | none => none)
    | _ => none)
  | k, false :: r, ρ => a2l (k + 1) r ρ
def a8m (io : List Bool) (n : Nat) (c : C) (ds : List D) : RF := match c (a9j 0 io ds (List.replicate n none)) with
  | .rt d ρ' => (match a2l 0 io ρ' with | some os => .ok d os | none => .bad)
  | .nx ρ' => (match a2l 0 io ρ' with | some os => .ok .non os | none => .bad)
  | .ex x ρ' => (match a2l 0 io ρ' with | some os => .ex x os | none => .bad)
  | _ => .bad
section
variable {K : PySem.W.Frag} {Z : Zt} {O : Hold} {W : WX} {H H' : Hp} {S S' : Reg} {R A : List Addr} {σ : L2.St} {ρ : Env}
theorem ArgsOk.len : ∀ {io : List Bool} {ds : List D} {vs : List V} {A : List Addr}, ArgsOk Z H S io ds vs A → vs.length = io.length
  | [], _, _, _, h => by rw [h.2.1]; rfl
  | c :: io, _, _, _, h => by
    obtain ⟨d, dr, v, vr, A1, A2, rfl, rfl, rfl, _, _, h⟩ := h
    rw [List.length_cons, List.length_cons, ArgsOk.len h]
theorem au4 : ∀ (io : List Bool) (k : Nat) (ds : List D) (vs : List V) (A : List Addr) (ρ : Env), ArgsOk Z H S io ds vs A → A.Nodup → (∀ b ∈ A, b ∉ R ∧ b ∉ O.L) → Rel K Z O H S (A ++ R) ρ σ →
    (∀ j v, vs[j]? = some v → σ[k + j]? = some (some v) ∧ O.P (k + j) = some v) → k + vs.length ≤ ρ.length → Rel K Z O H S R (a9j k io ds ρ) σ
  | [], k, ds, vs, A, ρ, h, nd, dj, r, hv, hl => by
    obtain ⟨rfl, rfl, rfl⟩ := h
    exact r
  | c :: io, k, ds, vs, A, ρ, h, nd, dj, r, hv, hl => by
    obtain ⟨d, dr, v, vr, A1, A2, rfl, rfl, rfl, q, _, h⟩ := h
    obtain ⟨n1, n2, dd⟩ := List.nodup_append.mp nd
    have r1 : Rel K Z O H S (A1 ++ (A2 ++ R)) ρ σ := r.perm fun b => by simp
    obtain ⟨h0, p0⟩ := hv 0 v rfl
    rw [List.length_cons] at hl
    have r2 : Rel K Z O H S (A2 ++ R) (ρ.set k (some (if c = true then .io d else .own d))) σ := by
      obtain ⟨As, r1⟩ := r1
      refine ⟨_, r1.put (σ' := σ) (v := v) ?_ n1 (fun b hb => ⟨fun z => (List.mem_append.mp z).elim (fun z => dd b hb b z rfl) (dj b (List.mem_append_left _ hb)).1, (dj b (List.mem_append_left _ hb)).2⟩) (by omega) rfl h0 fun _ _ => rfl⟩
      cases c with
      | true => exact ⟨q, p0⟩
      | false => exact q
    refine au4 io (k + 1) dr vr A2 _ h n2 (fun b hb => dj b (List.mem_append_right _ hb)) r2 (fun j w hw => ?_) (by rw [List.length_set]; omega)
    have := hv (j + 1) w hw
    rwa [show k + (j + 1) = k + 1 + j by omega] at this
theorem a9g {As : Nat → List Addr} (r : RelA K Z O H S R ρ σ As) : ∀ (io : List Bool) (k : Nat) (os : List D) (vs : List V), a2l k io ρ = some os → vs.length = io.length → (∀ j v, vs[j]? = some v → O.P (k + j) = some v) →
    ∃ B, a78 Z H S io os vs B ∧ B.Nodup ∧ ∀ b ∈ B, ∃ j, k ≤ j ∧ b ∈ As j
  | [], k, os, vs, e, hl, hv => by
    cases e
    exact ⟨[], ⟨rfl, rfl⟩, List.nodup_nil, fun _ hb => nomatch hb⟩
  | false :: io, k, os, vs, e, hl, hv => by
    match vs, hl, hv with
    | v :: vr, hl, hv =>
      unfold a2l at e
      obtain ⟨B, h1, h2, h3⟩ := a9g r io (k + 1) os vr e (by simpa using hl) fun j w hw => by
        have := hv (j + 1) w hw
        rwa [show k + (j + 1) = k + 1 + j by omega] at this
      exact ⟨B, ⟨v, vr, rfl, h1⟩, h2, fun b hb => let ⟨j, hj, q⟩ := h3 b hb; ⟨j, by omega, q⟩⟩
    | [], hl, _ => cases hl
  | true :: io, k, os, vs, e, hl, hv => by
    match vs, hl, hv with
    | v :: vr, hl, hv =>
      unfold a2l at e
      split at e
      · rename_i d es
        split at e
        · rename_i ds e2
          cases e
          obtain ⟨B, h1, h2, h3⟩ := a9g r io (k + 1) ds vr e2 (by simpa using hl) fun j w hw => by
            have := hv (j + 1) w hw
            rwa [show k + (j + 1) = k + 1 + j by omega] at this
          obtain ⟨w, hw, q, hp⟩ := r.sl k _ es
          have hv0 : O.P k = some v := hv 0 v rfl
          rw [hv0] at hp
          cases hp
          refine ⟨As k ++ B, ⟨d, ds, v, vr, As k, B, rfl, rfl, rfl, q, h1⟩, List.nodup_append.mpr ⟨r.nd k, h2, fun a ha b hb z => ?_⟩, fun b hb => ?_⟩
          · obtain ⟨j, hj, hbj⟩ := h3 b hb
            exact r.dj k j (by omega) a ha (z ▸ hbj)
          · rcases List.mem_append.mp hb with hb | hb
            · exact ⟨k, Nat.le_refl _, hb⟩
            · obtain ⟨j, hj, hbj⟩ := h3 b hb
              exact ⟨j, by omega, hbj⟩
        · cases e
      · cases e
    | [], hl, _ => cases hl
theorem b0y {n : Nat} (I : InvS K Z H S) (hσ : σ.length = n) (hR : ∀ b, b ∈ R ∨ b ∈ O.L → S b = none ∧ H b ≠ none) : Rel K Z O H S R (List.replicate n none) σ := by
  refine ⟨fun _ => [], I, by rw [List.length_replicate, hσ], fun i s e => ?_, fun _ _ => rfl, fun _ => List.nodup_nil, (fun _ _ _ _ hb => nomatch hb), (fun _ _ hb => nomatch hb), hR⟩
  rw [List.getElem?_replicate] at e
  split at e <;> cases e
end
section
variable {P : Program} {w : World} {K : PySem.W.Frag} {mg : Str → Option Value} {base : Heap} {CX : CXT}
theorem b80 {k : Nat} {f : Addr} {name qual : Str} {params : Arguments} {body : List Stmt} {scope : Scope} {dV kV doc pm cdv ct oc : Value} {an od : Option Addr} {osl : Array (Option Value)} {N ps : List Str} {sp : World → Sp}
    (lk : K.lookup f = some ⟨oc, od, .func (PySem.W.fnOf name qual params body scope dV kV doc pm an cdv ct), osl⟩) (hcd : PySem.W.codeIn K cdv qual = true) (S : FnScope N ps scope) (len : ∀ vs H Q E, sp w vs H Q E → vs.length = ps.length)
    (hbody : ∀ (A : Around) (outer : List PySem.Env) (s : Shared) (H : Hp) (vs : List V) (Q : VK) (E : XK), Room k (A.deeper (envOfC qual scope s.heap.objs.size f cdv)) → A.guards = some [] → sp w vs H Q E →
      ∃ t, PSs (cxOf CX P w K mg base N qual scope f cdv A outer s H E) body t ∧ t { nx := fun _ H' => Q .non H', rt := Q } (L2.start N vs) H) :
    FnG P w K mg base CX (k + 1) f (PySem.W.fnOf name qual params body scope dV kV doc pm an cdv ct) ps sp := by
  refine ⟨len, fun A outer s H args us vs Q E hr hG e0 hb r hsp => ?_⟩
  have kx : ∀ b o, base.get? b = some o → s.heap.get? b = some o := fun b o e => (e0.bs b o e).1
  have inK : K.In s.heap := e0.mod.kin.keeps kx
  have all : ∀ y ∈ ps.zip us, scope.names.lookup y.1 = some .local ∨ (scope.names.lookup y.1 = some .cell ∧ ((cellsFrom (s.heap.objs.size + 1) scope.names []).lookup y.1).isSome = true) := by
    rintro ⟨n, v⟩ hy
    cases S.par n (List.of_mem_zip hy).1 with
    | inl q => exact .inl q
    | inr q => exact .inr ⟨q, PySem.W.cellsFrom_some _ _ _ (.inl q)⟩
  refine codeAny_call_function hr.depth (inK _ _ lk) rfl S.co S.gen rfl (PySem.W.codeRec_of inK hcd) (hb _ _ _ _ (wpAny_newFunctionEnv_cells S.kind all fun env he s1 x => ?_))
  cases he
  refine ⟨(e0.mod.nolimit.keeps kx).keeps x.toInCall.keep, codeAny_func ?_⟩
  obtain ⟨t, ht, hq⟩ := hbody A outer s H vs Q E (hr.deeper _) hG hsp
  refine wpAny_mono (ht.run [] s1 (L2.start N vs) H _ (inv_start S hr.hd e0 (len _ _ _ _ hsp) r x) hq) (fun fl s' hs => ?_) fun _ _ hs => hs
  match fl, hs with
  | .ret u, ⟨v, σ', H', J, rv, q⟩ => exact ⟨v, H', J.os, J.bare, J.base, J.hok, rv, q⟩
  | .next, ⟨σ', H', J, q⟩ => exact ⟨V.non, H', J.os, J.bare, J.base, J.hok, rfl, q⟩
  | .brk, ⟨_, _, _, q⟩ => exact q.elim
  | .cont, ⟨_, _, _, q⟩ => exact q.elim
theorem aq1 {w : World} {cl : Str → Option Addr} {io : List Bool} {m : List D → RF} {ps : List Str} (hl : io.length = ps.length) : ∀ vs H Q E, spD K cl io m w vs H Q E → vs.length = ps.length := fun vs H Q E h => by
  obtain ⟨sc, S, R, ds, A, I, a, _⟩ := h
  rw [a.len, hl]
theorem b42 {X : Cx} {cl : Str → Option Addr} {io : List Bool} {c : C} {st : List Stmt} {N : List Str} {vs : List V} {H : Hp} {Q : VK} {E : XK} (W : WX) (hN : X.N = N) (hK : X.K = K) (hlen : vs.length ≤ N.length)
    (hW : ∀ cls d σ H', (∃ O : Hold, (∀ j v, vs[j]? = some v → O.P j = some v)) → E cls d H' → W cls d σ H')
    (hs : ∀ Z : Zt, Z.cls = cl → Z.wo = X.w → SSs X Z (fun cls d _ H' => E cls d H') st c) (h : spD K cl io (a8m io N.length c) X.w vs H Q E) : ∃ t, PSs X st t ∧ t { nx := fun _ H' => Q .non H', rt := Q } (L2.start N vs) H := by
  subst hK
  obtain ⟨sc, S, R, ds, A, I, a, nd, dj, hR, hp⟩ := h
  obtain ⟨t, h1, h2⟩ := hs ⟨sc, cl, X.w⟩ rfl rfl
  refine ⟨t, h1, ?_⟩
  let O : Hold := ⟨[], fun i => vs[i]?⟩
  have hlS : (L2.start N vs).length = N.length := by
    unfold L2.start
    rw [List.length_append, List.length_map, List.length_replicate]
    omega
  have hv : ∀ j v, vs[j]? = some v → (L2.start N vs)[0 + j]? = some (some v) ∧ O.P (0 + j) = some v := fun j v e => by
    rw [Nat.zero_add]
    refine ⟨?_, e⟩
    have hj : j < vs.length := (List.getElem?_eq_some_iff.mp e).1
    unfold L2.start
    rw [List.getElem?_append_left (by simpa using hj), List.getElem?_map, e]
    rfl
  have hA : ∀ b ∈ A, S b = none ∧ H b ≠ none := by
    have : ∀ (io : List Bool) (ds : List D) (vs : List V) (A : List Addr), ArgsOk ⟨sc, cl, X.w⟩ H S io ds vs A → ∀ b ∈ A, S b = none ∧ H b ≠ none := by
      intro io
      induction io with
      | nil => intro ds vs A h b hb; rw [h.2.2] at hb; cases hb
      | cons c io ih =>
        intro ds vs A h b hb
        obtain ⟨d, dr, v, vr, A1, A2, rfl, rfl, rfl, q, _, h⟩ := h
        rcases List.mem_append.mp hb with hb | hb
        · exact Own.mem d q b hb
        · exact ih _ _ _ h b hb
    exact this _ _ _ _ a
  have r0 : Rel X.K ⟨sc, cl, X.w⟩ O H S (A ++ R) (List.replicate N.length none) (L2.start N vs) := b0y I hlS fun b hb => by
    rcases hb with hb | hb
    · rcases List.mem_append.mp hb with hb | hb
      · exact hA b hb
      · exact hR b hb
    · exact absurd (show b ∈ ([] : List Addr) from hb) (by simp)
  have r1 := au4 io 0 ds vs A (List.replicate N.length none) a nd (fun b hb => ⟨dj b hb, fun z => absurd (show b ∈ ([] : List Addr) from z) (by simp)⟩) r0 hv (by rw [List.length_replicate]; omega)
  refine h2 O H S R _ _ _ r1 ?_
  have hP : ∀ j v, vs[j]? = some v → O.P (0 + j) = some v := fun j v e => (hv j v e).2
  have Rk : ∀ {H' : Hp} {S' : Reg} {A' : List Addr} {ρ' : Env} {σ' : L2.St}, Rel X.K ⟨sc, cl, X.w⟩ O H' S' (A' ++ R) ρ' σ' → Fr O R H H' → ∀ b ∈ R, H' b = H b ∧ S' b = none := fun r f b hb => ⟨f b (.inl hb), (r.rest b (.inl (List.mem_append_right _ hb))).1⟩
  unfold a8m at hp
  have fin : ∀ {d : D} {ρ' : Env}, (∀ os, a2l 0 io ρ' = some os → b70 X.K ⟨sc, cl, X.w⟩ H S R io vs Q E (.ok d os)) → (∃ os, a2l 0 io ρ' = some os) → ∀ v σ' H' S' A', Le S S' → Own ⟨sc, cl, X.w⟩ H' S' d v A' → A'.Nodup → (∀ b ∈ A', b ∉ R) → Rel X.K ⟨sc, cl, X.w⟩ O H' S' (A' ++ R) ρ' σ' → Fr O R H H' → Q v H' := by
    intro d ρ' hh ho v σ' H' S' A' l q nA dA r f
    obtain ⟨os, eo⟩ := ho
    have kk := Rk r f
    obtain ⟨As, r⟩ := r
    obtain ⟨B, b1, b2, b3⟩ := a9g r io 0 os vs eo a.len hP
    refine hh os eo v H' S' A' B l r.inv q b1 (List.nodup_append.mpr ⟨nA, b2, fun x hx y hy z => ?_⟩) (fun b hb => ?_) kk
    · obtain ⟨j, _, hj⟩ := b3 y hy
      exact (r.dr j y hj).1 (List.mem_append_left _ (z ▸ hx))
    · rcases List.mem_append.mp hb with hb | hb
      · exact dA b hb
      · obtain ⟨j, _, hj⟩ := b3 b hb
        exact fun z => (r.dr j b hj).1 (List.mem_append_right _ z)
  cases e : c (a9j 0 io ds (List.replicate N.length none)) with
  | bad => rw [e] at hp; exact hp.elim
  | bk ρ' => rw [e] at hp; exact hp.elim
  | ct ρ' => rw [e] at hp; exact hp.elim
  | rt d ρ' =>
    rw [e] at hp
    simp only at hp
    cases eo : a2l 0 io ρ' with
    | none => rw [eo] at hp; exact hp.elim
    | some os =>
      rw [eo] at hp
      exact fun v σ' H' S' A' l q nA dA r f => fin (fun os' e' => by rw [eo] at e'; cases e'; exact hp) ⟨os, eo⟩ v σ' H' S' A' l q nA (fun b hb => (dA b hb).1) r f
  | nx ρ' =>
    rw [e] at hp
    simp only at hp
    cases eo : a2l 0 io ρ' with
    | none => rw [eo] at hp; exact hp.elim
    | some os =>
      rw [eo] at hp
      exact fun σ' H' S' l r f => fin (d := .non) (fun os' e' => by rw [eo] at e'; cases e'; exact hp) ⟨os, eo⟩ .non σ' H' S' [] l ⟨rfl, rfl⟩ List.nodup_nil (fun _ hb => nomatch hb) r f
  | ex x ρ' =>
    rw [e] at hp
    simp only at hp
    cases eo : a2l 0 io ρ' with
    | none => rw [eo] at hp; exact hp.elim
    | some os =>
      rw [eo] at hp
      intro σ' H' S' cls d l q r f
      have kk := Rk (A' := []) r f
      obtain ⟨As, r⟩ := r
      obtain ⟨B, b1, b2, b3⟩ := a9g r io 0 os vs eo a.len hP
      exact hp cls d H' S' B l r.inv q b1 b2 (fun b hb => by
        obtain ⟨j, _, hj⟩ := b3 b hb
        exact (r.dr j b hj).1) kk
theorem okD {x qual : Str} {st : Stmt} {f : Addr} {fd : FuncData} {N ps : List Str} {k : Nat} {cl : Str → Option Addr} (F : Fun K x qual st f fd) (S : FnScope N ps (defScope st)) (io : List Bool) (hl : io.length = ps.length) (hp : ps.length ≤ N.length) {c : C}
    (hs : ∀ (cdv : Value) (A : Around) (outer : List PySem.Env) (s : Shared) (H : Hp) (E : XK) (Z : Zt) (W : WX), Z.cls = cl → Room k (A.deeper (envOfC qual (defScope st) s.heap.objs.size f cdv)) → A.guards = some [] → Z.wo = w →
      SSs (cxOf CX0 P w K mg base N qual (defScope st) f cdv A outer s H E).nox Z W (defBody st) c) : FnG P w K mg base CX0 (k + 1) f fd ps (spD K cl io (a8m io N.length c)) := by
  obtain ⟨oc, od, kV, doc, pm, an, cdv, ct, osl, rfl, lk, hcd⟩ := F.ex
  refine b80 lk hcd S (aq1 hl) fun A outer s H vs Q E hr hG hsp => ?_
  obtain ⟨t, h1, h2⟩ := b42 (X := (cxOf CX0 P w K mg base N qual (defScope st) f cdv A outer s H E).nox) (fun cls d _ H' => E cls d H') rfl rfl (by rw [aq1 hl _ _ _ _ hsp]; exact hp) (fun _ _ _ _ _ z => z) (fun Z hZ hw => hs cdv A outer s H E Z _ hZ hr hG hw) hsp
  exact ⟨t, h1.nox, h2⟩
end
theorem b3k {P : Program} {w : World} {K : PySem.W.Frag} {mg mb : Str → Option Value} {CX : CXT} {k : Nat} {fa a : Addr} {fd : FuncData} {x : Str} {cl : Str → Option Addr} {m : List D → RF} {s₁ : Shared} {vs : List Value} {ns : List Int}
    (KX : K.In s₁.heap) (hns : s₁.heap.Ns mainGlobals mg) (hb : s₁.heap.Ns builtinsNs mb) (hbb : ∀ x : Str, x ≠ "__name__" → mb x = bootBuiltins x) (hlim : s₁.heap.NoLimit) (hg : s₁.gens = #[])
    (ha : s₁.heap.get? a = some { cls := .type "list", data := .seq vs.toArray }) (hi : IntsAre vs ns) (hl : ns.length ≤ sizeLine) (hr : Room k callerA)
    (F : ∀ base : Heap, K.In base → base.Ns mainGlobals mg → FnG P w K mg base CX k fa fd [x] (spD K cl [false] m)) (hbind : ∀ (s : Shared) (u : Value), BindsTo s fd ⟨[u], []⟩ [(x, u)])
    (hm : m [.scr ns] = .ok (.bl true) []) (hCX : ∀ H e s', CX [] H s₁ (fun _ _ _ => False) e s' → False) :
    codeAny (model P w) callerA (.call (.ref fa) ⟨[.ref a], []⟩) (fun r s' => r = .ok (.ret (.bool true)) ∧ OldK s₁.heap s'.heap ∧ s'.os = s₁.os ∧ AllBare s'.gens) s₁ := by
  have rv := vals_ints hi
  have lenV := hi.length
  have main : ∀ H : Hp, Only H → ((∃ o, H a = some (.frz o (.lst (ns.map V.int)))) ∨ ∀ H2, SqL K H2 a (ns.map V.int)) → HOk P w H s₁.heap → (∀ b, H b ≠ none → b = a) → (H a ≠ none → K.lookup a = none) →
      codeAny (model P w) callerA (.call (.ref fa) ⟨[.ref a], []⟩) (fun r s' => r = .ok (.ret (.bool true)) ∧ OldK s₁.heap s'.heap ∧ s'.os = s₁.os ∧ AllBare s'.gens) s₁ := by
    intro H hO hS hok hA hK
    have only : ∀ {b : Addr} {o : Obj}, s₁.heap.get? b = some o → H b = none → (hidT s₁.heap H).get? b = some o := fun e n => hidT_get e n
    have notD : ∀ {b : Addr} {o : Obj} {es : Array DictEntry} {ep : Nat}, s₁.heap.get? b = some o → o.data = .dict es ep → H b = none := by
      intro b o es ep e d
      refine Classical.byContradiction fun q => ?_
      have e' := hA b q
      rw [e', ha] at e
      cases e
      cases d
    have toB : ∀ {b : Addr} {m : Str → Option Value}, s₁.heap.Ns b m → (hidT s₁.heap H).Ns b m := fun {b m} h => by
      obtain ⟨o, es, ep, e, d, r⟩ := h
      exact ⟨o, es, ep, only e (notD e d), d, r⟩
    have hKb : K.In (hidT s₁.heap H) := fun b o e => only (KX b o e) (Classical.byContradiction fun q => by
      have e' := hA b q
      rw [e'] at q e
      rw [hK q] at e
      cases e)
    have hM : Mod K mg (hidT s₁.heap H) := by
      obtain ⟨mc, h1, h2⟩ := hlim
      exact ⟨hKb, toB hns, ⟨mb, toB hb, hbb⟩, ⟨mc, toB h1, h2⟩⟩
    have e0 : Env0 P w K mg (hidT s₁.heap H) callerA [] s₁ H := ⟨rfl, hM, fun b o e => of_hidT e, Nat.le_of_eq (hidT_size _ _), trivial, (fun b hb => nomatch hb), hok, .of_eq hg⟩
    have sp : spD K cl [false] m w [.ref a] H (fun v _ => v = .bl true) fun _ _ _ => False := by
      refine ⟨some (a, ns), fun _ => none, [], [.scr ns], [], ⟨fun _ _ z => (nomatch z), fun b ms e => ?_⟩, ⟨.scr ns, [], .ref a, [], [], [], rfl, rfl, rfl, ⟨rfl, a, rfl, .inr ⟨ns, rfl, rfl⟩⟩, fun _ => rfl, rfl, rfl, rfl⟩, List.nodup_nil, (fun _ z => nomatch z), (fun _ z => nomatch z), ?_⟩
      · cases e
        exact hS
      · rw [hm]
        exact fun v H' S' A B _ _ q _ _ _ _ => q.2
    refine codeAny_mono ((F _ hKb (toB hns)).go callerA [] s₁ H ⟨[.ref a], []⟩ [.ref a] [.ref a] _ _ hr rfl e0 (hbind s₁ (.ref a)) (.cons rfl .nil) sp) fun r s' h => ?_
    match r, h with
    | .error e, h => exact (hCX H e s' h).elim
    | .ok .next, h => exact h.elim
    | .ok .brk, h => exact h.elim
    | .ok .cont, h => exact h.elim
    | .ok (.ret u), ⟨v, H', os, bare, un, hok', r', q⟩ =>
      cases (show v = .bl true from q)
      cases (show u = Value.bool true from r')
      refine ⟨rfl, OldK.of_keep fun b o e => ?_, os, bare⟩
      rcases hO b with z | ⟨ob, xs, z⟩
      · exact un.keep b o e z (fun z => nomatch z) fun z => nomatch z
      · have e1 := (hok b _ z).1
        have e2 := (hok' b _ (un.frzs b ob _ z)).1
        rw [e] at e1
        cases e1
        exact e2
  cases hk : K.lookup a with
  | some o =>
    have e := KX a o hk
    rw [ha] at e
    cases e
    exact main (fun _ => none) (fun _ => .inl rfl) (.inr fun H2 => .inr ⟨_, vs.toArray, _, hk, rfl, rfl, rfl, by rw [List.size_toArray, lenV]; exact hl, by simpa using rv⟩) (fun b u z => nomatch z) (fun b z => absurd rfl z) fun z => absurd rfl z
  | none =>
    let o0 : Obj := { cls := .type "list", data := .seq vs.toArray }
    let H0 : Hp := fun b => if b = a then some (.frz o0 (.lst (ns.map V.int))) else none
    have at0 : H0 a = some (.frz o0 (.lst (ns.map V.int))) := if_pos rfl
    have off : ∀ b, b ≠ a → H0 b = none := fun b hb => if_neg hb
    refine main H0 (fun b => ?_) (.inl ⟨o0, at0⟩) (fun b u z => ?_) (fun b z => Classical.byContradiction fun q => z (off b q)) fun _ => hk
    · by_cases q : b = a
      · exact .inr ⟨_, _, q ▸ at0⟩
      · exact .inl (off b q)
    · by_cases q : b = a
      · subst q
        rw [at0] at z
        cases z
        exact ⟨ha, by rw [List.length_map]; exact hl, vs, _, rv, ha⟩
      · rw [off b q] at z
        cases z
end Dv
namespace Dv
open PySem L2 PySem.Spec PyProof.Rows
@[irreducible] def big : Nat := 2 ^ 9000
theorem aw8 {n k : Nat} (h : n < 2 ^ k) (hk : k ≤ 9000) : n < big := by
  unfold big
  exact Nat.lt_of_lt_of_le h (Nat.pow_le_pow_right (by decide) hk)
theorem big_lt {n : Nat} (h : n < big) : n < 2 ^ 9000 := by unfold big at h; exact h
def a5s : D → D → Option D
  | .int a, .int b => some (.int (a + b))
  | .str a, .str b => if a.length + b.length ≤ 1000000 then some (.str (a ++ b)) else none
  | .tup a, .tup b => if a.length + b.length ≤ 1000000 then some (.tup (a ++ b)) else none
  | .lst _ a, .lst _ b => if a.length + b.length ≤ 1000000 ∧ a0d a = true ∧ a0d b = true then some (.lst true (a ++ b)) else none
  | .bl a, .int b => some (.int ((if a = true then 1 else 0) + b))
  | _, _ => none
def b1o : D → D → Option D
  | .int a, .int b => some (.int (a - b))
  | .bl a, .int b => some (.int ((if a = true then 1 else 0) - b))
  | _, _ => none
def al8 : D → D → Option D
  | .int a, .int b => if a.natAbs < big ∧ b.natAbs < big then some (.int (a * b)) else none
  | _, _ => none
def a8u : D → D → Option D
  | .int a, .int b => if b ≠ 0 ∧ b.natAbs < big then some (.int (a.fdiv b)) else none
  | _, _ => none
def ae3 : D → D → Option D
  | .int a, .int b => if 0 < b then some (.int (a % b)) else none
  | _, _ => none
def b41 : D → D → Option D
  | .int a, .int b => if 0 ≤ b ∧ b ≤ 1000000 ∧ a.natAbs < 2 ^ 64 then some (.int (a ^ b.toNat)) else none
  | _, _ => none
def ltD : D → D → Option D
  | .int a, .int b => some (.bl (decide (a < b)))
  | _, _ => none
def leD : D → D → Option D
  | .int a, .int b => some (.bl (decide (a ≤ b)))
  | _, _ => none
def gtD : D → D → Option D
  | .int a, .int b => some (.bl (decide (b < a)))
  | _, _ => none
def geD : D → D → Option D
  | .int a, .int b => some (.bl (decide (b ≤ a)))
  | _, _ => none
theorem a0r {n : Nat} (h : n ≤ 1000000) : n ≤ sizeLine := by rw [sizeLine_eq]; omega
section
variable {K : PySem.W.Frag} {Z : Zt} {H : Hp} {S : Reg}
theorem Gives.flat {d : D} {v : V} {Q : VK} (g : Gives K Z H S d Q) (I : InvS K Z H S) (e : Dv.flat d = some v) : Q v H := by
  refine a2c g I ?_ ?_
  · unfold Sh; rw [e]
  · cases d <;> first | rfl | cases e
theorem i2 {C : Int → Int → Prop} {g : Int → Int → V} {F : D → D → Option D} (hF : ∀ a b d, F (.int a) (.int b) = some d → C a b ∧ flat d = some (g a b)) (hn : ∀ x y d, F x y = some d → ∃ a b, x = .int a ∧ y = .int b) : a8n K Z (rI C g) F := by
  intro H S x y dx dy d Q I vx vy e gv
  obtain ⟨a, b, rfl, rfl⟩ := hn _ _ _ e
  obtain ⟨c, fl⟩ := hF _ _ _ e
  obtain rfl := vx.int
  obtain rfl := vy.int
  exact ⟨a, b, rfl, rfl, c, gv.flat I fl⟩
theorem i20 {g : Int → Int → V} {F : D → D → Option D} (hF : ∀ a b d, F (.int a) (.int b) = some d → flat d = some (g a b)) (hn : ∀ x y d, F x y = some d → ∃ a b, x = .int a ∧ y = .int b) : a8n K Z (rI0 g) F := by
  intro H S x y dx dy d Q I vx vy e gv
  obtain ⟨a, b, rfl, rfl⟩ := hn _ _ _ e
  obtain rfl := vx.int
  obtain rfl := vy.int
  exact ⟨a, b, rfl, rfl, gv.flat I (hF _ _ _ e)⟩
def rBI (g : Int → Int → V) : R2 := fun x y H Q => ∃ a b, x = .bl a ∧ y = .int b ∧ Q (g (if a = true then 1 else 0) b) H
theorem au7 {X : Cx} : OpR X (binaryOp .Add) (rBI fun i j => .int (i + j)) := by
  intro pins s σ H x y v u Q I rx ry h
  obtain ⟨a, b, rfl, rfl, q⟩ := h
  cases rx
  obtain ⟨t, rfl⟩ := ry
  exact PySem.IntBool.add_bool_int ⟨.int _, H, I.tok _, ⟨_, rfl⟩, q⟩
theorem az2 {X : Cx} : OpR X (binaryOp .Sub) (rBI fun i j => .int (i - j)) := by
  intro pins s σ H x y v u Q I rx ry h
  obtain ⟨a, b, rfl, rfl, q⟩ := h
  cases rx
  obtain ⟨t, rfl⟩ := ry
  exact PySem.IntBool.sub_bool_int ⟨.int _, H, I.tok _, ⟨_, rfl⟩, q⟩
def rSub : R2 := fun x y H Q => rI0 (fun i j => .int (i - j)) x y H Q ∨ rBI (fun i j => .int (i - j)) x y H Q
theorem b4f {X : Cx} : OpR X (binaryOp .Sub) rSub := op_sub.or az2
theorem b6g : a8n K Z rSub b1o := by
  intro H S x y dx dy d Q I vx vy e g
  unfold b1o at e
  split at e
  · cases e
    obtain rfl := vx.int
    obtain rfl := vy.int
    exact .inl ⟨_, _, rfl, rfl, g.flat I rfl⟩
  · cases e
    obtain rfl := vx.bl
    obtain rfl := vy.int
    exact .inr ⟨_, _, rfl, rfl, g.flat I rfl⟩
  · cases e
theorem b7a : a8n K Z (rI0 fun i j => .bl (decide (i < j))) ltD := i20 (fun a b d e => by cases e; rfl) fun x y d e => by unfold ltD at e; split at e <;> first | exact ⟨_, _, rfl, rfl⟩ | cases e
theorem b9s : a8n K Z (rI0 fun i j => .bl (decide (j < i))) gtD := i20 (fun a b d e => by cases e; rfl) fun x y d e => by unfold gtD at e; split at e <;> first | exact ⟨_, _, rfl, rfl⟩ | cases e
theorem bc1 : a8n K Z (rI0 fun i j => .bl (decide (j ≤ i))) geD := i20 (fun a b d e => by cases e; rfl) fun x y d e => by unfold geD at e; split at e <;> first | exact ⟨_, _, rfl, rfl⟩ | cases e
theorem b6h : a8n K Z (rI CMulW fun i j => .int (i * j)) al8 := i2 (fun a b d e => by
    unfold al8 at e
    simp only at e
    split at e
    · rename_i h
      cases e
      exact ⟨wide_mul (a := 9000) (b := 9000) (big_lt h.1) (big_lt h.2) (by decide) (by decide) (by decide), rfl⟩
    · cases e) fun x y d e => by unfold al8 at e; split at e <;> first | exact ⟨_, _, rfl, rfl⟩ | cases e
def b5t (_ j : Int) : Prop := j ≠ 0 ∧ j.natAbs.log2 < 9000
theorem b0c {X : Cx} : OpR X (binaryOp .FloorDiv) (rI b5t fun i j => .int (i.fdiv j)) := opI fun i j _ _ _ _ _ hc q => floordiv_int hc.1 q (.inl (PyProof.noPylong_of_log2 hc.2))
theorem b3j : a8n K Z (rI b5t fun i j => .int (i.fdiv j)) a8u := i2 (fun a b d e => by
    unfold a8u at e
    simp only at e
    split at e
    · rename_i h
      cases e
      exact ⟨⟨h.1, Nat.lt_of_lt_of_le (PySem.Flt.log2_lt_of (k := 9000) (by decide) (big_lt h.2)) (Nat.le_refl _)⟩, rfl⟩
    · cases e) fun x y d e => by unfold a8u at e; split at e <;> first | exact ⟨_, _, rfl, rfl⟩ | cases e
theorem b7i : a8n K Z (rI (fun _ j => 0 < j) fun i j => .int (i % j)) ae3 := i2 (fun a b d e => by
    unfold ae3 at e
    simp only at e
    split at e
    · rename_i h
      cases e
      exact ⟨h, rfl⟩
    · cases e) fun x y d e => by unfold ae3 at e; split at e <;> first | exact ⟨_, _, rfl, rfl⟩ | cases e
theorem b6d : a8n K Z (rI CPow fun i j => .int (i ^ j.toNat)) b41 := i2 (fun a b d e => by
    unfold b41 at e
    simp only at e
    split at e
    · rename_i h
      cases e
      exact ⟨h, rfl⟩
    · cases e) fun x y d e => by unfold b41 at e; split at e <;> first | exact ⟨_, _, rfl, rfl⟩ | cases e
def rAdd (K : PySem.W.Frag) : R2 := fun x y H Q => rI0 (fun i j => .int (i + j)) x y H Q ∨ (∃ i j, x = .str i ∧ y = .str j ∧ i.length + j.length ≤ sizeLine ∧ Q (.str (i ++ j)) H) ∨ b8m K x y H Q ∨ rCat x y H Q ∨ rBI (fun i j => .int (i + j)) x y H Q
theorem b4n {X : Cx} : OpR X (binaryOp .Add) (rAdd X.K) := op_add.or (op_add_str.or (op_catP.or (op_cat.or au7)))
theorem add_ok : a8n K Z (rAdd K) a5s := by
  intro H S x y dx dy d Q I vx vy e g
  unfold a5s at e
  split at e
  · rename_i a b
    cases e
    obtain rfl := vx.int
    obtain rfl := vy.int
    exact .inl ⟨a, b, rfl, rfl, g.flat I rfl⟩
  · rename_i a b
    split at e
    · rename_i hl
      cases e
      obtain rfl := vx.str
      obtain rfl := vy.str
      exact .inr (.inl ⟨a, b, rfl, rfl, a0r hl, g.flat I rfl⟩)
    · cases e
  · rename_i a b
    split at e
    · rename_i hl
      cases e
      have sx := vx.sh rfl
      have sy := vy.sh rfl
      obtain ⟨p, vs, rfl, hp, ha⟩ := I.tup sx
      obtain ⟨q, ws, rfl, hq, hb⟩ := I.tup sy
      refine .inr (.inr (.inl ⟨p, q, vs, ws, rfl, rfl, hp.sq, hq.sq, ?_, fun z => ?_, fun _ z => ?_, fun _ _ => ?_⟩))
      · rw [u5 ha, u5 hb]; exact a0r hl
      · subst z
        cases ha
        exact a2c g I sy rfl
      · subst z
        cases hb
        rw [List.append_nil] at g
        exact a2c g I sx rfl
      · exact a4u g I (a4k ha hb)
    · cases e
  · rename_i a b
    split at e
    · rename_i hl
      cases e
      obtain ⟨p, vs, rfl, hp, ha⟩ := vx.lst I
      obtain ⟨q, ws, rfl, hq, hb⟩ := vy.lst I
      have ha' := ha.sh (z9 hl.2.1)
      have hb' := hb.sh (z9 hl.2.2)
      refine .inr (.inr (.inr (.inl ⟨p, q, vs, ws, rfl, rfl, hp, hq, ?_, fun t ht => ?_⟩)))
      · rw [u5 ha, u5 hb]; exact a0r hl.1
      · exact a1d g I (a4k ha' hb') (fun d hd => (List.mem_append.mp hd).elim (z9 hl.2.1 d) (z9 hl.2.2 d)) ht
    · cases e
  · cases e
    obtain rfl := vx.bl
    obtain rfl := vy.int
    exact .inr (.inr (.inr (.inr ⟨_, _, rfl, rfl, g.flat I rfl⟩)))
  · cases e
end
section
variable {X : Cx} {Z : Zt} {W : WX} {a b : Expr} {f g : M Opd} {pos : Pos}
theorem a0z (ha : SO X Z W a f) (hb : SO X Z W b g) : SE X Z W (.BinOp a .Add b pos) (op2 a5s f g) := a92 b4n add_ok ha hb
theorem ak0 (ha : SO X Z W a f) (hb : SO X Z W b g) : SE X Z W (.BinOp a .Sub b pos) (op2 b1o f g) := a92 b4f b6g ha hb
theorem a8z (ha : SO X Z W a f) (hb : SO X Z W b g) : SE X Z W (.BinOp a .Mult b pos) (op2 al8 f g) := a92 op_mulW b6h ha hb
theorem a9n (ha : SO X Z W a f) (hb : SO X Z W b g) : SE X Z W (.BinOp a .FloorDiv b pos) (op2 a8u f g) := a92 b0c b3j ha hb
theorem a74 (ha : SO X Z W a f) (hb : SO X Z W b g) : SE X Z W (.BinOp a .Mod b pos) (op2 ae3 f g) := a92 op_mod b7i ha hb
theorem b65 (ha : SO X Z W a f) (hb : SO X Z W b g) : SE X Z W (.BinOp a .Pow b pos) (op2 b41 f g) := a92 op_pow b6d ha hb
theorem bd1 (ha : SO X Z W a f) (hb : SO X Z W b g) : SE X Z W (.Compare a [.Lt] [b] pos) (op2 ltD f g) := b2h op_lt b7a ha hb (nomark _)
theorem b48 (ha : SO X Z W a f) (hb : SO X Z W b g) : ST X Z W (.Compare a [.Lt] [b] pos) (tst (op2 ltD f g)) := a76 op_lt b7a ha hb (nomark _)
theorem b0u (ha : SO X Z W a f) (hb : SO X Z W b g) : ST X Z W (.Compare a [.Gt] [b] pos) (tst (op2 gtD f g)) := a76 op_gt b9s ha hb (nomark _)
theorem b9l (ha : SO X Z W a f) (hb : SO X Z W b g) : ST X Z W (.Compare a [.GtE] [b] pos) (tst (op2 geD f g)) := a76 op_ge bc1 ha hb (nomark _)
def bf6 (f : M D) : M D := M.bind f fun d ρ => match d with | .int i => .ok (.int (-i)) ρ | _ => .bad
end
mutual
def toPy : D → Option PyData
  | .non => some .none | .bl b => some (.bool b) | .int i => some (.int i) | .str x => some (.str x)
  | .tup xs => match a0l xs with | some ps => some (.tuple ps) | none => none
  | .lst _ xs => match a0l xs with | some ps => some (.list ps) | none => none
  | .dic _ _ _ _ => none
  | .scr _ => none
  | .ty _ => none
  | .raw _ => none
  | .pr xs => match a0l xs with | some ps => some (.tuple ps) | none => none
  | .exc _ _ _ => none
  | .xds _ _ => none
  | .obj _ _ _ _ => none
  | .pgs _ _ => none
  | .dicL _ _ => none
  | .otp _ => none
def a0l : List D → Option (List PyData)
  | [] => some []
  | d :: ds => match toPy d, a0l ds with | some p, some ps => some (p :: ps) | _, _ => none
end
mutual
theorem a2h {K : PySem.W.Frag} {Z : Zt} {H : Hp} {S : Reg} (I : InvS K Z H S) : ∀ (d : D) {v : V} {p : PyData}, View Z H S v d → toPy d = some p → Dp K H v p
  | .non, v, p, h, e => by cases e; rw [h.non]; exact .non
  | .bl b, v, p, h, e => by cases e; rw [h.bl]; exact .bl b
  | .int i, v, p, h, e => by cases e; rw [h.int]; exact .int i
  | .str x, v, p, h, e => by cases e; rw [h.str]; exact .str x
  | .tup xs, v, p, h, e => by
    unfold toPy at e
    obtain ⟨a, vs, rfl, ha, q⟩ := h.tup I
    cases e2 : a0l xs with
    | none => rw [e2] at e; cases e
    | some ps => rw [e2] at e; cases e; exact .tup ha.sq (a7q I xs (q.views I) e2)
  | .pr xs, v, p, h, e => by
    unfold toPy at e
    obtain ⟨a, vs, rfl, ha, q⟩ := h.pr I
    cases e2 : a0l xs with
    | none => rw [e2] at e; cases e
    | some ps => rw [e2] at e; cases e; exact .tup (SqT.of ha) (a7q I xs (q.views I) e2)
  | .lst o xs, v, p, h, e => by
    unfold toPy at e
    obtain ⟨a, vs, rfl, ha, q⟩ := h.lst I
    cases e2 : a0l xs with
    | none => rw [e2] at e; cases e
    | some ps => rw [e2] at e; cases e; exact .lst (SqL.of ha) (a7q I xs q e2)
  | .dic _ _ _ _, v, p, h, e => by cases e
  | .scr _, v, p, h, e => by cases e
  | .ty _, v, p, h, e => by cases e
  | .raw _, v, p, h, e => by cases e
  | .exc _ _ _, v, p, h, e => by cases e
  | .xds _ _, v, p, h, e => by cases e
  | .obj _ _ _ _, v, p, h, e => by cases e
  | .pgs _ _, v, p, h, e => by cases e
  | .dicL _ _, v, p, h, e => by cases e
  | .otp _, v, p, h, e => by cases e
theorem a7q {K : PySem.W.Frag} {Z : Zt} {H : Hp} {S : Reg} (I : InvS K Z H S) : ∀ (ds : List D) {vs : List V} {ps : List PyData}, ViewL Z H S vs ds → a0l ds = some ps → DpAll K H vs ps
  | [], _, _, h, e => by cases h; cases e; exact .nil
  | d :: ds, _, ps, h, e => by
    cases h with
    | cons h1 h2 =>
      unfold a0l at e
      cases e1 : toPy d with
      | none => rw [e1] at e; cases e
      | some p =>
        cases e2 : a0l ds with
        | none => rw [e1, e2] at e; cases e
        | some qs => rw [e1, e2] at e; cases e; exact .cons (a2h I d h1 e1) (a7q I ds h2 e2)
end
def eqB (x y : D) : Option Bool := match flat x, flat y with
  | some v, some w => if scal v w = true then some (decide (v = w)) else (match toPy x, toPy y with
    | some p, some q => if SeqAt.shaped p = true ∧ SeqAt.shaped q = true then some (PyData.eqv p q) else none
    | _, _ => none)
  | _, _ => match toPy x, toPy y with
    | some p, some q => if SeqAt.shaped p = true ∧ SeqAt.shaped q = true then some (PyData.eqv p q) else none
    | _, _ => none
def eqD (x y : D) : Option D := match eqB x y with | some b => some (.bl b) | none => none
def neD (x y : D) : Option D := match eqB x y with | some b => some (.bl (!b)) | none => none
section
variable {K : PySem.W.Frag} {Z : Zt}
theorem ab4 {x y : D} {b : Bool} (e : eqB x y = some b) : (∃ v w, flat x = some v ∧ flat y = some w ∧ scal v w = true ∧ b = decide (v = w)) ∨ ∃ p q, toPy x = some p ∧ toPy y = some q ∧ SeqAt.shaped p = true ∧ SeqAt.shaped q = true ∧ b = PyData.eqv p q := by
  have deep : (match toPy x, toPy y with
      | some p, some q => if SeqAt.shaped p = true ∧ SeqAt.shaped q = true then some (PyData.eqv p q) else none
      | _, _ => none) = some b → ∃ p q, toPy x = some p ∧ toPy y = some q ∧ SeqAt.shaped p = true ∧ SeqAt.shaped q = true ∧ b = PyData.eqv p q := by
    intro e
    split at e
    · rename_i p q e1 e2
      split at e
      · rename_i hs; cases e; exact ⟨p, q, e1, e2, hs.1, hs.2, rfl⟩
      · cases e
    · cases e
  unfold eqB at e
  split at e
  · rename_i v w e1 e2
    split at e
    · rename_i hs; cases e; exact .inl ⟨v, w, e1, e2, hs, rfl⟩
    · exact .inr (deep e)
  · exact .inr (deep e)
theorem b72 : a8n K Z (fun x y H Q => rEq x y H Q ∨ rEqD K x y H Q) eqD := by
  intro H S x y dx dy d Q I vx vy e g
  unfold eqD at e
  cases e1 : eqB dx dy with
  | none => rw [e1] at e; cases e
  | some b =>
    rw [e1] at e
    cases e
    rcases ab4 e1 with ⟨v, w, f1, f2, hs, rfl⟩ | ⟨p, q, f1, f2, s1, s2, rfl⟩
    · obtain rfl := vx.flat f1
      obtain rfl := vy.flat f2
      exact .inl ⟨hs, g.flat I rfl⟩
    · exact .inr ⟨p, q, a2h I dx vx f1, a2h I dy vy f2, s1, s2, g.flat I rfl⟩
theorem ba1 : a8n K Z (fun x y H Q => rNe x y H Q ∨ rNeD K x y H Q) neD := by
  intro H S x y dx dy d Q I vx vy e g
  unfold neD at e
  cases e1 : eqB dx dy with
  | none => rw [e1] at e; cases e
  | some b =>
    rw [e1] at e
    cases e
    rcases ab4 e1 with ⟨v, w, f1, f2, hs, rfl⟩ | ⟨p, q, f1, f2, s1, s2, rfl⟩
    · obtain rfl := vx.flat f1
      obtain rfl := vy.flat f2
      exact .inl ⟨hs, g.flat I rfl⟩
    · exact .inr ⟨p, q, a2h I dx vx f1, a2h I dy vy f2, s1, s2, g.flat I rfl⟩
variable {X : Cx} {W : WX} {a b : Expr} {f g : M Opd} {pos : Pos}
theorem b88 (hu : X.A.units + 64 < cLine) (ha : SO X Z W a f) (hb : SO X Z W b g) : SE X Z W (.Compare a [.Eq] [b] pos) (op2 eqD f g) := b2h (op_eq.or (op_eqD hu)) b72 ha hb (nomark _)
theorem a9r (hu : X.A.units + 64 < cLine) (ha : SO X Z W a f) (hb : SO X Z W b g) : ST X Z W (.Compare a [.Eq] [b] pos) (tst (op2 eqD f g)) := a76 (op_eq.or (op_eqD hu)) b72 ha hb (nomark _)
theorem ae0 (hu : X.A.units + 64 < cLine) (ha : SO X Z W a f) (hb : SO X Z W b g) : ST X Z W (.Compare a [.NotEq] [b] pos) (tst (op2 neD f g)) := a76 (op_ne.or (op_neD hu)) ba1 ha hb (nomark _)
end
def keyD : D → Option DK
  | .int i => some (.k (.inl i))
  | .str x => some (.k (.inr x))
  | _ => none
where keysD : List D → Option (List Key)
  | [] => some []
  | .int i :: ds => match keysD ds with | some ks => some (.inl i :: ks) | none => none
  | .str x :: ds => match keysD ds with | some ks => some (.inr x :: ks) | none => none
  | _ => none
def a0y : List DK → List D → DK → Option D
  | k :: ks, d :: ds, q => if k = q then some d else a0y ks ds q
  | _, _, _ => none
def unO : Option D → Option D
  | some d => if owned d = true then none else some d
  | none => none
def ixD : D → D → Option D
  | .lst _ ds, .int i => unO (atI ds i)
  | .tup ds, .int i => atI ds i
  | .pr ds, .int i => atI ds i
  | .str x, .int i => if x.length ≤ 1000000 then (match atI x.cps.toList i with | some c => some (sign c) | none => none) else none
  | .dic _ _ ks vs, k => (match keyD k with | some q => unO (a0y ks vs q) | none => none)
  | .dicL ks vs, k => (match keyD k with | some q => unO (a0y ks vs q) | none => none)
  | _, _ => none
section
variable {K : PySem.W.Frag} {Z : Zt} {H : Hp} {S : Reg}
theorem a9u {o : Option D} {d : D} (h : unO o = some d) : o = some d ∧ owned d = false := by
  unfold unO at h
  cases o with
  | none => cases h
  | some x =>
    simp only at h
    split at h
    · cases h
    · rename_i hx; cases h; exact ⟨rfl, by simpa using hx⟩
theorem a9b {α β : Type} {F : α → β → Prop} {xs : List α} {ys : List β} (h : Paired F xs ys) {i : Int} {y : β} (e : atI ys i = some y) : ∃ x, atI xs i = some x ∧ F x y := by
  unfold atI at e ⊢
  rw [u5 h]
  cases e1 : ixN ys.length i with
  | none => rw [e1] at e; cases e
  | some j => rw [e1] at e; exact a1q h e
theorem aj1 {κ : Type} [DecidableEq κ] (c : κ → DK) (hc : ∀ a b, c a = c b → a = b) : ∀ {kk : List κ} {vs : List V} {ds : List D} {q : κ} {d : D}, ViewL Z H S vs ds → a0y (kk.map c) ds (c q) = some d → ∃ v, valV (kk.zip vs) q = some v ∧ View Z H S v d
  | [], _, _, _, _, _, e => by cases e
  | k :: kk, _, [], _, _, _, e => by cases e
  | k :: kk, _, d :: ds, q, d', h, e => by
    cases h with
    | cons h1 h2 =>
      rw [List.map_cons] at e
      unfold a0y at e
      rw [List.zip_cons_cons]
      by_cases hk : k = q
      · subst hk
        rw [if_pos rfl] at e
        cases e
        exact ⟨_, valV_pos rfl, h1⟩
      · rw [if_neg fun z => hk (hc _ _ z)] at e
        rw [valV_neg (p := (k, _)) hk]
        exact aj1 c hc h2 e
theorem ak8 : ∀ {ks : List DK} {ds : List D} {q : DK} {d : D}, a0y ks ds q = some d → q ∈ ks
  | [], _, _, _, e => by cases e
  | k :: ks, [], _, _, e => by cases e
  | k :: ks, d :: ds, q, d', e => by
    unfold a0y at e
    by_cases hk : k = q
    · exact hk ▸ List.mem_cons_self
    · rw [if_neg hk] at e
      exact List.mem_cons_of_mem _ (ak8 e)
theorem ag3 (I : InvS K Z H S) {a : Addr} {tk : Bool} {ks : List DK} {vs : List V} {ds : List D} {k : D} {y : V} {q : DK} {d : D} (h : DicRd H a tk ks vs) (hv : ViewL Z H S vs ds) (hy : View Z H S y k) (hq : keyD k = some q) (e : a0y ks ds q = some d) :
    ∃ v, DGet H a y (some v) ∧ View Z H S v d := by
  have mem := ak8 e
  rcases h with ⟨_, kk, rfl, hnd, hl, ha⟩ | ⟨_, xs, rfl, hl, ha⟩
  · obtain ⟨k0, _, rfl⟩ := List.mem_map.mp mem
    obtain ⟨v, h1, h2⟩ := aj1 .k (fun a b z => by cases z; rfl) hv e
    refine ⟨v, .inl ⟨kk.zip vs, k0, ha, ?_, h1.symm⟩, h2⟩
    cases k with
    | int i => cases hq; exact hy.int
    | str x => cases hq; exact hy.str
    | _ => cases hq
  · obtain ⟨k0, _, rfl⟩ := List.mem_map.mp mem
    cases k with
    | int i => cases hq
    | str x => cases hq
    | _ => cases hq
def rIxD (K : PySem.W.Frag) : R2 := fun x y H Q => rIx K x y H Q ∨ ∃ a v, x = .ref a ∧ DGet H a y (some v) ∧ Q v H
theorem b3o {X : Cx} (hu : X.A.units + 1 < cLine) : IxR X (fun x y H Q => ∃ a v, x = .ref a ∧ DGet H a y (some v) ∧ Q v H) := by
  intro value slice pins s σ H x y v u Q I rx ry h hs
  obtain ⟨a, z, rfl, g, q⟩ := h
  cases rx
  exact tail_any (dict_typeIs I g) PySem.F.slot_dict_getitem.lookup (d_getItem hu I g ry fun w' s3 I3 rw' => ⟨z, H, I3, rw', q⟩) hs
theorem b5i {X : Cx} (hu : X.A.units + 1 < cLine) : IxR X (rIxD X.K) := ix_seq.or (b3o hu)
theorem bc7 : a8n K Z (rIxD K) ixD := by
  intro H S x y dx dy d Q I vx vy e g
  unfold ixD at e
  split at e
  · rename_i o ds i
    obtain ⟨e, un⟩ := a9u e
    obtain ⟨p, vs, rfl, hp, hv⟩ := vx.lst I
    obtain rfl := vy.int
    obtain ⟨v, hat, q⟩ := a9b hv e
    exact .inl (.inl ⟨p, vs, i, v, rfl, rfl, SqL.of hp, hat, a2c g I (q.sh un) un⟩)
  · rename_i ds i
    obtain ⟨p, vs, rfl, hp, hv⟩ := vx.tup I
    obtain rfl := vy.int
    obtain ⟨v, hat, q⟩ := a9b hv e
    exact .inl (.inr (.inl ⟨p, vs, i, v, rfl, rfl, hp.sq, hat, a2c g I q (q.un I)⟩))
  · rename_i ds i
    obtain ⟨p, vs, rfl, hp, hv⟩ := vx.pr I
    obtain rfl := vy.int
    obtain ⟨v, hat, q⟩ := a9b hv e
    exact .inl (.inr (.inl ⟨p, vs, i, v, rfl, rfl, SqT.of hp, hat, a2c g I q (q.un I)⟩))
  · rename_i z i
    split at e
    · rename_i hl
      split at e
      · rename_i c hc
        cases e
        obtain rfl := vx.str
        obtain rfl := vy.int
        exact .inl (.inr (.inr ⟨z, i, c, rfl, rfl, a0r hl, hc, g.flat I rfl⟩))
      · cases e
    · cases e
  · rename_i o tk ks vs k
    split at e
    · rename_i q hq
      obtain ⟨e, un⟩ := a9u e
      obtain ⟨a, ws, rfl, ha, hw⟩ := vx.dic I
      obtain ⟨v, hg, hv⟩ := ag3 I ha hw vy hq e
      exact .inr ⟨a, v, rfl, hg, a2c g I (hv.sh un) un⟩
    · cases e
  · rename_i ks vs k
    split at e
    · rename_i q hq
      obtain ⟨e, un⟩ := a9u e
      obtain ⟨a, ws, rfl, ha, hw⟩ := vx.dicL I
      obtain ⟨v, hg, hv⟩ := ag3 I ha hw vy hq e
      exact .inr ⟨a, v, rfl, hg, a2c g I (hv.sh un) un⟩
    · cases e
  · cases e
theorem o7 {X : Cx} {W : WX} {a b : Expr} {f g : M Opd} {pos : Pos} (hu : X.A.units + 1 < cLine) (ha : SO X Z W a f) (hb : SO X Z W b g) (hs : PlainIx b := by exact fun _ _ => rfl) : SE X Z W (.Subscript a b pos) (op2 ixD f g) := be4 (b5i hu) bc7 ha hb hs
end
end Dv
namespace Dv
open PySem L2 PySem.Spec PyProof.Rows
section
variable {K : PySem.W.Frag} {Z : Zt} {O : Hold} {W : WX} {H H1 : Hp} {S S1 : Reg} {R : List Addr} {σ : L2.St} {Q : VK}
theorem EPost.weak {r : Res D} (h : EPost K Z O W H S R σ Q r) (l : Le S S1) (f : Fr O R H H1) : EPost K Z O W H1 S1 R σ Q r := by
  cases r with
  | ok d ρ => exact fun v H' S' A l' q n dj r f' => h v H' S' A (l.trans l') q n dj r (f.trans f')
  | ex x ρ => exact XP.weak0 h l f
  | bad => exact h
end
def a8b {α : Type} (xs : List α) (lo hi : Option Int) : List α := (xs.drop (HT.sIx xs.length 0 lo)).take (HT.sIx xs.length xs.length hi - HT.sIx xs.length 0 lo)
def slD : D → Option Int → Option Int → Option D
  | .lst _ ds, lo, hi => if a0d ds = true then some (.lst true (a8b ds lo hi)) else none
  | .tup ds, lo, hi => some (.tup (a8b ds lo hi))
  | .str x, lo, hi => if x.length ≤ 1000000 then some (.str (cutS x lo hi)) else none
  | .scr ns, lo, hi => some (.lst true ((a8b ns lo hi).map .int))
  | _, _, _ => none
def SPo (X : Cx) (Z : Zt) (W : WX) (e : Option Expr) (g : M (Option Int)) : Prop :=
  ∃ t, PO X e t ∧ ∀ O H S R ρ σ Q, Rel X.K Z O H S R ρ σ → (match g ρ with
    | .ok o ρ' => ∀ H' S', Le S S' → Rel X.K Z O H' S' R ρ' σ → Fr O R H H' → Q o H'
    | .ex x ρ' => XP X.K Z O W H S R σ x ρ'
    | .bad => False) → t σ H Q
def a85 (f : M D) : M (Option Int) := M.bind f fun d ρ => match d with | .int i => .ok (some i) ρ | _ => .bad
def a6k : M (Option Int) := fun ρ => .ok none ρ
def slM (f : M Opd) (lo hi : M (Option Int)) : M D := M.bind f fun o => M.bind lo fun l => M.bind hi fun u => fun ρ => match look ρ o with
  | some d => a6f (slD d l u) ρ
  | none => .bad
def rSl (K : PySem.W.Frag) : V → Option Int → Option Int → Hp → VK → Prop := fun x lo hi H Q => rSlL K x lo hi H Q ∨ bh7 K x lo hi H Q ∨ rSlS x lo hi H Q
theorem aj0 {α β : Type} {F : α → β → Prop} {xs : List α} {ys : List β} (h : Paired F xs ys) (lo hi : Option Int) : Paired F (a8b xs lo hi) (a8b ys lo hi) := by
  unfold a8b
  rw [u5 h]
  exact a8g _ (a8e _ h)
theorem b0s {α : Type} {xs : List α} {lo hi : Option Int} {x : α} (h : x ∈ a8b xs lo hi) : x ∈ xs := List.mem_of_mem_drop (List.mem_of_mem_take h)
section
variable {X : Cx} {Z : Zt} {W : WX} {e : Expr}
theorem a5q : SPo X Z W none a6k := ⟨_, po_none, fun O H S R ρ σ Q r h => h H S (Le.refl S) r (Fr.refl _ _ _)⟩
theorem a5n {f : M D} (he : SE X Z W e f) : SPo X Z W (some e) (a85 f) := by
  obtain ⟨t, h1, h2⟩ := he
  refine ⟨_, po_some h1, fun O H S R ρ σ Q r h => h2 O H S R ρ σ _ r ?_⟩
  unfold a85 M.bind at h
  cases e : f ρ with
  | bad => rw [e] at h; exact h.elim
  | ex x ρ1 => rw [e] at h; exact h
  | ok d ρ1 =>
    rw [e] at h
    intro v H1 S1 A l q nd dj r1 f1
    cases d with
    | int i =>
      obtain ⟨rfl, rfl⟩ := q
      exact ⟨i, rfl, h H1 S1 l r1 f1⟩
    | _ => exact h.elim
theorem be9 {K : PySem.W.Frag} {H : Hp} {S : Reg} {x : V} {dx d : D} {lo hi : Option Int} {Q : VK} (I : InvS K Z H S) (vx : View Z H S x dx) (e : slD dx lo hi = some d) (g : Gives K Z H S d Q) : rSl K x lo hi H Q := by
  unfold slD at e
  split at e
  · rename_i o ds
    split at e
    · rename_i hp
      cases e
      obtain ⟨a, vs, rfl, ha, hv⟩ := vx.lst I
      exact .inl ⟨a, vs, rfl, SqL.of ha, fun p hp' => a1d g I (aj0 (hv.sh (z9 hp)) lo hi) (fun d hd => z9 hp d (b0s hd)) hp'⟩
    · cases e
  · rename_i ds
    cases e
    have sx := vx.sh rfl
    obtain ⟨a, vs, rfl, ha, hv⟩ := I.tup sx
    refine .inr (.inl ⟨a, vs, rfl, ha.sq, fun hw => ?_, fun hw => a4u g I (aj0 hv lo hi)⟩)
    have el : a8b ds lo hi = ds := by
      unfold a8b
      rw [← u5 hv, hw.1, hw.2]
      simp [u5 hv]
    rw [el] at g
    exact a2c g I sx rfl
  · rename_i z
    split at e
    · rename_i hl
      cases e
      obtain rfl := vx.str
      exact .inr (.inr ⟨z, rfl, a0r hl, g.flat I rfl⟩)
    · cases e
  · rename_i ns
    cases e
    obtain ⟨a, rfl, ha⟩ := I.scr (vx.sh rfl)
    refine .inl ⟨a, ns.map V.int, rfl, ha, fun p hp => a1d g I ?_ (fun d hd => ?_) hp⟩
    · have : cutV (ns.map V.int) lo hi = (a8b ns lo hi).map V.int := by
        unfold cutV a8b
        rw [List.length_map, ← List.map_drop, ← List.map_take]
      rw [this]
      generalize a8b ns lo hi = ms
      induction ms with
      | nil => exact .nil
      | cons m ms ih => exact .cons rfl ih
    · obtain ⟨i, _, rfl⟩ := List.mem_map.mp hd
      rfl
  · cases e
theorem a5g {f : M Opd} {lo hi : Option Expr} {gl gh : M (Option Int)} {pos p2 : Pos} (he : SO X Z W e f) (hl : SPo X Z W lo gl) (hh : SPo X Z W hi gh) : SE X Z W (.Subscript e (.Slice lo hi none p2) pos) (slM f gl gh) := by
  obtain ⟨t, h1, h2⟩ := he
  obtain ⟨tl, l1, l2⟩ := hl
  obtain ⟨th, u1, u2⟩ := hh
  refine ⟨_, pe_slice (r := rSl X.K) (sl_list.or (sl_tupP.or sl_str)) h1 l1 u1, fun O H S R ρ σ Q r h => h2 O H S R ρ σ _ r ?_⟩
  unfold slM M.bind at h
  cases e1 : f ρ with
  | bad => rw [e1] at h; exact h.elim
  | ex x ρ1 => rw [e1] at h; exact h
  | ok o ρ1 =>
    rw [e1] at h
    simp only at h
    intro v H1 S1 A k1 q1 nd dj r1 f1
    refine l2 O H1 S1 (A ++ R) ρ1 σ _ r1 ?_
    cases e2 : gl ρ1 with
    | bad => rw [e2] at h; exact h.elim
    | ex x ρ2 => rw [e2] at h; exact XP.weak h k1 f1
    | ok l ρ2 =>
      rw [e2] at h
      simp only at h ⊢
      intro H2 S2 k2 r2 f2
      refine u2 O H2 S2 (A ++ R) ρ2 σ _ r2 ?_
      cases e3 : gh ρ2 with
      | bad => rw [e3] at h; exact h.elim
      | ex x ρ3 => rw [e3] at h; exact XP.weak h (k1.trans k2) (f1.trans f2.drop)
      | ok u ρ3 =>
        rw [e3] at h
        simp only at h ⊢
        intro H3 S3 k3 r3 f3
        cases e4 : look ρ3 o with
        | none => rw [e4] at h; exact h.elim
        | some d0 =>
          rw [e4] at h
          simp only [a6f] at h
          cases e5 : slD d0 l u with
          | none => rw [e5] at h; exact h.elim
          | some d =>
            rw [e5] at h
            have q3 : OpdOk Z O.L H3 S3 σ o v A := q1.keep (k2.trans k3) fun b hb => ⟨(f3 b (hb.imp (List.mem_append_left _) id)).trans (f2 b (hb.imp (List.mem_append_left _) id)), (r3.rest b (hb.imp (List.mem_append_left _) id)).1⟩
            exact be9 r3.inv (a4l (σ' := σ) (B := []) r3 q3 e4) e5 (a3d (W := W) r3.drop (EPost.weak h ((k1.trans k2).trans k3) ((f1.trans f2.drop).trans f3.drop)))
end
end Dv
namespace Dv
open PySem L2 PySem.Spec PyProof.Rows
def vas : List Opd → Option (List D)
  | [] => some []
  | .va d :: os => match vas os with | some ds => some (d :: ds) | none => none
  | _ => none
def lstM (f : M (List Opd)) : M D := M.bind f fun os ρ => match vas os with | some ds => if ds.length ≤ 1000 then .ok (.lst true ds) ρ else .bad | none => .bad
def a1u (f : M (List Opd)) : M D := M.bind f fun os ρ => match vas os with | some ds => if ds.length ≤ 1000 then .ok (.tup (frL ds)) ρ else .bad | none => .bad
section
variable {K : PySem.W.Frag} {Z : Zt} {O : Hold} {W : WX} {H : Hp} {S : Reg} {R A : List Addr} {σ : L2.St} {ρ : Env}
theorem a6c : ∀ {os : List Opd} {vs : List V} {A : List Addr} {ds : List D}, OpdsOk Z O.L H S σ os vs A → vas os = some ds → OwnL Z H S ds vs A
  | [], _, _, _, h, e => by cases e; exact h
  | .va d :: os, _, _, ds, h, e => by
    obtain ⟨v, r, A1, A2, rfl, rfl, h1, h2⟩ := h
    unfold vas at e
    cases e1 : vas os with
    | none => rw [e1] at e; cases e
    | some q => rw [e1] at e; cases e; exact ⟨v, r, A1, A2, rfl, rfl, h1, a6c h2 e1⟩
  | .nm _ :: _, _, _, _, _, e => by cases e
  | .vw _ :: _, _, _, _, _, e => by cases e
theorem OwnL.len : ∀ {ds : List D} {vs : List V} {A : List Addr}, OwnL Z H S ds vs A → vs.length = ds.length
  | [], _, _, h => by rw [h.1]; rfl
  | d :: ds, _, _, h => by
    obtain ⟨v, r, A1, A2, rfl, rfl, h1, h2⟩ := h
    rw [List.length_cons, List.length_cons, OwnL.len h2]
theorem b4d {ds : List D} {vs : List V} {p : Addr} (r : Rel K Z O H S (A ++ R) ρ σ) (h : OwnL Z H S ds vs A) (nd : A.Nodup) (dj : ∀ b ∈ A, b ∉ R ∧ b ∉ O.L) (hp : H p = none) :
    Own Z (upd H p (.lst vs)) S (.lst true ds) (.ref p) (p :: A) ∧ (p :: A).Nodup ∧ (∀ b ∈ p :: A, b ∉ R ∧ b ∉ O.L) ∧ Rel K Z O (upd H p (.lst vs)) S ((p :: A) ++ R) ρ σ ∧ Fr O R H (upd H p (.lst vs)) := by
  obtain ⟨r1, f1, np, n1, n2⟩ := r.new (o := .lst vs) hp
  have nA : p ∉ A := fun z => n1 (List.mem_append_left _ z)
  refine ⟨⟨p, vs, A, rfl, rfl, upd_same, np, OwnL.keep (Le.refl S) ds h fun b hb => ⟨upd_ne fun z => nA (z ▸ hb), (OwnL.mem ds h b hb).1⟩⟩, List.nodup_cons.mpr ⟨nA, nd⟩, fun b hb => ?_, r1.perm fun b => by simp, f1.drop⟩
  rcases List.mem_cons.mp hb with rfl | hb
  · exact ⟨fun z => n1 (List.mem_append_right _ z), n2⟩
  · exact dj b hb
theorem Rel.freezeL {ds : List D} {vs : List V} (r : Rel K Z O H S (A ++ R) ρ σ) (h : OwnL Z H S ds vs A) (nd : A.Nodup) (hR : ∀ b ∈ A, b ∉ R ∧ b ∉ O.L) : ∃ S', Le S S' ∧ ShL Z S' vs (frL ds) ∧ Rel K Z O H S' R ρ σ := by
  obtain ⟨As, r⟩ := r
  obtain ⟨S', l, I, q, k⟩ := OwnL.freeze ds r.inv h nd
  refine ⟨S', l, q, As, r.drop.step l I fun b hb => ⟨rfl, ?_⟩⟩
  refine Classical.byContradiction fun z => ?_
  rcases k b z with z | z
  · exact z (r.drop.all hb).1
  · rcases hb with hb | hb | ⟨i, hb⟩
    · exact (hR b z).1 hb
    · exact (hR b z).2 hb
    · exact (r.dr i b hb).1 (List.mem_append_left _ z)
end
section
variable {X : Cx} {Z : Zt} {W : WX} {es : List Expr} {f : M (List Opd)} {pos : Pos}
theorem a1g (ha : SA X Z W es f) : SE X Z W (.List es pos) (lstM f) := by
  obtain ⟨t, h1, h2⟩ := ha
  refine ⟨_, pe_lst h1, fun O H S R ρ σ Q r h => h2 O H S R ρ σ _ r ?_⟩
  unfold lstM M.bind at h
  cases e : f ρ with
  | bad => rw [e] at h; exact h.elim
  | ex x ρ1 => rw [e] at h; exact h
  | ok os ρ1 =>
    rw [e] at h
    intro vs H1 S1 A l q nd dj r1 f1
    simp only at h
    cases e2 : vas os with
    | none => rw [e2] at h; exact h.elim
    | some ds =>
      rw [e2] at h
      have qo := a6c q e2
      have hlen := qo.len
      simp only at h
      split at h
      case isFalse => exact h.elim
      case isTrue hsz =>
      refine ⟨a0r (by omega), fun p hp => ?_⟩
      obtain ⟨o1, o2, o3, o4, o5⟩ := b4d r1 qo nd dj hp
      exact h _ _ S1 _ l o1 o2 o3 o4 (f1.trans o5)
theorem u9 {x1} (ha : SA X Z W es f) : SE X Z W (.Tuple es x1 pos) (a1u f) := by
  obtain ⟨t, h1, h2⟩ := ha
  refine ⟨_, b58 h1, fun O H S R ρ σ Q r h => h2 O H S R ρ σ _ r ?_⟩
  unfold a1u M.bind at h
  cases e : f ρ with
  | bad => rw [e] at h; exact h.elim
  | ex x ρ1 => rw [e] at h; exact h
  | ok os ρ1 =>
    rw [e] at h
    intro vs H1 S1 A l q nd dj r1 f1
    simp only at h
    cases e2 : vas os with
    | none => rw [e2] at h; exact h.elim
    | some ds =>
      rw [e2] at h
      have qo := a6c q e2
      have hlen := qo.len
      simp only at h
      split at h
      case isFalse => exact h.elim
      case isTrue hsz =>
      refine ⟨a0r (by omega), ?_⟩
      obtain ⟨S2, l2, q2, r2⟩ := r1.freezeL qo nd dj
      exact a4u (a3d (W := W) r2 (EPost.weak h (l.trans l2) f1)) r2.inv q2
def ifM (t : M Bool) (a b : M D) : M D := fun ρ => match t ρ with
  | .ok k ρ' => if k = true then a ρ' else b ρ'
  | .ex x ρ' => .ex x ρ'
  | .bad => .bad
theorem ar5 {c a b : Expr} {t : M Bool} {fa fb : M D} (hc : ST X Z W c t) (ha : SE X Z W a fa) (hb : SE X Z W b fb) : SE X Z W (.IfExp c a b pos) (ifM t fa fb) := by
  obtain ⟨tc, c1, c2⟩ := hc
  obtain ⟨ta, a1, a2⟩ := ha
  obtain ⟨tb, b1, b2⟩ := hb
  refine ⟨_, pe_ifExp c1 a1 b1, fun O H S R ρ σ Q r h => c2 O H S R ρ σ _ r ?_⟩
  unfold ifM at h
  cases e : t ρ with
  | bad => rw [e] at h; exact h.elim
  | ex x ρ1 => rw [e] at h; exact h
  | ok k ρ1 =>
    rw [e] at h
    intro H1 S1 l r1 f1
    cases k with
    | true => exact iteT (a2 O H1 S1 R ρ1 σ Q r1 (EPost.weak h l f1))
    | false => exact iteF (b2 O H1 S1 R ρ1 σ Q r1 (EPost.weak h l f1))
theorem TPost.weak {K : PySem.W.Frag} {O : Hold} {H H1 : Hp} {S S1 : Reg} {R : List Addr} {σ : L2.St} {Q : Bool → Hp → Prop} {r : Res Bool} (h : TPost K Z O W H S R σ Q r) (l : Le S S1) (f : Fr O R H H1) : TPost K Z O W H1 S1 R σ Q r := by
  cases r with
  | ok b ρ => exact fun H' S' l' r f' => h H' S' (l.trans l') r (f.trans f')
  | ex x ρ => exact XP.weak0 h l f
  | bad => exact h
def andM (a b : M Bool) : M Bool := fun ρ => match a ρ with
  | .ok k ρ' => if k = true then b ρ' else .ok false ρ'
  | .ex x ρ' => .ex x ρ'
  | .bad => .bad
def orM (a b : M Bool) : M Bool := fun ρ => match a ρ with
  | .ok k ρ' => if k = true then .ok true ρ' else b ρ'
  | .ex x ρ' => .ex x ρ'
  | .bad => .bad
def b5f (a : M Bool) : M Bool := M.bind a fun k ρ => .ok (!k) ρ
theorem ah2 {a : Expr} {f : M Bool} (h : ST X Z W a f) : SW X Z W (.BoolOp .And [a] pos) f := let ⟨_, h1, h2⟩ := h; ⟨_, pw_and1 h1, h2⟩
theorem aa6 {a : Expr} {f : M Bool} (h : ST X Z W a f) : SW X Z W (.BoolOp .Or [a] pos) f := let ⟨_, h1, h2⟩ := h; ⟨_, pw_or1 h1, h2⟩
theorem az0 {a b : Expr} {rest : List Expr} {f g : M Bool} (h : ST X Z W a f) (hs : SW X Z W (.BoolOp .And (b :: rest) pos) g) : SW X Z W (.BoolOp .And (a :: b :: rest) pos) (andM f g) := by
  obtain ⟨t, h1, h2⟩ := h
  obtain ⟨u, u1, u2⟩ := hs
  refine ⟨_, pw_and h1 u1, fun O H S R ρ σ Q r h => h2 O H S R ρ σ _ r ?_⟩
  unfold andM at h
  cases e : f ρ with
  | bad => rw [e] at h; exact h.elim
  | ex x ρ1 => rw [e] at h; exact h
  | ok k ρ1 =>
    rw [e] at h
    intro H1 S1 l r1 f1
    cases k with
    | true => exact iteT (u2 O H1 S1 R ρ1 σ Q r1 (TPost.weak h l f1))
    | false => exact iteF (h H1 S1 l r1 f1)
theorem am3 {a b : Expr} {rest : List Expr} {f g : M Bool} (h : ST X Z W a f) (hs : SW X Z W (.BoolOp .Or (b :: rest) pos) g) : SW X Z W (.BoolOp .Or (a :: b :: rest) pos) (orM f g) := by
  obtain ⟨t, h1, h2⟩ := h
  obtain ⟨u, u1, u2⟩ := hs
  refine ⟨_, pw_or h1 u1, fun O H S R ρ σ Q r h => h2 O H S R ρ σ _ r ?_⟩
  unfold orM at h
  cases e : f ρ with
  | bad => rw [e] at h; exact h.elim
  | ex x ρ1 => rw [e] at h; exact h
  | ok k ρ1 =>
    rw [e] at h
    intro H1 S1 l r1 f1
    cases k with
    | true => exact iteT (h H1 S1 l r1 f1)
    | false => exact iteF (u2 O H1 S1 R ρ1 σ Q r1 (TPost.weak h l f1))
theorem ad7 {a : Expr} {f : M Bool} (h : SW X Z W a f) : ST X Z W a f := let ⟨_, h1, h2⟩ := h; ⟨_, h1.pt, h2⟩
theorem b6n {a : Expr} {f : M Bool} (h : ST X Z W a f) : ST X Z W (.UnaryOp .Not a pos) (b5f f) := by
  obtain ⟨t, h1, h2⟩ := h
  refine ⟨_, pt_not h1, fun O H S R ρ σ Q r h => h2 O H S R ρ σ _ r ?_⟩
  unfold b5f M.bind at h
  cases e : f ρ with
  | bad => rw [e] at h; exact h.elim
  | ex x ρ1 => rw [e] at h; exact h
  | ok k ρ1 => rw [e] at h; exact h
theorem b20 {a : Expr} {f : M D} (h : SE X Z W a f) (he : ∀ whole, isTrue a X.env whole = (do let v ← whole; standAt a.pos; holding [v] (truthy v)) := by intro _; rfl) : ST X Z W a (tst f) := by
  obtain ⟨t, h1, h2⟩ := h
  exact ⟨_, pt_val h1 he, ah0 h2⟩
def bn5 (f : M D) : M Bool := tst f
def b5e (a : M D) (b : M D) : M D := fun ρ => match tst a ρ with
  | .ok k ρ' => if k = true then b ρ' else .ok (.bl false) ρ'
  | .ex x ρ' => .ex x ρ'
  | .bad => .bad
def orV (a : M D) (b : M D) : M D := fun ρ => match tst a ρ with
  | .ok k ρ' => if k = true then .ok (.bl true) ρ' else b ρ'
  | .ex x ρ' => .ex x ρ'
  | .bad => .bad
def bu1 (a : M D) : M D := M.bind (tst a) fun k ρ => .ok (.bl (!k)) ρ
theorem b8i {op} {a : Expr} {f : M D} (h : SE X Z W a f) : SE X Z W (.BoolOp op [a] pos) f := let ⟨_, h1, h2⟩ := h; ⟨_, pe_one h1, h2⟩
theorem b3d {K : PySem.W.Frag} {O : Hold} {H H1 : Hp} {S S1 : Reg} {R : List Addr} {σ : L2.St} {Q : VK} {k : Bool} {ρ : Env} (h : EPost K Z O W H S R σ Q (.ok (.bl k) ρ)) (l : Le S S1) (r : Rel K Z O H1 S1 R ρ σ) (f : Fr O R H H1) : Q (.bl k) H1 :=
  h (.bl k) H1 S1 [] l ⟨rfl, rfl⟩ List.nodup_nil (fun _ hb => nomatch hb) r f
theorem b86 {a b : Expr} {rest : List Expr} {f g : M D} (h : SE X Z W a f) (hs : SE X Z W (.BoolOp .And (b :: rest) pos) g) : SE X Z W (.BoolOp .And (a :: b :: rest) pos) (b5e f g) := by
  obtain ⟨t, h1, h2⟩ := h
  obtain ⟨u, u1, u2⟩ := hs
  refine ⟨_, pe_and h1 u1, fun O H S R ρ σ Q r h => ?_⟩
  have key := ah0 (Z := Z) (W := W) h2 O H S R ρ σ (fun k H1 => if k = true then u σ H1 Q else Q (.bl false) H1) r
  refine key ?_
  unfold b5e at h
  cases e : tst f ρ with
  | bad => rw [e] at h; exact h.elim
  | ex x ρ1 => rw [e] at h; exact h
  | ok k ρ1 =>
    rw [e] at h
    intro H1 S1 l r1 f1
    cases k with
    | true => exact iteT (u2 O H1 S1 R ρ1 σ Q r1 (EPost.weak h l f1))
    | false => exact iteF (b3d h l r1 f1)
def chM (F G : D → D → Option D) (f g h : M Opd) : M D := M.bind f fun a => M.bind g fun b => fun ρ => match look ρ a, look ρ b with
  | some x, some y => (match F x y with
    | some (.bl k) => if k = true then M.bind h (fun c ρ => match look ρ b, look ρ c with | some y, some z => a6f (G y z) ρ | _, _ => .bad) ρ else .ok (.bl false) ρ
    | _ => .bad)
  | _, _ => .bad
end
end Dv
namespace Dv
open PySem L2 PySem.Spec PyProof.Rows
def a0e (F : List D → Option D) (g : M (List Opd)) : M D := M.bind g fun os => fun ρ => match a3p ρ os with
  | some ds => a6f (F ds) ρ
  | none => .bad
def a5r (K : PySem.W.Frag) (Z : Zt) (r : List V → Hp → VK → Prop) (F : List D → Option D) : Prop :=
  ∀ H S vs ds d Q, InvS K Z H S → ViewL Z H S vs ds → F ds = some d → Gives K Z H S d Q → r vs H Q
section
variable {X : Cx} {Z : Zt} {W : WX} {e : Expr} {es : List Expr} {g : M (List Opd)} {p pos : Pos} {x : Str}
theorem ac5 {r : List V → Hp → VK → Prop} {F : List D → Option D} {t : TA} (hF : a5r X.K Z r F) (h2 : ∀ O H S R ρ σ Q, Rel X.K Z O H S R ρ σ → b4e X.K Z O W H S R σ Q (g ρ) → t σ H Q) :
    ∀ O H S R ρ σ Q, Rel X.K Z O H S R ρ σ → EPost X.K Z O W H S R σ Q (a0e F g ρ) → tCB r t σ H Q := by
  intro O H S R ρ σ Q r0 h
  refine h2 O H S R ρ σ _ r0 ?_
  unfold a0e M.bind at h
  cases e1 : g ρ with
  | bad => rw [e1] at h; exact h.elim
  | ex x ρ1 => rw [e1] at h; exact h
  | ok os ρ1 =>
    rw [e1] at h
    intro vs H1 S1 A l q nd dj r1 f1
    simp only at h
    cases e2 : a3p ρ1 os with
    | none => rw [e2] at h; exact h.elim
    | some ds =>
      rw [e2] at h
      simp only [a6f] at h
      cases e3 : F ds with
      | none => rw [e3] at h; exact h.elim
      | some d =>
        rw [e3] at h
        exact hF H1 S1 vs ds d Q r1.inv (a6l r1 q e2) e3 (a3d (W := W) r1.drop (EPost.weak h l f1))
theorem a0c {id : String} {r : List V → Hp → VK → Prop} {F : List D → Option D} (hc : CallR X (.builtin id) r) (hF : a5r X.K Z r F) (hm : X.mg x = none) (hv : bootBuiltins x = some (.builtin id)) (ha : SA X Z W (e :: es) g) (hg : Gl X x := by rfl) (hn : x ≠ "__name__" := by decide) (hdb : (x == ("__debug__" : Str)) = false := by decide)
    (he : starEach (e :: es) X.env = (false, eval e X.env) :: starEach es X.env := by rfl) (hpl : (backTo pos (starEach es X.env)).any (·.1) = false := by rfl) : SE X Z W (.Call (.Name x p) (e :: es) [] pos) (a0e F g) := by
  obtain ⟨t, h1, h2⟩ := ha
  exact ⟨_, pe_callB hc hg hm hv h1 hn hdb he hpl, ac5 hF h2⟩
theorem a08 {T : String} {r : List V → Hp → VK → Prop} {F : List D → Option D} (hc : CallR X (.type T) r) (hF : a5r X.K Z r F) (hm : X.mg x = none) (hv : bootBuiltins x = some (.type T)) (ha : SA X Z W (e :: es) g) (hg : Gl X x := by rfl) (hn : x ≠ "__name__" := by decide) (hdb : (x == ("__debug__" : Str)) = false := by decide)
    (he : starEach (e :: es) X.env = (false, eval e X.env) :: starEach es X.env := by rfl) (hpl : (backTo pos (starEach es X.env)).any (·.1) = false := by rfl) : SE X Z W (.Call (.Name x p) (e :: es) [] pos) (a0e F g) := by
  obtain ⟨t, h1, h2⟩ := ha
  exact ⟨_, pe_callTy hc hg hm hv h1 hn hdb he hpl, ac5 hF h2⟩
theorem ba7 {T : String} (hm : X.mg x = none) (hv : bootBuiltins x = some (.type T)) (hg : Gl X x := by rfl) (hn : x ≠ "__name__" := by decide) (hdb : (x == ("__debug__" : Str)) = false := by decide) : SE X Z W (.Name x p) (cst (.ty T)) :=
  ⟨_, pe_bltn (v := .ty T) hg hm hv rfl hn hdb, a9v rfl⟩
end
theorem v1 {Z : Zt} {H : Hp} {S : Reg} {vs : List V} {a : D} (h : ViewL Z H S vs [a]) : ∃ v, vs = [v] ∧ View Z H S v a := by
  cases h with
  | cons h1 h2 => cases h2; exact ⟨_, rfl, h1⟩
theorem v2 {Z : Zt} {H : Hp} {S : Reg} {vs : List V} {a b : D} (h : ViewL Z H S vs [a, b]) : ∃ v w, vs = [v, w] ∧ View Z H S v a ∧ View Z H S w b := by
  cases h with
  | cons h1 h2 => cases h2 with
    | cons h2 h3 => cases h3; exact ⟨_, _, rfl, h1, h2⟩
def ai0 : List D → Option D
  | [.lst _ ds] => some (.int ds.length)
  | [.tup ds] => some (.int ds.length)
  | [.str x] => if x.length ≤ 1000000 then some (.int x.length) else none
  | [.dic _ false ks _] => some (.int ks.length)
  | _ => none
def a9t : List D → Option D
  | [.lst _ ds] => if a0d ds = true then some (.lst true ds) else none
  | [.tup ds] => some (.lst true ds)
  | _ => none
def a2w : List D → Option D
  | [.lst _ ds] => if a0d ds = true then some (.tup ds) else none
  | [.tup ds] => some (.tup ds)
  | _ => none
def rLen (K : PySem.W.Frag) : List V → Hp → VK → Prop := fun xs H Q => (∃ x n, xs = [x] ∧ LenV K x H n ∧ Q (.int n) H) ∨ ∃ a kvs, xs = [.ref a] ∧ Rd H a (.dK kvs) ∧ Q (.int kvs.length) H
section
variable {K : PySem.W.Frag} {Z : Zt} {X : Cx}
theorem a3j : CallR X (.builtin "len") (rLen X.K) := call_len.or fun pins s σ H xs us Q I r h => by
  obtain ⟨a, kvs, rfl, ha, q⟩ := h
  cases Vals.ref1 r
  exact d_len I ha fun t s' I' => ⟨.int kvs.length, H, I', ⟨t, rfl⟩, q⟩
theorem a8l : a5r K Z (rLen K) ai0 := by
  intro H S vs ds d Q I hv e g
  unfold ai0 at e
  split at e
  · cases e
    obtain ⟨v, rfl, h⟩ := v1 hv
    obtain ⟨a, ws, rfl, ha, hw⟩ := h.lst I
    exact .inl ⟨_, ws.length, rfl, .inl ⟨ws, SqL.of ha, rfl⟩, by rw [u5 hw]; exact g.flat I rfl⟩
  · cases e
    obtain ⟨v, rfl, h⟩ := v1 hv
    obtain ⟨a, ws, rfl, ha, hw⟩ := h.tup I
    exact .inl ⟨_, ws.length, rfl, .inr ⟨ws, ha.sq, rfl⟩, by rw [u5 hw]; exact g.flat I rfl⟩
  · split at e
    · rename_i hl
      cases e
      obtain ⟨v, rfl, h⟩ := v1 hv
      obtain rfl := h.str
      exact .inl ⟨_, _, rfl, ⟨a0r hl, rfl⟩, g.flat I rfl⟩
    · cases e
  · cases e
    obtain ⟨v, rfl, h⟩ := v1 hv
    obtain ⟨a, ws, rfl, ha, hw⟩ := h.dic I
    rcases ha with ⟨_, kk, rfl, hnd, hl, ha⟩ | ⟨z, _⟩
    · refine .inr ⟨a, _, rfl, ha, ?_⟩
      rw [List.length_zip, hl, Nat.min_self, ← hl]
      refine g.flat I ?_
      rw [List.length_map]
      rfl
    · cases z
  · cases e
theorem a9x : a5r K Z (fun xs H Q => ∃ p ys, xs = [.ref p] ∧ (SqL K H p ys ∨ SqT K H p ys) ∧ ∀ l, H l = none → Q (.ref l) (upd H l (.lst ys))) a9t := by
  intro H S vs ds d Q I hv e g
  unfold a9t at e
  split at e
  · split at e
    · rename_i hp
      cases e
      obtain ⟨v, rfl, h⟩ := v1 hv
      obtain ⟨a, ws, rfl, ha, hw⟩ := h.lst I
      exact ⟨a, ws, rfl, .inl (SqL.of ha), fun l hl => a1d g I (hw.sh (z9 hp)) (z9 hp) hl⟩
    · cases e
  · cases e
    obtain ⟨v, rfl, h⟩ := v1 hv
    obtain ⟨a, ws, rfl, ha, hw⟩ := h.tup I
    exact ⟨a, ws, rfl, .inr (ha.sq), fun l hl => a1d g I hw (hw.un I) hl⟩
  · cases e
theorem a2i : a5r K Z (fun xs H Q => ∃ p ys, xs = [.ref p] ∧ ((SqL K H p ys ∧ ao9 H ys Q) ∨ (SqT K H p ys ∧ Q (.ref p) H))) a2w := by
  intro H S vs ds d Q I hv e g
  unfold a2w at e
  split at e
  · split at e
    · rename_i hp
      cases e
      obtain ⟨v, rfl, h⟩ := v1 hv
      obtain ⟨a, ws, rfl, ha, hw⟩ := h.lst I
      exact ⟨a, ws, rfl, .inl ⟨SqL.of ha, a4u g I (hw.sh (z9 hp))⟩⟩
    · cases e
  · cases e
    obtain ⟨v, rfl, h⟩ := v1 hv
    have sh := h.sh rfl
    obtain ⟨a, ws, rfl, ha, hw⟩ := h.tup I
    exact ⟨a, ws, rfl, .inr ⟨ha.sq, a2c g I sh rfl⟩⟩
  · cases e
def a2j : List D → Option (List Int)
  | [] => some []
  | .int i :: ds => match a2j ds with | some ns => some (i :: ns) | none => none
  | _ => none
def bv9 : List D → Option D
  | [.lst _ ds] => match a2j ds with | some ns => some (.int ns.sum) | none => none
  | [.tup ds] => match a2j ds with | some ns => some (.int ns.sum) | none => none
  | _ => none
def bt9 : List D → Option D
  | [.int i] => some (.int (if i < 0 then -i else i))
  | _ => none
def bd3 : List D → Option D
  | [.int i, .int j] => some (.int (if j > i then j else i))
  | _ => none
def bc5 : List D → Option D
  | [.int i, .int j] => some (.int (if j < i then j else i))
  | _ => none
theorem a4q {H : Hp} {S : Reg} : ∀ {ds : List D} {vs : List V} {ns : List Int}, ViewL Z H S vs ds → a2j ds = some ns → vs = ns.map V.int
  | [], _, _, h, e => by cases h; cases e; rfl
  | .int i :: ds, _, ns, h, e => by
    cases h with
    | cons h1 h2 =>
      unfold a2j at e
      cases e2 : a2j ds with
      | none => rw [e2] at e; cases e
      | some ms => rw [e2] at e; cases e; rw [h1.int, a4q h2 e2]; rfl
  | .non :: _, _, _, _, e => by cases e
  | .bl _ :: _, _, _, _, e => by cases e
  | .str _ :: _, _, _, _, e => by cases e
  | .tup _ :: _, _, _, _, e => by cases e
  | .lst _ _ :: _, _, _, _, e => by cases e
  | .dic _ _ _ _ :: _, _, _, _, e => by cases e
  | .scr _ :: _, _, _, _, e => by cases e
  | .ty _ :: _, _, _, _, e => by cases e
  | .pr _ :: _, _, _, _, e => by cases e
  | .exc _ _ _ :: _, _, _, _, e => by cases e
  | .xds _ _ :: _, _, _, _, e => by cases e
  | .obj _ _ _ _ :: _, _, _, _, e => by cases e
  | .pgs _ _ :: _, _, _, _, e => by cases e
  | .dicL _ _ :: _, _, _, _, e => by cases e
  | .otp _ :: _, _, _, _, e => by cases e
  | .raw _ :: _, _, _, _, e => by cases e
def bl3 (K : PySem.W.Frag) : List V → Hp → VK → Prop := fun vs H Q => ∃ (a : Addr) (ns : List Int), vs = [V.ref a] ∧ (SqL K H a (ns.map V.int) ∨ SqT K H a (ns.map V.int)) ∧ Q (.int ns.sum) H
mutual
def mes : PyData → Nat
  | .none => 4
  | .bool _ => 5
  | .int i => i.natAbs.log2 + 2
  | .str x => if x.cps.toList.all (fun c => decide (c < 16 ^ 8)) = true then 10 * x.length + 2 else (reprText x).length
  | .list xs => b2d xs + 3
  | .tuple xs => b2d xs + 3
  | .dict _ => 10 ^ 9
def b2d : List PyData → Nat
  | [] => 0
  | x :: xs => mes x + 2 + b2d xs
end
theorem ac2 (x y : Str) : (x ++ y).length = x.length + y.length := by
  show (x.cps ++ y.cps).size = _
  rw [Array.size_append]
  rfl
theorem ag7 (ts : List Str) : (listText ts).length ≤ piled ts + 3 := by
  unfold listText
  cases ts with
  | nil => decide +kernel
  | cons t ts =>
    rw [ac2]
    unfold textFrom
    rw [textFrom_length_pos ts 1 _ (by decide), ac2, ac2, piled_cons]
    have h1 : ("]" : Str).length = 1 := by decide +kernel
    have h2 : ("[" : Str).length = 1 := by decide +kernel
    have h3 : ((if 0 > 0 then ", " else "" : String) : Str).length = 0 := by decide +kernel
    rw [h1, h2, h3]
    omega
theorem ad0 (ts : List Str) : (tupleText ts).length ≤ piled ts + 3 := by
  unfold tupleText
  rw [ac2, ac2]
  have h2 : ("(" : Str).length = 1 := by decide +kernel
  have h3 : ((if ts.length == 1 then ",)" else ")" : String) : Str).length ≤ 2 := by
    split
    · decide +kernel
    · decide +kernel
  have h4 : (Str.join ", " ts).length ≤ piled ts := by
    cases ts with
    | nil => decide +kernel
    | cons t ts =>
      have := join_length_add (t :: ts) (by simp)
      omega
  omega
mutual
theorem shown_le : ∀ p : PyData, p.showable = true → p.hasDict = false → p.shown.length ≤ mes p
  | .none, _, _ => by decide +kernel
  | .bool b, _, _ => by cases b <;> decide +kernel
  | .int i, h, _ => by
    have h' : i.natAbs.log2 < 1920 := by simpa [PyData.showable] using h
    have e := int_text_length_le (k := i.natAbs.log2 + 1) (by omega) (a := i) (by omega)
    show (Str.ofString (toString i)).length ≤ i.natAbs.log2 + 2
    rw [PySem.ofString_length]
    omega
  | .str x, _, _ => by
    unfold mes
    split
    · rename_i h
      exact StrLaws.reprText_len x fun c hc => by
        have := List.all_eq_true.mp h c hc
        simpa using this
    · exact Nat.le_refl _
  | .list xs, h, hd => by
    unfold mes PyData.shown
    exact Nat.le_trans (ag7 _) (Nat.add_le_add_right (a7v xs (by simpa [PyData.showable] using h) (by simpa [PyData.hasDict] using hd)) 3)
  | .tuple xs, h, hd => by
    unfold mes PyData.shown
    exact Nat.le_trans (ad0 _) (Nat.add_le_add_right (a7v xs (by simpa [PyData.showable] using h) (by simpa [PyData.hasDict] using hd)) 3)
  | .dict _, _, hd => by simp [PyData.hasDict] at hd
theorem a7v : ∀ ps : List PyData, PyData.showableAll ps = true → PyData.hasDictAll ps = false → piled (PyData.shownAll ps) ≤ b2d ps
  | [], _, _ => by simp [PyData.shownAll, piled]
  | p :: ps, h, hd => by
    have h' : p.showable = true ∧ PyData.showableAll ps = true := by simpa [PyData.showableAll] using h
    have hd' : p.hasDict = false ∧ PyData.hasDictAll ps = false := by simpa [PyData.hasDictAll] using hd
    unfold PyData.shownAll b2d
    rw [piled_cons]
    have := shown_le p h'.1 hd'.1
    have := a7v ps h'.2 hd'.2
    omega
end
def a5t : List D → Option D
  | [d] => (match toPy d with | some p => if p.showable = true ∧ mes p ≤ 1000000 ∧ p.depth ≤ 60 then some (.str p.shown) else none | none => none)
  | _ => none
def b6u (K : PySem.W.Frag) : List V → Hp → VK → Prop := fun xs H Q => ∃ x p, xs = [x] ∧ Dp K H x p ∧ p.showable = true ∧ p.shown.length ≤ sizeLine ∧ p.depth ≤ 60 ∧ Q (.str p.shown) H
theorem a88 {H : Hp} : ∀ {v : V} {p : PyData}, Dp K H v p → p.hasDict = false := by
  intro v p h
  refine Dp.rec (motive_1 := fun v p _ => p.hasDict = false) (motive_2 := fun vs ps _ => PyData.hasDictAll ps = false) ?_ ?_ ?_ ?_ ?_ ?_ ?_ ?_ h
  · simp [PyData.hasDict]
  · intro b; simp [PyData.hasDict]
  · intro i; simp [PyData.hasDict]
  · intro x; simp [PyData.hasDict]
  · intro a xs ds _ _ ih; simpa [PyData.hasDict] using ih
  · intro a xs ds _ _ ih; simpa [PyData.hasDict] using ih
  · simp [PyData.hasDictAll]
  · intro v vs d ds _ _ h1 h2; simp [PyData.hasDictAll, h1, h2]
theorem a1f (hG : X.A.guards = some []) (hu : X.A.units + 64 < cLine) : CallR X (.builtin "repr") (b6u X.K) := by
  intro pins s σ H xs us Q I r h
  obtain ⟨x, p, rfl, hd, hs, hz, hdep, q⟩ := h
  obtain ⟨u, rfl, ru⟩ := Vals.one r
  cases hd with
  | non => cases ru; exact PySem.P.repr_of_none ⟨.str _, H, I.tok _, ⟨_, rfl⟩, q⟩
  | bl b => cases ru; exact PySem.P.repr_of_bool ⟨.str _, H, I.tok _, ⟨_, rfl⟩, by cases b <;> exact q⟩
  | int i =>
    obtain ⟨t, rfl⟩ := ru
    exact PySem.P.repr_of_int (by simpa [PyData.showable] using hs) ⟨.str _, H, I.tok _, ⟨_, rfl⟩, q⟩
  | str z =>
    obtain ⟨t, rfl⟩ := ru
    exact PySem.P.repr_of_str ⟨.str _, H, I.tok _, ⟨_, rfl⟩, q⟩ hz
  | lst hl ha =>
    cases ru
    obtain ⟨as, rd⟩ := Dp.reads I _ _ _ (Dp.lst hl ha) rfl
    exact repr_of_reads' rd hs (PyData.noDict_hsm (a88 (Dp.lst hl ha))) hG (by omega) (fun _ _ e => e) (fun h' u tk hk => ⟨.str _, H, I.kept hk, ⟨_, rfl⟩, q⟩) hz
  | tup hl ha =>
    cases ru
    obtain ⟨as, rd⟩ := Dp.reads I _ _ _ (Dp.tup hl ha) rfl
    exact repr_of_reads' rd hs (PyData.noDict_hsm (a88 (Dp.tup hl ha))) hG (by omega) (fun _ _ e => e) (fun h' u tk hk => ⟨.str _, H, I.kept hk, ⟨_, rfl⟩, q⟩) hz
theorem a3y : a5r K Z (b6u K) a5t := by
  intro H S vs ds d Q I hv e g
  unfold a5t at e
  split at e
  · split at e
    · rename_i p hp
      split at e
      · rename_i hc
        cases e
        obtain ⟨v, rfl, h⟩ := v1 hv
        have hd := a2h I _ h hp
        exact ⟨v, p, rfl, hd, hc.1, a0r (Nat.le_trans (shown_le p hc.1 (a88 hd)) hc.2.1), hc.2.2, g.flat I rfl⟩
      · cases e
    · cases e
  · cases e
def a1m : D → String
  | .non => "NoneType" | .bl _ => "bool" | .int _ => "int" | .str _ => "str" | .tup _ => "tuple" | .lst _ _ => "list" | .dic _ _ _ _ => "dict" | .scr _ => "list" | .ty _ => "type" | .pr _ => "tuple" | _ => ""
def b9h : List D → Option D
  | [d, .ty n] => match d with
    | .scr _ => none
    | .ty _ => none
    | .raw _ => none
    | .exc _ _ _ => none
    | .xds _ _ => none
    | .obj _ _ _ _ => none
    | .pgs _ _ => none
    | .dicL _ _ => none
    | .otp _ => none
    | .dic _ true _ _ => none
    | .bl _ => if n = "int" ∨ n = "bool" then some (.bl true) else if n = "str" ∨ n = "tuple" ∨ n = "list" ∨ n = "dict" then some (.bl false) else none
    | d => if n = "int" ∨ n = "bool" ∨ n = "str" ∨ n = "tuple" ∨ n = "list" ∨ n = "dict" then some (.bl (decide (a1m d = n))) else none
  | _ => none
theorem bk9 (a b : String) (ha : a ∈ ["NoneType", "bool", "int", "str", "tuple", "list", "dict"]) (hb : b ∈ ["int", "bool", "str", "tuple", "list", "dict"]) : kitB a b = some (decide (a = b) || (decide (a = "bool") && decide (b = "int"))) := by
  have : ∀ a ∈ ["NoneType", "bool", "int", "str", "tuple", "list", "dict"], ∀ b ∈ ["int", "bool", "str", "tuple", "list", "dict"], kitB a b = some (decide (a = b) || (decide (a = "bool") && decide (b = "int"))) := by decide +kernel
  exact this a ha b hb
theorem b63 : a5r K Z (rIsi K) b9h := by
  intro H S vs ds d Q I hv e g
  unfold b9h at e
  split at e
  · rename_i d0 n
    obtain ⟨v, w, rfl, h, h'⟩ := v2 hv
    obtain rfl : w = .ty n := h'.flat rfl
    have fin : ∀ (b : Bool), TyX K H v (.type (a1m d0)) → a1m d0 ∈ ["NoneType", "bool", "int", "str", "tuple", "list", "dict"] → n ∈ ["int", "bool", "str", "tuple", "list", "dict"] → (decide (a1m d0 = n) || (decide (a1m d0 = "bool") && decide (n = "int"))) = b → Gives K Z H S (.bl b) Q → rIsi K [v, .ty n] H Q := fun b ht h1 h2 hb g => ⟨v, .ty n, _, _, b, rfl, .ty n, ht, kit_ty (by rw [bk9 _ _ h1 h2, hb]), g.flat I rfl⟩
    have nn : ∀ {n : String}, n = "int" ∨ n = "bool" ∨ n = "str" ∨ n = "tuple" ∨ n = "list" ∨ n = "dict" → n ∈ ["int", "bool", "str", "tuple", "list", "dict"] := fun h => by simpa using h
    cases d0 with
    | scr _ => cases e
    | ty _ => cases e
    | raw _ => cases e
    | exc _ _ _ => cases e
    | xds _ _ => cases e
    | obj _ _ _ _ => cases e
    | pgs _ _ => cases e
    | dicL _ _ => cases e
    | otp _ => cases e
    | pr xs =>
      obtain ⟨a, ws, rfl, ha, _⟩ := h.pr I
      simp only at e
      split at e
      · rename_i hn; cases e; exact fin _ (.base (.tup ha)) (by simp [a1m]) (nn hn) (by simp [a1m]) g
      · cases e
    | bl b =>
      obtain rfl := h.bl
      simp only at e
      split at e
      · rename_i hn
        cases e
        refine fin true (.base (.bl b)) (by simp [a1m]) (nn (by rcases hn with h | h <;> simp [h])) ?_ g
        rcases hn with rfl | rfl <;> simp [a1m]
      · split at e
        · rename_i hn
          cases e
          refine fin false (.base (.bl b)) (by simp [a1m]) (nn (by rcases hn with h | h | h | h <;> simp [h])) ?_ g
          rcases hn with rfl | rfl | rfl | rfl <;> simp [a1m]
        · cases e
    | non =>
      obtain rfl := h.non
      simp only at e
      split at e
      · rename_i hn; cases e; exact fin _ (.base .non) (by simp [a1m]) (nn hn) (by simp [a1m]) g
      · cases e
    | int i =>
      obtain rfl := h.int
      simp only at e
      split at e
      · rename_i hn; cases e; exact fin _ (.base (.int i)) (by simp [a1m]) (nn hn) (by simp [a1m]) g
      · cases e
    | str x =>
      obtain rfl := h.str
      simp only at e
      split at e
      · rename_i hn; cases e; exact fin _ (.base (.str x)) (by simp [a1m]) (nn hn) (by simp [a1m]) g
      · cases e
    | tup xs =>
      obtain ⟨a, ws, rfl, ⟨o, _, ha⟩, _⟩ := h.tup I
      simp only at e
      split at e
      · rename_i hn; cases e; exact fin _ (.fTuple ha) (by simp [a1m]) (nn hn) (by simp [a1m]) g
      · cases e
    | lst o xs =>
      obtain ⟨a, ws, rfl, ha, _⟩ := h.lst I
      simp only at e
      split at e
      · rename_i hn; cases e; exact fin _ (.base (.lst ha)) (by simp [a1m]) (nn hn) (by simp [a1m]) g
      · cases e
    | dic o tk ks xs =>
      obtain ⟨a, ws, rfl, ha, _⟩ := h.dic I
      cases tk with
      | true => cases e
      | false =>
      have ty : TyX K H (.ref a) (.type "dict") := by
        rcases ha with ⟨_, kk, _, _, _, ha⟩ | ⟨z, _⟩
        · exact ha.elim (fun ha => .base (.dK ha)) (fun ⟨o, ha⟩ => .fDict ha)
        · cases z
      simp only at e
      split at e
      · rename_i hn; cases e; exact fin _ ty (by simp [a1m]) (nn hn) (by simp [a1m]) g
      · cases e
  · cases e
end
end Dv
namespace Dv
open PySem L2 PySem.Spec PyProof.Rows
def Slot.sw (s : Slot) (d : D) : Slot := match s with | .own _ => .own d | .io _ => .io d | .lent _ => .lent d
def Slot.may : Slot → Bool | .lent _ => false | _ => true
def a7h : D → Bool | .lst _ _ => true | _ => false
section
variable {K : PySem.W.Frag} {Z : Zt} {O : Hold} {W : WX} {H H' : Hp} {S S' : Reg} {R A : List Addr} {σ : L2.St} {ρ : Env}
theorem a7p {i : Nat} {s : Slot} {a : Addr} {B : List Addr} {As : Nat → List Addr} (r : RelA K Z O H S (A ++ R) ρ σ As) (hs : ρ[i]? = some (some s)) (hm : s.may = true) (hv : σ[i]? = some (some (.ref a))) (hA : As i = a :: B) (nf : ∀ o u, H a ≠ some (.frz o u)) (dA : ∀ b ∈ A, b ∉ R ∧ b ∉ O.L) :
    (∀ b ∈ B, b ≠ a ∧ b ∉ A) ∧ B.Nodup ∧ a ∉ A ∧ ∀ (o' : HO) (d' : D) (B' : List Addr), B'.Nodup → (∀ b ∈ B', b ∈ B ∨ b ∈ A) → Own Z (upd H a o') S d' (.ref a) (a :: B') → Rel K Z O (upd H a o') S R (ρ.set i (some (s.sw d'))) σ ∧ Fr O R H (upd H a o') := by
  have nd := r.nd i
  rw [hA] at nd
  obtain ⟨na, nB⟩ := List.nodup_cons.mp nd
  have offA : ∀ b ∈ a :: B, b ∉ A := fun b hb z => (r.dr i b (by rw [hA]; exact hb)).1 (List.mem_append_left _ z)
  refine ⟨fun b hb => ⟨fun z => na (z ▸ hb), offA b (List.mem_cons_of_mem _ hb)⟩, nB, offA a List.mem_cons_self, fun o' d' B' nB' hB' own => ?_⟩
  have r1 := r.take (i := i)
  rw [hA] at r1
  have aR : a ∉ R ∧ a ∉ O.L := ⟨fun z => (r.dr i a (by rw [hA]; exact List.mem_cons_self)).1 (List.mem_append_right _ z), (r.dr i a (by rw [hA]; exact List.mem_cons_self)).2⟩
  have sa : S a = none := (r.mem (i := i) (by rw [hA]; exact List.mem_cons_self)).1
  have inv' : InvS K Z (upd H a o') S := r.inv.heap (fun b hb => upd_ne fun z => by subst z; exact hb sa) fun b o u e => upd_ne fun z => by subst z; exact nf o _ e
  have r2 : RelA K Z O (upd H a o') S R (ρ.set i none) σ (fun j => if j = i then [] else As j) := by
    refine (RelA.drop (A := a :: B) (RelA.drop (A := A) (by
      obtain ⟨As', q⟩ := Rel.perm (R' := A ++ ((a :: B) ++ R)) ⟨_, r1⟩ fun b => by simp [or_left_comm]
      exact ⟨r1.inv, r1.len, r1.sl, r1.nil, r1.nd, r1.dj, fun j b hb => ⟨fun z => (r1.dr j b hb).1 (by simp only [List.mem_append] at z ⊢; rcases z with z | z | z; exact .inr (.inl z); exact .inl z; exact .inr (.inr z)), (r1.dr j b hb).2⟩, q.rest⟩))).step (Le.refl S) inv' fun b hb => ?_
    have hn : b ≠ a := by
      rintro rfl
      rcases hb with hb | hb | ⟨j, hb⟩
      · exact aR.1 hb
      · exact aR.2 hb
      · exact (r1.dr j _ hb).1 (List.mem_append_left _ List.mem_cons_self)
    refine ⟨upd_ne hn, ?_⟩
    rcases hb with hb | hb | ⟨j, hb⟩
    · exact (r1.rest b (.inl (List.mem_append_right _ (List.mem_append_right _ hb)))).1
    · exact (r1.rest b (.inr hb)).1
    · exact (r1.mem hb).1
  have memB : ∀ b ∈ a :: B', S b = none ∧ (upd H a o') b ≠ none := Own.mem d' own
  have r3 : RelA K Z O (upd H a o') S ((a :: B') ++ R) (ρ.set i none) σ (fun j => if j = i then [] else As j) := r2.hold memB fun j b hb z => by
    have hh := r1.dr j b hb
    rcases List.mem_cons.mp z with rfl | z
    · exact hh.1 (List.mem_append_left _ List.mem_cons_self)
    · rcases hB' b z with z | z
      · exact hh.1 (List.mem_append_left _ (List.mem_cons_of_mem _ z))
      · exact hh.1 (List.mem_append_right _ (List.mem_append_left _ z))
  have nB'' : (a :: B').Nodup := List.nodup_cons.mpr ⟨fun z => (hB' a z).elim na fun z => offA a List.mem_cons_self z, nB'⟩
  have dB : ∀ b ∈ a :: B', b ∉ R ∧ b ∉ O.L := fun b hb => by
    rcases List.mem_cons.mp hb with rfl | hb
    · exact aR
    · rcases hB' b hb with z | z
      · exact ⟨fun q => (r.dr i b (by rw [hA]; exact List.mem_cons_of_mem _ z)).1 (List.mem_append_right _ q), (r.dr i b (by rw [hA]; exact List.mem_cons_of_mem _ z)).2⟩
      · exact dA b z
  obtain ⟨v, hv', q⟩ := r.sl i s hs
  rw [hv] at hv'
  cases hv'
  have ok : SlotOk Z (upd H a o') S O.L (O.P i) (s.sw d') (.ref a) (a :: B') := by
    cases s with
    | own d => exact own
    | io d => exact ⟨own, q.2⟩
    | lent d => cases hm
  have hi : i < (ρ.set i none).length := by rw [List.length_set]; exact (List.getElem?_eq_some_iff.mp hs).1
  have r4 := r3.put (σ' := σ) ok nB'' dB hi rfl hv fun _ _ => rfl
  rw [List.set_set] at r4
  exact ⟨⟨_, r4⟩, fun b hb => upd_ne fun z => by subst z; exact hb.elim aR.1 aR.2⟩
theorem a9q {i : Nat} {s : Slot} {As : Nat → List Addr} (r : RelA K Z O H S R ρ σ As) (hs : ρ[i]? = some (some s)) (hm : s.may = true) : ∃ v, σ[i]? = some (some v) ∧ Own Z H S s.d v (As i) := by
  obtain ⟨v, hv, q⟩ := r.sl i s hs
  refine ⟨v, hv, ?_⟩
  cases s with
  | own d => exact q
  | io d => exact q.1
  | lent d => cases hm
theorem OwnL.append {d : D} {v : V} {A' : List Addr} (h : Own Z H S d v A') : ∀ {ds : List D} {vs : List V} {B : List Addr}, OwnL Z H S ds vs B → OwnL Z H S (ds ++ [d]) (vs ++ [v]) (B ++ A')
  | [], _, _, h0 => by
    obtain ⟨rfl, rfl⟩ := h0
    exact ⟨v, [], A', [], rfl, by simp, h, rfl, rfl⟩
  | x :: ds, _, _, h0 => by
    obtain ⟨w, r, A1, A2, rfl, rfl, h1, h2⟩ := h0
    exact ⟨w, r ++ [v], A1, A2 ++ A', rfl, by simp, h1, OwnL.append h h2⟩
theorem OwnL.set {d : D} {v : V} {A' : List Addr} (h : Own Z H S d v A') (nA : A'.Nodup) : ∀ {ds : List D} {vs : List V} {B : List Addr} (n : Nat), OwnL Z H S ds vs B → B.Nodup → (∀ b ∈ B, b ∉ A') →
    ∃ B', OwnL Z H S (ds.set n d) (vs.set n v) B' ∧ B'.Nodup ∧ ∀ b ∈ B', b ∈ B ∨ b ∈ A'
  | [], _, _, n, h0, _, _ => by
    obtain ⟨rfl, rfl⟩ := h0
    exact ⟨[], ⟨rfl, rfl⟩, List.nodup_nil, fun _ hb => nomatch hb⟩
  | x :: ds, _, _, 0, h0, nB, dj => by
    obtain ⟨w, r, A1, A2, rfl, rfl, h1, h2⟩ := h0
    obtain ⟨_, n2, _⟩ := List.nodup_append.mp nB
    refine ⟨A' ++ A2, ⟨v, r, A', A2, rfl, rfl, h, h2⟩, List.nodup_append.mpr ⟨nA, n2, fun a ha b hb z => dj b (List.mem_append_right _ hb) (z ▸ ha)⟩, fun b hb => ?_⟩
    exact (List.mem_append.mp hb).elim .inr fun z => .inl (List.mem_append_right _ z)
  | x :: ds, _, _, n + 1, h0, nB, dj => by
    obtain ⟨w, r, A1, A2, rfl, rfl, h1, h2⟩ := h0
    obtain ⟨n1, n2, dd⟩ := List.nodup_append.mp nB
    obtain ⟨B', b1, b2, b3⟩ := OwnL.set h nA n h2 n2 fun b hb => dj b (List.mem_append_right _ hb)
    refine ⟨A1 ++ B', ⟨w, _, A1, B', rfl, rfl, h1, b1⟩, List.nodup_append.mpr ⟨n1, b2, fun a ha b hb z => ?_⟩, fun b hb => ?_⟩
    · subst z
      rcases b3 a hb with q | q
      · exact dd a ha a q rfl
      · exact dj a (List.mem_append_left _ ha) q
    · rcases List.mem_append.mp hb with hb | hb
      · exact .inl (List.mem_append_left _ hb)
      · exact (b3 b hb).imp (List.mem_append_right _) id
end
def u6 (ρ : Env) (i : Nat) : Option Slot := match ρ[i]? with | some (some s) => some s | _ => none
def ao7 (i : Nat) (f : M D) : M D := fun ρ => match u6 ρ i with
  | some s0 => if a7h s0.d = true then M.bind f (fun y ρ1 => match u6 ρ1 i with
    | some s => if s.may = true then (match s.d with | .lst true ds => if ds.length < 1000000 then .ok .non (ρ1.set i (some (s.sw (.lst true (ds ++ [y]))))) else .bad | _ => .bad) else .bad
    | none => .bad) ρ else .bad
  | none => .bad
theorem a0s {ρ : Env} {i : Nat} {s : Slot} (h : u6 ρ i = some s) : ρ[i]? = some (some s) := by
  unfold u6 at h
  split at h
  · rename_i e; cases h; exact e
  · cases h
section
variable {X : Cx} {Z : Zt} {W : WX}
theorem a4t (i : Nat) {x : Str} {e : Expr} {f : M D} {px apos cpos : Pos} (he : SE X Z W e f) (hN : X.N[i]? = some x := by rfl) (hv : Vis X.env.scope x := by first | exact Or.inl rfl | exact Or.inr (Or.inl rfl) | exact Or.inr (Or.inr rfl)) (hd : (x == ("__debug__" : Str)) = false := by decide)
    (hcd : (x == ("__classdict__" : Str)) = false := by decide) (hbase : attributeBase (.Name x px) "append" X.env (eval (.Name x px) X.env) = eval (.Name x px) X.env := by rfl)
    (hfew : ((backTo cpos (starEach [e] X.env)).all (fun x => !x.1) && (backToKw cpos (keywordEach [] X.env)).all (fun x => x.1.isSome) && decide (([e] : List Expr).length + ([] : List Keyword).length + (if ([] : List Keyword).isEmpty then 0 else 1) < 30)) = true := by rfl)
    (hline : (apos.endLine == cpos.line) = true := by rfl) (hst : starEach [e] X.env = (false, eval e X.env) :: starEach [] X.env := by rfl) (hplain : (backTo cpos (starEach [] X.env)).any (·.1) = false := by rfl) :
    SE X Z W (.Call (.Attribute (.Name x px) "append" apos) [e] [] cpos) (ao7 i f) := by
  obtain ⟨t, h1, h2⟩ := he
  refine ⟨_, pe_bm PySem.F.plainAttrs_list PySem.F.slot_list_append PySem.F.type_list_append (r := rAppend) mt_append (pe_var hN hv hd hcd) (pa_cons h1 pa_nil hst) hbase hfew hline hst hplain, fun O H S R ρ σ Q r h => ?_⟩
  unfold ao7 at h
  cases e0 : u6 ρ i with
  | none => rw [e0] at h; exact h.elim
  | some s0 =>
    rw [e0] at h
    simp only at h
    split at h
    case isFalse => exact h.elim
    case isTrue hL =>
    obtain ⟨v, hv, vw⟩ := r.slot (a0s e0)
    have hl : ∃ a xs, v = .ref a ∧ SqL X.K H a xs := by
      cases hd0 : s0.d with
      | lst o ds => rw [hd0] at vw; obtain ⟨a, vs, rfl, ha, _⟩ := vw.lst r.inv; exact ⟨a, vs, rfl, SqL.of ha⟩
      | _ => rw [hd0] at hL; cases hL
    obtain ⟨a, xs, rfl, hq⟩ := hl
    refine ⟨_, hv, .inl ⟨rfl, xs, hq⟩, ?_⟩
    refine h2 O H S R ρ σ _ r ?_
    unfold M.bind at h
    cases e1 : f ρ with
    | bad => rw [e1] at h; exact h.elim
    | ex x ρ1 => rw [e1] at h; exact h
    | ok y ρ1 =>
      rw [e1] at h
      intro w H1 S1 A l q nd dj r1 f1
      simp only at h
      cases e2 : u6 ρ1 i with
      | none => rw [e2] at h; exact h.elim
      | some s =>
        rw [e2] at h
        simp only at h
        split at h
        case isFalse => exact h.elim
        case isTrue hm =>
        split at h
        case h_2 => exact h.elim
        case h_1 ds hds =>
        split at h
        case isFalse => exact h.elim
        case isTrue hlen =>
        obtain ⟨As, r1⟩ := r1
        obtain ⟨v', hv', own⟩ := a9q r1 (a0s e2) hm
        rw [hv] at hv'
        cases hv'
        rw [hds] at own
        obtain ⟨a', vs, B, ea, eA, ha, sa, oL⟩ := own
        cases ea
        obtain ⟨k1, k2, k3, k4⟩ := a7p r1 (a0s e2) hm hv eA (fun o u z => by rw [ha] at z; cases z) dj
        have hlv := oL.len
        refine ⟨a, vs, w, rfl, rfl, ha, Nat.lt_of_lt_of_le (by omega) (a0r (Nat.le_refl 1000000)), ?_⟩
        have memA := Own.mem y q
        obtain ⟨r5, f5⟩ := k4 (.lst (vs ++ [w])) (.lst true (ds ++ [y])) (B ++ A) (List.nodup_append.mpr ⟨k2, nd, fun a ha b hb z => (k1 a ha).2 (z ▸ hb)⟩) (fun b hb => List.mem_append.mp hb)
          ⟨a, vs ++ [w], B ++ A, rfl, rfl, upd_same, sa, OwnL.keep (Le.refl S1) _ (OwnL.append q oL) fun b hb => ⟨upd_ne fun z => by subst z; exact (List.mem_append.mp hb).elim (fun z => (k1 _ z).1 rfl) k3, (List.mem_append.mp hb).elim (fun z => (OwnL.mem ds oL b z).1) fun z => (memA b z).1⟩⟩
        exact h .non _ S1 [] l ⟨rfl, rfl⟩ List.nodup_nil (fun _ hb => nomatch hb) r5 (f1.trans f5)
end
def a7g (tk : Bool) : DK → Bool | .k _ => !tk | .t _ => tk
def a7c : List DK → DK → List DK
  | k :: ks, q => if k = q then k :: ks else k :: a7c ks q
  | [], q => [q]
def a4c : List DK → List D → DK → D → List D
  | k :: ks, v :: vs, q, y => if k = q then y :: vs else v :: a4c ks vs q y
  | _, _, _, y => [y]
def ad8 : D → D → D → Option D
  | .lst true ds, .int j, y => (match ixN ds.length j with | some n => some (.lst true (ds.set n y)) | none => none)
  | .dic true tk ks vs, k, y => (match keyD k with | some q => if a7g tk q = true ∧ ks.length < 1000000 then some (.dic true tk (a7c ks q) (a4c ks vs q y)) else none | none => none)
  | _, _, _ => none
theorem am5 {c k y d' : D} (e : ad8 c k y = some d') : (∃ ds j n, c = .lst true ds ∧ k = .int j ∧ ixN ds.length j = some n ∧ d' = .lst true (ds.set n y)) ∨
    ∃ tk ks vs q, c = .dic true tk ks vs ∧ keyD k = some q ∧ a7g tk q = true ∧ ks.length < 1000000 ∧ d' = .dic true tk (a7c ks q) (a4c ks vs q y) := by
  cases c with
  | lst o ds =>
    cases o with
    | false => cases e
    | true =>
      cases k with
      | int j =>
        simp only [ad8] at e
        split at e
        · rename_i n hn; cases e; exact .inl ⟨ds, j, n, rfl, rfl, hn, rfl⟩
        · cases e
      | _ => cases e
  | dic o tk ks vs =>
    cases o with
    | false => cases e
    | true =>
      simp only [ad8] at e
      split at e
      · rename_i q hq
        split at e
        · rename_i ht; cases e; exact .inr ⟨tk, ks, vs, q, rfl, hq, ht.1, ht.2, rfl⟩
        · cases e
      · cases e
  | _ => cases e
def az3 (i : Nat) (g f : M D) : C := a8r f fun y => fun ρ => match u6 ρ i with
  | some _ => a8r g (fun k ρ2 => match u6 ρ2 i with
    | some s => if s.may = true then (match ad8 s.d k y with | some d' => .nx (ρ2.set i (some (s.sw d'))) | none => .bad) else .bad
    | none => .bad) ρ
  | none => .bad
section
variable {K : PySem.W.Frag} {Z : Zt} {O : Hold} {H : Hp} {S : Reg} {R A : List Addr} {σ : L2.St} {ρ : Env}
theorem OwnL.putK {κ : Type} [DecidableEq κ] (c : κ → DK) (hc : ∀ a b, c a = c b → a = b) {q : κ} {y : D} {v : V} {A' : List Addr} (h : Own Z H S y v A') (nA : A'.Nodup) : ∀ {kk : List κ} {ds : List D} {vs : List V} {B : List Addr}, kk.length = vs.length → kk.Nodup → OwnL Z H S ds vs B → B.Nodup → (∀ b ∈ B, b ∉ A') →
    ∃ (kk' : List κ) (vs' : List V) (B' : List Addr), a7c (kk.map c) (c q) = kk'.map c ∧ kk'.Nodup ∧ kk'.length = vs'.length ∧ L2.putK (kk.zip vs) q v = kk'.zip vs' ∧ OwnL Z H S (a4c (kk.map c) ds (c q) y) vs' B' ∧ B'.Nodup ∧ (∀ b ∈ B', b ∈ B ∨ b ∈ A') ∧ (∀ k ∈ kk', k ∈ kk ∨ k = q)
  | [], [], vs, B, hl, hn, h0, nB, dj => by
    obtain ⟨rfl, rfl⟩ := h0
    exact ⟨[q], [v], A', rfl, by simp, rfl, rfl, ⟨v, [], A', [], rfl, by simp, h, rfl, rfl⟩, nA, fun b hb => .inr hb, by simp⟩
  | [], d :: ds, vs, B, hl, hn, h0, nB, dj => by
    obtain ⟨w, r, A1, A2, rfl, _⟩ := h0
    cases hl
  | k :: kk, [], vs, B, hl, hn, h0, nB, dj => by
    obtain ⟨rfl, rfl⟩ := h0
    cases hl
  | k :: kk, d :: ds, vs, B, hl, hn, h0, nB, dj => by
    obtain ⟨w, r, A1, A2, rfl, rfl, h1, h2⟩ := h0
    obtain ⟨n1, n2, dd⟩ := List.nodup_append.mp nB
    obtain ⟨nk, nks⟩ := List.nodup_cons.mp hn
    have hl' : kk.length = r.length := by simpa using hl
    by_cases hk : k = q
    · subst hk
      refine ⟨k :: kk, v :: r, A' ++ A2, ?_, hn, by simp [hl'], ?_, ?_, List.nodup_append.mpr ⟨nA, n2, fun a ha b hb z => dj b (List.mem_append_right _ hb) (z ▸ ha)⟩, fun b hb => (List.mem_append.mp hb).elim .inr fun z => .inl (List.mem_append_right _ z), fun x hx => .inl hx⟩
      · simp [a7c]
      · have any : (((k, w) :: kk.zip r).any fun kv => decide (kv.1 = k)) = true := by simp
        show L2.putK ((k, w) :: kk.zip r) k v = (k, v) :: kk.zip r
        unfold L2.putK
        rw [if_pos any, List.map_cons, if_pos rfl]
        refine congrArg (List.cons (k, v)) ?_
        have : ∀ x ∈ kk.zip r, (if x.1 = k then (x.1, v) else x) = x := fun x hx => by
          have hne : ¬ x.1 = k := fun z => nk (by rw [← z]; exact (List.of_mem_zip (a := x.1) (b := x.2) hx).1)
          rw [if_neg hne]
        rw [List.map_congr_left this, List.map_id']
      · rw [List.map_cons]
        unfold a4c
        rw [if_pos rfl]
        exact ⟨v, r, A', A2, rfl, rfl, h, h2⟩
    · obtain ⟨kk', vs', B', e1, e2, e3, e4, e5, e6, e7, e8⟩ := OwnL.putK c hc (q := q) h nA hl' nks h2 n2 fun b hb => dj b (List.mem_append_right _ hb)
      refine ⟨k :: kk', w :: vs', A1 ++ B', ?_, List.nodup_cons.mpr ⟨fun z => (e8 k z).elim nk hk, e2⟩, by simp [e3], ?_, ?_, List.nodup_append.mpr ⟨n1, e6, fun a ha b hb z => ?_⟩, fun b hb => ?_, fun x hx => ?_⟩
      · rw [List.map_cons, List.map_cons]
        show (if c k = c q then _ else _) = _
        rw [if_neg fun z => hk (hc _ _ z), e1]
      · rw [List.zip_cons_cons, List.zip_cons_cons, ← e4]
        unfold L2.putK
        rw [List.any_cons]
        have : decide ((k, w).1 = q) = false := decide_eq_false hk
        rw [this, Bool.false_or]
        split
        · rw [List.map_cons, if_neg hk]
        · rw [List.cons_append]
      · rw [List.map_cons]
        unfold a4c
        rw [if_neg fun z => hk (hc _ _ z)]
        exact ⟨w, vs', A1, B', rfl, rfl, h1, e5⟩
      · subst z
        rcases e7 a hb with q | q
        · exact dd a ha a q rfl
        · exact dj a (List.mem_append_left _ ha) q
      · rcases List.mem_append.mp hb with hb | hb
        · exact .inl (List.mem_append_left _ hb)
        · exact (e7 b hb).imp (List.mem_append_right _) id
      · rcases List.mem_cons.mp hx with rfl | hx
        · exact .inl List.mem_cons_self
        · exact (e8 x hx).imp (List.mem_cons_of_mem _) id
end
def b7s : TSet := fun o i v H Q => rSetL o i v H Q ∨ ∃ a H', o = .ref a ∧ DPut H a i v H' ∧ Q H'
section
variable {X : Cx} {Z : Zt} {W : WX}
theorem b3b (hu : X.A.units + 1 < cLine) : PSet X b7s := by
  intro pins s σ H o i v ov iv u Q I ro ri rv h
  rcases h with h | ⟨a, H', rfl, g, q⟩
  · exact set_list pins s σ H o i v ov iv u Q I ro ri rv h
  · obtain rfl : ov = Value.ref a := ro
    exact d_setItem hu I g ri rv fun s' I' => ⟨H', I', q⟩
theorem a3b (i : Nat) (hu : X.A.units + 1 < cLine) {x : Str} {ke e : Expr} {f g : M D} {px spos pos : Pos} (he : SE X Z W e f) (hk : SE X Z W ke g) (hN : X.N[i]? = some x := by rfl) (hv : Vis X.env.scope x := by first | exact Or.inl rfl | exact Or.inr (Or.inl rfl) | exact Or.inr (Or.inr rfl)) (hd : (x == ("__debug__" : Str)) = false := by decide)
    (hcd : (x == ("__classdict__" : Str)) = false := by decide) (ha : ∀ v, assign (.Subscript (.Name x px) ke spos) X.env v = (do let ov ← holding [v] (eval (.Name x px) X.env); let iv ← holding [v, ov] (eval ke X.env); standAt spos; holding [v, ov, iv] (setItem ov iv v); release [v, ov, iv] []) := by intro _; rfl)
    (hs : swapsWithSole [.Subscript (.Name x px) ke spos] e pos.line X.env = pure false := by rfl) (hw : swappedStores [.Subscript (.Name x px) ke spos] e X.env = pure none := by rfl) (h1 : (assignEach [.Subscript (.Name x px) ke spos] X.env).map (·.2) = [assign (.Subscript (.Name x px) ke spos) X.env] := by rfl) :
    SS X Z W (.Assign [.Subscript (.Name x px) ke spos] e pos) (az3 i g f) := by
  obtain ⟨t, t1, t2⟩ := he
  obtain ⟨u, u1, u2⟩ := hk
  refine ⟨_, ps_asg t1 (pg_sub (pe_var hN hv hd hcd) u1 (b3b hu) ha) hs hw h1, ?_⟩
  refine a5o (k := fun v σ H E => ∃ ov, σ[i]? = some (some ov) ∧ u σ H fun iv H2 => b7s ov iv v H2 fun H3 => E.nx σ H3) t2 ?_
  intro O H S R ρ σ E y v A r q nd dj h
  cases e0 : u6 ρ i with
  | none => rw [e0] at h; exact h.elim
  | some s0 =>
    rw [e0] at h
    obtain ⟨ov, hov, _⟩ := r.slot (a0s e0)
    refine ⟨ov, hov, u2 O H S (A ++ R) ρ σ _ r ?_⟩
    unfold a8r at h
    cases e1 : g ρ with
    | bad => rw [e1] at h; exact h.elim
    | ex x ρ1 => rw [e1] at h; exact (h σ).weak (Le.refl _) (Fr.refl _ _ _)
    | ok kd ρ2 =>
      rw [e1] at h
      intro iv H1 S1 A1 l1 q1 nd1 dj1 r1 f1
      simp only at h
      cases e2 : u6 ρ2 i with
      | none => rw [e2] at h; exact h.elim
      | some s =>
        rw [e2] at h
        simp only at h
        split at h
        case isFalse => exact h.elim
        case isTrue hm =>
        cases e3 : ad8 s.d kd y with
        | none => rw [e3] at h; exact h.elim
        | some d' =>
          rw [e3] at h
          have kview : View Z H1 S1 iv kd := ⟨_, q1⟩
          have qy : Own Z H1 S1 y v A := Own.keep l1 y q fun b hb => ⟨f1 b (.inl (List.mem_append_left _ hb)), (r1.rest b (.inl (List.mem_append_right _ (List.mem_append_left _ hb)))).1⟩
          have inv := r1.inv
          obtain ⟨As, r2⟩ := r1.drop
          obtain ⟨v', hv', own⟩ := a9q r2 (a0s e2) hm
          rw [hov] at hv'
          cases hv'
          have memA := Own.mem y qy
          rcases am5 e3 with ⟨ds, j, n, hds, rfl, hn, rfl⟩ | ⟨tk, ks, ds, kq, hds, hkq, ht1, ht2, rfl⟩
          · rw [hds] at own
            obtain ⟨a, vs, B, rfl, eA, ha, sa, oL⟩ := own
            obtain ⟨k1, k2, k3, k4⟩ := a7p r2 (a0s e2) hm hov eA (fun o u z => by rw [ha] at z; cases z) dj
            obtain rfl := kview.int
            obtain ⟨B', b1, b2, b3⟩ := OwnL.set qy nd n oL k2 fun b hb => (k1 b hb).2
            refine .inl ⟨a, vs, j, n, rfl, rfl, ha, by rw [oL.len]; exact hn, ?_⟩
            obtain ⟨r5, f5⟩ := k4 (.lst (vs.set n v)) (.lst true (ds.set n y)) B' b2 b3 ⟨a, _, B', rfl, rfl, upd_same, sa, OwnL.keep (Le.refl S1) _ b1 fun b hb => ⟨upd_ne fun z => by subst z; exact (b3 _ hb).elim (fun z => (k1 _ z).1 rfl) k3, (b3 b hb).elim (fun z => (OwnL.mem ds oL b z).1) fun z => (memA b z).1⟩⟩
            exact h σ _ S1 l1 r5 (Fr.trans (Fr.drop f1) f5)
          · have htag : a7g tk kq = true ∧ ks.length < 1000000 := ⟨ht1, ht2⟩
            rw [hds] at own
            obtain ⟨a, vs, B, rfl, eA, ha, sa, oL⟩ := own
            have nf : ∀ o u, H1 a ≠ some (.frz o u) := fun o u z => by
              rcases ha with ⟨_, _, _, _, _, ha⟩ | ⟨_, _, _, _, ha⟩ <;> rw [ha] at z <;> cases z
            obtain ⟨k1, k2, k3, k4⟩ := a7p r2 (a0s e2) hm hov eA nf dj
            have fin : ∀ (o' : HO) (B' : List Addr) (vs' : List V), B'.Nodup → (∀ b ∈ B', b ∈ B ∨ b ∈ A) → OwnL Z H1 S1 (a4c ks ds kq y) vs' B' → DicAt (upd H1 a o') a tk (a7c ks kq) vs' → E.nx σ (upd H1 a o') := fun o' B' vs' n' m' oo dd => by
              obtain ⟨r5, f5⟩ := k4 o' (.dic true tk (a7c ks kq) (a4c ks ds kq y)) B' n' m' ⟨a, vs', B', rfl, rfl, dd, sa, OwnL.keep (Le.refl S1) _ oo fun b hb => ⟨upd_ne fun z => by subst z; exact (m' _ hb).elim (fun z => (k1 _ z).1 rfl) k3, (m' b hb).elim (fun z => (OwnL.mem ds oL b z).1) fun z => (memA b z).1⟩⟩
              exact h σ _ S1 l1 r5 (Fr.trans (Fr.drop f1) f5)
            rcases ha with ⟨rfl, kk, rfl, hnd, hl, ha⟩ | ⟨rfl, xs, rfl, hl, ha⟩
            · have hz : (kk.zip vs).length < sizeLine := by
                rw [List.length_zip, hl, Nat.min_self, ← hl]
                rw [List.length_map] at htag
                exact Nat.lt_of_lt_of_le htag.2 (a0r (Nat.le_refl _))
              cases kq with
              | t _ => simp [a7g] at htag
              | k kq =>
                obtain ⟨kk', vs', B', p1, p2, p3, p4, p5, p6, p7, _⟩ := OwnL.putK .k (fun a b z => by cases z; rfl) (q := kq) qy nd hl hnd oL k2 fun b hb => (k1 b hb).2
                refine .inr ⟨a, _, rfl, .inl ⟨kk.zip vs, kq, ha, ?_, hz, rfl⟩, fin _ B' vs' p6 p7 p5 (.inl ⟨rfl, kk', p1, p2, p3, by rw [upd_same, p4]⟩)⟩
                cases kd with
                | int i => cases hkq; exact kview.int
                | str x => cases hkq; exact kview.str
                | _ => cases hkq
            · cases kq with
              | k _ => simp [a7g] at htag
              | t kq =>
                cases kd with
                | int i => cases hkq
                | str x => cases hkq
                | _ => cases hkq
end
end Dv
namespace Dv
open PySem L2 PySem.Spec PyProof.Rows
def SGs (X : Cx) (Z : Zt) (W : WX) (tg : List Expr) (g : List D → C) : Prop :=
  ∃ t, PGs X tg t ∧ ∀ O H S R ρ σ ds vs q, Rel X.K Z O H S R ρ σ → ShL Z S vs ds → SPost X.K Z O W H S R (a4e q) (g ds ρ) → t vs σ H q
def a5x : List D → C | [] => nxC | _ => fun _ => .bad
def a0f (g : D → C) (gs : List D → C) : List D → C | d :: ds => a09 (g d) (gs ds) | [] => fun _ => .bad
def a9a (n : Nat) (gs : List D → C) : D → C
  | .tup ds => fun ρ => if ds.length = n then gs ds ρ else .bad
  | .pr ds => fun ρ => if ds.length = n then gs ds ρ else .bad
  | _ => fun _ => .bad
def NxB (g : D → C) : Prop := ∀ d ρ, (∃ ρ', g d ρ = .nx ρ') ∨ g d ρ = .bad
def b9e (g : List D → C) : Prop := ∀ d ρ, (∃ ρ', g d ρ = .nx ρ') ∨ g d ρ = .bad
theorem m9 (i : Nat) : NxB (putS i) := a9e i
theorem a3x : b9e a5x := fun ds ρ => by
  cases ds with
  | nil => exact .inl ⟨ρ, rfl⟩
  | cons => exact .inr rfl
theorem v8 {g : D → C} {gs : List D → C} (h : NxB g) (hs : b9e gs) : b9e (a0f g gs) := fun ds ρ => by
  cases ds with
  | nil => exact .inr rfl
  | cons d ds =>
    show (∃ ρ', a09 (g d) (gs ds) ρ = .nx ρ') ∨ a09 (g d) (gs ds) ρ = .bad
    unfold a09
    rcases h d ρ with ⟨ρ1, e⟩ | e
    · rw [e]; exact hs ds ρ1
    · rw [e]; exact .inr rfl
theorem a3w {n : Nat} {gs : List D → C} (hs : b9e gs) : NxB (a9a n gs) := fun d ρ => by
  cases d with
  | tup ds =>
    show (∃ ρ', (if ds.length = n then gs ds ρ else .bad) = .nx ρ') ∨ (if ds.length = n then gs ds ρ else .bad) = .bad
    split
    · exact hs ds ρ
    · exact .inr rfl
  | pr ds =>
    show (∃ ρ', (if ds.length = n then gs ds ρ else .bad) = .nx ρ') ∨ (if ds.length = n then gs ds ρ else .bad) = .bad
    split
    · exact hs ds ρ
    · exact .inr rfl
  | _ => exact .inr rfl
section
variable {X : Cx} {Z : Zt} {W : WX}
theorem a6x : SGs X Z W [] a5x := ⟨_, pgs_nil, fun O H S R ρ σ ds vs q r sh h => by
  cases sh with
  | nil => exact ⟨rfl, h σ H S (Le.refl S) r (Fr.refl _ _ _)⟩
  | cons => exact h.elim⟩
theorem a0i {e : Expr} {es : List Expr} {g : D → C} {gs : List D → C} (hg : SG X Z W e g) (hn : NxB g) (hgs : SGs X Z W es gs) (hs : (assignEach (e :: es) X.env).map (·.2) = assign e X.env :: (assignEach es X.env).map (·.2) := by rfl) : SGs X Z W (e :: es) (a0f g gs) := by
  obtain ⟨t, t1, t2⟩ := hg
  obtain ⟨u, u1, u2⟩ := hgs
  refine ⟨_, pgs_cons t1 u1 hs, fun O H S R ρ σ ds vs q r sh h => ?_⟩
  cases sh with
  | nil => exact h.elim
  | cons a b =>
    rename_i v d vr dr
    refine ⟨v, vr, rfl, t2 O H S R ρ σ d v [] _ r (Own.of_sh a (a.un r.inv)) List.nodup_nil (fun _ hb => nomatch hb) ?_⟩
    have h : SPost X.K Z O W H S R (a4e q) (a09 (g d) (gs dr) ρ) := h
    unfold a09 at h
    rcases hn d ρ with ⟨ρ1, e⟩ | e
    · rw [e] at h ⊢
      exact fun σ' H' S' l r' f => u2 O H' S' R ρ1 σ' dr vr q r' (ShL.mono b l) (SPost.weak h l f)
    · rw [e] at h; exact h.elim
theorem a8y {es : List Expr} {k : Nat} {gs : List D → C} {pos : Pos} (n : Nat) (hc : X.calm = true) (h : SGs X Z W es gs) (hn : (assignEach es X.env).length = n := by rfl) (hst : (assignEach es X.env).findIdx? (·.1) = none := by rfl) : SG X Z W (.Tuple es k pos) (a9a n gs) := by
  obtain ⟨t, t1, t2⟩ := h
  refine ⟨_, pg_tup hc t1 hn hst, fun O H S R ρ σ d v A q r own nd dj h => ?_⟩
  cases d with
  | tup ds =>
    have h : SPost X.K Z O W H S R (a4e q) (if ds.length = n then gs ds ρ else .bad) := h
    split at h
    · rename_i hl
      obtain ⟨a, vs, rfl, ha, hv⟩ := r.inv.tup own.2
      exact ⟨a, vs, rfl, ha.sq, (u5 hv).trans hl, t2 O H S R ρ σ ds vs q r.drop hv h⟩
    · exact h.elim
  | pr ds =>
    have h : SPost X.K Z O W H S R (a4e q) (if ds.length = n then gs ds ρ else .bad) := h
    split at h
    · rename_i hl
      obtain ⟨a, vs, rfl, ha, hv⟩ := r.inv.pr own.2
      exact ⟨a, vs, rfl, SqT.of ha, (u5 hv).trans hl, t2 O H S R ρ σ ds vs q r.drop hv h⟩
    · exact h.elim
  | _ => exact h.elim
theorem b05 {O : Hold} {H : Hp} {S : Reg} {R : List Addr} {E : Ends} {g : D → C} {d : D} {ρ : Env} (hn : NxB g) (h : SPost X.K Z O W H S R E (g d ρ)) : SPost X.K Z O W H S R (a4e E.nx) (g d ρ) := by
  rcases hn d ρ with ⟨ρ1, e⟩ | e
  · rw [e] at h ⊢; exact h
  · rw [e] at h; exact h.elim
theorem ac6 {tg e : Expr} {g : D → C} {f : M D} {pos : Pos} (hg : SG X Z W tg g) (hn : NxB g) (he : SE X Z W e f) (hs : swapsWithSole [tg] e pos.line X.env = pure false := by rfl) (hw : swappedStores [tg] e X.env = pure none := by rfl) (h1 : (assignEach [tg] X.env).map (·.2) = [assign tg X.env] := by rfl) :
    SS X Z W (.Assign [tg] e pos) (a8r f g) := by
  obtain ⟨t, t1, t2⟩ := he
  obtain ⟨u, u1, u2⟩ := hg
  exact ⟨_, ps_asg t1 u1 hs hw h1, a5o (k := fun v σ H E => u v σ H E.nx) t2 fun O H S R ρ σ E d v A r q nd dj h => u2 O H S R ρ σ d v A _ r q nd dj (b05 hn h)⟩
def b4k (i j : Nat) (f : M (List Opd)) : C := fun ρ => match f ρ with
  | .ok os ρ' => (match vas os with | some [x, y] => a09 (putS i x) (putS j y) ρ' | _ => .bad)
  | .ex x ρ' => .ex x ρ'
  | .bad => .bad
theorem ar8 (i j : Nat) {x y : Str} {a b : Expr} {f : M (List Opd)} {px py pt pos : Pos} {kt k2 pt2} (hc : X.calm = true) (hN : X.N.Nodup) (ha : SA X Z W [a, b] f) (hi : X.N[i]? = some x := by rfl) (hj : X.N[j]? = some y := by rfl) (hij : i ≠ j := by decide)
    (hx : X.env.scope.names.lookup x = some .local := by rfl) (hy : X.env.scope.names.lookup y = some .local := by rfl) (hw : swappedStores [.Tuple [.Name x px, .Name y py] kt pt] (.Tuple [a, b] k2 pt2) X.env = pure (some [x, y]) := by rfl)
    (hs : swapsWithSole [.Tuple [.Name x px, .Name y py] kt pt] (.Tuple [a, b] k2 pt2) pos.line X.env = pure false := by rfl) : SS X Z W (.Assign [.Tuple [.Name x px, .Name y py] kt pt] (.Tuple [a, b] k2 pt2) pos) (b4k i j f) := by
  obtain ⟨t, t1, t2⟩ := ha
  refine ⟨_, ps_par hc hN hi hj hij hx hy t1 hw hs, fun O H S R ρ σ E r h => t2 O H S R ρ σ _ r ?_⟩
  unfold b4k at h
  cases e : f ρ with
  | bad => rw [e] at h; exact h.elim
  | ex x ρ1 => rw [e] at h; exact h σ
  | ok os ρ1 =>
    rw [e] at h
    intro vs H1 S1 A l q nd dj r1 f1
    simp only at h
    split at h
    · rename_i d1 d2 hv
      have qo := a6c q hv
      obtain ⟨v, vr, A1, A2', rfl, rfl, o1, qo⟩ := qo
      obtain ⟨w, vr', A2, A3, rfl, rfl, o2, qo⟩ := qo
      obtain ⟨rfl, rfl⟩ := qo
      rw [List.append_nil] at nd dj r1
      obtain ⟨n1, n2, dd⟩ := List.nodup_append.mp nd
      refine ⟨v, w, rfl, ?_⟩
      have r2 : Rel X.K Z O H1 S1 (A1 ++ (A2 ++ R)) ρ1 σ := r1.perm fun b => by simp
      have h := SPost.weak h l f1
      unfold a09 at h
      rcases a9e i d1 ρ1 with ⟨ρ2, e2⟩ | e2
      · rw [e2] at h
        simp only at h
        refine a3a (X := X) (W := W) (E := a4e fun σ2 H2 => E.nx (σ2.set j (some w)) H2) r2 o1 n1 (fun b hb => ⟨fun z => (List.mem_append.mp z).elim (fun z => dd b hb b z rfl) (dj b (List.mem_append_left _ hb)).1, (dj b (List.mem_append_left _ hb)).2⟩) (by
          rw [e2]
          intro σ' H' S' l' r' f'
          have o2' : Own Z H' S' d2 w A2 := Own.keep l' d2 o2 fun b hb => ⟨f' b (.inl (List.mem_append_left _ hb)), (r'.rest b (.inl (List.mem_append_left _ hb))).1⟩
          exact a3a (X := X) (W := W) r' o2' n2 (fun b hb => dj b (List.mem_append_right _ hb)) (SPost.weak h l' (Fr.drop f')))
      · rw [e2] at h; exact h.elim
    · exact h.elim
end
theorem b0m : ∀ (vs : List Nat) (σ : L2.St) (i : Nat) (x : Option V), i ∈ vs → L2.wipe (σ.set i x) vs = L2.wipe σ vs := fun vs σ i x h => by
  apply List.ext_getElem?
  intro j
  by_cases hj : j ∈ vs
  · have key : ∀ (τ : L2.St), τ.length = σ.length → (L2.wipe τ vs)[j]? = if j < σ.length then some none else none := fun τ hτ => by
      by_cases hl : j < σ.length
      · rw [if_pos hl]
        have hl' : j < (L2.wipe τ vs).length := by rw [L2.wipe_length, hτ]; exact hl
        rw [List.getElem?_eq_getElem hl']
        cases e : (L2.wipe τ vs)[j] with
        | none => rfl
        | some v => exact absurd hj (L2.wipe_some (vs := vs) (σ := τ) (i := j) (x := v) (by rw [List.getElem?_eq_getElem hl', e])).2
      · rw [if_neg hl, List.getElem?_eq_none (by rw [L2.wipe_length, hτ]; omega)]
    rw [key _ (List.length_set ..), key σ rfl]
  · rw [L2.wipe_out hj, L2.wipe_out hj, List.getElem?_set_ne fun z => hj (by rw [← z]; exact h)]
def b1t (own : List Nat) (σ : L2.St) (q : L2.St → Hp → Prop) : Ends := a4e fun σ' H' => L2.wipe σ' own = L2.wipe σ own → q σ' H'
def SGw (X : Cx) (Z : Zt) (W : WX) (own : List Nat) (tg : Expr) (g : D → C) : Prop :=
  ∃ t, PG X tg t ∧ ∀ O H S R ρ σ d v A q, Rel X.K Z O H S (A ++ R) ρ σ → Own Z H S d v A → A.Nodup → (∀ b ∈ A, b ∉ R ∧ b ∉ O.L) → SPost X.K Z O W H S R (b1t own σ q) (g d ρ) → t v σ H q
def b9f (X : Cx) (Z : Zt) (W : WX) (own : List Nat) (tg : List Expr) (g : List D → C) : Prop :=
  ∃ t, PGs X tg t ∧ ∀ O H S R ρ σ ds vs q, Rel X.K Z O H S R ρ σ → ShL Z S vs ds → SPost X.K Z O W H S R (b1t own σ q) (g ds ρ) → t vs σ H q
section
variable {X : Cx} {Z : Zt} {W : WX} {own : List Nat}
theorem a0n (i : Nat) {x : Str} {pos : Pos} (hN : X.N.Nodup) (ho : i ∈ own := by decide) (hi : X.N[i]? = some x := by rfl) (hx : Loc X.env.scope x := by first | exact Or.inl rfl | exact Or.inr rfl) (hf : X.fn x = true ∨ X.env.scope.names.lookup x = some .local := by first | exact .inl rfl | exact .inr rfl) :
    SGw X Z W own (.Name x pos) (putS i) := ⟨_, pg_name hN hi hx hf, fun O H S R ρ σ d v A q r qq nd dj h => a3a (E := b1t own σ q) r qq nd dj h (b0m own σ i _ ho)⟩
theorem a7s : b9f X Z W own [] a5x := ⟨_, pgs_nil, fun O H S R ρ σ ds vs q r sh h => by
  cases sh with
  | nil => exact ⟨rfl, h σ H S (Le.refl S) r (Fr.refl _ _ _) rfl⟩
  | cons => exact h.elim⟩
theorem a2p {e : Expr} {es : List Expr} {g : D → C} {gs : List D → C} (hg : SGw X Z W own e g) (hn : NxB g) (hgs : b9f X Z W own es gs) (hs : (assignEach (e :: es) X.env).map (·.2) = assign e X.env :: (assignEach es X.env).map (·.2) := by rfl) : b9f X Z W own (e :: es) (a0f g gs) := by
  obtain ⟨t, t1, t2⟩ := hg
  obtain ⟨u, u1, u2⟩ := hgs
  refine ⟨_, pgs_cons t1 u1 hs, fun O H S R ρ σ ds vs q r sh h => ?_⟩
  cases sh with
  | nil => exact h.elim
  | cons a b =>
    rename_i v d vr dr
    have h : SPost X.K Z O W H S R (b1t own σ q) (a09 (g d) (gs dr) ρ) := h
    refine ⟨v, vr, rfl, t2 O H S R ρ σ d v [] _ r (Own.of_sh a (a.un r.inv)) List.nodup_nil (fun _ hb => nomatch hb) ?_⟩
    unfold a09 at h
    rcases hn d ρ with ⟨ρ1, e⟩ | e
    · rw [e] at h ⊢
      intro σ' H' S' l r' f hw
      refine u2 O H' S' R ρ1 σ' dr vr q r' (ShL.mono b l) ?_
      have h := SPost.weak h l f
      unfold b1t at h ⊢
      rw [hw]
      exact h
    · rw [e] at h; exact h.elim
theorem a97 {es : List Expr} {k : Nat} {gs : List D → C} {pos : Pos} (n : Nat) (hc : X.calm = true) (h : b9f X Z W own es gs) (hn : (assignEach es X.env).length = n := by rfl) (hst : (assignEach es X.env).findIdx? (·.1) = none := by rfl) : SGw X Z W own (.Tuple es k pos) (a9a n gs) := by
  obtain ⟨t, t1, t2⟩ := h
  refine ⟨_, pg_tup hc t1 hn hst, fun O H S R ρ σ d v A q r o nd dj h => ?_⟩
  cases d with
  | tup ds =>
    have h : SPost X.K Z O W H S R (b1t own σ q) (if ds.length = n then gs ds ρ else .bad) := h
    split at h
    · rename_i hl
      obtain ⟨a, vs, rfl, ha, hv⟩ := r.inv.tup o.2
      exact ⟨a, vs, rfl, ha.sq, (u5 hv).trans hl, t2 O H S R ρ σ ds vs q r.drop hv h⟩
    · exact h.elim
  | pr ds =>
    have h : SPost X.K Z O W H S R (b1t own σ q) (if ds.length = n then gs ds ρ else .bad) := h
    split at h
    · rename_i hl
      obtain ⟨a, vs, rfl, ha, hv⟩ := r.inv.pr o.2
      exact ⟨a, vs, rfl, SqT.of ha, (u5 hv).trans hl, t2 O H S R ρ σ ds vs q r.drop hv h⟩
    · exact h.elim
  | _ => exact h.elim
end
section
variable {K : PySem.W.Frag}
def rdE (K : PySem.W.Frag) (Z : Zt) (W : WX) (f : M D) : TE := fun σ H Q => ∃ O S R ρ, Rel K Z O H S R ρ σ ∧ EPost K Z O W H S R σ Q (f ρ)
def rdT (K : PySem.W.Frag) (Z : Zt) (W : WX) (f : M Bool) : TT := fun σ H Q => ∃ O S R ρ, Rel K Z O H S R ρ σ ∧ TPost K Z O W H S R σ Q (f ρ)
def rdG (K : PySem.W.Frag) (Z : Zt) (W : WX) (own : List Nat) (g : D → C) : TG := fun v σ H q => ∃ O S R ρ d A, Rel K Z O H S (A ++ R) ρ σ ∧ Own Z H S d v A ∧ A.Nodup ∧ (∀ b ∈ A, b ∉ R ∧ b ∉ O.L) ∧ SPost K Z O W H S R (b1t own σ q) (g d ρ)
theorem SE.pe {X : Cx} {Z : Zt} {W : WX} {e : Expr} {f : M D} (h : SE X Z W e f) : PE X e (rdE X.K Z W f) := by
  obtain ⟨t, h1, h2⟩ := h
  exact ⟨fun pins s σ H Q I ⟨O, S, R, ρ, r, p⟩ => h1.run pins s σ H Q I (h2 O H S R ρ σ Q r p)⟩
theorem ST.pt {X : Cx} {Z : Zt} {W : WX} {e : Expr} {f : M Bool} (h : ST X Z W e f) : PT X e (rdT X.K Z W f) := by
  obtain ⟨t, h1, h2⟩ := h
  exact ⟨fun pins s σ H Q I ⟨O, S, R, ρ, r, p⟩ => h1.run pins s σ H Q I (h2 O H S R ρ σ Q r p)⟩
theorem SGw.pg {X : Cx} {Z : Zt} {W : WX} {own : List Nat} {e : Expr} {g : D → C} (h : SGw X Z W own e g) : PG X e (rdG X.K Z W own g) := by
  obtain ⟨t, h1, h2⟩ := h
  exact ⟨fun pins s σ H v u Q I r ⟨O, S, R, ρ, d, A, r', o, n, dj, p⟩ => h1.run pins s σ H v u Q I r (h2 O H S R ρ σ d v A Q r' o n dj p)⟩
end
def a5u (ρ : Env) (own : List Nat) : Bool := own.all fun i => match ρ[i]? with | some none => true | some (some (.own d)) => !owned d | _ => false
def a1y (ρ : Env) : List Nat → Env
  | [] => ρ
  | i :: r => a1y (ρ.set i none) r
def a4m (ρ0 ρ : Env) : List Nat → Env
  | [] => ρ
  | i :: r => a4m ρ0 (ρ.set i (match ρ0[i]? with | some o => o | none => none)) r
def a2g (g : D → C) (tt : M Bool) (f : M D) (own : List Nat) : List D → List D → Env → Res (List D)
  | [], acc, ρ => .ok acc ρ
  | d :: ds, acc, ρ => match g d ρ with
    | .nx ρ1 => (match tt ρ1 with
      | .ok k ρ2 => if k = true then (match f ρ2 with
          | .ok y ρ3 => if acc.length < 1000000 then a2g g tt f own ds (acc ++ [y]) (a1y ρ3 own) else .bad
          | _ => .bad) else a2g g tt f own ds acc (a1y ρ2 own)
      | _ => .bad)
    | _ => .bad
def lcM (it : M (List D)) (g : D → C) (tt : M Bool) (f : M D) (own : List Nat) : M D := M.bind it fun ds ρ =>
  if a5u ρ own = true then (match a2g g tt f own ds [] (a1y ρ own) with
    | .ok acc ρ' => .ok (.lst true acc) (a4m ρ ρ' own)
    | _ => .bad) else .bad
def a8o : M Bool := fun ρ => .ok true ρ
section
variable {K : PySem.W.Frag} {Z : Zt} {O : Hold} {H : Hp} {S : Reg} {R A : List Addr} {σ σ' : L2.St} {ρ ρ0 : Env}
theorem Rel.resig (r : Rel K Z O H S R ρ σ) (hl : σ'.length = σ.length) (h : ∀ (i : Nat) (s : Slot), ρ[i]? = some (some s) → σ'[i]? = σ[i]?) : Rel K Z O H S R ρ σ' := by
  obtain ⟨As, r⟩ := r
  exact ⟨As, r.inv, by rw [hl, r.len], fun i s e => by rw [h i s e]; exact r.sl i s e, r.nil, r.nd, r.dj, r.dr, r.rest⟩
theorem Rel.forget (i : Nat) (r : Rel K Z O H S R ρ σ) : Rel K Z O H S R (ρ.set i none) σ := by
  obtain ⟨As, r⟩ := r
  exact Rel.drop (A := As i) ⟨_, r.take (i := i)⟩
theorem ai2 : ∀ (own : List Nat) {ρ : Env}, Rel K Z O H S R ρ σ → Rel K Z O H S R (a1y ρ own) σ
  | [], _, r => r
  | i :: own, _, r => ai2 own (r.forget i)
theorem a6i : ∀ (own : List Nat) (ρ : Env), (a1y ρ own).length = ρ.length
  | [], _ => rfl
  | i :: own, ρ => by unfold a1y; rw [a6i own, List.length_set]
theorem a4d : ∀ (own : List Nat) (ρ : Env) (i : Nat) (s : Slot), (a1y ρ own)[i]? = some (some s) → i ∉ own ∧ ρ[i]? = some (some s)
  | [], _, _, _, h => ⟨(fun z => nomatch z), h⟩
  | j :: own, ρ, i, s, h => by
    unfold a1y at h
    obtain ⟨h1, h2⟩ := a4d own _ i s h
    by_cases hj : j = i
    · subst hj
      by_cases hi : j < ρ.length
      · rw [List.getElem?_set_self hi] at h2; cases h2
      · rw [List.getElem?_eq_none (by rw [List.length_set]; omega)] at h2; cases h2
    · rw [List.getElem?_set_ne hj] at h2
      exact ⟨fun z => (List.mem_cons.mp z).elim (fun z => hj z.symm) h1, h2⟩
theorem aa5 : ∀ (vs : List Nat) (σ : L2.St) (i : Nat), i ∉ vs → (L2.wipe σ vs)[i]? = σ[i]? := fun vs σ i h => L2.wipe_out h
theorem b1v (own : List Nat) (r : Rel K Z O H S R ρ σ) : Rel K Z O H S R (a1y ρ own) (L2.wipe σ own) :=
  (ai2 own r).resig (L2.wipe_length σ own) fun i s e => aa5 own σ i (a4d own ρ i s e).1
theorem au9 {S0 : Reg} (l : Le S0 S) : ∀ (own : List Nat) {ρ : Env}, a5u ρ0 own = true → (∀ i ∈ own, ∀ d, ρ0[i]? = some (some (.own d)) → owned d = false → ∃ v, σ[i]? = some (some v) ∧ Sh Z S0 v d) → ρ0.length = ρ.length → Rel K Z O H S R ρ σ → Rel K Z O H S R (a4m ρ0 ρ own) σ
  | [], _, _, _, _, r => r
  | i :: own, ρ, hk, hv, hl, r => by
    unfold a4m
    have hk' : (match ρ0[i]? with | some none => true | some (some (.own d)) => !owned d | _ => false) = true ∧ a5u ρ0 own = true := by
      unfold a5u at hk
      rw [List.all_cons, Bool.and_eq_true] at hk
      exact hk
    refine au9 l own hk'.2 (fun j hj => hv j (List.mem_cons_of_mem _ hj)) (by rw [List.length_set]; exact hl) ?_
    have h1 := hk'.1
    cases e : ρ0[i]? with
    | none => rw [e] at h1; cases h1
    | some o =>
      cases o with
      | none => exact r.forget i
      | some s =>
        rw [e] at h1
        cases s with
        | own d =>
          have hd : owned d = false := by simpa using h1
          obtain ⟨v, hvi, hsh⟩ := hv i List.mem_cons_self d e hd
          obtain ⟨As, r⟩ := r
          have hi : i < ρ.length := hl ▸ (List.getElem?_eq_some_iff.mp e).1
          exact ⟨_, RelA.put (A := []) (R := R) (σ' := σ) (s := .own d) r (Own.of_sh (hsh.mono l) hd) List.nodup_nil (fun _ hb => nomatch hb) hi rfl hvi fun _ _ => rfl⟩
        | io d => cases h1
        | lent d => cases h1
end
section
variable {K : PySem.W.Frag} {Z : Zt} {O : Hold} {H : Hp} {S : Reg} {R A B : List Addr} {σ : L2.St} {ρ : Env}
theorem grow {p : Addr} {acc : List D} {accV : List V} {y : D} {v : V} (r : Rel K Z O H S (A ++ ((p :: B) ++ R)) ρ σ) (hp : H p = some (.lst accV)) (sp : S p = none) (oL : OwnL Z H S acc accV B) (nB : (p :: B).Nodup) (dB : ∀ b ∈ p :: B, b ∉ R ∧ b ∉ O.L)
    (oy : Own Z H S y v A) (nA : A.Nodup) (dA : ∀ b ∈ A, b ∉ (p :: B) ++ R ∧ b ∉ O.L) : OwnL Z (upd H p (.lst (accV ++ [v]))) S (acc ++ [y]) (accV ++ [v]) (B ++ A) ∧ (p :: (B ++ A)).Nodup ∧ (∀ b ∈ p :: (B ++ A), b ∉ R ∧ b ∉ O.L) ∧
      Rel K Z O (upd H p (.lst (accV ++ [v]))) S ((p :: (B ++ A)) ++ R) ρ σ ∧ Fr O R H (upd H p (.lst (accV ++ [v]))) := by
  obtain ⟨np, nB'⟩ := List.nodup_cons.mp nB
  have pA : p ∉ A := fun z => (dA p z).1 (by simp)
  have ne : ∀ b ∈ B ++ A, b ≠ p := fun b hb => by
    rintro rfl
    exact (List.mem_append.mp hb).elim np pA
  have o1 : OwnL Z (upd H p (.lst (accV ++ [v]))) S (acc ++ [y]) (accV ++ [v]) (B ++ A) := OwnL.keep (Le.refl S) _ (OwnL.append oy oL) fun b hb => ⟨upd_ne (ne b hb), (List.mem_append.mp hb).elim (fun z => (OwnL.mem acc oL b z).1) fun z => (Own.mem y oy b z).1⟩
  have n1 : (p :: (B ++ A)).Nodup := List.nodup_cons.mpr ⟨fun z => ne p z rfl, List.nodup_append.mpr ⟨nB', nA, fun a ha b hb z => (dA b hb).1 (by rw [← z]; simp [ha])⟩⟩
  have d1 : ∀ b ∈ p :: (B ++ A), b ∉ R ∧ b ∉ O.L := fun b hb => by
    rcases List.mem_cons.mp hb with rfl | hb
    · exact dB _ List.mem_cons_self
    · rcases List.mem_append.mp hb with hb | hb
      · exact dB b (List.mem_cons_of_mem _ hb)
      · exact ⟨fun z => (dA b hb).1 (List.mem_append_right _ z), (dA b hb).2⟩
  obtain ⟨As, r⟩ := r
  have inv' : InvS K Z (upd H p (.lst (accV ++ [v]))) S := r.inv.heap (fun b hb => upd_ne fun z => by subst z; exact hb sp) fun b o u e => upd_ne fun z => by subst z; rw [hp] at e; cases e
  have r2 : RelA K Z O (upd H p (.lst (accV ++ [v]))) S R ρ σ As := (RelA.drop (A := p :: B) (RelA.drop (A := A) r)).step (Le.refl S) inv' fun b hb => by
    have hn : b ≠ p := by
      rintro rfl
      rcases hb with hb | hb | ⟨i, hb⟩
      · exact (dB _ List.mem_cons_self).1 hb
      · exact (dB _ List.mem_cons_self).2 hb
      · exact (r.dr i _ hb).1 (by simp)
    refine ⟨upd_ne hn, ?_⟩
    rcases hb with hb | hb | ⟨i, hb⟩
    · exact (r.rest b (.inl (by simp [hb]))).1
    · exact (r.rest b (.inr hb)).1
    · exact (r.mem hb).1
  refine ⟨o1, n1, d1, ⟨As, r2.hold (fun b hb => ?_) fun i b hb z => ?_⟩, fun b hb => upd_ne fun z => by subst z; exact hb.elim (dB _ List.mem_cons_self).1 (dB _ List.mem_cons_self).2⟩
  · rcases List.mem_cons.mp hb with rfl | hb
    · exact ⟨sp, by rw [upd_same]; exact fun z => nomatch z⟩
    · exact OwnL.mem _ o1 b hb
  · refine (r.dr i b hb).1 ?_
    simp only [List.mem_cons, List.mem_append] at z ⊢
    rcases z with z | z | z
    · exact .inr (.inl (.inl z))
    · exact .inr (.inl (.inr z))
    · exact .inl z
end
abbrev W00 : WX := fun _ _ _ _ => False
section
variable {X : Cx} {Z : Zt} {W : WX}
theorem b22 {wi : TI} {it : M (List D)} {g : D → C} {tt : M Bool} {f : M D} {own : List Nat} (hn : NxB g) (i2 : ∀ O H S R ρ σ Q, Rel X.K Z O H S R ρ σ → b0i X.K Z O W H S R σ Q (it ρ) → wi σ H Q) :
    ∀ O H S R ρ σ Q, Rel X.K Z O H S R ρ σ → EPost X.K Z O W H S R σ Q (lcM it g tt f own ρ) → tLc wi (rdG X.K Z W00 own g) (rdT X.K Z W00 tt) (rdE X.K Z W00 f) own σ H Q := by
  intro O H S R ρ σ Q r h
  refine i2 O H S R ρ σ _ r ?_
  unfold lcM M.bind at h
  cases e1 : it ρ with
  | bad => rw [e1] at h; exact h.elim
  | ex x ρ1 => rw [e1] at h; exact h
  | ok ds ρ1 =>
    rw [e1] at h
    intro J H1 S1 l1 r1 f1 hJ
    simp only at h
    split at h
    case isFalse => exact h.elim
    case isTrue hok =>
    intro p hp
    obtain ⟨rp, fp, sp, pR, pL⟩ := r1.new (o := .lst []) hp
    have hown : ∀ i ∈ own, ∀ d, ρ1[i]? = some (some (.own d)) → owned d = false → ∃ v, σ[i]? = some (some v) ∧ Sh Z S1 v d := fun i _ d e hd => by
      obtain ⟨v, hv, vw⟩ := r1.slot e
      exact ⟨v, hv, vw.sh hd⟩
    let St1 : Nat → Hp → Prop := fun i H => ∃ S ρ acc accV B, Le S1 S ∧ Fr O R H1 H ∧ H p = some (.lst accV) ∧ S p = none ∧ OwnL Z H S acc accV B ∧ (p :: B).Nodup ∧ (∀ b ∈ p :: B, b ∉ R ∧ b ∉ O.L) ∧
      Rel X.K Z O H S ((p :: B) ++ R) ρ (L2.wipe σ own) ∧ ρ.length = ρ1.length ∧ i ≤ ds.length ∧ (∀ i s, ρ[i]? = some (some s) → i ∉ own) ∧
      (match a2g g tt f own (ds.drop i) acc ρ with | .ok acc' ρ' => EPost X.K Z O W H S R σ Q (.ok (.lst true acc') (a4m ρ1 ρ' own)) | _ => False)
    refine ⟨fun i m H => m = ds.length - i ∧ St1 i H, ⟨_, rfl, S1, a1y ρ1 own, [], [], [], Le.refl _, fp, upd_same, sp, ⟨rfl, rfl⟩, by simp, fun b hb => ?_, b1v own rp, a6i own ρ1, Nat.zero_le _, fun i s e => (a4d own ρ1 i s e).1, ?_⟩, ?_⟩
    · rcases List.mem_cons.mp hb with rfl | hb
      · exact ⟨pR, pL⟩
      · cases hb
    · rw [List.drop_zero]
      cases e2 : a2g g tt f own ds [] (a1y ρ1 own) with
      | ok acc' ρ' => rw [e2] at h; exact EPost.weak h l1 (f1.trans fp)
      | ex x ρ' => rw [e2] at h; exact h.elim
      | bad => rw [e2] at h; exact h.elim
    · rintro i m H2 ⟨rfl, S2, ρ2, acc, accV, B, l2, f2, hpA, spA, oL, nB, dB, r2, hl2, hi, hno, hloop⟩
      obtain ⟨j1, j2⟩ := hJ i H2 S2 r2.inv l2 f2
      by_cases hlt : i < ds.length
      · refine .inr ⟨(j1 _ (List.getElem?_eq_getElem hlt)).1, St1 (i + 1), fun H' hN => ⟨ds.length - (i + 1), by omega, rfl, hN⟩, fun x H3 hy => ?_⟩
        obtain ⟨S3, ext, shx⟩ := (j1 _ (List.getElem?_eq_getElem hlt)).2 x H3 hy
        obtain ⟨r3, f3, _⟩ := r2.ext (A := []) ext (fun _ hb => nomatch hb) (fun _ hb => nomatch hb)
        rw [List.drop_eq_getElem_cons hlt] at hloop
        unfold a2g at hloop
        rcases hn ds[i] ρ2 with ⟨ρ3, e3⟩ | e3
        case inr => rw [e3] at hloop; exact hloop.elim
        rw [e3] at hloop
        simp only at hloop
        refine ⟨O, S3, (p :: B) ++ R, ρ2, ds[i], [], r3, Own.of_sh shx (shx.un ext.inv), List.nodup_nil, (fun _ hb => nomatch hb), ?_⟩
        rw [e3]
        intro σ4 H4 S4 l4 r4 f4 hw
        have hws : L2.wipe (L2.wipe σ own) own = L2.wipe σ own := by
          apply List.ext_getElem?
          intro j
          by_cases hj : j ∈ own
          · have : ∀ τ : L2.St, τ.length = σ.length → (L2.wipe τ own)[j]? = (L2.wipe σ own)[j]? := fun τ hτ => by
              have key : ∀ (τ : L2.St), τ.length = σ.length → (L2.wipe τ own)[j]? = if j < σ.length then some none else none := fun τ hτ => by
                by_cases hl : j < σ.length
                · rw [if_pos hl]
                  have hl' : j < (L2.wipe τ own).length := by rw [L2.wipe_length, hτ]; exact hl
                  rw [List.getElem?_eq_getElem hl']
                  cases e : (L2.wipe τ own)[j] with
                  | none => rfl
                  | some v => exact absurd hj (L2.wipe_some (vs := own) (σ := τ) (i := j) (x := v) (by rw [List.getElem?_eq_getElem hl', e])).2
                · rw [if_neg hl, List.getElem?_eq_none (by rw [L2.wipe_length, hτ]; omega)]
              rw [key τ hτ, key σ rfl]
            exact this _ (L2.wipe_length σ own)
          · rw [L2.wipe_out hj]
        refine ⟨hw.trans hws, O, S4, (p :: B) ++ R, ρ3, r4, ?_⟩
        have l14 : Le S2 S4 := ext.le.trans l4
        have f24 : Fr O ((p :: B) ++ R) H2 H4 := f3.trans f4
        cases e5 : tt ρ3 with
        | bad => rw [e5] at hloop; exact hloop.elim
        | ex x ρ5 => rw [e5] at hloop; exact hloop.elim
        | ok k ρ5 =>
          rw [e5] at hloop
          intro H5 S5 l5 r5 f5
          have l25 : Le S2 S5 := l14.trans l5
          have f25 : Fr O ((p :: B) ++ R) H2 H5 := f24.trans f5
          have keepB : ∀ {H' : Hp} {S' : Reg} {A' : List Addr} {ρ' : Env} {σ' : L2.St}, Rel X.K Z O H' S' (A' ++ ((p :: B) ++ R)) ρ' σ' → Fr O ((p :: B) ++ R) H2 H' → ∀ b ∈ p :: B, H' b = H2 b ∧ S' b = none := fun {H' S' A' ρ' σ'} rr ff b hb => ⟨ff b (.inl (List.mem_append_left _ hb)), (rr.rest b (.inl (List.mem_append_right _ (List.mem_append_left _ hb)))).1⟩
          have back : ∀ {H' : Hp} {S' : Reg} {R' : List Addr} {ρ' : Env}, Rel X.K Z O H' S' R' ρ' σ4 → Rel X.K Z O H' S' R' (a1y ρ' own) (L2.wipe σ own) := fun {H' S' R' ρ'} rr => by
            have := b1v own rr
            rw [hw, hws] at this
            exact this
          have hl5 : ρ5.length = ρ1.length := by
            obtain ⟨As, q⟩ := r5
            obtain ⟨As2, q2⟩ := r2
            have e1 := congrArg List.length hw
            rw [L2.wipe_length, L2.wipe_length] at e1
            rw [q.len, e1, ← q2.len, hl2]
          simp only at hloop
          cases k with
          | false =>
            refine iteF ?_
            obtain ⟨As, q⟩ := id r5
            refine ⟨S5, a1y ρ5 own, acc, accV, B, l2.trans l25, f2.trans (Fr.drop f25), (f25 p (.inl List.mem_cons_self)).trans hpA, (keepB (A' := []) r5 f25 p List.mem_cons_self).2, OwnL.keep l25 _ oL fun b hb => keepB (A' := []) r5 f25 b (List.mem_cons_of_mem _ hb), nB, dB, back r5, (a6i own ρ5).trans hl5, hlt, fun i s e => (a4d own ρ5 i s e).1, ?_⟩
            have hloop : (match a2g g tt f own (ds.drop (i + 1)) acc (a1y ρ5 own) with | .ok acc' ρ' => EPost X.K Z O W H2 S2 R σ Q (.ok (.lst true acc') (a4m ρ1 ρ' own)) | _ => False) := hloop
            cases e6 : a2g g tt f own (ds.drop (i + 1)) acc (a1y ρ5 own) with
            | ok acc' ρ' => rw [e6] at hloop; exact EPost.weak hloop l25 (Fr.drop f25)
            | ex x ρ' => rw [e6] at hloop; exact hloop.elim
            | bad => rw [e6] at hloop; exact hloop.elim
          | true =>
            refine iteT ⟨O, S5, (p :: B) ++ R, ρ5, r5, ?_⟩
            simp only [if_true] at hloop
            cases e6 : f ρ5 with
            | bad => rw [e6] at hloop; exact hloop.elim
            | ex x ρ6 => rw [e6] at hloop; exact hloop.elim
            | ok y ρ6 =>
              rw [e6] at hloop
              intro v H6 S6 A6 l6 oy n6 d6 r6 f6
              have l26 : Le S2 S6 := l25.trans l6
              have f26 : Fr O ((p :: B) ++ R) H2 H6 := f25.trans f6
              simp only at hloop
              by_cases hlen : acc.length < 1000000
              case neg => rw [if_neg hlen] at hloop; exact hloop.elim
              rw [if_pos hlen] at hloop
              have hp6 : H6 p = some (.lst accV) := (f26 p (.inl List.mem_cons_self)).trans hpA
              have sp6 : S6 p = none := (keepB r6 f26 p List.mem_cons_self).2
              have oL6 : OwnL Z H6 S6 acc accV B := OwnL.keep l26 _ oL fun b hb => keepB r6 f26 b (List.mem_cons_of_mem _ hb)
              obtain ⟨g1, g2, g3, g4, g5⟩ := grow r6 hp6 sp6 oL6 nB dB oy n6 d6
              have hl6 : ρ6.length = ρ1.length := by
                obtain ⟨As, q⟩ := r6
                obtain ⟨As2, q2⟩ := r5
                rw [q.len, ← q2.len, hl5]
              have f27 : Fr O R H2 (upd H6 p (.lst (accV ++ [v]))) := Fr.trans (Fr.drop f26) g5
              refine ⟨accV, hp6, Nat.lt_of_lt_of_le (by rw [oL.len]; exact hlen) (a0r (Nat.le_refl _)), S6, a1y ρ6 own, acc ++ [y], accV ++ [v], B ++ A6, l2.trans l26, f2.trans f27, upd_same, sp6, g1, g2, g3, back g4, (a6i own ρ6).trans hl6, hlt, fun i s e => (a4d own ρ6 i s e).1, ?_⟩
              cases e7 : a2g g tt f own (ds.drop (i + 1)) (acc ++ [y]) (a1y ρ6 own) with
              | ok acc' ρ' => rw [e7] at hloop; exact EPost.weak hloop l26 f27
              | ex x ρ' => rw [e7] at hloop; exact hloop.elim
              | bad => rw [e7] at hloop; exact hloop.elim
      · have e : i = ds.length := by omega
        subst e
        refine .inl ⟨j2 rfl, ?_⟩
        rw [List.drop_length] at hloop
        have hloop : EPost X.K Z O W H2 S2 R σ Q (.ok (.lst true acc) (a4m ρ1 ρ2 own)) := hloop
        have rb : Rel X.K Z O H2 S2 ((p :: B) ++ R) (a4m ρ1 ρ2 own) σ := au9 l2 own hok hown hl2.symm (r2.resig (L2.wipe_length σ own).symm fun i s e => (aa5 own σ i (hno i s e)).symm)
        exact hloop (.ref p) H2 S2 (p :: B) (Le.refl _) ⟨p, accV, B, rfl, rfl, hpA, spA, oL⟩ nB dB rb (Fr.refl _ _ _)
abbrev Blk (X : Cx) (scope : Scope) (P : Cx → Prop) : Prop := ∀ (s : Shared) (H : Hp) (C : Addr) (cl : List (Str × Addr)) (fp : List Addr), P (X.blk s H scope (compEnvC scope cl C X.env) fp)
theorem a8h {elt tg iter : Expr} {ifs : List Expr} {scope : Scope} {pos : Pos} {it : M (List D)} {g : D → C} {tt : M Bool} {f : M D} (own : List (Str × Nat)) (hc : X.calm = true) (hN : X.N.Nodup) (hi : SI X Z W tg iter it) (ok : BlkOk X.N X.env.scope scope own)
    (hg : Blk X scope fun Y => SGw Y Z W00 (own.map (·.2)) tg g) (hn : NxB g) (ht : Blk X scope fun Y => PTs Y ifs (rdT X.K Z W00 tt)) (he : Blk X scope fun Y => SE Y Z W00 elt f) (hs : ∀ x, foldedSetIterable iter X.env x = pure x := by intro _; rfl) :
    SE X Z W (.ListComp elt [⟨tg, iter, ifs, 0⟩] scope pos) (lcM it g tt f (own.map (·.2))) := by
  obtain ⟨wi, i1, i2⟩ := hi
  exact ⟨_, pe_lc hc hN i1 ok (fun s H C cl fp => (hg s H C cl fp).pg) (fun s H C cl fp => ht s H C cl fp) (fun s H C cl fp => (he s H C cl fp).pe) hs, b22 hn i2⟩
theorem a7m (i : Nat) {y : Str} {py spos : Pos} {elt tg iter : Expr} {ifs : List Expr} {scope : Scope} {pos : Pos} {it : M (List D)} {g : D → C} {tt : M Bool} {f : M D} (own : List (Str × Nat)) (hc : X.calm = true) (hN : X.N.Nodup) (hy : X.N[i]? = some y) (hyl : X.env.scope.names.lookup y = some .local)
    (hsw : swapsWith (.ListComp elt [⟨tg, iter, ifs, 0⟩] scope pos) (some (.Name y py)) spos.line X.env = pure true) (hi : SI X Z W tg iter it) (ok : BlkOk X.N X.env.scope scope own)
    (hg : Blk X scope fun Y => SGw Y Z W00 (own.map (·.2)) tg g) (hn : NxB g) (ht : Blk X scope fun Y => PTs Y ifs (rdT X.K Z W00 tt)) (he : Blk X scope fun Y => SE Y Z W00 elt f) (hs : ∀ x, foldedSetIterable iter X.env x = pure x := by intro _; rfl) :
    SS X Z W (.Assign [.Name y py] (.ListComp elt [⟨tg, iter, ifs, 0⟩] scope pos) spos) (setC i (lcM it g tt f (own.map (·.2)))) := by
  obtain ⟨wi, i1, i2⟩ := hi
  exact ⟨_, ps_setLc hc hN hy hyl hsw i1 ok (fun s H C cl fp => (hg s H C cl fp).pg) (fun s H C cl fp => ht s H C cl fp) (fun s H C cl fp => (he s H C cl fp).pe) hs,
    a5o (k := fun v σ H E => E.nx (σ.set i (some v)) H) (b22 hn i2) fun O H S R ρ σ E d v A r q nd dj h => a3a r q nd dj h⟩
theorem a2m {Y : Cx} {K : PySem.W.Frag} (hK : Y.K = K) : PTs Y [] (rdT K Z W00 a8o) := by
  subst hK
  exact ⟨fun pins s σ H Q I ⟨O, S, R, ρ, r, p⟩ => pts_nil.run pins s σ H Q I (p H S (Le.refl S) r (Fr.refl _ _ _))⟩
theorem b1n {Y : Cx} {c : Expr} {t : M Bool} (h : ST Y Z W00 c t) : PTs Y [c] (rdT Y.K Z W00 t) := pts_one h.pt
end
end Dv
namespace Dv
open PySem L2 PySem.Spec PyProof.Rows
def PsOk (Z : Zt) (H : Hp) (S : Reg) : List (D × D) → List (V × V) → List Addr → Prop
  | [], ps, A => ps = [] ∧ A = []
  | (k, d) :: r, ps, A => ∃ kv v pr A1 A2, ps = (kv, v) :: pr ∧ A = A1 ++ A2 ∧ View Z H S kv k ∧ Own Z H S d v A1 ∧ PsOk Z H S r pr A2
def SD (X : Cx) (Z : Zt) (W : WX) (pos : Pos) (keys : List (Option Expr)) (values : List Expr) (f : M (List (D × D))) : Prop :=
  ∃ trs, PPs X pos keys values trs ∧ ∀ O H S R ρ σ Q, Rel X.K Z O H S R ρ σ → (match f ρ with
    | .ok kds ρ' => ∀ ps H' S' A, Le S S' → PsOk Z H' S' kds ps A → A.Nodup → (∀ b ∈ A, b ∉ R ∧ b ∉ O.L) → Rel X.K Z O H' S' (A ++ R) ρ' σ → Fr O R H H' → Q ps H'
    | .ex x ρ' => XP X.K Z O W H S R σ x ρ'
    | .bad => False) → tPairs trs σ H Q
def bl4 : M (List (D × D)) := fun ρ => .ok [] ρ
def b87 (k : D) (f : M D) (g : M (List (D × D))) : M (List (D × D)) := M.bind f fun d => M.bind g fun kds ρ => .ok ((k, d) :: kds) ρ
def keysOf : List (D × D) → Option (List Key)
  | [] => some []
  | (.int i, _) :: r => match keysOf r with | some ks => some (.inl i :: ks) | none => none
  | (.str x, _) :: r => match keysOf r with | some ks => some (.inr x :: ks) | none => none
  | _ => none
def bh3 (f : M (List (D × D))) : M D := M.bind f fun kds ρ => match keysOf kds with
  | some kk => if kk.Nodup ∧ kk.length ≤ 15 then .ok (.dic true false (kk.map .k) (kds.map (·.2))) ρ else .bad
  | none => .bad
section
variable {K : PySem.W.Frag} {Z : Zt} {O : Hold} {H H' : Hp} {S S' : Reg} {R A : List Addr} {σ : L2.St} {ρ : Env}
theorem PsOk.keep (hi : ∀ b, S b ≠ none → H' b = H b) (l : Le S S') : ∀ {kds : List (D × D)} {ps : List (V × V)} {A : List Addr}, PsOk Z H S kds ps A → (∀ k ∈ kds.map (·.1), owned k = false) → (∀ b ∈ A, H' b = H b ∧ S' b = none) → PsOk Z H' S' kds ps A
  | [], _, _, h, _, _ => h
  | (k, d) :: r, _, _, h, hk, kA => by
    obtain ⟨kv, v, pr, A1, A2, rfl, rfl, h1, h2, h3⟩ := h
    have o := hk k (by simp)
    have sh := (h1.sh o).mono l
    exact ⟨kv, v, pr, A1, A2, rfl, rfl, ⟨[], Own.of_sh sh o⟩, Own.keep l d h2 fun b hb => kA b (List.mem_append_left _ hb), PsOk.keep hi l h3 (fun k hk' => hk k (by simp at hk' ⊢; exact .inr hk')) fun b hb => kA b (List.mem_append_right _ hb)⟩
theorem zip_fst {α β : Type} : ∀ {xs : List α} {ys : List β}, xs.length = ys.length → (xs.zip ys).map (·.1) = xs
  | [], _, _ => rfl
  | _ :: _, [], h => by cases h
  | x :: xs, y :: ys, h => by rw [List.zip_cons_cons, List.map_cons, zip_fst (by simpa using h)]
end
section
variable {X : Cx} {Z : Zt} {W : WX} {pos : Pos}
theorem ar6 (tk : Bool) (htk : tk = false := by rfl) : SE X Z W (.Dict [] [] pos) (fun ρ => .ok (.dic true tk [] []) ρ) := by
  subst htk
  refine ⟨_, pe_dnewK, fun O H S R ρ σ Q r h p hp => ?_⟩
  obtain ⟨rp, fp, sp, pR, pL⟩ := r.new (o := .dK []) hp
  exact h (.ref p) _ S [p] (Le.refl S) ⟨p, [], [], rfl, rfl, .inl ⟨rfl, [], rfl, List.nodup_nil, rfl, upd_same⟩, sp, rfl, rfl⟩ (by simp) (fun b hb => by rw [List.mem_singleton.mp hb]; exact ⟨pR, pL⟩) rp fp
end
end Dv
namespace Dv
open PySem L2 PySem.Spec PyProof.Rows
@[irreducible] def fuel : Nat := 1000000
def b5g (f : M D) : M D := M.bind f fun d ρ => .ok (fr d) ρ
section
variable {X : Cx} {Z : Zt} {W : WX}
theorem b6r {e : Expr} {f : M D} (h : SE X Z W e f) : SE X Z W e (b5g f) := by
  obtain ⟨t, h1, h2⟩ := h
  refine ⟨t, h1, fun O H S R ρ σ Q r h => h2 O H S R ρ σ Q r ?_⟩
  unfold b5g M.bind at h
  cases e : f ρ with
  | bad => rw [e] at h; exact h.elim
  | ex x ρ1 => rw [e] at h; exact h
  | ok d ρ1 =>
    rw [e] at h
    intro v H1 S1 A l q nd dj r1 f1
    obtain ⟨S2, l2, q2, r2⟩ := r1.freeze q nd dj
    exact h v H1 S2 [] (l.trans l2) (Own.of_sh q2 (a4h d)) List.nodup_nil (fun _ hb => nomatch hb) r2 f1
end
end Dv
namespace Dv
open PySem L2 PySem.Spec PyProof.Rows
theorem nr {α : Sort _} {a b : α} (h : a = b) : a = b := h
section
variable {α β : Type}
@[simp ↓] theorem ev_bind (a : M α) (f : α → M β) (ρ : Env) : M.bind a f ρ = match a ρ with | .ok x ρ' => f x ρ' | .ex x ρ' => .ex x ρ' | .bad => .bad := nr rfl
@[simp ↓] theorem ev_seq (a b : C) (ρ : Env) : a09 a b ρ = match a ρ with | .nx ρ' => b ρ' | o => o := by
  unfold a09
  repeat' split
  all_goals first | rfl | simp_all | skip
@[simp ↓] theorem ev_nx (ρ : Env) : nxC ρ = .nx ρ := nr rfl
@[simp ↓] theorem ev_use (f : M D) (c : D → C) (ρ : Env) : a8r f c ρ = match f ρ with | .ok d ρ' => c d ρ' | .ex x ρ' => .ex x ρ' | .bad => .bad := nr rfl
@[simp ↓] theorem ev_set (i : Nat) (f : M D) (ρ : Env) : setC i f ρ = match f ρ with | .ok d ρ' => putS i d ρ' | .ex x ρ' => .ex x ρ' | .bad => .bad := nr rfl
@[simp ↓] theorem ev_ret (f : M D) (ρ : Env) : a69 f ρ = match f ρ with | .ok d ρ' => .rt d ρ' | .ex x ρ' => .ex x ρ' | .bad => .bad := nr rfl
@[simp ↓] theorem ev_drp (f : M D) (ρ : Env) : b1i f ρ = match f ρ with | .ok d ρ' => .nx ρ' | .ex x ρ' => .ex x ρ' | .bad => .bad := nr rfl
@[simp ↓] theorem ev_if (t : M Bool) (a b : C) (ρ : Env) : ifC t a b ρ = match t ρ with | .ok k ρ' => if k = true then a ρ' else b ρ' | .ex x ρ' => .ex x ρ' | .bad => .bad := nr rfl
@[simp ↓] theorem ev_for (f : M (List D)) (g : D → C) (b : C) (ρ : Env) : az4 f g b ρ = match f ρ with | .ok ds ρ' => a1h (fun d => a09 (g d) b) ds ρ' | .ex x ρ' => .ex x ρ' | .bad => .bad := nr rfl
@[simp ↓] theorem ev_put (i : Nat) (d : D) (ρ : Env) : putS i d ρ = match ρ[i]? with
  | some none => .nx (ρ.set i (some (.own d)))
  | some (some (.own _)) => .nx (ρ.set i (some (.own d)))
  | _ => .bad := nr rfl
@[simp ↓] theorem ev_op2 (F : D → D → Option D) (f g : M Opd) (ρ : Env) : op2 F f g ρ = match f ρ with
  | .ok a ρ1 => (match g ρ1 with
    | .ok b ρ2 => (match look ρ2 a, look ρ2 b with | some x, some y => a6f (F x y) ρ2 | _, _ => .bad)
    | .ex x ρ' => .ex x ρ' | .bad => .bad)
  | .ex x ρ' => .ex x ρ' | .bad => .bad := by
  unfold op2 M.bind
  repeat' split
  all_goals first | rfl | simp_all | skip
@[simp ↓] theorem ev_res1 (d : D) (ρ : Env) : a6f (some d) ρ = .ok d ρ := nr rfl
@[simp ↓] theorem ev_tst (f : M D) (ρ : Env) : tst f ρ = match f ρ with | .ok d ρ' => (match d with | .bl b => .ok b ρ' | _ => .bad) | .ex x ρ' => .ex x ρ' | .bad => .bad := by
  unfold tst M.bind
  cases f ρ <;> first | rfl | (rename_i d _; cases d <;> rfl)
@[simp ↓] theorem ev_cst (d : D) (ρ : Env) : cst d ρ = .ok d ρ := nr rfl
@[simp ↓] theorem ev_ifM (t : M Bool) (a b : M D) (ρ : Env) : ifM t a b ρ = match t ρ with | .ok k ρ' => if k = true then a ρ' else b ρ' | .ex x ρ' => .ex x ρ' | .bad => .bad := nr rfl
@[simp ↓] theorem ev_andM (a b : M Bool) (ρ : Env) : andM a b ρ = match a ρ with | .ok k ρ' => if k = true then b ρ' else .ok false ρ' | .ex x ρ' => .ex x ρ' | .bad => .bad := nr rfl
@[simp ↓] theorem ev_orM (a b : M Bool) (ρ : Env) : orM a b ρ = match a ρ with | .ok k ρ' => if k = true then .ok true ρ' else b ρ' | .ex x ρ' => .ex x ρ' | .bad => .bad := nr rfl
@[simp ↓] theorem ev_notM (a : M Bool) (ρ : Env) : b5f a ρ = match a ρ with | .ok k ρ' => .ok (!k) ρ' | .ex x ρ' => .ex x ρ' | .bad => .bad := by
  unfold b5f M.bind
  repeat' split
  all_goals first | rfl | simp_all | skip
@[simp ↓] theorem ev_andV (a b : M D) (ρ : Env) : b5e a b ρ = match tst a ρ with | .ok k ρ' => if k = true then b ρ' else .ok (.bl false) ρ' | .ex x ρ' => .ex x ρ' | .bad => .bad := by
  unfold b5e
  repeat' split
  all_goals first | rfl | simp_all | skip
@[simp ↓] theorem ev_orV (a b : M D) (ρ : Env) : orV a b ρ = match tst a ρ with | .ok k ρ' => if k = true then .ok (.bl true) ρ' else b ρ' | .ex x ρ' => .ex x ρ' | .bad => .bad := by
  unfold orV
  repeat' split
  all_goals first | rfl | simp_all | skip
@[simp ↓] theorem ev_neg (f : M D) (ρ : Env) : bf6 f ρ = match f ρ with | .ok d ρ' => (match d with | .int i => .ok (.int (-i)) ρ' | _ => .bad) | .ex x ρ' => .ex x ρ' | .bad => .bad := by
  unfold bf6 M.bind
  cases f ρ <;> first | rfl | (rename_i d _; cases d <;> rfl)
@[simp ↓] theorem ev_va (f : M D) (ρ : Env) : va f ρ = match f ρ with | .ok d ρ' => .ok (.va d) ρ' | .ex x ρ' => .ex x ρ' | .bad => .bad := by
  unfold va M.bind
  repeat' split
  all_goals first | rfl | simp_all | skip
@[simp ↓] theorem ev_aNil (ρ : Env) : t8 ρ = .ok [] ρ := nr rfl
@[simp ↓] theorem ev_aCons (f : M Opd) (g : M (List Opd)) (ρ : Env) : d9 f g ρ = match f ρ with
  | .ok o ρ1 => (match g ρ1 with | .ok os ρ2 => .ok (o :: os) ρ2 | .ex x ρ' => .ex x ρ' | .bad => .bad)
  | .ex x ρ' => .ex x ρ' | .bad => .bad := by
  unfold d9 M.bind
  repeat' split
  all_goals first | rfl | simp_all | skip
@[simp ↓] theorem ev_callB (F : List D → Option D) (g : M (List Opd)) (ρ : Env) : a0e F g ρ = match g ρ with
  | .ok os ρ1 => (match a3p ρ1 os with | some ds => a6f (F ds) ρ1 | none => .bad)
  | .ex x ρ' => .ex x ρ' | .bad => .bad := by
  unfold a0e M.bind
  repeat' split
  all_goals first | rfl | simp_all | skip
@[simp ↓] theorem ev_lst (f : M (List Opd)) (ρ : Env) : lstM f ρ = match f ρ with
  | .ok os ρ1 => (match vas os with | some ds => if ds.length ≤ 1000 then .ok (.lst true ds) ρ1 else .bad | none => .bad)
  | .ex x ρ' => .ex x ρ' | .bad => .bad := by
  unfold lstM M.bind
  repeat' split
  all_goals first | rfl | simp_all | skip
@[simp ↓] theorem ev_tup (f : M (List Opd)) (ρ : Env) : a1u f ρ = match f ρ with
  | .ok os ρ1 => (match vas os with | some ds => if ds.length ≤ 1000 then .ok (.tup (frL ds)) ρ1 else .bad | none => .bad)
  | .ex x ρ' => .ex x ρ' | .bad => .bad := by
  unfold a1u M.bind
  repeat' split
  all_goals first | rfl | simp_all | skip
@[simp ↓] theorem ev_part (f : M D) (ρ : Env) : a85 f ρ = match f ρ with | .ok d ρ' => (match d with | .int i => .ok (some i) ρ' | _ => .bad) | .ex x ρ' => .ex x ρ' | .bad => .bad := by
  unfold a85 M.bind
  cases f ρ <;> first | rfl | (rename_i d _; cases d <;> rfl)
@[simp ↓] theorem ev_noPart (ρ : Env) : a6k ρ = .ok none ρ := nr rfl
@[simp ↓] theorem ev_slM (f : M Opd) (lo hi : M (Option Int)) (ρ : Env) : slM f lo hi ρ = match f ρ with
  | .ok o ρ1 => (match lo ρ1 with
    | .ok l ρ2 => (match hi ρ2 with
      | .ok u ρ3 => (match look ρ3 o with | some d => a6f (slD d l u) ρ3 | none => .bad)
      | .ex x ρ' => .ex x ρ' | .bad => .bad)
    | .ex x ρ' => .ex x ρ' | .bad => .bad)
  | .ex x ρ' => .ex x ρ' | .bad => .bad := by
  unfold slM M.bind
  repeat' split
  all_goals first | rfl | simp_all | skip
@[simp ↓] theorem ev_frz (f : M D) (ρ : Env) : b5g f ρ = match f ρ with | .ok d ρ' => .ok (fr d) ρ' | .ex x ρ' => .ex x ρ' | .bad => .bad := by
  unfold b5g M.bind
  repeat' split
  all_goals first | rfl | simp_all | skip
@[simp ↓] theorem ev_itD (f : M D) (ρ : Env) : itD f ρ = match f ρ with | .ok d ρ' => (match b5d d with | some ds => .ok ds ρ' | none => .bad) | .ex x ρ' => .ex x ρ' | .bad => .bad := by
  unfold itD M.bind
  repeat' split
  all_goals first | rfl | simp_all | skip
@[simp ↓] theorem ev_rng1 (f : M (List Opd)) (ρ : Env) : ap0 f ρ = match f ρ with
  | .ok os ρ1 => (match a3p ρ1 os with | some [.int n] => if n < 2 ^ 40 ∧ -(2 ^ 40) < n then .ok (rg 0 n) ρ1 else .bad | _ => .bad)
  | .ex x ρ' => .ex x ρ' | .bad => .bad := by
  unfold ap0 M.bind
  repeat' split
  all_goals first | rfl | simp_all | skip
@[simp ↓] theorem ev_rng2 (f : M (List Opd)) (ρ : Env) : bi6 f ρ = match f ρ with
  | .ok os ρ1 => (match a3p ρ1 os with | some [.int a, .int b] => if (a < 2 ^ 40 ∧ -(2 ^ 40) < a) ∧ (b < 2 ^ 40 ∧ -(2 ^ 40) < b) then .ok (rg a b) ρ1 else .bad | _ => .bad)
  | .ex x ρ' => .ex x ρ' | .bad => .bad := by
  unfold bi6 M.bind
  repeat' split
  all_goals first | rfl | simp_all | skip
@[simp ↓] theorem ev_call (io : List Bool) (m : List D → RF) (f : M (List Opd)) (ρ : Env) : callC io m f ρ = match f ρ with
  | .ok os ρ0 => (match prep io os ρ0 with
    | some (ds, ρ1) => (match m ds with
      | .ok d outs => (match back ρ0 io os outs ρ1 with | some ρ2 => .ok d ρ2 | none => .bad)
      | .ex x outs => (match back ρ0 io os outs ρ1 with | some ρ2 => .ex x ρ2 | none => .bad)
      | .bad => .bad)
    | none => .bad)
  | .ex x ρ' => .ex x ρ' | .bad => .bad := by
  unfold callC M.bind
  repeat' split
  all_goals first | rfl | simp_all | skip
@[simp ↓] theorem ev_dNil (ρ : Env) : bl4 ρ = .ok [] ρ := nr rfl
@[simp ↓] theorem ev_dCons (k : D) (f : M D) (g : M (List (D × D))) (ρ : Env) : b87 k f g ρ = match f ρ with
  | .ok d ρ1 => (match g ρ1 with | .ok kds ρ2 => .ok ((k, d) :: kds) ρ2 | .ex x ρ' => .ex x ρ' | .bad => .bad)
  | .ex x ρ' => .ex x ρ' | .bad => .bad := by
  unfold b87 M.bind
  repeat' split
  all_goals first | rfl | simp_all | skip
@[simp ↓] theorem ev_sti (i : Nat) (g f : M D) (ρ : Env) : az3 i g f ρ = match f ρ with
  | .ok y ρ1 => (match u6 ρ1 i with
    | some _ => (match g ρ1 with
      | .ok k ρ2 => (match u6 ρ2 i with
        | some s => if s.may = true then (match ad8 s.d k y with | some d' => .nx (ρ2.set i (some (s.sw d'))) | none => .bad) else .bad
        | none => .bad)
      | .ex x ρ' => .ex x ρ' | .bad => .bad)
    | none => .bad)
  | .ex x ρ' => .ex x ρ' | .bad => .bad := by
  unfold az3 a8r
  repeat' split
  all_goals first | rfl | simp_all | skip
@[simp ↓] theorem ev_app (i : Nat) (f : M D) (ρ : Env) : ao7 i f ρ = match u6 ρ i with
  | some s0 => if a7h s0.d = true then (match f ρ with
    | .ok y ρ1 => (match u6 ρ1 i with
      | some s => if s.may = true then (match s.d with | .lst true ds => if ds.length < 1000000 then .ok .non (ρ1.set i (some (s.sw (.lst true (ds ++ [y]))))) else .bad | _ => .bad) else .bad
      | none => .bad)
    | .ex x ρ' => .ex x ρ' | .bad => .bad) else .bad
  | none => .bad := by
  unfold ao7 M.bind
  repeat' split
  all_goals first | rfl | simp_all | skip
@[simp ↓] theorem ev_par (i j : Nat) (f : M (List Opd)) (ρ : Env) : b4k i j f ρ = match f ρ with
  | .ok os ρ' => (match vas os with | some [x, y] => a09 (putS i x) (putS j y) ρ' | _ => .bad)
  | .ex x ρ' => .ex x ρ'
  | .bad => .bad := nr rfl
@[simp ↓] theorem ev_tupTp (n : Nat) (gs : List D → C) (ds : List D) (ρ : Env) : a9a n gs (.pr ds) ρ = if ds.length = n then gs ds ρ else .bad := nr rfl
@[simp ↓] theorem ev_tupT (n : Nat) (gs : List D → C) (ds : List D) (ρ : Env) : a9a n gs (.tup ds) ρ = if ds.length = n then gs ds ρ else .bad := nr rfl
@[simp ↓] theorem ev_gsNil (ρ : Env) : a5x [] ρ = .nx ρ := nr rfl
@[simp ↓] theorem ev_gsCons (g : D → C) (gs : List D → C) (d : D) (ds : List D) (ρ : Env) : a0f g gs (d :: ds) ρ = match g d ρ with | .nx ρ' => gs ds ρ' | o => o := by
  unfold a0f a09
  repeat' split
  all_goals first | rfl | simp_all | skip
@[simp ↓] theorem ev_yes (ρ : Env) : a8o ρ = .ok true ρ := nr rfl
@[simp ↓] theorem ev_lc (it : M (List D)) (g : D → C) (tt : M Bool) (f : M D) (own : List Nat) (ρ : Env) : lcM it g tt f own ρ = match it ρ with
  | .ok ds ρ1 => if a5u ρ1 own = true then (match a2g g tt f own ds [] (a1y ρ1 own) with
    | .ok acc ρ' => .ok (.lst true acc) (a4m ρ1 ρ' own)
    | _ => .bad) else .bad
  | .ex x ρ' => .ex x ρ' | .bad => .bad := by
  unfold lcM M.bind
  repeat' split
  all_goals first | rfl | simp_all | skip
@[simp ↓] theorem ev_run (io : List Bool) (n : Nat) (c : C) (ds : List D) : a8m io n c ds = match c (a9j 0 io ds (List.replicate n none)) with
  | .rt d ρ' => (match a2l 0 io ρ' with | some os => .ok d os | none => .bad)
  | .nx ρ' => (match a2l 0 io ρ' with | some os => .ok .non os | none => .bad)
  | .ex x ρ' => (match a2l 0 io ρ' with | some os => .ex x os | none => .bad)
  | _ => .bad := by
  unfold a8m
  repeat' split
  all_goals first | rfl | simp_all | skip
@[simp ↓] theorem ev_rd (i : Nat) (ρ : Env) : rdN i ρ = match ρ[i]? with
  | some (some (.own d)) => if owned d = true then .ok (fr d) (ρ.set i (some (.own (fr d)))) else .ok d ρ
  | some (some (.io d)) => if owned d = true then .ok (fr d) (ρ.set i (some (.io (fr d)))) else .ok d ρ
  | some (some (.lent d)) => if owned d = true then .bad else .ok d ρ
  | _ => .bad := nr rfl
@[simp ↓] theorem ev_nm (i : Nat) (ρ : Env) : nmN i ρ = match ρ[i]? with
  | some (some _) => .ok (.nm i) ρ
  | _ => .bad := nr rfl
@[simp ↓] theorem ev_chM (F G : D → D → Option D) (f g h : M Opd) (ρ : Env) : chM F G f g h ρ = match f ρ with
  | .ok a ρ1 => (match g ρ1 with
    | .ok b ρ2 => (match look ρ2 a, look ρ2 b with
      | some x, some y => (match F x y with
        | some (.bl k) => if k = true then (match h ρ2 with
          | .ok c ρ3 => (match look ρ3 b, look ρ3 c with | some y, some z => a6f (G y z) ρ3 | _, _ => .bad)
          | .ex x ρ' => .ex x ρ' | .bad => .bad) else .ok (.bl false) ρ2
        | _ => .bad)
      | _, _ => .bad)
    | .ex x ρ' => .ex x ρ' | .bad => .bad)
  | .ex x ρ' => .ex x ρ' | .bad => .bad := by
  unfold chM M.bind
  repeat' split
  all_goals first | rfl | simp_all | skip
@[simp ↓] theorem ev_dic (f : M (List (D × D))) (ρ : Env) : bh3 f ρ = match f ρ with
  | .ok kds ρ' => (match keysOf kds with
    | some kk => if kk.Nodup ∧ kk.length ≤ 15 then .ok (.dic true false (kk.map .k) (kds.map (·.2))) ρ' else .bad
    | none => .bad)
  | .ex x ρ' => .ex x ρ' | .bad => .bad := by
  unfold bh3 M.bind
  cases f ρ <;> first | rfl | (rename_i d _; cases keysOf d <;> rfl)
@[simp] theorem addD_int (a b : Int) : a5s (.int a) (.int b) = some (.int (a + b)) := nr rfl
@[simp] theorem subD_int (a b : Int) : b1o (.int a) (.int b) = some (.int (a - b)) := nr rfl
@[simp] theorem ltD_int (a b : Int) : ltD (.int a) (.int b) = some (.bl (decide (a < b))) := nr rfl
@[simp] theorem leD_int (a b : Int) : leD (.int a) (.int b) = some (.bl (decide (a ≤ b))) := nr rfl
@[simp] theorem gtD_int (a b : Int) : gtD (.int a) (.int b) = some (.bl (decide (b < a))) := nr rfl
@[simp] theorem geD_int (a b : Int) : geD (.int a) (.int b) = some (.bl (decide (b ≤ a))) := nr rfl
@[simp] theorem neD_int (a b : Int) : neD (.int a) (.int b) = some (.bl (decide (a ≠ b))) := by
  simp [neD, eqB, flat, scal]
@[simp] theorem eqD_int (a b : Int) : eqD (.int a) (.int b) = some (.bl (decide (a = b))) := by
  simp [eqD, eqB, flat, scal]
theorem aq7 {a b : Int} (h : 0 < b) (h2 : b < 2 ^ 200) : a8u (.int a) (.int b) = some (.int (a / b)) := by
  rw [← Int.fdiv_eq_ediv_of_nonneg a (by omega)]
  exact if_pos ⟨by omega, aw8 (k := 200) (by omega) (by decide)⟩
theorem aj8 {a b : Int} (h : 0 < b) : ae3 (.int a) (.int b) = some (.int (a % b)) := by
  exact if_pos h
theorem aj9 {a b : Int} (h1 : -(2 ^ 200) < a) (h2 : a < 2 ^ 200) (h3 : -(2 ^ 200) < b) (h4 : b < 2 ^ 200) : al8 (.int a) (.int b) = some (.int (a * b)) := by
  exact if_pos ⟨aw8 (k := 200) (by omega) (by decide), aw8 (k := 200) (by omega) (by decide)⟩
theorem b1k {a b : Int} (h1 : 0 ≤ b) (h2 : b ≤ 1000) (h3 : a.natAbs < 2 ^ 64) : b41 (.int a) (.int b) = some (.int (a ^ b.toNat)) := by
  exact if_pos ⟨h1, by omega, h3⟩
theorem b47 (ds : List D) (i : Int) : ixD (.tup ds) (.int i) = atI ds i := rfl
theorem ae6 (o : Bool) (ds : List D) (i : Int) : ixD (.lst o ds) (.int i) = unO (atI ds i) := rfl
@[simp] theorem lenD_tup (ds : List D) : ai0 [.tup ds] = some (.int ds.length) := nr rfl
@[simp] theorem lenD_lst (o : Bool) (ds : List D) : ai0 [.lst o ds] = some (.int ds.length) := nr rfl
@[simp] theorem max2_int (i j : Int) : bd3 [.int i, .int j] = some (.int (if j > i then j else i)) := nr rfl
@[simp] theorem min2_int (i j : Int) : bc5 [.int i, .int j] = some (.int (if j < i then j else i)) := nr rfl
@[simp] theorem loopC_nil (step : D → C) (ρ : Env) : a1h step [] ρ = .nx ρ := nr rfl
@[simp] theorem loopC_cons (step : D → C) (d : D) (ds : List D) (ρ : Env) : a1h step (d :: ds) ρ = match step d ρ with
    | .nx ρ' => a1h step ds ρ'
    | .ct ρ' => a1h step ds ρ'
    | .bk ρ' => .nx ρ'
    | .rt x ρ' => .rt x ρ'
    | .ex x ρ' => .ex x ρ'
    | .bad => .bad := nr rfl
theorem a8w (a b : Int) : (rg a b).length = (b - a).toNat := by simp [rg]
theorem as7 {a b : Int} {i : Nat} {d : D} (h : (rg a b)[i]? = some d) : d = .int (a + i) ∧ a + i < b := by
  unfold rg at h
  rw [List.getElem?_map] at h
  cases e : (List.range (b - a).toNat)[i]? with
  | none => rw [e] at h; cases h
  | some j =>
    rw [e] at h
    obtain ⟨h1, h2⟩ := List.getElem?_eq_some_iff.mp e
    rw [List.getElem_range] at h2
    rw [List.length_range] at h1
    subst h2
    cases h
    exact ⟨rfl, by omega⟩
@[simp] theorem lc_nil (g : D → C) (tt : M Bool) (f : M D) (own : List Nat) (acc : List D) (ρ : Env) : a2g g tt f own [] acc ρ = .ok acc ρ := nr rfl
theorem af9 (g : D → C) (tt : M Bool) (f : M D) (own : List Nat) (d : D) (ds acc : List D) (ρ : Env) : a2g g tt f own (d :: ds) acc ρ = match g d ρ with
    | .nx ρ1 => (match tt ρ1 with
      | .ok k ρ2 => if k = true then (match f ρ2 with
          | .ok y ρ3 => if acc.length < 1000000 then a2g g tt f own ds (acc ++ [y]) (a1y ρ3 own) else .bad
          | _ => .bad) else a2g g tt f own ds acc (a1y ρ2 own)
      | _ => .bad)
    | _ => .bad := rfl
theorem b2q {g : D → C} {f : M D} {own : List Nat} {ρ : Env} (F : D → D) : ∀ (ds acc : List D), ds.length + acc.length ≤ 1000000 →
    (∀ d ∈ ds, ∃ ρ1 ρ3, g d ρ = .nx ρ1 ∧ f ρ1 = .ok (F d) ρ3 ∧ a1y ρ3 own = ρ) → a2g g a8o f own ds acc ρ = .ok (acc ++ ds.map F) ρ
  | [], acc, _, _ => by simp [a2g]
  | d :: ds, acc, hl, h => by
    obtain ⟨ρ1, ρ3, e1, e2, e3⟩ := h d List.mem_cons_self
    rw [List.length_cons] at hl
    rw [af9, e1]
    simp only [ev_yes, if_true, e2]
    rw [if_pos (by omega), e3, b2q F ds _ (by rw [List.length_append]; simp; omega) fun x hx => h x (List.mem_cons_of_mem _ hx)]
    simp
end
@[simp] theorem look_nm (ρ : Env) (i : Nat) : look ρ (.nm i) = match ρ[i]? with | some (some s) => some s.d | _ => none := nr rfl
@[simp] theorem look_va (ρ : Env) (d : D) : look ρ (.va d) = some d := nr rfl
@[simp] theorem lookL_nil (ρ : Env) : a3p ρ [] = some [] := nr rfl
@[simp] theorem lookL_cons (ρ : Env) (o : Opd) (os : List Opd) : a3p ρ (o :: os) = match look ρ o, a3p ρ os with | some d, some ds => some (d :: ds) | _, _ => none := nr rfl
@[simp] theorem vas_nil : vas [] = some [] := nr rfl
@[simp] theorem vas_cons (d : D) (os : List Opd) : vas (.va d :: os) = match vas os with | some ds => some (d :: ds) | none => none := nr rfl
@[simp] theorem prep_nil (ρ : Env) : prep [] [] ρ = some ([], ρ) := nr rfl
@[simp] theorem prep_f (io : List Bool) (d : D) (os : List Opd) (ρ : Env) : prep (false :: io) (.va d :: os) ρ = match prep io os ρ with | some (ds, ρ') => some (fr d :: ds, ρ') | none => none := nr rfl
@[simp] theorem prep_t (io : List Bool) (d : D) (os : List Opd) (ρ : Env) : prep (true :: io) (.va d :: os) ρ = match prep io os ρ with | some (ds, ρ') => some (d :: ds, ρ') | none => none := nr rfl
@[simp] theorem prep_n (io : List Bool) (i : Nat) (os : List Opd) (ρ : Env) : prep (true :: io) (.nm i :: os) ρ = match ρ[i]? with
    | some (some (.own d)) => (match prep io os (ρ.set i none) with | some (ds, ρ') => some (d :: ds, ρ') | none => none)
    | some (some (.io d)) => (match prep io os (ρ.set i none) with | some (ds, ρ') => some (d :: ds, ρ') | none => none)
    | _ => none := nr rfl
@[simp] theorem back_nil (ρ0 ρ : Env) : back ρ0 [] [] [] ρ = some ρ := nr rfl
@[simp] theorem back_f (ρ0 ρ : Env) (io : List Bool) (o : Opd) (os : List Opd) (ds : List D) : back ρ0 (false :: io) (o :: os) ds ρ = back ρ0 io os ds ρ := by cases o <;> rfl
@[simp] theorem back_t (ρ0 ρ : Env) (io : List Bool) (d x : D) (os : List Opd) (ds : List D) : back ρ0 (true :: io) (.va d :: os) (x :: ds) ρ = back ρ0 io os ds ρ := nr rfl
@[simp] theorem back_n (ρ0 ρ : Env) (io : List Bool) (i : Nat) (d : D) (os : List Opd) (ds : List D) : back ρ0 (true :: io) (.nm i :: os) (d :: ds) ρ = match ρ0[i]? with
    | some (some (.own _)) => back ρ0 io os ds (ρ.set i (some (.own d)))
    | some (some (.io _)) => back ρ0 io os ds (ρ.set i (some (.io d)))
    | _ => none := nr rfl
@[simp] theorem slotOf_eq (ρ : Env) (i : Nat) : u6 ρ i = match ρ[i]? with | some (some s) => some s | _ => none := nr rfl
@[simp] theorem d_own (d : D) : (Slot.own d).d = d := nr rfl
@[simp] theorem d_io (d : D) : (Slot.io d).d = d := nr rfl
@[simp] theorem d_lent (d : D) : (Slot.lent d).d = d := nr rfl
@[simp] theorem sw_own (d x : D) : (Slot.own d).sw x = .own x := nr rfl
@[simp] theorem sw_io (d x : D) : (Slot.io d).sw x = .io x := nr rfl
@[simp] theorem may_own (d : D) : (Slot.own d).may = true := nr rfl
@[simp] theorem may_io (d : D) : (Slot.io d).may = true := nr rfl
@[simp] theorem isLst_lst (o : Bool) (xs : List D) : a7h (.lst o xs) = true := nr rfl
@[simp] theorem ow_lt (xs : List D) : owned (.lst true xs) = true := nr rfl
@[simp] theorem ow_lf (xs : List D) : owned (.lst false xs) = false := nr rfl
@[simp] theorem ow_dt (tk : Bool) (ks : List DK) (xs : List D) : owned (.dic true tk ks xs) = true := nr rfl
@[simp] theorem ow_df (tk : Bool) (ks : List DK) (xs : List D) : owned (.dic false tk ks xs) = false := nr rfl
@[simp] theorem ow_i (i : Int) : owned (.int i) = false := nr rfl
@[simp] theorem ow_b (i : Bool) : owned (.bl i) = false := nr rfl
@[simp] theorem ow_s (i : Str) : owned (.str i) = false := nr rfl
@[simp] theorem ow_t (xs : List D) : owned (.tup xs) = false := nr rfl
@[simp] theorem ow_pr (xs : List D) : owned (.pr xs) = false := nr rfl
@[simp] theorem ow_n : owned .non = false := nr rfl
@[simp] theorem ow_sc (ns : List Int) : owned (.scr ns) = false := nr rfl
@[simp] theorem fr_i (i : Int) : fr (.int i) = .int i := nr rfl
@[simp] theorem fr_b (i : Bool) : fr (.bl i) = .bl i := nr rfl
@[simp] theorem fr_s (i : Str) : fr (.str i) = .str i := nr rfl
@[simp] theorem fr_t (xs : List D) : fr (.tup xs) = .tup xs := nr rfl
@[simp] theorem fr_pr (xs : List D) : fr (.pr xs) = .pr xs := nr rfl
@[simp] theorem fr_n : fr .non = .non := nr rfl
@[simp] theorem fr_sc (ns : List Int) : fr (.scr ns) = .scr ns := nr rfl
@[simp] theorem fr_lf (xs : List D) : fr (.lst false xs) = .lst false xs := nr rfl
@[simp] theorem fr_lt (xs : List D) : fr (.lst true xs) = .lst false (frL xs) := nr rfl
@[simp] theorem frL_nil : frL [] = [] := nr rfl
@[simp] theorem frL_cons (d : D) (ds : List D) : frL (d :: ds) = fr d :: frL ds := nr rfl
@[simp] theorem frL_ints (ns : List Int) : frL (ns.map .int) = ns.map .int := by rw [ar9]; simp
@[simp] theorem wipe_nil (ρ : Env) : a1y ρ [] = ρ := nr rfl
@[simp] theorem wipe_cons (ρ : Env) (i : Nat) (r : List Nat) : a1y ρ (i :: r) = a1y (ρ.set i none) r := nr rfl
@[simp] theorem rest_nil (ρ0 ρ : Env) : a4m ρ0 ρ [] = ρ := nr rfl
@[simp] theorem rest_cons (ρ0 ρ : Env) (i : Nat) (r : List Nat) : a4m ρ0 ρ (i :: r) = a4m ρ0 (ρ.set i (match ρ0[i]? with | some o => o | none => none)) r := nr rfl
@[simp] theorem okOwn_nil (ρ : Env) : a5u ρ [] = true := nr rfl
@[simp] theorem okOwn_cons (ρ : Env) (i : Nat) (r : List Nat) : a5u ρ (i :: r) = ((match ρ[i]? with | some none => true | some (some (.own d)) => !owned d | _ => false) && a5u ρ r) := nr rfl
@[simp] theorem outs_nil (k : Nat) (ρ : Env) : a2l k [] ρ = some [] := nr rfl
@[simp] theorem outs_f (k : Nat) (r : List Bool) (ρ : Env) : a2l k (false :: r) ρ = a2l (k + 1) r ρ := nr rfl
@[simp] theorem outs_t (k : Nat) (r : List Bool) (ρ : Env) : a2l k (true :: r) ρ = (match ρ[k]? with
    | some (some (.io d)) => (match a2l (k + 1) r ρ with | some ds => some (d :: ds) | none => none)
    | _ => none) := nr rfl
@[simp] theorem fill_nil (k : Nat) (ds : List D) (ρ : Env) : a9j k [] ds ρ = ρ := nr rfl
@[simp] theorem fill_cons (k : Nat) (io : Bool) (r : List Bool) (d : D) (ds : List D) (ρ : Env) : a9j k (io :: r) (d :: ds) ρ = a9j (k + 1) r ds (ρ.set k (some (if io = true then .io d else .own d))) := nr rfl
@[simp] theorem keys_nil : keysOf [] = some [] := nr rfl
@[simp] theorem keys_i (i : Int) (d : D) (r : List (D × D)) : keysOf ((.int i, d) :: r) = match keysOf r with | some ks => some (.inl i :: ks) | none => none := nr rfl
@[simp] theorem keys_s (x : Str) (d : D) (r : List (D × D)) : keysOf ((.str x, d) :: r) = match keysOf r with | some ks => some (.inr x :: ks) | none => none := nr rfl
@[simp] theorem seq_t (xs : List D) : b5d (.tup xs) = some xs := nr rfl
@[simp] theorem seq_f (xs : List D) : b5d (.lst false xs) = some xs := nr rfl
@[simp] theorem seq_lt (xs : List D) : b5d (.lst true xs) = some (frL xs) := nr rfl
@[simp] theorem slD_tup (ds : List D) (lo hi : Option Int) : slD (.tup ds) lo hi = some (.tup (a8b ds lo hi)) := nr rfl
@[simp] theorem slD_scr (ns : List Int) (lo hi : Option Int) : slD (.scr ns) lo hi = some (.lst true ((a8b ns lo hi).map .int)) := nr rfl
theorem b2g {d : D} (h : owned d = false) : unO (some d) = some d := by simp [unO, h]
@[simp] theorem unO_int (i : Int) : unO (some (.int i)) = some (.int i) := nr rfl
theorem az1 (ns : List Int) : a0d (ns.map .int) = true := by
  unfold a0d; rw [List.all_eq_true]; intro d hd; obtain ⟨i, _, rfl⟩ := List.mem_map.mp hd; rfl
@[simp] theorem b4p (a b : Str) : neD (.str a) (.str b) = some (.bl (decide (a ≠ b))) := by
  simp [neD, eqB, flat, scal]
@[simp] theorem b2y (a b : Str) : eqD (.str a) (.str b) = some (.bl (decide (a = b))) := by
  simp [eqD, eqB, flat, scal]
theorem au0 : ∀ ns : List Int, a0l (ns.map .int) = some (ns.map .int)
  | [] => rfl
  | n :: ns => by
    show (match toPy (.int n), a0l (ns.map .int) with | some p, some ps => some (p :: ps) | _, _ => none) = _
    rw [au0 ns]; rfl
theorem lay_ints : ∀ ns : List Int, PyData.canLayAll0 (ns.map .int) = true
  | [] => by simp [PyData.canLayAll0]
  | n :: ns => by simp [PyData.canLayAll0, PyData.canLay0, lay_ints ns]
theorem ak5 : ∀ ns : List Int, PyData.depthAll (ns.map .int) = 0
  | [] => by simp [PyData.depthAll]
  | n :: ns => by simp [PyData.depthAll, PyData.depth, ak5 ns]
theorem ax6 (o : Bool) (ns : List Int) : neD (.lst o (ns.map .int)) (.lst true []) = some (.bl (decide (ns ≠ []))) := by
  have e1 : toPy (.lst o (ns.map .int)) = some (.list (ns.map .int)) := by
    show (match a0l (ns.map .int) with | some ps => some (PyData.list ps) | none => none) = _
    rw [au0]
  have e2 : toPy (.lst true []) = some (.list []) := rfl
  have s1 : SeqAt.shaped (.list (ns.map .int)) = true := by
    simp [SeqAt.shaped, PyData.canLay0, PyData.depth, lay_ints, ak5]
  have s2 : SeqAt.shaped (.list []) = true := by
    simp [SeqAt.shaped, PyData.canLay0, PyData.depth, PyData.canLayAll0, PyData.depthAll]
  have f : eqB (.lst o (ns.map .int)) (.lst true []) = some (PyData.eqv (.list (ns.map .int)) (.list [])) := by
    show (match toPy (.lst o (ns.map .int)), toPy (.lst true []) with
      | some p, some q => if SeqAt.shaped p = true ∧ SeqAt.shaped q = true then some (PyData.eqv p q) else none
      | _, _ => none) = _
    rw [e1, e2]
    exact if_pos ⟨s1, s2⟩
  unfold neD
  rw [f]
  cases ns <;> simp [PyData.eqv, PyData.eqvAll]
def OwnS (x : Option Slot) : Prop := x = none ∨ ∃ d, x = some (.own d)
@[simp] theorem OwnS.none : OwnS none := .inl rfl
@[simp] theorem OwnS.own (d : D) : OwnS (some (.own d)) := .inr ⟨d, rfl⟩
theorem b85 {i : Nat} {d : D} {ρ : Env} {x : Option Slot} (h : ρ[i]? = some x) (hx : OwnS x) : putS i d ρ = .nx (ρ.set i (some (.own d))) := by
  rw [ev_put, h]
  rcases hx with rfl | ⟨d, rfl⟩ <;> rfl
end Dv
namespace Dv
open PySem L2 PySem.Spec PyProof.Rows
theorem av0 {α : Type} {xs : List α} {k : Nat} (h : k ≤ xs.length) : a8b xs (some (k : Int)) none = xs.drop k := by
  unfold a8b
  rw [HT.sIx_nat, HT.sIx_none, Nat.min_eq_left h]
  exact List.take_of_length_le (by simp)
def ksR (n : Nat) : List DK := (List.range n).map fun (j : Nat) => .k (.inl (j : Int))
theorem ints_map : ∀ ns : List Int, a2j (ns.map .int) = some ns
  | [] => rfl
  | n :: ns => by
    show (match a2j (ns.map .int) with | some xs => some (n :: xs) | none => none) = _
    rw [ints_map ns]
structure Shows (p : PyData) (n d : Nat) : Prop where
  sh : p.showable = true
  mes : mes p ≤ n
  dep : p.depth ≤ d
structure ShowsL (p : List PyData) (n d : Nat) : Prop where
  sh : PyData.showableAll p = true
  mes : b2d p ≤ n
  dep : PyData.depthAll p ≤ d
theorem ShowsL.nil : ShowsL [] 0 0 := ⟨by simp [PyData.showableAll], by simp [Dv.b2d], by simp [PyData.depthAll]⟩
theorem ShowsL.cons {p : PyData} {ps : List PyData} {n m d : Nat} (h : Shows p n d) (hs : ShowsL ps m d) : ShowsL (p :: ps) (n + 2 + m) d :=
  ⟨by simp [PyData.showableAll, h.sh, hs.sh], by have := h.mes; have := hs.mes; simp only [Dv.b2d]; omega, by have := h.dep; have := hs.dep; simp only [PyData.depthAll]; omega⟩
theorem ShowsL.up {ps : List PyData} {n d n' d' : Nat} (h : ShowsL ps n d) (hn : n ≤ n') (hd : d ≤ d') : ShowsL ps n' d' := ⟨h.sh, Nat.le_trans h.mes hn, Nat.le_trans h.dep hd⟩
theorem Shows.up {ps : PyData} {n d n' d' : Nat} (h : Shows ps n d) (hn : n ≤ n') (hd : d ≤ d') : Shows ps n' d' := ⟨h.sh, Nat.le_trans h.mes hn, Nat.le_trans h.dep hd⟩
theorem Shows.tup {ps : List PyData} {n d : Nat} (h : ShowsL ps n d) : Shows (.tuple ps) (n + 3) (d + 1) :=
  ⟨by simp [PyData.showable, h.sh], by have := h.mes; simp only [Dv.mes]; omega, by have := h.dep; simp only [PyData.depth]; omega⟩
theorem Shows.lst {ps : List PyData} {n d : Nat} (h : ShowsL ps n d) : Shows (.list ps) (n + 3) (d + 1) :=
  ⟨by simp [PyData.showable, h.sh], by have := h.mes; simp only [Dv.mes]; omega, by have := h.dep; simp only [PyData.depth]; omega⟩
theorem Shows.int {i : Int} (h : i.natAbs < 2 ^ 1000) (d : Nat) : Shows (.int i) 2000 d := by
  have hl : i.natAbs.log2 < 1000 := by
    by_cases h0 : i.natAbs = 0
    · rw [h0]; decide
    · exact (Nat.log2_lt h0).mpr h
  refine ⟨?_, by simp only [Dv.mes]; omega, by simp [PyData.depth]⟩
  simp only [PyData.showable, decide_eq_true_eq]
  omega
theorem Shows.intK {i : Int} {k : Nat} (h : i.natAbs < 2 ^ k) (hk : k ≤ 1900) (d : Nat) : Shows (.int i) (k + 2) d := by
  have hl : i.natAbs.log2 ≤ k := by
    by_cases h0 : i.natAbs = 0
    · rw [h0]; exact Nat.zero_le _
    · exact Nat.le_of_lt ((Nat.log2_lt h0).mpr h)
  refine ⟨?_, by simp only [Dv.mes]; omega, by simp [PyData.depth]⟩
  simp only [PyData.showable, decide_eq_true_eq]
  omega
theorem Shows.bool {i : Bool} (d : Nat) : Shows (.bool i) 5 d := ⟨by simp [PyData.showable], by simp [Dv.mes], by simp [PyData.depth]⟩
theorem ShowsL.all {ps : List PyData} {n d : Nat} (h : ∀ p ∈ ps, Shows p n d) : ShowsL ps (ps.length * (n + 2)) d := by
  induction ps with
  | nil => exact ShowsL.nil.up (Nat.zero_le _) (Nat.zero_le _)
  | cons p ps ih => exact (ShowsL.cons (h p List.mem_cons_self) (ih fun q hq => h q (List.mem_cons_of_mem _ hq))).up (by rw [List.length_cons, Nat.add_mul]; omega) (Nat.le_refl _)
theorem af1 {d : D} {p : PyData} (e : toPy d = some p) (h : Shows p 1000000 60) : a5t [d] = some (.str p.shown) := by
  show (match toPy d with | some p => if p.showable = true ∧ mes p ≤ 1000000 ∧ p.depth ≤ 60 then some (D.str p.shown) else none | none => none) = _
  rw [e]
  exact if_pos ⟨h.sh, h.mes, h.dep⟩
theorem a79 {xs : List D} {ps : List PyData} (h : a0l xs = some ps) : toPy (.tup xs) = some (.tuple ps) := by
  show (match a0l xs with | some ps => some (PyData.tuple ps) | none => none) = _
  rw [h]
theorem al4 {o : Bool} {xs : List D} {ps : List PyData} (h : a0l xs = some ps) : toPy (.lst o xs) = some (.list ps) := by
  show (match a0l xs with | some ps => some (PyData.list ps) | none => none) = _
  rw [h]
theorem a3s {x : D} {xs : List D} {p : PyData} {ps : List PyData} (h : toPy x = some p) (hs : a0l xs = some ps) : a0l (x :: xs) = some (p :: ps) := by
  show (match toPy x, a0l xs with | some p, some ps => some (p :: ps) | _, _ => none) = _
  rw [h, hs]
theorem a66 {α : Type} {f : α → D} {g : α → PyData} (h : ∀ a, toPy (f a) = some (g a)) : ∀ xs : List α, a0l (xs.map f) = some (xs.map g)
  | [] => rfl
  | a :: xs => a3s (h a) (a66 h xs)
end Dv
namespace Dv
open PySem L2 PySem.Spec PyProof.Rows
def a7k : List D → Option (List Str)
  | [] => some []
  | .str i :: ds => match a7k ds with | some ns => some (i :: ns) | none => none
  | _ => none
def inT (x : D) (ds : List D) : Option Bool := match toPy x, a0l ds with
  | some p, some ps => if SeqAt.shaped p = true ∧ SeqAt.shaped (.list ps) = true then some (ps.any fun z => PyData.eqv z p) else none
  | _, _ => none
def inB : D → D → Option Bool
  | x, .lst _ ds => (match toPy x, a0l ds with
    | some p, some ps => if SeqAt.shaped p = true ∧ SeqAt.shaped (.list ps) = true then some (ps.any fun z => PyData.eqv z p) else none
    | _, _ => none)
  | .int i, .tup ds => (match a2j ds with | some ns => some (decide (i ∈ ns)) | none => inT (.int i) ds)
  | .str x, .tup ds => (match a7k ds with | some ns => some (decide (x ∈ ns)) | none => inT (.str x) ds)
  | .tup xs, .tup ds => inT (.tup xs) ds
  | .non, .tup ds => inT .non ds
  | .str x, .str z => (match x.cps.toList with | [c] => some (decide (c ∈ z.cps.toList)) | _ => none)
  | k, .dic _ tk ks vs => (match keyD k with | some q => if a7g tk q = true then some (a0y ks vs q).isSome else none | none => none)
  | _, _ => none
def inD (x y : D) : Option D := match inB x y with | some b => some (.bl b) | none => none
def niD (x y : D) : Option D := match inB x y with | some b => some (.bl (!b)) | none => none
def bi0 : R2 := fun y x H Q => ∃ a o, x = .ref a ∧ DGet H a y o ∧ Q (.bl o.isSome) H
def bh4 : R2 := fun y x H Q => ∃ a o, x = .ref a ∧ DGet H a y o ∧ Q (.bl (!o.isSome)) H
def b95 (K : PySem.W.Frag) : R2 := fun x y H Q => ∃ d ds, Dp K H x d ∧ (Dp K H y (.list ds) ∨ Dp K H y (.tuple ds)) ∧ SeqAt.shaped d = true ∧ SeqAt.shaped (.list ds) = true ∧ Q (.bl (ds.any fun z => PyData.eqv z d)) H
def ak6 (K : PySem.W.Frag) : R2 := fun x y H Q => ∃ d ds, Dp K H x d ∧ (Dp K H y (.list ds) ∨ Dp K H y (.tuple ds)) ∧ SeqAt.shaped d = true ∧ SeqAt.shaped (.list ds) = true ∧ Q (.bl (!ds.any fun z => PyData.eqv z d)) H
def bh6 (K : PySem.W.Frag) : R2 := fun x y H Q => bi0 x y H Q ∨ b95 K x y H Q ∨ rIn K false x y H Q ∨ rInS x y H Q
def bh0 (K : PySem.W.Frag) : R2 := fun x y H Q => bh4 x y H Q ∨ ak6 K x y H Q ∨ rIn K true x y H Q ∨ rNotInS x y H Q
section
variable {X : Cx} {K : PySem.W.Frag} {Z : Zt} {W : WX} {H : Hp} {S : Reg}
theorem b7r (hu : X.A.units + 1 < cLine) : OpR X (compareOp .In) bi0 := by
  intro pins s σ H x y v u Q I rx ry h
  obtain ⟨a, o, rfl, g, q⟩ := h
  obtain rfl : u = Value.ref a := ry
  exact d_in hu I g rx fun s3 I3 => ⟨.bl o.isSome, H, I3, rfl, q⟩
theorem b8e (hu : X.A.units + 1 < cLine) : OpR X (compareOp .NotIn) bh4 := by
  intro pins s σ H x y v u Q I rx ry h
  obtain ⟨a, o, rfl, g, q⟩ := h
  obtain rfl : u = Value.ref a := ry
  exact d_notIn hu I g rx fun s3 I3 => ⟨.bl (!o.isSome), H, I3, rfl, q⟩
theorem b55 (hu : X.A.units + 65 < cLine) : OpR X (compareOp .In) (b95 X.K) := by
  intro pins s σ H x y v u Q I rx ry h
  obtain ⟨d, ds, hd, he, sd, se, q⟩ := h
  obtain ⟨as, r1⟩ := Dp.reads I d x v hd rx
  rcases he with he | he
  · obtain ⟨bs, r2⟩ := Dp.reads I (.list ds) y u he ry
    exact SeqAt.in_list_reads r2 r1 (SeqAt.canLay_of_shaped se) (SeqAt.canLay_of_shaped sd) (room_in_shaped sd hu) ⟨.bl _, H, I, rfl, q⟩
  · obtain ⟨bs, r2⟩ := Dp.reads I (.tuple ds) y u he ry
    exact SeqAt.in_tuple_reads r2 r1 (SeqAt.canLay_of_shaped se) (SeqAt.canLay_of_shaped sd) (room_in_shaped sd hu) ⟨.bl _, H, I, rfl, q⟩
theorem al7 (hu : X.A.units + 65 < cLine) : OpR X (compareOp .NotIn) (ak6 X.K) := by
  intro pins s σ H x y v u Q I rx ry h
  obtain ⟨d, ds, hd, he, sd, se, q⟩ := h
  obtain ⟨as, r1⟩ := Dp.reads I d x v hd rx
  rcases he with he | he
  · obtain ⟨bs, r2⟩ := Dp.reads I (.list ds) y u he ry
    exact SeqAt.notIn_list_reads r2 r1 (SeqAt.canLay_of_shaped se) (SeqAt.canLay_of_shaped sd) (room_in_shaped sd hu) ⟨.bl _, H, I, rfl, q⟩
  · obtain ⟨bs, r2⟩ := Dp.reads I (.tuple ds) y u he ry
    exact SeqAt.notIn_tuple_reads r2 r1 (SeqAt.canLay_of_shaped se) (SeqAt.canLay_of_shaped sd) (room_in_shaped sd hu) ⟨.bl _, H, I, rfl, q⟩
theorem b8l (hu : X.A.units + 65 < cLine) : OpR X (compareOp .In) (bh6 X.K) := (b7r (by omega)).or ((b55 hu).or (op_in_seq.or op_inS))
theorem b7u (hu : X.A.units + 65 < cLine) : OpR X (compareOp .NotIn) (bh0 X.K) := (b8e (by omega)).or ((al7 hu).or (op_notIn_seq.or op_notInS))
theorem look_none {κ : Type} [DecidableEq κ] (c : κ → DK) : ∀ {kk : List κ} {vs : List V} {ds : List D} {q : κ}, ViewL Z H S vs ds → kk.length = vs.length → a0y (kk.map c) ds (c q) = none → valV (kk.zip vs) q = none
  | [], _, _, _, _, _, _ => by simp [valV]
  | k :: kk, _, [], _, h, l, _ => by cases h; cases l
  | k :: kk, _, d :: ds, q, h, l, e => by
    cases h with
    | cons h1 h2 =>
      rw [List.map_cons] at e
      unfold a0y at e
      rw [List.zip_cons_cons]
      by_cases hk : k = q
      · subst hk
        rw [if_pos rfl] at e
        cases e
      · rw [valV_neg (p := (k, _)) hk]
        refine look_none c h2 (by simpa using l) ?_
        by_cases hc : c k = c q
        · rw [if_pos hc] at e; cases e
        · rw [if_neg hc] at e; exact e
theorem ai3 (I : InvS K Z H S) {a : Addr} {tk : Bool} {ks : List DK} {vs : List V} {ds : List D} {k : D} {y : V} {q : DK} (h : DicRd H a tk ks vs) (hv : ViewL Z H S vs ds) (hy : View Z H S y k) (hq : keyD k = some q) (ht : a7g tk q = true) :
    ∃ o, DGet H a y o ∧ (match a0y ks ds q with | some d => ∃ v, o = some v ∧ View Z H S v d | none => o = none) := by
  cases e : a0y ks ds q with
  | some d =>
    obtain ⟨v, h1, h2⟩ := ag3 I h hv hy hq e
    exact ⟨some v, h1, v, rfl, h2⟩
  | none =>
    refine ⟨none, ?_, rfl⟩
    rcases h with ⟨rfl, kk, rfl, hnd, hl, ha⟩ | ⟨rfl, xs, rfl, hl, ha⟩
    · cases q with
      | t xs => cases ht
      | k k0 =>
        have n := look_none .k hv hl e
        refine .inl ⟨kk.zip vs, k0, ha, ?_, n.symm⟩
        cases k with
        | int i => cases hq; exact hy.int
        | str x => cases hq; exact hy.str
        | _ => cases hq
    · cases q with
      | k xs => cases ht
      | t k0 =>
        cases k with
        | int i => cases hq
        | str x => cases hq
        | _ => cases hq
theorem a7u : ∀ {ds : List D} {vs : List V} {ns : List Str}, ViewL Z H S vs ds → a7k ds = some ns → vs = ns.map V.str
  | [], _, _, h, e => by cases h; cases e; rfl
  | d :: ds, _, ns, h, e => by
    cases h with
    | cons h1 h2 =>
      cases d with
      | str i =>
        unfold a7k at e
        cases e2 : a7k ds with
        | none => rw [e2] at e; cases e
        | some qs => rw [e2] at e; cases e; rw [a7u h2 e2, h1.str]; rfl
      | _ => cases e
theorem ai5 (i : Int) : ∀ ns : List Int, inV (.int i) (ns.map V.int) = decide (i ∈ ns)
  | [] => rfl
  | n :: ns => by
    have := ai5 i ns
    unfold inV at this ⊢
    rw [List.map_cons, List.any_cons, this]
    show ((n == i) || _) = _
    by_cases h : n = i
    · simp [h]
    · have h' : ¬ i = n := fun z => h z.symm
      simp [h, h']
theorem ai4 (i : Str) : ∀ ns : List Str, inV (.str i) (ns.map V.str) = decide (i ∈ ns)
  | [] => rfl
  | n :: ns => by
    have := ai4 i ns
    unfold inV at this ⊢
    rw [List.map_cons, List.any_cons, this]
    show ((n == i) || _) = _
    by_cases h : n = i
    · simp [h]
    · have h' : ¬ i = n := fun z => h z.symm
      simp [h, h']
theorem ay0 (ns : List Int) : (ns.map V.int).all flatV = true := by simp [flatV]
theorem flat_strs (ns : List Str) : (ns.map V.str).all flatV = true := by simp [flatV]
theorem a7l {x y : V} {dx : D} {ds : List D} {b : Bool} (I : InvS K Z H S) (vx : View Z H S x dx) (vy : View Z H S y (.tup ds)) (e : inT dx ds = some b) :
    ∃ d ds, Dp K H x d ∧ (Dp K H y (.list ds) ∨ Dp K H y (.tuple ds)) ∧ SeqAt.shaped d = true ∧ SeqAt.shaped (.list ds) = true ∧ (ds.any fun z => PyData.eqv z d) = b := by
  unfold inT at e
  split at e
  · rename_i p ps h1 h2
    split at e
    · rename_i hs
      cases e
      have hl : toPy (.tup ds) = some (.tuple ps) := a79 h2
      exact ⟨p, ps, a2h I _ vx h1, .inr (a2h I _ vy hl), hs.1, hs.2, rfl⟩
    · cases e
  · cases e
theorem ay8 {x y : V} {dx dy : D} {b : Bool} (I : InvS K Z H S) (vx : View Z H S x dx) (vy : View Z H S y dy) (e : inB dx dy = some b) :
    (∃ a o, y = .ref a ∧ DGet H a x o ∧ o.isSome = b) ∨ (∃ d ds, Dp K H x d ∧ (Dp K H y (.list ds) ∨ Dp K H y (.tuple ds)) ∧ SeqAt.shaped d = true ∧ SeqAt.shaped (.list ds) = true ∧ (ds.any fun z => PyData.eqv z d) = b) ∨
      (∃ p xs, y = .ref p ∧ (SqL K H p xs ∨ SqT K H p xs) ∧ flatV x = true ∧ xs.all flatV = true ∧ inV x xs = b) ∨ (∃ (c : Nat) (z : Str), x = .str ⟨#[c]⟩ ∧ y = .str z ∧ decide (c ∈ z.cps.toList) = b) := by
  unfold inB at e
  split at e
  · rename_i o ds
    split at e
    · rename_i p ps h1 h2
      split at e
      · rename_i hs
        cases e
        have hl : toPy (.lst o ds) = some (.list ps) := al4 h2
        exact .inr (.inl ⟨p, ps, a2h I _ vx h1, .inl (a2h I _ vy hl), hs.1, hs.2, rfl⟩)
      · cases e
    · cases e
  · rename_i i ds
    split at e
    · rename_i ns h1
      cases e
      obtain ⟨p, vs, rfl, hp, hv⟩ := vy.tup I
      obtain rfl := vx.int
      have := a4q (ShL.views I hv) h1
      subst this
      exact .inr (.inr (.inl ⟨p, _, rfl, .inr hp.sq, rfl, ay0 ns, ai5 i ns⟩))
    · exact .inr (.inl (a7l I vx vy e))
  · rename_i i ds
    split at e
    · rename_i ns h1
      cases e
      obtain ⟨p, vs, rfl, hp, hv⟩ := vy.tup I
      obtain rfl := vx.str
      have := a7u (ShL.views I hv) h1
      subst this
      exact .inr (.inr (.inl ⟨p, _, rfl, .inr hp.sq, rfl, flat_strs ns, ai4 i ns⟩))
    · exact .inr (.inl (a7l I vx vy e))
  · exact .inr (.inl (a7l I vx vy e))
  · exact .inr (.inl (a7l I vx vy e))
  · rename_i x z
    split at e
    · rename_i c hc
      cases e
      obtain rfl := vx.str
      obtain rfl := vy.str
      refine .inr (.inr (.inr ⟨c, z, ?_, rfl, rfl⟩))
      congr 1
      cases x with
      | mk cps => cases cps with
        | mk l => cases hc; rfl
    · cases e
  · rename_i o tk ks vs
    split at e
    · rename_i q hq
      split at e
      · rename_i ht
        cases e
        obtain ⟨a, ws, rfl, ha, hw⟩ := vy.dic I
        obtain ⟨o, h1, h2⟩ := ai3 I ha hw vx hq ht
        refine .inl ⟨a, o, rfl, h1, ?_⟩
        cases e3 : a0y ks vs q with
        | none => rw [e3] at h2; rw [h2]; rfl
        | some d => rw [e3] at h2; obtain ⟨v, rfl, _⟩ := h2; rfl
      · cases e
    · cases e
  · cases e
theorem bc3 : a8n K Z (bh6 K) inD := by
  intro H S x y dx dy d Q I vx vy e g
  unfold inD at e
  cases e2 : inB dx dy with
  | none => rw [e2] at e; cases e
  | some b =>
    rw [e2] at e
    cases e
    rcases ay8 I vx vy e2 with ⟨a, o, h1, h2, h3⟩ | ⟨p, ps, h1, h2, h3, h4, h5⟩ | ⟨p, xs, h1, h2, h3, h4, h5⟩ | ⟨c, z, h1, h2, h3⟩
    · exact .inl ⟨a, o, h1, h2, by rw [h3]; exact g.flat I rfl⟩
    · exact .inr (.inl ⟨p, ps, h1, h2, h3, h4, by rw [h5]; exact g.flat I rfl⟩)
    · exact .inr (.inr (.inl ⟨p, xs, h1, h2, h3, h4, by rw [if_neg (by decide), h5]; exact g.flat I rfl⟩))
    · exact .inr (.inr (.inr ⟨c, z, h1, h2, by rw [h3]; exact g.flat I rfl⟩))
theorem be8 : a8n K Z (bh0 K) niD := by
  intro H S x y dx dy d Q I vx vy e g
  unfold niD at e
  cases e2 : inB dx dy with
  | none => rw [e2] at e; cases e
  | some b =>
    rw [e2] at e
    cases e
    rcases ay8 I vx vy e2 with ⟨a, o, h1, h2, h3⟩ | ⟨p, ps, h1, h2, h3, h4, h5⟩ | ⟨p, xs, h1, h2, h3, h4, h5⟩ | ⟨c, z, h1, h2, h3⟩
    · exact .inl ⟨a, o, h1, h2, by rw [h3]; exact g.flat I rfl⟩
    · exact .inr (.inl ⟨p, ps, h1, h2, h3, h4, by rw [h5]; exact g.flat I rfl⟩)
    · exact .inr (.inr (.inl ⟨p, xs, h1, h2, h3, h4, by rw [if_pos rfl, h5]; exact g.flat I rfl⟩))
    · exact .inr (.inr (.inr ⟨c, z, h1, h2, by rw [h3]; exact g.flat I rfl⟩))
variable {a b : Expr} {f g : M Opd} {pos : Pos}
theorem ax9 (hu : X.A.units + 65 < cLine) (ha : SO X Z W a f) (hb : SO X Z W b g) (hm : behindInMarks .In b = false := by rfl) : ST X Z W (.Compare a [.In] [b] pos) (tst (op2 inD f g)) := a76 (b8l hu) bc3 ha hb hm
theorem be1 (hu : X.A.units + 65 < cLine) (ha : SO X Z W a f) (hb : SO X Z W b g) (hm : behindInMarks .NotIn b = false := by rfl) : ST X Z W (.Compare a [.NotIn] [b] pos) (tst (op2 niD f g)) := a76 (b7u hu) be8 ha hb hm
def isNon : D → Bool | .non => true | _ => false
def bs3 : D → D → Option D
  | x, .non => some (.bl (isNon x))
  | _, _ => none
def bl6 : D → D → Option D
  | x, .non => some (.bl (!isNon x))
  | _, _ => none
def ae7 : D → Bool | .dic _ false _ _ => true | _ => false
def getD : D → D → Option D
  | .dic _ tk ks vs, k => (match keyD k with | some q => if a7g tk q = true then (match a0y ks vs q with | some d => if owned d = true then none else some d | none => some .non) else none | none => none)
  | _, _ => none
def bg7 (f g : M Opd) : M D := M.bind f fun o ρ1 => match look ρ1 o with
  | some d0 => if ae7 d0 = true then M.bind g (fun k ρ2 => match look ρ2 o, look ρ2 k with | some d, some q => a6f (getD d q) ρ2 | _, _ => .bad) ρ1 else .bad
  | none => .bad
theorem b68 (I : InvS K Z H S) {v : V} {d : D} (h : View Z H S v d) (e : ae7 d = true) : ∃ a, v = .ref a ∧ IsD H a := by
  cases d with
  | dic o tk ks ds =>
    cases tk with
    | true => cases e
    | false =>
    obtain ⟨a, vs, rfl, ha, _⟩ := h.dic I
    refine ⟨a, rfl, ?_⟩
    rcases ha with ⟨_, kk, _, _, _, ha⟩ | ⟨z, _⟩
    · exact .inl ⟨_, ha⟩
    · cases z
  | _ => cases e
@[simp ↓] theorem ev_get (f g : M Opd) (ρ : Env) : bg7 f g ρ = match f ρ with
  | .ok o ρ1 => (match look ρ1 o with
    | some d0 => if ae7 d0 = true then (match g ρ1 with
      | .ok k ρ2 => (match look ρ2 o, look ρ2 k with | some d, some q => a6f (getD d q) ρ2 | _, _ => .bad)
      | .ex x ρ' => .ex x ρ' | .bad => .bad) else .bad
    | none => .bad)
  | .ex x ρ' => .ex x ρ' | .bad => .bad := by
  unfold bg7 M.bind
  cases f ρ <;> first | rfl | skip
  rename_i o ρ1
  simp only
  cases look ρ1 o with
  | none => rfl
  | some d0 =>
    simp only
    split
    · cases g ρ1 <;> rfl
    · rfl
end
theorem a4f {k : Nat} {A : Around} (r : Room k A) : A.units + 65 < cLine := by have := r.un; omega
end Dv
namespace Dv
open PySem L2 PySem.Spec PyProof.Rows
theorem b46 {io : List Bool} {m : List D → RF} {f : M (List Opd)} {os : List Opd} {ρ ρ0 ρ1 ρ2 : Env} {ds outs : List D} {d : D} (hf : f ρ = .ok os ρ0) (hp : prep io os ρ0 = some (ds, ρ1)) (hm : m ds = .ok d outs) (hb : back ρ0 io os outs ρ1 = some ρ2) : callC io m f ρ = .ok d ρ2 := by
  rw [ev_call, hf]
  simp only [hp, hm, hb]
theorem be6 {i : Nat} {d : D} {ρ : Env} (h : ρ[i]? = some (some (.own d))) (o : owned d = false) : rdN i ρ = .ok d ρ := by
  rw [ev_rd, h]
  simp [o]
theorem b9p {it : M (List D)} {g : D → C} {tt : M Bool} {f : M D} {own : List Nat} {ρ ρ1 ρ' : Env} {ds acc : List D} (h : it ρ = .ok ds ρ1) (ho : a5u ρ1 own = true) (hl : a2g g tt f own ds [] (a1y ρ1 own) = .ok acc ρ') : lcM it g tt f own ρ = .ok (.lst true acc) (a4m ρ1 ρ' own) := by
  rw [ev_lc, h]
  simp only [if_pos ho, hl]
end Dv
namespace Dv
open PySem L2 PySem.Spec PyProof.Rows
def aq4 (i j l : Nat) (f : M (List Opd)) : C := fun ρ => match f ρ with
  | .ok os ρ' => (match vas os with | some [x, y, z] => a09 (putS i x) (a09 (putS j y) (putS l z)) ρ' | _ => .bad)
  | .ex x ρ' => .ex x ρ'
  | .bad => .bad
section
variable {X : Cx} {Z : Zt} {W : WX}
theorem b4q (i j l : Nat) {x y z : Str} {a b c : Expr} {f : M (List Opd)} {px py pz pt pos : Pos} {kt k2 pt2} (hc : X.calm = true) (hN : X.N.Nodup) (ha : SA X Z W [a, b, c] f) (hi : X.N[i]? = some x := by rfl) (hj : X.N[j]? = some y := by rfl) (hl : X.N[l]? = some z := by rfl)
    (hij : i ≠ j := by decide) (hil : i ≠ l := by decide) (hjl : j ≠ l := by decide)
    (hx : X.env.scope.names.lookup x = some .local := by rfl) (hy : X.env.scope.names.lookup y = some .local := by rfl) (hz : X.env.scope.names.lookup z = some .local := by rfl) (hw : swappedStores [.Tuple [.Name x px, .Name y py, .Name z pz] kt pt] (.Tuple [a, b, c] k2 pt2) X.env = pure (some [x, y, z]) := by rfl)
    (hs : swapsWithSole [.Tuple [.Name x px, .Name y py, .Name z pz] kt pt] (.Tuple [a, b, c] k2 pt2) pos.line X.env = pure false := by rfl) : SS X Z W (.Assign [.Tuple [.Name x px, .Name y py, .Name z pz] kt pt] (.Tuple [a, b, c] k2 pt2) pos) (aq4 i j l f) := by
  obtain ⟨t, t1, t2⟩ := ha
  refine ⟨_, ps_par3 hc hN hi hj hl hij hil hjl hx hy hz t1 hw hs, fun O H S R ρ σ E r h => t2 O H S R ρ σ _ r ?_⟩
  unfold aq4 at h
  cases e : f ρ with
  | bad => rw [e] at h; exact h.elim
  | ex x ρ1 => rw [e] at h; exact h σ
  | ok os ρ1 =>
    rw [e] at h
    intro vs H1 S1 A le q nd dj r1 f1
    simp only at h
    split at h
    · rename_i d1 d2 d3 hv
      have qo := a6c q hv
      obtain ⟨v, vr, A1, A2', rfl, rfl, o1, qo⟩ := qo
      obtain ⟨w, vr', A2, A3', rfl, rfl, o2, qo⟩ := qo
      obtain ⟨u, vr'', A3, A4, rfl, rfl, o3, qo⟩ := qo
      obtain ⟨rfl, rfl⟩ := qo
      rw [List.append_nil] at nd dj r1
      obtain ⟨n1, n23, dd⟩ := List.nodup_append.mp nd
      obtain ⟨n2, n3, d23⟩ := List.nodup_append.mp n23
      refine ⟨v, w, u, rfl, ?_⟩
      have r2 : Rel X.K Z O H1 S1 (A1 ++ (A2 ++ (A3 ++ R))) ρ1 σ := r1.perm fun b => by simp
      have h := SPost.weak h le f1
      have key : a09 (putS i d1) (a09 (putS j d2) (putS l d3)) ρ1 = match putS i d1 ρ1 with | .nx ρ2 => (a09 (putS j d2) (putS l d3)) ρ2 | o => o := rfl
      rw [key] at h
      rcases a9e i d1 ρ1 with ⟨ρ2, e2⟩ | e2
      · rw [e2] at h
        simp only at h
        refine a3a (X := X) (W := W) (E := a4e fun σ2 H2 => E.nx ((σ2.set j (some w)).set l (some u)) H2) r2 o1 n1 (fun b hb => ⟨fun z => (List.mem_append.mp z).elim (fun z => dd b hb b (List.mem_append_left _ z) rfl) fun z => (List.mem_append.mp z).elim (fun z => dd b hb b (List.mem_append_right _ z) rfl) (dj b (List.mem_append_left _ hb)).1, (dj b (List.mem_append_left _ hb)).2⟩) (by
          rw [e2]
          intro σ' H' S' l' r' f'
          have o2' : Own Z H' S' d2 w A2 := Own.keep l' d2 o2 fun b hb => ⟨f' b (.inl (List.mem_append_left _ hb)), (r'.rest b (.inl (List.mem_append_left _ hb))).1⟩
          have o3' : Own Z H' S' d3 u A3 := Own.keep l' d3 o3 fun b hb => ⟨f' b (.inl (List.mem_append_right _ (List.mem_append_left _ hb))), (r'.rest b (.inl (List.mem_append_right _ (List.mem_append_left _ hb)))).1⟩
          have h := SPost.weak h l' (Fr.drop (Fr.drop f'))
          have key2 : a09 (putS j d2) (putS l d3) ρ2 = match putS j d2 ρ2 with | .nx ρ2 => putS l d3 ρ2 | o => o := rfl
          rw [key2] at h
          rcases a9e j d2 ρ2 with ⟨ρ3, e3⟩ | e3
          · rw [e3] at h
            simp only at h
            refine a3a (X := X) (W := W) (E := a4e fun σ2 H2 => E.nx (σ2.set l (some u)) H2) r' o2' n2 (fun b hb => ⟨fun z => (List.mem_append.mp z).elim (fun z => d23 b hb b z rfl) (dj b (List.mem_append_right _ (List.mem_append_left _ hb))).1, (dj b (List.mem_append_right _ (List.mem_append_left _ hb))).2⟩) (by
              rw [e3]
              intro σ'' H'' S'' l'' r'' f''
              have o3'' : Own Z H'' S'' d3 u A3 := Own.keep l'' d3 o3' fun b hb => ⟨f'' b (.inl (List.mem_append_left _ hb)), (r''.rest b (.inl (List.mem_append_left _ hb))).1⟩
              exact a3a (X := X) (W := W) r'' o3'' n3 (fun b hb => dj b (List.mem_append_right _ (List.mem_append_right _ hb))) (SPost.weak h l'' (Fr.drop f'')))
          · rw [e3] at h; exact h.elim)
      · rw [e2] at h; exact h.elim
    · exact h.elim
end
@[simp ↓] theorem ev_par3 (i j l : Nat) (f : M (List Opd)) (ρ : Env) : aq4 i j l f ρ = match f ρ with
  | .ok os ρ' => (match vas os with | some [x, y, z] => a09 (putS i x) (a09 (putS j y) (putS l z)) ρ' | _ => .bad)
  | .ex x ρ' => .ex x ρ'
  | .bad => .bad := nr rfl
end Dv
namespace Dv
open PySem L2 PySem.Spec PyProof.Rows
def al2 : List D → Option (List Bool)
  | [] => some []
  | .bl i :: ds => match al2 ds with | some ns => some (i :: ns) | none => none
  | _ => none
def bv5 : List D → Option D
  | [.lst _ ds] => match al2 ds with | some ns => some (.bl (ns.all id)) | none => none
  | _ => none
def bs9 : List D → Option D
  | [.lst _ ds] => match al2 ds with | some ns => some (.bl (ns.any id)) | none => none
  | _ => none
section
variable {K : PySem.W.Frag} {Z : Zt}
end
def b2j : List D → List D → List D
  | a :: as, b :: bs => .pr [a, b] :: b2j as bs
  | _, _ => []
def bg1 (f : M (List Opd)) : M (List D) := M.bind f fun os ρ => match vas os with
  | some ds => (match frL ds with
    | [.lst false xs, .lst false ys] => .ok (b2j xs ys) ρ
    | [.tup xs, .tup ys] => .ok (b2j xs ys) ρ
    | _ => .bad)
  | none => .bad
section
variable {K : PySem.W.Frag} {Z : Zt} {O : Hold} {R : List Addr} {H0 : Hp} {S0 : Reg} {a b : Addr} {xs ys : List D}
theorem b06 {H : Hp} {S : Reg} (I : InvS K Z H S) {v w : V} {d e : D} (h1 : Sh Z S v d) (h2 : Sh Z S w e) {T : Addr} (hT : H T = none) : ∃ S', ExtS K Z H S (upd H T (.tup [v, w])) S' ∧ Sh Z S' (.ref T) (.pr [d, e]) := by
  have np := I.fresh hT
  have I1 : InvS K Z (upd H T (.tup [v, w])) S := I.heap (fun b hb => upd_ne fun z => by subst z; exact hb np) (fun a o u e => upd_ne fun z => by subst z; rw [hT] at e; cases e)
  have l := a2x (d := .pr [d, e]) np
  have hsh : ShL Z S [v, w] [d, e] := .cons h1 (.cons h2 .nil)
  exact ⟨put S T (.pr [d, e]), ⟨l, I1.put np ⟨[v, w], upd_same, hsh.mono l⟩, fun b hb => ⟨upd_ne fun z => by subst z; exact hb hT, fun q => by rw [a5b (fun z => by subst z; exact hb hT)]; exact q⟩⟩, T, rfl, .inl put_same⟩
end
@[simp ↓] theorem ev_zip (f : M (List Opd)) (ρ : Env) : bg1 f ρ = match f ρ with
  | .ok os ρ' => (match vas os with
    | some ds => (match frL ds with
      | [.lst false xs, .lst false ys] => .ok (b2j xs ys) ρ'
      | [.tup xs, .tup ys] => .ok (b2j xs ys) ρ'
      | _ => .bad)
    | none => .bad)
  | .ex x ρ' => .ex x ρ' | .bad => .bad := by
  unfold bg1 M.bind
  cases f ρ <;> first | rfl | (rename_i os ρ1; simp only; cases vas os <;> rfl)
end Dv
namespace Dv
open PySem L2 PySem.Spec PyProof.Rows
inductive Src where
  | l (a : Addr) | t (a : Addr) | s (x : Str)
def Src.val : Src → V
  | .l a => .ref a | .t a => .ref a | .s x => .str x
def Src.addr : Src → Option Addr
  | .l a => some a | .t a => some a | .s _ => none
def Src.at (K : PySem.W.Frag) (H : Hp) : Src → List V → Prop
  | .l a, xs => SqL K H a xs
  | .t a, xs => SqT K H a xs
  | .s z, xs => xs = z.cps.toList.map fun c => V.str ⟨#[c]⟩
def Src.st (it : Addr) (i : Nat) (h : Heap) : Src → Prop
  | .l a => h.IsListIter it a i
  | .t a => h.IsTupleIter it a i
  | .s x => ∃ t, h.IsStrIter it (strIterType x) x t i
theorem ac7 {X : Cx} {pins : List (Addr × Obj)} {σ : L2.St} {H : Hp} {s : Shared} (I : Inv X pins σ H s) (hh : X.A.in1.handled = none) {c : Src} {it : Addr} {xs : List V} {i : Nat} (hc : c.at X.K H xs) (hne : ∀ a, c.addr = some a → a ≠ it) (hs : c.st it i s.heap) :
    ∃ fp P St, Draws X.prog X.w X.A.in1 it fp xs.length P St ∧ it ∈ fp ∧ (∀ b ∈ fp, b = it ∨ c.addr = some b) ∧ St i s.heap ∧ (∀ j h, St j h → c.st it j h) ∧ ∀ j v, P j v → ∃ x, xs[j]? = some x ∧ RelV x v := by
  cases c with
  | l a =>
    obtain ⟨its, rv, p, _⟩ := I.list hc
    have D := Draws.list (prog := X.prog) (w := X.w) hh it a (hne a rfl) its.toArray
    rw [List.size_toArray, ← rv.length] at D
    refine ⟨_, _, _, D, by simp, fun b hb => ?_, ⟨hs, p.isList⟩, fun j h st => st.1, fun j v hv => ?_⟩
    · rcases (by simpa using hb : b = it ∨ b = a) with h | h
      · exact .inl h
      · exact .inr (by rw [h]; rfl)
    · exact a1q rv (by simpa using hv)
  | t a =>
    obtain ⟨its, rv, p, _⟩ := I.tuple hc
    have D := Draws.tuple (prog := X.prog) (w := X.w) hh it a (hne a rfl) its.toArray
    rw [List.size_toArray, ← rv.length] at D
    refine ⟨_, _, _, D, by simp, fun b hb => ?_, ⟨hs, p⟩, fun j h st => st.1, fun j v hv => ?_⟩
    · rcases (by simpa using hb : b = it ∨ b = a) with h | h
      · exact .inl h
      · exact .inr (by rw [h]; rfl)
    · exact a1q rv (by simpa using hv)
  | s x =>
    obtain ⟨t, hs⟩ := hs
    have D := Draws.text (prog := X.prog) (w := X.w) hh it x t
    have hc : xs = x.cps.toList.map fun c => V.str ⟨#[c]⟩ := hc
    have hl : x.cps.size = xs.length := by rw [hc]; simp
    rw [hl] at D
    refine ⟨_, _, _, D, by simp, fun b hb => .inl (by simpa using hb), hs, fun j h st => ⟨t, st⟩, fun j v hv => ?_⟩
    obtain ⟨c, u, h1, rfl⟩ := hv
    refine ⟨.str ⟨#[c]⟩, ?_, ⟨u, rfl⟩⟩
    rw [hc, List.getElem?_map, Array.getElem?_toList, h1]; rfl
theorem Src.inj {X : Cx} {pins : List (Addr × Obj)} {σ : L2.St} {H : Hp} {s : Shared} (I : Inv X pins σ H s) {c : Src} {xs ys : List V} (h : c.at X.K H xs) (g : c.at X.K H ys) : xs = ys := by
  cases c with
  | l a => exact I.list_inj h g
  | t a => exact I.tuple_inj h g
  | s x => exact (show xs = _ from h).trans (show ys = _ from g).symm
theorem Src.keep {c : Src} {it : Addr} {i : Nat} {h h' : Heap} (hs : c.st it i h) (k : ∀ o, h.get? it = some o → h'.get? it = some o) : c.st it i h' := by
  cases c with
  | l a => exact Heap.IsListIter.at hs k
  | t a => exact Heap.IsTupleIter.at hs k
  | s x =>
    obtain ⟨t, o, ho, r⟩ := hs
    exact ⟨t, o, k o ho, r⟩
theorem Src.cell {c : Src} {it : Addr} {i : Nat} {h : Heap} (hs : c.st it i h) : ∃ o, h.get? it = some o ∧ ∀ v, o.data ≠ .cell v := by
  cases c with
  | l a => obtain ⟨o, ho, hc, hd⟩ := hs; exact ⟨o, ho, fun v q => by rw [hd] at q; cases q⟩
  | t a => obtain ⟨o, ho, hc, hd⟩ := hs; exact ⟨o, ho, fun v q => by rw [hd] at q; cases q⟩
  | s x => obtain ⟨t, o, ho, hc, hd⟩ := hs; exact ⟨o, ho, fun v q => by rw [hd] at q; cases q⟩
def b64 (K : PySem.W.Frag) (c : Src) : It :=
  ⟨fun i H => ∃ (xs : List V) (x : V), c.at K H xs ∧ xs[i]? = some x, fun i H v H' => ∃ T x, v = .ref T ∧ H T = none ∧ H' = upd H T (.tup [.int (i : Nat), x]) ∧ ∀ xs, c.at K H xs → xs[i]? = some x, fun i H => ∃ xs : List V, c.at K H xs ∧ xs.length = i⟩
def bf8 (c : Src) (e it : Addr) (i : Nat) (h : Heap) : Prop := (∃ old, IsEnum h e it ((0 : Int) + (i : Int)) old) ∧ c.st it i h
theorem al6 {P : Program} {w : World} {K : PySem.W.Frag} {elts : List Expr} {kk : Nat} {tpos : Pos} (c : Src) (e it : Addr) (hne : e ≠ it) (ha : ∀ a, c.addr = some a → a ≠ it ∧ a ≠ e) :
    Turn P w K (.Tuple elts kk tpos) (b64 K c) [e, it] e (bf8 c e it) where
  mem := by simp
  obj := fun i h st b hb => by
    obtain ⟨⟨old, he⟩, hs⟩ := st
    rcases (by simpa using hb : b = e ∨ b = it) with z | z
    · rw [z]; exact ⟨_, he, fun v q => nomatch q⟩
    · rw [z]; exact Src.cell hs
  keep := fun i h h' st k => by
    obtain ⟨⟨old, he⟩, hs⟩ := st
    exact ⟨⟨old, k e (by simp) _ he⟩, Src.keep hs fun o q => k it (by simp) o q⟩
  item := by
    intro X hP hw hK hc i pins s σ H E I hf st hg
    subst hP hw hK
    obtain ⟨he, hs⟩ := id st
    obtain ⟨xs, x, hq, hx⟩ := hg
    obtain ⟨fp, P, St, D, hmem, hfp, hst, hback, hP⟩ := ac7 I (show X.A.in1.handled = none from I.ok.hd hc) hq (fun a h => (ha a h).1) hs
    have hef : e ∉ fp := fun z => (hfp e z).elim hne fun q => (ha e q).2 rfl
    have G := GoesN.enumFrom (elts := elts) (x1 := kk) (pos := tpos) (prog := X.prog) (w := X.w) (A := X.A) 0 D e hne hef hmem
    have hlt : i < xs.length := (List.getElem?_eq_some_iff.mp hx).1
    refine G.goes i s (fun u s2 => ∃ x H', Inv X pins σ H' s2 ∧ RelV x u ∧ (b64 X.K c).yld i H x H' ∧ bf8 c e it (i + 1) s2.heap ∧ ∀ b ∈ [e, it], H' b = none) E hlt ⟨he, hst⟩ fun v h' tk hY st' hk _ => ?_
    obtain ⟨T, t, y, rfl, hn, hPy, hT⟩ := hY
    obtain ⟨x', hx', rx⟩ := hP i y hPy
    rw [hx] at hx'
    cases hx'
    have new : ObjOk X.prog X.w (upd H T (.tup [.int (i : Nat), x])) h' T (.tup [.int (i : Nat), x]) :=
      ⟨by show 2 ≤ sizeLine; decide, [.int (0 + (i : Int)) t, y], .cons ⟨t, by rw [Int.zero_add]⟩ (.cons rx .nil), hT⟩
    have I1 : Inv X pins σ (upd H T (.tup [.int (i : Nat), x])) { s with heap := h', toks := tk } := I.turnedNew (ch := [e, it]) hk hf hn new
    refine ⟨.ref T, _, I1, rfl, ⟨T, x, rfl, I.hok.fresh hn, rfl, fun ys hy => by rw [Src.inj I hy hq]; exact hx⟩, ⟨st'.1, hback _ _ st'.2⟩, fun b hb => ?_⟩
    have hb' : b < s.heap.objs.size := by
      rcases (by simpa using hb : b = e ∨ b = it) with z | z
      · rw [z]; obtain ⟨old, q⟩ := he; exact Heap.lt_size q
      · rw [z]; obtain ⟨o, q, _⟩ := Src.cell hs; exact Heap.lt_size q
    rw [upd_ne (Nat.ne_of_lt (Nat.lt_of_lt_of_le hb' hn))]
    exact (hf b hb).1
  done := by
    intro X hP hw hK hc i pins s σ H E I hf st hg
    subst hP hw hK
    obtain ⟨he, hs⟩ := id st
    obtain ⟨xs, hq, rfl⟩ := hg
    obtain ⟨fp, P, St, D, hmem, hfp, hst, hback, hP⟩ := ac7 I (show X.A.in1.handled = none from I.ok.hd hc) hq (fun a h => (ha a h).1) hs
    have hef : e ∉ fp := fun z => (hfp e z).elim hne fun q => (ha e q).2 rfl
    have G := GoesN.enumFrom (elts := elts) (x1 := kk) (pos := tpos) (prog := X.prog) (w := X.w) (A := X.A) 0 D e hne hef hmem
    refine G.stops s (fun s1 => Inv X pins σ H s1) E ⟨he, hst⟩ fun h' tk hk _ => ?_
    exact I.turnedL (t' := tk) (ch := [e, it]) hk hf
  self := fun A i s Q E st h => by
    obtain ⟨⟨old, he⟩, _⟩ := st
    exact wpAny_pyIter_enum he h
end Dv
namespace Dv
open PySem L2 PySem.Spec PyProof.Rows
def enO (a : Addr) : Obj := { cls := .type "enumerate", data := .fields #[.none, .bool false, .ref a, rawInt 0, .none, .none] }
theorem b0n {u : Value} {ob : Obj} {Hq : Heap → Prop} (B : Begins u ob Hq) :
    Meets (Builtin.«enumerate.__new__» ⟨[.type "enumerate", u], []⟩) (fun _ R s => Hq s.heap ∧
      R (.ok (.ret (.ref (s.heap.push ob).objs.size))) { s with heap := (s.heap.push ob).push (enO s.heap.objs.size) }) := by
  refine .of_wp fun P w A R s hyp => ?_
  obtain ⟨hp, gn, dr, tk, os⟩ := s
  obtain ⟨b1, hyp⟩ := hyp
  have sb := sub_enumerate
  have it1 : ∀ {A1 : Around} {E1 Q1 : Value → Shared → Prop}, Q1 (.ref hp.objs.size) ⟨hp.push ob, gn, dr, tk, os⟩ → wpAny (model P w) A1 (pyIter u) Q1 E1 ⟨hp, gn, dr, tk, os⟩ := fun q => B.iter P w _ _ ⟨hp, gn, dr, tk, os⟩ _ b1 q
  wp_walk using it1
  refine wpAny_stack_any fun _ => wpAny_pure ?_
  split
  · rename_i cc _ _ _ _ _
    cases (cc == Value.type "enumerate") <;> (wp_walk using it1; exact ⟨_, rfl, hyp⟩)
  · wp_walk using it1
    exact ⟨_, rfl, hyp⟩
theorem b31 {prog : Program} {w : World} {A : Around} {E : Value → Shared → Prop} {s : Shared} {u : Value} {ob : Obj} {Hq : Heap → Prop} {Q : Value → Shared → Prop} (B : Begins u ob Hq) (b1 : Hq s.heap)
    (k : ∀ h2, IsEnum h2 (s.heap.objs.size + 1) s.heap.objs.size 0 .none → h2.get? s.heap.objs.size = some ob → (∀ c q, s.heap.get? c = some q → h2.get? c = some q) → Q (.ref (s.heap.objs.size + 1)) { s with heap := h2 }) :
    wpAny (model prog w) A (call (.type "enumerate") [u]) Q E s := by
  refine callType_new F.called_enumerate (by decide) (F.typeCall_enumerate_1 _) (F.newCall_enumerate_1 _) (fun nw => F.args_object_init_2 nw _) F.entry_enumerate_new (b0n B) ⟨b1, ?_⟩
  have sz : (s.heap.push ob).objs.size = s.heap.objs.size + 1 := Heap.size_push ..
  show _ ∧ _
  rw [sz]
  have en : IsEnum ((s.heap.push ob).push (enO s.heap.objs.size)) (s.heap.objs.size + 1) s.heap.objs.size 0 .none := by
    have g := Heap.get?_push_size (s.heap.push ob) (o := enO s.heap.objs.size) rfl
    rw [sz] at g
    exact g
  exact ⟨⟨_, en, rfl⟩, k _ en (Heap.get?_push_of_some _ (Heap.get?_push_size _ B.free)) fun c q g => Heap.get?_push_of_some _ (Heap.get?_push_of_some _ g)⟩
def bj2 (K : PySem.W.Frag) (ta : TA) : TI := fun σ H R => ta σ H fun vs H1 => ∃ c xs, vs = [c.val] ∧ c.at K H1 xs ∧ R (b64 K c) H1
theorem a6z {X : Cx} {pins : List (Addr × Obj)} {σ : L2.St} {H : Hp} {s : Shared} (I : Inv X pins σ H s) {c : Src} {xs : List V} (hc : c.at X.K H xs) {u : Value} (ru : RelV c.val u) :
    ∃ ob Hq, Begins u ob Hq ∧ Hq s.heap ∧ (∀ h2 it, h2.get? it = some ob → c.st it 0 h2) ∧ ∀ a, c.addr = some a → a < s.heap.objs.size := by
  cases c with
  | l a =>
    obtain ⟨its, rv, p, _⟩ := I.list hc
    obtain rfl : u = Value.ref a := ru
    exact ⟨_, _, begins_list a its.toArray, p.isList, fun h2 it g => ⟨_, g, rfl, rfl⟩, fun b hb => by cases hb; exact p.lt⟩
  | t a =>
    obtain ⟨its, rv, p, _⟩ := I.tuple hc
    obtain rfl : u = Value.ref a := ru
    exact ⟨_, _, begins_tuple a its.toArray, p, fun h2 it g => ⟨_, g, rfl, rfl⟩, fun b hb => by cases hb; obtain ⟨o, q, _⟩ := id p; exact Heap.lt_size q⟩
  | s x =>
    obtain ⟨t, rfl⟩ : ∃ t, u = Value.str x t := ru
    exact ⟨_, _, begins_text x t, trivial, fun h2 it g => ⟨t, _, g, rfl, rfl⟩, fun b hb => by cases hb⟩
theorem b7f {X : Cx} {e : Expr} {ta : TA} {p pos tpos : Pos} {elts : List Expr} {kk : Nat} (hg : Gl X "enumerate") (hm : X.mg "enumerate" = none) (ha : PA X [e] ta) (hs : starEach [e] X.env = [(false, eval e X.env)] := by rfl) :
    PI X (.Tuple elts kk tpos) (.Call (.Name "enumerate" p) [e] [] pos) (bj2 X.K ta) := by
  refine ⟨fun pins s σ H R I h => ?_⟩
  refine Call_ (ld_blt I hg hm boot_enumerate (PyProof.Rows.callWith_type1 (thn (ha.run pos pins s σ H _ I h) fun us s1 ⟨vs, H1, I1, r1, q1⟩ => ?_) hs rfl))
  obtain ⟨c, xs, rfl, hq, q⟩ := q1
  cases r1 with
  | cons ru rr =>
    cases rr
    obtain ⟨ob, Hq, B, b1, hst, hlt⟩ := a6z I1 hq ru
    refine b31 B b1 fun h2 he hit hk => wpAny_pyIter_enum he ?_
    have I2 : Inv X pins σ H1 { s1 with heap := h2 } := I1.kept (t' := s1.toks) hk
    refine ⟨s1.heap.objs.size + 1, [s1.heap.objs.size + 1, s1.heap.objs.size], _, _, H1, rfl, I2, al6 c (s1.heap.objs.size + 1) s1.heap.objs.size (Nat.succ_ne_self _) (fun a h => ⟨Nat.ne_of_lt (hlt a h), Nat.ne_of_lt (Nat.lt_succ_of_lt (hlt a h))⟩), ⟨⟨.none, he⟩, hst _ _ hit⟩, fun b hb => ?_, q⟩
    have le : s1.heap.objs.size ≤ b := by
      rcases (by simpa using hb : b = s1.heap.objs.size + 1 ∨ b = s1.heap.objs.size) with z | z
      · rw [z]; exact Nat.le_succ _
      · rw [z]; exact Nat.le_refl _
    exact I1.fpOk le (I1.hok.fresh le)
end Dv
namespace Dv
open PySem L2 PySem.Spec PyProof.Rows
def enL : Nat → List D → List D
  | _, [] => []
  | k, d :: ds => .pr [.int (k : Int), d] :: enL (k + 1) ds
theorem b2a : ∀ {xs : List D} {k i : Nat} {d : D}, (enL k xs)[i]? = some d → ∃ a, xs[i]? = some a ∧ d = .pr [.int ((k + i : Nat) : Int), a]
  | [], _, _, _, h => by simp [enL] at h
  | x :: xs, k, 0, d, h => by cases h; exact ⟨x, rfl, rfl⟩
  | x :: xs, k, i + 1, d, h => by
    rw [enL, List.getElem?_cons_succ] at h
    obtain ⟨a, h1, h2⟩ := b2a h
    exact ⟨a, h1, by rw [h2, show k + 1 + i = k + (i + 1) by omega]⟩
theorem ap8 : ∀ (xs : List D) (k : Nat), (enL k xs).length = xs.length
  | [], _ => rfl
  | x :: xs, k => by rw [enL, List.length_cons, List.length_cons, ap8 xs]
def enM (f : M (List Opd)) : M (List D) := M.bind f fun os ρ => match vas os with
  | some ds => (match frL ds with
    | [.lst false xs] => .ok (enL 0 xs) ρ
    | [.tup xs] => .ok (enL 0 xs) ρ
    | [.str x] => .ok (enL 0 (x.cps.toList.map sign)) ρ
    | _ => .bad)
  | none => .bad
section
variable {K : PySem.W.Frag} {Z : Zt} {O : Hold} {R : List Addr} {H0 : Hp} {S0 : Reg} {xs : List D}
def am7 (K : PySem.W.Frag) (Z : Zt) (S0 : Reg) (c : Src) (ds : List D) : Prop := ∀ H S, InvS K Z H S → Le S0 S → ∃ vs, c.at K H vs ∧ ShL Z S vs ds
theorem b8h {a : Addr} (h : S0 a = some (.lst false xs)) : am7 K Z S0 (.l a) xs := fun H S I l => by
  obtain ⟨vs, e, q⟩ := I.node a _ (l a _ h)
  exact ⟨vs, SqL.of e, q⟩
theorem b5q {a : Addr} (h : S0 a = some (.tup xs)) : am7 K Z S0 (.t a) xs := fun H S I l => by
  obtain ⟨vs, e, q⟩ := I.node a _ (l a _ h)
  exact ⟨vs, e.sq, q⟩
theorem b8x (x : Str) : am7 K Z S0 (.s x) (x.cps.toList.map sign) := fun H S I l => by
  refine ⟨_, rfl, ?_⟩
  generalize x.cps.toList = cs
  induction cs with
  | nil => exact .nil
  | cons c cs ih => exact .cons rfl ih
theorem b7v {c : Src} (h : am7 K Z S0 c xs) : ItS K Z O R H0 S0 (b64 K c) (enL 0 xs) := fun i H S I l _ => by
  obtain ⟨vs, hc, q⟩ := h H S I l
  refine ⟨fun d hd => ?_, fun hi => ⟨vs, hc, by rw [ap8] at hi; rw [u5 q]; exact hi⟩⟩
  obtain ⟨x, hx, rfl⟩ := b2a hd
  obtain ⟨v, hv, qv⟩ := a1q q hx
  refine ⟨⟨vs, v, hc, hv⟩, fun z H' hz => ?_⟩
  obtain ⟨T, v', rfl, hT, rfl, k1⟩ := hz
  have := k1 vs hc
  rw [hv] at this
  cases this
  rw [Nat.zero_add]
  exact b06 I (show Sh Z S (.int (i : Int)) (.int (i : Int)) from rfl) qv hT
theorem b39 {X : Cx} {W : WX} {e1 : Expr} {f : M (List Opd)} {p pos tpos : Pos} {elts : List Expr} {kk : Nat} (hm : X.mg "enumerate" = none) (ha : SA X Z W [e1] f) (hg : Gl X "enumerate" := by rfl)
    (hs : starEach [e1] X.env = [(false, eval e1 X.env)] := by rfl) : SI X Z W (.Tuple elts kk tpos) (.Call (.Name "enumerate" p) [e1] [] pos) (enM f) := by
  obtain ⟨t, h1, h2⟩ := ha
  refine ⟨_, b7f hg hm h1 hs, fun O H S R ρ σ Q r h => h2 O H S R ρ σ _ r ?_⟩
  unfold enM M.bind at h
  cases e : f ρ with
  | bad => rw [e] at h; exact h.elim
  | ex x ρ1 => rw [e] at h; exact h
  | ok os ρ1 =>
    rw [e] at h
    intro vs H1 S1 A l q nd dj r1 f1
    simp only at h
    cases e2 : vas os with
    | none => rw [e2] at h; exact h.elim
    | some ds =>
      rw [e2] at h
      simp only at h
      have qo := a6c q e2
      obtain ⟨S2, l2, q2, r2⟩ := r1.freezeL qo nd dj
      have go : ∀ (c : Src) (xs : List D), am7 X.K Z S2 c xs → b0i X.K Z O W H S R σ Q (.ok (enL 0 xs) ρ1) → vs = [c.val] → ∃ c xs, vs = [c.val] ∧ c.at X.K H1 xs ∧ Q (b64 X.K c) H1 := fun c xs hc h ev => by
        obtain ⟨ws, ca, _⟩ := hc H1 S2 r2.inv (Le.refl S2)
        exact ⟨c, ws, ev, ca, h _ H1 S2 (l.trans l2) r2 f1 (b7v hc)⟩
      split at h
      · rename_i xs e3
        rw [e3] at q2
        cases q2 with
        | cons a1 q2 =>
          cases q2
          obtain ⟨a, rfl, hS | ⟨_, _, hz⟩⟩ := a1
          · exact go (.l a) xs (b8h hS) h rfl
          · cases hz
      · rename_i xs e3
        rw [e3] at q2
        cases q2 with
        | cons a1 q2 =>
          cases q2
          obtain ⟨a, rfl, hS | ⟨_, _, hz⟩⟩ := a1
          · exact go (.t a) xs (b5q hS) h rfl
          · cases hz
      · rename_i x e3
        rw [e3] at q2
        cases q2 with
        | cons a1 q2 =>
          cases q2
          exact go (.s x) _ (b8x x) h (by rw [show _ = V.str x from a1]; rfl)
      · exact h.elim
end
@[simp ↓] theorem ev_enum (f : M (List Opd)) (ρ : Env) : enM f ρ = match f ρ with
  | .ok os ρ' => (match vas os with
    | some ds => (match frL ds with
      | [.lst false xs] => .ok (enL 0 xs) ρ'
      | [.tup xs] => .ok (enL 0 xs) ρ'
      | [.str x] => .ok (enL 0 (x.cps.toList.map sign)) ρ'
      | _ => .bad)
    | none => .bad)
  | .ex x ρ' => .ex x ρ' | .bad => .bad := by
  unfold enM M.bind
  cases f ρ <;> first | rfl | (rename_i os ρ1; simp only; cases vas os <;> rfl)
end Dv
namespace Dv
open PySem L2 PySem.Spec PyProof.Rows
def bp9 (K : PySem.W.Frag) (c1 c2 : Src) : It :=
  ⟨fun i H => ∃ (xs ys : List V) (x y : V), c1.at K H xs ∧ c2.at K H ys ∧ xs[i]? = some x ∧ ys[i]? = some y,
    fun i H v H' => ∃ T x y, v = .ref T ∧ H T = none ∧ H' = upd H T (.tup [x, y]) ∧ (∀ xs, c1.at K H xs → xs[i]? = some x) ∧ ∀ ys, c2.at K H ys → ys[i]? = some y,
    fun i H => ∃ xs ys : List V, c1.at K H xs ∧ c2.at K H ys ∧ min xs.length ys.length = i⟩
structure ZApart (N : Nat) (c1 c2 : Src) : Prop where
  a1 : ∀ a, c1.addr = some a → a < N
  a2 : ∀ a, c2.addr = some a → a < N
def zSt (c1 c2 : Src) (N : Nat) (i : Nat) (h : Heap) : Prop :=
  IsZip h (N + 4) (N + 2) (N + 3) .none ∧ IsTupOf2 h (N + 2) (.ref N) (.ref (N + 1)) ∧ (∃ x y, IsTupOf2 h (N + 3) x y) ∧ c1.st N i h ∧ c2.st (N + 1) i h
theorem a5i {N j : Nat} {it : Addr} {c : Src} {fp : List Addr} (hfp : ∀ b ∈ fp, b = it ∨ c.addr = some b) (ha : ∀ a, c.addr = some a → a < N) (hj : N + j ≠ it) : N + j ∉ fp := fun z => by
  rcases hfp _ z with q | q
  · exact hj q
  · have g : (N + j : Nat) < N := ha _ q
    omega
def iZC (K : PySem.W.Frag) (ta : TA) : TI := fun σ H R => ta σ H fun vs H1 => ∃ c1 c2 xs ys, vs = [c1.val, c2.val] ∧ c1.at K H1 xs ∧ c2.at K H1 ys ∧ R (bp9 K c1 c2) H1
def aj2 : D → Option (List D)
  | .lst false xs => some xs
  | .tup xs => some xs
  | .str x => some (x.cps.toList.map sign)
  | _ => none
def zpM (f : M (List Opd)) : M (List D) := M.bind f fun os ρ => match vas os with
  | some ds => (match frL ds with
    | [a, b] => (match aj2 a, aj2 b with | some xs, some ys => .ok (b2j xs ys) ρ | _, _ => .bad)
    | _ => .bad)
  | none => .bad
section
variable {K : PySem.W.Frag} {Z : Zt} {O : Hold} {R : List Addr} {H0 : Hp} {S0 : Reg} {xs ys : List D}
theorem b1s {S : Reg} {H : Hp} (I : InvS K Z H S) {v : V} {d : D} (h : Sh Z S v d) (e : aj2 d = some xs) : ∃ c, v = Src.val c ∧ am7 K Z S c xs := by
  cases d with
  | lst o ds =>
    cases o with
    | true => cases e
    | false =>
      cases e
      obtain ⟨a, rfl, hS | ⟨_, _, hz⟩⟩ := h
      · exact ⟨.l a, rfl, b8h hS⟩
      · cases hz
  | tup ds =>
    cases e
    obtain ⟨a, rfl, hS | ⟨_, _, hz⟩⟩ := h
    · exact ⟨.t a, rfl, b5q hS⟩
    · cases hz
  | str x => cases e; exact ⟨.s x, h, b8x x⟩
  | _ => cases e
end
@[simp ↓] theorem ev_zp (f : M (List Opd)) (ρ : Env) : zpM f ρ = match f ρ with
  | .ok os ρ' => (match vas os with
    | some ds => (match frL ds with
      | [a, b] => (match aj2 a, aj2 b with | some xs, some ys => .ok (b2j xs ys) ρ' | _, _ => .bad)
      | _ => .bad)
    | none => .bad)
  | .ex x ρ' => .ex x ρ' | .bad => .bad := by
  unfold zpM M.bind
  cases f ρ <;> first | rfl | (rename_i os ρ1; simp only; cases vas os <;> rfl)
end Dv
namespace Dv
open PySem L2 PySem.Spec PyProof.Rows
def WE {α : Type} (r : Res α) (Q : α → Env → Prop) : Prop := ∃ a ρ', r = .ok a ρ' ∧ Q a ρ'
@[irreducible] def WC (o : Out) (Q : Out → Prop) : Prop := Q o
def WF (r : RF) (Q : D → List D → Prop) : Prop := ∃ d os, r = .ok d os ∧ Q d os
def sq (b : C) (Q : Out → Prop) : Out → Prop
  | .nx ρ => WC (b ρ) Q
  | .rt d ρ => Q (.rt d ρ) | .bk ρ => Q (.bk ρ) | .ct ρ => Q (.ct ρ) | .ex x ρ => Q (.ex x ρ) | .bad => Q .bad
def fq (io : List Bool) (Q : D → List D → Prop) : Out → Prop
  | .rt d ρ => ∃ os, a2l 0 io ρ = some os ∧ Q d os
  | .nx ρ => ∃ os, a2l 0 io ρ = some os ∧ Q .non os
  | _ => False
def lq (J : Env → Prop) (Q : Out → Prop) : Out → Prop
  | .nx ρ => J ρ | .ct ρ => J ρ | .bk ρ => Q (.nx ρ) | .rt d ρ => Q (.rt d ρ) | .ex x ρ => Q (.ex x ρ) | .bad => False
def nq (J : Env → Prop) : Out → Prop
  | .nx ρ => J ρ | _ => False
def WB (k : Bool) (A B : Prop) : Prop := if k = true then A else B
def RO (o : Option D) (K : D → Prop) : Prop := ∃ z, o = some z ∧ K z
def T2 (F : D → D → Option D) (ρ : Env) (a b : Opd) (K : D → Prop) : Prop := ∃ x y, look ρ a = some x ∧ look ρ b = some y ∧ RO (F x y) K
def T1 (ρ : Env) (a : Opd) (K : D → Prop) : Prop := ∃ x, look ρ a = some x ∧ K x
def TB (d : D) (K : Bool → Prop) : Prop := ∃ b, d = .bl b ∧ K b
def TI (d : D) (K : Int → Prop) : Prop := ∃ i, d = .int i ∧ K i
def TL (ρ : Env) (os : List Opd) (K : List D → Prop) : Prop := ∃ ds, a3p ρ os = some ds ∧ K ds
def TV (os : List Opd) (K : List D → Prop) : Prop := ∃ ds, vas os = some ds ∧ K ds
def TZ (ds : List D) (K : List D → Prop) : Prop := ∃ es, frL ds = es ∧ K es
def TY (d : D) (K : D → Prop) : Prop := ∃ e, fr d = e ∧ K e
def TN (ds : List D) (n : Nat) (K : Prop) : Prop := ds.length ≤ n ∧ K
def TP (io : List Bool) (os : List Opd) (ρ : Env) (K : List D → Env → Prop) : Prop := ∃ ds ρ', prep io os ρ = some (ds, ρ') ∧ K ds ρ'
def TK (ρ0 : Env) (io : List Bool) (os : List Opd) (outs : List D) (ρ : Env) (K : Env → Prop) : Prop := ∃ ρ', back ρ0 io os outs ρ = some ρ' ∧ K ρ'
def TR (ds : List D) (K : List D → Prop) : Prop := ∃ n, ds = [.int n] ∧ -1000000 ≤ n ∧ n ≤ 1000000 ∧ K (rg 0 n)
def TR2 (ds : List D) (K : List D → Prop) : Prop := ∃ m n, ds = [.int m, .int n] ∧ (-1000000 ≤ m ∧ m ≤ 1000000) ∧ -1000000 ≤ n ∧ n ≤ 1000000 ∧ K (rg m n)
def TZp (es : List D) (K : List D → Prop) : Prop := ∃ a b xs ys, es = [a, b] ∧ aj2 a = some xs ∧ aj2 b = some ys ∧ K (b2j xs ys)
def TEn (es : List D) (K : List D → Prop) : Prop := ∃ a xs, es = [a] ∧ aj2 a = some xs ∧ K (enL 0 xs)
def TS (d : D) (K : List D → Prop) : Prop := ∃ ds, b5d d = some ds ∧ K ds
def TW (ρ : Env) (own : List Nat) (K : Env → Prop) : Prop := ∃ ρ', a1y ρ own = ρ' ∧ K ρ'
def TX (ρ0 ρ : Env) (own : List Nat) (K : Env → Prop) : Prop := ∃ ρ', a4m ρ0 ρ own = ρ' ∧ K ρ'
def TE1 (ρ : Env) (i : Nat) (o : Option Slot) (K : Env → Prop) : Prop := ∃ ρ', ρ.set i o = ρ' ∧ K ρ'
def WL (g : D → C) (tt : M Bool) (f : M D) (own : List Nat) (ds acc : List D) (ρ : Env) (K : List D → Env → Prop) : Prop := ∃ a ρ', a2g g tt f own ds acc ρ = .ok a ρ' ∧ K a ρ'
def TA (ρ : Env) (i : Nat) (y : D) (K : Env → Prop) : Prop := ∃ s ds ρ', u6 ρ i = some s ∧ s.may = true ∧ s.d = .lst true ds ∧ ds.length < 1000000 ∧ ρ.set i (some (s.sw (.lst true (ds ++ [y])))) = ρ' ∧ K ρ'
def TI2 (ρ : Env) (i : Nat) (k y : D) (K : Env → Prop) : Prop := ∃ s d' ρ', u6 ρ i = some s ∧ s.may = true ∧ ad8 s.d k y = some d' ∧ ρ.set i (some (s.sw d')) = ρ' ∧ K ρ'
section
variable {α : Type} {Q : α → Env → Prop} {ρ ρ' ρ0 ρ1 ρ2 : Env} {P : Out → Prop} {A B : Prop} {d x y z : D} {i j l n : Nat} {ds es xs ys acc outs : List D} {os : List Opd} {o : Opd} {K : D → Prop} {KL : List D → Prop} {KE : Env → Prop} {KI : Int → Prop} {KB : Bool → Prop} {c : C} {io : List Bool} {own : List Nat} {m : List D → RF}
theorem WE.mono {r : Res α} {Q' : α → Env → Prop} (h : WE r Q) (g : ∀ a ρ, Q a ρ → Q' a ρ) : WE r Q' := by
  obtain ⟨a, ρ', e, h⟩ := h
  exact ⟨a, ρ', e, g _ _ h⟩
theorem a4n {a : α} (h : Q a ρ) : WE (.ok a ρ) Q := ⟨a, ρ, rfl, h⟩
theorem a6w {r : Res α} {a : α} (e : r = .ok a ρ) (h : Q a ρ) : WE r Q := ⟨a, ρ, e, h⟩
theorem bj5 {o : Out} (h : P o) : WC o P := by unfold WC; exact h
theorem b92 {o : Out} (h : WC o P) : P o := by unfold WC at h; exact h
theorem bb6 {r : RF} {Qf : D → List D → Prop} (e : r = .ok d outs) (h : Qf d outs) : WF r Qf := ⟨d, outs, e, h⟩
theorem b7b {r : RF} (h : WF r fun a os => a = d ∧ os = outs) : r = .ok d outs := by
  obtain ⟨a, os, e, rfl, rfl⟩ := h
  exact e
theorem WF.mono {r : RF} {Qf Qf' : D → List D → Prop} (h : WF r Qf) (g : ∀ a os, Qf a os → Qf' a os) : WF r Qf' := by
  obtain ⟨a, os, e, h⟩ := h
  exact ⟨a, os, e, g _ _ h⟩
theorem bo5 (h : A) : WB true A B := h
theorem bl5 (h : B) : WB false A B := h
theorem b6z {p : Prop} [Decidable p] (hp : p) (h : A) : WB (decide p) A B := by unfold WB; rw [decide_eq_true hp]; exact h
theorem b6k {p : Prop} [Decidable p] (hp : ¬ p) (h : B) : WB (decide p) A B := by unfold WB; rw [decide_eq_false hp]; exact h
theorem bo2 {k : Bool} (h : WB k B A) : WB (!k) A B := by cases k <;> exact h
theorem ao4 {p : Prop} [Decidable p] (h1 : p → A) (h2 : ¬ p → B) : WB (decide p) A B := by
  by_cases hp : p
  · exact b6z hp (h1 hp)
  · exact b6k hp (h2 hp)
theorem b97 {k : Bool} (h1 : k = true → A) (h2 : k = false → B) : WB k A B := by
  cases k
  · exact h2 rfl
  · exact h1 rfl
theorem ro {r : Option D} (e : r = some z) (h : K z) : RO r K := ⟨z, e, h⟩
theorem bc0 : look ρ (.va d) = some d := rfl
theorem b5y (h : ρ[i]? = some (some (.own d))) : look ρ (.nm i) = some d := by rw [look_nm, h]; rfl
theorem ba4 (h : ρ[i]? = some (some (.io d))) : look ρ (.nm i) = some d := by rw [look_nm, h]; rfl
theorem b3h : a3p ρ [] = some [] := rfl
theorem b0j (h1 : look ρ o = some d) (h2 : a3p ρ os = some ds) : a3p ρ (o :: os) = some (d :: ds) := by rw [lookL_cons, h1, h2]
theorem t2 {F : D → D → Option D} {a b : Opd} (h1 : look ρ a = some x) (h2 : look ρ b = some y) (h : RO (F x y) K) : T2 F ρ a b K := ⟨x, y, h1, h2, h⟩
theorem t1 (h1 : look ρ o = some x) (h : K x) : T1 ρ o K := ⟨x, h1, h⟩
theorem tb {b : Bool} (h : KB b) : TB (.bl b) KB := ⟨b, rfl, h⟩
theorem ti {i : Int} (h : KI i) : TI (.int i) KI := ⟨i, rfl, h⟩
theorem tl (h1 : a3p ρ os = some ds) (h : KL ds) : TL ρ os KL := ⟨ds, h1, h⟩
theorem tv (h1 : vas os = some ds) (h : KL ds) : TV os KL := ⟨ds, h1, h⟩
theorem tz (h1 : frL ds = es) (h : KL es) : TZ ds KL := ⟨es, h1, h⟩
theorem ty (h1 : fr d = x) (h : K x) : TY d K := ⟨x, h1, h⟩
theorem tn (h1 : ds.length ≤ n) (h : A) : TN ds n A := ⟨h1, h⟩
theorem tp {KP : List D → Env → Prop} (h1 : prep io os ρ = some (ds, ρ')) (h : KP ds ρ') : TP io os ρ KP := ⟨ds, ρ', h1, h⟩
theorem tk (h1 : back ρ0 io os outs ρ = some ρ') (h : KE ρ') : TK ρ0 io os outs ρ KE := ⟨ρ', h1, h⟩
theorem tr {n : Int} (h1 : -1000000 ≤ n) (h2 : n ≤ 1000000) (h : KL (rg 0 n)) : TR [.int n] KL := ⟨n, rfl, h1, h2, h⟩
theorem ts (h1 : b5d d = some ds) (h : KL ds) : TS d KL := ⟨ds, h1, h⟩
theorem tw (h1 : a1y ρ own = ρ') (h : KE ρ') : TW ρ own KE := ⟨ρ', h1, h⟩
theorem tx (h1 : a4m ρ0 ρ own = ρ') (h : KE ρ') : TX ρ0 ρ own KE := ⟨ρ', h1, h⟩
theorem te {o : Option Slot} (h1 : ρ.set i o = ρ') (h : KE ρ') : TE1 ρ i o KE := ⟨ρ', h1, h⟩
theorem b5o (h : ρ[i]? = some (some (.own (.lst true ds)))) (hl : ds.length < 1000000) (hs : ρ.set i (some (.own (.lst true (ds ++ [y])))) = ρ') (k : KE ρ') : TA ρ i y KE :=
  ⟨.own (.lst true ds), ds, ρ', by rw [slotOf_eq, h], rfl, rfl, hl, hs, k⟩
theorem bb0 {k : D} (h : ρ[i]? = some (some (.io x))) (e : ad8 x k y = some z) (hs : ρ.set i (some (.io z)) = ρ') (q : KE ρ') : TI2 ρ i k y KE :=
  ⟨.io x, z, ρ', by rw [slotOf_eq, h], rfl, e, hs, q⟩
theorem bq6 {v w : Option Slot} : (w :: ρ).set 0 v = v :: ρ := rfl
theorem bm1 {v w : Option Slot} (h : ρ.set n v = ρ') : (w :: ρ).set (n + 1) v = w :: ρ' := by rw [List.set_cons_succ, h]
theorem b7n : frL [] = [] := rfl
theorem b53 (h1 : fr d = x) (h2 : frL ds = es) : frL (d :: ds) = x :: es := by rw [frL_cons, h1, h2]
theorem bk0 {i : Int} : fr (.int i) = .int i := rfl
theorem be7 {i : Str} : fr (.str i) = .str i := rfl
theorem bn8 : fr (.tup xs) = .tup xs := rfl
theorem be0 {ns : List Int} : fr (.scr ns) = .scr ns := rfl
theorem bf0 : fr (.lst false xs) = .lst false xs := rfl
theorem be5 (h : frL xs = ys) : fr (.lst true xs) = .lst false ys := by rw [fr_lt, h]
theorem b79 : prep [] [] ρ = some ([], ρ) := rfl
theorem bk1 (h1 : fr d = x) (h2 : prep io os ρ = some (ds, ρ')) : prep (false :: io) (.va d :: os) ρ = some (x :: ds, ρ') := by rw [prep_f, h2, h1]
theorem b8v (h : ρ[i]? = some (some (.own d))) (hs : ρ.set i none = ρ1) (h2 : prep io os ρ1 = some (ds, ρ')) : prep (true :: io) (.nm i :: os) ρ = some (d :: ds, ρ') := by rw [prep_n, h]; simp only [hs, h2]
theorem bd4 (h : ρ[i]? = some (some (.io d))) (hs : ρ.set i none = ρ1) (h2 : prep io os ρ1 = some (ds, ρ')) : prep (true :: io) (.nm i :: os) ρ = some (d :: ds, ρ') := by rw [prep_n, h]; simp only [hs, h2]
theorem b7x : back ρ0 [] [] [] ρ = some ρ := rfl
theorem br1 (h : back ρ0 io os ds ρ = some ρ') : back ρ0 (false :: io) (o :: os) ds ρ = some ρ' := by rw [back_f]; exact h
theorem b6t (h : ρ0[i]? = some (some (.own x))) (hs : ρ.set i (some (.own d)) = ρ1) (h2 : back ρ0 io os ds ρ1 = some ρ') : back ρ0 (true :: io) (.nm i :: os) (d :: ds) ρ = some ρ' := by rw [back_n, h]; simp only [hs, h2]
theorem bf1 (h : ρ0[i]? = some (some (.io x))) (hs : ρ.set i (some (.io d)) = ρ1) (h2 : back ρ0 io os ds ρ1 = some ρ') : back ρ0 (true :: io) (.nm i :: os) (d :: ds) ρ = some ρ' := by rw [back_n, h]; simp only [hs, h2]
theorem b6o : a1y ρ [] = ρ := rfl
theorem b4v (hs : ρ.set i none = ρ1) (h : a1y ρ1 own = ρ') : a1y ρ (i :: own) = ρ' := by unfold a1y; rw [hs]; exact h
theorem b8o : a4m ρ0 ρ [] = ρ := rfl
theorem b4x {o : Option Slot} (h0 : ρ0[i]? = some o) (hs : ρ.set i o = ρ1) (h : a4m ρ0 ρ1 own = ρ') : a4m ρ0 ρ (i :: own) = ρ' := by unfold a4m; rw [h0]; simp only [hs]; exact h
def OwnP (x : Option Slot) : Prop := x = none ∨ ∃ d, x = some (.own d) ∧ owned d = false
theorem OwnP.non : OwnP none := .inl rfl
theorem b6a : a5u ρ [] = true := rfl
theorem b4l {x : Option Slot} (h : ρ[i]? = some x) (hx : OwnP x) (h2 : a5u ρ own = true) : a5u ρ (i :: own) = true := by
  show ((match ρ[i]? with | some none => true | some (some (.own d)) => !owned d | _ => false) && a5u ρ own) = true
  rw [h, h2]
  rcases hx with rfl | ⟨d, rfl, hd⟩
  · rfl
  · simp [hd]
theorem a3k {a b : C} (h : WC (a ρ) (sq b P)) : WC (a09 a b ρ) P := by
  unfold a09
  unfold WC at h ⊢
  cases e : a ρ <;> rw [e] at h <;> first | exact h | exact b92 h
theorem ba2 {b : C} (h : WC (b ρ) P) : sq b P (.nx ρ) := h
theorem bc2 {b : C} (h : P (.rt d ρ)) : sq b P (.rt d ρ) := h
theorem bb2 (h : KE ρ) : lq KE P (.nx ρ) := h
theorem bc8 (h : KE ρ) : nq KE (.nx ρ) := h
theorem b9x {Qf : D → List D → Prop} (e : a2l 0 io ρ = some outs) (h : Qf d outs) : fq io Qf (.rt d ρ) := ⟨outs, e, h⟩
theorem a2z {Qf : D → List D → Prop} (e : a9j 0 io ds (List.replicate n none) = ρ) (h : WC (c ρ) (fq io Qf)) : WF (a8m io n c ds) Qf := by
  rw [ev_run, e]
  unfold WC at h
  cases e2 : c ρ with
  | rt d ρ' => rw [e2] at h; obtain ⟨os, e3, h⟩ := h; simp only [e3]; exact ⟨_, _, rfl, h⟩
  | nx ρ' => rw [e2] at h; obtain ⟨os, e3, h⟩ := h; simp only [e3]; exact ⟨_, _, rfl, h⟩
  | _ => rw [e2] at h; exact h.elim
theorem bd5 (h : P (.nx ρ)) : WC (nxC ρ) P := by unfold WC; exact h
theorem ai8 {f : M D} {g : D → C} (h : WE (f ρ) fun d ρ' => WC (g d ρ') P) : WC (a8r f g ρ) P := by
  obtain ⟨d, ρ', e, h⟩ := h
  unfold a8r; rw [e]; exact h
theorem b6m {f : M D} (h : WE (f ρ) fun d ρ' => WC (putS i d ρ') P) : WC (setC i f ρ) P := ai8 h
theorem b8z {f : M D} (h : WE (f ρ) fun d ρ' => P (.rt d ρ')) : WC (a69 f ρ) P := ai8 (h.mono fun _ _ h => by unfold WC; exact h)
theorem al1 {f : M D} (h : WE (f ρ) fun _ ρ' => P (.nx ρ')) : WC (b1i f ρ) P := ai8 (h.mono fun _ _ h => by unfold WC; exact h)
theorem b69 {w : Option Slot} (h : ρ[i]? = some w) (hx : OwnS w) (hs : ρ.set i (some (.own d)) = ρ') (k : P (.nx ρ')) : WC (putS i d ρ) P := by
  rw [b85 h hx, hs]; unfold WC; exact k
theorem av2 {t : M Bool} {a b : C} (h : WE (t ρ) fun k ρ' => WB k (WC (a ρ') P) (WC (b ρ') P)) : WC (ifC t a b ρ) P := by
  obtain ⟨k, ρ', e, h⟩ := h
  rw [ev_if, e]
  cases k
  · exact h
  · exact h
theorem b6e {f : M (List D)} {g : D → C} {b : C} (h : WE (f ρ) fun ds ρ' => WC (a1h (fun d => a09 (g d) b) ds ρ') P) : WC (az4 f g b ρ) P := by
  obtain ⟨k, ρ', e, h⟩ := h
  rw [ev_for, e]; exact h
theorem ax4 {step : D → C} (I : Nat → Env → Prop) : ∀ (ds : List D) (k : Nat) (ρ : Env), I k ρ → (∀ i d ρ, ds[i]? = some d → I (k + i) ρ → WC (step d ρ) (lq (I (k + i + 1)) P)) → (∀ ρ, I (k + ds.length) ρ → P (.nx ρ)) → WC (a1h step ds ρ) P
  | [], k, ρ, h, _, hq => by unfold WC; exact hq ρ h
  | d :: ds, k, ρ, h, hs, hq => by
    have h1 := hs 0 d ρ rfl h
    unfold WC at h1 ⊢
    rw [loopC_cons]
    have H : ∀ ρ', I (k + 1) ρ' → P (a1h step ds ρ') := fun ρ' h' => b92 <| ax4 I ds (k + 1) ρ' h' (fun i d ρ e hI => by
      have := hs (i + 1) d ρ (by rw [List.getElem?_cons_succ]; exact e) (by rw [show k + (i + 1) = k + 1 + i by omega]; exact hI)
      rw [show k + (i + 1) + 1 = k + 1 + i + 1 by omega] at this
      exact this) fun ρ hI => hq ρ (by rw [List.length_cons, show k + (ds.length + 1) = k + 1 + ds.length by omega]; exact hI)
    cases e : step d ρ with
    | nx ρ' => rw [e] at h1; exact H ρ' h1
    | ct ρ' => rw [e] at h1; exact H ρ' h1
    | bk ρ' => rw [e] at h1; exact h1
    | rt x ρ' => rw [e] at h1; exact h1
    | ex x ρ' => rw [e] at h1; exact h1
    | bad => rw [e] at h1; exact h1.elim
theorem b5l {step : D → C} (I : Nat → Env → Prop) (h : I 0 ρ) (hs : ∀ i d ρ, ds[i]? = some d → I i ρ → WC (step d ρ) (lq (I (i + 1)) P)) (hq : ∀ ρ, I ds.length ρ → P (.nx ρ)) : WC (a1h step ds ρ) P :=
  ax4 I ds 0 ρ h (fun i d ρ e hI => by rw [Nat.zero_add] at hI ⊢; exact hs i d ρ e hI) fun ρ hI => hq ρ (by rw [Nat.zero_add] at hI; exact hI)
theorem b9y {step : D → C} {a b : Int} (I : Nat → Env → Prop) (h : I 0 ρ) (hs : ∀ (i : Nat) ρ, a + (i : Int) < b → I i ρ → WC (step (.int (a + (i : Int))) ρ) (lq (I (i + 1)) P)) (hq : ∀ ρ, I (b - a).toNat ρ → P (.nx ρ)) : WC (a1h step (rg a b) ρ) P :=
  b5l I h (fun i d ρ e hI => by obtain ⟨rfl, h2⟩ := as7 e; exact hs i ρ h2 hI) fun ρ hI => hq ρ (by rw [a8w] at hI; exact hI)
theorem b93 {step : D → C} {b : Int} (I : Nat → Env → Prop) (h : I 0 ρ) (hs : ∀ (i : Nat) ρ, (i : Int) < b → I i ρ → WC (step (.int (i : Int)) ρ) (lq (I (i + 1)) P)) (hq : ∀ ρ, I b.toNat ρ → P (.nx ρ)) : WC (a1h step (rg 0 b) ρ) P :=
  b9y I h (fun i ρ hi hI => by rw [Int.zero_add] at hi ⊢; exact hs i ρ hi hI) fun ρ hI => hq ρ (by rw [Int.sub_zero] at hI; exact hI)
theorem b8y {f : M (List Opd)} (h : WE (f ρ) fun os ρ' => TV os fun ds => ∃ x y, ds = [x, y] ∧ WC (putS i x ρ') (sq (putS j y) P)) : WC (b4k i j f ρ) P := by
  obtain ⟨os, ρ', e, ds, e2, x, y, rfl, h⟩ := h
  rw [ev_par, e]
  simp only [e2]
  exact a3k h
theorem b3l {f : M (List Opd)} (h : WE (f ρ) fun os ρ' => TV os fun ds => ∃ x y z, ds = [x, y, z] ∧ WC (putS i x ρ') (sq (a09 (putS j y) (putS l z)) P)) : WC (aq4 i j l f ρ) P := by
  obtain ⟨os, ρ', e, ds, e2, x, y, z, rfl, h⟩ := h
  rw [ev_par3, e]
  simp only [e2]
  exact a3k h
theorem tv2 {b : D} {F : D → D → Prop} (h : F x b) : ∃ p q, [x, b] = [p, q] ∧ F p q := ⟨x, b, rfl, h⟩
theorem tv3 {b e : D} {F : D → D → D → Prop} (h : F x b e) : ∃ p q r, [x, b, e] = [p, q, r] ∧ F p q r := ⟨x, b, e, rfl, h⟩
theorem b5c {gs : List D → C} (hl : ds.length = n) (h : WC (gs ds ρ) P) : WC (a9a n gs (.tup ds) ρ) P := by
  rw [ev_tupT, if_pos hl]; exact h
theorem b02 {gs : List D → C} (hl : ds.length = n) (h : WC (gs ds ρ) P) : WC (a9a n gs (.pr ds) ρ) P := by
  rw [ev_tupTp, if_pos hl]; exact h
theorem b1l (h : P (.nx ρ)) : WC (a5x [] ρ) P := by unfold WC; exact h
theorem au5 {g : D → C} {gs : List D → C} (h : WC (g d ρ) (sq (gs ds) P)) : WC (a0f g gs (d :: ds) ρ) P := a3k h
theorem b4m {g f : M D} (h : WE (f ρ) fun y ρ1 => (∃ s, u6 ρ1 i = some s) ∧ WE (g ρ1) fun k ρ2 => TI2 ρ2 i k y fun ρ' => P (.nx ρ')) : WC (az3 i g f ρ) P := by
  obtain ⟨y, ρ1, e1, ⟨s0, e0⟩, k, ρ2, e2, s, d', ρ', h1, h2, h3, h4, h5⟩ := h
  rw [ev_sti, e1]
  simp only [e0, e2, h1, h2, if_true, h3, h4]
  unfold WC; exact h5
section
variable {Q : D → Env → Prop}
theorem b5p {F : D → D → Option D} {f g : M Opd} (h : WE (f ρ) fun a ρ1 => WE (g ρ1) fun b ρ2 => T2 F ρ2 a b fun z => Q z ρ2) : WE (op2 F f g ρ) Q := by
  obtain ⟨a, ρ1, e1, b, ρ2, e2, x, y, h1, h2, z, h3, h4⟩ := h
  refine ⟨z, ρ2, ?_, h4⟩
  rw [ev_op2, e1]
  simp only [e2, h1, h2, h3, ev_res1]
theorem b5v (h : Q d ρ) : WE (cst d ρ) Q := ⟨d, ρ, rfl, h⟩
theorem ay5 {t : M Bool} {a b : M D} (h : WE (t ρ) fun k ρ' => WB k (WE (a ρ') Q) (WE (b ρ') Q)) : WE (ifM t a b ρ) Q := by
  obtain ⟨k, ρ', e, h⟩ := h
  rw [ev_ifM, e]
  cases k
  · exact h
  · exact h
theorem b56 {a b : M D} (h : WE (tst a ρ) fun k ρ' => WB k (WE (b ρ') Q) (Q (.bl false) ρ')) : WE (b5e a b ρ) Q := by
  obtain ⟨k, ρ', e, h⟩ := h
  rw [ev_andV, e]
  cases k
  · exact a4n h
  · exact h
theorem b03 {F : List D → Option D} {g : M (List Opd)} (h : WE (g ρ) fun os ρ1 => TL ρ1 os fun ds => RO (F ds) fun z => Q z ρ1) : WE (a0e F g ρ) Q := by
  obtain ⟨os, ρ1, e1, ds, e2, z, e3, h⟩ := h
  rw [ev_callB, e1]
  simp only [e2, e3, ev_res1]
  exact a4n h
theorem b74 {f : M (List Opd)} (h : WE (f ρ) fun os ρ1 => TV os fun ds => TN ds 1000 (Q (.lst true ds) ρ1)) : WE (lstM f ρ) Q := by
  obtain ⟨os, ρ1, e1, ds, e2, e3, h⟩ := h
  rw [ev_lst, e1]
  simp only [e2, if_pos e3]
  exact a4n h
theorem b5m {f : M (List Opd)} (h : WE (f ρ) fun os ρ1 => TV os fun ds => TN ds 1000 (TZ ds fun es => Q (.tup es) ρ1)) : WE (a1u f ρ) Q := by
  obtain ⟨os, ρ1, e1, ds, e2, e3, es, e4, h⟩ := h
  rw [ev_tup, e1]
  simp only [e2, if_pos e3, e4]
  exact a4n h
theorem b3q {f : M (List Opd)} (h : WE (f ρ) fun os ρ0 => TP io os ρ0 fun ds ρ1 => WF (m ds) fun d outs => TK ρ0 io os outs ρ1 fun ρ2 => Q d ρ2) : WE (callC io m f ρ) Q := by
  obtain ⟨os, ρ0, e1, ds, ρ1, e2, d, outs, e3, ρ2, e4, h⟩ := h
  exact a6w (b46 e1 e2 e3 e4) h
theorem b9n {f : M Opd} {lo hi : M (Option Int)} (h : WE (f ρ) fun o ρ1 => WE (lo ρ1) fun l ρ2 => WE (hi ρ2) fun u ρ3 => T1 ρ3 o fun d => RO (slD d l u) fun z => Q z ρ3) : WE (slM f lo hi ρ) Q := by
  obtain ⟨o, ρ1, e1, l, ρ2, e2, u, ρ3, e3, d, e4, z, e5, h⟩ := h
  rw [ev_slM, e1]
  simp only [e2, e3, e4, e5, ev_res1]
  exact a4n h
theorem b7o {f : M D} (h : WE (f ρ) fun d ρ' => TY d fun e => Q e ρ') : WE (b5g f ρ) Q := by
  obtain ⟨d, ρ', e, x, rfl, h⟩ := h
  rw [ev_frz, e]
  exact a4n h
theorem b8d (h : ρ[i]? = some (some (.own d))) (ho : owned d = false) (k : Q d ρ) : WE (rdN i ρ) Q := a6w (be6 h ho) k
theorem b6l (h : ρ[i]? = some (some (.own d))) (ho : owned d = true) (hf : fr d = x) (hs : ρ.set i (some (.own x)) = ρ') (k : Q x ρ') : WE (rdN i ρ) Q := a6w (by rw [ev_rd, h]; simp only [if_pos ho]; rw [hf, hs]) k
theorem b7q {f : M D} (h0 : ∃ s, u6 ρ i = some s ∧ a7h s.d = true) (h : WE (f ρ) fun y ρ1 => TA ρ1 i y fun ρ2 => Q .non ρ2) : WE (ao7 i f ρ) Q := by
  obtain ⟨y, ρ1, e, s, ds, ρ', h1, h2, h3, h4, h5, h6⟩ := h
  obtain ⟨s0, e0, e1⟩ := h0
  refine a6w (ρ := ρ') ?_ h6
  rw [ev_app, e0]
  simp only [if_pos e1, e, h1, h2, if_true, h3, if_pos h4]
  rw [h5]
theorem b37 {f : M D} {s : Slot} (h1 : u6 ρ i = some s) (h2 : a7h s.d = true) (h : WE (f ρ) fun y ρ1 => TA ρ1 i y fun ρ2 => Q .non ρ2) : WE (ao7 i f ρ) Q := b7q ⟨s, h1, h2⟩ h
theorem be3 {it : M (List D)} {g : D → C} {tt : M Bool} {f : M D} (h : WE (it ρ) fun ds ρ1 => a5u ρ1 own = true ∧ TW ρ1 own fun ρ2 => WL g tt f own ds [] ρ2 fun acc ρ3 => TX ρ1 ρ3 own fun ρ4 => Q (.lst true acc) ρ4) : WE (lcM it g tt f own ρ) Q := by
  obtain ⟨ds, ρ1, e1, e2, ρ2, e3, acc, ρ3, e4, ρ4, e5, h⟩ := h
  refine a6w (ρ := ρ4) ?_ h
  rw [← e3] at e4
  rw [b9p e1 e2 e4, e5]
end
theorem a9y {a b : M Bool} {Q : Bool → Env → Prop} (h : WE (a ρ) fun k ρ' => WB k (WE (b ρ') Q) (Q false ρ')) : WE (andM a b ρ) Q := by
  obtain ⟨k, ρ', e, h⟩ := h
  rw [ev_andM, e]
  cases k
  · exact a4n h
  · exact h
theorem ak3 {a b : M Bool} {Q : Bool → Env → Prop} (h : WE (a ρ) fun k ρ' => WB k (Q true ρ') (WE (b ρ') Q)) : WE (orM a b ρ) Q := by
  obtain ⟨k, ρ', e, h⟩ := h
  rw [ev_orM, e]
  cases k
  · exact h
  · exact a4n h
theorem b3t {a : M Bool} {Q : Bool → Env → Prop} (h : WE (a ρ) fun k ρ' => Q (!k) ρ') : WE (b5f a ρ) Q := by
  obtain ⟨k, ρ', e, h⟩ := h
  rw [ev_notM, e]
  exact a4n h
theorem b8b {f : M D} {Q : Bool → Env → Prop} (h : WE (f ρ) fun d ρ' => TB d fun b => Q b ρ') : WE (tst f ρ) Q := by
  obtain ⟨d, ρ', e, b, rfl, h⟩ := h
  rw [ev_tst, e]
  exact a4n h
theorem aw2 {Q : Bool → Env → Prop} (h : Q true ρ) : WE (a8o ρ) Q := a4n h
theorem bd9 {f : M D} {Q : Opd → Env → Prop} (h : WE (f ρ) fun d ρ' => Q (.va d) ρ') : WE (va f ρ) Q := by
  obtain ⟨d, ρ', e, h⟩ := h
  rw [ev_va, e]
  exact a4n h
theorem bb4 {s : Slot} {Q : Opd → Env → Prop} (e : ρ[i]? = some (some s)) (h : Q (.nm i) ρ) : WE (nmN i ρ) Q := a6w (by rw [ev_nm, e]) h
theorem b54 {Q : List Opd → Env → Prop} (h : Q [] ρ) : WE (t8 ρ) Q := a4n h
theorem b0d {f : M Opd} {g : M (List Opd)} {Q : List Opd → Env → Prop} (h : WE (f ρ) fun o ρ1 => WE (g ρ1) fun os ρ2 => Q (o :: os) ρ2) : WE (d9 f g ρ) Q := by
  obtain ⟨o, ρ1, e1, os, ρ2, e2, h⟩ := h
  rw [ev_aCons, e1]
  simp only [e2]
  exact a4n h
theorem b4c {f : M D} {Q : Option Int → Env → Prop} (h : WE (f ρ) fun d ρ' => TI d fun i => Q (some i) ρ') : WE (a85 f ρ) Q := by
  obtain ⟨d, ρ', e, i, rfl, h⟩ := h
  rw [ev_part, e]
  exact a4n h
theorem ax0 {Q : Option Int → Env → Prop} (h : Q none ρ) : WE (a6k ρ) Q := a4n h
section
variable {Q : List D → Env → Prop}
theorem b61 {f : M D} (h : WE (f ρ) fun d ρ' => TS d fun ds => Q ds ρ') : WE (itD f ρ) Q := by
  obtain ⟨d, ρ', e, ds, e2, h⟩ := h
  rw [ev_itD, e]
  simp only [e2]
  exact a4n h
theorem b4h {f : M (List Opd)} (h : WE (f ρ) fun os ρ1 => TL ρ1 os fun ds => TR ds fun xs => Q xs ρ1) : WE (ap0 f ρ) Q := by
  obtain ⟨os, ρ1, e1, ds, e2, n, rfl, h1, h2, h⟩ := h
  rw [ev_rng1, e1]
  simp only [e2]
  rw [if_pos ⟨by omega, by omega⟩]
  exact a4n h
theorem ba5 {f : M (List Opd)} (h : WE (f ρ) fun os ρ1 => TV os fun ds => TZ ds fun es => TEn es fun xs => Q xs ρ1) : WE (enM f ρ) Q := by
  obtain ⟨os, ρ1, e1, ds, e2, es, e3, a, xs, rfl, e4, h⟩ := h
  refine a6w (ρ := ρ1) ?_ h
  unfold enM M.bind
  simp only [e1, e2, e3]
  cases a with
  | lst o xs' =>
    cases o with
    | true => cases e4
    | false => cases e4; rfl
  | tup xs' => cases e4; rfl
  | str x => cases e4; rfl
  | _ => cases e4
theorem en1 {a : D} (h1 : aj2 a = some xs) (h : KL (enL 0 xs)) : TEn [a] KL := ⟨a, xs, rfl, h1, h⟩
theorem ap9 {g : D → C} {tt : M Bool} {f : M D} (I : Nat → List D → Env → Prop) : ∀ (ds : List D) (k : Nat) (acc : List D) (ρ : Env), k + ds.length ≤ 1000000 → acc.length ≤ k → I k acc ρ →
    (∀ i d acc ρ, ds[i]? = some d → I (k + i) acc ρ → WC (g d ρ) (nq fun ρ1 => WE (tt ρ1) fun c ρ2 => WB c (WE (f ρ2) fun y ρ3 => TW ρ3 own fun ρ4 => I (k + i + 1) (acc ++ [y]) ρ4) (TW ρ2 own fun ρ4 => I (k + i + 1) acc ρ4))) →
    (∀ acc ρ, acc.length ≤ k + ds.length → I (k + ds.length) acc ρ → Q acc ρ) → WL g tt f own ds acc ρ Q
  | [], k, acc, ρ, _, ha, h, _, hq => ⟨acc, ρ, rfl, hq acc ρ ha h⟩
  | d :: ds, k, acc, ρ, hl, ha, h, hs, hq => by
    have h1 := hs 0 d acc ρ rfl h
    rw [List.length_cons] at hl hq
    have H : ∀ acc' ρ', acc'.length ≤ k + 1 → I (k + 1) acc' ρ' → WL g tt f own ds acc' ρ' Q := fun acc' ρ' ha' h' => ap9 I ds (k + 1) acc' ρ' (by omega) ha' h' (fun i d acc ρ e hI => by
      have := hs (i + 1) d acc ρ (by rw [List.getElem?_cons_succ]; exact e) (by rw [show k + (i + 1) = k + 1 + i by omega]; exact hI)
      rw [show k + (i + 1) + 1 = k + 1 + i + 1 by omega] at this
      exact this) fun acc ρ hx hI => hq acc ρ (by omega) (by rw [show k + (ds.length + 1) = k + 1 + ds.length by omega]; exact hI)
    unfold WC at h1
    unfold WL
    rw [af9]
    cases e : g d ρ with
    | nx ρ1 =>
      rw [e] at h1
      obtain ⟨c, ρ2, e2, h1⟩ := h1
      simp only [e2]
      cases c with
      | false =>
        obtain ⟨ρ4, e4, h1⟩ := h1
        simp only [Bool.false_eq_true, if_false, e4]
        exact H acc ρ4 (by omega) h1
      | true =>
        obtain ⟨y, ρ3, e3, ρ4, e4, h1⟩ := h1
        simp only [if_true, e3, e4]
        rw [if_pos (by omega)]
        exact H _ ρ4 (by rw [List.length_append]; simp; omega) h1
    | _ => rw [e] at h1; exact h1.elim
theorem ay9 {g : D → C} {tt : M Bool} {f : M D} (I : Nat → List D → Env → Prop) (hl : ds.length ≤ 1000000) (h : I 0 [] ρ)
    (hs : ∀ i d acc ρ, ds[i]? = some d → I i acc ρ → WC (g d ρ) (nq fun ρ1 => WE (tt ρ1) fun c ρ2 => WB c (WE (f ρ2) fun y ρ3 => TW ρ3 own fun ρ4 => I (i + 1) (acc ++ [y]) ρ4) (TW ρ2 own fun ρ4 => I (i + 1) acc ρ4)))
    (hq : ∀ acc ρ, acc.length ≤ ds.length → I ds.length acc ρ → Q acc ρ) : WL g tt f own ds [] ρ Q :=
  ap9 I ds 0 [] ρ (by omega) (Nat.le_refl _) h (fun i d acc ρ e hI => by rw [Nat.zero_add] at hI ⊢; exact hs i d acc ρ e hI) fun acc ρ hx hI => hq acc ρ (by omega) (by rw [Nat.zero_add] at hI; exact hI)
theorem b5r {g : D → C} {f : M D} {b : Int} (I : Nat → List D → Env → Prop) (hl : b ≤ 1000000) (h : I 0 [] ρ)
    (hs : ∀ (i : Nat) acc ρ, (i : Int) < b → acc.length = i → I i acc ρ → WC (g (.int (i : Int)) ρ) (nq fun ρ1 => WE (f ρ1) fun y ρ3 => TW ρ3 own fun ρ4 => I (i + 1) (acc ++ [y]) ρ4))
    (hq : ∀ acc ρ, acc.length = b.toNat → I b.toNat acc ρ → Q acc ρ) : WL g a8o f own (rg 0 b) [] ρ Q := by
  refine ay9 (fun i acc ρ => acc.length = i ∧ I i acc ρ) (by rw [a8w]; omega) ⟨rfl, h⟩ (fun i d acc ρ e ⟨ha, hI⟩ => ?_) fun acc ρ _ ⟨ha, hI⟩ => hq acc ρ (by rw [a8w] at ha; simpa using ha) (by rw [a8w] at hI; simpa using hI)
  obtain ⟨rfl, h2⟩ := as7 e
  rw [Int.zero_add] at h2 ⊢
  have := hs i acc ρ h2 ha hI
  unfold WC at this ⊢
  cases e2 : g (.int (i : Int)) ρ with
  | nx ρ1 =>
    rw [e2] at this
    obtain ⟨y, ρ3, e3, ρ4, e4, h⟩ := this
    exact aw2 ⟨y, ρ3, e3, ρ4, e4, by rw [List.length_append]; simp; omega, h⟩
  | _ => rw [e2] at this; exact this.elim
theorem a6d {g : D → C} {f : M D} (F : D → D) (hl : ds.length ≤ 1000000) (hs : ∀ d ∈ ds, WC (g d ρ) (nq fun ρ1 => WE (f ρ1) fun y ρ3 => y = F d ∧ TW ρ3 own fun ρ4 => ρ4 = ρ)) (hq : Q (ds.map F) ρ) : WL g a8o f own ds [] ρ Q := by
  refine ⟨_, _, b2q F ds [] (by simpa using hl) fun d hd => ?_, by simpa using hq⟩
  have := hs d hd
  unfold WC at this
  cases e2 : g d ρ with
  | nx ρ1 =>
    rw [e2] at this
    obtain ⟨y, ρ3, e3, rfl, ρ4, e4, rfl⟩ := this
    exact ⟨ρ1, ρ3, rfl, e3, e4⟩
  | _ => rw [e2] at this; exact this.elim
end
theorem b5b {o : Bool} {v : Int} (h0 : 0 ≤ v) (h1 : v < ds.length) (hp : ∀ d ∈ ds, owned d = false) : ∃ z, ds[v.toNat]? = some z ∧ z ∈ ds ∧ ixD (.lst o ds) (.int v) = some z := by
  have hk : v.toNat < ds.length := by omega
  have e := List.getElem?_eq_getElem hk
  refine ⟨_, e, List.getElem_mem hk, ?_⟩
  rw [ae6]
  have := L2.atI_nat e
  rw [show ((v.toNat : Nat) : Int) = v by omega] at this
  rw [this]
  exact b2g (hp _ (List.getElem_mem hk))
theorem ap1 {o : Bool} {v : Nat} (e : ds[v]? = some z) (hp : owned z = false) : ixD (.lst o ds) (.int (v : Int)) = some z := by
  rw [ae6, L2.atI_nat e]; exact b2g hp
theorem b2s {v : Nat} (e : ds[v]? = some z) : ixD (.tup ds) (.int (v : Int)) = some z := by
  rw [b47, L2.atI_nat e]
theorem bm0 : b41 (.int 10) (.int 18) = some (.int 1000000000000000000) := b1k (by decide) (by decide) (by decide)
theorem lc2 (h : a5u ρ own = true) (k : A) : a5u ρ own = true ∧ A := ⟨h, k⟩
theorem sl2 {s : Slot} (h : u6 ρ i = some s) (k : A) : (∃ s, u6 ρ i = some s) ∧ A := ⟨⟨s, h⟩, k⟩
theorem bp4 {o : Bool} (h : owned x = false) : ixD (.lst o (x :: xs)) (.int 0) = some x := ap1 (ds := x :: xs) (v := 0) rfl h
theorem bi8 {o : Bool} (h : owned y = false) : ixD (.lst o (x :: y :: xs)) (.int 1) = some y := ap1 (ds := x :: y :: xs) (v := 1) rfl h
theorem bm5 {o : Bool} (h : owned z = false) : ixD (.lst o (x :: y :: z :: xs)) (.int 2) = some z := ap1 (ds := x :: y :: z :: xs) (v := 2) rfl h
theorem b4u : b9h [.tup xs, .ty "tuple"] = some (.bl true) := rfl
theorem b3c {t : Str} : neD (.str t) (.str t) = some (.bl false) := by simp [neD, eqB, flat, scal]
theorem b3m {t : Str} : eqD (.str t) (.str t) = some (.bl true) := by simp [eqD, eqB, flat, scal]
theorem ah7 {a b : Int} (h : 0 < b) (k : K (.int (a % b))) : RO (ae3 (.int a) (.int b)) K := ro (aj8 h) k
theorem aa7 {a b : Int} (h : 0 < b) (h2 : b < 2 ^ 200) (k : K (.int (a / b))) : RO (a8u (.int a) (.int b)) K := ro (aq7 h h2) k
theorem ad9 {a b : Int} (h1 : -(2 ^ 200) < a) (h2 : a < 2 ^ 200) (h3 : -(2 ^ 200) < b) (h4 : b < 2 ^ 200) (k : K (.int (a * b))) : RO (al8 (.int a) (.int b)) K := ro (aj9 h1 h2 h3 h4) k
theorem b3a {o : Bool} (h : owned x = false) (k : K x) : RO (ixD (.lst o (x :: xs)) (.int 0)) K := ro (bp4 h) k
theorem b32 {o : Bool} (h : owned y = false) (k : K y) : RO (ixD (.lst o (x :: y :: xs)) (.int 1)) K := ro (bi8 h) k
theorem b2v {o : Bool} (h : owned z = false) (k : K z) : RO (ixD (.lst o (x :: y :: z :: xs)) (.int 2)) K := ro (bm5 h) k
theorem v7 {o : Bool} (h : a0d ds = true) : a2w [.lst o ds] = some (.tup ds) := by unfold a2w; simp [h]
theorem b6s {a b : C} (J : Env → Prop) (h : WC (a ρ) (nq J)) (k : ∀ ρ, J ρ → WC (b ρ) P) : WC (a09 a b ρ) P := by
  unfold WC at h
  refine a3k ?_
  unfold WC
  cases e : a ρ with
  | nx ρ' => rw [e] at h; exact k _ h
  | _ => rw [e] at h; exact h.elim
theorem b5n {r : Res α} (J : α → Env → Prop) (h : WE r J) (k : ∀ a ρ, J a ρ → Q a ρ) : WE r Q := h.mono k
theorem b5w {p q : PyData} (h : flat x = none ∨ flat y = none) (e1 : toPy x = some p) (e2 : toPy y = some q) (s1 : SeqAt.shaped p = true) (s2 : SeqAt.shaped q = true) : eqB x y = some (PyData.eqv p q) := by
  unfold eqB
  rw [e1, e2]
  rcases h with h | h
  · rw [h]; simp only [if_pos (And.intro s1 s2)]
  · rw [h]; cases flat x <;> simp only [if_pos (And.intro s1 s2)]
theorem b2e {p q : PyData} (h : flat x = none ∨ flat y = none) (e1 : toPy x = some p) (e2 : toPy y = some q) (s1 : SeqAt.shaped p = true) (s2 : SeqAt.shaped q = true) : eqD x y = some (.bl (PyData.eqv p q)) := by
  unfold eqD; rw [b5w h e1 e2 s1 s2]
structure Lays (p : PyData) (n : Nat) : Prop where
  lay : p.canLay0 = true
  dep : p.depth ≤ n
structure LaysL (p : List PyData) (n : Nat) : Prop where
  lay : PyData.canLayAll0 p = true
  dep : PyData.depthAll p ≤ n
theorem Lays.int {i : Int} (n : Nat) : Lays (.int i) n := ⟨by simp [PyData.canLay0], by simp [PyData.depth]⟩
theorem Lays.bool {i : Bool} (n : Nat) : Lays (.bool i) n := ⟨by simp [PyData.canLay0], by simp [PyData.depth]⟩
theorem Lays.str {i : Str} (n : Nat) (h : PyData.strOk i = true) : Lays (.str i) n := ⟨by simp [PyData.canLay0, h], by simp [PyData.depth]⟩
theorem Lays.none (n : Nat) : Lays .none n := ⟨by simp [PyData.canLay0], by simp [PyData.depth]⟩
theorem LaysL.nil (n : Nat) : LaysL [] n := ⟨by simp [PyData.canLayAll0], by simp [PyData.depthAll]⟩
theorem LaysL.cons {p : PyData} {ps : List PyData} {n : Nat} (h : Lays p n) (hs : LaysL ps n) : LaysL (p :: ps) n := ⟨by simp [PyData.canLayAll0, h.lay, hs.lay], by have := h.dep; have := hs.dep; simp only [PyData.depthAll]; omega⟩
theorem LaysL.all {n : Nat} : ∀ {ps : List PyData}, (∀ p ∈ ps, Lays p n) → LaysL ps n
  | [], _ => .nil n
  | p :: ps, h => .cons (h p List.mem_cons_self) (LaysL.all fun q hq => h q (List.mem_cons_of_mem _ hq))
theorem Lays.tup {ps : List PyData} {n : Nat} (h : LaysL ps n) : Lays (.tuple ps) (n + 1) := ⟨by simp [PyData.canLay0, h.lay], by have := h.dep; simp only [PyData.depth]; omega⟩
theorem Lays.lst {ps : List PyData} {n : Nat} (h : LaysL ps n) : Lays (.list ps) (n + 1) := ⟨by simp [PyData.canLay0, h.lay], by have := h.dep; simp only [PyData.depth]; omega⟩
theorem Lays.shaped {p : PyData} {n : Nat} (h : Lays p n) (hn : n ≤ 64) : SeqAt.shaped p = true := by
  have := h.dep
  simp [SeqAt.shaped, h.lay]; omega
theorem at6 {o o' : Bool} (h : xs.length + ys.length ≤ 1000000) (h1 : a0d xs = true) (h2 : a0d ys = true) : a5s (.lst o xs) (.lst o' ys) = some (.lst true (xs ++ ys)) := if_pos ⟨h, h1, h2⟩
theorem a4s (h : ∀ d ∈ ds, owned d = false) : a0d ds = true := List.all_eq_true.mpr fun d hd => by simp [h d hd]
end
end Dv
namespace Dv
open PySem L2 PySem.Spec PyProof.Rows
def b9k (O : Hold) (A : List Addr) (i : Nat) (v : V) : Hold := ⟨A ++ O.L, fun j => if j = i then some v else O.P j⟩
def a7a : Option Slot → Bool
  | some (.lent _) => true
  | _ => false
def a0w (ρ : Env) (i : Nat) : Bool := (match ρ[i]? with | some s => a7a s | none => false) && (ρ.set i none).all fun s => !a7a s
def ag6 (i : Nat) (f : M D) : M D := fun ρ => match ρ[i]? with
  | some (some s) => if s.may = true then (match f (ρ.set i (some (.lent s.d))) with
    | .ok y ρ' => if a0w ρ' i = true then .ok y (ρ'.set i (some s)) else .bad
    | _ => .bad) else .bad
  | _ => .bad
def itN (i : Nat) : M (List D) := fun ρ => match ρ[i]? with
  | some (some (.lent (.lst true ds))) => if a0d ds = true then .ok ds ρ else .bad
  | _ => .bad
section
variable {K : PySem.W.Frag} {Z : Zt} {O : Hold} {H H' : Hp} {S S' : Reg} {R R' A : List Addr} {σ σ' : L2.St} {ρ ρ' : Env} {i : Nat} {s : Slot} {v : V}
theorem Rel.lend (r : Rel K Z O H S R ρ σ) (h : ρ[i]? = some (some s)) (hm : s.may = true) : ∃ v A, σ[i]? = some (some v) ∧ SlotOk Z H S O.L (O.P i) s v A ∧ A.Nodup ∧ (∀ b ∈ A, b ∉ R ∧ b ∉ O.L) ∧ Rel K Z (b9k O A i v) H S R (ρ.set i (some (.lent s.d))) σ := by
  obtain ⟨As, r⟩ := r
  obtain ⟨v, hv, q⟩ := r.sl i _ h
  have hlt : i < ρ.length := (List.getElem?_eq_some_iff.mp h).1
  have qo : Own Z H S s.d v (As i) := by
    cases s with
    | own d => exact q
    | io d => exact q.1
    | lent d => cases hm
  have qm : ∀ b ∈ As i, S b = none ∧ H b ≠ none := Own.mem _ qo
  refine ⟨v, As i, hv, q, r.nd i, fun b hb => r.dr i b hb, fun j => if j = i then [] else As j, ⟨r.inv, by rw [List.length_set]; exact r.len, ?_, ?_, ?_, ?_, ?_, ?_⟩⟩
  · intro j t e
    by_cases hj : j = i
    · subst hj
      rw [List.getElem?_set_self hlt] at e
      cases e
      refine ⟨v, hv, ?_⟩
      show (if j = j then [] else As j) = [] ∧ (if j = j then some v else O.P j) = some v ∧ _
      exact ⟨if_pos rfl, if_pos rfl, As j, qo, fun b hb => List.mem_append_left _ hb⟩
    · rw [List.getElem?_set_ne (fun z => hj z.symm)] at e
      obtain ⟨w, hw, q2⟩ := r.sl j t e
      refine ⟨w, hw, ?_⟩
      simp only [if_neg hj]
      cases t with
      | own d => exact q2
      | io d => exact ⟨q2.1, by show (if j = i then some v else O.P j) = some w; rw [if_neg hj]; exact q2.2⟩
      | lent d =>
        obtain ⟨a, b, B, c, d⟩ := q2
        exact ⟨a, by show (if j = i then some v else O.P j) = some w; rw [if_neg hj]; exact b, B, c, fun x hx => List.mem_append_right _ (d x hx)⟩
  · intro j hj
    by_cases h2 : j = i
    · exact if_pos h2
    · simp only [if_neg h2]
      exact r.nil j fun t e => hj t (by rw [List.getElem?_set_ne (fun z => h2 z.symm)]; exact e)
  · intro j
    by_cases h2 : j = i
    · simp [h2]
    · simp only [if_neg h2]; exact r.nd j
  · intro j k hjk b hb
    by_cases h2 : j = i
    · simp [h2] at hb
    · simp only [if_neg h2] at hb
      by_cases h3 : k = i
      · simp [h3]
      · simp only [if_neg h3]; exact r.dj j k hjk b hb
  · intro j b hb
    by_cases h2 : j = i
    · simp [h2] at hb
    · simp only [if_neg h2] at hb
      refine ⟨(r.dr j b hb).1, fun z => ?_⟩
      rcases List.mem_append.mp z with z | z
      · exact r.dj j i h2 b hb z
      · exact (r.dr j b hb).2 z
  · intro b hb
    rcases hb with hb | hb
    · exact r.rest b (.inl hb)
    · rcases List.mem_append.mp hb with hb | hb
      · exact qm b hb
      · exact r.rest b (.inr hb)
theorem Rel.unlend (r : Rel K Z (b9k O A i v) H' S' R' ρ' σ') (h : a0w ρ' i = true) (q : SlotOk Z H' S' O.L (O.P i) s v A) (hm : s.may = true) (nd : A.Nodup) (dj : ∀ b ∈ A, b ∉ R' ∧ b ∉ O.L) : Rel K Z O H' S' R' (ρ'.set i (some s)) σ' := by
  obtain ⟨As, r⟩ := r
  unfold a0w at h
  rw [Bool.and_eq_true] at h
  obtain ⟨h1, h2⟩ := h
  obtain ⟨d', hd⟩ : ∃ d', ρ'[i]? = some (some (.lent d')) := by
    cases e : ρ'[i]? with
    | none => rw [e] at h1; cases h1
    | some o =>
      rw [e] at h1
      cases o with
      | none => cases h1
      | some t => cases t with
        | lent d => exact ⟨d, rfl⟩
        | own d => cases h1
        | io d => cases h1
  have hlt : i < ρ'.length := (List.getElem?_eq_some_iff.mp hd).1
  have hno : ∀ j d, j ≠ i → ρ'[j]? ≠ some (some (.lent d)) := fun j d hj e => by
    have := List.all_eq_true.mp h2 _ (List.mem_of_getElem? (l := ρ'.set i none) (i := j) (a := some (.lent d)) (by rw [List.getElem?_set_ne (fun z => hj z.symm)]; exact e))
    cases this
  obtain ⟨w, hw, hA, hp, _⟩ := r.sl i _ hd
  have hp : (if i = i then some v else O.P i) = some w := hp
  rw [if_pos rfl] at hp
  cases hp
  have hL : ∀ j b, b ∈ As j → b ∉ A ∧ b ∉ O.L := fun j b hb => ⟨fun z => (r.dr j b hb).2 (List.mem_append_left _ z), fun z => (r.dr j b hb).2 (List.mem_append_right _ z)⟩
  refine ⟨fun j => if j = i then A else As j, ⟨r.inv, by rw [List.length_set]; exact r.len, ?_, ?_, ?_, ?_, ?_, ?_⟩⟩
  · intro j t e
    by_cases hj : j = i
    · subst hj
      rw [List.getElem?_set_self hlt] at e
      cases e
      exact ⟨v, hw, by simp only [if_true]; exact q⟩
    · rw [List.getElem?_set_ne (fun z => hj z.symm)] at e
      obtain ⟨w, hw, q2⟩ := r.sl j t e
      refine ⟨w, hw, ?_⟩
      simp only [if_neg hj]
      cases t with
      | own d => exact q2
      | io d =>
        have h3 : (if j = i then some v else O.P j) = some w := q2.2
        rw [if_neg hj] at h3
        exact ⟨q2.1, h3⟩
      | lent d => exact (hno j d hj e).elim
  · intro j hj
    by_cases h3 : j = i
    · exact (hj s (by rw [h3, List.getElem?_set_self hlt])).elim
    · simp only [if_neg h3]
      exact r.nil j fun t e => hj t (by rw [List.getElem?_set_ne (fun z => h3 z.symm)]; exact e)
  · intro j
    by_cases h3 : j = i
    · simp only [if_pos h3]; exact nd
    · simp only [if_neg h3]; exact r.nd j
  · intro j k hjk b hb
    by_cases h3 : j = i
    · simp only [if_pos h3] at hb
      have h4 : k ≠ i := fun z => hjk (h3.trans z.symm)
      simp only [if_neg h4]
      exact fun z => (hL k b z).1 hb
    · simp only [if_neg h3] at hb
      by_cases h4 : k = i
      · simp only [if_pos h4]; exact (hL j b hb).1
      · simp only [if_neg h4]; exact r.dj j k hjk b hb
  · intro j b hb
    by_cases h3 : j = i
    · simp only [if_pos h3] at hb; exact dj b hb
    · simp only [if_neg h3] at hb; exact ⟨(r.dr j b hb).1, (hL j b hb).2⟩
  · intro b hb
    exact r.rest b (hb.imp id (List.mem_append_right _))
theorem ae9 : ∀ {ds : List D} {vs : List V} {A : List Addr}, OwnL Z H S ds vs A → (∀ d ∈ ds, owned d = false) → ShL Z S vs ds
  | [], vs, A, h, _ => by obtain ⟨rfl, _⟩ := h; exact .nil
  | d :: ds, vs, A, h, hp => by
    obtain ⟨v, r, A1, A2, rfl, _, h1, h2⟩ := h
    exact .cons (h1.sh (hp d List.mem_cons_self)).2 (ae9 h2 fun x hx => hp x (List.mem_cons_of_mem _ hx))
end
section
variable {X : Cx} {Z : Zt} {W : WX}
theorem b50 (i : Nat) {e : Expr} {f : M D} (he : SE X Z W e f) : SE X Z W e (ag6 i f) := by
  obtain ⟨t, h1, h2⟩ := he
  refine ⟨t, h1, fun O H S R ρ σ Q r h => ?_⟩
  unfold ag6 at h
  cases e1 : ρ[i]? with
  | none => rw [e1] at h; exact h.elim
  | some o =>
    cases o with
    | none => rw [e1] at h; exact h.elim
    | some s =>
      rw [e1] at h
      simp only at h
      split at h
      case isFalse => exact h.elim
      rename_i hm
      obtain ⟨v, A, hv, q, nd, dj, r'⟩ := r.lend e1 hm
      refine h2 (b9k O A i v) H S R _ σ Q r' ?_
      cases e2 : f (ρ.set i (some (.lent s.d))) with
      | bad => rw [e2] at h; exact h.elim
      | ex x ρ' => rw [e2] at h; exact h.elim
      | ok y ρ' =>
        rw [e2] at h
        simp only at h
        split at h
        case isFalse => exact h.elim
        rename_i hl
        intro v1 H1 S1 A1 l1 q1 nd1 dj1 r1 f1
        have keep : ∀ b ∈ A, H1 b = H b ∧ S1 b = none := fun b hb => ⟨f1 b (.inr (List.mem_append_left _ hb)), (r1.rest b (.inr (List.mem_append_left _ hb))).1⟩
        refine h v1 H1 S1 A1 l1 q1 nd1 (fun b hb => ⟨(dj1 b hb).1, fun z => (dj1 b hb).2 (List.mem_append_right _ z)⟩) (r1.unlend hl ?_ hm nd ?_) (fun b hb => f1 b (hb.imp id (List.mem_append_right _)))
        · cases s with
          | own d => exact Own.keep l1 d q keep
          | io d => exact ⟨Own.keep l1 d q.1 keep, q.2⟩
          | lent d => cases hm
        · intro b hb
          refine ⟨fun z => ?_, (dj b hb).2⟩
          rcases List.mem_append.mp z with z | z
          · exact (dj1 b z).2 (List.mem_append_left _ hb)
          · exact (dj b hb).1 z
theorem b3i (i : Nat) {tg : Expr} {x : Str} {pos : Pos} (hN : X.N[i]? = some x := by rfl) (hv : Vis X.env.scope x := by first | exact Or.inl rfl | exact Or.inr (Or.inl rfl) | exact Or.inr (Or.inr rfl)) (hd : (x == ("__debug__" : Str)) = false := by decide)
    (hcd : (x == ("__classdict__" : Str)) = false := by decide) : SI X Z W tg (.Name x pos) (itN i) := by
  obtain ⟨t, h1, h2⟩ := j5 (X := X) (Z := Z) (W := W) i (pos := pos) hN hv hd hcd
  refine ⟨_, b2o h1, fun O H S R ρ σ Q r h => h2 O H S R ρ σ _ r ?_⟩
  unfold itN at h
  split at h
  case h_2 => exact h.elim
  rename_i ds e
  split at h
  case isFalse => exact h.elim
  rename_i hp
  have e2 : nmN i ρ = .ok (.nm i) ρ := by unfold nmN; rw [e]
  rw [e2]
  intro v H1 S1 A l q nd dj r1 f1
  obtain ⟨hv2, rfl⟩ := q
  obtain ⟨As, r2⟩ := id r1
  obtain ⟨w, hw, hA, hP, B, hB, hL⟩ := r2.sl i _ e
  rw [hv2] at hw
  cases hw
  obtain ⟨a, vs, B', rfl, rfl, ha, hS, hO⟩ := hB
  have hpm : ∀ d ∈ ds, owned d = false := fun d hd => z9 hp d hd
  have hsh := ae9 hO hpm
  refine .inl ⟨a, vs, rfl, SqL.of ha, h _ H1 S1 l r1 f1 ?_⟩
  intro j H2 S2 I2 l2 f2
  have ha2 : H2 a = some (.lst vs) := by rw [f2 a (.inr (hL a List.mem_cons_self))]; exact ha
  have q := hsh.mono l2
  refine ⟨fun d hd => ?_, fun hi => ⟨vs, SqL.of ha2, by rw [u5 q]; exact Nat.le_of_eq hi⟩⟩
  obtain ⟨v, hv, qv⟩ := a1q q hd
  refine ⟨⟨vs, v, SqL.of ha2, hv⟩, fun x H' hy => ?_⟩
  obtain ⟨rfl, hy⟩ := hy
  have := hy vs (SqL.of ha2)
  rw [hv] at this
  cases this
  exact ⟨S2, ExtS.refl I2, qv⟩
end
section
variable {Q : D → Env → Prop} {ρ : Env} {i : Nat} {d : D}
def TQ (i : Nat) (s : Slot) (ρ : Env) (K : Env → Prop) : Prop := a0w ρ i = true ∧ ∃ ρ', ρ.set i (some s) = ρ' ∧ K ρ'
theorem tq {s : Slot} {ρ' : Env} {K : Env → Prop} (h : a0w ρ i = true) (e : ρ.set i (some s) = ρ') (k : K ρ') : TQ i s ρ K := ⟨h, ρ', e, k⟩
theorem b3f {f : M D} {s : Slot} {ρ1 : Env} (h : ρ[i]? = some (some s)) (hm : s.may = true) (hs : ρ.set i (some (.lent s.d)) = ρ1) (k : WE (f ρ1) fun y ρ' => TQ i s ρ' fun ρ2 => Q y ρ2) : WE (ag6 i f ρ) Q := by
  obtain ⟨y, ρ', e, h2, ρ2, e2, k⟩ := k
  refine a6w (ρ := ρ2) ?_ k
  unfold ag6
  rw [h]
  simp only [if_pos hm, hs, e, if_pos h2, e2]
theorem b1d {f : M D} {ρ1 : Env} (h : ρ[i]? = some (some (.own d))) (hs : ρ.set i (some (.lent d)) = ρ1) (k : WE (f ρ1) fun y ρ' => TQ i (.own d) ρ' fun ρ2 => Q y ρ2) : WE (ag6 i f ρ) Q := b3f h rfl hs k
theorem b6q {ds : List D} {Q : List D → Env → Prop} (h : ρ[i]? = some (some (.lent (.lst true ds)))) (hp : a0d ds = true) (k : Q ds ρ) : WE (itN i ρ) Q := by
  refine a6w (ρ := ρ) ?_ k
  unfold itN
  rw [h]
  simp only [if_pos hp]
theorem bb8 {ρ' : Env} (h : ρ[i]? = some (some (.lent d))) (hs : ρ.set i none = ρ') (h2 : ∀ s ∈ ρ', a7a s = false) : a0w ρ i = true := by
  unfold a0w
  rw [h, hs]
  show (true && _) = true
  rw [Bool.true_and]
  exact List.all_eq_true.mpr fun s hs => by simp only [h2 s hs]; rfl
theorem b8t : ∀ s ∈ ([] : Env), a7a s = false := fun _ h => nomatch h
theorem b4b {x : Option Slot} (h : a7a x = false) (h2 : ∀ s ∈ ρ, a7a s = false) : ∀ s ∈ x :: ρ, a7a s = false := fun s hs => (List.mem_cons.mp hs).elim (fun e => e ▸ h) (h2 s)
theorem OwnS.lent {x : Option Slot} (h : OwnS x) : a7a x = false := by
  rcases h with rfl | ⟨d, rfl⟩ <;> rfl
end
end Dv
namespace Dv
open PySem L2 PySem.Spec PyProof.Rows
def bn1 : D → Option D
  | .lst _ ds => if a0d ds = true then some (.lst true ds.reverse) else none
  | _ => none
def bs0 (f : M Opd) : M D := M.bind f fun o ρ => match look ρ o with | some d => a6f (bn1 d) ρ | none => .bad
def by6 (i : Nat) (f : M (List Opd)) : M D := fun ρ => match u6 ρ i with
  | some s0 => if a7h s0.d = true then M.bind f (fun os ρ1 => match u6 ρ1 i with
    | some s => if s.may = true then (match s.d, vas os with
      | .lst true ds, some [.int k, y] => if ds.length < 1000000 ∧ 0 ≤ k ∧ k < 1000000 ∧ a0d ds = true ∧ owned y = false then .ok .non (ρ1.set i (some (s.sw (.lst true (ds.take k.toNat ++ [y] ++ ds.drop k.toNat))))) else .bad
      | _, _ => .bad) else .bad
    | none => .bad) ρ else .bad
  | none => .bad
def br8 (i : Nat) (f : M D) : M D := fun ρ => match u6 ρ i with
  | some s0 => if a7h s0.d = true then M.bind f (fun y ρ1 => match u6 ρ1 i with
    | some s => if s.may = true then (match s.d, y with
      | .lst true ds, .lst _ es => if ds.length + es.length < 1000000 ∧ a0d ds = true ∧ a0d es = true then .ok .non (ρ1.set i (some (s.sw (.lst true (ds ++ es))))) else .bad
      | _, _ => .bad) else .bad
    | none => .bad) ρ else .bad
  | none => .bad
section
variable {X : Cx} {Z : Zt} {W : WX}
theorem b51 {O : Hold} {H : Hp} {S : Reg} {R A : List Addr} {σ : L2.St} {ρ : Env} {i : Nat} {s : Slot} {a : Addr} {ds es : List D} (r : Rel X.K Z O H S (A ++ R) ρ σ) (hs : u6 ρ i = some s) (hm : s.may = true) (hv : σ[i]? = some (some (.ref a))) (hd : s.d = .lst true ds) (dj : ∀ b ∈ A, b ∉ R ∧ b ∉ O.L)
    (hp : a0d ds = true) :
    ∃ vs, H a = some (.lst vs) ∧ ShL Z S vs ds ∧ ∀ ws, ShL Z S ws es → (∀ d ∈ es, owned d = false) → Rel X.K Z O (upd H a (.lst ws)) S R (ρ.set i (some (s.sw (.lst true es)))) σ ∧ Fr O R H (upd H a (.lst ws)) := by
  obtain ⟨As, r1⟩ := id r
  obtain ⟨v', hv', own⟩ := a9q r1 (a0s hs) hm
  rw [hv] at hv'
  cases hv'
  rw [hd] at own
  obtain ⟨a', vs, B, ea, eA, ha, sa, oL⟩ := own
  cases ea
  obtain ⟨k1, k2, k3, k4⟩ := a7p r1 (a0s hs) hm hv eA (fun o u z => by rw [ha] at z; cases z) dj
  have hsh := ae9 oL (z9 hp)
  refine ⟨vs, ha, hsh, fun ws hw hn => ?_⟩
  have := k4 (.lst ws) (.lst true es) [] List.nodup_nil (fun b hb => nomatch hb) ⟨a, ws, [], rfl, rfl, upd_same, sa, OwnL.of_sh hw hn⟩
  obtain ⟨r5, f5⟩ := this
  exact ⟨r5, f5⟩
theorem tyL {H : Hp} {S : Reg} {v : V} {d : D} (I : InvS X.K Z H S) (vw : View Z H S v d) (h : a7h d = true) : ∃ a xs, v = .ref a ∧ SqL X.K H a xs := by
  cases d with
  | lst o ds => obtain ⟨a, vs, rfl, ha, _⟩ := vw.lst I; exact ⟨a, vs, rfl, SqL.of ha⟩
  | _ => cases h
end
section
variable {Q : D → Env → Prop} {ρ : Env} {i : Nat}
def TM (ρ : Env) (i : Nat) (ok : List D → Prop) (G : List D → List D) (K : Env → Prop) : Prop := ∃ s ds ρ', u6 ρ i = some s ∧ s.may = true ∧ s.d = .lst true ds ∧ a0d ds = true ∧ ok ds ∧ ρ.set i (some (s.sw (.lst true (G ds)))) = ρ' ∧ K ρ'
theorem in2 {k : Int} {y : D} {P : Int → D → Prop} (k0 : 0 ≤ k) (k1 : k < 1000000) (hy : owned y = false) (h : P k y) : ∃ k' y', [D.int k, y] = [.int k', y'] ∧ 0 ≤ k' ∧ k' < 1000000 ∧ owned y' = false ∧ P k' y' := ⟨k, y, rfl, k0, k1, hy, h⟩
end
end Dv
namespace Dv
open PySem L2 PySem.Spec PyProof.Rows
def bx7 : D → D → Option D
  | .lst _ ds, .int k => if a0d ds = true ∧ (-1000000 ≤ k ∧ k ≤ 1000000) ∧ ds.length * k.toNat ≤ 1000000 then some (.lst true (List.replicate k.toNat ds).flatten) else none
  | _, _ => none
def bw5 : List D → Option D
  | [.bl k] => some (.int (if k then 1 else 0))
  | [.int i] => some (.int i)
  | _ => none
section
variable {K : PySem.W.Frag} {Z : Zt}
end
section
variable {X : Cx} {Z : Zt} {W : WX} {a b : Expr} {f g : M Opd} {pos : Pos}
end
end Dv
namespace Dv
open PySem L2 PySem.Spec PyProof.Rows
theorem a94 {Y : Cx} {N : List Str} {k : ScopeKind} {ns : List (Str × NameKind)} {g c : Bool} {scope : Scope} {own : List (Str × Nat)} (hN : Y.N = N) (hs : Y.env.scope = { kind := k, names := ns, isGenerator := g, isCoroutine := c }) (h : blkC N { kind := k, names := ns, isGenerator := g, isCoroutine := c } scope own = true) : BlkOk Y.N Y.env.scope scope own := by
  rw [hN, hs]; exact blkOk_by h
end Dv
namespace Dv
open PySem L2 PySem.Spec PyProof.Rows
def bb3 (z : Str) : Str := ⟨z.cps.toList.reverse.toArray⟩
def bp5 (K : PySem.W.Frag) (te : TE) : TE := fun σ H Q => te σ H fun x H1 => (∃ a xs, x = .ref a ∧ SqL K H1 a xs ∧ ∀ p, H1 p = none → Q (.ref p) (upd H1 p (.lst xs.reverse))) ∨ ∃ z, x = .str z ∧ z.length ≤ sizeLine ∧ Q (.str (bb3 z)) H1
def b8s : D → Option D
  | .lst _ ds => if a0d ds = true then some (.lst true ds.reverse) else none
  | .str z => if z.length ≤ 1000000 then some (.str (bb3 z)) else none
  | _ => none
def bj6 (f : M Opd) : M D := M.bind f fun o ρ => match look ρ o with | some d => a6f (b8s d) ρ | none => .bad
def ao1 (a : Str) : D → Option D
  | .lst _ ds => (match a7k ds with | some ys => if (ys.map (·.length)).sum + ys.length * a.length ≤ 1000000 then some (.str (Txt.join a ys)) else none | none => none)
  | _ => none
def joinM (a : Str) (f : M D) : M D := M.bind f fun d ρ => a6f (ao1 a d) ρ
section
variable {X : Cx} {Z : Zt} {W : WX}
theorem at3 {a : Str} {e : Expr} {f : M D} {k : Nat} {p0 apos pos : Pos} (he : SE X Z W e f) (hs : starEach [e] X.env = [(false, eval e X.env)] := by rfl) (hbase : attributeBase (.Constant (.str a) k p0) "join" X.env (eval (.Constant (.str a) k p0) X.env) = eval (.Constant (.str a) k p0) X.env := by rfl)
    (hline : (apos.endLine == pos.line) = true := by rfl) : SE X Z W (.Call (.Attribute (.Constant (.str a) k p0) "join" apos) [e] [] pos) (joinM a f) := by
  obtain ⟨t, h1, h2⟩ := he
  refine ⟨_, pe_join (pe_str (x := a)) h1 hs hbase hline, fun O H S R ρ σ Q r h => ?_⟩
  refine ⟨⟨a, rfl⟩, ?_⟩
  refine h2 O H S R ρ σ _ r ?_
  unfold joinM M.bind at h
  cases e1 : f ρ with
  | bad => rw [e1] at h; exact h.elim
  | ex x ρ1 => rw [e1] at h; exact h
  | ok d ρ1 =>
    rw [e1] at h
    intro v H1 S1 A l q nd dj r1 f1
    simp only [a6f] at h
    cases e5 : ao1 a d with
    | none => rw [e5] at h; exact h.elim
    | some d2 =>
      rw [e5] at h
      have g := a3d (W := W) r1.drop (EPost.weak h l f1)
      unfold ao1 at e5
      split at e5
      · rename_i o ds
        split at e5
        · rename_i ys hys
          split at e5
          · rename_i hl
            cases e5
            have vx : View Z H1 S1 v (.lst o ds) := ⟨A, q⟩
            obtain ⟨b, vs, rfl, ha, hv⟩ := vx.lst r1.inv
            have := a7u hv hys
            subst this
            exact ⟨a, b, ys, rfl, rfl, .inl (SqL.of ha), by omega, g.flat r1.inv rfl⟩
          · cases e5
        · cases e5
      · cases e5
end
section
variable {Q : D → Env → Prop} {ρ : Env}
theorem b34 {a : Str} {f : M D} (h : WE (f ρ) fun d ρ1 => RO (ao1 a d) fun z => Q z ρ1) : WE (joinM a f ρ) Q := by
  obtain ⟨d, ρ1, e1, z, e3, h⟩ := h
  refine a6w (ρ := ρ1) ?_ h
  unfold joinM M.bind
  simp only [e1, e3, ev_res1]
theorem strs_map : ∀ ys : List Str, a7k (ys.map .str) = some ys
  | [] => rfl
  | y :: ys => by
    show (match a7k (ys.map .str) with | some ns => some (y :: ns) | none => none) = _
    rw [strs_map ys]
theorem b3w {a : Str} {o : Bool} {ys : List Str} (h : (ys.map fun y : Str => y.length).sum + ys.length * a.length ≤ 1000000) : ao1 a (.lst o (ys.map .str)) = some (.str (Txt.join a ys)) := by
  show (match a7k (ys.map .str) with | some ys => if (ys.map fun y : Str => y.length).sum + ys.length * a.length ≤ 1000000 then some (D.str (Txt.join a ys)) else none | none => none) = _
  rw [strs_map]
  exact if_pos h
end
end Dv
namespace Dv
open PySem L2 PySem.Spec PyProof.Rows
def br3 : List D → Option D
  | [.str x] => if x.length = 1 then some (.int (x.cps.getD 0 0 : Nat)) else none
  | _ => none
def bt3 : List D → Option D
  | [.int i] => if i.natAbs.log2 < 1920 then some (.str (toString i)) else none
  | [.bl b] => some (.str (if b then "True" else "False"))
  | _ => none
section
variable {K : PySem.W.Frag} {Z : Zt}
def bq8 : List V → Hp → VK → Prop := fun xs H Q => (∃ i, xs = [.int i] ∧ i.natAbs.log2 < 1920 ∧ Q (.str (toString i)) H) ∨ ∃ b, xs = [.bl b] ∧ Q (.str (if b then "True" else "False")) H
end
end Dv
namespace Dv
open PySem L2 PySem.Spec PyProof.Rows
def bf3 : D → D → Option D
  | .tup ds, .int k => if ds ≠ [] ∧ 2 ≤ k ∧ k ≤ 1000 ∧ ds.length ≤ 1000 then some (.tup (List.replicate k.toNat ds).flatten) else none
  | _, _ => none
section
variable {K : PySem.W.Frag} {Z : Zt}
end
section
variable {X : Cx} {Z : Zt} {W : WX} {a b : Expr} {f g : M Opd} {pos : Pos}
end
end Dv
namespace Dv
open PySem L2 PySem.Spec PyProof.Rows
def bx8 : C := fun _ => .bad
def bp3 (i : Nat) (c : C) : C := fun ρ => match ρ[i]? with
  | some (some s) => if s.may = true then (match c (ρ.set i (some (.lent s.d))) with
    | .nx ρ' => if a0w ρ' i = true then .nx (ρ'.set i (some s)) else .bad
    | .rt d ρ' => if a0w ρ' i = true then .rt d (ρ'.set i (some s)) else .bad
    | _ => .bad) else .bad
  | _ => .bad
def sortI (ns : List Int) : List Int := ns.mergeSort fun a b => decide (a ≤ b)
def sortedI : List D → Option D
  | [.lst _ ds] => (match a2j ds with | some ns => some (.lst true ((sortI ns).map .int)) | none => none)
  | _ => none
section
variable {X : Cx} {Z : Zt} {W : WX}
end
section
variable {K : PySem.W.Frag} {Z : Zt}
theorem b0h {ns ns' : List Int} (h : ns'.Perm ns) (hp : ns'.Pairwise (· ≤ ·)) : ns' = sortI ns := by
  have p2 : (sortI ns).Perm ns := List.mergeSort_perm _ _
  have w2 : (sortI ns).Pairwise (· ≤ ·) := by
    have := List.pairwise_mergeSort (le := fun a b : Int => decide (a ≤ b)) (by intro a b c h1 h2; simp at *; omega) (by intro a b; simp; omega) ns
    exact this.imp fun h => of_decide_eq_true h
  exact List.Perm.eq_of_pairwise (le := fun a b : Int => a ≤ b) (fun a b _ _ h1 h2 => by omega) hp w2 (h.trans p2.symm)
theorem ap6 : a5r K Z (rSortedI K) sortedI := by
  intro H S vs ds d Q I hv e g
  unfold sortedI at e
  split at e
  · rename_i o xs
    cases e2 : a2j xs with
    | none => rw [e2] at e; cases e
    | some ns =>
      rw [e2] at e
      cases e
      obtain ⟨v, rfl, h⟩ := v1 hv
      obtain ⟨a, ws, rfl, ha, hw⟩ := h.lst I
      have := a4q hw e2
      subst this
      refine ⟨a, ns, rfl, SqL.of ha, fun ns' p hperm hpw hp => ?_⟩
      rw [b0h hperm hpw]
      refine a1d g I ?_ (fun d hd => ?_) hp
      · generalize sortI ns = ms
        induction ms with
        | nil => exact .nil
        | cons m ms ih => exact .cons rfl ih
      · obtain ⟨i, _, rfl⟩ := List.mem_map.mp hd
        rfl
  · cases e
end
section
variable {ρ : Env} {i : Nat} {d : D} {P : Out → Prop}
def eq_ (i : Nat) (s : Slot) (P : Out → Prop) : Out → Prop
  | .nx ρ => TQ i s ρ fun ρ2 => P (.nx ρ2)
  | .rt d ρ => TQ i s ρ fun ρ2 => P (.rt d ρ2)
  | _ => False
end
end Dv
namespace Dv
open PySem L2 PySem.Spec PyProof.Rows HT
def bx9 : D → D → Option D
  | .bl a, .bl b => some (.bl (decide (a = b)))
  | x, .non => some (.bl (isNon x))
  | _, .bl _ => some (.bl false)
  | _, _ => none
def be2 : D → D → Option D
  | .bl a, .bl b => some (.bl (!decide (a = b)))
  | x, .non => some (.bl (!isNon x))
  | _, .bl _ => some (.bl true)
  | _, _ => none
section
variable {K : PySem.W.Frag} {Z : Zt}
def bv6 : R2 := fun x y H Q => rIsN x y H Q ∨ (∃ a b, x = .bl a ∧ y = .bl b ∧ Q (.bl (decide (a = b))) H) ∨ ((∀ b, x ≠ .bl b) ∧ (∃ b, y = .bl b) ∧ Q (.bl false) H)
def bo1 : R2 := fun x y H Q => rNotN x y H Q ∨ (∃ a b, x = .bl a ∧ y = .bl b ∧ Q (.bl (!decide (a = b))) H) ∨ ((∀ b, x ≠ .bl b) ∧ (∃ b, y = .bl b) ∧ Q (.bl true) H)
end
section
variable {X : Cx} {Z : Zt} {W : WX} {a b : Expr} {f g : M Opd} {pos : Pos}
end
section
variable {prog : Program} {w : World} {A : Around} {E : Value → Shared → Prop} {s : Shared}
end
def bp8 (K : PySem.W.Frag) (te : TE) : TE := fun σ H Q => te σ H fun x H1 => (∃ a xs, x = .ref a ∧ SqL K H1 a xs ∧ ∀ p, H1 p = none → Q (.ref p) (upd H1 p (.lst xs.reverse))) ∨ (∃ z, x = .str z ∧ z.length ≤ sizeLine ∧ Q (.str (bb3 z)) H1) ∨ ∃ a xs, x = .ref a ∧ SqT K H1 a xs ∧ ao9 H1 xs.reverse Q
def bc9 : D → Option D
  | .tup ds => some (.tup ds.reverse)
  | d => b8s d
def bl7 (f : M Opd) : M D := M.bind f fun o ρ => match look ρ o with | some d => a6f (bc9 d) ρ | none => .bad
section
variable {X : Cx} {Z : Zt} {W : WX}
end
section
variable {Q : D → Env → Prop} {ρ : Env}
end
end Dv
namespace Dv
open PySem L2 PySem.Spec PyProof.Rows
abbrev oD (d : D) : Option Slot := some (.own d)
abbrev oI (i : Int) : Option Slot := some (.own (.int i))
abbrev oT (xs : List D) : Option Slot := some (.own (.tup xs))
abbrev oL (xs : List D) : Option Slot := some (.own (.lst true xs))
abbrev oF (xs : List D) : Option Slot := some (.own (.lst false xs))
abbrev iD (d : D) : Option Slot := some (.io d)
abbrev iL (xs : List D) : Option Slot := some (.io (.lst true xs))
def up : Env → List (Nat × Option Slot) → Env
  | r, [] => r
  | r, (i, v) :: us => up (r.set i v) us
section
variable {α : Type} {r r' r1 ρ ρ' : Env} {i : Nat} {v : Option Slot} {us : List (Nat × Option Slot)} {P : Out → Prop} {c : C} {step : D → C} {ds : List D} {enc : α → D} {xs : List α} {own : List Nat} {g : D → C} {tt : M Bool} {f : M D} {Q : List D → Env → Prop}
theorem b6i : up r [] = r := rfl
theorem b35 (h : r.set i v = r1) (h2 : up r1 us = r') : up r ((i, v) :: us) = r' := by unfold up; rw [h]; exact h2
theorem b9u (h : up r us = ρ') (k : WC (c ρ') P) : WC (c (up r us)) P := by rw [h]; exact k
theorem a9i {b : Int} (I : Env → Nat → Env → Prop) (h : I ρ 0 ρ) (hs : ∀ (i : Nat) ρ', (i : Int) < b → I ρ i ρ' → WC (step (.int (i : Int)) ρ') (lq (I ρ (i + 1)) P)) (hq : ∀ ρ', I ρ b.toNat ρ' → P (.nx ρ')) : WC (a1h step (rg 0 b) ρ) P :=
  b93 (I ρ) h hs hq
theorem a96 (I : List α → Env → Prop) (hs : ∀ pre x post ρ', xs = pre ++ x :: post → I pre ρ' → WC (step (enc x) ρ') (lq (I (pre ++ [x])) P)) (hq : ∀ ρ', I xs ρ' → P (.nx ρ')) : ∀ (post pre : List α) (ρ : Env), xs = pre ++ post → I pre ρ → WC (a1h step (post.map enc) ρ) P
  | [], pre, ρ, e, h => bj5 <| hq ρ (by rw [e, List.append_nil]; exact h)
  | x :: post, pre, ρ, e, h => by
    have h1 := hs pre x post ρ e h
    have H := fun ρ' h' => b92 <| a96 I hs hq post (pre ++ [x]) ρ' (by rw [e, List.append_assoc]; rfl) h'
    unfold WC at h1 ⊢
    rw [List.map_cons, loopC_cons]
    cases e : step (enc x) ρ with
    | nx ρ' => rw [e] at h1; exact H ρ' h1
    | ct ρ' => rw [e] at h1; exact H ρ' h1
    | bk ρ' => rw [e] at h1; exact h1
    | rt x ρ' => rw [e] at h1; exact h1
    | ex x ρ' => rw [e] at h1; exact h1
    | bad => rw [e] at h1; exact h1.elim
theorem b7z (I : Env → List α → Env → Prop) (h : I ρ [] ρ) (hs : ∀ pre x post ρ', xs = pre ++ x :: post → I ρ pre ρ' → WC (step (enc x) ρ') (lq (I ρ (pre ++ [x])) P)) (hq : ∀ ρ', I ρ xs ρ' → P (.nx ρ')) : WC (a1h step (xs.map enc) ρ) P :=
  a96 (I ρ) hs hq xs [] ρ rfl h
theorem af4 {a b : C} (J : Env → Env → Prop) (h : WC (a ρ) (nq (J ρ))) (k : ∀ ρ', J ρ ρ' → WC (b ρ') P) : WC (a09 a b ρ) P := b6s (J ρ) h k
theorem ap5 {β : Type} {m : M β} {Q : β → Env → Prop} (J : Env → β → Env → Prop) (h : WE (m ρ) (J ρ)) (k : ∀ a ρ', J ρ a ρ' → Q a ρ') : WE (m ρ) Q := b5n (J ρ) h k
theorem aw7 (keep : α → Bool) (F : α → D) : ∀ (xs : List α) (acc : List D), acc.length + xs.length ≤ 1000000 →
    (∀ x ∈ xs, WC (g (enc x) ρ) (nq fun ρ1 => WE (tt ρ1) fun c ρ2 => c = keep x ∧ WB (keep x) (WE (f ρ2) fun y ρ3 => y = F x ∧ TW ρ3 own fun ρ4 => ρ4 = ρ) (TW ρ2 own fun ρ4 => ρ4 = ρ))) →
    a2g g tt f own (xs.map enc) acc ρ = .ok (acc ++ (xs.filter keep).map F) ρ
  | [], acc, _, _ => by
    show Res.ok acc ρ = Res.ok (acc ++ []) ρ
    rw [List.append_nil]
  | x :: xs, acc, hl, hs => by
    have h1 := hs x List.mem_cons_self
    have ih := fun acc' h => aw7 keep F xs acc' h fun y hy => hs y (List.mem_cons_of_mem _ hy)
    rw [List.length_cons] at hl
    unfold WC at h1
    rw [List.map_cons, af9]
    cases e : g (enc x) ρ with
    | nx ρ1 =>
      rw [e] at h1
      obtain ⟨c, ρ2, e2, rfl, h1⟩ := h1
      simp only [e2]
      cases hk : keep x with
      | false =>
        rw [hk] at h1
        obtain ⟨ρ4, e4, rfl⟩ := h1
        simp only [Bool.false_eq_true, if_false, e4]
        rw [ih acc (by omega), List.filter_cons_of_neg (by rw [hk]; decide)]
      | true =>
        rw [hk] at h1
        obtain ⟨y, ρ3, e3, rfl, ρ4, e4, rfl⟩ := h1
        simp only [if_true, e3, e4]
        rw [if_pos (by omega), ih _ (by rw [List.length_append]; simp; omega), List.filter_cons_of_pos hk, List.map_cons, List.append_assoc]
        rfl
    | _ => rw [e] at h1; exact h1.elim
theorem as3 (keep : α → Bool) (F : α → D) (hl : xs.length ≤ 1000000) (hs : ∀ x ∈ xs, WC (g (enc x) ρ) (nq fun ρ1 => WE (tt ρ1) fun c ρ2 => c = keep x ∧ WB (keep x) (WE (f ρ2) fun y ρ3 => y = F x ∧ TW ρ3 own fun ρ4 => ρ4 = ρ) (TW ρ2 own fun ρ4 => ρ4 = ρ))) (hq : Q ((xs.filter keep).map F) ρ) : WL g tt f own (xs.map enc) [] ρ Q :=
  ⟨_, _, aw7 keep F xs [] (by simpa using hl) hs, by simpa using hq⟩
theorem a9c (F : α → D) (hl : xs.length ≤ 1000000) (hs : ∀ x ∈ xs, WC (g (enc x) ρ) (nq fun ρ1 => WE (f ρ1) fun y ρ3 => y = F x ∧ TW ρ3 own fun ρ4 => ρ4 = ρ)) (hq : Q (xs.map F) ρ) : WL g a8o f own (xs.map enc) [] ρ Q := by
  refine as3 (fun _ => true) F hl (fun x hx => ?_) (by rw [List.filter_eq_self.mpr fun _ _ => rfl]; exact hq)
  have := hs x hx
  unfold WC at this ⊢
  cases e : g (enc x) ρ with
  | nx ρ1 => rw [e] at this; exact aw2 ⟨rfl, this⟩
  | _ => rw [e] at this; exact this.elim
theorem ar3 {b : Int} (I : Env → Nat → List D → Env → Prop) (hl : b ≤ 1000000) (h : I ρ 0 [] ρ)
    (hs : ∀ (i : Nat) acc ρ', (i : Int) < b → acc.length = i → I ρ i acc ρ' → WC (g (.int (i : Int)) ρ') (nq fun ρ1 => WE (f ρ1) fun y ρ3 => TW ρ3 own fun ρ4 => I ρ (i + 1) (acc ++ [y]) ρ4))
    (hq : ∀ acc ρ', acc.length = b.toNat → I ρ b.toNat acc ρ' → Q acc ρ') : WL g a8o f own (rg 0 b) [] ρ Q := b5r (I ρ) hl h hs hq
end
def nI (k : Nat) : D := .int (k : Int)
section
variable {o : Bool} {ds : List D} {v : Int} {K : D → Prop}
theorem a6t (R : D → Prop) (h0 : 0 ≤ v) (h1 : v < ds.length) (hp : ∀ d ∈ ds, owned d = false ∧ R d) (k : ∀ z, owned z = false → R z → K z) : RO (ixD (.lst o ds) (.int v)) K := by
  obtain ⟨z, _, hz, ez⟩ := b5b (o := o) h0 h1 fun d hd => (hp d hd).1
  exact ro ez (k z (hp z hz).1 (hp z hz).2)
def b49 (a b : Int) (d : D) : Prop := ∃ i, d = .int i ∧ a ≤ i ∧ i ≤ b
theorem a6h (a b : Int) (h0 : 0 ≤ v) (h1 : v < ds.length) (hp : ∀ d ∈ ds, b49 a b d) (k : ∀ i, a ≤ i → i ≤ b → K (.int i)) : RO (ixD (.lst o ds) (.int v)) K :=
  a6t (b49 a b) h0 h1 (fun d hd => ⟨by obtain ⟨i, rfl, _⟩ := hp d hd; rfl, hp d hd⟩) fun z _ hz => by obtain ⟨i, rfl, h2, h3⟩ := hz; exact k i h2 h3
theorem a91 {a b i : Int} (h : a ≤ i) (h2 : i ≤ b) : b49 a b (.int i) := ⟨i, rfl, h, h2⟩
end
structure EqC {α : Type} (dom : α → Prop) (enc : α → D) (n : Nat) : Prop where
  py : ∀ x, dom x → ∃ p, toPy (enc x) = some p ∧ Lays p n
  eq : ∀ x y p q, dom x → dom y → toPy (enc x) = some p → toPy (enc y) = some q → (PyData.eqv p q = true ↔ x = y)
theorem EqC.up {α : Type} {dom : α → Prop} {enc : α → D} {n m : Nat} (h : EqC dom enc n) (l : n ≤ m) : EqC dom enc m :=
  ⟨fun x hx => by obtain ⟨p, e, s⟩ := h.py x hx; exact ⟨p, e, s.lay, Nat.le_trans s.dep l⟩, h.eq⟩
def bd7 {α : Type} : α → Prop := fun _ => True
theorem EqC.int : EqC bd7 D.int 0 :=
  ⟨fun x _ => ⟨.int x, rfl, .int 0⟩, fun x y p q _ _ e1 e2 => by cases e1; cases e2; simp [PyData.eqv]⟩
theorem EqC.str : EqC (fun x => PyData.strOk x = true) D.str 0 :=
  ⟨fun x h => ⟨.str x, rfl, .str 0 h⟩, fun x y p q _ _ e1 e2 => by cases e1; cases e2; simp [PyData.eqv]⟩
theorem EqC.bl : EqC bd7 D.bl 0 :=
  ⟨fun x _ => ⟨.bool x, rfl, .bool 0⟩, fun x y p q _ _ e1 e2 => by cases e1; cases e2; cases x <;> cases y <;> simp [PyData.eqv]⟩
theorem EqC.of {α β : Type} {dom : α → Prop} {enc : α → D} {n : Nat} (h : EqC dom enc n) (f : β → α) (hf : ∀ x y, f x = f y → x = y) : EqC (fun x => dom (f x)) (fun x => enc (f x)) n :=
  ⟨fun x hx => h.py (f x) hx, fun x y p q hx hy e1 e2 => (h.eq _ _ p q hx hy e1 e2).trans ⟨hf x y, fun e => by rw [e]⟩⟩
section
variable {α β : Type} {dom : α → Prop} {enc : α → D} {dom2 : β → Prop} {enc2 : β → D} {n m : Nat}
theorem EqC.pyL (h : EqC dom enc n) : ∀ xs : List α, (∀ x ∈ xs, dom x) → ∃ ps, a0l (xs.map enc) = some ps ∧ LaysL ps n
  | [], _ => ⟨[], rfl, .nil n⟩
  | x :: xs, hd => by
    obtain ⟨p, e, s⟩ := h.py x (hd x List.mem_cons_self)
    obtain ⟨ps, e2, s2⟩ := h.pyL xs fun y hy => hd y (List.mem_cons_of_mem _ hy)
    exact ⟨p :: ps, a3s e e2, .cons s s2⟩
theorem a5f {d : D} {ds : List D} {ps : List PyData} (e : a0l (d :: ds) = some ps) : ∃ p qs, ps = p :: qs ∧ toPy d = some p ∧ a0l ds = some qs := by
  unfold a0l at e
  split at e
  · rename_i p qs e1 e2; cases e; exact ⟨p, qs, rfl, e1, e2⟩
  · cases e
theorem EqC.eqL (h : EqC dom enc n) : ∀ (xs ys : List α) (ps qs : List PyData), (∀ x ∈ xs, dom x) → (∀ x ∈ ys, dom x) → a0l (xs.map enc) = some ps → a0l (ys.map enc) = some qs → (PyData.eqvAll ps qs = true ↔ xs = ys)
  | [], [], ps, qs, _, _, e1, e2 => by cases e1; cases e2; simp [PyData.eqvAll]
  | [], y :: ys, ps, qs, _, _, e1, e2 => by obtain ⟨q, r, rfl, _, _⟩ := a5f e2; cases e1; simp [PyData.eqvAll]
  | x :: xs, [], ps, qs, _, _, e1, e2 => by obtain ⟨q, r, rfl, _, _⟩ := a5f e1; cases e2; simp [PyData.eqvAll]
  | x :: xs, y :: ys, ps, qs, dx, dy, e1, e2 => by
    obtain ⟨p, ps', rfl, e3, e4⟩ := a5f e1
    obtain ⟨q, qs', rfl, e5, e6⟩ := a5f e2
    have a := h.eq x y p q (dx x List.mem_cons_self) (dy y List.mem_cons_self) e3 e5
    have b := h.eqL xs ys ps' qs' (fun z hz => dx z (List.mem_cons_of_mem _ hz)) (fun z hz => dy z (List.mem_cons_of_mem _ hz)) e4 e6
    simp only [PyData.eqvAll, Bool.and_eq_true, a, b, List.cons.injEq]
theorem EqC.tup (h : EqC dom enc n) : EqC (fun xs : List α => ∀ x ∈ xs, dom x) (fun xs => .tup (xs.map enc)) (n + 1) :=
  ⟨fun xs hx => by obtain ⟨ps, e, s⟩ := h.pyL xs hx; exact ⟨_, a79 e, .tup s⟩, fun xs ys p q dx dy e1 e2 => by
    obtain ⟨ps, e3, _⟩ := h.pyL xs dx
    obtain ⟨qs, e4, _⟩ := h.pyL ys dy
    rw [a79 e3] at e1; rw [a79 e4] at e2
    cases e1; cases e2
    have := h.eqL xs ys ps qs dx dy e3 e4
    simpa [PyData.eqv] using this⟩
theorem EqC.lst (o : Bool) (h : EqC dom enc n) : EqC (fun xs : List α => ∀ x ∈ xs, dom x) (fun xs => .lst o (xs.map enc)) (n + 1) :=
  ⟨fun xs hx => by obtain ⟨ps, e, s⟩ := h.pyL xs hx; exact ⟨_, al4 e, .lst s⟩, fun xs ys p q dx dy e1 e2 => by
    obtain ⟨ps, e3, _⟩ := h.pyL xs dx
    obtain ⟨qs, e4, _⟩ := h.pyL ys dy
    rw [al4 e3] at e1; rw [al4 e4] at e2
    cases e1; cases e2
    have := h.eqL xs ys ps qs dx dy e3 e4
    simpa [PyData.eqv] using this⟩
theorem EqC.pair (h : EqC dom enc n) (h2 : EqC dom2 enc2 n) : EqC (fun x : α × β => dom x.1 ∧ dom2 x.2) (fun x => .tup [enc x.1, enc2 x.2]) (n + 1) :=
  ⟨fun x hx => by
    obtain ⟨p, e, s⟩ := h.py x.1 hx.1
    obtain ⟨q, e2, s2⟩ := h2.py x.2 hx.2
    exact ⟨_, a79 (a3s e (a3s e2 rfl)), .tup (.cons s (.cons s2 (.nil n)))⟩, fun x y p q dx dy e1 e2 => by
    obtain ⟨p1, f1, _⟩ := h.py x.1 dx.1
    obtain ⟨p2, f2, _⟩ := h2.py x.2 dx.2
    obtain ⟨q1, g1, _⟩ := h.py y.1 dy.1
    obtain ⟨q2, g2, _⟩ := h2.py y.2 dy.2
    rw [a79 (a3s f1 (a3s f2 rfl))] at e1
    rw [a79 (a3s g1 (a3s g2 rfl))] at e2
    cases e1; cases e2
    have a := h.eq x.1 y.1 p1 q1 dx.1 dy.1 f1 g1
    have b := h2.eq x.2 y.2 p2 q2 dx.2 dy.2 f2 g2
    simp only [PyData.eqv, PyData.eqvAll, Bool.and_eq_true, a, b, and_true]
    exact ⟨fun h => Prod.ext h.1 h.2, fun h => by rw [h]; exact ⟨rfl, rfl⟩⟩⟩
variable [DecidableEq α]
theorem b29 (h : EqC dom enc n) (hn : n ≤ 64) {x y : α} (dx : dom x) (dy : dom y) (hf : flat (enc x) = none ∨ flat (enc y) = none) : eqD (enc x) (enc y) = some (.bl (decide (x = y))) := by
  obtain ⟨p, e, s⟩ := h.py x dx
  obtain ⟨q, e2, s2⟩ := h.py y dy
  rw [b2e hf e e2 (s.shaped hn) (s2.shaped hn)]
  have := h.eq x y p q dx dy e e2
  congr 2
  by_cases hxy : x = y
  · rw [this.mpr hxy, decide_eq_true hxy]
  · rw [decide_eq_false hxy]; exact Bool.eq_false_iff.mpr fun z => hxy (this.mp z)
theorem b94 (h : EqC dom enc n) (hn : n ≤ 64) {x y : α} (dx : dom x) (dy : dom y) (hf : flat (enc x) = none ∨ flat (enc y) = none) : neD (enc x) (enc y) = some (.bl (!decide (x = y))) := by
  have := b29 h hn dx dy hf
  unfold eqD at this
  unfold neD
  cases e : eqB (enc x) (enc y) with
  | none => rw [e] at this; cases this
  | some b => rw [e] at this; cases this; rfl
theorem af0 (h : EqC dom enc n) {x : α} (dx : dom x) {p : PyData} (e : toPy (enc x) = some p) : ∀ (xs : List α) (ps : List PyData), (∀ y ∈ xs, dom y) → a0l (xs.map enc) = some ps → (ps.any fun z => PyData.eqv z p) = decide (x ∈ xs)
  | [], ps, _, e2 => by cases e2; simp
  | y :: ys, ps, hd, e2 => by
    obtain ⟨q, qs, rfl, e3, e4⟩ := a5f e2
    have a := h.eq y x q p (hd y List.mem_cons_self) dx e3 e
    rw [List.any_cons, af0 h dx e ys qs (fun z hz => hd z (List.mem_cons_of_mem _ hz)) e4]
    have : PyData.eqv q p = decide (y = x) := by
      by_cases hxy : y = x
      · rw [a.mpr hxy, decide_eq_true hxy]
      · rw [decide_eq_false hxy]; exact Bool.eq_false_iff.mpr fun z => hxy (a.mp z)
    rw [this, ← Bool.decide_or]
    exact decide_eq_decide.mpr ⟨fun h => h.elim (fun e => e ▸ List.mem_cons_self) (List.mem_cons_of_mem _), fun h => (List.mem_cons.mp h).elim (fun e => .inl e.symm) .inr⟩
theorem b8p (h : EqC dom enc n) (hn : n ≤ 63) {o : Bool} {x : α} {xs : List α} (dx : dom x) (ds : ∀ y ∈ xs, dom y) : inD (enc x) (.lst o (xs.map enc)) = some (.bl (decide (x ∈ xs))) := by
  obtain ⟨p, e, s⟩ := h.py x dx
  obtain ⟨ps, e2, s2⟩ := h.pyL xs ds
  have : inB (enc x) (.lst o (xs.map enc)) = some (decide (x ∈ xs)) := by
    unfold inB
    simp only [e, e2, if_pos (And.intro (s.shaped (by omega)) ((Lays.lst s2).shaped (by omega)))]
    rw [af0 h dx e xs ps ds e2]
  unfold inD; rw [this]
theorem b8r (h : EqC dom enc n) (hn : n ≤ 63) {o : Bool} {x : α} {xs : List α} (dx : dom x) (ds : ∀ y ∈ xs, dom y) : niD (enc x) (.lst o (xs.map enc)) = some (.bl (!decide (x ∈ xs))) := by
  have := b8p h hn (o := o) dx ds
  unfold inD at this
  unfold niD
  cases e : inB (enc x) (.lst o (xs.map enc)) with
  | none => rw [e] at this; cases this
  | some b => rw [e] at this; cases this; rfl
end
theorem b59 {xs ys : List D} (h : xs.length + ys.length ≤ 1000000) : a5s (.tup xs) (.tup ys) = some (.tup (xs ++ ys)) := if_pos h
theorem ao5 {xs ys : List D} {K : D → Prop} (h : xs.length + ys.length ≤ 1000000) (k : K (.tup (xs ++ ys))) : RO (a5s (.tup xs) (.tup ys)) K := ro (b59 h) k
end Dv
namespace Dv
open PySem L2 PySem.Spec PyProof.Rows
def bn7 (neg : Bool) (f : M D) (g : M (List Opd)) : M D := M.bind f fun d ρ1 => match d with
  | .int i => M.bind g (fun os ρ2 => match a3p ρ2 os with
    | some [.int n] => .ok (.bl (xor neg (decide (0 ≤ i ∧ i < n)))) ρ2
    | some [.int a, .int b] => .ok (.bl (xor neg (decide (a ≤ i ∧ i < b)))) ρ2
    | _ => .bad) ρ1
  | _ => .bad
def bg5 : List V → Hp → VK → Prop := fun vs H Q => ∃ lo hi, ((vs = [V.int hi] ∧ lo = 0) ∨ vs = [V.int lo, V.int hi]) ∧ ∀ p, H p = none → Q (.ref p) (upd H p (.rng lo hi))
def bv8 (neg : Bool) : R2 := fun x y H Q => ∃ i a lo hi, x = V.int i ∧ y = V.ref a ∧ H a = some (.rng lo hi) ∧ Q (.bl (xor neg (decide (lo ≤ i ∧ i < hi)))) H
section
variable {X : Cx} {Z : Zt} {W : WX} {a e : Expr} {es : List Expr} {f : M D} {g : M (List Opd)} {p pos cpos : Pos}
end
section
variable {X : Cx} {Z : Zt} {W : WX} {a e : Expr} {es : List Expr} {f : M D} {g : M (List Opd)} {p pos cpos : Pos}
end
section
variable {ρ : Env} {Q : D → Env → Prop} {f : M D} {g : M (List Opd)} {neg : Bool}
def TRg (ds : List D) (K : Int → Int → Prop) : Prop := ∃ lo hi, (ds = [.int hi] ∧ lo = 0 ∨ ds = [.int lo, .int hi]) ∧ K lo hi
end
end Dv
namespace Dv
open PySem L2 PySem.Spec PyProof.Rows
abbrev b9t (w : World) : Obj := { cls := .type "set", dict := none, data := .set #[] 0 (.fresh 0 0 (!w.params.followText "set-order")) }
section
variable {P : Program} {w : World} {A : Around} {E : Value → Shared → Prop} {s : Shared}
end
def b98 (K : PySem.W.Frag) (ta : TE) : TE := fun σ H Q => ta σ H fun x H1 => ∃ (l : Addr) (ns : List Int), x = V.ref l ∧ SqL K H1 l (ns.map V.int) ∧ ns.length < 64 ∧ ∀ (ms : List Int) p, ms.Pairwise (· < ·) → (∀ k, k ∈ ms ↔ k ∈ ns) → H1 p = none → Q (.ref p) (upd H1 p (.lst (ms.map V.int)))
def bh8 (x : Int) : List Int → List Int
  | [] => [x]
  | y :: ys => if x < y then x :: y :: ys else if x = y then y :: ys else y :: bh8 x ys
def ab3 (ns : List Int) : List Int := ns.foldr bh8 []
def b0w : D → Option D
  | .lst _ ds => (match a2j ds with | some ns => if ns.length < 64 then some (.lst true ((ab3 ns).map .int)) else none | none => none)
  | _ => none
def bu8 (f : M Opd) : M D := M.bind f fun o ρ => match look ρ o with | some d => a6f (b0w d) ρ | none => .bad
section
variable {X : Cx} {Z : Zt} {W : WX}
end
def b2c : List D → Option (List (Int × Int))
  | [] => some []
  | .tup [.int a, .int b] :: ds => (match b2c ds with | some ps => some ((a, b) :: ps) | none => none)
  | _ => none
def prI (p : Int × Int) : D := .tup [.int p.1, .int p.2]
def bk3 : List D → Option D
  | [.lst _ ds] => (match b2c ds with | some (r :: rs) => some (prI (PySem.W.maxOf r rs)) | _ => none)
  | _ => none
def bm2 (K : PySem.W.Frag) : List V → Hp → VK → Prop := fun vs H Q => ∃ (a : Addr) (xs : List V) (r : Int × Int) (rs : List (Int × Int)), vs = [V.ref a] ∧ SqL K H a xs ∧ DpAll K H xs ((r :: rs).map PySem.W.Datum.toD) ∧
  ∀ (i : Nat) (x : V), xs[i]? = some x → (r :: rs)[i]? = some (PySem.W.maxOf r rs) → Q x H
section
variable {K : PySem.W.Frag} {Z : Zt}
end
end Dv
namespace Dv
open PySem L2 PySem.Spec PyProof.Rows
def encD (d : D) : PyData := (toPy d).getD .none
def a3g : D → D → Bool := PySem.W.dataLe false encD
def a95 (ds : List D) : Prop := a0d ds = true ∧ ds.length ≤ 1000000 ∧ (ds.length ≤ 1 ∨ ((∀ d ∈ ds, ∃ p, toPy d = some p ∧ p.depth ≤ 60) ∧ PySem.W.AllAlike (ds.map encD) ∧ PySem.W.Sortable (ds.map encD)))
open Classical in
noncomputable def b5a : List D → Option D
  | [.lst _ ds] => if a95 ds then some (.lst true (ds.mergeSort a3g)) else none
  | _ => none
def ab6 (K : PySem.W.Frag) : List V → Hp → VK → Prop := fun vs H Q => ∃ (a : Addr) (bs : List (D × V)), vs = [V.ref a] ∧ SqL K H a (bs.map (·.2)) ∧ bs.length ≤ 1000000 ∧
  (bs.length ≤ 1 ∨ ((∀ b ∈ bs, Dp K H b.2 (encD b.1) ∧ (encD b.1).depth ≤ 60) ∧ PySem.W.AllAlike (bs.map fun b => encD b.1) ∧ PySem.W.Sortable (bs.map fun b => encD b.1))) ∧
  ∀ p, H p = none → Q (.ref p) (upd H p (.lst ((bs.mergeSort (PySem.W.dataLe false fun b => encD b.1)).map (·.2))))
theorem a6o : ∀ {bs : List (D × V)} {us : List Value}, Vals (bs.map (·.2)) us → PySem.W.EachIs (fun v b => RelV b.2 v) us bs
  | [], _, .nil => .nil
  | _ :: _, _, .cons r t => .cons r (a6o t)
theorem a6s : ∀ {bs : List (D × V)} {us : List Value}, PySem.W.EachIs (fun v b => RelV b.2 v) us bs → Vals (bs.map (·.2)) us
  | _, _, .nil => .nil
  | _, _, .cons r t => .cons r (a6s t)
theorem al9 {α : Type} {le : α → α → Bool} : ∀ {xs : List α}, xs.length ≤ 1 → xs.mergeSort le = xs
  | [], _ => by simp
  | [x], _ => by simp
  | _ :: _ :: _, h => by simp at h
theorem az9 {X : Cx} (hu : X.A.units + 65 < cLine) : CallR X (.builtin "sorted") (ab6 X.K) := by
  intro pins s σ H vs us Q I r h
  obtain ⟨a, bs, rfl, hs, hl, hb, q⟩ := h
  obtain ⟨its, rv, hi, hz⟩ := I.list hs
  rw [Vals.ref1 r]
  have fin : ∀ out : List Value, PySem.W.EachIs (fun v b => RelV b.2 v) out (bs.mergeSort (PySem.W.dataLe false fun b => encD b.1)) → EP X pins σ Q (.ref (s.heap.objs.size + 1)) { s with heap := sortedAll s.heap its (List.toArray out) } := fun out eo => by
    obtain ⟨n, hn⟩ := sortedAll_at s.heap its out.toArray
    have hv := a6s eo
    have hlen : ((bs.mergeSort (PySem.W.dataLe false fun b => encD b.1)).map (·.2)).length ≤ sizeLine := by
      rw [List.length_map, (List.mergeSort_perm _ _).length_eq, sizeLine_eq]; omega
    exact ⟨.ref _, _, I.laid (t' := s.toks) (fun _ _ => sortedAll_old) (Nat.le_succ _) (show ObjOk X.prog X.w _ _ _ (.lst ((bs.mergeSort (PySem.W.dataLe false fun b => encD b.1)).map (·.2))) from ⟨hlen, out, n, hv, hn⟩), rfl, q _ (I.hok.fresh (Nat.le_succ _))⟩
  have e0 := a6o rv
  rcases hb with hb | ⟨hd, ha, hk⟩
  · have hil : its.length ≤ 1 := by rw [← rv.length, List.length_map]; exact hb
    refine SrtO.sorted_ord (ltv := fun _ _ => false) ⟨(fun _ _ z => nomatch z), fun _ _ _ _ _ => rfl⟩ hi.isList (by rw [sizeLine_eq]; omega) (fun h2 => by omega) fun out _ st => ?_
    have ho : out = its := by
      have p := st.perm
      match its, hil, p with
      | [], _, p => exact List.perm_nil.mp p
      | [x], _, p => exact List.perm_singleton.mp p
    refine fin out ?_
    rw [al9 hb, ho]
    exact e0
  · refine PySem.W.sorted_data (enc := fun b : D × V => encD b.1) hi.isList e0 ?_ ha hk (by rw [sizeLine_eq]; omega) (fun b hb => ?_) fun out _ eo => fin out eo
    · clear q fin hs hz hl ha hk
      have : ∀ {bs : List (D × V)} {us : List Value}, (∀ b ∈ bs, Dp X.K H b.2 (encD b.1) ∧ (encD b.1).depth ≤ 60) → PySem.W.EachIs (fun v b => RelV b.2 v) us bs → PySem.W.EachIs (fun v b => ∃ as, Reads s.heap v (encD b.1) as) us bs := by
        intro bs us h e
        induction e with
        | nil => exact .nil
        | cons r t ih => exact .cons (Dp.reads I _ _ _ (h _ List.mem_cons_self).1 r) (ih fun b hb => h b (List.mem_cons_of_mem _ hb))
      exact this hd e0
    · have := (hd b hb).2
      omega
section
variable {K : PySem.W.Frag} {Z : Zt}
theorem a8i {α β : Type} : ∀ {xs : List α} {ys : List β}, xs.length = ys.length → (xs.zip ys).map (·.1) = xs ∧ (xs.zip ys).map (·.2) = ys
  | [], [], _ => ⟨rfl, rfl⟩
  | x :: xs, y :: ys, h => by
    obtain ⟨h1, h2⟩ := a8i (xs := xs) (ys := ys) (by simpa using h)
    exact ⟨by rw [List.zip_cons_cons, List.map_cons, h1], by rw [List.zip_cons_cons, List.map_cons, h2]⟩
theorem a4g {α β : Type} {F : α → β → Prop} : ∀ {xs : List α} {ys : List β}, Paired F xs ys → ∀ b ∈ ys.zip xs, F b.2 b.1
  | _, _, .nil => fun _ h => by simp at h
  | _, _, .cons r t => fun b h => by
    rw [List.zip_cons_cons] at h
    rcases List.mem_cons.mp h with rfl | h
    · exact r
    · exact a4g t b h
theorem a5e {α β : Type} {F : α → β → Prop} : ∀ {bs : List (β × α)}, (∀ b ∈ bs, F b.2 b.1) → Paired F (bs.map (·.2)) (bs.map (·.1))
  | [], _ => .nil
  | b :: bs, h => .cons (h b List.mem_cons_self) (a5e fun c hc => h c (List.mem_cons_of_mem _ hc))
theorem b0x : a5r K Z (ab6 K) b5a := by
  intro H S vs ds d Q I hv e g
  unfold b5a at e
  split at e
  · rename_i o xs
    split at e
    · rename_i hc
      cases e
      obtain ⟨v, rfl, h⟩ := v1 hv
      obtain ⟨a, ws, rfl, ha, hw⟩ := h.lst I
      obtain ⟨hp, hl, hk⟩ := hc
      have hs := hw.sh (z9 hp)
      have hlen := u5 hs
      obtain ⟨z1, z2⟩ := a8i (xs := xs) (ys := ws) hlen.symm
      have hm := a4g hs
      have e1 : (xs.zip ws).map (fun b => encD b.1) = xs.map encD := by
        have t : ((xs.zip ws).map (·.1)).map encD = (xs.zip ws).map (fun b => encD b.1) := by rw [List.map_map]; rfl
        rw [← t, z1]
      have zl : (xs.zip ws).length = xs.length := by rw [List.length_zip, hlen, Nat.min_self]
      refine ⟨a, xs.zip ws, rfl, by rw [z2]; exact SqL.of ha, by omega, ?_, fun p hp' => ?_⟩
      · rcases hk with hk | ⟨h1, h2, h3⟩
        · exact .inl (by omega)
        · refine .inr ⟨fun b hb => ?_, by rw [e1]; exact h2, by rw [e1]; exact h3⟩
          have hbx : b.1 ∈ xs := by rw [← z1]; exact List.mem_map.mpr ⟨b, hb, rfl⟩
          obtain ⟨p, ep, dp⟩ := h1 b.1 hbx
          have sh := hm b hb
          have : encD b.1 = p := by unfold encD; rw [ep]; rfl
          rw [this]
          exact ⟨a2h I b.1 (sh.view I) ep, dp⟩
      · have hm2 : ∀ b ∈ (xs.zip ws).mergeSort (PySem.W.dataLe false fun b => encD b.1), Sh Z S b.2 b.1 := fun b hb => hm b ((List.mergeSort_perm _ _).mem_iff.mp hb)
        have e2 : ((xs.zip ws).mergeSort (PySem.W.dataLe false fun b => encD b.1)).map (·.1) = xs.mergeSort a3g := (List.map_mergeSort (r := PySem.W.dataLe false fun b : D × V => encD b.1) (f := fun b : D × V => b.1) (s := a3g) (l := xs.zip ws) fun _ _ _ _ => rfl).trans (congrArg (fun l => List.mergeSort l a3g) z1)
        refine a1d g I ?_ (fun d hd => ?_) hp'
        · rw [← e2]; exact a5e hm2
        · exact z9 hp d ((List.mergeSort_perm _ _).mem_iff.mp hd)
    · cases e
  · cases e
end
theorem b0q {o : Bool} {ds : List D} (h : a95 ds) : b5a [.lst o ds] = some (.lst true (ds.mergeSort a3g)) := if_pos h
end Dv
namespace Dv
open PySem L2 PySem.Spec PyProof.Rows
abbrev prO (c : Int) (tk : Tok) (x : Value) : Obj := { cls := .type "tuple", data := .seq #[.int c tk, x] }
section
variable {P : Program} {w : World} {A : Around} {E : Value → Shared → Prop} {s : Shared}
def bv3 (h : Heap) (e it S : Addr) (c : Int) : Prop := (∃ old, IsEnum h e it c old) ∨ ∃ old T f o, IsEnumHeld h e it c old T f ∧ h.get? T = some o ∧ T ≠ e ∧ T ≠ it ∧ T ≠ S
end
inductive EnW : Nat → List V → Hp → List V → Hp → Prop
  | nil {k : Nat} {H : Hp} : EnW k [] H [] H
  | cons {k : Nat} {x : V} {xs us : List V} {H H2 : Hp} {T : Addr} : H T = none → EnW (k + 1) xs (upd H T (.tup [.int (k : Nat), x])) us H2 → EnW k (x :: xs) H (.ref T :: us) H2
section
variable {X : Cx} {pins : List (Addr × Obj)} {σ : L2.St} {A : Around} {R : Result → Shared → Prop}
abbrev lsO (acc : Array Value) (c : Nat) : Obj := { cls := .type "list", dict := none, data := .seq acc c, slots := #[] }
theorem aa1 : ∀ {vs : List V} {us : List Value} {v : V} {u : Value}, Vals vs us → RelV v u → Vals (vs ++ [v]) (us ++ [u])
  | _, _, _, _, .nil, r => .cons r .nil
  | _, _, _, _, .cons h t, r => .cons h (aa1 t r)
theorem EnW.len {i : Nat} {xs us : List V} {H H2 : Hp} (h : EnW i xs H us H2) : us.length = xs.length := by
  induction h with
  | nil => rfl
  | cons _ _ ih => rw [List.length_cons, List.length_cons, ih]
end
theorem a93 {X : Cx} {pins : List (Addr × Obj)} {σ : L2.St} {H : Hp} {s : Shared} {A : Around} (I : Inv X pins σ H s) (nh : A.handled = none) {c : Src} {it : Addr} {xs : List V} {i : Nat} (hc : c.at X.K H xs) (hne : ∀ a, c.addr = some a → a ≠ it) (hs : c.st it i s.heap) :
    ∃ fp Pv St, Draws X.prog X.w A it fp xs.length Pv St ∧ it ∈ fp ∧ (∀ b ∈ fp, b = it ∨ c.addr = some b) ∧ St i s.heap ∧ ∀ j v, Pv j v → ∃ x, xs[j]? = some x ∧ RelV x v := by
  cases c with
  | l a =>
    obtain ⟨its, rv, p, _⟩ := I.list hc
    have D := Draws.list (prog := X.prog) (w := X.w) nh it a (hne a rfl) its.toArray
    rw [List.size_toArray, ← rv.length] at D
    refine ⟨_, _, _, D, by simp, fun b hb => by simpa [Src.addr, eq_comm] using hb, ⟨hs, p.isList⟩, fun j v hv => a1q rv (by simpa using hv)⟩
  | t a =>
    obtain ⟨its, rv, p, _⟩ := I.tuple hc
    have D := Draws.tuple (prog := X.prog) (w := X.w) nh it a (hne a rfl) its.toArray
    rw [List.size_toArray, ← rv.length] at D
    refine ⟨_, _, _, D, by simp, fun b hb => by simpa [Src.addr, eq_comm] using hb, ⟨hs, p⟩, fun j v hv => a1q rv (by simpa using hv)⟩
  | s x =>
    obtain ⟨t, hs⟩ := hs
    have D := Draws.text (prog := X.prog) (w := X.w) nh it x t
    have hc : xs = x.cps.toList.map fun c => V.str ⟨#[c]⟩ := hc
    have hl : x.cps.size = xs.length := by rw [hc]; simp
    rw [hl] at D
    refine ⟨_, _, _, D, by simp, fun b hb => .inl (by simpa using hb), hs, fun j v hv => ?_⟩
    obtain ⟨c, u, h1, rfl⟩ := hv
    refine ⟨.str ⟨#[c]⟩, ?_, ⟨u, rfl⟩⟩
    rw [hc, List.getElem?_map, Array.getElem?_toList, h1]; rfl
def ba0 (K : PySem.W.Frag) (ta : L2.TA) : TE := fun σ H Q => ta σ H fun vs H1 => ∃ (c : Dv.Src) (xs : List V), vs = [c.val] ∧ c.at K H1 xs ∧ xs.length ≤ sizeLine ∧ ∀ us H2 p, EnW 0 xs H1 us H2 → H2 p = none → Q (.ref p) (upd H2 p (.lst us))
def bs1 (f : M (List Opd)) : M D := M.bind (enM f) fun ds ρ => if ds.length ≤ 100000 then .ok (.lst true ds) ρ else .bad
theorem ExtS.thn {K : PySem.W.Frag} {Z : Zt} {H H1 H2 : Hp} {S S1 S2 : Reg} (a : ExtS K Z H S H1 S1) (b : ExtS K Z H1 S1 H2 S2) : ExtS K Z H S H2 S2 :=
  ⟨a.le.trans b.le, b.inv, fun x h => by
    obtain ⟨e1, n1⟩ := a.keep x h
    obtain ⟨e2, n2⟩ := b.keep x (by rw [e1]; exact h)
    exact ⟨e2.trans e1, fun z => n2 (n1 z)⟩⟩
section
variable {X : Cx} {Z : Zt} {W : WX}
end
end Dv
namespace Dv
open PySem L2 PySem.Spec PyProof.Rows
def bm9 (K : PySem.W.Frag) : V → List V → Hp → VK → Prop := fun x vs H Q => ∃ (l : Addr) (xs : List V) (y : V) (ds : List PyData) (d : PyData) (j : Nat), x = .ref l ∧ vs = [y] ∧ H l = some (.lst xs) ∧ DpAll K H xs ds ∧ Dp K H y d ∧
  SeqAt.shaped (.list ds) = true ∧ SeqAt.shaped d = true ∧ SeqAt.dataPlace ds d = some j ∧ Q .non (upd H l (.lst (xs.eraseIdx j)))
theorem a77 {α β : Type} {R : α → β → Prop} : ∀ {xs : List α} {ys : List β} (j : Nat), Paired R xs ys → Paired R (xs.eraseIdx j) (ys.eraseIdx j)
  | _, _, _, .nil => .nil
  | _, _, 0, .cons _ t => t
  | _, _, j + 1, .cons h t => .cons h (a77 j t)
def bh2 (ds : List D) (y : D) : Option Nat := match a0l ds, toPy y with
  | some ps, some p => if SeqAt.shaped (.list ps) = true ∧ SeqAt.shaped p = true then SeqAt.dataPlace ps p else none
  | _, _ => none
def bw0 (i : Nat) (f : M D) : M D := fun ρ => match u6 ρ i with
  | some s0 => if a7h s0.d = true then M.bind f (fun y ρ1 => match u6 ρ1 i with
    | some s => if s.may = true then (match s.d with
      | .lst true ds => if a0d ds = true ∧ owned y = false then (match bh2 ds y with | some j => .ok .non (ρ1.set i (some (s.sw (.lst true (ds.eraseIdx j))))) | none => .bad) else .bad
      | _ => .bad) else .bad
    | none => .bad) ρ else .bad
  | none => .bad
section
variable {X : Cx} {Z : Zt} {W : WX}
end
end Dv
namespace Dv
open PySem L2 PySem.Spec PyProof.Rows
def DpS (K : PySem.W.Frag) (H : Hp) (tup : Bool) (x : V) (xs : List V) (ps : List PyData) : Prop := ∃ a, x = .ref a ∧ (if tup = true then SqT K H a xs else SqL K H a xs) ∧ DpAll K H xs ps ∧ SeqAt.shaped (.list ps) = true
def bq4 (K : PySem.W.Frag) (tup : Bool) : V → List V → Hp → VK → Prop := fun x vs H Q => ∃ (xs : List V) (y : V) (ps : List PyData) (p : PyData), vs = [y] ∧ DpS K H tup x xs ps ∧ Dp K H y p ∧ SeqAt.shaped p = true ∧
  Q (.int ((ps.countP fun z => PyData.eqv z p : Nat) : Int)) H
def bj7 (K : PySem.W.Frag) (tup : Bool) : V → List V → Hp → VK → Prop := fun x vs H Q => ∃ (xs : List V) (y : V) (ps : List PyData) (p : PyData) (j : Nat), vs = [y] ∧ DpS K H tup x xs ps ∧ Dp K H y p ∧ SeqAt.shaped p = true ∧
  SeqAt.dataPlace ps p = some j ∧ Q (.int ((j : Nat) : Int)) H
section
variable {X : Cx}
end
def b9d : D → Option Bool | .lst _ _ => some false | .tup _ => some true | _ => none
def bf4 : D → List D | .lst _ ds => ds | .tup ds => ds | _ => []
def bt2 (d x : D) : Option D := match a0l (bf4 d), toPy x with
  | some ps, some p => if SeqAt.shaped (.list ps) = true ∧ SeqAt.shaped p = true then some (.int ((ps.countP fun z => PyData.eqv z p : Nat) : Int)) else none
  | _, _ => none
def bs6 (d x : D) : Option D := match a0l (bf4 d), toPy x with
  | some ps, some p => if SeqAt.shaped (.list ps) = true ∧ SeqAt.shaped p = true then (match SeqAt.dataPlace ps p with | some j => some (.int ((j : Nat) : Int)) | none => none) else none
  | _, _ => none
def bw1 (F : D → D → Option D) (f g : M Opd) : M D := M.bind f fun o ρ1 => match look ρ1 o with
  | some d0 => (match b9d d0 with
    | some k => M.bind g (fun q ρ2 => match look ρ2 o, look ρ2 q with | some d, some x => if b9d d = some k then a6f (F d x) ρ2 else .bad | _, _ => .bad) ρ1
    | none => .bad)
  | none => .bad
def bx5 (K : PySem.W.Frag) (Z : Zt) (r : Bool → V → List V → Hp → VK → Prop) (F : D → D → Option D) : Prop :=
  ∀ {H : Hp} {S : Reg} {x y : V} {dx dy d : D} {k : Bool} {Q : VK}, InvS K Z H S → View Z H S x dx → View Z H S y dy → b9d dx = some k → F dx dy = some d → Gives K Z H S d Q → r k x [y] H Q
section
variable {K : PySem.W.Frag} {Z : Zt} {H : Hp} {S : Reg}
end
def tBD (K : PySem.W.Frag) (r : Bool → V → List V → Hp → VK → Prop) (to : TE) (t : L2.TA) : TE := fun σ H Q => to σ H fun x H1 => ∃ k, tyS K (if k = true then "tuple" else "list") x H1 ∧ t σ H1 fun xs H2 => r k x xs H2 Q
section
variable {X : Cx} {Z : Zt} {W : WX} {o e : Expr} {es : List Expr} {to : TE} {t : L2.TA} {name : Str} {apos cpos : Pos} {idl idt : String} {r : Bool → V → List V → Hp → VK → Prop}
end
end Dv
namespace Dv
open PySem L2 PySem.Spec PyProof.Rows
structure XC (K : PySem.W.Frag) (C : Addr) : Prop where
  oex : OexC K C
  xf : XfC K C
  hcl : (PySem.W.clsIn K C).isSome = true
  ha : PySem.W.findIn K (.ref C) "__class__" = some (some (.builtin "object.__class__"))
  hn : PySem.W.specialIn K (.builtin "object.__class__") "__get__" = some (some (.builtin "getset_descriptor.__get__"))
  htk : PySem.W.takesIn K (.builtin "object.__class__") = some true
  hm : PySem.W.mroIn K C (.type "object") = some true
def az5 (c t : Str) : Bool := decide (c = t) || decide (t = "DriveError") || decide (t = "ValueError")
def bv0 (cl : Str → Option Addr) (t : Str) : Option V := if t = "ValueError" then some (.ty "ValueError") else match cl t with | some T => some (.ref T) | none => none
def bo9 (cl : Str → Option Addr) (t : Str) : Option Value := if t = "ValueError" then some (.type "ValueError") else match cl t with | some T => some (.ref T) | none => none
structure XT (K : PySem.W.Frag) (mg : Str → Option Value) (cl : Str → Option Addr) (cs ats : List Str) : Prop where
  ve : mg "ValueError" = none
  one : ∀ c ∈ cs, c ≠ "ValueError" ∧ ∃ C, cl c = some C ∧ mg c = some (.ref C) ∧ XC K C ∧ ∀ f ∈ ats, PySem.W.findIn K (.ref C) f = some none
  kit : ∀ c ∈ cs, ∀ t, t ∈ cs ∨ t = "ValueError" → ∀ C u, cl c = some C → bo9 cl t = some u → PySem.W.kitOne K (.ref C) u = some (az5 c t)
  exm : ∀ c ∈ cs, ∀ t ∈ cs, ∀ C T, cl c = some C → cl t = some T → az5 c t = true → PySem.W.exmOne K (.ref C) (.ref T) = some true
section
variable {X : Cx}
inductive ClsIs : V → Value → Prop
  | ty (n : String) : ClsIs (.ty n) (.type n)
  | own (C : Addr) : ClsIs (.ref C) (.ref C)
theorem ClsIs.eq {c : V} {u w : Value} (k : ClsIs c u) (r : RelV c w) : w = u := by
  cases k with
  | ty n => exact r
  | own C => exact r
theorem ClsIs.all : ∀ {cs : List V} {us ws : List Value}, Paired ClsIs cs us → Vals cs ws → ws = us
  | _, _, _, .nil, .nil => rfl
  | _, _, _, .cons c k, .cons r t => by rw [c.eq r, ClsIs.all k t]
def bi1 (K : PySem.W.Frag) (H : Hp) (x : V) (C : Addr) : Prop := ∃ a dx, x = .ref a ∧ H a = some (exh a C dx) ∧ XC K C ∧ ∃ fs, H dx = some (.xd fs)
def br6 (K : PySem.W.Frag) : List V → Hp → VK → Prop := fun xs H Q => ∃ (x c : V) (C : Addr) (u : Value) (b : Bool), xs = [x, c] ∧ ClsIs c u ∧ bi1 K H x C ∧ PySem.W.kitOne K (.ref C) u = some b ∧ Q (.bl b) H
def bq2 (K : PySem.W.Frag) : List V → Hp → VK → Prop := fun xs H Q => ∃ (x : V) (tp : Addr) (cs : List V) (C : Addr) (us : List Value) (b : Bool), xs = [x, .ref tp] ∧ SqT K H tp cs ∧ Paired ClsIs cs us ∧ bi1 K H x C ∧ PySem.W.kitAny K (.ref C) us = some b ∧ Q (.bl b) H
end
end Dv
namespace Dv
open PySem L2 PySem.Spec PyProof.Rows
def bx6 (F : D → Option D) (f : M Opd) : M D := M.bind f fun o ρ => match look ρ o with | some d => a6f (F d) ρ | none => .bad
section
variable {X : Cx} {Z : Zt} {W : WX} {e E : Expr} {f : M Opd} {F : D → Option D} {r : V → Hp → VK → Prop}
end
def br7 (cs ts : List Str) : D → Option D
  | .exc c _ _ => if c ∈ cs then some (.bl (ts.any fun t => az5 c t)) else none
  | _ => none
def bj8 (n : Str) : D → Option D
  | .exc _ ns vs => (ns.zip vs).lookup n
  | .obj false _ ns vs => (ns.zip vs).lookup n
  | _ => none
section
variable {X : Cx} {Z : Zt} {W : WX} {e : Expr} {f : M Opd} {cs ats : List Str}
def rXf (K : PySem.W.Frag) (n : Str) : V → Hp → VK → Prop := fun x H Q => ∃ (C a dx : Addr) (fs : List (Str × V)) (v : V), x = .ref a ∧ H a = some (exh a C dx) ∧ XC K C ∧ PySem.W.findIn K (.ref C) n = some none ∧ H dx = some (.xd fs) ∧ fs.lookup n = some v ∧ Q v H
def bq9 (cs ats : List Str) (n : Str) : D → Option D
  | .exc c ns vs => if c ∈ cs ∧ n ∈ ats then (ns.zip vs).lookup n else none
  | _ => none
end
end Dv
namespace Dv
open PySem L2 PySem.Spec PyProof.Rows
section
variable {P : Program} {w : World} {K : PySem.W.Frag} {mg : Str → Option Value} {base : Heap}
end
def spI (K : PySem.W.Frag) (ns : List Str) : Sp := fun vs H Q _ => ∃ (a C : Addr) (ws : List V), vs = .ref a :: ws ∧ ws.length = ns.length ∧ OexC K C ∧ (∀ f ∈ ns, PySem.W.findIn K (.ref C) f = some none) ∧ H a = some (exo a C none) ∧
  ∀ dx, H dx = none → dx ≠ a → Q .non (upd (upd H a (exo a C (some dx))) dx (exd dx (ns.zip ws).reverse))
structure InitC (K : PySem.W.Frag) (P : Program) (w : World) (mg : Str → Option Value) (base : Heap) (C : Addr) (ns : List Str) (k : Nat) (f : Addr) (fd : FuncData) : Prop where
  ini : PySem.W.findIn K (.ref C) "__init__" = some (some (.ref f))
  ty : PySem.W.typeIn K (.ref f) = some (.type "function")
  fn : FnOk P w K mg base CX0 k f fd (("self" : Str) :: ns) (spI K ns)
  bd : Binds K fd (("self" : Str) :: ns) []
def bg2 (c : Str) (ns : List Str) (f : M (List Opd)) : C := fun ρ => match f ρ with
  | .ok os ρ' => (match vas os with | some ds => if ds.length = ns.length ∧ ds.length ≤ 900 then .ex ⟨c, ns.reverse, (frL ds).reverse⟩ ρ' else .bad | none => .bad)
  | .ex x ρ' => .ex x ρ'
  | .bad => .bad
section
variable {X : Cx} {Z : Zt} {W : WX}
end
end Dv
namespace Dv
open PySem L2 PySem.Spec PyProof.Rows
def ak1 (ρ : Env) (i : Nat) : Bool := match ρ[i]? with | some none => true | some (some (.own _)) => true | _ => false
def unC (i : Nat) : Out → Out
  | .nx ρ => .nx (ρ.set i none) | .bk ρ => .bk (ρ.set i none) | .ct ρ => .ct (ρ.set i none) | .rt d ρ => .rt d (ρ.set i none) | _ => .bad
def bu6 (cs : List Str) (T : Str) (i : Nat) (body suite : C) : C := fun ρ => match body ρ with
  | .ex x ρ1 => if (x.c ∈ cs ∧ az5 x.c T = true) ∧ ak1 ρ1 i = true then unC i (suite (ρ1.set i (some (.own (.exc x.c x.ns x.vs))))) else .bad
  | .nx ρ => .nx ρ | .bk ρ => .bk ρ | .ct ρ => .ct ρ | .rt d ρ => .rt d ρ | .bad => .bad
section
variable {K : PySem.W.Frag} {Z : Zt} {O : Hold} {H : Hp} {S : Reg} {R A : List Addr} {σ : L2.St} {ρ : Env}
end
section
variable {X : Cx} {pins : List (Addr × Obj)} {σ : L2.St} {H : Hp} {sI s s' : Shared} {B : Heap}
end
section
variable {X : Cx} {Z : Zt} {W : WX}
def bt7 (K : PySem.W.Frag) (Z : Zt) (O : Hold) (H : Hp) (S : Reg) (R : List Addr) (cb : Out) : WX := fun cls d σ' H' => ∃ S' ρ1 x, ExcIs Z H' S' cls d x ∧ Rel K Z O H' S' R ρ1 σ' ∧ Le S S' ∧ Fr O R H H' ∧ cb = .ex x ρ1
end
end Dv
namespace Dv
open PySem L2 PySem.Spec PyProof.Rows
def WY {α : Type} (r : Res α) (Q : α → Env → Prop) (E : Exn → Env → Prop) : Prop := (∃ a ρ', r = .ok a ρ' ∧ Q a ρ') ∨ ∃ x ρ', r = .ex x ρ' ∧ E x ρ'
def WG (r : RF) (Q : D → List D → Prop) (E : Exn → List D → Prop) : Prop := (∃ d os, r = .ok d os ∧ Q d os) ∨ ∃ x os, r = .ex x os ∧ E x os
def fqG (io : List Bool) (Q : D → List D → Prop) (E : Exn → List D → Prop) : Out → Prop
  | .rt d ρ => ∃ os, a2l 0 io ρ = some os ∧ Q d os
  | .nx ρ => ∃ os, a2l 0 io ρ = some os ∧ Q .non os
  | .ex x ρ => ∃ os, a2l 0 io ρ = some os ∧ E x os
  | _ => False
def unq (i : Nat) (P : Out → Prop) : Out → Prop
  | .nx ρ => P (.nx (ρ.set i none)) | .bk ρ => P (.bk (ρ.set i none)) | .ct ρ => P (.ct (ρ.set i none)) | .rt d ρ => P (.rt d (ρ.set i none)) | _ => False
def tyq (cs : List Str) (T : Str) (i : Nat) (s : C) (P : Out → Prop) : Out → Prop
  | .ex x ρ => ((x.c ∈ cs ∧ az5 x.c T = true) ∧ ak1 ρ i = true) ∧ TE1 ρ i (some (.own (.exc x.c x.ns x.vs))) fun ρ' => WC (s ρ') (unq i P)
  | .nx ρ => P (.nx ρ) | .bk ρ => P (.bk ρ) | .ct ρ => P (.ct ρ) | .rt d ρ => P (.rt d ρ) | .bad => False
section
variable {α : Type} {Q : α → Env → Prop} {E : Exn → Env → Prop} {ρ ρ' ρ0 ρ1 ρ2 : Env} {P : Out → Prop} {d : D} {i : Nat} {ds outs : List D} {os : List Opd} {io : List Bool} {m : List D → RF} {x : Exn}
theorem WY.mono {r : Res α} {Q' : α → Env → Prop} {E' : Exn → Env → Prop} (h : WY r Q E) (g : ∀ a ρ, Q a ρ → Q' a ρ) (k : ∀ x ρ, E x ρ → E' x ρ) : WY r Q' E' :=
  h.imp (fun ⟨a, ρ', e, h⟩ => ⟨a, ρ', e, g _ _ h⟩) fun ⟨x, ρ', e, h⟩ => ⟨x, ρ', e, k _ _ h⟩
end
section
variable {X : Cx}
def bi9 (K : PySem.W.Frag) (ta : L2.TA) : TE := fun σ H Q => ta σ H fun vs H1 => ∃ (a C : Addr) (ws : List V), vs = .ref a :: ws ∧ ws.length ≤ 1000 ∧ OexC K C ∧ H1 a = some (exo a C none) ∧ Q .non H1
end
end Dv
namespace Dv
open PySem L2 PySem.Spec PyProof.Rows
def xcB (K : PySem.W.Frag) (ats : List Str) (C : Addr) : Bool :=
  decide (PySem.W.findIn K (.ref C) "__setattr__" = some (some (.builtin "object.__setattr__"))) && (decide (PySem.W.subIn K (.ref C) (.type "BaseException") = some true) && (decide (PySem.W.typeIn K (.ref C) = some (.type "type")) && (PySem.W.keepIn K (.ref C) &&
  (xfB K C && ((PySem.W.clsIn K C).isSome && (decide (PySem.W.findIn K (.ref C) "__class__" = some (some (.builtin "object.__class__"))) && (decide (PySem.W.specialIn K (.builtin "object.__class__") "__get__" = some (some (.builtin "getset_descriptor.__get__"))) &&
  (decide (PySem.W.takesIn K (.builtin "object.__class__") = some true) && (decide (PySem.W.mroIn K C (.type "object") = some true) && ats.all fun f => decide (PySem.W.findIn K (.ref C) f = some none))))))))))
def xtB (K : PySem.W.Frag) (tb : List (Str × Addr)) : Bool := tb.all fun p => decide (PySem.W.kitOne K (.ref p.2) (.type "ValueError") = some (az5 p.1 "ValueError")) && (decide (p.1 ≠ "ValueError") &&
  tb.all fun q => decide (PySem.W.kitOne K (.ref p.2) (.ref q.2) = some (az5 p.1 q.1)) && (!(az5 p.1 q.1) || decide (PySem.W.exmOne K (.ref p.2) (.ref q.2) = some true)))
theorem b3s {l : PySem.W.OpenLaw} {k : Nat} {q : Program} {loose : List Str} {XP : (Str → Option Value) → Heap → Prop} {YP : World → Heap → Prop} {d : DefRec} {K : Params → PySem.W.Frag} {CX : World → CXT} {m : List D → RF} {x : Str}
    (hn : l.most = some 63) (hdf : d.params.defaults = []) (hr : Room k callerA) (hY : ∀ (w : World) (h : Heap), YP w h → (K w.params).In h)
    (F : ∀ (w : World) (mg : Str → Option Value) (fa : Addr) (h : Heap), (K w.params).In h → h.Ns mainGlobals mg → mg d.name = some (.ref fa) →
      ∃ (fd : FuncData) (cl : Str → Option Addr), (∀ (s : Shared) (u : Value), BindsTo s fd ⟨[u], []⟩ [(x, u)]) ∧ ∀ base : Heap, (K w.params).In base → base.Ns mainGlobals mg → FnG l.prog w (K w.params) mg base (CX w) k fa fd [x] (spD (K w.params) cl [false] m))
    (hm : ∀ ns : List Int, ns.length ≤ 63 → m [.scr ns] = .ok (.bl true) []) (hCX : ∀ (w : World) (H : Hp) (s : Shared) (e : Value) (s' : Shared), CX w [] H s (fun _ _ _ => False) e s' → False) :
    PySem.W.WalkO q loose XP YP l.row.toRowW d [] (fun f vs => PySem.call f vs) := by
  refine Att.attach_call hn hdf fun w s₀ s₁ mg mb fa o pm cd doc a vs ns G Y ho hd hcd hmg hobj hints hlen hg => ?_
  obtain ⟨fd, cl, hb, hF⟩ := F w mg fa _ (hY w _ Y) G.T.g hmg
  exact b3k (cl := cl) (hY w _ Y) G.T.g G.T.b G.T.builtins G.T.nolimit hg hobj hints (Nat.le_trans hlen (by decide)) hr hF hb (hm ns hlen) fun H e s' => hCX w H s₁ e s'
def br0 : Expr → Pos | .Name _ p => p | _ => ⟨0, 0, 0, 0⟩
def GlAll (X : Cx) : List Str → Prop
  | [] => True
  | t :: ts => (Gl X t ∧ (t == ("__debug__" : Str)) = false) ∧ GlAll X ts
theorem GlAll.mem {X : Cx} : ∀ {ts : List Str}, GlAll X ts → ∀ t ∈ ts, Gl X t ∧ (t == ("__debug__" : Str)) = false
  | t :: ts, ⟨h, hs⟩, s, hm => by
    rcases List.mem_cons.mp hm with rfl | hm
    · exact h
    · exact GlAll.mem hs s hm
section
variable {X : Cx} {Z : Zt} {W : WX} {e : Expr} {f : M Opd} {cs ats : List Str}
def br4 : C := fun ρ => .rt .non ρ
end
def bm8 (s : Stmt) (i : Nat) : Stmt := match s with
  | .ClassDef _ _ _ b _ _ _ _ _ _ _ => b.getD i (.Pass ⟨0, 0, 0, 0⟩)
  | _ => .Pass ⟨0, 0, 0, 0⟩
end Dv
namespace Dv
open PySem L2 PySem.Spec PyProof.Rows
section
variable {K : PySem.W.Frag} {n1 n2 : Str} {vs : List V} {H : Hp} {Q : VK} {E : XK}
abbrev tDe (K : PySem.W.Frag) (m : Str) : L2.TS := tDrop (bi9 K (tCons (tVar 0) (tCons (tC (.str m)) tNil)))
end
def rsC : Out → Out
  | .nx ρ => .nx ρ | .bk ρ => .bk ρ | .ct ρ => .ct ρ | .rt d ρ => .rt d ρ | _ => .bad
def bw9 (cs : List Str) (T : Str) (body suite : C) : C := fun ρ => match body ρ with
  | .ex x ρ1 => if x.c ∈ cs ∧ az5 x.c T = true then rsC (suite ρ1) else .bad
  | .nx ρ => .nx ρ | .bk ρ => .bk ρ | .ct ρ => .ct ρ | .rt d ρ => .rt d ρ | .bad => .bad
section
variable {X : Cx} {Z : Zt} {W : WX}
end
def toq (cs : List Str) (T : Str) (s : C) (P : Out → Prop) : Out → Prop
  | .ex x ρ => (x.c ∈ cs ∧ az5 x.c T = true) ∧ WC (s ρ) (fun o => match o with | .ex _ _ => False | .bad => False | o => P o)
  | .nx ρ => P (.nx ρ) | .bk ρ => P (.bk ρ) | .ct ρ => P (.ct ρ) | .rt d ρ => P (.rt d ρ) | .bad => False
section
variable {ρ ρ' : Env} {P : Out → Prop} {d : D}
end
end Dv
namespace Dv
open PySem L2 PySem.Spec PyProof.Rows
def rgD (a b : Int) : List D := (List.range (a - b).toNat).map fun (k : Nat) => D.int (a + (k : Int) * -1)
def bv7 (f : M (List Opd)) : M (List D) := M.bind f fun os ρ => match a3p ρ os with
  | some [.int a, .int b, .int c] => if c = -1 ∧ (a < 2 ^ 40 ∧ -(2 ^ 40) < a) ∧ (b < 2 ^ 40 ∧ -(2 ^ 40) < b) then .ok (rgD a b) ρ else .bad
  | _ => .bad
section
variable {X : Cx} {Z : Zt} {W : WX}
end
def TR3 (ds : List D) (K : List D → Prop) : Prop := ∃ m n, ds = [.int m, .int n, .int (-1)] ∧ (-1000000 ≤ m ∧ m ≤ 1000000) ∧ -1000000 ≤ n ∧ n ≤ 1000000 ∧ K (rgD m n)
def b9v : List Int → Int
  | [] => 0
  | [x] => x
  | x :: xs => if x ≤ b9v xs then b9v xs else x
def b9b : List Int → Int
  | [] => 0
  | [x] => x
  | x :: xs => if b9b xs ≤ x then b9b xs else x
def bq0 : List D → Option D
  | [.lst _ ds] => match a2j ds with | some (n :: ns) => some (.int (b9v (n :: ns))) | _ => none
  | _ => none
def bp7 : List D → Option D
  | [.lst _ ds] => match a2j ds with | some (n :: ns) => some (.int (b9b (n :: ns))) | _ => none
  | _ => none
section
variable {K : PySem.W.Frag} {Z : Zt}
end
def b90 (i : Nat) (f : M D) : M D := fun ρ => match u6 ρ i with
  | some s0 => if a7h s0.d = true then M.bind f (fun y ρ1 => match u6 ρ1 i with
    | some s => if s.may = true then (match s.d, y with
      | .lst true ds, .int k => if a0d ds = true ∧ 0 ≤ k ∧ k < 1000000 then (match ds[k.toNat]? with | some x => .ok x (ρ1.set i (some (s.sw (.lst true (ds.eraseIdx k.toNat))))) | none => .bad) else .bad
      | _, _ => .bad) else .bad
    | none => .bad) ρ else .bad
  | none => .bad
def bm4 (i : Nat) : M D := fun ρ => match u6 ρ i with
  | some s => if s.may = true then (match s.d with
      | .lst true ds => if a0d ds = true then (match ds[ds.length - 1]? with | some x => .ok x (ρ.set i (some (s.sw (.lst true ds.dropLast)))) | none => .bad) else .bad
      | _ => .bad) else .bad
  | none => .bad
section
variable {X : Cx} {Z : Zt} {W : WX}
theorem b62 (i : Nat) {x : Str} {e : Expr} {f : M D} {px apos cpos : Pos} (he : SE X Z W e f) (hN : X.N[i]? = some x := by rfl) (hv : Vis X.env.scope x := by first | exact Or.inl rfl | exact Or.inr (Or.inl rfl) | exact Or.inr (Or.inr rfl)) (hd : (x == ("__debug__" : Str)) = false := by decide)
    (hcd : (x == ("__classdict__" : Str)) = false := by decide) (hbase : attributeBase (.Name x px) "pop" X.env (eval (.Name x px) X.env) = eval (.Name x px) X.env := by rfl)
    (hfew : ((backTo cpos (starEach [e] X.env)).all (fun x => !x.1) && (backToKw cpos (keywordEach [] X.env)).all (fun x => x.1.isSome) && decide (([e] : List Expr).length + ([] : List Keyword).length + (if ([] : List Keyword).isEmpty then 0 else 1) < 30)) = true := by rfl)
    (hline : (apos.endLine == cpos.line) = true := by rfl) (hst : starEach [e] X.env = (false, eval e X.env) :: starEach [] X.env := by rfl) (hplain : (backTo cpos (starEach [] X.env)).any (·.1) = false := by rfl) :
    SE X Z W (.Call (.Attribute (.Name x px) "pop" apos) [e] [] cpos) (b90 i f) := by
  obtain ⟨t, h1, h2⟩ := he
  refine ⟨_, pe_bm PySem.F.plainAttrs_list PySem.F.slot_list_pop PySem.F.type_list_pop (r := rPopAt) mt_popAt (pe_var hN hv hd hcd) (pa_cons h1 pa_nil hst) hbase hfew hline hst hplain, fun O H S R ρ σ Q r h => ?_⟩
  unfold b90 at h
  cases e0 : u6 ρ i with
  | none => rw [e0] at h; exact h.elim
  | some s0 =>
    rw [e0] at h
    simp only at h
    split at h
    case isFalse => exact h.elim
    case isTrue hL =>
    obtain ⟨v, hv, vw⟩ := r.slot (a0s e0)
    obtain ⟨a, xs, rfl, hq⟩ := tyL r.inv vw hL
    refine ⟨_, hv, .inl ⟨rfl, xs, hq⟩, ?_⟩
    refine h2 O H S R ρ σ _ r ?_
    unfold M.bind at h
    cases e1 : f ρ with
    | bad => rw [e1] at h; exact h.elim
    | ex x ρ1 => rw [e1] at h; exact h
    | ok y ρ1 =>
      rw [e1] at h
      intro w H1 S1 A l q nd dj r1 f1
      simp only at h
      cases e2 : u6 ρ1 i with
      | none => rw [e2] at h; exact h.elim
      | some s =>
        rw [e2] at h
        simp only at h
        split at h
        case isFalse => exact h.elim
        case isTrue hm =>
        split at h
        case h_2 => exact h.elim
        case h_1 ds k hds =>
        split at h
        case isFalse => exact h.elim
        case isTrue hc =>
        obtain ⟨hp, k0, k1⟩ := hc
        split at h
        case h_2 => exact h.elim
        case h_1 x e3 =>
        obtain ⟨rfl, rfl⟩ := q
        obtain ⟨vs, ha, hsh, kk⟩ := b51 (es := ds.eraseIdx k.toNat) r1 e2 hm hv hds dj hp
        obtain ⟨vx, hvx, qx⟩ := a1q hsh e3
        have hlt := (List.getElem?_eq_some_iff.mp e3).1
        have hlv := u5 hsh
        have un : owned x = false := z9 hp x (List.mem_of_getElem? e3)
        refine ⟨a, vs, k, k.toNat, vx, rfl, rfl, ha, by omega, by omega, ?_, hvx, ?_⟩
        · unfold seqIndex?
          rw [hlv]
          first
            | (simp only [show ¬ k < 0 by omega, if_false]; rw [if_pos (by omega)])
            | (simp [show ¬ k < 0 by omega]; omega)
        · obtain ⟨r5, f5⟩ := kk (vs.eraseIdx k.toNat) (a77 k.toNat hsh) fun d hd => z9 hp d (List.mem_of_mem_eraseIdx hd)
          exact h vx _ S1 [] l (Own.of_sh qx un) List.nodup_nil (fun _ hb => nomatch hb) r5 (f1.trans f5)
end
def TPo (ρ : Env) (i : Nat) (k : Nat) (K : D → Env → Prop) : Prop := ∃ s ds x ρ', u6 ρ i = some s ∧ s.may = true ∧ s.d = .lst true ds ∧ a0d ds = true ∧ k < 1000000 ∧ ds[k]? = some x ∧ ρ.set i (some (s.sw (.lst true (ds.eraseIdx k)))) = ρ' ∧ K x ρ'
theorem aq5 {ρ ρ' : Env} {i k : Nat} {ds : List D} {x : D} {K : D → Env → Prop} (h : ρ[i]? = some (some (.own (.lst true ds)))) (hp : a0d ds = true) (hk : k < 1000000) (hx : ds[k]? = some x) (hs : ρ.set i (some (.own (.lst true (ds.eraseIdx k)))) = ρ') (q : K x ρ') : TPo ρ i k K :=
  ⟨.own (.lst true ds), ds, x, ρ', by rw [slotOf_eq, h], rfl, rfl, hp, hk, hx, hs, q⟩
theorem b7g {i : Nat} {ρ : Env} {Q : D → Env → Prop} {f : M D} {s : Slot} (h0 : u6 ρ i = some s) (h1 : a7h s.d = true) (h : WE (f ρ) fun y ρ1 => ∃ k : Nat, y = .int (k : Int) ∧ TPo ρ1 i k Q) : WE (b90 i f ρ) Q := by
  obtain ⟨y, ρ1, e1, k, rfl, s1, ds, x, ρ', e3, e4, e5, e6, e7, e8, e9, h⟩ := h
  refine a6w (ρ := ρ') ?_ h
  unfold b90 M.bind
  rw [h0]
  simp only [if_pos h1, e1, e3, if_pos e4, e5]
  rw [if_pos ⟨e6, by omega, by omega⟩, Int.toNat_natCast, e8]
  simp only [e9]
def TMt (F : D → D → Option D) (ρ : Env) (o q : Opd) (k : Bool) (K : D → Prop) : Prop := ∃ d x, look ρ o = some d ∧ look ρ q = some x ∧ b9d d = some k ∧ RO (F d x) K
def oiD : Option Int → D | none => .non | some i => .int i
def oiP : Option Int → PyData | none => .none | some i => .int i
end Dv
namespace Dv
open PySem L2 PySem.Spec PyProof.Rows
def bt5 (f : M D) : M D := M.bind f fun d ρ => match d with
  | .int b => if b ≤ 1000000 ∧ -1000000 ≤ b then .ok (.lst true (rg 0 b)) ρ else .bad
  | _ => .bad
def bt0 (f g : M D) : M D := M.bind f fun d => M.bind g fun e ρ => match d, e with
  | .int a, .int b => if (a ≤ 1000000 ∧ -1000000 ≤ a) ∧ b ≤ 1000000 ∧ -1000000 ≤ b then .ok (.lst true (rg a b)) ρ else .bad
  | _, _ => .bad
section
variable {X : Cx} {Z : Zt} {W : WX}
end
end Dv
namespace Dv
open PySem L2 PySem.Spec PyProof.Rows
section
variable {α : Type} {ρ : Env} {P : Out → Prop} {step : D → C} {g : α → D} {xs : List α}
end
theorem b3n {b : Bool} {ds : List D} (h : frL ds = ds) : fr (.lst b ds) = .lst false ds := by
  cases b
  · rfl
  · show D.lst false (frL ds) = _; rw [h]
end Dv
namespace Dv
open PySem L2 PySem.Spec PyProof.Rows
section
variable {P : Program} {w : World} {A : Around} {E : Value → Shared → Prop} {s : Shared}
end
def b5z (K : PySem.W.Frag) (ta : TE) : TE := fun σ H Q => ta σ H fun x H1 => ∃ (l : Addr) (ns : List Int), x = V.ref l ∧ (SqL K H1 l (ns.map V.int) ∨ SqT K H1 l (ns.map V.int)) ∧ (ns.length < 2000 ∧ (ab3 ns).length < 64) ∧ ∀ (ms : List Int) p, ms.Pairwise (· < ·) → (∀ k, k ∈ ms ↔ k ∈ ns) → H1 p = none → Q (.ref p) (upd H1 p (.lst (ms.map V.int)))
def ap7 : D → Option D
  | .lst _ ds => (match a2j ds with | some ns => if (ns.length < 2000 ∧ (ab3 ns).length < 64) then some (.lst true ((ab3 ns).map .int)) else none | none => none)
  | .tup ds => (match a2j ds with | some ns => if (ns.length < 2000 ∧ (ab3 ns).length < 64) then some (.lst true ((ab3 ns).map .int)) else none | none => none)
  | _ => none
def bk8 (f : M Opd) : M D := M.bind f fun o ρ => match look ρ o with | some d => a6f (ap7 d) ρ | none => .bad
section
variable {X : Cx} {Z : Zt} {W : WX}
end
end Dv
namespace Dv
open PySem L2 PySem.Spec PyProof.Rows
def bb1 (te : L2.St → Hp → (Int → Int → Hp → Prop) → Prop) : TE := fun σ H Q => te σ H fun a b H1 => RgOk a b ∧ ao9 H1 (rgV a b) Q
section
variable {X : Cx} {Z : Zt} {W : WX}
def bu9 (f : M D) : M D := M.bind f fun d ρ => match d with
  | .int b => if b ≤ 1000000 ∧ -1000000 ≤ b then .ok (.tup (rg 0 b)) ρ else .bad
  | _ => .bad
end
end Dv
namespace Dv
open PySem L2 PySem.Spec PyProof.Rows
section
variable {P : Program} {w : World} {A : Around} {E : Value → Shared → Prop} {s : Shared}
structure EnOk (S : Int → Bool) (ys : Array (Int × Value)) : Prop where
  good : ∀ e ∈ ys.toList, GoodE e
  nd : (ys.toList.map keyOf).Nodup
  mem : ∀ k, S k = true ↔ k ∈ ys.toList.map keyOf
end
end Dv
namespace Dv
open PySem L2 PySem.Spec PyProof.Rows
section
variable {P : Program} {w : World} {A : Around} {E : Value → Shared → Prop} {s : Shared}
theorem ac0 {r : Addr} {h h' : Heap} (sb : Heap.SameBut r h h') {b : Addr} {o : Obj} (hb : b ≠ r) (e : h.get? b = some o) : h'.get? b = some o := by rw [sb.2 b hb]; exact e
theorem SetR.keep {h h' : Heap} {a r : Addr} {S : Int → Bool} {n : Nat} (R : SetR w h a S n) (sb : Heap.SameBut r h h') (hne : a ≠ r) : SetR w h' a S n := L2.SetR.at R fun o e => ac0 sb hne e
end
end Dv
namespace Dv
open PySem L2 PySem.Spec PyProof.Rows
section
variable {P : Program} {w : World} {A : Around} {E : Value → Shared → Prop} {s : Shared}
end
end Dv
namespace Dv
open PySem L2 PySem.Spec PyProof.Rows
def bx1 (mask : Nat) (pre : List Int) (owner : Array (Option Nat)) : Prop := ∀ j : Nat, owner[j]? = if j ≤ mask then some (if (j : Int) ∈ pre then some (pre.idxOf (j : Int)) else none) else none
end Dv
namespace Dv
open PySem L2 PySem.Spec PyProof.Rows
def SetD (w : World) (h : Heap) (a : Addr) (S : Int → Bool) (n d : Nat) : Prop :=
  ∃ o es ep t, h.get? a = some o ∧ o.ExactSet ∧ o.data = .set es ep t ∧ (∀ e ∈ es.toList, GoodE e) ∧ (es.toList.map keyOf).Nodup ∧ (∀ k, S k = true ↔ k ∈ es.toList.map keyOf) ∧
    es.size < scanBound ∧ t.fits es.size = true ∧ es.size = n ∧ Ris t.place.toList ∧ (w.params.followText "set-order" = true ∨ t.led = true) ∧ t.dummies.size ≤ d ∧ 7 ≤ t.mask
section
variable {P : Program} {w : World} {A : Around} {E : Value → Shared → Prop} {s : Shared}
abbrev bg6 (ep : Nat) (t : SetTable) : Obj := { cls := .type "set", dict := none, data := .set #[] ep t }
end
end Dv
namespace Dv
open PySem L2 PySem.Spec PyProof.Rows
section
variable {P : Program} {w : World} {A : Around} {E : Value → Shared → Prop} {s : Shared}
end
end Dv
namespace Dv
open PySem L2 PySem.Spec PyProof.Rows
section
variable {P : Program} {w : World} {A : Around} {E : Value → Shared → Prop} {s : Shared}
theorem SetD.keep {h h' : Heap} {a r : Addr} {S : Int → Bool} {n d : Nat} (R : SetD w h a S n d) (k : ∀ o, h.get? a = some o → h'.get? a = some o) : SetD w h' a S n d := by
  obtain ⟨o, es, ep, t, ho, q⟩ := R
  exact ⟨o, es, ep, t, k o ho, q⟩
theorem SetD.congr {h : Heap} {a : Addr} {S S' : Int → Bool} {n d : Nat} (R : SetD w h a S n d) (e : ∀ k, S' k = S k) : SetD w h a S' n d := by rw [funext e]; exact R
end
end Dv
namespace Dv
open PySem L2 PySem.Spec PyProof.Rows
def SetO (w : World) (a : Addr) (S : Int → Bool) (m : Nat) : HO := .ext fun h => ∃ n, n ≤ m ∧ SetR w h a S n
section
variable {P : Program} {w : World} {A : Around} {E : Value → Shared → Prop} {s : Shared}
end
end Dv
namespace Dv
open PySem L2 PySem.Spec PyProof.Rows
section
variable {X : Cx}
def bd6 (K : PySem.W.Frag) (w : World) : List V → Hp → VK → Prop := fun vs H Q => ∃ (l : Addr) (ns : List Int), vs = [V.ref l] ∧ (SqL K H l (ns.map V.int) ∨ SqT K H l (ns.map V.int)) ∧ ns.length < 1000 ∧ ∀ p, H p = none → Q (.ref p) (upd H p (SetO w p (fun j => decide (j ∈ ns)) ns.length))
def bj4 (w : World) : R2 := fun x y H Q => ∃ (p q : Addr) (S T : Int → Bool) (m k : Nat), x = .ref p ∧ y = .ref q ∧ H p = some (SetO w p S m) ∧ H q = some (SetO w q T k) ∧ (∀ j, S j = true → 0 ≤ j ∧ j < 8) ∧ ∀ r, H r = none → Q (.ref r) (upd H r (SetO w r (fun j => S j && !T j) 8))
def bk5 (w : World) : R2 := fun x y H Q => ∃ (p q : Addr) (S T : Int → Bool) (m k : Nat), x = .ref p ∧ y = .ref q ∧ p ≠ q ∧ H p = some (SetO w p S m) ∧ H q = some (SetO w q T k) ∧ m < 2000 ∧ k < 2000 ∧ ∀ r, H r = none → Q (.ref r) (upd H r (SetO w r (fun j => S j && T j) 2000))
def ba8 (w : World) : R2 := fun x y H Q => ∃ (p q : Addr) (S T : Int → Bool) (m : Nat), x = .ref p ∧ y = .ref q ∧ H p = some (SetO w p S m) ∧ H q = some (SetO w q T 0) ∧ ∀ b, (b = true ↔ ∀ j, S j = false) → Q (.bl b) H
def rLenS (w : World) : List V → Hp → VK → Prop := fun vs H Q => ∃ (p : Addr) (S : Int → Bool) (m : Nat), vs = [.ref p] ∧ H p = some (SetO w p S m) ∧ m ≤ 2000 ∧ ∀ n : Nat, (∀ ks : List Int, (∀ j, S j = true ↔ j ∈ ks) → n = (ab3 ks).length) → Q (.int n) H
end
def bg8 : D → Option (List Int)
  | .tup ds => a2j ds
  | .lst _ ds => a2j ds
  | _ => none
def by5 (F : List Int → List Int → Option D) (f g : M Opd) : M D := M.bind f fun o1 ρ1 => match look ρ1 o1 with
  | some d1 => (match bg8 d1 with
    | some ns => if ns.length < 1000 then (match g ρ1 with
      | .ok o2 ρ2 => (match look ρ2 o2 with
        | some d2 => (match bg8 d2 with
          | some ms => if ms.length < 1000 then a6f (F ns ms) ρ2 else .bad
          | none => .bad)
        | none => .bad)
      | .ex x ρ2 => .ex x ρ2
      | .bad => .bad) else .bad
    | none => .bad)
  | none => .bad
section
variable {X : Cx} {Z : Zt} {W : WX} {f g : M Opd}
end
end Dv
namespace Dv
open PySem L2 PySem.Spec PyProof.Rows
def by3 (ns ms : List Int) : Option D := if (ns.all fun x => decide (0 ≤ x ∧ x < 8)) = true then some (.bl (ns.all fun x => decide (x ∈ ms))) else none
def by0 (ns ms : List Int) : Option D := some (.int ((ab3 (ns.filter fun x => decide (x ∈ ms))).length : Int))
section
variable {X : Cx} {Z : Zt} {W : WX} {a b : Expr} {f g : M Opd} {p1 p2 p3 p4 q1 q2 q3 pos : Pos}
abbrev bo7 (X : Cx) (t : TE) : TE := tCB (bd6 X.K X.w) (tCons t tNil)
end
def TMx (ns : List Int) (K : Prop) : Prop := ns.length < 1000 ∧ K
end Dv
namespace L2
open PySem PySem.Spec PyProof.Rows
def bo4 (K : PySem.W.Frag) : R2 := fun x y H Q => ∃ l xs, x = .ref l ∧ y = .int 1 ∧ SqT K H l xs ∧ Q (.ref l) H
section
variable {X : Cx}
end
end L2
namespace Dv
open PySem L2 PySem.Spec PyProof.Rows
def bf5 : D → D → Option D
  | .tup ds, .int k => if k = 1 then some (.tup ds) else bf3 (.tup ds) (.int k)
  | x, y => bf3 x y
section
variable {K : PySem.W.Frag} {Z : Zt}
end
section
variable {X : Cx} {Z : Zt} {W : WX} {a b : Expr} {f g : M Opd} {pos : Pos}
end
end Dv
namespace Dv
open PySem L2
def stX (acc : List (List Int × Addr)) (ps : List (List Int × Addr)) : List (List Int × Addr) := ps.foldl (fun acc x => if x.1 ∈ acc.map (·.1) then acc else acc ++ [x]) acc
def bg0 (acc : List (List Int)) (ks : List (List Int)) : List (List Int) := ks.foldl (fun acc k => if k ∈ acc then acc else acc ++ [k]) acc
def bh5 (K : PySem.W.Frag) : List V → Hp → VK → Prop := fun xs H Q => ∃ (a : Addr) (ps : List Addr) (kb : List (List Int × Addr)), xs = [.ref a] ∧ SqL K H a (ps.map V.ref) ∧
  Paired (fun p (x : List Int × Addr) => TpA H p [.ref x.2, .bl true] ∧ TpA H x.2 (x.1.map V.int)) ps kb ∧ ∀ d, H d = none → Q (.ref d) (upd H d (dxO d (stX [] kb)))
def b25 : List D → Option (List (List Int))
  | [] => some []
  | .tup [.tup ds, .bl true] :: r => match a2j ds, b25 r with
    | some ns, some q => some (ns :: q)
    | _, _ => none
  | _ => none
def dcP : List D → Option D
  | [.lst _ ds] => match b25 ds with
    | some ks => some (.dic true true ((bg0 [] ks).map tik) ((bg0 [] ks).map fun ns => .tup (ns.map .int)))
    | none => none
  | _ => none
def okT : List DK → List D → Bool
  | [], [] => true
  | .t q :: ks, .tup ds :: vs => (match a2j ds with | some ns => decide (q = ns.map Sum.inl) | none => false) && okT ks vs
  | _, _ => false
def bt1 : D → D → Option D
  | .tup ds, .dic _ true ks vs => match a2j ds with | some ns => if okT ks vs = true then some (.bl (decide (tik ns ∈ ks))) else none | none => none
  | _, _ => none
def bu5 : R2 := fun y x H Q => ∃ (a b : Addr) (xs : List (List Int × Addr)) (ns : List Int), x = .ref a ∧ y = .ref b ∧ H a = some (dxO a xs) ∧ (∀ p ∈ xs, TpA H p.2 (p.1.map V.int)) ∧ TpA H b (ns.map V.int) ∧ Q (.bl (decide (ns ∈ xs.map (·.1)))) H
section
variable {X : Cx} {K : PySem.W.Frag} {Z : Zt} {W : WX} {H : Hp} {S : Reg}
end
end Dv
namespace Dv
open PySem L2 PySem.Spec PyProof.Rows
def strOf : Value → Str | .str k _ => k | _ => Str.empty
def bi2 (e : Int × Value) : Str := strOf e.2
def bb9 (w : World) (e : Int × Value) : Prop := ∃ k tk, e.2 = Value.str k tk ∧ e.1 = hashStr w k
def SetS (w : World) (h : Heap) (a : Addr) (S : Str → Bool) (n : Nat) : Prop :=
  ∃ o es ep t, h.get? a = some o ∧ o.ExactSet ∧ o.data = .set es ep t ∧ (∀ e ∈ es.toList, bb9 w e) ∧ (es.toList.map bi2).Nodup ∧ (∀ k, S k = true ↔ k ∈ es.toList.map bi2) ∧
    es.size < scanBound ∧ t.fits es.size = true ∧ es.size = n ∧ Ris t.place.toList ∧ (w.params.followText "set-order" = true ∨ t.led = true)
section
variable {P : Program} {w : World} {h h' : Heap} {a : Addr} {S : Str → Bool} {n : Nat}
theorem SetS.at (R : SetS w h a S n) (k : ∀ o, h.get? a = some o → h'.get? a = some o) : SetS w h' a S n := by
  obtain ⟨o, es, ep, t, ho, r⟩ := R
  exact ⟨o, es, ep, t, k o ho, r⟩
theorem SetS.lt (R : SetS w h a S n) : a < h.objs.size := by
  obtain ⟨o, es, ep, t, ho, r⟩ := R
  exact Heap.lt_size ho
theorem SetS.congr {S' : Str → Bool} (R : SetS w h a S n) (e : ∀ k, S' k = S k) : SetS w h a S' n := by
  have q : S' = S := funext e
  rw [q]; exact R
end
section
variable {P : Program} {w : World} {A : Around} {E : Value → Shared → Prop} {s : Shared} {a : Addr} {S : Str → Bool} {n : Nat}
end
section
variable {P : Program} {w : World} {A : Around} {E : Value → Shared → Prop} {s : Shared}
end
section
variable {P : Program} {w : World} {A : Around} {E : Value → Shared → Prop} {s : Shared} {a : Addr}
def ltS (a b : Str) : Prop := a.cps.toList < b.cps.toList
def leS (a b : Str) : Bool := PySem.W.dataLe false (fun x : Str => PyData.str x) a b
end
end Dv
namespace Dv
open PySem L2 PySem.Spec PyProof.Rows
instance (a b : Str) : Decidable (ltS a b) := inferInstanceAs (Decidable (a.cps.toList < b.cps.toList))
theorem a6b {a b : Str} (h : a.cps.toList = b.cps.toList) : a = b := by
  cases a with
  | mk x => cases b with
    | mk y => cases x; cases y; cases h; rfl
theorem a70 (a : Str) : ¬ ltS a a := List.lt_irrefl _
theorem a7x {a b c : Str} (h : ltS a b) (h2 : ltS b c) : ltS a c := List.lt_trans h h2
theorem au3 (a b : Str) : ltS a b ∨ a = b ∨ ltS b a := by
  by_cases h : ltS a b
  · exact .inl h
  · by_cases h2 : ltS b a
    · exact .inr (.inr h2)
    · exact .inr (.inl (a6b (List.le_antisymm (List.not_lt.mp h2) (List.not_lt.mp h))))
def b1e (x : Str) : List Str → List Str
  | [] => [x]
  | y :: ys => if ltS x y then x :: y :: ys else if x = y then y :: ys else y :: b1e x ys
def a4w (ns : List Str) : List Str := ns.foldr b1e []
theorem mem_insT {x z : Str} : ∀ {ys : List Str}, z ∈ b1e x ys ↔ z = x ∨ z ∈ ys
  | [] => by simp [b1e]
  | y :: ys => by
    unfold b1e
    split
    · simp
    · split
      · rename_i h; subst h; simp
      · rw [List.mem_cons, mem_insT, List.mem_cons]
        constructor
        · rintro (h | h | h) <;> simp [h]
        · rintro (h | h | h) <;> simp [h]
theorem ax5 {x : Str} : ∀ {ys : List Str}, ys.Pairwise ltS → (b1e x ys).Pairwise ltS
  | [], _ => by simp [b1e]
  | y :: ys, h => by
    obtain ⟨h1, h2⟩ := List.pairwise_cons.mp h
    unfold b1e
    split
    · rename_i hx
      refine List.pairwise_cons.mpr ⟨fun z hz => ?_, h⟩
      rcases List.mem_cons.mp hz with rfl | hz
      · exact hx
      · exact a7x hx (h1 z hz)
    · rename_i n1
      split
      · exact h
      · rename_i n2
        refine List.pairwise_cons.mpr ⟨fun z hz => ?_, ax5 h2⟩
        rcases mem_insT.mp hz with rfl | hz
        · rcases au3 z y with q | q | q
          · exact absurd q n1
          · exact absurd q n2
          · exact q
        · exact h1 z hz
theorem a87 (ns : List Str) : (a4w ns).Pairwise ltS := by
  induction ns with
  | nil => exact .nil
  | cons n ns ih => exact ax5 ih
theorem mem_upSetT {z : Str} {ns : List Str} : z ∈ a4w ns ↔ z ∈ ns := by
  induction ns with
  | nil => simp [a4w]
  | cons n ns ih => rw [show a4w (n :: ns) = b1e n (a4w ns) from rfl, mem_insT, ih, List.mem_cons]
theorem av7 : ∀ {xs ys : List Str}, xs.Pairwise ltS → ys.Pairwise ltS → (∀ z, z ∈ xs ↔ z ∈ ys) → xs = ys
  | [], [], _, _, _ => rfl
  | [], y :: ys, _, _, h => absurd ((h y).mpr List.mem_cons_self) (by simp)
  | x :: xs, [], _, _, h => absurd ((h x).mp List.mem_cons_self) (by simp)
  | x :: xs, y :: ys, hx, hy, h => by
    obtain ⟨hx1, hx2⟩ := List.pairwise_cons.mp hx
    obtain ⟨hy1, hy2⟩ := List.pairwise_cons.mp hy
    have e : x = y := by
      rcases List.mem_cons.mp ((h x).mp List.mem_cons_self) with e | m1
      · exact e
      · rcases List.mem_cons.mp ((h y).mpr List.mem_cons_self) with e | m2
        · exact e.symm
        · exact absurd (a7x (hx1 y m2) (hy1 x m1)) (a70 x)
    subst e
    have e2 : xs = ys := av7 hx2 hy2 fun z => by
      constructor
      · intro hz
        rcases List.mem_cons.mp ((h z).mp (List.mem_cons_of_mem _ hz)) with rfl | m
        · exact absurd (hx1 z hz) (a70 z)
        · exact m
      · intro hz
        rcases List.mem_cons.mp ((h z).mpr (List.mem_cons_of_mem _ hz)) with rfl | m
        · exact absurd (hy1 z hz) (a70 z)
        · exact m
    rw [e2]
theorem aj7 (a b : Str) : leS a b = decide (a.cps.toList ≤ b.cps.toList) := congrFun (congrFun (PySem.W.dataLe_str fun x : Str => x) a) b
theorem ba3 {ks : List Str} (nd : ks.Nodup) : (ks.mergeSort leS).Pairwise ltS := by
  have p := List.mergeSort_perm ks leS
  have s : (ks.mergeSort leS).Pairwise (fun a b => leS a b = true) := List.pairwise_mergeSort (le := leS) (fun a b c h1 h2 => by
    rw [aj7, decide_eq_true_eq] at *
    exact List.le_trans h1 h2) (fun a b => by
    rw [aj7, aj7, Bool.or_eq_true, decide_eq_true_eq, decide_eq_true_eq]
    exact List.le_total _ _) ks
  have nd2 : (ks.mergeSort leS).Pairwise (fun a b => a ≠ b) := p.nodup_iff.mpr nd
  refine (s.and nd2).imp fun {a b} h => ?_
  rcases au3 a b with q | q | q
  · exact q
  · exact absurd q h.2
  · have := h.1
    rw [aj7, decide_eq_true_eq] at this
    exact absurd q (List.not_lt.mpr this)
def b67 (K : PySem.W.Frag) (ta : TE) : TE := fun σ H Q => ta σ H fun x H1 => ∃ (l : Addr) (ns : List Str), x = V.ref l ∧ SqL K H1 l (ns.map V.str) ∧ ns.length < 1000 ∧ ∀ (ms : List Str) p, ms.Pairwise ltS → (∀ k, k ∈ ms ↔ k ∈ ns) → H1 p = none → Q (.ref p) (upd H1 p (.lst (ms.map V.str)))
def as9 : D → Option D
  | .lst _ ds => (match a7k ds with | some ns => if ns.length < 1000 then some (.lst true ((a4w ns).map .str)) else none | none => none)
  | _ => none
def bx3 (f : M Opd) : M D := M.bind f fun o ρ => match look ρ o with | some d => a6f (as9 d) ρ | none => .bad
section
variable {X : Cx} {Z : Zt} {W : WX}
end
def bj1 : List D → Option D
  | [.lst _ ds] => (match a7k ds with | some (r :: rs) => some (.str (PySem.W.minOf r rs)) | _ => none)
  | _ => none
def bl0 (K : PySem.W.Frag) : List V → Hp → VK → Prop := fun vs H Q => ∃ (a : Addr) (r : Str) (rs : List Str), vs = [V.ref a] ∧ SqL K H a ((r :: rs).map V.str) ∧ Q (.str (PySem.W.minOf r rs)) H
section
variable {K : PySem.W.Frag} {Z : Zt}
end
end Dv
namespace Dv
open PySem L2
def bx4 (n : Nat) (gs : List D → C) : D → C
  | .lst _ ds => fun ρ => if ds.length = n ∧ a0d ds = true then gs ds ρ else .bad
  | _ => fun _ => .bad
section
variable {X : Cx} {Z : Zt} {W : WX}
end
end Dv
namespace Dv
open PySem L2 PySem.Spec PyProof.Rows
abbrev Tbl := List (Str × PyData)
def TabG (K : PySem.W.Frag) (mg : Str → Option Value) (x : Str) (T : Tbl) : Prop := ∃ a, mg x = some (.ref a) ∧ KTD.tabLook KTD.flatLooks (fun b => K.lookup b) a T = true
def b9c (k : Str) (T : Tbl) : Bool := KTD.inKeys k (T.map fun p => (p.1, KTD.Dat.flat p.2))
def bs4 (T : Tbl) (ng : Bool) : D → Option D
  | .str k => some (.bl (if ng = true then !b9c k T else b9c k T))
  | _ => none
def by1 (T : Tbl) : D → Option D
  | .str k => (match KTD.datumAt k (T.map fun p => (p.1, KTD.Dat.flat p.2)) with | some (.flat (.str s)) => some (.str s) | _ => none)
  | _ => none
section
variable {X : Cx} {Z : Zt} {W : WX} {K : PySem.W.Frag} {T : Tbl} {a : Addr}
def bu7 (T : Tbl) (a : Addr) (ng : Bool) : R2 := fun y x H Q => x = .ref a ∧ ∃ k, y = .str k ∧ Q (.bl (if ng = true then !b9c k T else b9c k T)) H
def bw7 (T : Tbl) (a : Addr) : R2 := fun x y H Q => x = .ref a ∧ ∃ k s, y = .str k ∧ KTD.datumAt k (T.map fun p => (p.1, KTD.Dat.flat p.2)) = some (.flat (.str s)) ∧ Q (.str s) H
variable {e : Expr} {f : M Opd} {x : Str}
def bw3 : D → Option D | .str a => if a.length ≤ 1000 then some (.str (Txt.lower a)) else none | _ => none
def bu4 : D → Option D | .str a => if a.length ≤ 1000 then some (.str (Txt.upper a)) else none | _ => none
def bs7 : V → List V → Hp → VK → Prop := fun x xs H Q => ∃ d o kvs more, x = .ref d ∧ xs = [.ref o] ∧ d ≠ o ∧ H d = some (.dK kvs) ∧ H o = some (.dK more) ∧ kvs.length + more.length ≤ sizeLine ∧ ((kvs ++ more).map (·.1)).Nodup ∧ Q .non (upd H d (.dK (kvs ++ more)))
def b2r : D → Bool | .dic true false _ _ => true | _ => false
def bw4 (i : Nat) (f : M D) : M D := fun ρ => match u6 ρ i with
  | some s0 => if b2r s0.d = true then M.bind f (fun y ρ1 => match u6 ρ1 i with
    | some s => if s.may = true then (match s.d, y with
      | .dic true false ks vs, .dic true false ks2 vs2 => if (ks ++ ks2).Nodup ∧ ks.length + ks2.length < 1000000 then .ok .non (ρ1.set i (some (s.sw (.dic true false (ks ++ ks2) (vs ++ vs2))))) else .bad
      | _, _ => .bad) else .bad
    | none => .bad) ρ else .bad
  | none => .bad
end
def TUp (ρ : Env) (i : Nat) (y : D) (K : Env → Prop) : Prop := ∃ s ks vs ks2 vs2 ρ', u6 ρ i = some s ∧ s.may = true ∧ s.d = .dic true false ks vs ∧ y = .dic true false ks2 vs2 ∧ (ks ++ ks2).Nodup ∧ ks.length + ks2.length < 1000000 ∧ ρ.set i (some (s.sw (.dic true false (ks ++ ks2) (vs ++ vs2)))) = ρ' ∧ K ρ'
end Dv
namespace L2
open PySem PySem.Spec PyProof.Rows
def bn4 (K : PySem.W.Frag) : R2 := fun x y H Q => ∃ l xs, x = .ref l ∧ y = .int 0 ∧ SqT K H l xs ∧ xs ≠ [] ∧ Dv.ao9 H [] Q
section
variable {X : Cx}
def bn9 : R2 := fun x y H Q => ∃ z, x = .str z ∧ y = .int 2 ∧ z.length ≤ 1000 ∧ Q (.str (Txt.mul z 2)) H
end
end L2
namespace Dv
open PySem L2 PySem.Spec PyProof.Rows
def bo6 : D → D → Option D
  | .tup ds, .int k => if k = 0 ∧ ds ≠ [] then some (.tup []) else bf5 (.tup ds) (.int k)
  | x, y => bf5 x y
section
variable {K : PySem.W.Frag} {Z : Zt}
def bu0 : D → D → Option D
  | .str z, .int k => if k = 2 ∧ z.length ≤ 1000 then some (.str (Txt.mul z 2)) else none
  | _, _ => none
end
section
variable {X : Cx} {Z : Zt} {W : WX} {a b : Expr} {f g : M Opd} {pos : Pos}
end
end Dv
namespace Dv
open PySem L2 PySem.Spec PyProof.Rows
def bs8 : List D → Option D
  | [.str a] => (match PySem.intText? a with | some n => if a.length ≤ 640 then some (.int n) else none | none => none)
  | _ => none
end Dv
namespace PySem.SeqAt
open AutoSeq1 (wpAny_loadPart')
open MeetsSeq MeetsSeq2 MeetsSeq3 SeqRoads2
theorem at4 (l b : Addr) (items items2 : Array Value) (n n2 : Nat) (dd dd2 : Option Addr) (sl sl2 : Array (Option Value)) (e r : Nat → Bool) :
    Meets (Builtin.«tuple.__lt__» ⟨[.ref l, .ref b], []⟩)
      (fun A R s => s.heap.get? l = some { cls := .type "tuple", dict := dd, data := .seq items n, slots := sl } ∧ s.heap.get? b = some { cls := .type "tuple", dict := dd2, data := .seq items2 n2, slots := sl2 } ∧
        (∀ j (h1 : j < items.size) (h2 : j < items2.size), EqAt A.in1 s items[j] items2[j] (e j)) ∧ (∀ j (h1 : j < items.size) (h2 : j < items2.size), (∀ i, i < j → e i = true) → e j = false → RcLt A.in1 s items[j] items2[j] (r j)) ∧
        R (.ok (.ret (.bool (firstLt e r (decide (items.size < items2.size)) (List.range (min items.size items2.size)))))) s) :=
  .of_wp fun prog w A R s h => by
    obtain ⟨hp, g, d, tk, os⟩ := s; obtain ⟨hl, hb, he, hr, h⟩ := h
    have f2 := AutoSeq1.sub_tuple_tuple
    have hZ : (items.toList.zip items2.toList).length = min items.size items2.size := by simp
    wp_walk using wpAny_loadPart' hl, wpAny_loadPart' hb, wpAny_forIn_list _ (fun rest b s' => b.1 = none ∧ s' = ⟨hp, g, d, tk, os⟩ ∧ ∃ i, rest = (items.toList.zip items2.toList).drop i ∧ (∀ j, j < i → e j = true) ∧
      R (.ok (.ret (.bool (firstLt e r (decide (items.size < items2.size)) ((List.range (min items.size items2.size)).drop i))))) ⟨hp, g, d, tk, os⟩) _
    case turn =>
      rintro ⟨y, x⟩ rest b s' ⟨hb', rfl, i, hz, hpre, hR⟩
      have hlt : i < (items.toList.zip items2.toList).length := by
        rcases Nat.lt_or_ge i (items.toList.zip items2.toList).length with h' | h'
        · exact h'
        · rw [List.drop_of_length_le h'] at hz; cases hz
      have hm : i < min items.size items2.size := hZ ▸ hlt
      have h1 : i < items.size := Nat.lt_of_lt_of_le hm (Nat.min_le_left _ _)
      have h2 : i < items2.size := Nat.lt_of_lt_of_le hm (Nat.min_le_right _ _)
      rw [List.drop_eq_getElem_cons hlt] at hz
      injection hz with hyx hrest
      have hy : y = items[i] := by have := congrArg Prod.fst hyx; simpa using this
      have hx : x = items2[i] := by have := congrArg Prod.snd hyx; simpa using this
      subst hy hx
      have hd : (List.range (min items.size items2.size)).drop i = i :: (List.range (min items.size items2.size)).drop (i + 1) := by simp [List.drop_eq_getElem_cons, hm]
      rw [hd] at hR
      refine wpAny_bind (he i h1 h2 prog w _ _ ?_)
      cases hy : e i with
      | true =>
        rw [firstLt_yes hy] at hR
        wp_walk
        refine ⟨rfl, rfl, i + 1, hrest, fun j hj => ?_, hR⟩
        rcases Nat.lt_or_eq_of_le (Nat.le_of_lt_succ hj) with hj | rfl
        · exact hpre j hj
        · exact hy
      | false =>
        rw [firstLt_no hy] at hR
        rw [if_pos (show (!false) = true from rfl)]
        refine wpAny_bind (wpAny_rule ?_)
        refine wpAny_bind (hr i h1 h2 hpre hy prog w _ _ ?_)
        wp_walk
        exact ⟨_, rfl, hR⟩
    case fin =>
      rintro ⟨b1, b2⟩ s' ⟨hb', rfl, i, hz, _, hR⟩
      simp only at hb'
      subst hb'
      have hge : min items.size items2.size ≤ i := by
        rcases Nat.lt_or_ge i (items.toList.zip items2.toList).length with h' | h'
        · rw [List.drop_eq_getElem_cons h'] at hz; cases hz
        · exact hZ ▸ h'
      rw [List.drop_of_length_le (by simpa using hge)] at hR
      wp_walk
      exact ⟨_, rfl, by simpa [Builtin.Tuple.tupleCompareSizes, firstLt] using hR⟩
    case h =>
      exact ⟨rfl, rfl, 0, rfl, (fun _ h => absurd h (Nat.not_lt_zero _)), by simpa using h⟩
theorem RcLt.tuplesF {A : Around} {s : Shared} {l b : Addr} {items items2 : Array Value} {e r : Nat → Bool} (hl : s.heap.IsTuple l items) (hb : s.heap.IsTuple b items2) (hu : A.units < cLine)
    (he : ∀ j (h1 : j < items.size) (h2 : j < items2.size), EqAt A.in1 s items[j] items2[j] (e j)) (hr : ∀ j (h1 : j < items.size) (h2 : j < items2.size), (∀ i, i < j → e i = true) → e j = false → RcLt A.in1 s items[j] items2[j] (r j)) :
    RcLt A s (.ref l) (.ref b) (firstLt e r (decide (items.size < items2.size)) (List.range (min items.size items2.size))) := fun prog w E Q h => by
  obtain ⟨⟨cls, dd, data, sl⟩, ho, hc, n, hd⟩ := id hl
  obtain ⟨⟨cls2, dd2, data2, sl2⟩, ho2, hc2, n2, hd2⟩ := id hb
  simp only at hc hd hc2 hd2
  subst hc hd hc2 hd2
  exact richCompare_meets_room (op := .Lt) ⟨_, ho, rfl⟩ ⟨_, ho2, rfl⟩ F.slot_tuple_lt F.entry_tuple_lt (F.args_tuple_lt_2 _ _) (at4 l b items items2 n n2 dd dd2 sl sl2 e r)
    ⟨ho, ho2, he, hr, show Value.bool (firstLt e r (decide (items.size < items2.size)) (List.range (min items.size items2.size))) ≠ Value.notImplemented ∧ Q (.bool (firstLt e r (decide (items.size < items2.size)) (List.range (min items.size items2.size)))) s from ⟨(fun x => nomatch x), h⟩⟩ hu
end PySem.SeqAt
namespace PySem.W
open PySem PySem.Calls PyProof.Rows PySem.SeqAt
mutual
def cmb : PyData → PyData → Bool
  | .int _, .int _ => true
  | .str _, .str _ => true
  | .tuple xs, .tuple ys => a2u xs ys
  | _, _ => false
def a2u : List PyData → List PyData → Bool
  | x :: xs, y :: ys => cmb x y && (!PyData.eqv x y || a2u xs ys)
  | [], _ => true
  | _ :: _, [] => true
end
theorem a2d {x y : PyData} {xs ys : List PyData} (h : a2u (x :: xs) (y :: ys) = true) : cmb x y = true ∧ (PyData.eqv x y = true → a2u xs ys = true) := by
  rw [a2u, Bool.and_eq_true, Bool.or_eq_true] at h
  exact ⟨h.1, fun e => h.2.resolve_left (by rw [e]; exact Bool.false_ne_true)⟩
mutual
theorem a9f : ∀ (x y : PyData), cmb x y = true → (PyData.eqv x y = true → keyToks x = keyToks y) ∧ (PyData.eqv x y = false → ∀ l m, PyProof.Rows.lexLt itemOrd (keyToks x ++ l) (keyToks y ++ m) = PyProof.Rows.lexLt itemOrd (keyToks x) (keyToks y))
  | .none, y, h => absurd h (by cases y <;> simp [cmb])
  | .bool a, y, h => absurd h (by cases y <;> simp [cmb])
  | .int a, y, h => toks_eqv (.int a) y (by cases y <;> first | rfl | exact absurd h (by simp [cmb]))
  | .str a, y, h => toks_eqv (.str a) y (by cases y <;> first | rfl | exact absurd h (by simp [cmb]))
  | .list xs, y, h => absurd h (by cases y <;> simp [cmb])
  | .tuple xs, y, h => by
    cases y with
    | tuple ys =>
      have t := a80 xs ys (by simpa [cmb] using h)
      simp only [keyToks, PyData.eqv]
      exact t
    | _ => exact absurd h (by simp [cmb])
  | .dict _, y, h => absurd h (by cases y <;> simp [cmb])
theorem a80 : ∀ (xs ys : List PyData), a2u xs ys = true → (PyData.eqvAll xs ys = true → keyToksAll xs = keyToksAll ys) ∧ (PyData.eqvAll xs ys = false → ∀ l m, PyProof.Rows.lexLt itemOrd (keyToksAll xs ++ l) (keyToksAll ys ++ m) = PyProof.Rows.lexLt itemOrd (keyToksAll xs) (keyToksAll ys))
  | [], [], _ => ⟨fun _ => rfl, fun e => absurd e (by simp [PyData.eqvAll])⟩
  | [], y :: ys, _ => ⟨fun e => absurd e (by simp [PyData.eqvAll]), fun _ l m => by
      simp only [keyToksAll, List.cons_append, List.nil_append]
      exact (lex_atom (by simp) _ _).trans (lex_atom (by simp) _ _).symm⟩
  | x :: xs, [], _ => ⟨fun e => absurd e (by simp [PyData.eqvAll]), fun _ l m => by
      simp only [keyToksAll, List.cons_append, List.nil_append]
      exact (lex_atom (by simp) _ _).trans (lex_atom (by simp) _ _).symm⟩
  | x :: xs, y :: ys, h => by
    obtain ⟨a1, a2⟩ := a9f x y (a2d h).1
    rw [eqv_all_cons, toks_all_cons, toks_all_cons]
    cases hx : PyData.eqv x y with
    | true =>
      obtain ⟨b1, b2⟩ := a80 xs ys ((a2d h).2 hx)
      rw [a1 hx, Bool.true_and]
      refine ⟨fun e => by rw [b1 e], fun e l m => ?_⟩
      simp only [List.cons_append, List.append_assoc]
      exact (lex_self (O := itemOrd) _ _ _).trans ((lex_pre _ _ _).trans ((b2 e l m).trans ((lex_pre _ _ _).symm.trans (lex_self (O := itemOrd) _ _ _).symm)))
    | false =>
      rw [Bool.false_and]
      refine ⟨fun e => absurd e Bool.false_ne_true, fun _ l m => ?_⟩
      simp only [List.cons_append, List.append_assoc]
      exact (lex_self (O := itemOrd) _ _ _).trans ((a2 hx _ _).trans ((a2 hx _ _).symm.trans (lex_self (O := itemOrd) _ _ _).symm))
end
theorem aa2 {x y : PyData} {xs ys : List PyData} (h : cmb x y = true) (e : PyData.eqv x y = true) : PyProof.Rows.lexLt itemOrd (keyToksAll (x :: xs)) (keyToksAll (y :: ys)) = PyProof.Rows.lexLt itemOrd (keyToksAll xs) (keyToksAll ys) := by
  rw [toks_all_cons, toks_all_cons, (a9f x y h).1 e]
  exact (lex_self (O := itemOrd) _ _ _).trans (lex_pre _ _ _)
theorem ai1 {x y : PyData} {xs ys : List PyData} (h : cmb x y = true) (e : PyData.eqv x y = false) : PyProof.Rows.lexLt itemOrd (keyToksAll (x :: xs)) (keyToksAll (y :: ys)) = dataLt x y := by
  rw [toks_all_cons, toks_all_cons]
  exact (lex_self (O := itemOrd) _ _ _).trans ((a9f x y h).2 e _ _)
theorem a81 : ∀ (xs ys : List PyData), a2u xs ys = true →
    firstLt (pairEq xs ys) (fun j => dataLt (xs.getD j .none) (ys.getD j .none)) (decide (xs.length < ys.length)) (List.range (min xs.length ys.length)) = PyProof.Rows.lexLt itemOrd (keyToksAll xs) (keyToksAll ys)
  | [], [], _ => by simp [firstLt, keyToksAll, lex_irrefl]
  | [], y :: ys, _ => by
    rw [toks_all_cons]
    simp only [keyToksAll]
    rw [lex_diff (O := itemOrd) (by simp)]
    simp [firstLt, itemLt]
  | x :: xs, [], _ => by
    rw [toks_all_cons]
    simp only [keyToksAll]
    rw [lex_diff (O := itemOrd) (by simp)]
    simp [firstLt, itemLt]
  | x :: xs, y :: ys, h => by
    obtain ⟨h1, h2⟩ := a2d h
    have em : min (x :: xs).length (y :: ys).length = min xs.length ys.length + 1 := by
      rw [List.length_cons, List.length_cons]
      omega
    have ed : decide ((x :: xs).length < (y :: ys).length) = decide (xs.length < ys.length) := by
      rw [List.length_cons, List.length_cons]
      exact decide_eq_decide.mpr (by omega)
    rw [em, ed, List.range_succ_eq_map]
    cases hx : PyData.eqv x y with
    | true =>
      have ih := a81 xs ys (h2 hx)
      rw [firstLt_yes (show pairEq (x :: xs) (y :: ys) 0 = true from hx), firstLt_map, aa2 h1 hx, ← ih]
      rfl
    | false =>
      rw [firstLt_no (show pairEq (x :: xs) (y :: ys) 0 = false from hx), ai1 h1 hx]
      rfl
theorem eqAt_plainAll : ∀ (xs ys : List PyData) (A : Around) (s : Shared) (vs ws : List Value) (as bs : List Addr), ReadsAll s.heap vs xs as → ReadsAll s.heap ws ys bs → PyData.plainAll xs = true → PyData.plainAll ys = true →
    A.units + min (PyData.depthAll xs) (PyData.depthAll ys) < cLine → ∀ j (h1 : j < vs.length) (h2 : j < ws.length), EqAt A s vs[j] ws[j] (pairEq xs ys j)
  | [], _, _, _, _, _, _, _, ra, _, _, _, _, j, h1, _ => by cases ra; exact absurd h1 (Nat.not_lt_zero _)
  | _ :: _, [], _, _, _, _, _, _, _, rb, _, _, _, j, _, h2 => by cases rb; exact absurd h2 (Nat.not_lt_zero _)
  | x :: xs, y :: ys, A, s, _, _, _, _, ra, rb, hx, hy, hu, j, h1, h2 => by
    have hx' : x.plain = true ∧ PyData.plainAll xs = true := by simpa [PyData.plainAll] using hx
    have hy' : y.plain = true ∧ PyData.plainAll ys = true := by simpa [PyData.plainAll] using hy
    cases ra with
    | cons r rs =>
      cases rb with
      | cons r' rs' =>
        cases j with
        | zero => exact eqAt_plain x y A s _ _ _ _ r r' hx'.1 hy'.1 (room_head hu)
        | succ j => exact eqAt_plainAll xs ys A s _ _ _ _ rs rs' hx'.2 hy'.2 (room_tail hu) j (Nat.lt_of_succ_lt_succ h1) (Nat.lt_of_succ_lt_succ h2)
mutual
theorem al0 : ∀ (da db : PyData) (A : Around) (s : Shared) (a b : Value) (as bs : List Addr), Reads s.heap a da as → Reads s.heap b db bs → da.plain = true → db.plain = true → cmb da db = true → A.units + min da.depth db.depth < cLine → RcLt A s a b (dataLt da db)
  | .none, db, _, _, _, _, _, _, _, _, _, _, h, _ => absurd h (by cases db <;> simp [cmb])
  | .bool x, db, _, _, _, _, _, _, _, _, _, _, h, _ => absurd h (by cases db <;> simp [cmb])
  | .int x, db, A, s, a, b, as, bs, ra, rb, _, _, h, hu => rcLt_alike (.int x) db A s a b as bs ra rb (by cases db <;> first | rfl | exact absurd h (by simp [cmb])) (by simp) hu
  | .str x, db, A, s, a, b, as, bs, ra, rb, _, _, h, hu => rcLt_alike (.str x) db A s a b as bs ra rb (by cases db <;> first | rfl | exact absurd h (by simp [cmb])) (by simp) hu
  | .list xs, db, _, _, _, _, _, _, _, _, _, _, h, _ => absurd h (by cases db <;> simp [cmb])
  | .tuple xs, db, A, s, a, b, as, bs, ra, rb, px, py, h, hu => by
    cases db with
    | tuple ys =>
      have hal : a2u xs ys = true := by simpa [cmb] using h
      have px' : PyData.plainAll xs = true := by simpa [PyData.plain] using px
      have py' : PyData.plainAll ys = true := by simpa [PyData.plain] using py
      cases ra with
      | @tuple l o vs n _ as₁ h1 h2 h3 h4 =>
        cases rb with
        | @tuple l' o' vs' n' _ bs₁ k1 k2 k3 k4 =>
          have n1 : vs.size = xs.length := by simpa using ReadsAll.length _ _ _ h4
          have n2 : vs'.size = ys.length := by simpa using ReadsAll.length _ _ _ k4
          rw [dataLt_tuple, ← a81 xs ys hal, ← n1, ← n2]
          refine RcLt.tuplesF ⟨_, h1, h2, _, h3⟩ ⟨_, k1, k2, _, k3⟩ (room_here hu) (fun j j1 j2 => ?_) fun j j1 j2 hp hj => ?_
          · have := eqAt_plainAll xs ys A.in1 s vs.toList vs'.toList _ _ h4 k4 px' py' (room_in hu) j (by simpa using j1) (by simpa using j2)
            simpa using this
          · have := a7w xs ys A.in1 s vs.toList vs'.toList _ _ h4 k4 px' py' hal (room_in hu) j (by simpa using j1) (by simpa using j2) hp hj
            simpa using this
    | _ => exact absurd h (by simp [cmb])
  | .dict _, db, _, _, _, _, _, _, _, _, _, _, h, _ => absurd h (by cases db <;> simp [cmb])
theorem a7w : ∀ (xs ys : List PyData) (A : Around) (s : Shared) (vs ws : List Value) (as bs : List Addr), ReadsAll s.heap vs xs as → ReadsAll s.heap ws ys bs → PyData.plainAll xs = true → PyData.plainAll ys = true → a2u xs ys = true →
    A.units + min (PyData.depthAll xs) (PyData.depthAll ys) < cLine → ∀ j (h1 : j < vs.length) (h2 : j < ws.length), (∀ i, i < j → pairEq xs ys i = true) → pairEq xs ys j = false → RcLt A s vs[j] ws[j] (dataLt (xs.getD j .none) (ys.getD j .none))
  | [], _, _, _, _, _, _, _, ra, _, _, _, _, _, j, h1, _, _, _ => by cases ra; exact absurd h1 (Nat.not_lt_zero _)
  | _ :: _, [], _, _, _, _, _, _, _, rb, _, _, _, _, j, _, h2, _, _ => by cases rb; exact absurd h2 (Nat.not_lt_zero _)
  | x :: xs, y :: ys, A, s, _, _, _, _, ra, rb, hx, hy, h, hu, j, h1, h2, hp, hj => by
    have hx' : x.plain = true ∧ PyData.plainAll xs = true := by simpa [PyData.plainAll] using hx
    have hy' : y.plain = true ∧ PyData.plainAll ys = true := by simpa [PyData.plainAll] using hy
    cases ra with
    | cons r rs =>
      cases rb with
      | cons r' rs' =>
        cases j with
        | zero => exact al0 x y A s _ _ _ _ r r' hx'.1 hy'.1 (a2d h).1 (room_head hu)
        | succ j => exact a7w xs ys A s _ _ _ _ rs rs' hx'.2 hy'.2 ((a2d h).2 (hp 0 (Nat.succ_pos j))) (room_tail hu) j (Nat.lt_of_succ_lt_succ h1) (Nat.lt_of_succ_lt_succ h2) (fun i hi => hp (i + 1) (Nat.succ_lt_succ hi)) hj
end
section
variable {prog : Program} {w : World} {A : Around} {E : Value → Shared → Prop} {s : Shared}
theorem ap2 {f : Bool} {da db : PyData} {a b : Value} {as bs : List Addr} {Q : Bool → Shared → Prop} (hf : f = true → ∃ i, da = .int i) (ra : Reads s.heap a da as) (rb : Reads s.heap b db bs) (pa : da.plain = true) (pb : db.plain = true) (h : cmb da db = true)
    (hu : A.units + min da.depth db.depth < cLine) (hq : Q (dataLt da db) s) : wpAny (model prog w) A (oneLt' f a b) Q E s := by
  cases f with
  | false =>
    rw [oneLt'_eq]
    simp only [Bool.false_eq_true, if_false]
    exact wpAny_bind (al0 da db A s a b as bs ra rb pa pb h hu prog w E _ (wpAny_truthy_bool hq))
  | true =>
    obtain ⟨i, rfl⟩ := hf rfl
    exact oneLt_alike (da := .int i) (by intro _ xs e; cases e) ra rb (by cases db <;> first | rfl | exact absurd h (by simp [cmb])) (by intro e; cases e) hu hq
theorem a90 {b fin : Bool} {Q : Bool → Shared → Prop} : ∀ (xs ys : List PyData) (i : Nat) (vs ws : List Value) (as bs : List Addr), ReadsAll s.heap vs xs as → ReadsAll s.heap ws ys bs → PyData.plainAll xs = true → PyData.plainAll ys = true → a2u xs ys = true →
    A.units + min (PyData.depthAll xs) (PyData.depthAll ys) < cLine → (b = true → i = 0 → ∀ x r, xs = x :: r → ∃ k, x = .int k) → fin = decide (xs.length < ys.length) → Q (PyProof.Rows.lexLt itemOrd (keyToksAll xs) (keyToksAll ys)) s → KatLex prog w A b fin Q (vs.zip ws) i s
  | [], [], i, _, _, _, _, ra, rb, _, _, _, _, _, hf, hq => by
    cases ra
    cases rb
    have e : fin = false := by rw [hf]; rfl
    subst e
    rw [lex_irrefl] at hq
    exact kat_nil hq
  | [], y :: ys, i, _, _, _, _, ra, rb, _, _, _, _, _, hf, hq => by
    cases ra
    have e : fin = true := by rw [hf]; exact decide_eq_true (Nat.succ_pos _)
    subst e
    rw [toks_all_cons] at hq
    simp only [keyToksAll] at hq
    rw [lex_diff (O := itemOrd) (by simp)] at hq
    rw [List.zip_nil_left]
    exact kat_nil (by simpa [itemLt] using hq)
  | x :: xs, [], i, _, _, _, _, ra, rb, _, _, _, _, _, hf, hq => by
    cases rb
    have e : fin = false := by rw [hf]; exact decide_eq_false (Nat.not_lt_zero _)
    subst e
    rw [toks_all_cons] at hq
    simp only [keyToksAll] at hq
    rw [lex_diff (O := itemOrd) (by simp)] at hq
    rw [List.zip_nil_right]
    exact kat_nil (by simpa [itemLt] using hq)
  | x :: xs, y :: ys, i, _, _, _, _, ra, rb, px, py, h, hu, hb, hf, hq => by
    obtain ⟨h1, h2⟩ := a2d h
    have hx' : x.plain = true ∧ PyData.plainAll xs = true := by simpa [PyData.plainAll] using px
    have hy' : y.plain = true ∧ PyData.plainAll ys = true := by simpa [PyData.plainAll] using py
    have hf' : fin = decide (xs.length < ys.length) := by
      rw [hf]
      simp only [List.length_cons, Nat.add_lt_add_iff_right]
    cases ra with
    | cons r rs =>
      cases rb with
      | cons r' rs' =>
        rw [List.zip_cons_cons]
        refine kat_cons (eqAt_plain x y A s _ _ _ _ r r' hx'.1 hy'.1 (room_head hu) prog w _ _ ?_)
        cases hx : PyData.eqv x y with
        | true =>
          rw [aa2 h1 hx] at hq
          exact kat_yes (a90 xs ys (i + 1) _ _ _ _ rs rs' hx'.2 hy'.2 (h2 hx) (room_tail hu) (fun _ hi => absurd hi (Nat.succ_ne_zero i)) hf' hq)
        | false =>
          rw [ai1 h1 hx] at hq
          refine kat_no (ap2 (fun hbi => ?_) r r' hx'.1 hy'.1 h1 (room_head hu) hq)
          rw [Bool.and_eq_true] at hbi
          exact hb hbi.1 (by simpa using hbi.2) x xs rfl
structure CmbL (ds : List PyData) : Prop where
  plain : ∀ d ∈ ds, d.plain = true
  cmb : ∀ d ∈ ds, ∀ d' ∈ ds, cmb d d' = true
  head : ∀ d ∈ ds, ∃ i r, d = .tuple (.int i :: r)
theorem a5z {h : Heap} {ds : List PyData} (hp : ∀ d ∈ ds, d.plain = true) {v : Value} {d : PyData} {as : List Addr} (hd : d ∈ ds) (r : Reads h v d as) : (dataKind h ds).keyOf v = some (keyToks d) := by
  have q : ∃ d, d ∈ ds ∧ ∃ as, Reads h v d as := ⟨d, hd, as, r⟩
  have e : (dataKind h ds).keyOf v = some (keyToks q.choose) := by
    show (open Classical in if q : ∃ d, d ∈ ds ∧ ∃ as, Reads h v d as then some (keyToks q.choose) else none) = _
    rw [dif_pos q]
  obtain ⟨h1, as', h2⟩ := q.choose_spec
  rw [e, plain_unique _ _ _ _ _ (hp _ h1) h2 r]
theorem SortsAt.cmb {vs : List Value} {ds : List PyData} (e : EachIs (fun v d => ∃ as, Reads s.heap v d as) vs ds) (C : CmbL ds) (hu : ∀ d, d ∈ ds → A.units + d.depth < cLine) : SortsAt prog w A s (dataKind s.heap ds) vs := by
  have room : ∀ {d d' : PyData}, d ∈ ds → A.units + min d.depth d'.depth < cLine := fun {d d'} hd => Nat.lt_of_le_of_lt (Nat.add_le_add_left (Nat.min_le_left _ _) _) (hu d hd)
  have ht : ∀ d, d ∈ ds → ∃ x r, d = .tuple (x :: r) := fun d hd => let ⟨i, r, q⟩ := C.head d hd; ⟨.int i, r, q⟩
  refine ⟨fun v hv => ?_, ?_⟩
  · obtain ⟨d, hd, as, r⟩ := e.left v hv
    exact ⟨_, a5z C.plain hd r⟩
  · refine ⟨tuples' ((Value.type "int") != Value.type "tuple"), ?_, fun h2 E Q hq => ?_⟩
    · intro E x y a b Q ha hb hq
      obtain ⟨d, as, hd, ra, rfl⟩ := dataKind_inv ha
      obtain ⟨d', as', hd', rb, rfl⟩ := dataKind_inv hb
      have hdd := C.cmb d hd d' hd'
      have hroom := room (d' := d') hd
      have p1 := C.plain d hd
      have p2 := C.plain d' hd'
      obtain ⟨i1, r1, rfl⟩ := C.head d hd
      obtain ⟨i2, r2, rfl⟩ := C.head d' hd'
      have hq' : Q (dataLt (.tuple (.int i1 :: r1)) (.tuple (.int i2 :: r2))) s := hq
      rw [dataLt_tuple] at hq'
      cases ra with
      | @tuple l o xs n _ _ h1 h2 h3 h4 =>
        cases rb with
        | @tuple l' o' xs' n' _ _ k1 k2 k3 k4 =>
          have n1 : xs.size = (PyData.int i1 :: r1).length := by simpa using SeqAt.ReadsAll.length _ _ _ h4
          have n2 : xs'.size = (PyData.int i2 :: r2).length := by simpa using SeqAt.ReadsAll.length _ _ _ k4
          refine kat_lt h1 h3 k1 k3 (a90 (.int i1 :: r1) (.int i2 :: r2) 0 _ _ _ _ h4 k4 (by simpa [PyData.plain] using p1) (by simpa [PyData.plain] using p2) (by simpa [PySem.W.cmb] using hdd) (by have q := SeqAt.room_in hroom; omega) (fun _ _ x r ex => ?_) (by rw [n1, n2]) hq')
          obtain ⟨rfl, rfl⟩ := List.cons.inj ex
          exact ⟨_, rfl⟩
    · obtain ⟨fs, t1, t2, t3⟩ := each_katTups e ht
      refine kat_kind (T := Value.type "int") t1 (by omega) (fun f hf => ?_) (beq_self_eq_true _) hq
      obtain ⟨x, r, as, m1, m2⟩ := t3 f hf
      obtain ⟨i, r', q⟩ := C.head _ m1
      cases q
      exact looks_reads m2
theorem each_keys' {h : Heap} {ds : List PyData} (hp : ∀ d ∈ ds, d.plain = true) {vs : List Value} (e : EachIs (fun v d => ∃ as, Reads h v d as) vs ds) : EachIs (fun v d => (dataKind h ds).keyOf v = some (keyToks d)) vs ds :=
  (each_mem e).mono fun _ _ ⟨⟨_, r⟩, hd⟩ => a5z hp hd r
theorem sorted_cmb {β : Type} {vs : List Value} {bs : List β} {enc : β → PyData} {R : Value → β → Prop} {l : Addr} {Q : Value → Shared → Prop} (hl : s.heap.IsList l vs.toArray) (e : EachIs R vs bs) (er : EachIs (fun v b => ∃ as, Reads s.heap v (enc b) as) vs bs) (C : CmbL (bs.map enc)) (hL : bs.length ≤ sizeLine)
    (hu : ∀ b, b ∈ bs → A.units + 2 + (enc b).depth < cLine) (h : ∀ out, out.length = bs.length → EachIs R out (bs.mergeSort (dataLe false enc)) → Q (.ref (s.heap.objs.size + 1)) { s with heap := sortedAll s.heap vs (List.toArray out) }) :
    wpAny (model prog w) A (call (.builtin "sorted") [.ref l]) Q E s := by
  have er' : EachIs (fun v b => ∃ as, Reads (sortingHeap (copyHeap s.heap vs) (s.heap.objs.size + 1) vs) v (enc b) as) vs bs := er.mono fun _ _ ⟨as, r⟩ => ⟨as, PyProof.Rows.Reads.keeps (fun _ _ => sorting_copy_old) r⟩
  have ed := each_map (R := fun v d => ∃ as, Reads (sortingHeap (copyHeap s.heap vs) (s.heap.objs.size + 1) vs) v d as) enc er'
  exact sorted_vals hl (SortsAt.cmb (s := { s with heap := sortingHeap (copyHeap s.heap vs) (s.heap.objs.size + 1) vs }) ed C (bound_map hu)) (by rw [e.length]; exact hL)
    (h _ (by rw [sortVals_length false rfl]; exact e.length) (sortVals_each (κ := dataKind _ (bs.map enc)) (fun b => keyToks (enc b)) e (each_of_map enc (each_keys' C.plain ed))))
end
end PySem.W
namespace Dv
open PySem L2 PySem.Spec PyProof.Rows
def ah1 (ds : List D) : Prop := a0d ds = true ∧ ds.length ≤ 1000000 ∧ (∀ d ∈ ds, ∃ p, toPy d = some p ∧ p.depth ≤ 60) ∧ PySem.W.CmbL (ds.map encD)
open Classical in
noncomputable def az7 : List D → Option D
  | [.lst _ ds] => if a95 ds ∨ ah1 ds then some (.lst true (ds.mergeSort a3g)) else none
  | _ => none
def ak4 (K : PySem.W.Frag) : List V → Hp → VK → Prop := fun vs H Q => ∃ (a : Addr) (bs : List (D × V)), vs = [V.ref a] ∧ SqL K H a (bs.map (·.2)) ∧ bs.length ≤ 1000000 ∧
  (∀ b ∈ bs, Dp K H b.2 (encD b.1) ∧ (encD b.1).depth ≤ 60) ∧ PySem.W.CmbL (bs.map fun b => encD b.1) ∧
  ∀ p, H p = none → Q (.ref p) (upd H p (.lst ((bs.mergeSort (PySem.W.dataLe false fun b => encD b.1)).map (·.2))))
theorem b1j {X : Cx} (hu : X.A.units + 65 < cLine) : CallR X (.builtin "sorted") (ak4 X.K) := by
  intro pins s σ H vs us Q I r h
  obtain ⟨a, bs, rfl, hs, hl, hd, hc, q⟩ := h
  obtain ⟨its, rv, hi, hz⟩ := I.list hs
  rw [Vals.ref1 r]
  have fin : ∀ out : List Value, PySem.W.EachIs (fun v b => RelV b.2 v) out (bs.mergeSort (PySem.W.dataLe false fun b => encD b.1)) → EP X pins σ Q (.ref (s.heap.objs.size + 1)) { s with heap := sortedAll s.heap its (List.toArray out) } := fun out eo => by
    obtain ⟨n, hn⟩ := sortedAll_at s.heap its out.toArray
    have hv := a6s eo
    have hlen : ((bs.mergeSort (PySem.W.dataLe false fun b => encD b.1)).map (·.2)).length ≤ sizeLine := by
      rw [List.length_map, (List.mergeSort_perm _ _).length_eq, sizeLine_eq]; omega
    exact ⟨.ref _, _, I.laid (t' := s.toks) (fun _ _ => sortedAll_old) (Nat.le_succ _) (show ObjOk X.prog X.w _ _ _ (.lst ((bs.mergeSort (PySem.W.dataLe false fun b => encD b.1)).map (·.2))) from ⟨hlen, out, n, hv, hn⟩), rfl, q _ (I.hok.fresh (Nat.le_succ _))⟩
  have e0 := a6o rv
  refine PySem.W.sorted_cmb (enc := fun b : D × V => encD b.1) hi.isList e0 ?_ hc (by rw [sizeLine_eq]; omega) (fun b hb => ?_) fun out _ eo => fin out eo
  · have : ∀ {bs : List (D × V)} {us : List Value}, (∀ b ∈ bs, Dp X.K H b.2 (encD b.1) ∧ (encD b.1).depth ≤ 60) → PySem.W.EachIs (fun v b => RelV b.2 v) us bs → PySem.W.EachIs (fun v b => ∃ as, Reads s.heap v (encD b.1) as) us bs := by
      intro bs us h e
      induction e with
      | nil => exact .nil
      | cons r t ih => exact .cons (Dp.reads I _ _ _ (h _ List.mem_cons_self).1 r) (ih fun b hb => h b (List.mem_cons_of_mem _ hb))
    exact this hd e0
  · have := (hd b hb).2
    omega
theorem b0v {X : Cx} (hu : X.A.units + 65 < cLine) : CallR X (.builtin "sorted") (fun vs H Q => ab6 X.K vs H Q ∨ ak4 X.K vs H Q) := by
  intro pins s σ H vs us Q I r h
  rcases h with h | h
  · exact az9 hu pins s σ H vs us Q I r h
  · exact b1j hu pins s σ H vs us Q I r h
theorem b07 {K : PySem.W.Frag} {Z : Zt} : a5r K Z (fun vs H Q => ab6 K vs H Q ∨ ak4 K vs H Q) az7 := by
  intro H S vs ds d Q I hv e g
  unfold az7 at e
  split at e
  · rename_i o xs
    split at e
    · rename_i hc
      rcases hc with hc | hc
      · exact .inl (b0x H S vs [.lst o xs] d Q I hv ((b0q hc).trans e) g)
      · cases e
        obtain ⟨v, rfl, h⟩ := v1 hv
        obtain ⟨a, ws, rfl, ha, hw⟩ := h.lst I
        obtain ⟨hp, hl, h1, h2⟩ := hc
        have hs := hw.sh (z9 hp)
        have hlen := u5 hs
        obtain ⟨z1, z2⟩ := a8i (xs := xs) (ys := ws) hlen.symm
        have hm := a4g hs
        have e1 : (xs.zip ws).map (fun b => encD b.1) = xs.map encD := by
          have t : ((xs.zip ws).map (·.1)).map encD = (xs.zip ws).map (fun b => encD b.1) := by rw [List.map_map]; rfl
          rw [← t, z1]
        have zl : (xs.zip ws).length = xs.length := by rw [List.length_zip, hlen, Nat.min_self]
        refine .inr ⟨a, xs.zip ws, rfl, by rw [z2]; exact SqL.of ha, by omega, fun b hb => ?_, by rw [e1]; exact h2, fun p hp' => ?_⟩
        · have hbx : b.1 ∈ xs := by rw [← z1]; exact List.mem_map.mpr ⟨b, hb, rfl⟩
          obtain ⟨p, ep, dp⟩ := h1 b.1 hbx
          have sh := hm b hb
          have : encD b.1 = p := by unfold encD; rw [ep]; rfl
          rw [this]
          exact ⟨a2h I b.1 (sh.view I) ep, dp⟩
        · have hm2 : ∀ b ∈ (xs.zip ws).mergeSort (PySem.W.dataLe false fun b => encD b.1), Sh Z S b.2 b.1 := fun b hb => hm b ((List.mergeSort_perm _ _).mem_iff.mp hb)
          have e2 : ((xs.zip ws).mergeSort (PySem.W.dataLe false fun b => encD b.1)).map (·.1) = xs.mergeSort a3g := (List.map_mergeSort (r := PySem.W.dataLe false fun b : D × V => encD b.1) (f := fun b : D × V => b.1) (s := a3g) (l := xs.zip ws) fun _ _ _ _ => rfl).trans (congrArg (fun l => List.mergeSort l a3g) z1)
          refine a1d g I ?_ (fun d hd => ?_) hp'
          · rw [← e2]; exact a5e hm2
          · exact z9 hp d ((List.mergeSort_perm _ _).mem_iff.mp hd)
    · cases e
  · cases e
theorem b0b {o : Bool} {ds : List D} (h : a95 ds ∨ ah1 ds) : az7 [.lst o ds] = some (.lst true (ds.mergeSort a3g)) := if_pos h
def bn6 (n : Int) : List D → Option D
  | [.lst o xs] => (match a2j xs with | some [] => some (.int n) | some (m :: ns) => some (.int (b9b (m :: ns))) | none => none)
  | _ => none
end Dv
namespace Dv
open PySem L2 PySem.Spec PyProof.Rows
def b52 : List DK → List V → DK → Option V
  | k :: ks, d :: ds, q => if k = q then some d else b52 ks ds q
  | _, _, _ => none
def b0p (ρ : Env) (i : Nat) (q : DK) (x : D) : Env := match u6 ρ i with
  | some s => (match s.d with | .dic o false ks vs => ρ.set i (some (s.sw (.dic o false ks (a4c ks vs q x)))) | _ => ρ)
  | none => ρ
section
variable {K : PySem.W.Frag} {Z : Zt} {O : Hold} {W : WX} {H H' : Hp} {S S' : Reg} {R A C C' : List Addr} {σ : L2.St} {ρ : Env}
theorem OwnL.at : ∀ {ks : List DK} {vs : List D} {ws : List V} {B : List Addr} {q : DK} {x : D}, OwnL Z H S vs ws B → a0y ks vs q = some x →
    ∃ v C B1 B2, B = B1 ++ (C ++ B2) ∧ Own Z H S x v C ∧ b52 ks ws q = some v ∧ ∀ y C', Own Z H S y v C' → OwnL Z H S (a4c ks vs q y) ws (B1 ++ (C' ++ B2))
  | [], _, _, _, _, _, _, e => by cases e
  | k :: ks, [], _, _, _, _, _, e => by cases e
  | k :: ks, d :: vs, _, _, q, x, h, e => by
    obtain ⟨v, r, A1, A2, rfl, rfl, h1, h2⟩ := h
    unfold a0y at e
    unfold b52 a4c
    by_cases hk : k = q
    · rw [if_pos hk] at e ⊢
      cases e
      refine ⟨v, A1, [], A2, rfl, h1, rfl, fun y C' hy => ?_⟩
      rw [if_pos hk]
      exact ⟨v, r, C', A2, rfl, rfl, hy, h2⟩
    · rw [if_neg hk] at e ⊢
      obtain ⟨v', C, B1, B2, rfl, e1, e2, e3⟩ := OwnL.at h2 e
      refine ⟨v', C, A1 ++ B1, B2, by simp, e1, e2, fun y C' hy => ?_⟩
      rw [if_neg hk]
      exact ⟨v, r, A1, B1 ++ (C' ++ B2), rfl, by simp, h1, e3 y C' hy⟩
end
def ptN (i : Nat) (g : M Opd) : M Opd := fun ρ0 => match u6 ρ0 i with
  | some _ => M.bind g (fun ko ρ => match look ρ ko with
    | some kd => (match keyD kd with
      | some q => (match u6 ρ i with
        | some (.lent (.dic _ false ks vs)) => (match a0y ks vs q with | some d => .ok (.vw d) ρ | none => .bad)
        | _ => .bad)
      | none => .bad)
    | none => .bad) ρ0
  | none => .bad
def itP (i : Nat) (g : M Opd) : M (List D) := M.bind (ptN i g) fun o ρ => match o with
  | .vw (.lst _ ds) => if a0d ds = true then .ok ds ρ else .bad
  | _ => .bad
def bor (i : Nat) (f : M D) : M D := fun ρ => match u6 ρ i with
  | some (.lent _) => f ρ
  | _ => ag6 i f ρ
section
variable {X : Cx} {Z : Zt} {W : WX} {e : Expr} {f : M D} {g : M Opd}
end
end Dv
namespace Dv
open PySem L2 PySem.Spec PyProof.Rows
def b76 (ρ : Env) (i : Nat) (q : DK) : Prop := ∃ s ks vs x, u6 ρ i = some s ∧ s.may = true ∧ s.d = .dic true false ks vs ∧ a0y ks vs q = some x
open Classical in
noncomputable def bl9 (chk : D → Bool) (F : D → D → Option D) (i : Nat) (g : M Opd) (f : M D) : M D := fun ρ => match u6 ρ i with
  | none => .bad
  | some _ => M.bind g (fun ko ρ0 => match look ρ0 ko with
    | none => .bad
    | some kd => (match keyD kd with
      | none => .bad
      | some q => (match u6 ρ0 i with
        | none => .bad
        | some s => if s.may = true then (match s.d with
          | .dic true false ks vs => (match a0y ks vs q with
            | none => .bad
            | some sub => if chk sub = true ∧ owned sub = true then (match f (b0p ρ0 i q (.raw 0)) with
              | .ok y ρ1 => if owned y = false ∧ b76 ρ1 i q ∧ ∀ b, f (b0p ρ0 i q (.raw b)) = .ok y (b0p ρ1 i q (.raw b)) then (match F sub y with
                  | some sub' => .ok .non (b0p ρ1 i q sub')
                  | none => .bad) else .bad
              | _ => .bad)
            else .bad)
          | _ => .bad)
          else .bad))) ρ
section
variable {K : PySem.W.Frag} {Z : Zt} {O : Hold} {W : WX} {H H' : Hp} {S S' : Reg} {R A C C' : List Addr} {σ : L2.St} {ρ : Env}
end
section
variable {X : Cx} {Z : Zt} {W : WX} {chk : D → Bool} {F : D → D → Option D} {i : Nat} {g : M Opd} {f : M D} {tk tf : TE}
end
def bw8 : D → D → Option D
  | .lst true ds, y => if ds.length < 1000000 then some (.lst true (ds ++ [y])) else none
  | _, _ => none
def bt4 : D → D → Option D
  | .lst true ds, y => if a0d ds = true then (match bh2 ds y with | some j => some (.lst true (ds.eraseIdx j)) | none => none) else none
  | _, _ => none
section
variable {X : Cx} {Z : Zt} {W : WX} {g : M Opd} {f : M D}
end
def isAny : D → Bool := fun _ => true
noncomputable def br2 (i : Nat) (g : M Opd) (h f : M D) : C := a8r f fun y ρ => if owned y = false then (match bl9 isAny (fun sub k => ad8 sub k y) i g h ρ with
  | .ok _ ρ' => .nx ρ'
  | .ex x ρ' => .ex x ρ'
  | .bad => .bad) else .bad
section
variable {X : Cx} {Z : Zt} {W : WX} {g : M Opd} {h f : M D}
end
end Dv
namespace Dv
open PySem L2 PySem.Spec PyProof.Rows
def ab7 : D → D → D → Option D
  | .dic _ tk ks vs, k, y => (match keyD k with | some q => if a7g tk q = true then (match a0y ks vs q with | some d => if owned d = true then none else some d | none => some y) else none | none => none)
  | _, _, _ => none
def aq3 (f g : M Opd) (h : M D) : M D := M.bind f fun o ρ1 => match look ρ1 o with
  | some d0 => if ae7 d0 = true then M.bind g (fun k => M.bind h fun y ρ2 => match look ρ2 o, look ρ2 k with | some d, some q => if owned y = false then a6f (ab7 d q y) ρ2 else .bad | _, _ => .bad) ρ1 else .bad
  | none => .bad
section
variable {X : Cx} {Z : Zt} {W : WX} {a b c : Expr} {f g : M Opd} {h : M D}
theorem kAL {K : PySem.W.Frag} {O : Hold} {H1 H2 : Hp} {S2 : Reg} {R A1 A2 : List Addr} {ρ : Env} {σ : L2.St} (f2 : Fr O (A1 ++ R) H1 H2) (r2 : Rel K Z O H2 S2 (A2 ++ (A1 ++ R)) ρ σ) : ∀ b, b ∈ A1 ∨ b ∈ O.L → H2 b = H1 b ∧ S2 b = none := fun b hb =>
  ⟨f2 b (hb.imp (List.mem_append_left _) id), (r2.rest b (hb.imp (fun z => List.mem_append_right _ (List.mem_append_left _ z)) id)).1⟩
theorem b2x {apos cpos : Pos} (hu : X.A.units + 1 < cLine) (ha : SO X Z W a f) (hb : SO X Z W b g) (hc : SE X Z W c h) (m : M2 X a "get" apos b c cpos) : SE X Z W (.Call (.Attribute a "get" apos) [b, c] [] cpos) (aq3 f g h) := by
  obtain ⟨ta, h1, h2⟩ := ha
  obtain ⟨tb, u1, u2⟩ := hb
  obtain ⟨tc, w1, w2⟩ := hc
  refine ⟨_, pe_dget2 hu h1 u1 w1 m, fun O H S R ρ σ Q r0 hh => ?_⟩
  refine h2 O H S R ρ σ _ r0 ?_
  unfold aq3 M.bind at hh
  cases e1 : f ρ with
  | bad => rw [e1] at hh; exact hh.elim
  | ex x ρ1 => rw [e1] at hh; exact hh
  | ok o1 ρ1 =>
    rw [e1] at hh
    intro v1 H1 S1 A1 l1 q1 n1 d1 r1 f1
    simp only at hh
    cases e3 : look ρ1 o1 with
    | none => rw [e3] at hh; exact hh.elim
    | some d0 =>
      rw [e3] at hh
      simp only at hh
      by_cases hd : ae7 d0 = true
      case neg => rw [if_neg hd] at hh; exact hh.elim
      rw [if_pos hd] at hh
      have vw := a4l (σ' := σ) (B := []) r1 q1 e3
      obtain ⟨a0, rfl, hisd⟩ := b68 r1.inv vw hd
      refine ⟨a0, rfl, hisd, ?_⟩
      refine u2 O H1 S1 (A1 ++ R) ρ1 σ _ r1 ?_
      cases e2 : g ρ1 with
      | bad => rw [e2] at hh; exact hh.elim
      | ex x ρ2 => rw [e2] at hh; exact XP.weak (x := x) (ρ' := ρ2) hh l1 f1
      | ok o2 ρ2 =>
        rw [e2] at hh
        intro v2 H2 S2 A2 l2 q2 n2 d2 r2 f2
        simp only at hh
        refine w2 O H2 S2 (A2 ++ (A1 ++ R)) ρ2 σ _ r2 ?_
        cases e6 : h ρ2 with
        | bad => rw [e6] at hh; exact hh.elim
        | ex x ρ3 => rw [e6] at hh; exact XP.weak (x := x) (ρ' := ρ3) (A := A2) (XP.weak (x := x) (ρ' := ρ3) hh l1 f1) l2 f2
        | ok y ρ3 =>
          rw [e6] at hh
          intro v3 H3 S3 A3 l3 q3 n3 d3 r3 f3
          simp only at hh
          have k12 := kAL f2 r2
          have k23 := kAL f3 r3
          have k1 : ∀ b, b ∈ A1 ∨ b ∈ O.L → H3 b = H1 b ∧ S3 b = none := fun b hb => by
            have z := f3 b (hb.imp (fun z => List.mem_append_right _ (List.mem_append_left _ z)) id)
            exact ⟨z.trans (k12 b hb).1, (r3.rest b (hb.imp (fun z => List.mem_append_right _ (List.mem_append_right _ (List.mem_append_left _ z))) id)).1⟩
          cases e4 : look ρ3 o1 with
          | none => rw [e4] at hh; exact hh.elim
          | some dx =>
            cases e5 : look ρ3 o2 with
            | none => rw [e4, e5] at hh; exact hh.elim
            | some dy =>
              rw [e4, e5] at hh
              simp only at hh
              split at hh
              case isFalse => exact hh.elim
              rename_i hy0
              have vx := a4l (σ' := σ) (B := []) r3 (q1.keep (l2.trans l3) k1) e4
              have vy := a4l (σ' := σ) (B := []) r3 (q2.keep l3 k23) e5
              have rr : Rel X.K Z O H3 S3 R ρ3 σ := r3.drop.drop.drop
              cases e7 : ab7 dx dy y with
              | none => rw [e7] at hh; exact hh.elim
              | some d =>
                rw [e7] at hh
                have G : Gives X.K Z H3 S3 d Q := by
                  intro v H' S' A e q nd hf
                  obtain ⟨r', f', dj⟩ := rr.ext (A := A) e hf fun b hb => Own.mem d q b hb
                  exact hh v H' S' A ((l1.trans (l2.trans l3)).trans e.le) q nd dj r' ((f1.trans ((Fr.drop f2).trans (Fr.drop (Fr.drop f3)))).trans f')
                have yS := (q3.sh hy0).2
                unfold ab7 at e7
                split at e7
                · split at e7
                  · rename_i q hq
                    split at e7
                    · rename_i ht
                      obtain ⟨a1, ws, ea, hda, hw⟩ := vx.dic r3.inv
                      cases ea
                      obtain ⟨o, g1, g2⟩ := ai3 r3.inv hda hw vy hq ht
                      refine ⟨o, g1, ?_⟩
                      split at e7
                      · rename_i d' hl
                        rw [hl] at g2
                        obtain ⟨v, rfl, hv⟩ := g2
                        split at e7
                        · cases e7
                        · rename_i ho
                          cases e7
                          have ho : owned d = false := by simpa using ho
                          exact a2c G r3.inv (hv.sh ho) ho
                      · rename_i hl
                        rw [hl] at g2
                        subst g2
                        cases e7
                        exact a2c G r3.inv yS hy0
                    · cases e7
                  · cases e7
                · cases e7
end
def dkD : DK → Option D
  | .k (.inl i) => some (.int i)
  | .k (.inr x) => some (.str x)
  | .t _ => none
def ao8 : List DK → Option (List D)
  | [] => some []
  | k :: ks => match dkD k, ao8 ks with | some d, some ds => some (d :: ds) | _, _ => none
theorem av1 {Z : Zt} {S : Reg} : ∀ {kk : List Key} {ds : List D}, ao8 (kk.map .k) = some ds → ShL Z S (kk.map kV) ds ∧ ∀ d ∈ ds, owned d = false
  | [], ds, e => by cases e; exact ⟨.nil, fun _ h => nomatch h⟩
  | k :: kk, ds, e => by
    rw [List.map_cons] at e
    unfold ao8 at e
    cases e2 : ao8 (kk.map .k) with
    | none => rw [e2] at e; cases k <;> simp [dkD] at e
    | some es =>
      rw [e2] at e
      obtain ⟨h1, h2⟩ := av1 e2
      cases k with
      | inl i => cases e; exact ⟨.cons rfl h1, fun d hd => (List.mem_cons.mp hd).elim (fun z => z ▸ rfl) (h2 d)⟩
      | inr i => cases e; exact ⟨.cons rfl h1, fun d hd => (List.mem_cons.mp hd).elim (fun z => z ▸ rfl) (h2 d)⟩
def ax8 : List D → Option D
  | [.dic _ false ks _] => (match ao8 ks with | some ds => some (.lst true ds) | none => none)
  | ds => a9t ds
def ay3 (K : PySem.W.Frag) : List V → Hp → VK → Prop := fun xs H Q => (∃ p ys, xs = [.ref p] ∧ (SqL K H p ys ∨ SqT K H p ys) ∧ ∀ l, H l = none → Q (.ref l) (upd H l (.lst ys))) ∨
  ∃ (a : Addr) (kvs : List (Key × V)), xs = [.ref a] ∧ Rd H a (.dK kvs) ∧ ∀ p, H p = none → Q (.ref p) (upd H p (.lst (kvs.map fun kv => kV kv.1)))
theorem am9 {X : Cx} (hc : X.calm = true) : CallR X (.type "list") (ay3 X.K) := by
  intro pins s σ H xs us Q I r h
  rcases h with h | h
  · exact call_list_of pins s σ H xs us Q I r h
  · exact call_listD hc pins s σ H xs us Q I r h
theorem b19 {K : PySem.W.Frag} {Z : Zt} : a5r K Z (ay3 K) ax8 := by
  intro H S vs ds d Q I hv e g
  unfold ax8 at e
  split at e
  · rename_i o ks ws
    split at e
    · rename_i es he
      cases e
      obtain ⟨v, rfl, h⟩ := v1 hv
      obtain ⟨a, us, rfl, ha, hw⟩ := h.dic I
      rcases ha with ⟨_, kk, rfl, hnd, hl, ha⟩ | ⟨z, _⟩
      · obtain ⟨h1, h2⟩ := av1 (Z := Z) (S := S) he
        refine .inr ⟨a, _, rfl, ha, fun l hl' => ?_⟩
        have : (kk.zip us).map (fun kv => kV kv.1) = kk.map kV := by
          rw [show (fun kv : Key × V => kV kv.1) = kV ∘ Prod.fst from rfl, ← List.map_map, List.map_fst_zip (by rw [hl]; exact Nat.le_refl _)]
        rw [this]
        exact a1d g I h1 h2 hl'
      · cases z
    · cases e
  · exact .inl (a9x H S vs _ d Q I hv e g)
def bj3 : List D → Option D
  | [.dic _ false ks vs] => if a0d vs = true then some (.dic true false ks vs) else none
  | _ => none
def bn0 (i : Nat) (c : C) : C := fun ρ => match ρ[i]? with
  | some (some s) => if s.may = true then (match s.d with
    | .dic true false ks vs => if a0d vs = true then (match c (ρ.set i (some (.lent (.dicL ks vs)))) with
      | .nx ρ' => if a0w ρ' i = true then .nx (ρ'.set i (some s)) else .bad
      | .rt d ρ' => if a0w ρ' i = true then .rt d (ρ'.set i (some s)) else .bad
      | _ => .bad) else .bad
    | _ => .bad) else .bad
  | _ => .bad
def itZ (i : Nat) : M (List D) := fun ρ => match ρ[i]? with
  | some (some (.lent (.dicL ks _))) => (match ao8 ks with | some ds => .ok ds ρ | none => .bad)
  | _ => .bad
section
variable {K : PySem.W.Frag} {Z : Zt} {O : Hold} {H H' : Hp} {S S' : Reg} {R R' A : List Addr} {σ σ' : L2.St} {ρ ρ' : Env} {i : Nat} {s : Slot} {v : V}
end
section
variable {X : Cx} {Z : Zt} {W : WX}
end
end Dv
namespace Dv
open PySem L2 PySem.Spec PyProof.Rows
section
variable {X : Cx} {pins : List (Addr × Obj)} {σ : L2.St} {H : Hp} {s : Shared} {Z : Zt} {S : Reg}
mutual
theorem b9q (I : Inv X pins σ H s) (IS : InvS X.K Z H S) : ∀ (d : D) {v : V} {u : Value} {k : NestedKey}, Sh Z S v d → RelV v u → nkD d = some k → NestedIs s.heap k u
  | .non, v, u, k, h, r, e => by cases e; cases (show v = .non from h); cases r; exact .none
  | .int i, v, u, k, h, r, e => by cases e; cases (show v = .int i from h); obtain ⟨t, rfl⟩ := r; exact .int i t
  | .str x, v, u, k, h, r, e => by cases e; cases (show v = .str x from h); obtain ⟨t, rfl⟩ := r; exact .text x t
  | .tup xs, v, u, k, h, r, e => by
    unfold nkD at e
    cases e2 : a8p xs with
    | none => rw [e2] at e; cases e
    | some ks =>
      rw [e2] at e
      cases e
      obtain ⟨a, vs, rfl, ha, hs⟩ := IS.tup h
      cases (show u = Value.ref a from r)
      obtain ⟨its, rv, ⟨o, h1, h2, n, h3⟩, _⟩ := I.tuple ha.sq
      exact .tup h1 h2 h3 (by simpa using b21 I IS xs hs rv e2)
  | .bl _, _, _, _, _, _, e => by cases e
  | .lst _ _, _, _, _, _, _, e => by cases e
  | .dic _ _ _ _, _, _, _, _, _, e => by cases e
  | .scr _, _, _, _, _, _, e => by cases e
  | .ty _, _, _, _, _, _, e => by cases e
  | .raw _, _, _, _, _, _, e => by cases e
  | .pr _, _, _, _, _, _, e => by cases e
  | .exc _ _ _, _, _, _, _, _, e => by cases e
  | .xds _ _, _, _, _, _, _, e => by cases e
  | .obj _ _ _ _, _, _, _, _, _, e => by cases e
  | .pgs _ _, _, _, _, _, _, e => by cases e
  | .dicL _ _, _, _, _, _, _, e => by cases e
  | .otp _, _, _, _, _, _, e => by cases e
theorem b21 (I : Inv X pins σ H s) (IS : InvS X.K Z H S) : ∀ (ds : List D) {vs : List V} {us : List Value} {ks : List NestedKey}, ShL Z S vs ds → Vals vs us → a8p ds = some ks → NestedAll s.heap ks us
  | [], _, _, _, h, r, e => by cases h; cases r; cases e; exact .nil
  | d :: ds, _, _, _, h, r, e => by
    cases h with
    | cons h1 h2 =>
      cases r with
      | cons r1 r2 =>
        unfold a8p at e
        cases e1 : nkD d with
        | none => rw [e1] at e; cases e
        | some k =>
          cases e2 : a8p ds with
          | none => rw [e1, e2] at e; cases e
          | some ks =>
            rw [e1, e2] at e
            cases e
            exact .cons (b9q I IS d h1 r1 e1) (b21 I IS ds h2 r2 e2)
end
end
section
variable {X : Cx} {Z : Zt} {W : WX} {pos : Pos}
def stG (xs : List (NestedKey × Addr)) (p : NestedKey × Addr) : List (NestedKey × Addr) := if p.1 ∈ xs.map (·.1) then xs else xs ++ [p]
def bj0 (X : Cx) : TSet := fun o i v H Q => ∃ (a b : Addr) (xs : List (NestedKey × Addr)) (k : NestedKey), o = .ref a ∧ i = .ref b ∧ v = .bl true ∧ H a = some (pgO X.w a xs) ∧
  (∀ pins σ s, Inv X pins σ H s → NestedIs s.heap k (.ref b) ∧ ∀ x ∈ xs, NestedIs s.heap x.1 (.ref x.2)) ∧ k.depth ≤ 8 ∧ (∀ x ∈ xs, x.1.depth ≤ 8) ∧ xs.length ≤ 1000000 ∧ Q (upd H a (pgO X.w a (stG xs (k, b))))
def b1z (d : D) : Bool := match nkD d with | some k => decide (k.depth ≤ 8) | none => false
def isTup : D → Bool | .tup _ => true | _ => false
def bf2 (ds : List D) (y : D) : List D := if nkD y ∈ ds.map nkD then ds else ds ++ [y]
def bu3 (i : Nat) (g f : M D) : C := a8r f fun v => fun ρ => match v with
  | .bl true => (match u6 ρ i with
    | some _ => a8r g (fun k ρ2 => match u6 ρ2 i with
      | some s => if s.may = true then (match s.d with
        | .pgs true ds => if isTup k = true ∧ b1z k = true ∧ ds.all b1z = true ∧ ds.length < 1000000 then .nx (ρ2.set i (some (s.sw (.pgs true (bf2 ds k))))) else .bad
        | _ => .bad) else .bad
      | none => .bad) ρ
    | none => .bad)
  | _ => .bad
end
end Dv
namespace Dv
open PySem L2 PySem.Spec PyProof.Rows
def au8 (w : World) (H : Hp) (a : Addr) (ws : List V) : Prop := (∃ kvs : List (Key × V), Rd H a (.dK kvs) ∧ ws = kvs.map fun kv => kV kv.1) ∨ ∃ xs : List (NestedKey × Addr), H a = some (pgO w a xs) ∧ ws = xs.map fun x => V.ref x.2
theorem aa9 {xs : List (NestedKey × Addr)} : ∀ {us : List Value}, us.length = xs.length → (∀ (j : Nat) (v : Value), us[j]? = some v → ∃ x : NestedKey × Addr, xs[j]? = some x ∧ v = Value.ref x.2) → Vals (xs.map fun x => V.ref x.2) us := by
  induction xs with
  | nil => intro us hl h; cases us with
    | nil => exact .nil
    | cons _ _ => cases hl
  | cons x xs ih =>
    intro us hl h
    cases us with
    | nil => cases hl
    | cons u us =>
      obtain ⟨y, hy, rfl⟩ := h 0 u (by simp)
      cases hy
      refine .cons rfl (ih (by simpa using hl) fun j v hj => ?_)
      obtain ⟨y, hy, e⟩ := h (j + 1) v (by simpa using hj)
      exact ⟨y, by simpa using hy, e⟩
section
variable {X : Cx} {pins : List (Addr × Obj)} {σ : L2.St} {H : Hp} {s : Shared} {A : Around} {E : Value → Shared → Prop}
theorem ab1 {a : Addr} {ws : List V} {R : List Value → Shared → Prop} (I : Inv X pins σ H s) (hh : A.handled = none) (hs : au8 X.w H a ws) (hl : ws.length ≤ 1000000)
    (h : ∀ h' tk us, (∀ b o, s.heap.get? b = some o → h'.get? b = some o) → Vals ws us → R us { s with heap := h', toks := tk }) : wpAny (model X.prog X.w) A (collect (.ref a)) R E s := by
  have hl2 := a0r hl
  rcases hs with ⟨kvs, hd, rfl⟩ | ⟨xs, hd, rfl⟩
  · obtain ⟨z, lo, vs, rel, dd⟩ := dk_rd I.hok hd
    obtain ⟨ep, hat⟩ := dd.dictAt
    have ek : (kvs.map fun kv => kV kv.1) = vs.map fun p => kV p.1 := by
      have e := congrArg (List.map kV) rel.keys
      rw [List.map_map, List.map_map] at e
      exact e
    refine PySem.W.kdu_collect (PySem.W.kdl_dict (knd := mixKind X.prog X.w) (kvs := vs) (ep := ep) lo) hh hat (by rw [← rel.length]; exact z) fun h' tk acc hk hacc => ?_
    have hv : Vals (vs.map fun p => kV p.1) acc.toList := keys_at (by rw [Array.length_toList]; exact hacc.1) fun j v e => hacc.2 j v (by rw [← Array.getElem?_toList]; exact e)
    exact h h' tk acc.toList hk (by rw [ek]; exact hv)
  · obtain ⟨⟨hm, hnd, od, es, ep, g1, g2, g3, g4⟩, _, _⟩ := I.hok a _ hd
    have g4 := g4 X.prog
    have hsz : es.size = xs.length := by
      have := congrArg List.length g4
      simpa using this
    refine PySem.W.kdu_collect (KdlSrc.rawDict (prog := X.prog) (w := X.w) (es := es) (ep := ep) hm) hh ⟨od, g1, g2, g3⟩ (by rw [hsz]; simpa using hl2) fun h' tk acc hk hacc => ?_
    refine h h' tk acc.toList hk (aa9 (by rw [Array.length_toList, hacc.1, hsz]) fun j v e => ?_)
    obtain ⟨hi, e2⟩ := hacc.2 j v (by rw [← Array.getElem?_toList]; exact e)
    have hj : j < xs.length := hsz ▸ hi
    refine ⟨xs[j], List.getElem?_eq_getElem hj, ?_⟩
    rw [e2]
    have : es[j] = entryOfKey (nestedKind X.prog X.w) (xs[j].1, xs[j].2, Value.bool true) := by
      have h1 : es.toList[j]? = some es[j] := by rw [Array.getElem?_toList]; exact Array.getElem?_eq_getElem hi
      rw [g4] at h1
      simp only [List.getElem?_map, List.getElem?_eq_getElem hj, Option.map_some] at h1
      exact (Option.some.inj h1).symm
    rw [this]
    rfl
end
def b1y (X : Cx) : List V → Hp → VK → Prop := fun vs H Q => ∃ (a : Addr) (bs : List (D × V)), vs = [V.ref a] ∧ au8 X.w H a (bs.map (·.2)) ∧ bs.length ≤ 1000000 ∧ (∀ b ∈ bs, Dp X.K H b.2 (encD b.1) ∧ (encD b.1).depth ≤ 60) ∧
  (PySem.W.CmbL (bs.map fun b => encD b.1) ∨ (PySem.W.AllAlike (bs.map fun b => encD b.1) ∧ PySem.W.Sortable (bs.map fun b => encD b.1))) ∧ ∀ p, H p = none → Q (.ref p) (upd H p (.lst ((bs.mergeSort (PySem.W.dataLe false fun b => encD b.1)).map (·.2))))
theorem b0a {X : Cx} (hc : X.calm = true) (hu : X.A.units + 65 < cLine) : CallR X (.builtin "sorted") (b1y X) := by
  intro pins s σ H vs us Q I r h
  obtain ⟨a, bs, rfl, hs, hl, hd, ho, q⟩ := h
  rw [Vals.ref1 r]
  refine Calls.call_function_entry PyProof.Rows.kind_sorted PyProof.Rows.plain_sorted PyProof.Rows.entry_sorted (PyProof.Rows.args_sorted1 _) ?_
  unfold Builtin.«sorted»
  refine wpAny_bind (m := checkCount "sorted" 1 1 _) (wpAny_pure ?_)
  refine wpAny_bind (ab1 (A := X.A.in1) I (I.ok.hd hc) hs (by rw [List.length_map]; exact hl) fun h' tk us2 hk hv => ?_)
  have I1 : Inv X pins σ H { s with heap := h', toks := tk } := I.kept hk
  have hul : us2.length = bs.length := by rw [← hv.length, List.length_map]
  refine wpAny_bind (wpAny_newList ?_ (by rw [hul]; exact a0r hl))
  have hoL : (h'.push (seqObj "list" us2.toArray 0)).get? h'.objs.size = some (seqObj "list" us2.toArray 0) := Heap.get?_push_size _ rfl
  show wpAny _ _ _ _ _ { s with heap := h'.push (seqObj "list" us2.toArray 0), toks := tk }
  have e0 := a6o hv
  have I2 : Inv X pins σ H { s with heap := h'.push (seqObj "list" us2.toArray 0), toks := tk } := I.kept fun b o e => Heap.get?_push_of_some _ (hk b o e)
  have I2 : Inv X pins σ H { s with heap := PySem.W.sortingHeap (h'.push (seqObj "list" us2.toArray 0)) h'.objs.size us2, toks := tk } := I.kept fun b o e => by
    have q := hk b o e
    exact PySem.W.sortingHeap_old (Nat.ne_of_lt (Heap.lt_size q)) (Heap.get?_push_of_some _ q)
  have ed : PySem.W.EachIs (fun v d => ∃ as, Reads (PySem.W.sortingHeap (h'.push (seqObj "list" us2.toArray 0)) h'.objs.size us2) v d as) us2 (bs.map fun b => encD b.1) := by
    have : ∀ {bs : List (D × V)} {us : List Value}, (∀ b ∈ bs, Dp X.K H b.2 (encD b.1) ∧ (encD b.1).depth ≤ 60) → PySem.W.EachIs (fun v b => RelV b.2 v) us bs → PySem.W.EachIs (fun v d => ∃ as, Reads (PySem.W.sortingHeap (h'.push (seqObj "list" us2.toArray 0)) h'.objs.size us2) v d as) us (bs.map fun b => encD b.1) := by
      intro bs us h e
      induction e with
      | nil => exact .nil
      | cons r t ih => exact .cons (Dp.reads I2 _ _ _ (h _ List.mem_cons_self).1 r) (ih fun b hb => h b (List.mem_cons_of_mem _ hb))
    exact this hd e0
  have hdep : ∀ d ∈ bs.map (fun b => encD b.1), X.A.in1.in1.units + d.depth < cLine := fun d hd' => by
    obtain ⟨b, hb, rfl⟩ := List.mem_map.mp hd'
    have := (hd b hb).2
    simp only [Around.in1]
    omega
  have fin : ∀ out : List Value, out.length = us2.length → PySem.W.EachIs (fun v b => RelV b.2 v) out (bs.mergeSort (PySem.W.dataLe false fun b => encD b.1)) →
      EP X pins σ Q (.ref h'.objs.size) { s with heap := sortedHeap (h'.push (seqObj "list" us2.toArray 0)) h'.objs.size us2 out.toArray, toks := tk } := fun out _ eo => by
    obtain ⟨n, hn⟩ := PyProof.Rows.sortedHeap_at (vs := us2) (out := out.toArray) hoL
    have hv2 := a6s eo
    have hlen : ((bs.mergeSort (PySem.W.dataLe false fun b => encD b.1)).map (·.2)).length ≤ sizeLine := by
      rw [List.length_map, (List.mergeSort_perm _ _).length_eq]; exact a0r hl
    refine ⟨.ref _, _, I1.laid (t' := tk) (fun b u e => ?_) (Nat.le_refl _) (show ObjOk X.prog X.w _ _ _ (.lst ((bs.mergeSort (PySem.W.dataLe false fun b => encD b.1)).map (·.2))) from ⟨hlen, out, n, hv2, hn⟩), rfl, q _ (I1.hok.fresh (Nat.le_refl _))⟩
    have hb : b < h'.objs.size := Heap.lt_size e
    rw [PyProof.Rows.sortedHeap_old (Nat.ne_of_lt hb) (by rw [size_push']; exact Nat.lt_succ_of_lt hb)]
    exact Heap.get?_push_of_some _ e
  rcases ho with hC | ⟨hA, hS⟩
  · refine wpAny_bind (wpAny_holding (wpAny_call_entry PyProof.Rows.slot_list_sort ⟨_, hoL, rfl⟩ PyProof.Rows.entry_list_sort
      (PySem.W.list_sort_vals (κ := PySem.W.dataKind (PySem.W.sortingHeap (h'.push (seqObj "list" us2.toArray 0)) h'.objs.size us2) (bs.map fun b => encD b.1)) (s := { s with heap := h'.push (seqObj "list" us2.toArray 0), toks := tk }) hoL
        (PySem.W.SortsAt.cmb (s := { s with heap := PySem.W.sortingHeap (h'.push (seqObj "list" us2.toArray 0)) h'.objs.size us2, toks := tk }) ed hC hdep) (by rw [hul]; exact a0r hl) ⟨_, rfl, ?_⟩)
      (PyProof.Rows.args_list_sort _)))
    have eo := PySem.W.sortVals_each (rev := false) (κ := PySem.W.dataKind (PySem.W.sortingHeap (h'.push (seqObj "list" us2.toArray 0)) h'.objs.size us2) (bs.map fun b => encD b.1)) (fun b : D × V => PySem.W.keyToks (encD b.1)) e0 (PySem.W.each_of_map (fun b : D × V => encD b.1) (PySem.W.each_keys' hC.plain ed))
    exact wpAny_pure ⟨_, rfl, fin _ (PySem.W.sortVals_length false rfl) eo⟩
  · refine wpAny_bind (wpAny_holding (wpAny_call_entry PyProof.Rows.slot_list_sort ⟨_, hoL, rfl⟩ PyProof.Rows.entry_list_sort
      (PySem.W.list_sort_vals (κ := PySem.W.dataKind (PySem.W.sortingHeap (h'.push (seqObj "list" us2.toArray 0)) h'.objs.size us2) (bs.map fun b => encD b.1)) (s := { s with heap := h'.push (seqObj "list" us2.toArray 0), toks := tk }) hoL
        (PySem.W.SortsAt.data (s := { s with heap := PySem.W.sortingHeap (h'.push (seqObj "list" us2.toArray 0)) h'.objs.size us2, toks := tk }) ed hA hS hdep) (by rw [hul]; exact a0r hl) ⟨_, rfl, ?_⟩)
      (PyProof.Rows.args_list_sort _)))
    have er' : PySem.W.EachIs (fun v b => ∃ as, Reads (PySem.W.sortingHeap (h'.push (seqObj "list" us2.toArray 0)) h'.objs.size us2) v (encD b.1) as) us2 bs := PySem.W.each_of_map (fun b : D × V => encD b.1) ed
    exact wpAny_pure ⟨_, rfl, fin _ (PySem.W.sortVals_length false rfl) (PySem.W.sortVals_data false e0 er' hA)⟩
def al3 : D → Option (List D)
  | .dic _ false ks _ => ao8 ks
  | .pgs _ ds => some ds
  | _ => none
def af7 (ds : List D) : Prop := a0d ds = true ∧ ds.length ≤ 1000000 ∧ (∀ d ∈ ds, ∃ p, toPy d = some p ∧ p.depth ≤ 60) ∧ (PySem.W.CmbL (ds.map encD) ∨ (PySem.W.AllAlike (ds.map encD) ∧ PySem.W.Sortable (ds.map encD)))
open Classical in
noncomputable def a5v : List D → Option D
  | [d] => (match al3 d with
    | some ds => if af7 ds then some (.lst true (ds.mergeSort a3g)) else none
    | none => (match sortedI [d] with | some r => some r | none => az7 [d]))
  | _ => none
def aq0 (X : Cx) : List V → Hp → VK → Prop := fun vs H Q => b1y X vs H Q ∨ rSortedI X.K vs H Q ∨ (ab6 X.K vs H Q ∨ ak4 X.K vs H Q)
theorem a6n {X : Cx} (hc : X.calm = true) (hu : X.A.units + 65 < cLine) : CallR X (.builtin "sorted") (aq0 X) := by
  intro pins s σ H vs us Q I r h
  rcases h with h | h | h
  · exact b0a hc hu pins s σ H vs us Q I r h
  · exact cr_sortedI pins s σ H vs us Q I r h
  · exact b0v hu pins s σ H vs us Q I r h
theorem a6j {X : Cx} {Z : Zt} (hw : Z.wo = X.w) : a5r X.K Z (aq0 X) a5v := by
  intro H S vs ds d Q I hv e g
  unfold a5v at e
  split at e
  case h_2 => cases e
  rename_i d0
  split at e
  · rename_i xs hk
    split at e
    case isFalse => cases e
    rename_i hc
    cases e
    obtain ⟨hp, hl, h1, h2⟩ := hc
    obtain ⟨v, rfl, h⟩ := v1 hv
    have src : ∃ a ws, v = .ref a ∧ au8 X.w H a ws ∧ ShL Z S ws xs := by
      unfold al3 at hk
      split at hk
      · rename_i o ks zs
        obtain ⟨a, us, rfl, ha, hw'⟩ := h.dic I
        rcases ha with ⟨_, kk, rfl, hnd, hl', ha⟩ | ⟨z, _⟩
        · refine ⟨a, kk.map kV, rfl, .inl ⟨_, ha, ?_⟩, (av1 hk).1⟩
          rw [show (fun kv : Key × V => kV kv.1) = kV ∘ Prod.fst from rfl, ← List.map_map, List.map_fst_zip (by rw [hl']; exact Nat.le_refl _)]
        · cases z
      · rename_i o zs
        cases hk
        cases o with
        | true =>
          obtain ⟨B, a, ws, rfl, _, ⟨ys, y1, y2, y3⟩, _, hsh⟩ := h
          exact ⟨a, ws, rfl, .inr ⟨ys, by rw [← hw]; exact y3, y2⟩, hsh⟩
        | false =>
          obtain ⟨a, rfl, hS | ⟨ns, _, hz⟩⟩ := h.sh rfl
          · obtain ⟨ws, ⟨ys, y1, y2, y3⟩, hsh⟩ := I.node a _ hS
            exact ⟨a, ws, rfl, .inr ⟨ys, by rw [← hw]; exact y3, y2⟩, hsh⟩
          · cases hz
      · cases hk
    obtain ⟨a, ws, rfl, hsrc, hs⟩ := src
    have hlen := u5 hs
    obtain ⟨z1, z2⟩ := a8i (xs := xs) (ys := ws) hlen.symm
    have e1 : (xs.zip ws).map (fun b => encD b.1) = xs.map encD := by
      rw [show (fun b : D × V => encD b.1) = encD ∘ Prod.fst from rfl, ← List.map_map, z1]
    have hm : ∀ b ∈ xs.zip ws, Sh Z S b.2 b.1 := a4g hs
    refine .inl ⟨a, xs.zip ws, rfl, by rw [z2]; exact hsrc, by rw [List.length_zip]; omega, fun b hb => ?_, by rw [e1]; exact h2, fun p hp' => ?_⟩
    · have hbx : b.1 ∈ xs := by rw [← z1]; exact List.mem_map.mpr ⟨b, hb, rfl⟩
      obtain ⟨p, ep, dp⟩ := h1 b.1 hbx
      have sh := hm b hb
      have : encD b.1 = p := by unfold encD; rw [ep]; rfl
      rw [this]
      exact ⟨a2h I b.1 (sh.view I) ep, dp⟩
    · have hm2 : ∀ b ∈ (xs.zip ws).mergeSort (PySem.W.dataLe false fun b => encD b.1), Sh Z S b.2 b.1 := fun b hb => hm b ((List.mergeSort_perm _ _).mem_iff.mp hb)
      have e2 : ((xs.zip ws).mergeSort (PySem.W.dataLe false fun b => encD b.1)).map (·.1) = xs.mergeSort a3g := (List.map_mergeSort (r := PySem.W.dataLe false fun b : D × V => encD b.1) (f := fun b : D × V => b.1) (s := a3g) (l := xs.zip ws) fun _ _ _ _ => rfl).trans (by rw [z1])
      refine a1d g I ?_ (fun d hd => ?_) hp'
      · rw [← e2]; exact a5e hm2
      · exact z9 hp d ((List.mergeSort_perm _ _).mem_iff.mp hd)
  · split at e
    · rename_i r hr
      exact .inr (.inl (ap6 H S vs _ d Q I hv (hr.trans e) g))
    · exact .inr (.inr (b07 H S vs _ d Q I hv e g))
theorem av5 {o : Bool} {ns : List Int} : a5v [.lst o (ns.map .int)] = some (.lst true ((sortI ns).map .int)) := by
  unfold a5v al3 sortedI
  simp only [ints_map]
theorem af3 {o : Bool} {ds : List D} (hi : a2j ds = none) (h : a95 ds ∨ ah1 ds) : a5v [.lst o ds] = some (.lst true (ds.mergeSort a3g)) := by
  unfold a5v al3 sortedI
  simp only [hi]
  exact b0b h
end Dv
namespace Dv
open PySem L2 PySem.Spec PyProof.Rows
section
variable {Q : D → Env → Prop} {ρ ρ0 ρ1 ρ2 : Env} {i : Nat} {d d' d1 kd y : D} {P : Out → Prop}
def b6v (d k : D) : Option D := match keyD k with
  | some q => (match d with | .dic _ false ks vs => a0y ks vs q | _ => none)
  | none => none
def TPt (i : Nat) (ko : Opd) (ρ : Env) (K : Opd → Env → Prop) : Prop := ∃ kd d x, look ρ ko = some kd ∧ ρ[i]? = some (some (.lent d)) ∧ b6v d kd = some x ∧ K (.vw x) ρ
def bs5 (chk : D → Bool) (F : D → D → Option D) (d k y : D) : Option D := match keyD k with
  | some q => (match d with
    | .dic true false ks vs => (match a0y ks vs q with
      | some sub => if chk sub = true ∧ owned sub = true then (match F sub y with | some s' => some (.dic true false ks (a4c ks vs q s')) | none => none) else none
      | none => none)
    | _ => none)
  | none => none
def bf7 (d k : D) (b : Addr) : D := match keyD k with
  | some q => (match d with | .dic o false ks vs => .dic o false ks (a4c ks vs q (.raw b)) | d => d)
  | none => d
def bm6 (chk : D → Bool) (F : D → D → Option D) (d d1 k y : D) : Option D := match keyD k with
  | some q => (match d, d1 with
    | .dic true false ks vs, .dic true false ks1 vs1 => (match a0y ks vs q, a0y ks1 vs1 q with
      | some sub, some _ => if chk sub = true ∧ owned sub = true then (match F sub y with | some s' => some (.dic true false ks1 (a4c ks1 vs1 q s')) | none => none) else none
      | _, _ => none)
    | _, _ => none)
  | none => none
def bs2 (chk : D → Bool) (F : D → D → Option D) (i : Nat) (f : M D) (ko : Opd) (ρ0 : Env) (K : Env → Prop) : Prop :=
  ∃ (kd d d1 d' y : D) (s : Slot) (ρ1 : Env), look ρ0 ko = some kd ∧ ρ0[i]? = some (some s) ∧ s.may = true ∧ s.d = d ∧ ρ1[i]? = some (some (s.sw d1)) ∧
    (∀ b, WE (f (ρ0.set i (some (s.sw (bf7 d kd b))))) fun y' ρ' => y' = y ∧ ρ' = ρ1.set i (some (s.sw (bf7 d1 kd b)))) ∧ owned y = false ∧ bm6 chk F d d1 kd y = some d' ∧ K (ρ1.set i (some (s.sw d')))
def TG2 (ρ : Env) (a b : Opd) (y : D) (K : D → Prop) : Prop := ∃ d q, look ρ a = some d ∧ look ρ b = some q ∧ owned y = false ∧ RO (ab7 d q y) K
theorem tg2 {a b : Opd} {q : D} {K : D → Prop} (h1 : look ρ a = some d) (h2 : look ρ b = some q) (hy : owned y = false) (k : RO (ab7 d q y) K) : TG2 ρ a b y K := ⟨d, q, h1, h2, hy, k⟩
def TDc (ρ : Env) (o : Opd) (K : Prop) : Prop := ∃ d, look ρ o = some d ∧ ae7 d = true ∧ K
theorem tdc {o : Opd} {K : Prop} (h : look ρ o = some d) (h2 : ae7 d = true) (k : K) : TDc ρ o K := ⟨d, h, h2, k⟩
theorem b3x {f g : M Opd} {h : M D} (k : WE (f ρ) fun a ρ1 => TDc ρ1 a (WE (g ρ1) fun b ρ2 => WE (h ρ2) fun y ρ3 => TG2 ρ3 a b y fun z => Q z ρ3)) : WE (aq3 f g h ρ) Q := by
  obtain ⟨a, ρ1, e1, d0, e0, hd, b, ρ2, e2, y, ρ3, e3, d, q, h1, h2, hy, z, h3, k⟩ := k
  refine a6w (ρ := ρ3) ?_ k
  unfold aq3 M.bind
  rw [e1]
  simp only [e0, if_pos hd, e2, e3, h1, h2, if_pos hy, h3]
  rfl
end
end Dv
namespace Dv
open PySem L2 PySem.Spec PyProof.Rows
def br5 (i : Nat) : M D := fun ρ => match ρ[i]? with
  | some (some (.own d)) => .ok d (ρ.set i none)
  | _ => .bad
def bt8 (f : M D) (g : M Opd) : M D := M.bind f fun d ρ => match d with
  | .dic true false ks vs => M.bind g (fun ko ρ1 => match look ρ1 ko with
    | some kd => (match keyD kd with
      | some q => (match a0y ks vs q with | some x => .ok x ρ1 | none => .bad)
      | none => .bad)
    | none => .bad) ρ
  | _ => .bad
section
variable {X : Cx} {Z : Zt} {W : WX}
end
section
variable {Q : D → Env → Prop} {ρ ρ1 : Env} {i : Nat} {d : D}
def TTk (ρ : Env) (d : D) (ko : Opd) (K : D → Prop) : Prop := ∃ kd x, look ρ ko = some kd ∧ b6v d kd = some x ∧ K x
def bn2 : D → Bool | .dic true false _ _ => true | _ => false
end
end Dv
namespace Dv
open PySem L2 PySem.Spec PyProof.Rows
def bw6 (i j : Nat) (g : M Opd) (c : C) : C := fun ρ => match ρ[i]? with
  | some (some s) => if s.may = true ∧ i ≠ j ∧ j < ρ.length then (match ptN i g (ρ.set i (some (.lent s.d))) with
    | .ok (.vw x) ρ1 => (match c (ρ1.set j (some (.lent x))) with
      | .rt d ρ' => if a0w (ρ'.set j none) i = true ∧ j < ρ1.length then .rt d ((ρ'.set j none).set i (some s)) else .bad
      | _ => .bad)
    | _ => .bad) else .bad
  | _ => .bad
section
variable {K : PySem.W.Frag} {Z : Zt} {O O' : Hold} {H : Hp} {S : Reg} {R : List Addr} {σ : L2.St} {ρ : Env} {j : Nat}
theorem Rel.clear (r : Rel K Z O H S R ρ σ) : Rel K Z O H S R (ρ.set j none) σ := by
  obtain ⟨As, r⟩ := r
  exact Rel.drop (A := As j) ⟨_, r.take (i := j)⟩
end
section
variable {X : Cx} {Z : Zt} {W : WX}
end
end Dv
namespace Dv
open PySem L2 PySem.Spec PyProof.Rows
def bx2 (i : Nat) (f : M Bool) : M Bool := fun ρ => match ρ[i]? with
  | some (some (.lent _)) => f ρ
  | some (some s) => (match f (ρ.set i (some (.lent s.d))) with
    | .ok y ρ' => if a0w ρ' i = true then .ok y (ρ'.set i (some s)) else .bad
    | _ => .bad)
  | _ => .bad
def ifT (t a b : M Bool) : M Bool := M.bind t fun k => if k = true then a else b
section
variable {X : Cx} {Z : Zt} {W : WX}
def bw2 (tc ta tb : TT) : TT := fun σ H Q => tc σ H fun k H1 => if k = true then ta σ H1 Q else tb σ H1 Q
end
section
variable {ρ ρ1 : Env} {i : Nat} {d : D} {Q : Bool → Env → Prop}
end
end Dv
namespace Dv
open PySem L2 PySem.Spec PyProof.Rows
def TO (d : D) (K : Prop) : Prop := owned d = false ∧ K
def TWd (d : D) (K : Prop) : Prop := bn2 d = true ∧ K
def TIt (o : Opd) (ρ : Env) (Q : List D → Env → Prop) : Prop := ∃ b ds, o = .vw (.lst b ds) ∧ a0d ds = true ∧ Q ds ρ
def TPg (ρ1 ρ2 : Env) (i : Nat) (k : D) (K : Env → Prop) : Prop := ∃ ds ρ', ρ1[i]?.isSome = true ∧ u6 ρ1 i ≠ none ∧ ρ2[i]? = some (some (.own (.pgs true ds))) ∧ (isTup k = true ∧ b1z k = true ∧ ds.all b1z = true ∧ ds.length < 1000000) ∧ ρ2.set i (some (.own (.pgs true (bf2 ds k)))) = ρ' ∧ K ρ'
section
variable {Q : D → Env → Prop} {ρ : Env} {i : Nat} {P : Out → Prop}
def TV1 (v : D) (K : Prop) : Prop := v = .bl true ∧ K
end
theorem au6 {xs : List D} {i : Int} {z : D} {K : D → Prop} (e : ixD (.tup xs) (.int i) = some z) (k : K z) : RO (ixD (.tup xs) (.int i)) K := ⟨z, e, k⟩
end Dv
namespace Dv
open PySem L2 PySem.Spec PyProof.Rows
end Dv
namespace Dv
open PySem L2 PySem.Spec PyProof.Rows
section
variable {X : Cx} {Z : Zt} {W : WX}
end
end Dv
namespace Dv
open PySem L2 PySem.Spec PyProof.Rows
def b1g (ρ ρ' : Env) (i : Nat) : Prop := ∀ j d, j ≠ i → ρ'[j]? = some (some (.lent d)) → ρ[j]? = some (some (.lent d))
open Classical in
noncomputable def bb5 (i : Nat) (f : M D) : M D := fun ρ => match ρ[i]? with
  | some (some s) => if s.may = true then (match f (ρ.set i (some (.lent s.d))) with
    | .ok y ρ' => if (∃ d', ρ'[i]? = some (some (.lent d'))) ∧ b1g ρ ρ' i then .ok y (ρ'.set i (some s)) else .bad
    | _ => .bad) else .bad
  | _ => .bad
noncomputable def br9 (i : Nat) (f : M D) : M D := fun ρ => match u6 ρ i with
  | some (.lent _) => f ρ
  | _ => bb5 i f ρ
section
variable {K : PySem.W.Frag} {Z : Zt} {O : Hold} {H H' : Hp} {S S' : Reg} {R R' A : List Addr} {σ σ' : L2.St} {ρ ρ' : Env} {i : Nat} {s : Slot} {v : V}
end
section
variable {X : Cx} {Z : Zt} {W : WX}
end
section
variable {Q : D → Env → Prop} {ρ ρ1 : Env} {i : Nat} {d : D}
def TSm (ρ' ρ1 : Env) (K : Prop) : Prop := ρ' = ρ1 ∧ K
end
end Dv
namespace Dv
open PySem L2 PySem.Spec PyProof.Rows
def bv1 (n : Nat) (gs : List D → C) (f : M (List Opd)) : C := fun ρ => match f ρ with
  | .ok os ρ' => (match vas os with | some ds => if ds.length = n ∧ ds.length ≤ 1000 then gs ds ρ' else .bad | none => .bad)
  | .ex x ρ' => .ex x ρ'
  | .bad => .bad
def SGo (X : Cx) (Z : Zt) (W : WX) (tg : List Expr) (g : List D → C) : Prop :=
  ∃ t, PGs X tg t ∧ ∀ O H S R ρ σ ds vs A q, Rel X.K Z O H S (A ++ R) ρ σ → OwnL Z H S ds vs A → A.Nodup → (∀ b ∈ A, b ∉ R ∧ b ∉ O.L) → SPost X.K Z O W H S R (a4e q) (g ds ρ) → t vs σ H q
section
variable {X : Cx} {Z : Zt} {W : WX}
end
end Dv
namespace Dv
open PySem L2 PySem.Spec PyProof.Rows
def bp2 (i : Nat) (q : DK) (c : C) : C := fun ρ => match ρ[i]? with
  | some (some s) => if s.may = true then (match s.d with
    | .dic true false ks vs => (match a0y ks vs q with
      | some (.dic true false ks2 vs2) => if a0d vs2 = true then (match c (ρ.set i (some (.lent (.dic true false ks (a4c ks vs q (.dicL ks2 vs2)))))) with
        | .nx ρ' => if a0w ρ' i = true then .nx (ρ'.set i (some s)) else .bad
        | .rt d ρ' => if a0w ρ' i = true then .rt d (ρ'.set i (some s)) else .bad
        | _ => .bad) else .bad
      | _ => .bad)
    | _ => .bad) else .bad
  | _ => .bad
def itK (i : Nat) (g : M Opd) : M (List D) := M.bind (ptN i g) fun o ρ => match o with
  | .vw (.dicL ks _) => (match ao8 ks with | some ds => .ok ds ρ | none => .bad)
  | _ => .bad
section
variable {X : Cx} {Z : Zt} {W : WX}
end
section
variable {ρ : Env} {i : Nat} {q : DK} {P : Out → Prop}
def TIk (o : Opd) (ρ : Env) (Q : List D → Env → Prop) : Prop := ∃ ks vs ds, o = .vw (.dicL ks vs) ∧ ao8 ks = some ds ∧ Q ds ρ
end
end Dv
namespace Dv
open PySem L2 PySem.Spec PyProof.Rows
def bu2 (f g : M D) : M D := M.bind f fun d => M.bind g fun e ρ => match d, e with
  | .int a, .int b => if (a ≤ 1000000 ∧ -1000000 ≤ a) ∧ b ≤ 1000000 ∧ -1000000 ≤ b then .ok (.tup (rg a b)) ρ else .bad
  | _, _ => .bad
section
variable {X : Cx} {Z : Zt} {W : WX}
end
end Dv
namespace Dv
open PySem L2 PySem.Spec PyProof.Rows
def bi4 (K : PySem.W.Frag) : List V → Hp → VK → Prop := fun xs H Q => ∃ (a : Addr) (ps : List Addr) (kb : List (Key × V)), xs = [.ref a] ∧ SqL K H a (ps.map V.ref) ∧
  Paired (fun p (x : Key × V) => TpA H p [kV x.1, x.2]) ps kb ∧ (kb.map (·.1)).Nodup ∧ ∀ d, H d = none → Q (.ref d) (upd H d (.dK kb))
theorem ad3 {X : Cx} {pins : List (Addr × Obj)} {σ : L2.St} {H : Hp} {s : Shared} (I : Inv X pins σ H s) : ∀ {ps : List Addr} {kb : List (Key × V)}, Paired (fun p (x : Key × V) => TpA H p [kV x.1, x.2]) ps kb →
    ∃ prs : List (Value × Value), prs.length = kb.length ∧ (∀ (j : Nat) (p : Value × Value), prs[j]? = some p → PairAt s.heap ((ps[j]?).getD 0) p.1 p.2) ∧ ∃ vs : List (Key × Value), KV kb vs ∧ vs.length = prs.length ∧ ∀ (j : Nat) (p : Value × Value), prs[j]? = some p → ∃ k, vs[j]? = some (k, p.2) ∧ (mixKind X.prog X.w).is k p.1 = true
  | _, _, .nil => ⟨[], rfl, fun j p e => (nomatch e), [], .nil, rfl, fun j p e => (nomatch e)⟩
  | _, _, .cons (a := p) (b := x) h t => by
    obtain ⟨prs, e1, e2, vs, e3, e4, e5⟩ := ad3 I t
    obtain ⟨its2, r2, ht, _⟩ := I.tuple h.sq
    obtain ⟨y1, y2, ey, ry1, ry2⟩ := vals2 r2
    subst ey
    refine ⟨(y1, y2) :: prs, by simp [e1], fun j q e => ?_, (x.1, y2) :: vs, .cons ⟨rfl, ry2⟩ e3, by simp [e4], fun j q e => ?_⟩
    · cases j with
      | zero =>
        cases e
        obtain ⟨ob, g1, g2, g3⟩ := ht
        exact .inl ⟨ob, g1, g2, g3⟩
      | succ j => exact e2 j q e
    · cases j with
      | zero => cases e; exact ⟨x.1, rfl, kV_is ry1⟩
      | succ j => exact e5 j q e
def a3t : List D → Option (List (Key × D))
  | [] => some []
  | .tup [.int k, d] :: r => if owned d = true then none else (match a3t r with | some q => some ((.inl k, d) :: q) | none => none)
  | .tup [.str k, d] :: r => if owned d = true then none else (match a3t r with | some q => some ((.inr k, d) :: q) | none => none)
  | _ => none
def dcK : List D → Option D
  | [.lst _ ds] => match a3t ds with
    | some ps => if (ps.map (·.1)).Nodup then some (.dic true false (ps.map fun p => .k p.1) (ps.map (·.2))) else none
    | none => none
  | _ => none
section
variable {X : Cx} {K : PySem.W.Frag} {Z : Zt} {W : WX} {H : Hp} {S : Reg}
theorem a8d (I : InvS K Z H S) : ∀ {ds : List D} {ws : List V} {ks : List (Key × D)}, (∀ d ∈ ds, owned d = false) → ShL Z S ws ds → a3t ds = some ks →
    ∃ (ps : List Addr) (kb : List (Key × V)), ws = ps.map V.ref ∧ kb.map (·.1) = ks.map (·.1) ∧ Paired (fun p (x : Key × V) => TpA H p [kV x.1, x.2]) ps kb ∧ ShL Z S (kb.map (·.2)) (ks.map (·.2)) ∧ ∀ p ∈ ks, owned p.2 = false
  | [], ws, ks, _, h, e => by cases h; cases e; exact ⟨[], [], rfl, rfl, .nil, .nil, fun _ z => nomatch z⟩
  | d :: r, _, ks, ho, h, e => by
    cases h with
    | cons h1 h2 =>
      have ho2 : ∀ d ∈ r, owned d = false := fun d hd => ho d (List.mem_cons_of_mem _ hd)
      unfold a3t at e
      split at e
      · cases ‹_ :: _ = []›
      · rename_i k d' r' hh
        cases hh
        split at e
        · cases e
        · rename_i hn
          split at e
          · rename_i q e2
            cases e
            obtain ⟨p, vs, rfl, tp, sv⟩ := I.tup h1
            cases sv with
            | cons s1 s2 =>
              cases s2 with
              | cons s2 s3 =>
                cases s3
                obtain rfl : _ = V.int k := s1
                obtain ⟨ps, kb, g1, g2, g3, g4, g5⟩ := a8d I ho2 h2 e2
                subst g1
                refine ⟨p :: ps, (.inl k, _) :: kb, rfl, by rw [List.map_cons, g2]; rfl, .cons tp g3, .cons s2 g4, fun x hx => ?_⟩
                rcases List.mem_cons.mp hx with rfl | hx
                · simpa using hn
                · exact g5 x hx
          · cases e
      · rename_i k d' r' hh
        cases hh
        split at e
        · cases e
        · rename_i hn
          split at e
          · rename_i q e2
            cases e
            obtain ⟨p, vs, rfl, tp, sv⟩ := I.tup h1
            cases sv with
            | cons s1 s2 =>
              cases s2 with
              | cons s2 s3 =>
                cases s3
                obtain rfl : _ = V.str k := s1
                obtain ⟨ps, kb, g1, g2, g3, g4, g5⟩ := a8d I ho2 h2 e2
                subst g1
                refine ⟨p :: ps, (.inr k, _) :: kb, rfl, by rw [List.map_cons, g2]; rfl, .cons tp g3, .cons s2 g4, fun x hx => ?_⟩
                rcases List.mem_cons.mp hx with rfl | hx
                · simpa using hn
                · exact g5 x hx
          · cases e
      · cases e
theorem a5l : ∀ {ds : List D} {ks : List (Key × D)}, a3t ds = some ks → ∀ d ∈ ds, owned d = false
  | [], _, _, _, h => nomatch h
  | x :: r, ks, e, d, hd => by
    unfold a3t at e
    split at e
    · cases ‹_ :: _ = []›
    · rename_i hh
      cases hh
      split at e
      · cases e
      · split at e
        · rename_i e2
          rcases List.mem_cons.mp hd with rfl | hd
          · rfl
          · exact a5l e2 d hd
        · cases e
    · rename_i hh
      cases hh
      split at e
      · cases e
      · split at e
        · rename_i e2
          rcases List.mem_cons.mp hd with rfl | hd
          · rfl
          · exact a5l e2 d hd
        · cases e
    · cases e
end
end Dv
namespace Dv
open PySem L2 PySem.Spec PyProof.Rows
def bv4 (f : M (List Opd)) : M D := M.bind f fun os ρ => match vas os with | some ds => if ds.length ≤ 1000 then .ok (.otp ds) ρ else .bad | none => .bad
def bt6 (n : Nat) (gs : List D → C) : D → C
  | .otp ds => fun ρ => if ds.length = n then gs ds ρ else .bad
  | _ => fun _ => .bad
section
variable {X : Cx} {Z : Zt} {W : WX} {es : List Expr} {f : M (List Opd)} {pos : Pos}
end
section
variable {Q : D → Env → Prop} {P : Out → Prop} {ρ : Env}
end
def b9g : V → List V → Hp → VK → Prop := fun x vs H Q => ∃ l b xs zs, x = .ref l ∧ vs = [.ref b] ∧ H l = some (.lst xs) ∧ TpA H b zs ∧ xs.length + zs.length ≤ sizeLine ∧ Q .non (upd H l (.lst (xs ++ zs)))
def bo0 (i : Nat) (f : M D) : M D := fun ρ => match u6 ρ i with
  | some s0 => if a7h s0.d = true then M.bind f (fun y ρ1 => match u6 ρ1 i with
    | some s => if s.may = true then (match s.d, y with
      | .lst true ds, .tup es => if ds.length + es.length < 1000000 ∧ a0d ds = true then .ok .non (ρ1.set i (some (s.sw (.lst true (ds ++ es))))) else .bad
      | _, _ => .bad) else .bad
    | none => .bad) ρ else .bad
  | none => .bad
section
variable {X : Cx} {Z : Zt} {W : WX}
end
section
variable {Q : D → Env → Prop} {ρ : Env} {i : Nat}
end
end Dv
namespace Dv
open PySem L2 PySem.Spec PyProof.Rows
section
variable {P : Program} {w : World} {A : Around} {E : Value → Shared → Prop} {s : Shared} {a : Addr}
end
end Dv
namespace Dv
open PySem L2 PySem.Spec PyProof.Rows
def b5u (K : PySem.W.Frag) (ta : TE) : TE := fun σ H Q => ta σ H fun x H1 => ∃ (l : Addr) (ns : List Str), x = V.ref l ∧ SqL K H1 l (ns.map V.str) ∧ ns.length < 4000 ∧ ∀ (ms : List Str) p, ms.Pairwise ltS → (∀ k, k ∈ ms ↔ k ∈ ns) → H1 p = none → Q (.ref p) (upd H1 p (.lst (ms.map V.str)))
def ap3 : D → Option D
  | .lst _ ds => (match a7k ds with | some ns => if ns.length < 4000 then some (.lst true ((a4w ns).map .str)) else none | none => none)
  | _ => none
def bv2 (f : M Opd) : M D := M.bind f fun o ρ => match look ρ o with | some d => a6f (ap3 d) ρ | none => .bad
section
variable {X : Cx} {Z : Zt} {W : WX}
end
end Dv
namespace Dv
open PySem L2 PySem.Spec PyProof.Rows
section
variable {P : Program} {w : World} {A : Around} {E : Value → Shared → Prop} {s : Shared}
def a82 (P : Program) (w : World) (n : Nat) (s : Shared) (v : Value) : Prop := ∀ (A : Around) (E : Value → Shared → Prop) (Q : Bool → Shared → Prop), (∀ b, Q b s) → wpAny (model P w) A (hashByValue n v) Q E s
def a89 (P : Program) (w : World) (n : Nat) (s : Shared) (v : Value) : Prop := ∀ (A : Around) (E : Value → Shared → Prop) (Q : Bool → Shared → Prop), Q false s → wpAny (model P w) A (ofAClassStatement n v) Q E s
theorem ag4 {n m : Nat} {a : Addr} {o : Obj} {vs : Array Value} (g : s.heap.get? a = some o) (c : o.cls = .type "tuple") (d : o.data = .seq vs m) (al : ∀ v ∈ vs.toList, a82 P w n s v) : a82 P w (n + 1) s (.ref a) := by
  intro A E Q k
  have ty : s.TypeIs (.ref a) "tuple" := ⟨o, g, c⟩
  unfold hashByValue
  refine wpAny_bind (wpAny_specialOf ty F.slot_tuple_hash.lookup ?_)
  show wpAny (model P w) A (seqItems? (.ref a) >>= _) Q E s
  refine wpAny_bind (wpAny_seqItems g d (wpAny_bind ?_))
  show wpAny (model P w) A (forIn vs _ _) _ E s
  rw [← Array.forIn_toList]
  refine wpAny_forIn_list _ (fun left acc s1 => acc.1 = none ∧ s1 = s ∧ ∀ v ∈ left, a82 P w n s v) _ ?turn ?fin _ _ ⟨rfl, rfl, al⟩
  case turn =>
    rintro v left acc s1 ⟨e, rfl, all⟩
    refine wpAny_bind (all v List.mem_cons_self A E _ fun b => ?_)
    cases b with
    | false => simp only [Bool.not_false, if_true]; exact wpAny_pure (wpAny_pure (k false))
    | true => simp only [Bool.not_true, Bool.false_eq_true, if_false]; exact wpAny_pure ⟨rfl, rfl, fun u hu => all u (List.mem_cons_of_mem v hu)⟩
  case fin =>
    rintro ⟨r1, r2⟩ s1 ⟨e, rfl, _⟩
    cases (show r1 = none from e)
    exact wpAny_pure (k true)
mutual
theorem b4i : ∀ (k : NestedKey) (v : Value) (n : Nat) (s : Shared), NestedIs s.heap k v → a82 P w n s v
  | .none, _, n, s, x => by cases x; intro A E Q h; cases n <;> exact wpAny_pure (h true)
  | .num i, _, n, s, x => by cases x <;> (intro A E Q h; cases n <;> exact wpAny_pure (h true))
  | .text y, _, n, s, x => by cases x; intro A E Q h; cases n <;> exact wpAny_pure (h false)
  | .tup ks, _, 0, s, x => by cases x; intro A E Q h; exact wpAny_pure (h false)
  | .tup ks, _, n + 1, s, x => by
    cases x with
    | tup g c d r => exact ag4 g c d (aj4 ks _ n s r)
theorem aj4 : ∀ (ks : List NestedKey) (vs : List Value) (n : Nat) (s : Shared), NestedAll s.heap ks vs → ∀ v ∈ vs, a82 P w n s v
  | [], _, n, s, x, v, hv => by cases x; cases hv
  | k :: ks, _, n, s, x, v, hv => by
    cases x with
    | cons x1 x2 =>
      rcases List.mem_cons.mp hv with e | hv
      · rw [e]; exact b4i k _ n s x1
      · exact aj4 ks _ n s x2 v hv
end
theorem ae1 {n m : Nat} {a : Addr} {o : Obj} {vs : Array Value} (g : s.heap.get? a = some o) (c : o.cls = .type "tuple") (d : o.data = .seq vs m) (al : ∀ v ∈ vs.toList, a89 P w n s v) : a89 P w (n + 1) s (.ref a) := by
  intro A E Q k
  have ty : s.TypeIs (.ref a) "tuple" := ⟨o, g, c⟩
  unfold ofAClassStatement
  refine wpAny_bind (wpAny_typeOf ty ?_)
  dsimp only
  have e : (("tuple" : String) == "tuple") = true := by decide
  simp only [e, if_true, Bool.not_true, Bool.false_eq_true, if_false]
  try refine wpAny_bind (wpAny_pure ?_)
  try simp only [Bool.not_true, Bool.false_eq_true, if_false]
  show wpAny (model P w) A (seqItems? (.ref a) >>= _) Q E s
  refine wpAny_bind (wpAny_seqItems g d ?_)
  dsimp only
  refine wpAny_bind ?_
  show wpAny (model P w) A (forIn vs _ _) _ E s
  rw [← Array.forIn_toList]
  refine wpAny_forIn_list _ (fun left acc s1 => acc.1 = none ∧ s1 = s ∧ ∀ v ∈ left, a89 P w n s v) _ ?turn ?fin _ _ ⟨rfl, rfl, al⟩
  case turn =>
    rintro v left acc s1 ⟨e, rfl, all⟩
    refine wpAny_bind (all v List.mem_cons_self A E _ ?_)
    simp only [Bool.false_eq_true, if_false]
    exact wpAny_pure ⟨rfl, rfl, fun u hu => all u (List.mem_cons_of_mem v hu)⟩
  case fin =>
    rintro ⟨r1, r2⟩ s1 ⟨e, rfl, _⟩
    cases (show r1 = none from e)
    exact wpAny_pure k
mutual
theorem b3y : ∀ (k : NestedKey) (v : Value) (n : Nat) (s : Shared), NestedIs s.heap k v → k.depth ≤ n → a89 P w n s v
  | .none, _, n, s, x, _ => by cases x; intro A E Q h; cases n <;> exact wpAny_pure h
  | .num i, _, n, s, x, _ => by cases x <;> (intro A E Q h; cases n <;> exact wpAny_pure h)
  | .text y, _, n, s, x, _ => by cases x; intro A E Q h; cases n <;> exact wpAny_pure h
  | .tup ks, _, 0, s, x, z => by simp only [NestedKey.depth] at z; omega
  | .tup ks, _, n + 1, s, x, z => by
    cases x with
    | tup g c d r => exact ae1 g c d (aj6 ks _ n s r (by simp only [NestedKey.depth] at z; omega))
theorem aj6 : ∀ (ks : List NestedKey) (vs : List Value) (n : Nat) (s : Shared), NestedAll s.heap ks vs → NestedKey.depthAll ks ≤ n → ∀ v ∈ vs, a89 P w n s v
  | [], _, n, s, x, _, v, hv => by cases x; cases hv
  | k :: ks, _, n, s, x, z, v, hv => by
    simp only [NestedKey.depthAll] at z
    cases x with
    | cons x1 x2 =>
      rcases List.mem_cons.mp hv with e | hv
      · rw [e]; exact b3y k _ n s x1 (by omega)
      · exact aj6 ks _ n s x2 (by omega) v hv
end
def KeyAt (h : Heap) (k : NestedKey) (a : Addr) : Prop := NestedIs h k (.ref a) ∧ k.depth ≤ 8
abbrev NL := List (Addr × NestedKey)
def hs (w : World) (L : NL) : List Int := L.map fun p => p.2.hash w
def b9j (w : World) (L : NL) : List (Int × Value) := L.map fun p => (p.2.hash w, Value.ref p.1)
structure SetN (w : World) (h : Heap) (a : Addr) (L : NL) (es : Array (Int × Value)) (ep : Nat) (t : SetTable) : Prop where
  ob : ∃ o, h.get? a = some o ∧ o.ExactSet ∧ o.data = .set es ep t
  rows : es.toList = b9j w L
  tab : TabOk t (hs w L)
  nd : (L.map (·.2)).Nodup
  keys : ∀ p ∈ L, KeyAt h p.2 p.1
  led : w.params.followText "set-order" = true ∨ t.led = true
  room : L.length * 5 < t.mask * 3
  few : L.length < 64
variable {a : Addr} {L : NL} {es : Array (Int × Value)} {ep : Nat} {t : SetTable}
abbrev bg9 (t : SetTable) (h : Int) (c : Nat) : SetTable.Probe := nth t.mask (runAt t.mask (SetTable.bits h % (t.mask + 1)) (SetTable.bits h)) c
end
end Dv
namespace Dv
open PySem L2 PySem.Spec PyProof.Rows
section
variable {P : Program} {w : World} {A : Around} {E : Value → Shared → Prop} {s : Shared}
variable {a : Addr} {L : NL} {es : Array (Int × Value)} {ep : Nat} {t : SetTable}
structure Have (ks : NL) (i : Nat) (L : NL) : Prop where
  sub : ∀ p ∈ L, p ∈ ks.take i
  all : ∀ p ∈ ks.take i, p.2 ∈ L.map (·.2)
  len : L.length ≤ i
theorem b0l {α : Type} {l : List α} {i : Nat} {x : α} (h : l[i]? = some x) : l.take (i + 1) = l.take i ++ [x] := by
  rw [List.take_succ, h]; rfl
theorem Have.step {ks L L2 : NL} {i : Nat} {x : Addr × NestedKey} (g : Have ks i L) (h : ks[i]? = some x) (c1 : x.2 ∈ L.map (·.2) → L2 = L) (c2 : x.2 ∉ L.map (·.2) → L2.Perm (x :: L)) : Have ks (i + 1) L2 := by
  have e := b0l h
  by_cases z : x.2 ∈ L.map (·.2)
  · rw [c1 z]
    refine ⟨fun p hp => by rw [e]; exact List.mem_append_left _ (g.sub p hp), fun p hp => ?_, Nat.le_succ_of_le g.len⟩
    rw [e] at hp
    rcases List.mem_append.mp hp with y | y
    · exact g.all p y
    · rw [List.mem_singleton.mp y]; exact z
  · have pm := c2 z
    refine ⟨fun p hp => ?_, fun p hp => ?_, by rw [pm.length_eq, List.length_cons]; exact Nat.succ_le_succ g.len⟩
    · rw [e]
      rcases List.mem_cons.mp (pm.mem_iff.mp hp) with y | y
      · rw [y]; exact List.mem_append_right _ List.mem_cons_self
      · exact List.mem_append_left _ (g.sub p y)
    · rw [(pm.map (·.2)).mem_iff, List.map_cons]
      rw [e] at hp
      rcases List.mem_append.mp hp with y | y
      · exact List.mem_cons_of_mem _ (g.all p y)
      · rw [List.mem_singleton.mp y]; exact List.mem_cons_self
end
end Dv
namespace Dv
open PySem L2 PySem.Spec PyProof.Rows
section
variable {P : Program} {w : World} {A : Around} {E : Value → Shared → Prop} {s : Shared}
end
mutual
theorem b8w : ∀ (d e : D) (k : NestedKey), nkD d = some k → nkD e = some k → d = e
  | .non, e, k, h1, h2 => by cases h1; cases e <;> first | rfl | (simp [nkD] at h2; done) | (unfold nkD at h2; split at h2 <;> cases h2)
  | .int i, e, k, h1, h2 => by cases h1; cases e <;> first | (cases h2; rfl) | (simp [nkD] at h2; done) | (unfold nkD at h2; split at h2 <;> cases h2)
  | .str i, e, k, h1, h2 => by cases h1; cases e <;> first | (cases h2; rfl) | (simp [nkD] at h2; done) | (unfold nkD at h2; split at h2 <;> cases h2)
  | .tup xs, e, k, h1, h2 => by
    unfold nkD at h1
    cases e1 : a8p xs with
    | none => rw [e1] at h1; cases h1
    | some ks =>
      rw [e1] at h1
      cases h1
      cases e with
      | tup ys =>
        unfold nkD at h2
        cases e2 : a8p ys with
        | none => rw [e2] at h2; cases h2
        | some js =>
          rw [e2] at h2
          cases h2
          rw [aw6 xs ys ks e1 e2]
      | _ => first | (cases h2; done) | (simp [nkD] at h2; done)
  | .bl _, _, _, h1, _ => by cases h1
  | .lst _ _, _, _, h1, _ => by cases h1
  | .dic _ _ _ _, _, _, h1, _ => by cases h1
  | .scr _, _, _, h1, _ => by cases h1
  | .ty _, _, _, h1, _ => by cases h1
  | .raw _, _, _, h1, _ => by cases h1
  | .pr _, _, _, h1, _ => by cases h1
  | .exc _ _ _, _, _, h1, _ => by cases h1
  | .xds _ _, _, _, h1, _ => by cases h1
  | .obj _ _ _ _, _, _, h1, _ => by cases h1
  | .pgs _ _, _, _, h1, _ => by cases h1
  | .dicL _ _, _, _, h1, _ => by cases h1
  | .otp _, _, _, h1, _ => by cases h1
theorem aw6 : ∀ (ds es : List D) (ks : List NestedKey), a8p ds = some ks → a8p es = some ks → ds = es
  | [], [], _, _, _ => rfl
  | [], e :: es, ks, h1, h2 => by
    cases h1
    unfold a8p at h2
    split at h2 <;> cases h2
  | d :: ds, [], ks, h1, h2 => by
    cases h2
    unfold a8p at h1
    split at h1 <;> cases h1
  | d :: ds, e :: es, ks, h1, h2 => by
    unfold a8p at h1 h2
    cases a1 : nkD d with
    | none => rw [a1] at h1; cases h1
    | some k =>
      cases a2 : a8p ds with
      | none => rw [a1, a2] at h1; cases h1
      | some js =>
        rw [a1, a2] at h1
        cases h1
        cases b1 : nkD e with
        | none => rw [b1] at h2; cases h2
        | some k2 =>
          cases b2 : a8p es with
          | none => rw [b1, b2] at h2; cases h2
          | some js2 =>
            rw [b1, b2] at h2
            cases h2
            rw [b8w d e k a1 b1, aw6 ds es js a2 b2]
end
section
variable {X : Cx}
def b8u (X : Cx) (ta : TE) : TE := fun σ H Q => ta σ H fun x H1 => ∃ (l : Addr) (bs : List (D × V)), x = V.ref l ∧ SqT X.K H1 l (bs.map (·.2)) ∧ bs.length < 64 ∧
  (∀ pins σ s, Inv X pins σ H1 s → ∀ b ∈ bs, ∃ c k, b.2 = V.ref c ∧ nkD b.1 = some k ∧ KeyAt s.heap k c) ∧
  (∀ b ∈ bs, Dp X.K H1 b.2 (encD b.1) ∧ (encD b.1).depth ≤ 60) ∧ PySem.W.CmbL (bs.map fun b => encD b.1) ∧
  ∀ (cs : List (D × V)) p, (∀ b ∈ cs, b ∈ bs) → (cs.map (·.1)).Nodup → (∀ b ∈ bs, b.1 ∈ cs.map (·.1)) → H1 p = none → Q (.ref p) (upd H1 p (.lst ((cs.mergeSort (PySem.W.dataLe false fun b => encD b.1)).map (·.2))))
end
end Dv
namespace Dv
open PySem L2 PySem.Spec PyProof.Rows
open Classical in
noncomputable def b9a : List D → List D
  | [] => []
  | d :: ds => if d ∈ b9a ds then b9a ds else d :: b9a ds
def b5j (ds : List D) : Prop := a0d ds = true ∧ ds.length < 64 ∧ (∀ d ∈ ds, b1z d = true ∧ isTup d = true) ∧ (∀ d ∈ ds, ∃ p, toPy d = some p ∧ p.depth ≤ 60) ∧ PySem.W.CmbL (ds.map encD) ∧ ∀ a ∈ ds, ∀ b ∈ ds, a3g a b = true → a3g b a = true → a = b
open Classical in
noncomputable def b18 : D → Option D
  | .tup ds => if b5j ds then some (.lst true ((b9a ds).mergeSort a3g)) else none
  | _ => none
theorem leD2_total : PySem.W.TotalLe a3g := PySem.W.sortLe_total (listOrd itemOrd) false fun d => PySem.W.keyToks (encD d)
noncomputable def bx0 (f : M Opd) : M D := M.bind f fun o ρ => match look ρ o with | some d => a6f (b18 d) ρ | none => .bad
section
variable {X : Cx} {Z : Zt} {W : WX}
end
end Dv
namespace Dv
open PySem L2 PySem.Spec PyProof.Rows PpSet
section
variable {P : Program} {w : World} {A : Around} {E : Value → Shared → Prop} {s : Shared}
end
section
variable {P : Program} {w : World} {A : Around} {E : Value → Shared → Prop} {s : Shared} {a : Addr}
def leB : Bool → Bool → Bool := PySem.W.dataLe false fun b : Bool => PyData.bool b
end
def upB (bs : List Bool) : List Bool := (if false ∈ bs then [false] else []) ++ (if true ∈ bs then [true] else [])
def b6x (K : PySem.W.Frag) (ta : TE) : TE := fun σ H Q => ta σ H fun x H1 => ∃ (l : Addr) (ns : List Bool), x = V.ref l ∧ SqL K H1 l (ns.map V.bl) ∧ ns.length < 4000 ∧ ∀ p, H1 p = none → Q (.ref p) (upd H1 p (.lst ((upB ns).map V.bl)))
def ar7 : D → Option D
  | .lst _ ds => (match al2 ds with | some ns => if ns.length < 4000 then some (.lst true ((upB ns).map .bl)) else none | none => none)
  | _ => none
def by9 (f : M Opd) : M D := M.bind f fun o ρ => match look ρ o with | some d => a6f (ar7 d) ρ | none => .bad
section
variable {X : Cx} {Z : Zt} {W : WX}
end
end Dv
namespace L2
open PySem
def bk4 (x : V) (H : Hp) (Q : VK) : Prop := ∃ (a : Addr) (kvs : List (Key × V)) (ns : List Int), x = V.ref a ∧ Rd H a (.dK kvs) ∧ kvs.map (·.2) = ns.map V.int ∧ ns.length ≤ 1000 ∧ (∀ n ∈ ns, n.natAbs < 2 ^ 50) ∧ Q (.int ns.sum) H
section
variable {X : Cx} {o : Expr} {p pos apos mpos : Pos} {td : TE}
end
end L2
namespace Dv
open PySem L2 PySem.Spec PyProof.Rows
def bk2 : D → Option D
  | .dic _ false _ vs => (match a2j vs with
    | some ns => if ns.length ≤ 1000 ∧ ∀ n ∈ ns, n.natAbs < 2 ^ 50 then some (.int ns.sum) else none
    | none => none)
  | _ => none
section
variable {X : Cx} {Z : Zt} {W : WX} {o : Expr} {f : M Opd} {p pos apos mpos : Pos}
def by8 (i : Nat) : M (List D) := fun ρ => match ρ[i]? with
  | some (some (.lent (.dicL _ vs))) => if a0d vs = true then .ok vs ρ else .bad
  | _ => .bad
end
def bd8 (K : PySem.W.Frag) : List V → Hp → VK → Prop := fun xs H Q => ∃ (a : Addr) (ps : List Addr) (kb : List (Key × V)), xs = [.ref a] ∧ TpA H a (ps.map V.ref) ∧
  Paired (fun p (x : Key × V) => TpA H p [kV x.1, x.2]) ps kb ∧ (kb.map (·.1)).Nodup ∧ ∀ d, H d = none → Q (.ref d) (upd H d (.dK kb))
def by2 : List D → Option D
  | [.lst o ds] => dcK [.lst o ds]
  | [.tup ds] => dcK [.lst false ds]
  | _ => none
section
variable {K : PySem.W.Frag} {Z : Zt}
end
end Dv
namespace Dv
open PySem L2 PySem.Spec PyProof.Rows
def noX (m : List D → RF) : List D → RF := fun ds => match m ds with
  | .ex _ _ => .bad
  | r => r
section
variable {P : Program} {w : World} {K : PySem.W.Frag} {mg : Str → Option Value} {base : Heap} {k : Nat} {f : Addr} {fd : FuncData} {ps : List Str} {cl : Str → Option Addr} {io : List Bool} {m : List D → RF}
end
end Dv
namespace Dv
open PySem L2 PySem.Spec PyProof.Rows
def stP {κ α : Type} [DecidableEq κ] (kvs : List (κ × α)) (k : κ) (v : α) : List (κ × α) :=
  if kvs.any (fun x => decide (x.1 = k)) then kvs.map (fun x => if x.1 = k then (x.1, v) else x) else kvs ++ [(k, v)]
def mgP {κ α : Type} [DecidableEq κ] (kvs more : List (κ × α)) : List (κ × α) := more.foldl (fun acc x => stP acc x.1 x.2) kvs
section
variable {κ α β : Type} [DecidableEq κ]
theorem b3z {r : α → β → Prop} {xs : List (κ × α)} {ys : List (κ × β)} {k : κ} {v : α} {u : β} (h : Paired (fun (x : κ × α) (y : κ × β) => x.1 = y.1 ∧ r x.2 y.2) xs ys) (q : r v u) : Paired (fun (x : κ × α) (y : κ × β) => x.1 = y.1 ∧ r x.2 y.2) (stP xs k v) (stP ys k u) := by
  have an : xs.any (fun x => decide (x.1 = k)) = ys.any (fun x => decide (x.1 = k)) := by
    induction h with
    | nil => rfl
    | cons a t ih => rw [List.any_cons, List.any_cons, ih, a.1]
  have mp : Paired (fun (x : κ × α) (y : κ × β) => x.1 = y.1 ∧ r x.2 y.2) (xs.map fun x => if x.1 = k then (x.1, v) else x) (ys.map fun x => if x.1 = k then (x.1, u) else x) := by
    clear an
    induction h with
    | nil => exact .nil
    | cons a t ih =>
      rw [List.map_cons, List.map_cons]
      refine .cons ?_ ih
      rename_i x y _ _
      by_cases c : x.1 = k
      · rw [if_pos c, if_pos (a.1 ▸ c)]; exact ⟨a.1, q⟩
      · rw [if_neg c, if_neg (a.1 ▸ c)]; exact a
  have ap : Paired (fun (x : κ × α) (y : κ × β) => x.1 = y.1 ∧ r x.2 y.2) (xs ++ [(k, v)]) (ys ++ [(k, u)]) := by
    clear an mp
    induction h with
    | nil => exact .cons ⟨rfl, q⟩ .nil
    | cons a t ih => exact .cons a ih
  unfold stP
  rw [an]
  split
  · exact mp
  · exact ap
theorem ae2 {r : α → β → Prop} : ∀ {more : List (κ × α)} {more' : List (κ × β)} {xs : List (κ × α)} {ys : List (κ × β)}, Paired (fun (x : κ × α) (y : κ × β) => x.1 = y.1 ∧ r x.2 y.2) more more' → Paired (fun (x : κ × α) (y : κ × β) => x.1 = y.1 ∧ r x.2 y.2) xs ys →
    Paired (fun (x : κ × α) (y : κ × β) => x.1 = y.1 ∧ r x.2 y.2) (mgP xs more) (mgP ys more')
  | [], _, _, _, h, q => by cases h; exact q
  | x :: more, _, _, _, h, q => by
    cases h with
    | cons a t =>
      rename_i y _
      show Paired _ (mgP (stP _ x.1 x.2) more) (mgP (stP _ y.1 y.2) _)
      rw [← a.1]
      exact ae2 t (b3z q a.2)
theorem az8 (kvs : List (κ × α)) (k : κ) (v : α) : (stP kvs k v).map (·.1) = if k ∈ kvs.map (·.1) then kvs.map (·.1) else kvs.map (·.1) ++ [k] := by
  have e : (kvs.any fun x => decide (x.1 = k)) = true ↔ k ∈ kvs.map (·.1) := by
    rw [List.any_eq_true, List.mem_map]
    exact ⟨fun ⟨x, hx, h⟩ => ⟨x, hx, of_decide_eq_true h⟩, fun ⟨x, hx, h⟩ => ⟨x, hx, decide_eq_true h⟩⟩
  unfold stP
  split
  · rename_i h
    rw [if_pos (e.mp h), List.map_map]
    refine List.map_congr_left fun x _ => ?_
    show (if x.1 = k then (x.1, v) else x).1 = x.1
    split <;> rfl
  · rename_i h
    rw [if_neg fun z => h (e.mpr z), List.map_append]; rfl
theorem ac1 : ∀ (more : List (κ × α)) {kvs : List (κ × α)}, (kvs.map (·.1)).Nodup → ((mgP kvs more).map (·.1)).Nodup
  | [], _, h => h
  | x :: more, kvs, h => by
    refine ac1 more (kvs := stP kvs x.1 x.2) ?_
    rw [az8]
    split
    · exact h
    · rename_i hn
      exact List.nodup_append.mpr ⟨h, by simp, fun a ha b hb e => hn (by rw [List.mem_singleton.mp hb] at e; exact e ▸ ha)⟩
theorem b3r (more : List (κ × α)) (kvs : List (κ × α)) : (mgP kvs more).length ≤ kvs.length + more.length := by
  induction more generalizing kvs with
  | nil => exact Nat.le_refl _
  | cons x more ih =>
    have h1 := ih (stP kvs x.1 x.2)
    have h2 : (stP kvs x.1 x.2).length ≤ kvs.length + 1 := by
      unfold stP
      split
      · rw [List.length_map]; omega
      · rw [List.length_append]; exact Nat.le_refl _
    show (mgP (stP kvs x.1 x.2) more).length ≤ _
    rw [List.length_cons]; omega
theorem at5 {x : κ × α} : ∀ {more kvs : List (κ × α)}, x ∈ mgP kvs more → x ∈ kvs ∨ x ∈ more
  | [], _, h => .inl h
  | y :: more, kvs, h => by
    have h : x ∈ mgP (stP kvs y.1 y.2) more := h
    rcases at5 h with h | h
    · unfold stP at h
      split at h
      · obtain ⟨z, hz, e⟩ := List.mem_map.mp h
        by_cases c : z.1 = y.1
        · rw [if_pos c] at e
          subst e
          refine .inr ?_
          rw [c]
          exact List.mem_cons_self
        · rw [if_neg c] at e
          subst e
          exact .inl hz
      · rcases List.mem_append.mp h with h | h
        · exact .inl h
        · rw [List.mem_singleton.mp h]; exact .inr List.mem_cons_self
    · exact .inr (List.mem_cons_of_mem _ h)
theorem av8 : ∀ {more kvs : List (κ × α)}, (kvs.map (·.1) ++ more.map (·.1)).Nodup → mgP kvs more = kvs ++ more
  | [], kvs, _ => by rw [List.append_nil]; rfl
  | x :: more, kvs, h => by
    have hn : ¬ (kvs.any fun y => decide (y.1 = x.1)) = true := by
      rw [List.any_eq_true]
      rintro ⟨y, hy, e⟩
      exact (List.nodup_append.mp h).2.2 _ (List.mem_map.mpr ⟨y, hy, rfl⟩) _ (by simp) (of_decide_eq_true e)
    show mgP (stP kvs x.1 x.2) more = _
    unfold stP
    rw [if_neg hn, av8 (by rw [List.map_append, List.append_assoc]; exact h), List.append_assoc]; rfl
end
theorem ao3 (more : List (Key × Value)) : ∀ kvs, merged kvs more = mgP kvs more := by
  induction more with
  | nil => intro _; rfl
  | cons x more ih => intro kvs; exact ih (stored kvs x.1 x.2)
def ay1 (K : PySem.W.Frag) : List V → Hp → VK → Prop := fun xs H Q => ∃ (a : Addr) (ps : List Addr) (kb : List (Key × V)), xs = [.ref a] ∧ (SqL K H a (ps.map V.ref) ∨ TpA H a (ps.map V.ref)) ∧
  Paired (fun p (x : Key × V) => TpA H p [kV x.1, x.2]) ps kb ∧ ∀ d, H d = none → Q (.ref d) (upd H d (.dK (mgP [] kb)))
theorem a3c {X : Cx} (hcalm : X.calm = true) : CallR X (.type "dict") (ay1 X.K) := by
  intro pins s σ H xs us Q I r q
  obtain ⟨a, ps, kb, ex, hq, hp, q⟩ := q
  subst ex
  obtain ⟨u, eu, rx⟩ := vals1 r
  subst eu
  cases rx
  have hlen : ps.length = kb.length := u5 hp
  obtain ⟨prs, e1, e2, vs, e3, e4, e5⟩ := ad3 I hp
  have hitems : PairItems s.heap (ps.map Value.ref).toArray (fun j => (ps[j]?).getD 0) prs := by
    refine ⟨by simp [hlen, e1], fun j k v e => ⟨?_, e2 j (k, v) e⟩⟩
    have jl : j < ps.length := by
      have := (List.getElem?_eq_some_iff.mp e).1
      omega
    simp [List.getElem?_eq_getElem jl]
  have kvm : KV (mgP [] kb) (merged [] vs) := by
    rw [ao3]
    exact ae2 e3 .nil
  have ml := b3r kb []
  have hm : (s.heap.objs.size == sysModules) = false := beq_eq_false_iff_ne.mpr (Nat.ne_of_gt I.big)
  have fin : ∀ (n : Nat), ps.length ≤ sizeLine → ∀ (h' : Heap) (tk : Tok), h'.DictOf (mixKind X.prog X.w) s.heap.objs.size (merged [] vs) → (∀ b o, s.heap.get? b = some o → h'.get? b = some o) → EP X pins σ Q (.ref s.heap.objs.size) { s with heap := h', toks := tk } := fun _ hz h' tk hd' hk =>
    ⟨.ref s.heap.objs.size, _, I.laid (t' := tk) (fun b o e => hk b o e) (Nat.le_refl _) (dk_new (by simp at ml; omega) hm kvm hd'), rfl, q _ (I.hok.fresh (Nat.le_refl _))⟩
  rcases hq with hq | hq
  · obtain ⟨its, rv, pl, hz⟩ := I.list hq
    have ei := refs_at rv
    subst ei
    rw [List.length_map] at hz
    obtain ⟨o, n, ho, hc, hd, hdat⟩ := pl
    exact call_dict_pairs (knd := mixKind X.prog X.w) (kvs := vs) (PairArg.list (prog := X.prog) (w := X.w) a (ps.map Value.ref).toArray (fun j => (ps[j]?).getD 0) prs) (I.ok.hd hcalm) ⟨⟨o, n, ho, hc, hd, hdat⟩, hitems⟩ ⟨by omega, fun i key v e => e5 i (key, v) e⟩ (by omega) fun h' tk hd' hk => fin 0 hz h' tk hd' fun b o e => hk b o (by simp) e
  · obtain ⟨its, rv, pl, hz⟩ := I.tuple hq.sq
    have ei := refs_at rv
    subst ei
    rw [List.length_map] at hz
    obtain ⟨o, ho, hc, n, hdat⟩ := pl
    have hd : o.dict = none := by
      obtain ⟨o2, hd2, e2⟩ := hq
      have := (show ObjOk X.prog X.w _ _ _ (.frz o2 (.tup _)) from I.hok a _ e2).1
      rw [ho] at this
      cases this
      exact hd2
    exact call_dict_pairs (knd := mixKind X.prog X.w) (kvs := vs) (PairArg.tuple (prog := X.prog) (w := X.w) a (ps.map Value.ref).toArray (fun j => (ps[j]?).getD 0) prs) (I.ok.hd hcalm) ⟨⟨o, n, ho, hc, hd, hdat⟩, hitems⟩ ⟨by omega, fun i key v e => e5 i (key, v) e⟩ (by omega) fun h' tk hd' hk => fin 0 hz h' tk hd' fun b o e => hk b o (by simp) e
def dcM : List D → Option D
  | [.lst _ ds] => (match a3t ds with
    | some ps => some (.dic true false ((mgP [] ps).map fun p => .k p.1) ((mgP [] ps).map (·.2)))
    | none => none)
  | [.tup ds] => (match a3t ds with
    | some ps => some (.dic true false ((mgP [] ps).map fun p => .k p.1) ((mgP [] ps).map (·.2)))
    | none => none)
  | _ => none
section
variable {K : PySem.W.Frag} {Z : Zt}
theorem ad5 {S : Reg} : ∀ {kb : List (Key × V)} {ks : List (Key × D)}, kb.map (·.1) = ks.map (·.1) → ShL Z S (kb.map (·.2)) (ks.map (·.2)) → Paired (fun (x : Key × V) (y : Key × D) => x.1 = y.1 ∧ Sh Z S x.2 y.2) kb ks
  | [], [], _, _ => .nil
  | [], _ :: _, g, _ => by cases g
  | _ :: _, [], g, _ => by cases g
  | x :: kb, y :: ks, g, q => by
    rw [List.map_cons, List.map_cons] at g q
    injection g with h1 h2
    cases q with
    | cons s1 s2 => exact .cons ⟨h1, s1⟩ (ad5 h2 s2)
theorem a5m : a5r K Z (ay1 K) dcM := by
  intro H S vs ds d Q I hv e g
  have core : ∀ (a : Addr) (ws : List V) (xs : List D) (ks : List (Key × D)), (SqL K H a ws ∨ TpA H a ws) → a3t xs = some ks → ShL Z S ws xs → d = .dic true false ((mgP [] ks).map fun p => .k p.1) ((mgP [] ks).map (·.2)) → ay1 K [.ref a] H Q := by
    intro a ws xs ks ha hk hw ed
    subst ed
    have hpure := a5l hk
    obtain ⟨ps, kb, rfl, g2, g3, g4, g5⟩ := a8d I hpure hw hk
    refine ⟨a, ps, kb, rfl, ha, g3, fun p hp => ?_⟩
    have pr := ad5 g2 g4
    have mr := ae2 pr (xs := []) (ys := []) .nil
    have m2 : (mgP [] kb).map (·.1) = (mgP [] ks).map (·.1) := by
      clear pr
      generalize mgP [] kb = u at mr
      generalize mgP [] ks = z at mr
      induction mr with
      | nil => rfl
      | cons a t ih => rw [List.map_cons, List.map_cons, ih, a.1]
    have m4 : ShL Z S ((mgP [] kb).map (·.2)) ((mgP [] ks).map (·.2)) := by
      clear pr m2
      generalize mgP [] kb = u at mr
      generalize mgP [] ks = z at mr
      induction mr with
      | nil => exact .nil
      | cons a t ih => exact .cons a.2 ih
    have m5 : ∀ x ∈ (mgP [] ks).map (·.2), owned x = false := fun y hy => by
      obtain ⟨x, hx, rfl⟩ := List.mem_map.mp hy
      rcases at5 hx with h | h
      · cases h
      · exact g5 x h
    have hnd : ((mgP [] ks).map (·.1)).Nodup := ac1 ks (by simp)
    generalize mgP [] kb = kb' at *
    generalize mgP [] ks = ks' at *
    have np := I.fresh hp
    have ex : ExtS K Z H S (upd H p (.dK kb')) S := ⟨Le.refl S, I.heap (fun b hb => upd_ne fun z => by subst z; exact hb np) (fun a o u e => upd_ne fun z => by subst z; rw [hp] at e; cases e), fun b hb => ⟨upd_ne fun z => by subst z; exact hb hp, id⟩⟩
    have zp : (kb'.map (·.1)).zip (kb'.map (·.2)) = kb' := by
      clear m2 m4 mr ex
      induction kb' with
      | nil => rfl
      | cons x r ih => rw [List.map_cons, List.map_cons, List.zip_cons_cons, ih]
    exact g _ _ S [p] ex ⟨p, kb'.map (·.2), [], rfl, rfl, .inl ⟨rfl, kb'.map (·.1), by rw [m2, List.map_map]; rfl, by rw [m2]; exact hnd, by rw [List.length_map, List.length_map], by rw [zp]; exact upd_same⟩, np, OwnL.of_sh m4 m5⟩ (by simp) fun b hb => by rw [List.mem_singleton.mp hb]; exact hp
  unfold dcM at e
  split at e
  · split at e
    · rename_i ks hk
      cases e
      obtain ⟨v, rfl, h⟩ := v1 hv
      obtain ⟨a, ws, rfl, ha, hw⟩ := h.lst I
      exact core a ws _ ks (.inl (SqL.of ha)) hk (hw.sh (a5l hk)) rfl
    · cases e
  · split at e
    · rename_i ks hk
      cases e
      obtain ⟨v, rfl, h⟩ := v1 hv
      obtain ⟨a, ws, rfl, ha, hw⟩ := h.tup I
      exact core a ws _ ks (.inr ha) hk hw rfl
    · cases e
  · cases e
end
end Dv
namespace Dv
open PySem L2 PySem.Spec PyProof.Rows
def by7 (i n : Nat) (gs : List D → C) : C := fun ρ => match u6 ρ i with
  | some s => (match s.d with | .lst _ ds => if ds.length = n ∧ a0d ds = true then gs ds ρ else .bad | _ => .bad)
  | none => .bad
section
variable {X : Cx} {Z : Zt} {W : WX}
end
end Dv
namespace Dv
open PySem L2 PySem.Spec PyProof.Rows
def bq7 : List D → Option D
  | [.pgs true ds] => if a0d ds = true ∧ ds.length ≤ 1000000 then some (.lst true ds) else none
  | ds => ax8 ds
def bi5 (X : Cx) : List V → Hp → VK → Prop := fun vs H Q => ay3 X.K vs H Q ∨ ∃ (a : Addr) (xs : List (NestedKey × Addr)), vs = [.ref a] ∧ H a = some (pgO X.w a xs) ∧ xs.length ≤ 1000000 ∧ ∀ p, H p = none → Q (.ref p) (upd H p (.lst (xs.map fun x => V.ref x.2)))
end Dv
namespace Dv
open PySem L2 PySem.Spec PyProof.Rows
def bm7 (i : Nat) (g f : M D) : M D := fun ρ => match u6 ρ i with
  | some s0 => if b2r s0.d = true then M.bind g (fun k => M.bind f fun y ρ2 => match u6 ρ2 i with
    | some s => if s.may = true ∧ owned k = false ∧ owned y = false then (match s.d, keyD k with
      | .dic true false ks vs, some (.k q) => if ks.length < 1000000 then (match a0y ks vs (.k q) with
        | some d => if owned d = true then .bad else .ok d ρ2
        | none => .ok y (ρ2.set i (some (s.sw (.dic true false (a7c ks (.k q)) (a4c ks vs (.k q) y)))))) else .bad
      | _, _ => .bad) else .bad
    | none => .bad) ρ else .bad
  | none => .bad
section
variable {X : Cx} {Z : Zt} {W : WX}
end
def TSd (ρ2 : Env) (i : Nat) (k y : D) (Q : D → Env → Prop) : Prop := match u6 ρ2 i with
  | some s => s.may = true ∧ owned k = false ∧ owned y = false ∧ (match s.d, keyD k with
    | .dic true false ks vs, some (.k q) => ks.length < 1000000 ∧ (match a0y ks vs (.k q) with
      | some d => owned d = false ∧ Q d ρ2
      | none => Q y (ρ2.set i (some (s.sw (.dic true false (a7c ks (.k q)) (a4c ks vs (.k q) y))))))
    | _, _ => False)
  | none => False
end Dv
namespace Dv
open PySem L2 PySem.Spec PyProof.Rows
def bg3 (X : Cx) (tk : TE) : TE := fun σ H Q => ∀ p, H p = none → tk σ (upd H p (pgO X.w p [])) fun x H2 => ∃ (b : Addr) (k : NestedKey), x = .ref b ∧ H2 p = some (pgO X.w p []) ∧
  (∀ pins σ s, Inv X pins σ H2 s → NestedIs s.heap k (.ref b)) ∧ k.depth ≤ 8 ∧ Q (.ref p) (upd H2 p (pgO X.w p [(k, b)]))
def bh1 (g : M D) : M D := M.bind g fun k ρ => if isTup k = true ∧ b1z k = true then .ok (.pgs true [k]) ρ else .bad
section
variable {X : Cx} {Z : Zt} {W : WX} {ke : Expr} {g : M D}
end
end Dv
namespace Dv
open PySem L2 PySem.Spec PyProof.Rows
theorem am6 : typeLookup (.type "zip") "__len__" = pure none := by rw [typeLookup_type, builtinLookup_eq_fast]; kernel_rfl
theorem ag5 : typeLookup (.type "zip") "__length_hint__" = pure none := by rw [typeLookup_type, builtinLookup_eq_fast]; kernel_rfl
abbrev twO (x y : Value) : Obj := { cls := .type "tuple", data := .seq #[x, y] }
section
variable {P : Program} {w : World} {A : Around} {E : Value → Shared → Prop} {s : Shared} {z TI TO T L i1 i2 : Addr} {fp1 fp2 : List Addr} {n1 n2 i : Nat} {P1 P2 : Nat → Value → Prop} {St1 St2 : Nat → Heap → Prop} {f : Bool} {oT : Obj}
theorem aw1 {Q : Value → Shared → Prop} (S : ZipSep2 z TI TO i1 i2 fp1 fp2) (D1 : Draws P w A i1 fp1 n1 P1 St1) (D2 : Draws P w A i2 fp2 n2 P2 St2)
    (hz : IsZipHeld s.heap z TI TO T f) (hT : s.heap.get? T = some oT) (hTI : IsTupOf2 s.heap TI (.ref i1) (.ref i2)) (st1 : St1 i s.heap) (st2 : St2 i s.heap) (hlt1 : i < n1) (hlt2 : i < n2)
    (hQ : ∀ x1 x2 h' tk, P1 i x1 → P2 i x2 → IsZipHeld h' z TI TO T true → St1 (i + 1) h' → St2 (i + 1) h' → h'.get? s.heap.objs.size = some (twO x1 x2) →
      (∀ c o, c ≠ z → c ≠ i1 → c ≠ i2 → s.heap.get? c = some o → h'.get? c = some o) → Q (.ref s.heap.objs.size) { s with heap := h', toks := tk }) :
    wpAny (model P w) A (Builtin.«zip.__next__» ⟨[.ref z], []⟩) (fun fin s' => ∃ v, fin = .done (.ret v) ∧ Q v s') E s := by
  obtain ⟨hp, g, d, tk0, os⟩ := s
  show wpAny _ _ (field (.ref z) 2 >>= _) _ _ _
  refine wpAny_bind (wpAny_field hz rfl (x := .bool false) rfl ?_)
  show wpAny _ _ (field (.ref z) 3 >>= _) _ _ _
  refine wpAny_bind (wpAny_field hz rfl (x := .ref TI) rfl ?_)
  refine wpAny_bind (wpAny_seqItems hTI rfl ?_)
  show wpAny _ _ (Builtin.SmallTypes.ownedTupleIsFree (.ref z) >>= _) _ _ _
  refine wpAny_bind (wpAny_tupleHeld_zip hz hT fun g0 hz0 hs0 => ?_)
  replace hs0 : Heap.SameBut z hp g0 := hs0
  simp only [Bool.false_eq_true, if_false]
  refine wpAny_bind ?_
  rw [← Array.forIn_toList]
  simp only [List.forIn_cons, List.forIn_nil]
  refine wpAny_bind (wpAny_bind (wpAny_holding ?_))
  show wpAny _ _ (Builtin.SmallTypes.nextOf (.ref i1) >>= _) _ _ ⟨g0, g, d, tk0, os⟩
  refine wpAny_bind (D1.item i _ _ _ hlt1 (D1.over st1 hs0 S.zf1) fun x1 p1 tk1 hx1 sn1 hp1 => wpAny_pure ?_)
  replace hp1 : Heap.SameBut i1 g0 p1 := hp1
  refine wpAny_pure ?_
  refine wpAny_bind (wpAny_bind (wpAny_holding ?_))
  show wpAny _ _ (Builtin.SmallTypes.nextOf (.ref i2) >>= _) _ _ ⟨p1, g, d, tk1, os⟩
  refine wpAny_bind (D2.item i _ _ _ hlt2 (D2.over (D2.over st2 hs0 S.zf2) hp1 S.sep1_2) fun x2 p2 tk2 hx2 sn2 hp2 => wpAny_pure ?_)
  replace hp2 : Heap.SameBut i2 p1 p2 := hp2
  refine wpAny_pure (wpAny_pure ?_)
  show wpAny _ _ (newTuple [x1, x2] >>= _) _ _ ⟨p2, g, d, tk2, os⟩
  refine wpAny_bind (wpAny_newTuple ?_)
  have hsz : p2.objs.size = hp.objs.size := by rw [hp2.1, hp1.1, hs0.1]
  have hz3 : IsZipHeld p2 z TI TO T true := hp2.extBut _ _ S.zi2 (hp1.extBut _ _ S.zi1 hz0)
  have hk : ∀ c o, c ≠ z → c ≠ i1 → c ≠ i2 → hp.get? c = some o → p2.get? c = some o := fun c o c1 c2 c3 e => hp2.extBut _ _ c3 (hp1.extBut _ _ c2 (hs0.extBut _ _ c1 e))
  have sn1' : St1 (i + 1) p2 := D1.over sn1 hp2 S.sep2_1
  refine wpAny_pure ⟨_, rfl, ?_⟩
  show Q (.ref p2.objs.size) _
  have hp' : (p2.push (twO x1 x2)).get? p2.objs.size = some (twO x1 x2) := Heap.get?_push_size _ rfl
  rw [hsz] at hp' ⊢
  exact hQ x1 x2 _ tk2 hx1 hx2 (Heap.get?_push_of_some _ hz3) (D1.frame _ _ _ sn1' fun b _ o e => Heap.get?_push_of_some _ e) (D2.frame _ _ _ sn2 fun b _ o e => Heap.get?_push_of_some _ e) hp' fun c o c1 c2 c3 e => Heap.get?_push_of_some _ (hk c o c1 c2 c3 e)
theorem b1m {Q : Fin → Shared → Prop} (S : ZipSep2 z TI TO i1 i2 fp1 fp2) (D1 : Draws P w A i1 fp1 n1 P1 St1) (D2 : Draws P w A i2 fp2 n2 P2 St2)
    (hz : IsZipHeld s.heap z TI TO T f) (hT : s.heap.get? T = some oT) (hTI : IsTupOf2 s.heap TI (.ref i1) (.ref i2)) (st1 : St1 i s.heap) (st2 : St2 i s.heap) (hle1 : i ≤ n1) (hle2 : i ≤ n2) (hend : i = n1 ∨ i = n2)
    (hE : ∀ h' tk e, (∀ c o, c ≠ z → c ≠ i1 → c ≠ i2 → s.heap.get? c = some o → h'.get? c = some o) → (∃ o, h'.get? e = some o ∧ o.cls = .type "StopIteration") → E (.ref e) { s with heap := h', toks := tk }) :
    wpAny (model P w) A (Builtin.«zip.__next__» ⟨[.ref z], []⟩) Q E s := by
  obtain ⟨hp, g, d, tk0, os⟩ := s
  show wpAny _ _ (field (.ref z) 2 >>= _) _ _ _
  refine wpAny_bind (wpAny_field hz rfl (x := .bool false) rfl ?_)
  show wpAny _ _ (field (.ref z) 3 >>= _) _ _ _
  refine wpAny_bind (wpAny_field hz rfl (x := .ref TI) rfl ?_)
  refine wpAny_bind (wpAny_seqItems hTI rfl ?_)
  show wpAny _ _ (Builtin.SmallTypes.ownedTupleIsFree (.ref z) >>= _) _ _ _
  refine wpAny_bind (wpAny_tupleHeld_zip hz hT fun g0 hz0 hs0 => ?_)
  replace hs0 : Heap.SameBut z hp g0 := hs0
  simp only [Bool.false_eq_true, if_false]
  refine wpAny_bind ?_
  rw [← Array.forIn_toList]
  simp only [List.forIn_cons, List.forIn_nil]
  refine wpAny_bind (wpAny_bind (wpAny_holding ?_))
  show wpAny _ _ (Builtin.SmallTypes.nextOf (.ref i1) >>= _) _ _ ⟨g0, g, d, tk0, os⟩
  by_cases hlt1 : i < n1
  · have hi2 : i = n2 := by omega
    refine wpAny_bind (D1.item i _ _ _ hlt1 (D1.over st1 hs0 S.zf1) fun x1 p1 tk1 hx1 sn1 hp1 => wpAny_pure ?_)
    replace hp1 : Heap.SameBut i1 g0 p1 := hp1
    refine wpAny_pure ?_
    refine wpAny_bind (wpAny_bind (wpAny_holding ?_))
    show wpAny _ _ (Builtin.SmallTypes.nextOf (.ref i2) >>= _) _ _ ⟨p1, g, d, tk1, os⟩
    refine wpAny_bind (D2.done ⟨p1, g, d, tk1, os⟩ _ _ (by rw [← hi2]; exact D2.over (D2.over st2 hs0 S.zf2) hp1 S.sep1_2) fun q e hq he => ?_)
    replace hq : Heap.ExtBut i2 p1 q := hq
    exact hE q tk1 e (fun c o c1 c2 c3 x => hq _ _ c3 (hp1.extBut _ _ c2 (hs0.extBut _ _ c1 x))) he
  · have hi1 : i = n1 := by omega
    refine wpAny_bind (D1.done ⟨g0, g, d, tk0, os⟩ _ _ (by rw [← hi1]; exact D1.over st1 hs0 S.zf1) fun q e hq he => ?_)
    replace hq : Heap.ExtBut i1 g0 q := hq
    exact hE q tk0 e (fun c o c1 c2 _ x => hq _ _ c2 (hs0.extBut _ _ c1 x)) he
theorem ab9 {Q : Option Value → Shared → Prop} (S : ZipSep2 z TI TO i1 i2 fp1 fp2) (D1 : Draws P w A.in1 i1 fp1 n1 P1 St1) (D2 : Draws P w A.in1 i2 fp2 n2 P2 St2)
    (hz : IsZipHeld s.heap z TI TO T f) (hT : s.heap.get? T = some oT) (hTI : IsTupOf2 s.heap TI (.ref i1) (.ref i2)) (st1 : St1 i s.heap) (st2 : St2 i s.heap) (hlt1 : i < n1) (hlt2 : i < n2)
    (hQ : ∀ x1 x2 h' tk, P1 i x1 → P2 i x2 → IsZipHeld h' z TI TO T true → St1 (i + 1) h' → St2 (i + 1) h' → h'.get? s.heap.objs.size = some (twO x1 x2) →
      (∀ c o, c ≠ z → c ≠ i1 → c ≠ i2 → s.heap.get? c = some o → h'.get? c = some o) → Q (some (.ref s.heap.objs.size)) { s with heap := h', toks := tk }) :
    wpAny (model P w) A (pyNext (.ref z)) Q E s := by
  have hTy : s.TypeIs (.ref z) "zip" := ⟨_, hz, rfl⟩
  unfold pyNext
  exact wpAny_bind (wpAny_attempt (wpAny_callSpecial?_slot (name := Str.ofString "__next__") hTy F.slot_zip_next
    (wpAny_call_entry F.slot_zip_next hTy F.entry_zip_next
      (aw1 S D1 D2 hz hT hTI st1 st2 hlt1 hlt2 fun x1 x2 h' tk a1 a2 a3 a4 a5 a6 a7 => wpAny_pure (hQ x1 x2 h' tk a1 a2 a3 a4 a5 a6 a7)) (F.args_zip_next_1 _))))
theorem ah5 {Q : Option Value → Shared → Prop} (S : ZipSep2 z TI TO i1 i2 fp1 fp2) (D1 : Draws P w A.in1 i1 fp1 n1 P1 St1) (D2 : Draws P w A.in1 i2 fp2 n2 P2 St2)
    (hz : IsZipHeld s.heap z TI TO T f) (hT : s.heap.get? T = some oT) (hTI : IsTupOf2 s.heap TI (.ref i1) (.ref i2)) (st1 : St1 i s.heap) (st2 : St2 i s.heap) (hle1 : i ≤ n1) (hle2 : i ≤ n2) (hend : i = n1 ∨ i = n2)
    (hQ : ∀ h' tk, (∀ c o, c ≠ z → c ≠ i1 → c ≠ i2 → s.heap.get? c = some o → h'.get? c = some o) → Q none { s with heap := h', toks := tk }) : wpAny (model P w) A (pyNext (.ref z)) Q E s := by
  have hTy : s.TypeIs (.ref z) "zip" := ⟨_, hz, rfl⟩
  unfold pyNext
  refine wpAny_bind (wpAny_attempt (wpAny_callSpecial?_slot (name := Str.ofString "__next__") hTy F.slot_zip_next
    (wpAny_call_entry F.slot_zip_next hTy F.entry_zip_next (b1m S D1 D2 hz hT hTI st1 st2 hle1 hle2 hend fun h' tk e hk he => ?_) (F.args_zip_next_1 _))))
  obtain ⟨o, ho, hc⟩ := he
  refine wpAny_bind (wpAny_isInstance (T := "StopIteration") (b := true) ⟨o, ho, hc⟩ isSubtype_stop ?_)
  exact wpAny_pure (hQ _ _ hk)
def ZAt (h : Heap) (z TI TO i1 i2 L : Addr) : Prop := (IsZip h z TI TO .none ∧ ∃ a1 a2, IsTupOf2 h TO a1 a2) ∨ ∃ T f o, IsZipHeld h z TI TO T f ∧ h.get? T = some o ∧ T ≠ z ∧ T ≠ i1 ∧ T ≠ i2 ∧ T ≠ L ∧ T ≠ TO
theorem b4t {Q : Option Value → Shared → Prop} (S : ZipSep2 z TI TO i1 i2 fp1 fp2) (D1 : Draws P w A.in1 i1 fp1 n1 P1 St1) (D2 : Draws P w A.in1 i2 fp2 n2 P2 St2) (za : ZAt s.heap z TI TO i1 i2 L) (hTI : IsTupOf2 s.heap TI (.ref i1) (.ref i2)) (lL : L < s.heap.objs.size) (lTO : TO < s.heap.objs.size)
    (st1 : St1 i s.heap) (st2 : St2 i s.heap) (hlt1 : i < n1) (hlt2 : i < n2)
    (k : ∀ x1 x2 h2 tk, P1 i x1 → P2 i x2 → ZAt h2 z TI TO i1 i2 L → St1 (i + 1) h2 → St2 (i + 1) h2 → h2.get? s.heap.objs.size = some (twO x1 x2) →
      (∀ c o, c ≠ z → c ≠ TO → c ≠ i1 → c ≠ i2 → s.heap.get? c = some o → h2.get? c = some o) → Q (some (.ref s.heap.objs.size)) { s with heap := h2, toks := tk }) :
    wpAny (model P w) A (pyNext (.ref z)) Q E s := by
  obtain ⟨o1, g1⟩ := D1.live _ _ st1
  obtain ⟨o2, g2⟩ := D2.live _ _ st2
  have l1 : i1 < s.heap.objs.size := Heap.lt_size g1
  have l2 : i2 < s.heap.objs.size := Heap.lt_size g2
  rcases za with ⟨hz, a1, a2, hTO⟩ | ⟨T, f, o, hz, gT, t1, t2, t3, t4, t5⟩
  · have lz : z < s.heap.objs.size := Heap.lt_size hz
    refine wpAny_pyNext_zipD2_item S D1 D2 hz hTI hTO st1 st2 hlt1 hlt2 fun x1 x2 h' tk p1 p2 b1 b2 s1 s2 gt _ keep => ?_
    exact k x1 x2 h' tk p1 p2 (.inr ⟨_, false, _, b1, gt, Nat.ne_of_gt lz, Nat.ne_of_gt l1, Nat.ne_of_gt l2, Nat.ne_of_gt lL, Nat.ne_of_gt lTO⟩) s1 s2 gt keep
  · refine ab9 S D1 D2 hz gT hTI st1 st2 hlt1 hlt2 fun x1 x2 h' tk p1 p2 b1 s1 s2 gt keep => ?_
    exact k x1 x2 h' tk p1 p2 (.inr ⟨T, true, o, b1, keep T o t1 t2 t3 gT, t1, t2, t3, t4, t5⟩) s1 s2 gt fun c o c1 _ c2 c3 e => keep c o c1 c2 c3 e
theorem b4y {Q : Option Value → Shared → Prop} (S : ZipSep2 z TI TO i1 i2 fp1 fp2) (D1 : Draws P w A.in1 i1 fp1 n1 P1 St1) (D2 : Draws P w A.in1 i2 fp2 n2 P2 St2) (za : ZAt s.heap z TI TO i1 i2 L) (hTI : IsTupOf2 s.heap TI (.ref i1) (.ref i2))
    (st1 : St1 i s.heap) (st2 : St2 i s.heap) (hle1 : i ≤ n1) (hle2 : i ≤ n2) (hend : i = n1 ∨ i = n2)
    (k : ∀ h2 tk, (∀ c o, c ≠ z → c ≠ TO → c ≠ i1 → c ≠ i2 → s.heap.get? c = some o → h2.get? c = some o) → Q none { s with heap := h2, toks := tk }) : wpAny (model P w) A (pyNext (.ref z)) Q E s := by
  rcases za with ⟨hz, a1, a2, hTO⟩ | ⟨T, f, o, hz, gT, t1, t2, t3, t4, t5⟩
  · exact wpAny_pyNext_zipD2_end S D1 D2 hz hTI hTO st1 st2 hle1 hle2 hend k
  · exact ah5 S D1 D2 hz gT hTI st1 st2 hle1 hle2 hend fun h' tk keep => k h' tk fun c o c1 _ c2 c3 e => keep c o c1 c2 c3 e
end
inductive ZpW : List V → List V → Hp → List V → Hp → Prop
  | nil {xs ys : List V} {H : Hp} : (xs = [] ∨ ys = []) → ZpW xs ys H [] H
  | cons {x y : V} {xs ys us : List V} {H H2 : Hp} {T : Addr} {o : Obj} : H T = none → o.dict = none → ZpW xs ys (upd H T (.frz o (.tup [x, y]))) us H2 → ZpW (x :: xs) (y :: ys) H (.ref T :: us) H2
theorem ZpW.len {xs ys us : List V} {H H2 : Hp} (h : ZpW xs ys H us H2) : us.length = min xs.length ys.length := by
  induction h with
  | nil h => rcases h with rfl | rfl <;> simp
  | cons _ _ _ ih => rw [List.length_cons, List.length_cons, List.length_cons, ih]; omega
section
variable {X : Cx} {pins : List (Addr × Obj)} {σ : L2.St} {A : Around} {R : Result → Shared → Prop} {z TI TO L i1 i2 : Addr} {fp1 fp2 : List Addr} {n1 n2 : Nat} {P1 P2 : Nat → Value → Prop} {St1 St2 : Nat → Heap → Prop}
theorem b4s (S : ZipSep2 z TI TO i1 i2 fp1 fp2) (D1 : Draws X.prog X.w A.in1.in1 i1 fp1 n1 P1 St1) (D2 : Draws X.prog X.w A.in1.in1 i2 fp2 n2 P2 St2) (Lf1 : L ∉ fp1) (Lf2 : L ∉ fp2) (Lz : L ≠ z) (LTI : L ≠ TI) (LTO : L ≠ TO)
    (xs ys : List V) (lx : xs.length = n1) (ly : ys.length = n2) (hP1 : ∀ j v, P1 j v → ∃ x, xs[j]? = some x ∧ RelV x v) (hP2 : ∀ j v, P2 j v → ∃ x, ys[j]? = some x ∧ RelV x v) (few : min n1 n2 ≤ sizeLine) (res : Value) :
    ∀ (k i : Nat) (s : Shared) (H : Hp) (acc : Array Value) (c : Nat) (vs : List V), min n1 n2 - i = k → i ≤ min n1 n2 → Inv X pins σ H s → (∀ b ∈ [z, TO, i1, i2, L], FpOk X pins H b) → St1 i s.heap → St2 i s.heap → ZAt s.heap z TI TO i1 i2 L → TO < s.heap.objs.size → IsTupOf2 s.heap TI (.ref i1) (.ref i2) →
    s.heap.get? L = some (lsO acc c) → acc.size = i → Vals vs acc.toList →
    (∀ s2 H2 acc2 c2 us, Inv X pins σ H2 s2 → s2.heap.get? L = some (lsO acc2 c2) → ZpW (xs.drop i) (ys.drop i) H us H2 → Vals (vs ++ us) acc2.toList → R (.ok (.ret res)) s2) →
    codeAny (model X.prog X.w) A (.builtin "list.extend.loop" ⟨[.ref L, .ref z, res], []⟩) R s := by
  have Li1 : L ≠ i1 := fun e => Lf1 (e ▸ S.mem1)
  have Li2 : L ≠ i2 := fun e => Lf2 (e ▸ S.mem2)
  intro k
  induction k with
  | zero =>
    intro i s H acc c vs hk hi I hf st1 st2 za lTO hTI gL zc va fin
    apply codeAny_builtin F.entry_extend_loop
    rw [Around.under_plainId F.plain_extend_loop _]
    show wpAny _ A.in1 (pyNext (.ref z) >>= _) _ _ s
    apply wpAny_bind
    refine b4y S D1 D2 za hTI st1 st2 (by omega) (by omega) (by omega) fun h2 tk keep => ?_
    have I2 : Inv X pins σ H { s with heap := h2, toks := tk } := I.turnedL (ch := [z, TO, i1, i2]) (fun b o hb q => keep b o (fun z => hb (by simp [z])) (fun z => hb (by simp [z])) (fun z => hb (by simp [z])) (fun z => hb (by simp [z])) q) fun b hb => hf b (by simp at hb; rcases hb with z | z | z | z <;> simp [z])
    apply wpAny_pure
    refine fin _ H acc c [] I2 (keep _ _ Lz LTO Li1 Li2 gL) (.nil ?_) (by rw [List.append_nil]; exact va)
    rcases Nat.le_total n1 n2 with h | h
    · exact .inl (List.drop_eq_nil_of_le (by omega))
    · exact .inr (List.drop_eq_nil_of_le (by omega))
  | succ k ih =>
    intro i s H acc c vs hk hi I hf st1 st2 za lTO hTI gL zc va fin
    have lt1 : i < n1 := by omega
    have lt2 : i < n2 := by omega
    apply codeAny_builtin F.entry_extend_loop
    rw [Around.under_plainId F.plain_extend_loop _]
    show wpAny _ A.in1 (pyNext (.ref z) >>= _) _ _ s
    apply wpAny_bind
    have lL : L < s.heap.objs.size := Heap.lt_size gL
    have lz : z < s.heap.objs.size := by rcases za with ⟨q, _⟩ | ⟨_, _, _, q, _⟩ <;> exact Heap.lt_size q
    have li1 : i1 < s.heap.objs.size := by obtain ⟨oi, gi⟩ := D1.live _ _ st1; exact Heap.lt_size gi
    have li2 : i2 < s.heap.objs.size := by obtain ⟨oi, gi⟩ := D2.live _ _ st2; exact Heap.lt_size gi
    refine b4t S D1 D2 za hTI lL lTO st1 st2 lt1 lt2 fun x1 x2 h2 tk p1 p2 za2 sn1 sn2 gt keep => ?_
    obtain ⟨y1, hy1, r1⟩ := hP1 i x1 p1
    obtain ⟨y2, hy2, r2⟩ := hP2 i x2 p2
    have hn : H s.heap.objs.size = none := I.hok.fresh (Nat.le_refl _)
    have I2 : Inv X pins σ (upd H s.heap.objs.size (.frz (twO x1 x2) (.tup [y1, y2]))) { s with heap := h2, toks := tk } := I.turnedNew (ch := [z, TO, i1, i2]) (fun b o hb q => keep b o (fun z => hb (by simp [z])) (fun z => hb (by simp [z])) (fun z => hb (by simp [z])) (fun z => hb (by simp [z])) q) (fun b hb => hf b (by simp at hb; rcases hb with z | z | z | z <;> simp [z])) (Nat.le_refl _)
      ⟨gt, by show 2 ≤ sizeLine; decide, [x1, x2], .cons r1 (.cons r2 .nil), ⟨_, gt, rfl, _, rfl⟩⟩
    have hf2 : ∀ b ∈ [z, TO, i1, i2, L], FpOk X pins (upd H s.heap.objs.size (.frz (twO x1 x2) (.tup [y1, y2]))) b := fun b hb => by
      have lb : b < s.heap.objs.size := by
        rcases (by simpa using hb : b = z ∨ b = TO ∨ b = i1 ∨ b = i2 ∨ b = L) with z | z | z | z | z <;> rw [z] <;> assumption
      exact ⟨by rw [upd_ne (Nat.ne_of_lt lb)]; exact (hf b hb).1, (hf b hb).2⟩
    have gL2 : h2.get? L = some (lsO acc c) := keep L _ Lz LTO Li1 Li2 gL
    have hTI2 : IsTupOf2 h2 TI (.ref i1) (.ref i2) := keep TI _ S.TIz S.TITO S.TIi1 S.TIi2 hTI
    show wpAny _ A.in1 (updateSeq L (·.push (.ref s.heap.objs.size)) >>= _) _ _ _
    apply wpAny_bind
    have oth : ∀ b o, b ≠ L → h2.get? b = some o → (h2.update L (Obj.mapSeq (·.push (.ref s.heap.objs.size)))).get? b = some o := fun b o hb q => (Heap.get?_update_other _ _ (Ne.symm hb)).trans q
    have usz : (h2.update L (Obj.mapSeq (·.push (.ref s.heap.objs.size)))).objs.size = h2.objs.size := (Heap.SameBut.update ..).1
    have lTO2 : TO < h2.objs.size := Nat.lt_trans lTO (Heap.lt_size gt)
    refine wpAny_updateSeq (s := { s with heap := h2, toks := tk }) gL2 rfl (wpAny_pure ⟨plainId_quiet F.plain_extend_loop _, ?_⟩) (by rw [zc]; omega) (by show (acc.push _).size ≤ sizeLine + 1; rw [Array.size_push, zc]; omega)
    have I3 : Inv X pins σ (upd H s.heap.objs.size (.frz (twO x1 x2) (.tup [y1, y2]))) { s with heap := h2.update L (Obj.mapSeq (·.push (.ref s.heap.objs.size))), toks := tk } := Inv.turnedL (s := { s with heap := h2, toks := tk }) (t' := tk) (ch := [L]) I2 (fun b o hb q => oth b o (fun z => hb (by simp [z])) q) fun b hb => hf2 b (by simp at hb; simp [hb])
    refine ih (i + 1) _ _ (acc.push (.ref s.heap.objs.size)) _ (vs ++ [.ref s.heap.objs.size]) (by omega) (by omega) I3 hf2 (D1.frame _ _ _ sn1 fun b hb o q => oth b o (fun z => Lf1 (z ▸ hb)) q) (D2.frame _ _ _ sn2 fun b hb o q => oth b o (fun z => Lf2 (z ▸ hb)) q) ?_ (by show TO < (h2.update L _).objs.size; rw [usz]; exact lTO2) (oth _ _ (Ne.symm LTI) hTI2) (Heap.get?_update_self _ gL2 rfl) (by rw [Array.size_push, zc]) ?_ ?_
    · rcases za2 with ⟨q, a1, a2, q2⟩ | ⟨T, f, o, q, gT, t1, t2, t3, t4, t5⟩
      · exact .inl ⟨oth _ _ (Ne.symm Lz) q, a1, a2, oth _ _ (Ne.symm LTO) q2⟩
      · exact .inr ⟨T, f, o, oth _ _ (Ne.symm Lz) q, oth _ _ t4 gT, t1, t2, t3, t4, t5⟩
    · rw [Array.toList_push]; exact aa1 va rfl
    · intro s2 H2 acc2 c2 us J g2 ew va2
      refine fin s2 H2 acc2 c2 (.ref s.heap.objs.size :: us) J g2 ?_ (by rw [List.append_assoc] at va2; exact va2)
      have h1 : i < xs.length := by omega
      have h2' : i < ys.length := by omega
      rw [List.getElem?_eq_getElem h1] at hy1
      rw [List.getElem?_eq_getElem h2'] at hy2
      cases hy1
      cases hy2
      rw [List.drop_eq_getElem_cons h1, List.drop_eq_getElem_cons h2']
      exact .cons hn rfl ew
end
section
variable {X : Cx} {pins : List (Addr × Obj)} {σ : L2.St} {A : Around} {E : Value → Shared → Prop} {s : Shared} {z TI TO i1 i2 : Addr} {fp1 fp2 : List Addr} {n1 n2 : Nat} {P1 P2 : Nat → Value → Prop} {St1 St2 : Nat → Heap → Prop}
theorem ag8 {Q : List Value → Shared → Prop} {H : Hp} (S : ZipSep2 z TI TO i1 i2 fp1 fp2) (D1 : Draws X.prog X.w A.in1.in1 i1 fp1 n1 P1 St1) (D2 : Draws X.prog X.w A.in1.in1 i2 fp2 n2 P2 St2)
    (xs ys : List V) (lx : xs.length = n1) (ly : ys.length = n2) (hP1 : ∀ j v, P1 j v → ∃ x, xs[j]? = some x ∧ RelV x v) (hP2 : ∀ j v, P2 j v → ∃ x, ys[j]? = some x ∧ RelV x v) (few : min n1 n2 ≤ sizeLine)
    (I : Inv X pins σ H s) (hf : ∀ b ∈ [z, TO, i1, i2], FpOk X pins H b) (hz : IsZip s.heap z TI TO .none) (hTI : IsTupOf2 s.heap TI (.ref i1) (.ref i2)) {a1 a2 : Value} (hTO : IsTupOf2 s.heap TO a1 a2) (st1 : St1 0 s.heap) (st2 : St2 0 s.heap)
    (hfp1 : ∀ b ∈ fp1, b < s.heap.objs.size) (hfp2 : ∀ b ∈ fp2, b < s.heap.objs.size)
    (k : ∀ s2 H2 us acc, Inv X pins σ H2 s2 → ZpW xs ys H us H2 → Vals us acc → Q acc s2) : wpAny (model X.prog X.w) A (collect (.ref z)) Q E s := by
  have lz : z < s.heap.objs.size := Heap.lt_size hz
  have lTI : TI < s.heap.objs.size := Heap.lt_size hTI
  have lTO : TO < s.heap.objs.size := Heap.lt_size hTO
  have Lf1 : s.heap.objs.size ∉ fp1 := fun q => Nat.lt_irrefl _ (hfp1 _ q)
  have Lf2 : s.heap.objs.size ∉ fp2 := fun q => Nat.lt_irrefl _ (hfp2 _ q)
  have Lz : s.heap.objs.size ≠ z := Nat.ne_of_gt lz
  unfold collect
  refine wpAny_bind (wpAny_runValue (codeAny_builtin F.entry_proto_collect ?_))
  rw [Around.under_plainId F.plain_proto_collect _]
  show wpAny _ A.in1 (newList [] >>= fun l => again (.builtin "list.__iadd__" ⟨[l, .ref z], []⟩)) _ _ s
  refine wpAny_bind (wpAny_newObj_type ?_)
  refine wpAny_pure ⟨plainId_quiet F.plain_list_iadd _, codeAny_builtin F.entry_list_iadd ?_⟩
  rw [Around.under_plainId F.plain_list_iadd _]
  have kp : ∀ b o, s.heap.get? b = some o → (s.heap.push { cls := .type "list", data := .seq ([] : List Value).toArray }).get? b = some o := fun b o q => Heap.get?_push_of_some _ q
  have ty : Shared.TypeIs { s with heap := s.heap.push { cls := .type "list", data := .seq ([] : List Value).toArray } } (.ref z) "zip" := ⟨_, kp _ _ hz, rfl⟩
  show wpAny _ A.in1 (Builtin.List.listExtendWith (.ref s.heap.objs.size) (.ref z) (.ref s.heap.objs.size)) _ _ _
  unfold Builtin.List.listExtendWith
  refine wpAny_bind (wpAny_typeOf ty ?_)
  have h1 : Builtin.List.listSameRef (.ref s.heap.objs.size) (.ref z) = false := by simp [Builtin.List.listSameRef, Lz]
  have h2 : (Value.type "zip" == Value.type "list") = false := by decide
  have h3 : (Value.type "zip" == Value.type "tuple") = false := by decide
  simp only [h1, h2, h3, Bool.or_false, Bool.false_eq_true, if_false]
  refine wpAny_bind (wpAny_pyIter_zip (kp _ _ hz) ?_)
  refine wpAny_bind (wpAny_holding ?_)
  unfold Builtin.List.listLengthHint
  refine wpAny_bind (wpAny_specialOf ty am6 ?_)
  show wpAny _ A.in1 (specialOf (Value.ref z) (Str.ofString "__length_hint__") >>= _) _ _ _
  refine wpAny_bind (wpAny_specialOf ty ag5 ?_)
  refine wpAny_pure ?_
  show wpAny _ A.in1 (rule "list.extend.makes-room" >>= fun _ => Builtin.List.listTouch (.ref s.heap.objs.size) >>= fun _ =>
    again (.builtin "list.extend.loop" ⟨[.ref s.heap.objs.size, .ref z, .ref s.heap.objs.size], []⟩)) _ _ _
  refine wpAny_bind (wpAny_rule ?_)
  have hS1 : (s.heap.push { cls := .type "list", data := .seq ([] : List Value).toArray }).get? s.heap.objs.size = some { cls := .type "list", data := .seq ([] : List Value).toArray } := Heap.get?_push_size _ rfl
  refine wpAny_bind ?_
  show wpAny _ A.in1 (updateSeq s.heap.objs.size (·.push .none) >>= fun _ => updateSeq s.heap.objs.size (·.pop)) _ _ _
  refine wpAny_bind (wpAny_updateSeq hS1 rfl ?_)
  have hS2 := Heap.get?_update_self (Obj.mapSeq (·.push Value.none)) hS1 rfl
  refine wpAny_updateSeq (hz := by seq_fits) hS2 rfl ?_
  have hS3 := Heap.get?_update_self (Obj.mapSeq (·.pop)) hS2 rfl
  have oth : ∀ b o, b ≠ s.heap.objs.size → (s.heap.push { cls := .type "list", data := .seq ([] : List Value).toArray }).get? b = some o →
      (((s.heap.push { cls := .type "list", data := .seq ([] : List Value).toArray }).update s.heap.objs.size (Obj.mapSeq (·.push Value.none))).update s.heap.objs.size (Obj.mapSeq (·.pop))).get? b = some o :=
    fun b o hb e => (Heap.get?_update_other _ _ (Ne.symm hb)).trans ((Heap.get?_update_other _ _ (Ne.symm hb)).trans e)
  have keep : ∀ b o, s.heap.get? b = some o → (((s.heap.push { cls := .type "list", data := .seq ([] : List Value).toArray }).update s.heap.objs.size (Obj.mapSeq (·.push Value.none))).update s.heap.objs.size (Obj.mapSeq (·.pop))).get? b = some o :=
    fun b o q => oth b o (Nat.ne_of_lt (Heap.lt_size q)) (kp _ _ q)
  have I1 : Inv X pins σ H { s with heap := ((s.heap.push { cls := .type "list", data := .seq ([] : List Value).toArray }).update s.heap.objs.size (Obj.mapSeq (·.push Value.none))).update s.heap.objs.size (Obj.mapSeq (·.pop)) } := I.kept (t' := s.toks) keep
  have fS : FpOk X pins H s.heap.objs.size := I.fpOk (Nat.le_refl _) (I.hok.fresh (Nat.le_refl _))
  refine wpAny_pure ⟨plainId_quiet F.plain_extend_loop _, b4s S D1 D2 Lf1 Lf2 Lz (Nat.ne_of_gt lTI) (Nat.ne_of_gt lTO) xs ys lx ly hP1 hP2 few _ (min n1 n2) 0 _ H _ _ [] rfl (Nat.zero_le _) I1 (fun b hb => ?_) (D1.frame _ _ _ st1 fun b _ o q => keep b o q) (D2.frame _ _ _ st2 fun b _ o q => keep b o q)
    (.inl ⟨keep _ _ hz, a1, a2, keep _ _ hTO⟩) (Heap.lt_size (keep _ _ hTO)) (keep _ _ hTI) hS3 rfl .nil fun s2 H2 acc2 c2 us J g2 ew va => ?_⟩
  · rcases (by simpa using hb : b = z ∨ b = TO ∨ b = i1 ∨ b = i2 ∨ b = s.heap.objs.size) with q | q | q | q | q
    · exact hf b (by simp [q])
    · exact hf b (by simp [q])
    · exact hf b (by simp [q])
    · exact hf b (by simp [q])
    · rw [q]; exact fS
  show wpAny _ A (load s.heap.objs.size >>= _) _ _ s2
  refine wpAny_bind (wpAny_load g2 ?_)
  exact wpAny_pure (k s2 H2 us acc2.toList J ew (by simpa using va))
theorem ab0 {Q : Value → Shared → Prop} {H : Hp} (S : ZipSep2 z TI TO i1 i2 fp1 fp2) (D1 : Draws X.prog X.w A.in1.in1.in1.in1 i1 fp1 n1 P1 St1) (D2 : Draws X.prog X.w A.in1.in1.in1.in1 i2 fp2 n2 P2 St2)
    (xs ys : List V) (lx : xs.length = n1) (ly : ys.length = n2) (hP1 : ∀ j v, P1 j v → ∃ x, xs[j]? = some x ∧ RelV x v) (hP2 : ∀ j v, P2 j v → ∃ x, ys[j]? = some x ∧ RelV x v) (few : min n1 n2 ≤ sizeLine)
    (I : Inv X pins σ H s) (hf : ∀ b ∈ [z, TO, i1, i2], FpOk X pins H b) (hz : IsZip s.heap z TI TO .none) (hTI : IsTupOf2 s.heap TI (.ref i1) (.ref i2)) {a1 a2 : Value} (hTO : IsTupOf2 s.heap TO a1 a2) (st1 : St1 0 s.heap) (st2 : St2 0 s.heap)
    (hfp1 : ∀ b ∈ fp1, b < s.heap.objs.size) (hfp2 : ∀ b ∈ fp2, b < s.heap.objs.size)
    (k : ∀ s2 H2 us acc, Inv X pins σ H2 s2 → ZpW xs ys H us H2 → Vals us acc → Q (.ref s2.heap.objs.size) { s2 with heap := s2.heap.push { cls := .type "tuple", data := .seq acc.toArray } }) :
    wpAny (model X.prog X.w) A (call (.type "tuple") [.ref z]) Q E s := by
  refine callType_codes (Q₁ := fun obj s₁ => s₁.TypeIs obj "tuple" ∧ Q obj s₁) F.called_tuple (F.typeCall_tuple_1 _) F.entry_object_init ?_ fun obj s₁ h₁ => ?_
  · refine codeAny_of_tree ?_
    show wpAny _ A.in1.in1 (do checkBuiltinCall "tuple.__new__" ⟨[.type "tuple", .ref z], []⟩; again (.builtin "tuple.__new__" ⟨[.type "tuple", .ref z], []⟩)) _ _ s
    refine wpAny_bind (wpAny_of_eq (F.newCall_tuple_1 _) (wpAny_pure ⟨plainId_quiet F.plain_tuple_new _, codeAny_builtin F.entry_tuple_new ?_⟩))
    rw [Around.under_plainId F.plain_tuple_new _]
    have hsub := sub_tuple_self
    have hinit := init_tuple_lookup
    have hmh := madeHere_tuple
    have hTy : s.TypeIs (.ref z) "zip" := ⟨_, hz, rfl⟩
    wp_walk using wpAny_typeOf hTy, ag8 S D1 D2 xs ys lx ly hP1 hP2 few I hf hz hTI hTO st1 st2 hfp1 hfp2
    intro s2 H2 us acc J ew va
    show wpAny _ _ (Builtin.Tuple.tupleExact acc.toArray >>= fun v => ret v) _ _ _
    unfold Builtin.Tuple.tupleExact
    refine wpAny_bind (wpAny_newObj_type ?_ (by show acc.toArray.size ≤ sizeLine; rw [List.size_toArray, ← va.length, ew.len, lx, ly]; exact few))
    exact wpAny_pure ⟨⟨_, Heap.get?_push_size _ rfl, rfl⟩, k s2 H2 us acc J ew va⟩
  · exact ⟨h₁.1, F.args_object_init_2 obj _, object_init_meets F.called_tuple.init.lookup F.called_tuple.made (by decide) X.prog X.w A.in1 _ s₁ ⟨h₁.1, rfl, h₁.2⟩⟩
end
def b3g (K : PySem.W.Frag) (ta : L2.TA) : TE := fun σ H Q => ta σ H fun vs H1 => ∃ (c1 c2 : Dv.Src) (xs ys : List V), vs = [c1.val, c2.val] ∧ c1.at K H1 xs ∧ c2.at K H1 ys ∧ min xs.length ys.length ≤ sizeLine ∧ ∀ us H2, ZpW xs ys H1 us H2 → ao9 H2 us Q
theorem av6 {X : Cx} {e e2 : Expr} {ta : L2.TA} {p p2 q pos : Pos} (hcalm : X.calm = true) (hg : Gl X "tuple") (hm : X.mg "tuple" = none) (hg2 : Gl X "zip") (hm2 : X.mg "zip" = none) (ha : PA X [e, e2] ta)
    (hs : starEach [e, e2] X.env = (false, eval e X.env) :: starEach [e2] X.env := by rfl) (hpl : (backTo q (starEach [e2] X.env)).any (·.1) = false := by rfl) (ne : starEach [.Call (.Name "zip" p2) [e, e2] [] q] X.env = (false, eval (.Call (.Name "zip" p2) [e, e2] [] q) X.env) :: starEach [] X.env := by rfl) :
    PE X (.Call (.Name "tuple" p) [.Call (.Name "zip" p2) [e, e2] [] q] [] pos) (b3g X.K ta) := by
  refine ⟨fun pins s σ H Q I h => ?_⟩
  refine Call_ (ld_blt I hg hm boot_tuple ?_)
  refine callWith_type1 (args_cons ?_ ne) ne rfl
  refine Call_ (ld_blt I hg2 hm2 boot_zip ?_)
  refine callWith_type1 (thn (ha.run q pins s σ H _ I h) fun us s1 ⟨vs, H1, I1, r1, q1⟩ => ?_) hs hpl
  obtain ⟨c1, c2, xs, ys, rfl, hq1, hq2, few, k⟩ := q1
  cases r1 with
  | cons ru rr =>
    cases rr with
    | cons rw' rr =>
      cases rr
      obtain ⟨o1, Hq1, B1, b1, st1, lt1⟩ := a6z I1 hq1 ru
      obtain ⟨o2, Hq2, B2, b2, st2, lt2⟩ := a6z I1 hq2 rw'
      refine zip_begins2 B1 B2 b1 b2 fun h2 hz hT hO g1 g2 hs2 hk => ?_
      have I2 : Inv X pins σ H1 { s1 with heap := h2 } := I1.kept (t' := s1.toks) hk
      refine args_nil ?_
      have nh : X.A.in1.in1.in1.in1.handled = none := by have := I.ok.hd hcalm; simpa using this
      obtain ⟨fp1, P1, St1, D1, m1, f1, t1, p1⟩ := a93 (A := X.A.in1.in1.in1.in1) I2 nh hq1 (fun a h => Nat.ne_of_lt (lt1 a h)) (st1 _ _ g1)
      obtain ⟨fp2, P2, St2, D2, m2, f2, t2, p2⟩ := a93 (A := X.A.in1.in1.in1.in1) I2 nh hq2 (fun a h => Nat.ne_of_lt (Nat.lt_succ_of_lt (lt2 a h))) (st2 _ _ g2)
      generalize hN : s1.heap.objs.size = N at *
      have S : ZipSep2 (N + 4) (N + 2) (N + 3) N (N + 1) fp1 fp2 :=
        { TIz := show (N + 2 : Nat) ≠ N + 4 by omega, TOz := show (N + 3 : Nat) ≠ N + 4 by omega, TITO := show (N + 2 : Nat) ≠ N + 3 by omega, TIi1 := show (N + 2 : Nat) ≠ N by omega, mem1 := m1,
          zf1 := a5i f1 lt1 (show (N + 4 : Nat) ≠ N by omega), Tf1 := a5i f1 lt1 (show (N + 3 : Nat) ≠ N by omega), TIi2 := show (N + 2 : Nat) ≠ N + 1 by omega, mem2 := m2,
          zf2 := a5i f2 lt2 (show (N + 4 : Nat) ≠ N + 1 by omega), Tf2 := a5i f2 lt2 (show (N + 3 : Nat) ≠ N + 1 by omega),
          sep1_2 := a5i (j := 0) f2 lt2 (show (N + 0 : Nat) ≠ N + 1 by omega), sep2_1 := a5i (j := 1) f1 lt1 (show (N + 1 : Nat) ≠ N by omega) }
      have e0 : (N : Nat) < h2.objs.size := by rw [hs2]; exact Nat.lt_add_of_pos_right (by decide)
      have e1' : (N + 1 : Nat) < h2.objs.size := by rw [hs2]; exact Nat.add_lt_add_left (by decide) _
      have in1 : ∀ b ∈ fp1, b < h2.objs.size := fun b hb => (f1 b hb).elim (fun z => by rw [z]; exact e0) fun z => Nat.lt_trans (lt1 b z) e0
      have in2 : ∀ b ∈ fp2, b < h2.objs.size := fun b hb => (f2 b hb).elim (fun z => by rw [z]; exact e1') fun z => Nat.lt_trans (lt2 b z) e0
      refine ab0 S D1 D2 xs ys rfl rfl p1 p2 few I2 (fun b hb => ?_) hz hT hO t1 t2 in1 in2 fun s2 H2 us acc J ew va => ?_
      · have le : s1.heap.objs.size ≤ b := by
          rw [hN]
          rcases (by simpa using hb : b = N + 4 ∨ b = N + 3 ∨ b = N ∨ b = N + 1) with z | z | z | z <;> rw [z] <;> first | exact Nat.le_add_right _ _ | exact Nat.le_refl _
        exact I1.fpOk le (I1.hok.fresh le)
      · exact b81 (n := 0) J va (by rw [ew.len]; exact few) (k us H2 ew)
def ac9 : List D → List D → List D
  | x :: xs, y :: ys => .tup [x, y] :: ac9 xs ys
  | _, _ => []
theorem a6q : ∀ (xs ys : List D), (ac9 xs ys).length = min xs.length ys.length
  | [], ys => by simp [ac9]
  | x :: xs, [] => by simp [ac9]
  | x :: xs, y :: ys => by
    have := a6q xs ys
    show (ac9 xs ys).length + 1 = _
    rw [this, List.length_cons, List.length_cons]; omega
def tzM (f : M (List Opd)) : M D := M.bind f fun os ρ => match vas os with
  | some ds => (match frL ds with
    | [a, b] => (match aj2 a, aj2 b with | some xs, some ys => if (ac9 xs ys).length ≤ 100000 then .ok (.tup (ac9 xs ys)) ρ else .bad | _, _ => .bad)
    | _ => .bad)
  | none => .bad
theorem tup_new {K : PySem.W.Frag} {Z : Zt} {H : Hp} {S : Reg} (I : InvS K Z H S) {v w : V} {d e : D} (h1 : Sh Z S v d) (h2 : Sh Z S w e) {T : Addr} {o : Obj} (hT : H T = none) (ho : o.dict = none) : ∃ S', ExtS K Z H S (upd H T (.frz o (.tup [v, w]))) S' ∧ Sh Z S' (.ref T) (.tup [d, e]) := by
  have np := I.fresh hT
  have I1 : InvS K Z (upd H T (.frz o (.tup [v, w]))) S := I.heap (fun b hb => upd_ne fun z => by subst z; exact hb np) (fun a o u e => upd_ne fun z => by subst z; rw [hT] at e; cases e)
  have l := a2x (d := .tup [d, e]) np
  have hsh : ShL Z S [v, w] [d, e] := .cons h1 (.cons h2 .nil)
  exact ⟨put S T (.tup [d, e]), ⟨l, I1.put np ⟨[v, w], ⟨o, ho, upd_same⟩, hsh.mono l⟩, fun b hb => ⟨upd_ne fun z => by subst z; exact hb hT, fun q => by rw [a5b (fun z => by subst z; exact hb hT)]; exact q⟩⟩, T, rfl, .inl put_same⟩
theorem av3 {K : PySem.W.Frag} {Z : Zt} : ∀ {xs ys us : List V} {ds es : List D} {H H2 : Hp} {S : Reg}, ZpW xs ys H us H2 → InvS K Z H S → ShL Z S xs ds → ShL Z S ys es → ∃ S2, ExtS K Z H S H2 S2 ∧ ShL Z S2 us (ac9 ds es)
  | _, _, _, ds, es, H, _, S, .nil h, I, hx, hy => by
    refine ⟨S, ExtS.refl I, ?_⟩
    have e : ac9 ds es = [] := by
      rcases h with rfl | rfl
      · cases hx; simp [ac9]
      · cases hy
        cases ds <;> simp [ac9]
    rw [e]
    exact .nil
  | _, _, _, _ :: _, _ :: _, H, H2, S, .cons hn ho ew, I, .cons h1 t1, .cons h2 t2 => by
    obtain ⟨S1, e1, q1⟩ := tup_new I h1 h2 hn ho
    obtain ⟨S2, e2, q2⟩ := av3 ew e1.inv (ShL.mono t1 e1.le) (ShL.mono t2 e1.le)
    exact ⟨S2, e1.thn e2, .cons (q1.mono e2.le) q2⟩
theorem Gives.ext {K : PySem.W.Frag} {Z : Zt} {H H2 : Hp} {S S2 : Reg} {d : D} {Q : VK} (g : Gives K Z H S d Q) (e : ExtS K Z H S H2 S2) : Gives K Z H2 S2 d Q := fun v H' S' A e2 q nd fr => by
  refine g v H' S' A (e.thn e2) q nd fun b hb => ?_
  cases z : H b with
  | none => rfl
  | some u =>
    have := (e.keep b (by rw [z]; exact nofun)).1
    rw [fr b hb, z] at this; cases this
section
variable {X : Cx} {Z : Zt} {W : WX}
theorem a84 {e1 e2 : Expr} {f : M (List Opd)} {p p2 q pos : Pos} (hc : X.calm = true) (hm : X.mg "tuple" = none) (hm2 : X.mg "zip" = none) (ha : SA X Z W [e1, e2] f) (hg : Gl X "tuple" := by rfl) (hg2 : Gl X "zip" := by rfl)
    (hs : starEach [e1, e2] X.env = (false, eval e1 X.env) :: starEach [e2] X.env := by rfl) (hpl : (backTo q (starEach [e2] X.env)).any (·.1) = false := by rfl) (ne : starEach [.Call (.Name "zip" p2) [e1, e2] [] q] X.env = (false, eval (.Call (.Name "zip" p2) [e1, e2] [] q) X.env) :: starEach [] X.env := by rfl) :
    SE X Z W (.Call (.Name "tuple" p) [.Call (.Name "zip" p2) [e1, e2] [] q] [] pos) (tzM f) := by
  obtain ⟨t, h1, h2⟩ := ha
  refine ⟨_, av6 hc hg hm hg2 hm2 h1 hs hpl ne, fun O H S R ρ σ Q r h => h2 O H S R ρ σ _ r ?_⟩
  unfold tzM M.bind at h
  cases e : f ρ with
  | bad => rw [e] at h; exact h.elim
  | ex x ρ1 => rw [e] at h; exact h
  | ok os ρ1 =>
    rw [e] at h
    intro vs H1 S1 A l q nd dj r1 f1
    simp only at h
    cases e2 : vas os with
    | none => rw [e2] at h; exact h.elim
    | some ds =>
      rw [e2] at h
      simp only at h
      have qo := a6c q e2
      obtain ⟨S2, l2, q2, r2⟩ := r1.freezeL qo nd dj
      split at h
      · rename_i a b e3
        rw [e3] at q2
        cases q2 with
        | cons a1 q2 => cases q2 with
          | cons a2 q2 =>
            cases q2
            split at h
            · rename_i xs ys x1 x2
              split at h
              · rename_i few
                obtain ⟨c1, rfl, g1⟩ := b1s r2.inv a1 x1
                obtain ⟨c2, rfl, g2⟩ := b1s r2.inv a2 x2
                obtain ⟨ws, wa, sh1⟩ := g1 H1 S2 r2.inv (Le.refl S2)
                obtain ⟨us, ua, sh2⟩ := g2 H1 S2 r2.inv (Le.refl S2)
                have g := a3d (W := W) r2 (EPost.weak h (l.trans l2) f1)
                rw [a6q, ← u5 sh1, ← u5 sh2] at few
                refine ⟨c1, c2, ws, us, rfl, wa, ua, by rw [sizeLine_eq]; omega, fun vs2 H2 ew => ?_⟩
                obtain ⟨S3, x3, sh3⟩ := av3 ew r2.inv sh1 sh2
                exact a4u (g.ext x3) x3.inv sh3
              · exact h.elim
            · exact h.elim
      · exact h.elim
end
theorem b4w {f : M (List Opd)} {ρ : Env} {Q : D → Env → Prop} (h : WE (f ρ) fun os ρ1 => TV os fun ds => ∃ a b xs ys, frL ds = [a, b] ∧ aj2 a = some xs ∧ aj2 b = some ys ∧ (ac9 xs ys).length ≤ 100000 ∧ Q (.tup (ac9 xs ys)) ρ1) : WE (tzM f ρ) Q := by
  obtain ⟨os, ρ1, e1, ds, e2, a, b, xs, ys, e3, e4, e5, e6, h⟩ := h
  refine a6w (ρ := ρ1) ?_ h
  unfold tzM M.bind
  simp only [e1, e2, e3, e4, e5, e6, if_true]
end Dv
namespace Dv
open PySem L2 PySem.Spec PyProof.Rows
theorem a86 {h : Heap} : ∀ {ns : List Int} {us : List Value}, Vals (ns.map V.int) us → ReadsAll h us (ns.map PyData.int) []
  | [], us, r => by
    rw [List.map_nil] at r
    cases r
    exact .nil
  | n :: ns, us, r => by
    rw [List.map_cons] at r
    cases r with
    | cons r1 r2 =>
      obtain ⟨t, rfl⟩ := r1
      exact .cons (as := []) (bs := []) (.int n t) (a86 r2)
theorem b8n (ns : List Int) : PySem.W.AlikeAll (ns.map PyData.int) :=
  ⟨fun x hx y hy => by
    obtain ⟨a, _, rfl⟩ := List.mem_map.mp hx
    obtain ⟨b, _, rfl⟩ := List.mem_map.mp hy
    simp [PySem.W.alike], fun x hx => by
    obtain ⟨a, _, rfl⟩ := List.mem_map.mp hx
    exact PyData.noConfusion⟩
theorem depth_ints : ∀ ns : List Int, PyData.depthAll (ns.map PyData.int) ≤ 1
  | [] => by simp [PyData.depthAll]
  | n :: ns => by
    have := depth_ints ns
    rw [List.map_cons]
    simp only [PyData.depthAll, PyData.depth]
    omega
def b8g (K : PySem.W.Frag) : List V → List V → Hp → VK → Prop := fun vs zs H Q => ∃ (a : Addr) (ns : List Int) (n : Int), vs = [V.ref a] ∧ zs = [.int n] ∧ SqL K H a (ns.map V.int) ∧ (ns = [] → Q (.int n) H) ∧ ∀ y ys, ns = y :: ys → Q (.int (ys.foldl min y)) H
theorem b1f {X : Cx} (hc : X.calm = true) (hu : X.A.units + 65 < cLine) : CallRK X (.builtin "min") [Str.ofString "default"] (b8g X.K) := by
  intro pins s σ H xs zs us ws Q I r1 r2 h
  obtain ⟨a, ns, n, rfl, rfl, hs, q0, q1⟩ := h
  obtain ⟨its, rv, hl, _⟩ := I.list hs
  rw [Vals.ref1 r1]
  cases r2 with
  | cons g1 g2 =>
    cases g2
    obtain ⟨t, rfl⟩ := g1
    have dp := depth_ints ns
    refine PySem.W.min_list_default (I.ok.hd hc) hl.isList (a86 rv) (b8n ns) (by omega) (fun e h' tk hk => ⟨.int n, H, I.kept hk, ⟨t, rfl⟩, q0 (by simpa using e)⟩) fun y ys i v h' tk bs e _ rd hk => ?_
    cases ns with
    | nil => cases e
    | cons m ms =>
      rw [List.map_cons] at e
      injection e with e1 e2
      subst e1
      subst e2
      rw [PySem.W.minD_ints] at rd
      cases rd
      exact ⟨.int (ms.foldl min m), H, I.kept hk, ⟨_, rfl⟩, q1 m ms rfl⟩
def ao0 (n : Int) : List D → Option D
  | [.lst _ ds] => match a2j ds with | some [] => some (.int n) | some (m :: ns) => some (.int (ns.foldl min m)) | none => none
  | _ => none
section
variable {X : Cx} {Z : Zt} {W : WX}
theorem b04 {e : Expr} {g : M (List Opd)} {n : Int} {j : Nat} {p cp kp pos : Pos} (hc : X.calm = true) (hu : X.A.units + 65 < cLine) (hm : X.mg "min" = none) (ha : SA X Z W [e] g) (hg : Gl X "min" := by rfl)
    (he : backTo pos (starEach [e] X.env) = (false, eval e X.env) :: backTo pos (starEach [] X.env) := by rfl) (hpl : (backTo pos (starEach [e] X.env)).any (·.1) = false := by rfl) :
    SE X Z W (.Call (.Name "min" p) [e] [⟨some (Str.ofString "default"), .Constant (.int n) j cp, kp⟩] pos) (a0e (ao0 n) g) := by
  obtain ⟨t, h1, h2⟩ := ha
  refine ⟨_, pe_callBK (b1f hc hu) hg hm boot_min h1 (pk_cons pe_int pk_nil) (by decide) (by decide) he hpl rfl rfl rfl, fun O H S R ρ σ Q r0 h => h2 O H S R ρ σ _ r0 ?_⟩
  unfold a0e M.bind at h
  cases e1 : g ρ with
  | bad => rw [e1] at h; exact h.elim
  | ex x ρ1 => rw [e1] at h; exact h
  | ok os ρ1 =>
    rw [e1] at h
    intro vs H1 S1 A l q nd dj r1 f1
    simp only at h
    cases e2 : a3p ρ1 os with
    | none => rw [e2] at h; exact h.elim
    | some ds =>
      rw [e2] at h
      simp only [a6f] at h
      cases e3 : ao0 n ds with
      | none => rw [e3] at h; exact h.elim
      | some d =>
        rw [e3] at h
        have hv := a6l r1 q e2
        have g' := a3d (W := W) r1.drop (EPost.weak h l f1)
        unfold ao0 at e3
        split at e3
        case h_2 => cases e3
        rename_i o xs
        obtain ⟨v, rfl, hvw⟩ := v1 hv
        obtain ⟨a, ws, rfl, haa, hw⟩ := hvw.lst r1.inv
        show ∃ _, _
        split at e3
        · rename_i e4
          cases e3
          obtain rfl := a4q hw e4
          exact ⟨a, [], n, rfl, rfl, SqL.of haa, fun _ => g'.flat r1.inv rfl, fun y ys z => (by cases z)⟩
        · rename_i m ns e4
          cases e3
          obtain rfl := a4q hw e4
          exact ⟨a, m :: ns, n, rfl, rfl, SqL.of haa, fun z => (by cases z), fun y ys z => (by cases z; exact g'.flat r1.inv rfl)⟩
        · cases e3
end
end Dv
namespace Dv
open PySem L2 PySem.Spec PyProof.Rows
theorem ax3 (a b : Addr) : Builtin.Dict.dictSlotArgs "__eq__" ⟨[.ref a, .ref b], []⟩ = pure (Value.ref a, Value.ref b) := by
  simp [Builtin.Dict.dictSlotArgs, Builtin.Dict.notOrdered, slotArgs]
section
variable {P : Program} {w : World} {A : Around} {E : Value → Shared → Prop} {s : Shared} {Q : Value → Shared → Prop}
theorem a9k {a b : Addr} {o p : Obj} {es fs : Array DictEntry} {ep fp : Nat} (ho : s.heap.get? a = some o) (hc : o.cls = .type "dict") (hd : o.data = .dict es ep) (hp : s.heap.get? b = some p) (hpc : p.cls = .type "dict") (hpd : p.data = .dict fs fp) (h0 : fs.size = 0)
    (za : (a == sysModules) = false) (zb : (b == sysModules) = false) (hu : A.units < cLine) (h : Q (.bool (decide (es.size = 0))) s) : wpAny (model P w) A (compareOp .Eq (.ref a) (.ref b)) Q E s := by
  show wpAny _ _ (richCompare .Eq _ _) _ _ _
  refine wpAny_richCompare_same_room (T := "dict") ⟨o, ho, hc⟩ ⟨p, hp, hpc⟩ F.slot_dict_eq (wpAny_call_entry F.slot_dict_eq ⟨o, ho, hc⟩ F.entry_dict_eq ?_ (F.args_dict_eq_2 _ _)) hu
  refine wpAny_bind (m := Builtin.Dict.dictSlotArgs "__eq__" _) (wpAny_of_eq (ax3 a b) ?_)
  refine wpAny_bind (m := isInstance (.ref b) (.type "dict")) (wpAny_isInstance (T := "dict") (b := true) ⟨p, hp, hpc⟩ (by rw [isSubtype_type]; kernel_rfl) ?_)
  simp only [Bool.not_true, Bool.false_eq_true, if_false]
  refine wpAny_bind (m := Builtin.Dict.addrOf (.ref a)) (wpAny_pure ?_)
  refine wpAny_bind (m := Builtin.Dict.addrOf (.ref b)) (wpAny_pure ?_)
  refine wpAny_bind ?_
  unfold Builtin.Dict.samePairs
  refine wpAny_bind (m := Builtin.Dict.showsAll a) ?_
  unfold Builtin.Dict.showsAll
  rw [za]
  refine wpAny_pure ?_
  refine wpAny_bind (m := Builtin.Dict.showsAll b) ?_
  unfold Builtin.Dict.showsAll
  rw [zb]
  refine wpAny_pure ?_
  refine wpAny_bind (wpAny_dictEntries ho hd ?_)
  refine wpAny_bind (wpAny_dictEntries hp hpd ?_)
  rw [h0]
  by_cases z : es.size = 0
  · rw [z]
    simp only [bne_self_eq_false, Bool.false_eq_true, if_false]
    refine wpAny_bind (wpAny_dictEpoch ho hd ?_)
    rw [decide_eq_true z] at h
    refine wpAny_bind (wpAny_of_eq (a := ((none : Option Bool), ())) (by first | rfl | simp) (wpAny_pure (wpAny_pure ⟨_, rfl, by simp, h⟩)))
  · rw [if_pos (by simpa using z)]
    rw [decide_eq_false z] at h
    refine wpAny_bind (wpAny_rule (wpAny_pure ?_))
    exact wpAny_pure ⟨_, rfl, by simp, h⟩
end
def b7h : R2 := fun x y H Q => ∃ (a b : Addr) (kvs : List (Key × V)), x = .ref a ∧ y = .ref b ∧ Rd H a (.dK kvs) ∧ Rd H b (.dK []) ∧ Q (.bl (decide (kvs = []))) H
theorem b91 {X : Cx} (hu : X.A.units + 65 < cLine) : OpR X (compareOp .Eq) b7h := by
  intro pins s σ H x y v u Q I rx ry h
  obtain ⟨a, b, kvs, rfl, rfl, ha, hb, q⟩ := h
  cases rx
  cases ry
  obtain ⟨_, za, vs, r1, o, es, ep, eo, exd, hdat, _, he, _⟩ := dk_rd I.hok ha
  obtain ⟨_, zb, ws, r2, p, fs, fp, fo, fxd, fdat, _, hf, _⟩ := dk_rd I.hok hb
  have l1 : es.size = kvs.length := by
    have := he.length
    rw [Array.length_toList] at this
    rw [this]
    exact (Paired.length r1).symm
  have l2 : fs.size = 0 := by
    have := hf.length
    rw [Array.length_toList] at this
    rw [this]
    exact (Paired.length r2).symm
  refine a9k eo exd.1 hdat fo fxd.1 fdat l2 za zb (by omega) ⟨.bl (decide (kvs = [])), H, I, ?_, q⟩
  show Value.bool _ = Value.bool _
  rw [l1]
  cases kvs <;> simp
def ab5 : D → D → Option D
  | .dic _ false ks vs, .dic _ false [] [] => some (.bl (decide (ks = [])))
  | _, _ => none
theorem b89 {K : PySem.W.Frag} {Z : Zt} : a8n K Z b7h ab5 := by
  intro H S x y dx dy d Q I vx vy e g
  unfold ab5 at e
  split at e
  case h_2 => cases e
  rename_i o1 ks vs o2
  cases e
  obtain ⟨a, ws, rfl, ha, hw⟩ := vx.dic I
  obtain ⟨b, us, rfl, hb, hu⟩ := vy.dic I
  rcases ha with ⟨_, kk, rfl, hnd, hl, ha⟩ | ⟨z, _⟩
  case inr => cases z
  rcases hb with ⟨_, jj, ej, hnd2, hl2, hb⟩ | ⟨z, _⟩
  case inr => cases z
  have : jj = [] := List.map_eq_nil_iff.mp ej.symm
  subst this
  refine ⟨a, b, kk.zip ws, rfl, rfl, ha, hb, ?_⟩
  refine g.flat I ?_
  cases kk with
  | nil => rfl
  | cons k kk =>
    cases ws with
    | nil => cases hl
    | cons w ws => rfl
section
variable {X : Cx} {Z : Zt} {W : WX} {a b : Expr} {f g : M Opd} {pos : Pos}
theorem b6j (hu : X.A.units + 65 < cLine) (ha : SO X Z W a f) (hb : SO X Z W b g) : ST X Z W (.Compare a [.Eq] [b] pos) (tst (op2 ab5 f g)) := a76 (b91 hu) b89 ha hb (nomark _)
end
end Dv
namespace Dv
open PySem L2 PySem.Spec PyProof.Rows
theorem b3p {ys : List V} : ∀ {us : List Value}, us.length = ys.length → (∀ (j : Nat) (v : Value), us[j]? = some v → ∃ y, ys[j]? = some y ∧ RelV y v) → Vals ys us := by
  induction ys with
  | nil =>
    intro us h _
    cases us with
    | nil => exact .nil
    | cons _ _ => simp at h
  | cons y ys ih =>
    intro us h g
    cases us with
    | nil => simp at h
    | cons u us =>
      obtain ⟨z, e, r⟩ := g 0 u rfl
      cases e
      exact .cons r (ih (by simpa using h) fun j v e => g (j + 1) v e)
def chs (x : Str) : List V := x.cps.toList.map fun c => V.str ⟨#[c]⟩
theorem am4 {X : Cx} (hc : X.calm = true) : CallR X (.type "list") (fun xs H Q => ∃ x : Str, xs = [.str x] ∧ x.length ≤ 1000000 ∧ ∀ p, H p = none → Q (.ref p) (upd H p (.lst (chs x)))) := by
  intro pins s σ H xs us Q I r q
  obtain ⟨x, rfl, hl, q⟩ := q
  obtain ⟨u, rfl, t, rfl⟩ := vals1 r
  have hl2 : x.cps.size ≤ sizeLine := a0r hl
  have hlen : (chs x).length = x.cps.size := by unfold chs; rw [List.length_map, Array.length_toList]
  refine call_list_str (I.ok.hd hc) x t (fun h' tk acc c' hk hD hacc => ?_) hl2
  have hv : Vals (chs x) acc.toList := b3p (by rw [Array.length_toList, hacc.1, hlen]) fun j v e => by
    obtain ⟨c, u, hc, rfl⟩ := hacc.2 j v (by rw [← Array.getElem?_toList]; exact e)
    exact ⟨.str ⟨#[c]⟩, by unfold chs; rw [List.getElem?_map, Array.getElem?_toList, hc]; rfl, u, rfl⟩
  exact ⟨.ref s.heap.objs.size, upd H s.heap.objs.size (.lst (chs x)), I.laid (t' := tk) hk (Nat.le_refl _)
    (show ObjOk X.prog X.w _ _ _ (.lst (chs x)) from ⟨by rw [hlen]; exact hl2, acc.toList, c', hv, by rw [Array.toArray_toList]; exact hD⟩), rfl, q _ (I.hok.fresh (Nat.le_refl _))⟩
def ay4 : List D → Option D
  | [.str x] => if x.length ≤ 1000000 then some (.lst true (x.cps.toList.map sign)) else none
  | ds => a9t ds
def b28 (K : PySem.W.Frag) : List V → Hp → VK → Prop := fun xs H Q => (∃ p ys, xs = [.ref p] ∧ (SqL K H p ys ∨ SqT K H p ys) ∧ ∀ l, H l = none → Q (.ref l) (upd H l (.lst ys))) ∨
  ∃ x : Str, xs = [.str x] ∧ x.length ≤ 1000000 ∧ ∀ p, H p = none → Q (.ref p) (upd H p (.lst (chs x)))
theorem ao2 {X : Cx} (hc : X.calm = true) : CallR X (.type "list") (b28 X.K) := by
  intro pins s σ H xs us Q I r h
  rcases h with h | h
  · exact call_list_of pins s σ H xs us Q I r h
  · exact am4 hc pins s σ H xs us Q I r h
theorem b1u {Z : Zt} {S : Reg} : ∀ cs : List Nat, ShL Z S (cs.map fun c => V.str ⟨#[c]⟩) (cs.map sign) ∧ ∀ d ∈ cs.map sign, owned d = false
  | [] => ⟨.nil, fun _ h => nomatch h⟩
  | c :: cs => by
    obtain ⟨h1, h2⟩ := b1u (Z := Z) (S := S) cs
    exact ⟨.cons rfl h1, fun d hd => (List.mem_cons.mp hd).elim (fun z => z ▸ rfl) (h2 d)⟩
theorem b0g {K : PySem.W.Frag} {Z : Zt} : a5r K Z (b28 K) ay4 := by
  intro H S vs ds d Q I hv e g
  unfold ay4 at e
  split at e
  · rename_i x
    split at e
    case isFalse => cases e
    rename_i hl
    cases e
    obtain ⟨v, rfl, h⟩ := v1 hv
    obtain rfl := h.str
    obtain ⟨h1, h2⟩ := b1u (Z := Z) (S := S) x.cps.toList
    exact .inr ⟨x, rfl, hl, fun l hl' => a1d g I h1 h2 hl'⟩
  · exact .inl (a9x H S vs _ d Q I hv e g)
end Dv
namespace Dv
open PySem L2 PySem.Spec PyProof.Rows
def rSortT (X : Cx) : List V → Hp → VK → Prop := fun vs H Q => ∃ (a : Addr) (bs : List (D × V)), vs = [V.ref a] ∧ SqT X.K H a (bs.map (·.2)) ∧ bs.length ≤ 1000000 ∧ (∀ b ∈ bs, Dp X.K H b.2 (encD b.1) ∧ (encD b.1).depth ≤ 60) ∧
  (PySem.W.CmbL (bs.map fun b => encD b.1) ∨ (PySem.W.AllAlike (bs.map fun b => encD b.1) ∧ PySem.W.Sortable (bs.map fun b => encD b.1))) ∧ ∀ p, H p = none → Q (.ref p) (upd H p (.lst ((bs.mergeSort (PySem.W.dataLe false fun b => encD b.1)).map (·.2))))
theorem cr_sortT {X : Cx} (hc : X.calm = true) (hu : X.A.units + 65 < cLine) : CallR X (.builtin "sorted") (rSortT X) := by
  intro pins s σ H vs us Q I r h
  obtain ⟨a, bs, rfl, hs, hl, hd, ho, q⟩ := h
  rw [Vals.ref1 r]
  refine Calls.call_function_entry PyProof.Rows.kind_sorted PyProof.Rows.plain_sorted PyProof.Rows.entry_sorted (PyProof.Rows.args_sorted1 _) ?_
  unfold Builtin.«sorted»
  refine wpAny_bind (m := checkCount "sorted" 1 1 _) (wpAny_pure ?_)
  obtain ⟨its, rv, pl, hz⟩ := I.tuple hs
  obtain ⟨o0, ho0, hc0, n0, hd0⟩ := pl
  refine wpAny_bind (wpAny_collect_seq (A := X.A.in1) a (.inr rfl) ho0 hc0 hd0 (fun h' hk => ?_) (by rw [List.size_toArray, ← rv.length]; exact hz))
  obtain ⟨tk, etk⟩ : ∃ tk, tk = s.toks := ⟨_, rfl⟩
  show wpAny _ _ _ _ _ { s with heap := h', toks := s.toks }
  rw [← etk]
  have hv := rv
  rw [show its.toArray.toList = its by simp]
  obtain ⟨us2, eus⟩ : ∃ us2, us2 = its := ⟨_, rfl⟩
  rw [← eus] at hv ⊢
  have I1 : Inv X pins σ H { s with heap := h', toks := tk } := I.kept hk
  have hul : us2.length = bs.length := by rw [← hv.length, List.length_map]
  refine wpAny_bind (wpAny_newList ?_ (by rw [hul]; exact a0r hl))
  have hoL : (h'.push (seqObj "list" us2.toArray 0)).get? h'.objs.size = some (seqObj "list" us2.toArray 0) := Heap.get?_push_size _ rfl
  show wpAny _ _ _ _ _ { s with heap := h'.push (seqObj "list" us2.toArray 0), toks := tk }
  have e0 := a6o hv
  have I2 : Inv X pins σ H { s with heap := h'.push (seqObj "list" us2.toArray 0), toks := tk } := I.kept fun b o e => Heap.get?_push_of_some _ (hk b o e)
  have I2 : Inv X pins σ H { s with heap := PySem.W.sortingHeap (h'.push (seqObj "list" us2.toArray 0)) h'.objs.size us2, toks := tk } := I.kept fun b o e => by
    have q := hk b o e
    exact PySem.W.sortingHeap_old (Nat.ne_of_lt (Heap.lt_size q)) (Heap.get?_push_of_some _ q)
  have ed : PySem.W.EachIs (fun v d => ∃ as, Reads (PySem.W.sortingHeap (h'.push (seqObj "list" us2.toArray 0)) h'.objs.size us2) v d as) us2 (bs.map fun b => encD b.1) := by
    have : ∀ {bs : List (D × V)} {us : List Value}, (∀ b ∈ bs, Dp X.K H b.2 (encD b.1) ∧ (encD b.1).depth ≤ 60) → PySem.W.EachIs (fun v b => RelV b.2 v) us bs → PySem.W.EachIs (fun v d => ∃ as, Reads (PySem.W.sortingHeap (h'.push (seqObj "list" us2.toArray 0)) h'.objs.size us2) v d as) us (bs.map fun b => encD b.1) := by
      intro bs us h e
      induction e with
      | nil => exact .nil
      | cons r t ih => exact .cons (Dp.reads I2 _ _ _ (h _ List.mem_cons_self).1 r) (ih fun b hb => h b (List.mem_cons_of_mem _ hb))
    exact this hd e0
  have hdep : ∀ d ∈ bs.map (fun b => encD b.1), X.A.in1.in1.units + d.depth < cLine := fun d hd' => by
    obtain ⟨b, hb, rfl⟩ := List.mem_map.mp hd'
    have := (hd b hb).2
    simp only [Around.in1]
    omega
  have fin : ∀ out : List Value, out.length = us2.length → PySem.W.EachIs (fun v b => RelV b.2 v) out (bs.mergeSort (PySem.W.dataLe false fun b => encD b.1)) →
      EP X pins σ Q (.ref h'.objs.size) { s with heap := sortedHeap (h'.push (seqObj "list" us2.toArray 0)) h'.objs.size us2 out.toArray, toks := tk } := fun out _ eo => by
    obtain ⟨n, hn⟩ := PyProof.Rows.sortedHeap_at (vs := us2) (out := out.toArray) hoL
    have hv2 := a6s eo
    have hlen : ((bs.mergeSort (PySem.W.dataLe false fun b => encD b.1)).map (·.2)).length ≤ sizeLine := by
      rw [List.length_map, (List.mergeSort_perm _ _).length_eq]; exact a0r hl
    refine ⟨.ref _, _, I1.laid (t' := tk) (fun b u e => ?_) (Nat.le_refl _) (show ObjOk X.prog X.w _ _ _ (.lst ((bs.mergeSort (PySem.W.dataLe false fun b => encD b.1)).map (·.2))) from ⟨hlen, out, n, hv2, hn⟩), rfl, q _ (I1.hok.fresh (Nat.le_refl _))⟩
    have hb : b < h'.objs.size := Heap.lt_size e
    rw [PyProof.Rows.sortedHeap_old (Nat.ne_of_lt hb) (by rw [size_push']; exact Nat.lt_succ_of_lt hb)]
    exact Heap.get?_push_of_some _ e
  rcases ho with hC | ⟨hA, hS⟩
  · refine wpAny_bind (wpAny_holding (wpAny_call_entry PyProof.Rows.slot_list_sort ⟨_, hoL, rfl⟩ PyProof.Rows.entry_list_sort
      (PySem.W.list_sort_vals (κ := PySem.W.dataKind (PySem.W.sortingHeap (h'.push (seqObj "list" us2.toArray 0)) h'.objs.size us2) (bs.map fun b => encD b.1)) (s := { s with heap := h'.push (seqObj "list" us2.toArray 0), toks := tk }) hoL
        (PySem.W.SortsAt.cmb (s := { s with heap := PySem.W.sortingHeap (h'.push (seqObj "list" us2.toArray 0)) h'.objs.size us2, toks := tk }) ed hC hdep) (by rw [hul]; exact a0r hl) ⟨_, rfl, ?_⟩)
      (PyProof.Rows.args_list_sort _)))
    have eo := PySem.W.sortVals_each (rev := false) (κ := PySem.W.dataKind (PySem.W.sortingHeap (h'.push (seqObj "list" us2.toArray 0)) h'.objs.size us2) (bs.map fun b => encD b.1)) (fun b : D × V => PySem.W.keyToks (encD b.1)) e0 (PySem.W.each_of_map (fun b : D × V => encD b.1) (PySem.W.each_keys' hC.plain ed))
    exact wpAny_pure ⟨_, rfl, fin _ (PySem.W.sortVals_length false rfl) eo⟩
  · refine wpAny_bind (wpAny_holding (wpAny_call_entry PyProof.Rows.slot_list_sort ⟨_, hoL, rfl⟩ PyProof.Rows.entry_list_sort
      (PySem.W.list_sort_vals (κ := PySem.W.dataKind (PySem.W.sortingHeap (h'.push (seqObj "list" us2.toArray 0)) h'.objs.size us2) (bs.map fun b => encD b.1)) (s := { s with heap := h'.push (seqObj "list" us2.toArray 0), toks := tk }) hoL
        (PySem.W.SortsAt.data (s := { s with heap := PySem.W.sortingHeap (h'.push (seqObj "list" us2.toArray 0)) h'.objs.size us2, toks := tk }) ed hA hS hdep) (by rw [hul]; exact a0r hl) ⟨_, rfl, ?_⟩)
      (PyProof.Rows.args_list_sort _)))
    have er' : PySem.W.EachIs (fun v b => ∃ as, Reads (PySem.W.sortingHeap (h'.push (seqObj "list" us2.toArray 0)) h'.objs.size us2) v (encD b.1) as) us2 bs := PySem.W.each_of_map (fun b : D × V => encD b.1) ed
    exact wpAny_pure ⟨_, rfl, fin _ (PySem.W.sortVals_length false rfl) (PySem.W.sortVals_data false e0 er' hA)⟩
open Classical in
noncomputable def ax7 : List D → Option D
  | [.tup xs] => if af7 xs then some (.lst true (xs.mergeSort a3g)) else none
  | ds => a5v ds
def b1p (X : Cx) : List V → Hp → VK → Prop := fun vs H Q => aq0 X vs H Q ∨ rSortT X vs H Q
theorem b0t {X : Cx} (hc : X.calm = true) (hu : X.A.units + 65 < cLine) : CallR X (.builtin "sorted") (b1p X) := by
  intro pins s σ H vs us Q I r h
  rcases h with h | h
  · exact a6n hc hu pins s σ H vs us Q I r h
  · exact cr_sortT hc hu pins s σ H vs us Q I r h
theorem b1h {X : Cx} {Z : Zt} (hw : Z.wo = X.w) : a5r X.K Z (b1p X) ax7 := by
  intro H S vs ds d Q I hv e g
  unfold ax7 at e
  split at e
  · rename_i xs
    split at e
    case isFalse => cases e
    rename_i hc
    cases e
    obtain ⟨hp, hl, h1, h2⟩ := hc
    obtain ⟨v, rfl, h⟩ := v1 hv
    obtain ⟨a, ws, rfl, ha, hs⟩ := h.tup I
    have hlen := u5 hs
    obtain ⟨z1, z2⟩ := a8i (xs := xs) (ys := ws) hlen.symm
    have e1 : (xs.zip ws).map (fun b => encD b.1) = xs.map encD := by
      rw [show (fun b : D × V => encD b.1) = encD ∘ Prod.fst from rfl, ← List.map_map, z1]
    have hm : ∀ b ∈ xs.zip ws, Sh Z S b.2 b.1 := a4g hs
    refine .inr ⟨a, xs.zip ws, rfl, by rw [z2]; exact ha.sq, by rw [List.length_zip]; omega, fun b hb => ?_, by rw [e1]; exact h2, fun p hp' => ?_⟩
    · have hbx : b.1 ∈ xs := by rw [← z1]; exact List.mem_map.mpr ⟨b, hb, rfl⟩
      obtain ⟨p, ep, dp⟩ := h1 b.1 hbx
      have sh := hm b hb
      have : encD b.1 = p := by unfold encD; rw [ep]; rfl
      rw [this]
      exact ⟨a2h I b.1 (sh.view I) ep, dp⟩
    · have hm2 : ∀ b ∈ (xs.zip ws).mergeSort (PySem.W.dataLe false fun b => encD b.1), Sh Z S b.2 b.1 := fun b hb => hm b ((List.mergeSort_perm _ _).mem_iff.mp hb)
      have e2 : ((xs.zip ws).mergeSort (PySem.W.dataLe false fun b => encD b.1)).map (·.1) = xs.mergeSort a3g := (List.map_mergeSort (r := PySem.W.dataLe false fun b : D × V => encD b.1) (f := fun b : D × V => b.1) (s := a3g) (l := xs.zip ws) fun _ _ _ _ => rfl).trans (congrArg (fun l => List.mergeSort l a3g) z1)
      refine a1d g I ?_ (fun d hd => ?_) hp'
      · rw [← e2]; exact a5e hm2
      · exact z9 hp d ((List.mergeSort_perm _ _).mem_iff.mp hd)
  · exact .inl (a6j hw H S vs _ d Q I hv e g)
theorem b4g {ds : List D} (h : af7 ds) : ax7 [.tup ds] = some (.lst true (ds.mergeSort a3g)) := if_pos h
end Dv
namespace K78
open PySem L2 PySem.Spec PyProof.Rows Dv
noncomputable section
def a6e : C := (a69 (joinM "" (lcM (itD (rdN 0)) (putS 2) a8o (aq3 (nmN 1) (nmN 2) (rdN 2)) [2])))
def a2k : List D → RF := a8m [false, false] 3 a6e
def a3v : C := (a09 (setC 4 (op2 ixD (nmN 0) (va (cst (.int 0)))))
  (a09 (ifC (tst (op2 inD (nmN 4) (va (a1u (d9 (va (cst (.str "brand"))) (d9 (va (cst (.str "drop"))) t8)))))) (a69 (a1u (d9 (va (rdN 4)) (d9 (va (op2 ixD (nmN 1) (va (op2 ixD (nmN 0) (va (cst (.int 1))))))) (d9 (va (callC [false, false] a2k (d9 (va (op2 ixD (nmN 0) (va (cst (.int 2))))) (d9 (va (rdN 2)) t8)))) (d9 (va (op2 ixD (nmN 0) (va (cst (.int 3))))) t8)))))) nxC)
  (a09 (ifC (tst (op2 eqD (nmN 4) (va (cst (.str "put"))))) (a09 (setC 5 (a0e a2w (d9 (va (lcM (itD (op2 ixD (nmN 0) (va (cst (.int 3))))) (putS 6) a8o (callC [false, false] a2k (d9 (va (rdN 6)) (d9 (va (rdN 2)) t8))) [6])) t8)))
  (a69 (op2 a5s (va (a1u (d9 (va (rdN 4)) (d9 (va (op2 ixD (nmN 3) (va (op2 ixD (nmN 0) (va (cst (.int 1))))))) (d9 (va (op2 ixD (nmN 0) (va (cst (.int 2))))) (d9 (va (rdN 5)) t8)))))) (va (slM (nmN 0) (a85 (cst (.int 4))) a6k))))) nxC)
  (a09 (ifC (tst (op2 inD (nmN 4) (va (a1u (d9 (va (cst (.str "by"))) (d9 (va (cst (.str "sink"))) (d9 (va (cst (.str "rise"))) (d9 (va (cst (.str "sell"))) t8)))))))) (a69 (op2 a5s (va (a1u (d9 (va (rdN 4)) (d9 (va (op2 ixD (nmN 3) (va (op2 ixD (nmN 0) (va (cst (.int 1))))))) t8)))) (va (slM (nmN 0) (a85 (cst (.int 2))) a6k)))) nxC)
  (a09 (ifC (tst (op2 eqD (nmN 4) (va (cst (.str "owns"))))) (a69 (a1u (d9 (va (rdN 4)) (d9 (va (op2 ixD (nmN 0) (va (cst (.int 1))))) (d9 (va (op2 ixD (nmN 1) (va (op2 ixD (nmN 0) (va (cst (.int 2))))))) (d9 (va (op2 ixD (nmN 0) (va (cst (.int 3))))) t8)))))) nxC)
  (a69 (rdN 0)))))))
def a2b : List D → RF := a8m [false, false, false, false] 7 a3v
def a7z : C := (a09 (a8r (a1u (d9 (va (a0e dcM (d9 (nmN 1) t8))) (d9 (va (a0e dcM (d9 (nmN 2) t8))) (d9 (va (a0e dcM (d9 (nmN 3) t8))) t8)))) (a9a 3 (a0f (putS 1) (a0f (putS 2) (a0f (putS 3) a5x)))))
  (a69 (a0e a2w (d9 (va (a0e a5v (d9 (va (lcM (itD (rdN 0)) (a9a 2 (a0f (putS 5) (a0f (putS 6) a5x))) a8o (a1u (d9 (va (op2 a5s (nmN 5) (nmN 4))) (d9 (va (callC [false, false, false, false] a2b (d9 (va (rdN 6)) (d9 (va (rdN 1)) (d9 (va (rdN 2)) (d9 (va (rdN 3)) t8)))))) t8))) [5, 6])) t8))) t8))))
def a2s : List D → RF := a8m [false, false, false, false, false] 7 a7z
def a67 : C := (a69 (lstM (d9 (va (b5g (a0e a9t (d9 (va (slM (nmN 0) a6k (a85 (cst (.int 63))))) t8)))) (d9 (va (cst (.int 0))) (d9 (va (cst (.int 0))) (d9 (va (cst (.int 0))) t8))))))
def a3o : List D → RF := a8m [false] 1 a67
def a4o : C := (a09 (az3 0 (cst (.int 3)) (op2 a5s (va (op2 ixD (nmN 0) (va (cst (.int 3))))) (va (cst (.int 1)))))
  (a09 (ifC (tst (op2 gtD (va (op2 ixD (nmN 0) (va (cst (.int 2))))) (va (cst (.int 0))))) (a09 (setC 5 (op2 ae3 (va (op2 ixD (nmN 0) (va (cst (.int 2))))) (nmN 1)))
  (a09 (az3 0 (cst (.int 2)) (op2 a8u (va (op2 ixD (nmN 0) (va (cst (.int 2))))) (nmN 1)))
  (a69 (rdN 5)))) nxC)
  (a09 (setC 2 (op2 ixD (nmN 0) (va (cst (.int 1)))))
  (a09 (az3 0 (cst (.int 1)) (op2 a5s (nmN 2) (va (cst (.int 1)))))
  (a09 (setC 3 (ifM (tst (op2 neD (va (op2 ixD (nmN 0) (va (cst (.int 0))))) (va (lstM t8)))) (op2 ixD (va (op2 ixD (nmN 0) (va (cst (.int 0))))) (va (op2 ae3 (nmN 2) (va (a0e ai0 (d9 (va (op2 ixD (nmN 0) (va (cst (.int 0))))) t8)))))) (cst (.int 14))))
  (a09 (ifC (andM (tst (op2 geD (nmN 3) (va (op2 b41 (va (cst (.int 10))) (va (cst (.int 18))))))) (tst (op2 ltD (nmN 2) (va (a0e ai0 (d9 (va (op2 ixD (nmN 0) (va (cst (.int 0))))) t8)))))) (a09 (az3 0 (cst (.int 2)) (op2 a8u (nmN 3) (nmN 1)))
  (a69 (op2 ae3 (nmN 3) (nmN 1)))) nxC)
  (a09 (setC 4 (op2 ae3 (va (op2 a5s (va (op2 a5s (va (op2 ae3 (nmN 3) (va (cst (.int 2147483647))))) (va (op2 al8 (va (cst (.int 40823))) (va (op2 ixD (nmN 0) (va (cst (.int 3))))))))) (va (cst (.int 31))))) (va (cst (.int 2147483629)))))
  (a09 (setC 4 (op2 ae3 (va (op2 a5s (va (op2 a5s (va (op2 al8 (nmN 4) (nmN 4))) (va (op2 al8 (va (cst (.int 27011))) (va (op2 ixD (nmN 0) (va (cst (.int 3))))))))) (va (cst (.int 3))))) (va (cst (.int 2147483587)))))
  (a09 (setC 4 (op2 ae3 (va (op2 a5s (va (op2 a5s (va (op2 al8 (nmN 4) (nmN 4))) (va (op2 al8 (va (cst (.int 13007))) (nmN 4))))) (va (cst (.int 1))))) (va (cst (.int 2147483579)))))
  (a69 (op2 ae3 (va (op2 a8u (nmN 4) (va (cst (.int 256))))) (nmN 1))))))))))))
def j9 : List D → RF := a8m [true, false] 6 a4o
def a4a : C := (a09 (setC 1 (op2 ixD (va (lstM (d9 (va (cst (.int 0))) (d9 (va (cst (.int 1))) (d9 (va (cst (.int 2))) (d9 (va (cst (.int 3))) (d9 (va (cst (.int 4))) (d9 (va (cst (.int 5))) (d9 (va (cst (.int 6))) (d9 (va (cst (.int 12))) t8)))))))))) (va (callC [true, false] j9 (d9 (nmN 0) (d9 (va (cst (.int 8))) t8))))))
  (a09 (setC 2 (callC [true, false] j9 (d9 (nmN 0) (d9 (va (cst (.int 3))) t8))))
  (a09 (setC 3 (lstM t8))
  (a09 (az4 (ap0 (d9 (nmN 1) t8)) (putS 4) (a09 (setC 5 (ifM (orM (tst (op2 eqD (nmN 2) (va (cst (.int 0))))) (tst (op2 gtD (va (callC [true, false] j9 (d9 (nmN 0) (d9 (va (cst (.int 3))) t8)))) (va (cst (.int 0)))))) (rdN 4) (callC [true, false] j9 (d9 (nmN 0) (d9 (va (op2 a5s (nmN 4) (va (cst (.int 1))))) t8)))))
  (b1i (ao7 3 (a1u (d9 (va (rdN 5)) (d9 (va (op2 a5s (va (cst (.int 1))) (va (callC [true, false] j9 (d9 (nmN 0) (d9 (va (op2 ixD (va (lstM (d9 (va (cst (.int 5))) (d9 (va (cst (.int 100))) t8)))) (va (callC [true, false] j9 (d9 (nmN 0) (d9 (va (cst (.int 2))) t8)))))) t8)))))) t8)))))))
  (a69 (a0e a2w (d9 (nmN 3) t8)))))))
def a1w : List D → RF := a8m [true] 6 a4a
def a3n : C := (a09 (setC 1 (lstM (d9 (va (cst (.str "A"))) (d9 (va (cst (.str "B"))) (d9 (va (cst (.str "AB"))) (d9 (va (cst (.str "A?"))) (d9 (va (cst (.str "?"))) (d9 (va (cst (.str "??"))) (d9 (va (cst (.str "ABDE"))) (d9 (va (cst (.str "A?D?"))) (d9 (va (cst (.str "Z"))) (d9 (va (cst (.str "????"))) t8))))))))))))
  (a69 (a0e a2w (d9 (va (lcM (ap0 (d9 (va (callC [true, false] j9 (d9 (nmN 0) (d9 (va (cst (.int 4))) t8)))) t8)) (putS 2) a8o (op2 ixD (nmN 1) (va (callC [true, false] j9 (d9 (nmN 0) (d9 (va (cst (.int 10))) t8))))) [2])) t8))))
def a1i : List D → RF := a8m [true] 3 a3n
def a4i : C := (a09 (setC 3 (op2 ixD (va (lstM (d9 (va (cst (.str "a"))) (d9 (va (cst (.str "ab"))) (d9 (va (cst (.str "ann"))) (d9 (va (cst (.str "by"))) (d9 (va (cst (.str "zzzzzzzz"))) t8))))))) (va (callC [true, false] j9 (d9 (nmN 0) (d9 (va (cst (.int 5))) t8))))))
  (a09 (setC 4 (op2 ixD (va (lstM (d9 (va (cst (.str "A"))) (d9 (va (cst (.str "AB"))) (d9 (va (cst (.str "B"))) (d9 (va (cst (.str "ABDE"))) t8)))))) (va (callC [true, false] j9 (d9 (nmN 0) (d9 (va (cst (.int 4))) t8))))))
  (a09 (setC 5 (op2 ixD (va (lstM (d9 (va (callC [true, false] j9 (d9 (nmN 0) (d9 (va (cst (.int 4))) t8)))) (d9 (va (callC [true, false] j9 (d9 (nmN 0) (d9 (va (cst (.int 1000001))) t8)))) t8)))) (va (op2 a8u (va (callC [true, false] j9 (d9 (nmN 0) (d9 (va (cst (.int 4))) t8)))) (va (cst (.int 3)))))))
  (a09 (setC 6 (lcM (ap0 (d9 (va (op2 a5s (va (a0e ai0 (d9 (nmN 1) t8))) (va (cst (.int 1))))) t8)) (putS 8) (orM (tst (op2 eqD (nmN 8) (nmN 2))) (tst (op2 eqD (va (callC [true, false] j9 (d9 (nmN 0) (d9 (va (cst (.int 4))) t8)))) (va (cst (.int 0)))))) (a1u (d9 (va (rdN 8)) (d9 (va (callC [true, false] j9 (d9 (nmN 0) (d9 (va (cst (.int 4))) t8)))) t8))) [8]))
  (a09 (setC 6 (a0e a2w (d9 (va (slM (nmN 6) a6k (a85 (cst (.int 7))))) t8)))
  (a09 (setC 7 (lstM (d9 (va (a1u (d9 (va (cst (.str "jam"))) (d9 (va (rdN 2)) t8)))) (d9 (va (a1u (d9 (va (cst (.str "free"))) (d9 (va (rdN 2)) t8)))) (d9 (va (a1u (d9 (va (cst (.str "shut"))) (d9 (va (rdN 2)) t8)))) (d9 (va (a1u (d9 (va (cst (.str "open"))) (d9 (va (rdN 2)) t8)))) (d9 (va (a1u (d9 (va (cst (.str "brand"))) (d9 (va (rdN 3)) (d9 (va (rdN 4)) (d9 (va (rdN 2)) t8)))))) t8)))))))
  (a09 (setC 7 (op2 a5s (nmN 7) (va (lstM (d9 (va (a1u (d9 (va (cst (.str "drop"))) (d9 (va (rdN 3)) (d9 (va (rdN 4)) (d9 (va (rdN 2)) t8)))))) (d9 (va (a1u (d9 (va (cst (.str "owns"))) (d9 (va (rdN 2)) (d9 (va (rdN 3)) (d9 (va (callC [true, false] j9 (d9 (nmN 0) (d9 (va (cst (.int 4))) t8)))) t8)))))) (d9 (va (a1u (d9 (va (cst (.str "cost"))) (d9 (va (rdN 2)) (d9 (va (rdN 5)) t8))))) t8)))))))
  (a69 (op2 ixD (va (op2 a5s (nmN 7) (va (lstM (d9 (va (a1u (d9 (va (cst (.str "tally"))) (d9 (va (rdN 6)) t8)))) (d9 (va (a1u (d9 (va (cst (.str "reckon"))) t8))) (d9 (va (a1u (d9 (va (cst (.str "jam"))) (d9 (va (rdN 2)) t8)))) (d9 (va (a1u (d9 (va (cst (.str "brand"))) (d9 (va (rdN 3)) (d9 (va (rdN 4)) (d9 (va (rdN 2)) t8)))))) t8)))))))) (va (callC [true, false] j9 (d9 (nmN 0) (d9 (va (cst (.int 12))) t8)))))))))))))
def a2f : List D → RF := a8m [true, false, false] 9 a4i
def a2v : C := (a09 (setC 3 (lstM (d9 (va (cst (.int 1))) (d9 (va (cst (.int 2))) (d9 (va (cst (.int 9))) (d9 (va (cst (.int 10))) (d9 (va (cst (.int 11))) (d9 (va (cst (.int 99))) (d9 (va (cst (.int 100))) (d9 (va (cst (.int 999))) t8))))))))))
  (a09 (b4k 4 5 (d9 (va (callC [true, false] j9 (d9 (nmN 0) (d9 (va (cst (.int 16))) t8)))) (d9 (va (callC [true, false] j9 (d9 (nmN 0) (d9 (va (op2 a5s (va (a0e ai0 (d9 (nmN 1) t8))) (va (cst (.int 1))))) t8)))) t8)))
  (a09 (setC 6 (op2 ixD (nmN 3) (va (callC [true, false] j9 (d9 (nmN 0) (d9 (va (cst (.int 8))) t8))))))
  (a09 (ifC (tst (op2 gtD (nmN 4) (va (cst (.int 10))))) (a69 (callC [true, false, false] a2f (d9 (nmN 0) (d9 (va (rdN 1)) (d9 (va (rdN 5)) t8))))) nxC)
  (a09 (ifC (orM (tst (op2 ltD (nmN 4) (va (cst (.int 4))))) (tst (op2 ab5 (nmN 2) (va (fun ρ => .ok (.dic true false [] []) ρ))))) (a09 (az3 2 (rdN 6) (rdN 5))
  (a69 (a1u (d9 (va (cst (.str "put"))) (d9 (va (rdN 6)) (d9 (va (rdN 5)) (d9 (va (callC [true] a1i (d9 (nmN 0) t8))) (d9 (va (op2 a5s (va (cst (.int 1))) (va (callC [true, false] j9 (d9 (nmN 0) (d9 (va (cst (.int 60))) t8)))))) (d9 (va (op2 a5s (va (cst (.int 1))) (va (callC [true, false] j9 (d9 (nmN 0) (d9 (va (cst (.int 200))) t8)))))) t8))))))))) nxC)
  (a09 (setC 6 (op2 ixD (va (a0e a5v (d9 (va (a0e ax8 (d9 (nmN 2) t8))) t8))) (va (callC [true, false] j9 (d9 (nmN 0) (d9 (va (a0e ai0 (d9 (nmN 2) t8))) t8))))))
  (a09 (setC 7 (op2 ixD (nmN 2) (nmN 6)))
  (a09 (ifC (tst (op2 ltD (nmN 4) (va (cst (.int 8))))) (a09 (az3 2 (rdN 6) (ifM (tst (op2 gtD (nmN 7) (va (cst (.int 0))))) (op2 ixD (va (op2 ixD (nmN 1) (va (op2 b1o (nmN 7) (va (cst (.int 1))))))) (va (cst (.int 0)))) (cst (.int 0))))
  (a69 (a1u (d9 (va (cst (.str "by"))) (d9 (va (rdN 6)) (d9 (va (op2 ixD (nmN 2) (nmN 6))) t8)))))) nxC)
  (a69 (op2 ixD (va (lstM (d9 (va (a1u (d9 (va (cst (.str "sink"))) (d9 (va (rdN 6)) (d9 (va (rdN 7)) t8))))) (d9 (va (a1u (d9 (va (cst (.str "rise"))) (d9 (va (rdN 6)) t8)))) (d9 (va (a1u (d9 (va (cst (.str "sell"))) (d9 (va (rdN 6)) (d9 (va (rdN 7)) (d9 (va (callC [true, false] j9 (d9 (nmN 0) (d9 (va (cst (.int 1000001))) t8)))) t8)))))) t8))))) (va (op2 b1o (nmN 4) (va (cst (.int 8)))))))))))))))
def a0x : List D → RF := a8m [true, false, true] 8 a2v
def a4v : C := (a09 (aq4 3 4 5 (d9 (va (fun ρ => .ok (.dic true false [] []) ρ)) (d9 (va (lstM t8)) (d9 (va (cst (.int 0))) t8))))
  (a09 (setC 6 (op2 ixD (va (lstM (d9 (va (cst (.int 1))) (d9 (va (cst (.int 1))) (d9 (va (cst (.int 1600))) t8))))) (va (callC [true, false] j9 (d9 (nmN 0) (d9 (va (cst (.int 3))) t8))))))
  (a09 (az4 (ap0 (d9 (nmN 2) t8)) (putS 7) (a09 (setC 5 (op2 a5s (nmN 5) (va (op2 al8 (nmN 6) (va (callC [true, false] j9 (d9 (nmN 0) (d9 (va (cst (.int 3))) t8))))))))
  (a09 (setC 8 (a1u (d9 (va (rdN 5)) (d9 (va (callC [true, false, true] a0x (d9 (nmN 0) (d9 (va (rdN 1)) (d9 (nmN 3) t8))))) t8))))
  (a09 (setC 9 (op2 ltD (va (a0e ai0 (d9 (va (ag6 4 (lcM (itN 4) (putS 10) (tst (op2 eqD (va (op2 ixD (nmN 10) (va (cst (.int 1))))) (va (a1u (d9 (va (cst (.str "reckon"))) t8))))) (rdN 10) [10]))) t8))) (va (cst (.int 4)))))
  (ifC (andM (tst (op2 niD (nmN 8) (nmN 4))) (orM (tst (rdN 9)) (tst (op2 neD (va (op2 ixD (nmN 8) (va (cst (.int 1))))) (va (a1u (d9 (va (cst (.str "reckon"))) t8))))))) (b1i (ao7 4 (rdN 8))) nxC)))))
  (a69 (rdN 4)))))
def a2t : List D → RF := a8m [true, false, false] 11 a4v
def a4j : C := (a09 (b4k 3 4 (d9 (va (a0e ay4 (d9 (nmN 1) t8))) (d9 (va (lstM t8)) t8)))
  (a09 (az4 (ap0 (d9 (nmN 2) t8)) (putS 5) (b1i (ao7 4 (b90 3 (callC [true, false] j9 (d9 (nmN 0) (d9 (va (a0e ai0 (d9 (nmN 3) t8))) t8)))))))
  (a69 (a0e a5v (d9 (nmN 4) t8)))))
def a1t : List D → RF := a8m [true, false, false] 6 a4j
def a3l : C := (a09 (setC 2 (lstM (d9 (va (cst (.str "a"))) (d9 (va (cst (.str "ab"))) (d9 (va (cst (.str "ann"))) (d9 (va (cst (.str "by"))) (d9 (va (cst (.str "zzzzzzzz"))) t8)))))))
  (a09 (setC 3 (lstM (d9 (va (cst (.str "a"))) (d9 (va (cst (.str "aa"))) (d9 (va (cst (.str "ab"))) (d9 (va (cst (.str "abcdefgh"))) (d9 (va (cst (.str "ann"))) (d9 (va (cst (.str "b"))) (d9 (va (cst (.str "bob"))) (d9 (va (cst (.str "by"))) (d9 (va (cst (.str "c"))) (d9 (va (cst (.str "m"))) (d9 (va (cst (.str "put"))) (d9 (va (cst (.str "z"))) (d9 (va (cst (.str "zz"))) (d9 (va (cst (.str "zzzzzzzz"))) t8))))))))))))))))
  (a09 (setC 4 (tzM (d9 (va (rdN 2)) (d9 (va (callC [true, false, false] a1t (d9 (nmN 0) (d9 (va (rdN 3)) (d9 (va (cst (.int 5))) t8))))) t8))))
  (a09 (setC 5 (tzM (d9 (va (cst (.str "ABDEZ"))) (d9 (va (callC [true, false, false] a1t (d9 (nmN 0) (d9 (va (cst (.str "ABCDEFGHIJKLMNOPQRSTUVWXYZ"))) (d9 (va (cst (.int 5))) t8))))) t8))))
  (a09 (b4k 6 7 (d9 (va (lstM t8)) (d9 (va (cst (.int 0))) t8)))
  (a09 (az4 (ap0 (d9 (va (cst (.int 8))) t8)) (putS 8) (a09 (setC 7 (op2 a5s (va (op2 a5s (nmN 7) (va (cst (.int 1))))) (va (callC [true, false] j9 (d9 (nmN 0) (d9 (va (op2 ixD (va (lstM (d9 (va (cst (.int 1))) (d9 (va (cst (.int 120))) t8)))) (va (callC [true, false] j9 (d9 (nmN 0) (d9 (va (cst (.int 2))) t8)))))) t8))))))
  (b1i (ao7 6 (rdN 7)))))
  (a09 (setC 9 (tzM (d9 (va (lstM (d9 (va (cst (.int 1))) (d9 (va (cst (.int 2))) (d9 (va (cst (.int 9))) (d9 (va (cst (.int 10))) (d9 (va (cst (.int 11))) (d9 (va (cst (.int 99))) (d9 (va (cst (.int 100))) (d9 (va (cst (.int 999))) t8)))))))))) (d9 (va (rdN 6)) t8))))
  (a09 (setC 10 (a0e (ao0 0) (d9 (va (lcM (itD (rdN 1)) (a9a 2 (a0f (putS 11) (a0f (putS 12) a5x))) a8o (rdN 11) [11, 12])) t8)))
  (a69 (a1u (d9 (va (rdN 4)) (d9 (va (rdN 5)) (d9 (va (rdN 9)) (d9 (va (op2 ixD (va (lstM (d9 (va (cst (.int 0))) (d9 (va (cst (.int 7))) (d9 (va (cst (.int 9000))) (d9 (va (op2 b1o (va (cst (.int 0))) (nmN 10))) t8)))))) (va (callC [true, false] j9 (d9 (nmN 0) (d9 (va (cst (.int 4))) t8)))))) t8))))))))))))))
def a1k : List D → RF := a8m [true, false] 13 a3l
def a3i : C := (a09 (setC 2 (a0e dcM (d9 (nmN 0) t8)))
  (a69 (joinM "" (lcM (itD (rdN 1)) (putS 3) a8o (ifM (tst (op2 neD (nmN 3) (va (cst (.str "?"))))) (op2 ixD (nmN 2) (nmN 3)) (rdN 3)) [3]))))
def a0m : List D → RF := a8m [false, false] 4 a3i
def a3z : C := (a09 (a8r (rdN 0) (a9a 4 (a0f (putS 2) (a0f (putS 3) (a0f (putS 4) (a0f (putS 5) a5x))))))
  (a09 (setC 6 (lstM t8))
  (a09 (az4 (enM (d9 (va (op2 ixD (nmN 1) (va (cst (.int 1))))) t8)) (a9a 2 (a0f (putS 7) (a0f (putS 8) a5x))) (a09 (setC 9 (a1u (d9 (va (op2 ixD (va (op2 ixD (nmN 1) (va (cst (.int 1))))) (va (cst (.int 0))))) (d9 (va (rdN 7)) t8))))
  (a09 (ifC (tst (op2 inD (nmN 9) (va (a1u (d9 (va (a1u (d9 (va (cst (.str "brand"))) (d9 (va (cst (.int 1))) t8)))) (d9 (va (a1u (d9 (va (cst (.str "drop"))) (d9 (va (cst (.int 1))) t8)))) (d9 (va (a1u (d9 (va (cst (.str "owns"))) (d9 (va (cst (.int 2))) t8)))) t8))))))) (setC 8 (op2 ixD (va (a0e dcM (d9 (nmN 2) t8))) (nmN 8))) nxC)
  (a09 (ifC (tst (op2 inD (nmN 9) (va (a1u (d9 (va (a1u (d9 (va (cst (.str "brand"))) (d9 (va (cst (.int 2))) t8)))) (d9 (va (a1u (d9 (va (cst (.str "drop"))) (d9 (va (cst (.int 2))) t8)))) t8)))))) (setC 8 (callC [false, false] a0m (d9 (va (rdN 3)) (d9 (va (rdN 8)) t8)))) nxC)
  (a09 (ifC (tst (op2 eqD (nmN 9) (va (a1u (d9 (va (cst (.str "put"))) (d9 (va (cst (.int 3))) t8)))))) (setC 8 (a0e a2w (d9 (va (lcM (itD (rdN 8)) (putS 10) a8o (callC [false, false] a0m (d9 (va (rdN 3)) (d9 (va (rdN 10)) t8))) [10])) t8))) nxC)
  (a09 (ifC (andM (tst (op2 eqD (nmN 7) (va (cst (.int 1))))) (tst (op2 inD (va (op2 ixD (va (op2 ixD (nmN 1) (va (cst (.int 1))))) (va (cst (.int 0))))) (va (a1u (d9 (va (cst (.str "put"))) (d9 (va (cst (.str "by"))) (d9 (va (cst (.str "sink"))) (d9 (va (cst (.str "rise"))) (d9 (va (cst (.str "sell"))) t8)))))))))) (setC 8 (op2 ixD (va (a0e dcM (d9 (nmN 4) t8))) (nmN 8))) nxC)
  (b1i (ao7 6 (rdN 8)))))))))
  (a69 (a1u (d9 (va (op2 a5s (va (op2 ixD (nmN 1) (va (cst (.int 0))))) (nmN 5))) (d9 (va (a0e a2w (d9 (nmN 6) t8))) t8)))))))
def a1x : List D → RF := a8m [false, false] 11 a3z
def a3m : C := (a09 (a8r (rdN 0) (a9a 4 (a0f (putS 1) (a0f (putS 2) (a0f (putS 3) (a0f (putS 4) a5x))))))
  (a09 (setC 5 (lcM (itD (a1u (d9 (va (rdN 1)) (d9 (va (rdN 2)) (d9 (va (rdN 3)) t8))))) (putS 6) a8o (a0e a2w (d9 (va (lcM (itD (rdN 6)) (a9a 2 (a0f (putS 7) (a0f (putS 8) a5x))) a8o (a1u (d9 (va (rdN 8)) (d9 (va (rdN 7)) t8))) [7, 8])) t8)) [6]))
  (a69 (a1u (d9 (va (op2 ixD (nmN 5) (va (cst (.int 0))))) (d9 (va (op2 ixD (nmN 5) (va (cst (.int 1))))) (d9 (va (op2 ixD (nmN 5) (va (cst (.int 2))))) (d9 (va (op2 b1o (va (cst (.int 0))) (nmN 4))) t8))))))))
def a1n : List D → RF := a8m [false] 9 a3m
def b4a : C := (a09 (setC 1 (callC [false] a3o (d9 (va (rdN 0)) t8)))
  (a09 (setC 2 (ifM (tst (op2 eqD (va (callC [true, false] j9 (d9 (nmN 1) (d9 (va (cst (.int 8))) t8)))) (va (cst (.int 0))))) (cst (.int 24)) (op2 a5s (va (cst (.int 1))) (va (callC [true, false] j9 (d9 (nmN 1) (d9 (va (cst (.int 16))) t8)))))))
  (a09 (setC 3 (callC [true] a1w (d9 (nmN 1) t8)))
  (a09 (setC 4 (a0e a2w (d9 (va (a0e a5v (d9 (va (callC [true, false, false] a2t (d9 (nmN 1) (d9 (va (rdN 3)) (d9 (va (rdN 2)) t8))))) t8))) t8)))
  (a09 (setC 5 (lcM (ap0 (d9 (va (cst (.int 2))) t8)) (putS 15) a8o (callC [true, false] a1k (d9 (nmN 1) (d9 (va (rdN 4)) t8))) [15]))
  (a09 (setC 6 (a0e a5t (d9 (va (a1u (d9 (va (rdN 4)) (d9 (va (rdN 5)) t8)))) t8)))
  (a09 (az4 (itD (op2 a5s (nmN 5) (va (slM (nmN 5) a6k (a85 (cst (.int 1))))))) (putS 7) (a09 (a8r (rdN 7) (a9a 4 (a0f (putS 9) (a0f (putS 10) (a0f (putS 11) (a0f (putS 12) a5x))))))
  (a09 (setC 13 (a0e a2w (d9 (va (lcM (itD (rdN 4)) (putS 17) a8o (callC [false, false] a1x (d9 (va (rdN 7)) (d9 (va (rdN 17)) t8))) [17])) t8)))
  (a09 (setC 14 (callC [false, false, false, false, false] a2s (d9 (va (rdN 4)) (d9 (va (rdN 9)) (d9 (va (rdN 10)) (d9 (va (rdN 11)) (d9 (va (rdN 12)) t8)))))))
  (a09 (ifC (orM (b5f (tst (a0e b9h (d9 (nmN 14) (d9 (va (cst (.ty "tuple"))) t8))))) (orM (tst (op2 neD (va (a0e a5t (d9 (nmN 14) t8))) (va (a0e a5t (d9 (nmN 13) t8))))) (tst (op2 neD (va (a0e a9t (d9 (nmN 13) t8))) (va (a0e ax7 (d9 (nmN 13) t8))))))) (a69 (cst (.bl false))) nxC)
  (a09 (a8r (callC [false] a1n (d9 (va (rdN 7)) t8)) (a9a 4 (a0f (putS 9) (a0f (putS 10) (a0f (putS 11) (a0f (putS 12) a5x))))))
  (ifC (tst (op2 neD (va (a0e a5t (d9 (va (callC [false, false, false, false, false] a2s (d9 (va (rdN 14)) (d9 (va (rdN 9)) (d9 (va (rdN 10)) (d9 (va (rdN 11)) (d9 (va (rdN 12)) t8))))))) t8))) (va (a0e a5t (d9 (nmN 4) t8))))) (a69 (cst (.bl false))) nxC)))))))
  (a09 (setC 8 (lcM (itD (slM (va (op2 ixD (nmN 5) (va (cst (.int 0))))) a6k (a85 (cst (.int 3))))) (putS 16) a8o (a0e a2w (d9 (va (lcM (itD (rdN 16)) (a9a 2 (a0f (putS 18) (a0f (putS 19) a5x))) a8o (a1u (d9 (va (rdN 18)) (d9 (va (rdN 18)) t8))) [18, 19])) t8)) [16]))
  (a09 (ifC (tst (op2 neD (va (a0e a5t (d9 (va (callC [false, false, false, false, false] a2s (d9 (va (rdN 4)) (d9 (va (op2 ixD (nmN 8) (va (cst (.int 0))))) (d9 (va (op2 ixD (nmN 8) (va (cst (.int 1))))) (d9 (va (op2 ixD (nmN 8) (va (cst (.int 2))))) (d9 (va (cst (.int 0))) t8))))))) t8))) (va (a0e a5t (d9 (nmN 4) t8))))) (a69 (cst (.bl false))) nxC)
  (a69 (b5e (op2 eqD (va (a0e a5t (d9 (va (a1u (d9 (va (rdN 4)) (d9 (va (rdN 5)) t8)))) t8))) (nmN 6)) (op2 eqD (va (a0e a5t (d9 (va (callC [false, false, false, false, false] a2s (d9 (va (a1u t8)) (d9 (va (a1u t8)) (d9 (va (a1u t8)) (d9 (va (a1u t8)) (d9 (va (cst (.int 5))) t8))))))) t8))) (va (a0e a5t (d9 (va (a1u t8)) t8)))))))))))))))
def as4 : List D → RF := a8m [false] 20 b4a
end
end K78
namespace K78
open PySem L2 PySem.Spec PyProof.Rows Dv
def top (i : Nat) : Stmt := PySem.Challenge.pw_logdrive_k78_names_turned.main.body.getD i (.Pass ⟨0, 0, 0, 0⟩)
abbrev a0q : Stmt := top 1
abbrev a8a : List Str := ["stamp", "called", "sign"]
abbrev a2o : List Str := ["stamp", "called"]
theorem sc_otherwise : FnScope a8a a2o (defScope a0q) := ⟨rfl, rfl, rfl, by decide +kernel, rfl, by decide +kernel, by decide +kernel⟩
abbrev a06 : Stmt := top 2
abbrev a5y : List Str := ["deed", "words", "signs", "logs", "word", "stamps", "stamp"]
abbrev a1o : List Str := ["deed", "words", "signs", "logs"]
theorem sc_deed_renamed : FnScope a5y a1o (defScope a06) := ⟨rfl, rfl, rfl, by decide +kernel, rfl, by decide +kernel, by decide +kernel⟩
abbrev a1l : Stmt := top 3
abbrev ad6 : List Str := ["drive", "words", "signs", "logs", "hours", "hour", "deed"]
abbrev a4b : List Str := ["drive", "words", "signs", "logs", "hours"]
theorem sc_renamed : FnScope ad6 a4b (defScope a1l) := ⟨rfl, rfl, rfl, by decide +kernel, rfl, by decide +kernel, by decide +kernel⟩
abbrev a0t : Stmt := top 5
abbrev af8 : List Str := ["_law_script"]
abbrev a2r : List Str := ["_law_script"]
theorem sc__law_tape : FnScope af8 a2r (defScope a0t) := ⟨rfl, rfl, rfl, by decide +kernel, rfl, by decide +kernel, by decide +kernel⟩
abbrev a0g : Stmt := top 6
abbrev a9h : List Str := ["_law_tape_here", "_law_many", "_law_at", "_law_cell", "_law_mixed", "_law_found"]
abbrev a04 : List Str := ["_law_tape_here", "_law_many"]
theorem sc__law_pick_4 : FnScope a9h a04 (defScope a0g) := ⟨rfl, rfl, rfl, by decide +kernel, rfl, by decide +kernel, by decide +kernel⟩
abbrev a0a : Stmt := top 7
abbrev a8t : List Str := ["_law_tape_here", "_law_many", "_law_chain", "_law_found", "_law_k", "_law_down"]
abbrev a1j : List Str := ["_law_tape_here"]
theorem sc__law_river_4 : FnScope a8t a1j (defScope a0a) := ⟨rfl, rfl, rfl, by decide +kernel, rfl, by decide +kernel, by decide +kernel⟩
abbrev w6 : Stmt := top 8
abbrev a5a : List Str := ["_law_tape_here", "_law_some", "_law_k"]
abbrev a1c : List Str := ["_law_tape_here"]
theorem sc__law_stamps_2 : FnScope a5a a1c (defScope w6) := ⟨rfl, rfl, rfl, by decide +kernel, rfl, by decide +kernel, by decide +kernel⟩
abbrev a0b : Stmt := top 9
abbrev a6g : List Str := ["_law_tape_here", "_law_river_here", "_law_place", "_law_owner", "_law_brand", "_law_many", "_law_rows", "_law_some", "_law_k"]
abbrev a2a : List Str := ["_law_tape_here", "_law_river_here", "_law_place"]
theorem sc__law_said_6 : FnScope a6g a2a (defScope a0b) := ⟨rfl, rfl, rfl, by decide +kernel, rfl, by decide +kernel, by decide +kernel⟩
abbrev a05 : Stmt := top 10
abbrev a7b : List Str := ["_law_tape_here", "_law_river_here", "_law_spots", "_law_numbers_now", "_law_turn", "_law_place", "_law_log", "_law_here"]
abbrev a0v : List Str := ["_law_tape_here", "_law_river_here", "_law_spots"]
theorem sc__law_page_deed : FnScope a7b a0v (defScope a05) := ⟨rfl, rfl, rfl, by decide +kernel, rfl, by decide +kernel, by decide +kernel⟩
abbrev a0j : Stmt := top 11
abbrev a75 : List Str := ["_law_tape_here", "_law_river_here", "_law_many", "_law_spots", "_law_found", "_law_hour", "_law_step", "_law_k", "_law_page", "_law_few", "_law_one"]
abbrev a2e : List Str := ["_law_tape_here", "_law_river_here", "_law_many"]
theorem sc__law_pages : FnScope a75 a2e (defScope a0j) := ⟨rfl, rfl, rfl, by decide +kernel, rfl, by decide +kernel, by decide +kernel⟩
abbrev a0h : Stmt := top 12
abbrev a9p : List Str := ["_law_tape_here", "_law_pool", "_law_many", "_law_left", "_law_found", "_law_k"]
abbrev a1v : List Str := ["_law_tape_here", "_law_pool", "_law_many"]
theorem sc__law_rising : FnScope a9p a1v (defScope a0h) := ⟨rfl, rfl, rfl, by decide +kernel, rfl, by decide +kernel, by decide +kernel⟩
abbrev z8 : Stmt := top 13
abbrev a4x : List Str := ["_law_tape_here", "_law_drive", "_law_elder", "_law_pool", "_law_words", "_law_signs", "_law_numbers_now", "_law_found", "_law_k", "_law_pairs", "_law_least", "_law_hour", "_law_deed"]
abbrev a1a : List Str := ["_law_tape_here", "_law_drive"]
theorem sc__law_renaming : FnScope a4x a1a (defScope z8) := ⟨rfl, rfl, rfl, by decide +kernel, rfl, by decide +kernel, by decide +kernel⟩
abbrev a03 : Stmt := top 14
abbrev a5c : List Str := ["_law_signs", "_law_stamp", "_law_called", "_law_sign"]
abbrev a1b : List Str := ["_law_signs", "_law_stamp"]
theorem sc__law_stamp_by : FnScope a5c a1b (defScope a03) := ⟨rfl, rfl, rfl, by decide +kernel, rfl, by decide +kernel, by decide +kernel⟩
abbrev a07 : Stmt := top 15
abbrev a65 : List Str := ["_law_renaming_here", "_law_page", "_law_words", "_law_signs", "_law_pairs", "_law_hours", "_law_found", "_law_k", "_law_thing", "_law_at", "_law_stamp"]
abbrev a1r : List Str := ["_law_renaming_here", "_law_page"]
theorem sc__law_page_by : FnScope a65 a1r (defScope a07) := ⟨rfl, rfl, rfl, by decide +kernel, rfl, by decide +kernel, by decide +kernel⟩
abbrev a00 : Stmt := top 16
abbrev a3e : List Str := ["_law_renaming_here", "_law_words", "_law_signs", "_law_pairs", "_law_hours", "_law_some", "_law_one", "_law_elder", "_law_newer"]
abbrev a1e : List Str := ["_law_renaming_here"]
theorem sc__law_contrary : FnScope a3e a1e (defScope a00) := ⟨rfl, rfl, rfl, by decide +kernel, rfl, by decide +kernel, by decide +kernel⟩
abbrev a5w : Stmt := top 17
abbrev aq8 : List Str := ["_law_script", "_law_tape_here", "_law_most", "_law_river_here", "_law_drive", "_law_some", "_law_handed", "_law_renaming_here", "_law_same", "_law_words", "_law_signs", "_law_pairs", "_law_hours", "_law_due", "_law_told", "_law_k", "_law_one", "_law_page", "_law_elder", "_law_newer"]
abbrev ak2 : List Str := ["_law_script"]
theorem sc_law : FnScope aq8 ak2 (defScope a5w) := ⟨rfl, rfl, rfl, by decide +kernel, rfl, by decide +kernel, by decide +kernel⟩
structure Txt (K : PySem.W.Frag) (mg : Str → Option Value) (fa : Nat → Addr) (fd : Nat → FuncData) (ca : Nat → Addr) (cl : Str → Option Addr) : Prop where
  F0 : Fun K "otherwise" "otherwise" a0q (fa 0) (fd 0)
  b0 : Binds K (fd 0) a2o []
  g0 : mg "otherwise" = some (.ref (fa 0))
  F1 : Fun K "deed_renamed" "deed_renamed" a06 (fa 1) (fd 1)
  b1 : Binds K (fd 1) a1o []
  g1 : mg "deed_renamed" = some (.ref (fa 1))
  F2 : Fun K "renamed" "renamed" a1l (fa 2) (fd 2)
  b2 : Binds K (fd 2) a4b []
  g2 : mg "renamed" = some (.ref (fa 2))
  F3 : Fun K "_law_tape" "_law_tape" a0t (fa 3) (fd 3)
  b3 : Binds K (fd 3) a2r []
  g3 : mg "_law_tape" = some (.ref (fa 3))
  F4 : Fun K "_law_pick" "_law_pick" a0g (fa 4) (fd 4)
  b4 : Binds K (fd 4) a04 []
  g4 : mg "_law_pick" = some (.ref (fa 4))
  F5 : Fun K "_law_river" "_law_river" a0a (fa 5) (fd 5)
  b5 : Binds K (fd 5) a1j []
  g5 : mg "_law_river" = some (.ref (fa 5))
  F6 : Fun K "_law_stamps" "_law_stamps" w6 (fa 6) (fd 6)
  b6 : Binds K (fd 6) a1c []
  g6 : mg "_law_stamps" = some (.ref (fa 6))
  F7 : Fun K "_law_said" "_law_said" a0b (fa 7) (fd 7)
  b7 : Binds K (fd 7) a2a []
  g7 : mg "_law_said" = some (.ref (fa 7))
  F8 : Fun K "_law_page_deed" "_law_page_deed" a05 (fa 8) (fd 8)
  b8 : Binds K (fd 8) a0v []
  g8 : mg "_law_page_deed" = some (.ref (fa 8))
  F9 : Fun K "_law_pages" "_law_pages" a0j (fa 9) (fd 9)
  b9 : Binds K (fd 9) a2e []
  g9 : mg "_law_pages" = some (.ref (fa 9))
  F10 : Fun K "_law_rising" "_law_rising" a0h (fa 10) (fd 10)
  b10 : Binds K (fd 10) a1v []
  g10 : mg "_law_rising" = some (.ref (fa 10))
  F11 : Fun K "_law_renaming" "_law_renaming" z8 (fa 11) (fd 11)
  b11 : Binds K (fd 11) a1a []
  g11 : mg "_law_renaming" = some (.ref (fa 11))
  F12 : Fun K "_law_stamp_by" "_law_stamp_by" a03 (fa 12) (fd 12)
  b12 : Binds K (fd 12) a1b []
  g12 : mg "_law_stamp_by" = some (.ref (fa 12))
  F13 : Fun K "_law_page_by" "_law_page_by" a07 (fa 13) (fd 13)
  b13 : Binds K (fd 13) a1r []
  g13 : mg "_law_page_by" = some (.ref (fa 13))
  F14 : Fun K "_law_contrary" "_law_contrary" a00 (fa 14) (fd 14)
  b14 : Binds K (fd 14) a1e []
  g14 : mg "_law_contrary" = some (.ref (fa 14))
  F15 : Fun K "law" "law" a5w (fa 15) (fd 15)
  b15 : Binds K (fd 15) ak2 []
  g15 : mg "law" = some (.ref (fa 15))
  n_dict : mg "dict" = none
  n_enumerate : mg "enumerate" = none
  n_isinstance : mg "isinstance" = none
  n_len : mg "len" = none
  n_list : mg "list" = none
  n_min : mg "min" = none
  n_range : mg "range" = none
  n_repr : mg "repr" = none
  n_sorted : mg "sorted" = none
  n_tuple : mg "tuple" = none
  n_zip : mg "zip" = none
section
variable {P : Program} {w : World} {K : PySem.W.Frag} {mg : Str → Option Value} {base : Heap} {fa : Nat → Addr} {fd : Nat → FuncData} {ca : Nat → Addr} {cl : Str → Option Addr}
theorem aa8 (T : Txt K mg fa fd ca cl) : FnG P w K mg base CX0 1 (fa 0) (fd 0) a2o (spD K cl [false, false] a2k) := by
  refine okD T.F0 sc_otherwise [false, false] rfl (by decide) (c := a6e) fun cdv A outer s H E Z W hZ hr hG hWo => ?_
  have nd := sc_otherwise.nd
  exact (v5 (a0u (at3 (a8h [("sign", 2)] rfl nd (a4p (j8 0)) (blkOk_by (N := a8a) (sc := defScope a0q) (by decide +kernel)) (fun _ _ _ _ _ => (a0n 2 nd)) (m9 2) (fun _ _ _ _ _ => (a2m rfl)) (fun _ _ _ _ _ => (b2x (hu_of hr) (j5 1) (j5 2) (j8 2) ⟨rfl, rfl, rfl, rfl⟩))))))
theorem a8f (T : Txt K mg fa fd ca cl) : FnG P w K mg base CX0 2 (fa 1) (fd 1) a1o (spD K cl [false, false, false, false] a2b) := by
  have G_otherwise : ∀ c', c' = cl → FnG P w K mg base CX0 1 (fa 0) (fd 0) a2o (spD K c' [false, false] a2k) := fun _ e => e ▸ aa8 T
  refine okD T.F1 sc_deed_renamed [false, false, false, false] rfl (by decide) (c := a3v) fun cdv A outer s H E Z W hZ hr hG hWo => ?_
  have nd := sc_deed_renamed.nd
  exact (m7 (v9 4 nd (o7 (hu_of hr) (j5 0) (d8 j7)))
    (m7 (a5d (ax9 (a4f hr) (j5 4) (d8 (u9 (d7 (d8 o8) (d7 (d8 o8) j6))))) (v5 (a0u (u9 (d7 (d8 (j8 4)) (d7 (d8 (o7 (hu_of hr) (j5 1) (d8 (o7 (hu_of hr) (j5 0) (d8 j7))))) (d7 (d8 (o9 (G_otherwise Z.cls hZ) (hr.mono (by decide)) hG T.g0 T.F0.kp T.b0 t7 (d7 (d8 (o7 (hu_of hr) (j5 0) (d8 j7))) (d7 (d8 (j8 2)) j6)))) (d7 (d8 (o7 (hu_of hr) (j5 0) (d8 j7))) j6))))))) a1p)
    (m7 (a5d (a9r hr.units (j5 4) (d8 o8)) (m7 (v9 5 nd (a08 a0p a2i T.n_tuple boot_tuple (d7 (d8 (a8h [("stamp", 6)] rfl nd (a4p (o7 (hu_of hr) (j5 0) (d8 j7))) (blkOk_by (N := a5y) (sc := defScope a06) (by decide +kernel)) (fun _ _ _ _ _ => (a0n 6 nd)) (m9 6) (fun _ _ _ _ _ => (a2m rfl)) (fun _ _ _ _ _ => (o9 (G_otherwise Z.cls hZ) (hr.mono (by decide)) hG T.g0 T.F0.kp T.b0 t7 (d7 (d8 (j8 6)) (d7 (d8 (j8 2)) j6)))))) j6)))
    (v5 (a0u (a0z (d8 (u9 (d7 (d8 (j8 4)) (d7 (d8 (o7 (hu_of hr) (j5 3) (d8 (o7 (hu_of hr) (j5 0) (d8 j7))))) (d7 (d8 (o7 (hu_of hr) (j5 0) (d8 j7))) (d7 (d8 (j8 5)) j6)))))) (d8 (a5g (j5 0) (a5n j7) a5q)))))) a1p)
    (m7 (a5d (ax9 (a4f hr) (j5 4) (d8 (u9 (d7 (d8 o8) (d7 (d8 o8) (d7 (d8 o8) (d7 (d8 o8) j6))))))) (v5 (a0u (a0z (d8 (u9 (d7 (d8 (j8 4)) (d7 (d8 (o7 (hu_of hr) (j5 3) (d8 (o7 (hu_of hr) (j5 0) (d8 j7))))) j6)))) (d8 (a5g (j5 0) (a5n j7) a5q))))) a1p)
    (m7 (a5d (a9r hr.units (j5 4) (d8 o8)) (v5 (a0u (u9 (d7 (d8 (j8 4)) (d7 (d8 (o7 (hu_of hr) (j5 0) (d8 j7))) (d7 (d8 (o7 (hu_of hr) (j5 1) (d8 (o7 (hu_of hr) (j5 0) (d8 j7))))) (d7 (d8 (o7 (hu_of hr) (j5 0) (d8 j7))) j6))))))) a1p)
    (v5 (a0u (j8 0))))))))
theorem am8 (T : Txt K mg fa fd ca cl) : FnG P w K mg base CX0 3 (fa 2) (fd 2) a4b (spD K cl [false, false, false, false, false] a2s) := by
  have G_deed_renamed : ∀ c', c' = cl → FnG P w K mg base CX0 2 (fa 1) (fd 1) a1o (spD K c' [false, false, false, false] a2b) := fun _ e => e ▸ a8f T
  refine okD T.F2 sc_renamed [false, false, false, false, false] rfl (by decide) (c := a7z) fun cdv A outer s H E Z W hZ hr hG hWo => ?_
  have nd := sc_renamed.nd
  exact (m7 (ac6 (a8y 3 rfl (a0i (a0k 1 nd) (m9 1) (a0i (a0k 2 nd) (m9 2) (a0i (a0k 3 nd) (m9 3) a6x)))) (a3w (v8 (m9 1) (v8 (m9 2) (v8 (m9 3) a3x)))) (u9 (d7 (d8 (a08 (a3c rfl) a5m T.n_dict boot_dict (d7 (j5 1) j6))) (d7 (d8 (a08 (a3c rfl) a5m T.n_dict boot_dict (d7 (j5 2) j6))) (d7 (d8 (a08 (a3c rfl) a5m T.n_dict boot_dict (d7 (j5 3) j6))) j6)))))
    (v5 (a0u (a08 a0p a2i T.n_tuple boot_tuple (d7 (d8 (a0c (a6n rfl (a4f hr)) (a6j hWo) T.n_sorted boot_sorted (d7 (d8 (a8h [("hour", 5), ("deed", 6)] rfl nd (a4p (j8 0)) (blkOk_by (N := ad6) (sc := defScope a1l) (by decide +kernel)) (fun _ _ _ _ _ => (a97 2 rfl (a2p (a0n 5 nd) (m9 5) (a2p (a0n 6 nd) (m9 6) a7s)))) (a3w (v8 (m9 5) (v8 (m9 6) a3x))) (fun _ _ _ _ _ => (a2m rfl)) (fun _ _ _ _ _ => (u9 (d7 (d8 (a0z (j5 5) (j5 4))) (d7 (d8 (o9 (G_deed_renamed Z.cls hZ) (hr.mono (by decide)) hG T.g1 T.F1.kp T.b1 t7 (d7 (d8 (j8 6)) (d7 (d8 (j8 1)) (d7 (d8 (j8 2)) (d7 (d8 (j8 3)) j6)))))) j6)))))) j6))) j6)))))
theorem ad1 (T : Txt K mg fa fd ca cl) : FnG P w K mg base CX0 1 (fa 3) (fd 3) a2r (spD K cl [false] a3o) := by
  refine okD T.F3 sc__law_tape [false] rfl (by decide) (c := a67) fun cdv A outer s H E Z W hZ hr hG hWo => ?_
  have nd := sc__law_tape.nd
  exact (v5 (a0u (a1g (d7 (d8 (b6r (a08 call_list_of a9x T.n_list boot_list (d7 (d8 (a5g (j5 0) a5q (a5n j7))) j6)))) (d7 (d8 j7) (d7 (d8 j7) (d7 (d8 j7) j6)))))))
theorem a0o (T : Txt K mg fa fd ca cl) : FnG P w K mg base CX0 1 (fa 4) (fd 4) a04 (spD K cl [true, false] j9) := by
  refine okD T.F4 sc__law_pick_4 [true, false] rfl (by decide) (c := a4o) fun cdv A outer s H E Z W hZ hr hG hWo => ?_
  have nd := sc__law_pick_4.nd
  exact (m7 (a3b 0 (hu_of hr) (a0z (d8 (o7 (hu_of hr) (j5 0) (d8 j7))) (d8 j7)) j7)
    (m7 (a5d (b0u (d8 (o7 (hu_of hr) (j5 0) (d8 j7))) (d8 j7)) (m7 (v9 5 nd (a74 (d8 (o7 (hu_of hr) (j5 0) (d8 j7))) (j5 1)))
    (m7 (a3b 0 (hu_of hr) (a9n (d8 (o7 (hu_of hr) (j5 0) (d8 j7))) (j5 1)) j7)
    (v5 (a0u (j8 5))))) a1p)
    (m7 (v9 2 nd (o7 (hu_of hr) (j5 0) (d8 j7)))
    (m7 (a3b 0 (hu_of hr) (a0z (j5 2) (d8 j7)) j7)
    (m7 (v9 3 nd (ar5 (ae0 hr.units (d8 (o7 (hu_of hr) (j5 0) (d8 j7))) (d8 (a1g j6))) (o7 (hu_of hr) (d8 (o7 (hu_of hr) (j5 0) (d8 j7))) (d8 (a74 (j5 2) (d8 (a0c a3j a8l T.n_len PySem.boot_len (d7 (d8 (o7 (hu_of hr) (j5 0) (d8 j7))) j6)))))) j7))
    (m7 (a5d (ad7 (az0 (b9l (j5 3) (d8 (b65 (d8 j7) (d8 j7)))) (ah2 (b48 (j5 2) (d8 (a0c a3j a8l T.n_len PySem.boot_len (d7 (d8 (o7 (hu_of hr) (j5 0) (d8 j7))) j6))))))) (m7 (a3b 0 (hu_of hr) (a9n (j5 3) (j5 1)) j7)
    (v5 (a0u (a74 (j5 3) (j5 1))))) a1p)
    (m7 (v9 4 nd (a74 (d8 (a0z (d8 (a0z (d8 (a74 (j5 3) (d8 j7))) (d8 (a8z (d8 j7) (d8 (o7 (hu_of hr) (j5 0) (d8 j7))))))) (d8 j7))) (d8 j7)))
    (m7 (v9 4 nd (a74 (d8 (a0z (d8 (a0z (d8 (a8z (j5 4) (j5 4))) (d8 (a8z (d8 j7) (d8 (o7 (hu_of hr) (j5 0) (d8 j7))))))) (d8 j7))) (d8 j7)))
    (m7 (v9 4 nd (a74 (d8 (a0z (d8 (a0z (d8 (a8z (j5 4) (j5 4))) (d8 (a8z (d8 j7) (j5 4))))) (d8 j7))) (d8 j7)))
    (v5 (a0u (a74 (d8 (a9n (j5 4) (d8 j7))) (j5 1)))))))))))))
theorem a7y (T : Txt K mg fa fd ca cl) : FnG P w K mg base CX0 2 (fa 5) (fd 5) a1j (spD K cl [true] a1w) := by
  have G__law_pick_4 : ∀ c', c' = cl → FnG P w K mg base CX0 1 (fa 4) (fd 4) a04 (spD K c' [true, false] j9) := fun _ e => e ▸ a0o T
  refine okD T.F5 sc__law_river_4 [true] rfl (by decide) (c := a4a) fun cdv A outer s H E Z W hZ hr hG hWo => ?_
  have nd := sc__law_river_4.nd
  exact (m7 (v9 1 nd (o7 (hu_of hr) (d8 (a1g (d7 (d8 j7) (d7 (d8 j7) (d7 (d8 j7) (d7 (d8 j7) (d7 (d8 j7) (d7 (d8 j7) (d7 (d8 j7) (d7 (d8 j7) j6)))))))))) (d8 (o9 (G__law_pick_4 Z.cls hZ) (hr.mono (by decide)) hG T.g4 T.F4.kp T.b4 t7 (d7 (j5 0) (d7 (d8 j7) j6))))))
    (m7 (v9 2 nd (o9 (G__law_pick_4 Z.cls hZ) (hr.mono (by decide)) hG T.g4 T.F4.kp T.b4 t7 (d7 (j5 0) (d7 (d8 j7) j6))))
    (m7 (v9 3 nd (a1g j6))
    (m7 (a8x PassesOwn.never rfl (a3h T.n_range (d7 (j5 1) j6)) (a0k 4 nd) (m9 4) (m7 (v9 5 nd (ar5 (ad7 (am3 (a9r hr.units (j5 2) (d8 j7)) (aa6 (b0u (d8 (o9 (G__law_pick_4 Z.cls hZ) (hr.mono (by decide)) hG T.g4 T.F4.kp T.b4 t7 (d7 (j5 0) (d7 (d8 j7) j6)))) (d8 j7))))) (j8 4) (o9 (G__law_pick_4 Z.cls hZ) (hr.mono (by decide)) hG T.g4 T.F4.kp T.b4 t7 (d7 (j5 0) (d7 (d8 (a0z (j5 4) (d8 j7))) j6)))))
    (v5 (a83 (a4t 3 (u9 (d7 (d8 (j8 5)) (d7 (d8 (a0z (d8 j7) (d8 (o9 (G__law_pick_4 Z.cls hZ) (hr.mono (by decide)) hG T.g4 T.F4.kp T.b4 t7 (d7 (j5 0) (d7 (d8 (o7 (hu_of hr) (d8 (a1g (d7 (d8 j7) (d7 (d8 j7) j6)))) (d8 (o9 (G__law_pick_4 Z.cls hZ) (hr.mono (by decide)) hG T.g4 T.F4.kp T.b4 t7 (d7 (j5 0) (d7 (d8 j7) j6)))))) j6)))))) j6))))))))
    (v5 (a0u (a08 a0p a2i T.n_tuple boot_tuple (d7 (j5 3) j6))))))))
theorem a7i (T : Txt K mg fa fd ca cl) : FnG P w K mg base CX0 2 (fa 6) (fd 6) a1c (spD K cl [true] a1i) := by
  have G__law_pick_4 : ∀ c', c' = cl → FnG P w K mg base CX0 1 (fa 4) (fd 4) a04 (spD K c' [true, false] j9) := fun _ e => e ▸ a0o T
  refine okD T.F6 sc__law_stamps_2 [true] rfl (by decide) (c := a3n) fun cdv A outer s H E Z W hZ hr hG hWo => ?_
  have nd := sc__law_stamps_2.nd
  exact (m7 (v9 1 nd (a1g (d7 (d8 o8) (d7 (d8 o8) (d7 (d8 o8) (d7 (d8 o8) (d7 (d8 o8) (d7 (d8 o8) (d7 (d8 o8) (d7 (d8 o8) (d7 (d8 o8) (d7 (d8 o8) j6))))))))))))
    (v5 (a0u (a08 a0p a2i T.n_tuple boot_tuple (d7 (d8 (a8h [("_law_k", 2)] rfl nd (a3h T.n_range (d7 (d8 (o9 (G__law_pick_4 Z.cls hZ) (hr.mono (by decide)) hG T.g4 T.F4.kp T.b4 t7 (d7 (j5 0) (d7 (d8 j7) j6)))) j6)) (blkOk_by (N := a5a) (sc := defScope w6) (by decide +kernel)) (fun _ _ _ _ _ => (a0n 2 nd)) (m9 2) (fun _ _ _ _ _ => (a2m rfl)) (fun _ _ _ _ _ => (o7 (hu_of hr) (j5 1) (d8 (o9 (G__law_pick_4 Z.cls hZ) (hr.mono (by decide)) hG T.g4 T.F4.kp T.b4 t7 (d7 (j5 0) (d7 (d8 j7) j6)))))))) j6)))))
theorem a8s (T : Txt K mg fa fd ca cl) : FnG P w K mg base CX0 2 (fa 7) (fd 7) a2a (spD K cl [true, false, false] a2f) := by
  have G__law_pick_4 : ∀ c', c' = cl → FnG P w K mg base CX0 1 (fa 4) (fd 4) a04 (spD K c' [true, false] j9) := fun _ e => e ▸ a0o T
  refine okD T.F7 sc__law_said_6 [true, false, false] rfl (by decide) (c := a4i) fun cdv A outer s H E Z W hZ hr hG hWo => ?_
  have nd := sc__law_said_6.nd
  exact (m7 (v9 3 nd (o7 (hu_of hr) (d8 (a1g (d7 (d8 o8) (d7 (d8 o8) (d7 (d8 o8) (d7 (d8 o8) (d7 (d8 o8) j6))))))) (d8 (o9 (G__law_pick_4 Z.cls hZ) (hr.mono (by decide)) hG T.g4 T.F4.kp T.b4 t7 (d7 (j5 0) (d7 (d8 j7) j6))))))
    (m7 (v9 4 nd (o7 (hu_of hr) (d8 (a1g (d7 (d8 o8) (d7 (d8 o8) (d7 (d8 o8) (d7 (d8 o8) j6)))))) (d8 (o9 (G__law_pick_4 Z.cls hZ) (hr.mono (by decide)) hG T.g4 T.F4.kp T.b4 t7 (d7 (j5 0) (d7 (d8 j7) j6))))))
    (m7 (v9 5 nd (o7 (hu_of hr) (d8 (a1g (d7 (d8 (o9 (G__law_pick_4 Z.cls hZ) (hr.mono (by decide)) hG T.g4 T.F4.kp T.b4 t7 (d7 (j5 0) (d7 (d8 j7) j6)))) (d7 (d8 (o9 (G__law_pick_4 Z.cls hZ) (hr.mono (by decide)) hG T.g4 T.F4.kp T.b4 t7 (d7 (j5 0) (d7 (d8 j7) j6)))) j6)))) (d8 (a9n (d8 (o9 (G__law_pick_4 Z.cls hZ) (hr.mono (by decide)) hG T.g4 T.F4.kp T.b4 t7 (d7 (j5 0) (d7 (d8 j7) j6)))) (d8 j7)))))
    (m7 (a7m 6 [("_law_k", 8)] rfl nd rfl rfl (sw_true rfl rfl rfl (by decide +kernel)) (a3h T.n_range (d7 (d8 (a0z (d8 (a0c a3j a8l T.n_len PySem.boot_len (d7 (j5 1) j6))) (d8 j7))) j6)) (blkOk_by (N := a6g) (sc := defScope a0b) (by decide +kernel)) (fun _ _ _ _ _ => (a0n 8 nd)) (m9 8) (fun _ _ _ _ _ => (b1n (ad7 (am3 (a9r hr.units (j5 8) (j5 2)) (aa6 (a9r hr.units (d8 (o9 (G__law_pick_4 Z.cls hZ) (hr.mono (by decide)) hG T.g4 T.F4.kp T.b4 t7 (d7 (j5 0) (d7 (d8 j7) j6)))) (d8 j7))))))) (fun _ _ _ _ _ => (u9 (d7 (d8 (j8 8)) (d7 (d8 (o9 (G__law_pick_4 Z.cls hZ) (hr.mono (by decide)) hG T.g4 T.F4.kp T.b4 t7 (d7 (j5 0) (d7 (d8 j7) j6)))) j6)))))
    (m7 (v9 6 nd (a08 a0p a2i T.n_tuple boot_tuple (d7 (d8 (a5g (j5 6) a5q (a5n j7))) j6)))
    (m7 (v9 7 nd (a1g (d7 (d8 (u9 (d7 (d8 o8) (d7 (d8 (j8 2)) j6)))) (d7 (d8 (u9 (d7 (d8 o8) (d7 (d8 (j8 2)) j6)))) (d7 (d8 (u9 (d7 (d8 o8) (d7 (d8 (j8 2)) j6)))) (d7 (d8 (u9 (d7 (d8 o8) (d7 (d8 (j8 2)) j6)))) (d7 (d8 (u9 (d7 (d8 o8) (d7 (d8 (j8 3)) (d7 (d8 (j8 4)) (d7 (d8 (j8 2)) j6)))))) j6)))))))
    (m7 (v9 7 nd (a0z (j5 7) (d8 (a1g (d7 (d8 (u9 (d7 (d8 o8) (d7 (d8 (j8 3)) (d7 (d8 (j8 4)) (d7 (d8 (j8 2)) j6)))))) (d7 (d8 (u9 (d7 (d8 o8) (d7 (d8 (j8 2)) (d7 (d8 (j8 3)) (d7 (d8 (o9 (G__law_pick_4 Z.cls hZ) (hr.mono (by decide)) hG T.g4 T.F4.kp T.b4 t7 (d7 (j5 0) (d7 (d8 j7) j6)))) j6)))))) (d7 (d8 (u9 (d7 (d8 o8) (d7 (d8 (j8 2)) (d7 (d8 (j8 5)) j6))))) j6)))))))
    (v5 (a0u (o7 (hu_of hr) (d8 (a0z (j5 7) (d8 (a1g (d7 (d8 (u9 (d7 (d8 o8) (d7 (d8 (j8 6)) j6)))) (d7 (d8 (u9 (d7 (d8 o8) j6))) (d7 (d8 (u9 (d7 (d8 o8) (d7 (d8 (j8 2)) j6)))) (d7 (d8 (u9 (d7 (d8 o8) (d7 (d8 (j8 3)) (d7 (d8 (j8 4)) (d7 (d8 (j8 2)) j6)))))) j6)))))))) (d8 (o9 (G__law_pick_4 Z.cls hZ) (hr.mono (by decide)) hG T.g4 T.F4.kp T.b4 t7 (d7 (j5 0) (d7 (d8 j7) j6))))))))))))))
theorem a6u (T : Txt K mg fa fd ca cl) : FnG P w K mg base CX0 3 (fa 8) (fd 8) a0v (spD K cl [true, false, true] a0x) := by
  have G__law_pick_4 : ∀ c', c' = cl → FnG P w K mg base CX0 1 (fa 4) (fd 4) a04 (spD K c' [true, false] j9) := fun _ e => e ▸ a0o T
  have G__law_stamps_2 : ∀ c', c' = cl → FnG P w K mg base CX0 2 (fa 6) (fd 6) a1c (spD K c' [true] a1i) := fun _ e => e ▸ a7i T
  have G__law_said_6 : ∀ c', c' = cl → FnG P w K mg base CX0 2 (fa 7) (fd 7) a2a (spD K c' [true, false, false] a2f) := fun _ e => e ▸ a8s T
  refine okD T.F8 sc__law_page_deed [true, false, true] rfl (by decide) (c := a2v) fun cdv A outer s H E Z W hZ hr hG hWo => ?_
  have nd := sc__law_page_deed.nd
  exact (m7 (v9 3 nd (a1g (d7 (d8 j7) (d7 (d8 j7) (d7 (d8 j7) (d7 (d8 j7) (d7 (d8 j7) (d7 (d8 j7) (d7 (d8 j7) (d7 (d8 j7) j6))))))))))
    (m7 (ar8 4 5 rfl nd (d7 (d8 (o9 (G__law_pick_4 Z.cls hZ) (hr.mono (by decide)) hG T.g4 T.F4.kp T.b4 t7 (d7 (j5 0) (d7 (d8 j7) j6)))) (d7 (d8 (o9 (G__law_pick_4 Z.cls hZ) (hr.mono (by decide)) hG T.g4 T.F4.kp T.b4 t7 (d7 (j5 0) (d7 (d8 (a0z (d8 (a0c a3j a8l T.n_len PySem.boot_len (d7 (j5 1) j6))) (d8 j7))) j6)))) j6)))
    (m7 (v9 6 nd (o7 (hu_of hr) (j5 3) (d8 (o9 (G__law_pick_4 Z.cls hZ) (hr.mono (by decide)) hG T.g4 T.F4.kp T.b4 t7 (d7 (j5 0) (d7 (d8 j7) j6))))))
    (m7 (a5d (b0u (j5 4) (d8 j7)) (v5 (a0u (o9 (G__law_said_6 Z.cls hZ) (hr.mono (by decide)) hG T.g7 T.F7.kp T.b7 t7 (d7 (j5 0) (d7 (d8 (j8 1)) (d7 (d8 (j8 5)) j6)))))) a1p)
    (m7 (a5d (ad7 (am3 (b48 (j5 4) (d8 j7)) (aa6 (b6j (a4f hr) (j5 2) (d8 (ar6 false)))))) (m7 (a3b 2 (hu_of hr) (j8 5) (j8 6))
    (v5 (a0u (u9 (d7 (d8 o8) (d7 (d8 (j8 6)) (d7 (d8 (j8 5)) (d7 (d8 (o9 (G__law_stamps_2 Z.cls hZ) (hr.mono (by decide)) hG T.g6 T.F6.kp T.b6 t7 (d7 (j5 0) j6))) (d7 (d8 (a0z (d8 j7) (d8 (o9 (G__law_pick_4 Z.cls hZ) (hr.mono (by decide)) hG T.g4 T.F4.kp T.b4 t7 (d7 (j5 0) (d7 (d8 j7) j6)))))) (d7 (d8 (a0z (d8 j7) (d8 (o9 (G__law_pick_4 Z.cls hZ) (hr.mono (by decide)) hG T.g4 T.F4.kp T.b4 t7 (d7 (j5 0) (d7 (d8 j7) j6)))))) j6)))))))))) a1p)
    (m7 (v9 6 nd (o7 (hu_of hr) (d8 (a0c (a6n rfl (a4f hr)) (a6j hWo) T.n_sorted boot_sorted (d7 (d8 (a08 (am9 rfl) b19 T.n_list boot_list (d7 (j5 2) j6))) j6))) (d8 (o9 (G__law_pick_4 Z.cls hZ) (hr.mono (by decide)) hG T.g4 T.F4.kp T.b4 t7 (d7 (j5 0) (d7 (d8 (a0c a3j a8l T.n_len PySem.boot_len (d7 (j5 2) j6))) j6))))))
    (m7 (v9 7 nd (o7 (hu_of hr) (j5 2) (j5 6)))
    (m7 (a5d (b48 (j5 4) (d8 j7)) (m7 (a3b 2 (hu_of hr) (ar5 (b0u (j5 7) (d8 j7)) (o7 (hu_of hr) (d8 (o7 (hu_of hr) (j5 1) (d8 (ak0 (j5 7) (d8 j7))))) (d8 j7)) j7) (j8 6))
    (v5 (a0u (u9 (d7 (d8 o8) (d7 (d8 (j8 6)) (d7 (d8 (o7 (hu_of hr) (j5 2) (j5 6))) j6))))))) a1p)
    (v5 (a0u (o7 (hu_of hr) (d8 (a1g (d7 (d8 (u9 (d7 (d8 o8) (d7 (d8 (j8 6)) (d7 (d8 (j8 7)) j6))))) (d7 (d8 (u9 (d7 (d8 o8) (d7 (d8 (j8 6)) j6)))) (d7 (d8 (u9 (d7 (d8 o8) (d7 (d8 (j8 6)) (d7 (d8 (j8 7)) (d7 (d8 (o9 (G__law_pick_4 Z.cls hZ) (hr.mono (by decide)) hG T.g4 T.F4.kp T.b4 t7 (d7 (j5 0) (d7 (d8 j7) j6)))) j6)))))) j6))))) (d8 (ak0 (j5 4) (d8 j7))))))))))))))
theorem a99 (T : Txt K mg fa fd ca cl) : FnG P w K mg base CX0 4 (fa 9) (fd 9) a2e (spD K cl [true, false, false] a2t) := by
  have G__law_pick_4 : ∀ c', c' = cl → FnG P w K mg base CX0 1 (fa 4) (fd 4) a04 (spD K c' [true, false] j9) := fun _ e => e ▸ a0o T
  have G__law_page_deed : ∀ c', c' = cl → FnG P w K mg base CX0 3 (fa 8) (fd 8) a0v (spD K c' [true, false, true] a0x) := fun _ e => e ▸ a6u T
  refine okD T.F9 sc__law_pages [true, false, false] rfl (by decide) (c := a4v) fun cdv A outer s H E Z W hZ hr hG hWo => ?_
  have nd := sc__law_pages.nd
  exact (m7 (b4q 3 4 5 rfl nd (d7 (d8 (ar6 false)) (d7 (d8 (a1g j6)) (d7 (d8 j7) j6))))
    (m7 (v9 6 nd (o7 (hu_of hr) (d8 (a1g (d7 (d8 j7) (d7 (d8 j7) (d7 (d8 j7) j6))))) (d8 (o9 (G__law_pick_4 Z.cls hZ) (hr.mono (by decide)) hG T.g4 T.F4.kp T.b4 t7 (d7 (j5 0) (d7 (d8 j7) j6))))))
    (m7 (a8x PassesOwn.never rfl (a3h T.n_range (d7 (j5 2) j6)) (a0k 7 nd) (m9 7) (m7 (v9 5 nd (a0z (j5 5) (d8 (a8z (j5 6) (d8 (o9 (G__law_pick_4 Z.cls hZ) (hr.mono (by decide)) hG T.g4 T.F4.kp T.b4 t7 (d7 (j5 0) (d7 (d8 j7) j6))))))))
    (m7 (v9 8 nd (u9 (d7 (d8 (j8 5)) (d7 (d8 (o9 (G__law_page_deed Z.cls hZ) (hr.mono (by decide)) hG T.g8 T.F8.kp T.b8 t7 (d7 (j5 0) (d7 (d8 (j8 1)) (d7 (j5 3) j6))))) j6))))
    (m7 (v9 9 nd (bd1 (d8 (a0c a3j a8l T.n_len PySem.boot_len (d7 (d8 (b50 4 (a8h [("_law_one", 10)] rfl nd (b3i 4) (blkOk_by (N := a75) (sc := defScope a0j) (by decide +kernel)) (fun _ _ _ _ _ => (a0n 10 nd)) (m9 10) (fun _ _ _ _ _ => (b1n (a9r hr.units (d8 (o7 (hu_of hr) (j5 10) (d8 j7))) (d8 (u9 (d7 (d8 o8) j6)))))) (fun _ _ _ _ _ => (j8 10))))) j6))) (d8 j7)))
    (v5 (a5d (ad7 (az0 (be1 (a4f hr) (j5 8) (j5 4)) (ah2 (ad7 (am3 (b20 (j8 9)) (aa6 (ae0 hr.units (d8 (o7 (hu_of hr) (j5 8) (d8 j7))) (d8 (u9 (d7 (d8 o8) j6)))))))))) (v5 (a83 (a4t 4 (j8 8)))) a1p))))))
    (v5 (a0u (j8 4))))))
theorem a8v (T : Txt K mg fa fd ca cl) : FnG P w K mg base CX0 2 (fa 10) (fd 10) a1v (spD K cl [true, false, false] a1t) := by
  have G__law_pick_4 : ∀ c', c' = cl → FnG P w K mg base CX0 1 (fa 4) (fd 4) a04 (spD K c' [true, false] j9) := fun _ e => e ▸ a0o T
  refine okD T.F10 sc__law_rising [true, false, false] rfl (by decide) (c := a4j) fun cdv A outer s H E Z W hZ hr hG hWo => ?_
  have nd := sc__law_rising.nd
  exact (m7 (ar8 3 4 rfl nd (d7 (d8 (a08 (ao2 rfl) b0g T.n_list boot_list (d7 (j5 1) j6))) (d7 (d8 (a1g j6)) j6)))
    (m7 (a8x PassesOwn.never rfl (a3h T.n_range (d7 (j5 2) j6)) (a0k 5 nd) (m9 5) (v5 (a83 (a4t 4 (b62 3 (o9 (G__law_pick_4 Z.cls hZ) (hr.mono (by decide)) hG T.g4 T.F4.kp T.b4 t7 (d7 (j5 0) (d7 (d8 (a0c a3j a8l T.n_len PySem.boot_len (d7 (j5 3) j6))) j6))))))))
    (v5 (a0u (a0c (a6n rfl (a4f hr)) (a6j hWo) T.n_sorted boot_sorted (d7 (j5 4) j6))))))
theorem a7d (T : Txt K mg fa fd ca cl) : FnG P w K mg base CX0 3 (fa 11) (fd 11) a1a (spD K cl [true, false] a1k) := by
  have G__law_pick_4 : ∀ c', c' = cl → FnG P w K mg base CX0 1 (fa 4) (fd 4) a04 (spD K c' [true, false] j9) := fun _ e => e ▸ a0o T
  have G__law_rising : ∀ c', c' = cl → FnG P w K mg base CX0 2 (fa 10) (fd 10) a1v (spD K c' [true, false, false] a1t) := fun _ e => e ▸ a8v T
  refine okD T.F11 sc__law_renaming [true, false] rfl (by decide) (c := a3l) fun cdv A outer s H E Z W hZ hr hG hWo => ?_
  have nd := sc__law_renaming.nd
  exact (m7 (v9 2 nd (a1g (d7 (d8 o8) (d7 (d8 o8) (d7 (d8 o8) (d7 (d8 o8) (d7 (d8 o8) j6)))))))
    (m7 (v9 3 nd (a1g (d7 (d8 o8) (d7 (d8 o8) (d7 (d8 o8) (d7 (d8 o8) (d7 (d8 o8) (d7 (d8 o8) (d7 (d8 o8) (d7 (d8 o8) (d7 (d8 o8) (d7 (d8 o8) (d7 (d8 o8) (d7 (d8 o8) (d7 (d8 o8) (d7 (d8 o8) j6))))))))))))))))
    (m7 (v9 4 nd (a84 rfl T.n_tuple T.n_zip (d7 (d8 (j8 2)) (d7 (d8 (o9 (G__law_rising Z.cls hZ) (hr.mono (by decide)) hG T.g10 T.F10.kp T.b10 t7 (d7 (j5 0) (d7 (d8 (j8 3)) (d7 (d8 j7) j6))))) j6))))
    (m7 (v9 5 nd (a84 rfl T.n_tuple T.n_zip (d7 (d8 o8) (d7 (d8 (o9 (G__law_rising Z.cls hZ) (hr.mono (by decide)) hG T.g10 T.F10.kp T.b10 t7 (d7 (j5 0) (d7 (d8 o8) (d7 (d8 j7) j6))))) j6))))
    (m7 (ar8 6 7 rfl nd (d7 (d8 (a1g j6)) (d7 (d8 j7) j6)))
    (m7 (a8x PassesOwn.never rfl (a3h T.n_range (d7 (d8 j7) j6)) (a0k 8 nd) (m9 8) (m7 (v9 7 nd (a0z (d8 (a0z (j5 7) (d8 j7))) (d8 (o9 (G__law_pick_4 Z.cls hZ) (hr.mono (by decide)) hG T.g4 T.F4.kp T.b4 t7 (d7 (j5 0) (d7 (d8 (o7 (hu_of hr) (d8 (a1g (d7 (d8 j7) (d7 (d8 j7) j6)))) (d8 (o9 (G__law_pick_4 Z.cls hZ) (hr.mono (by decide)) hG T.g4 T.F4.kp T.b4 t7 (d7 (j5 0) (d7 (d8 j7) j6)))))) j6))))))
    (v5 (a83 (a4t 6 (j8 7))))))
    (m7 (v9 9 nd (a84 rfl T.n_tuple T.n_zip (d7 (d8 (a1g (d7 (d8 j7) (d7 (d8 j7) (d7 (d8 j7) (d7 (d8 j7) (d7 (d8 j7) (d7 (d8 j7) (d7 (d8 j7) (d7 (d8 j7) j6)))))))))) (d7 (d8 (j8 6)) j6))))
    (m7 (v9 10 nd (b04 rfl (a4f hr) T.n_min (d7 (d8 (a8h [("_law_hour", 11), ("_law_deed", 12)] rfl nd (a4p (j8 1)) (blkOk_by (N := a4x) (sc := defScope z8) (by decide +kernel)) (fun _ _ _ _ _ => (a97 2 rfl (a2p (a0n 11 nd) (m9 11) (a2p (a0n 12 nd) (m9 12) a7s)))) (a3w (v8 (m9 11) (v8 (m9 12) a3x))) (fun _ _ _ _ _ => (a2m rfl)) (fun _ _ _ _ _ => (j8 11)))) j6)))
    (v5 (a0u (u9 (d7 (d8 (j8 4)) (d7 (d8 (j8 5)) (d7 (d8 (j8 9)) (d7 (d8 (o7 (hu_of hr) (d8 (a1g (d7 (d8 j7) (d7 (d8 j7) (d7 (d8 j7) (d7 (d8 (ak0 (d8 j7) (j5 10))) j6)))))) (d8 (o9 (G__law_pick_4 Z.cls hZ) (hr.mono (by decide)) hG T.g4 T.F4.kp T.b4 t7 (d7 (j5 0) (d7 (d8 j7) j6)))))) j6)))))))))))))))
theorem a7j (T : Txt K mg fa fd ca cl) : FnG P w K mg base CX0 1 (fa 12) (fd 12) a1b (spD K cl [false, false] a0m) := by
  refine okD T.F12 sc__law_stamp_by [false, false] rfl (by decide) (c := a3i) fun cdv A outer s H E Z W hZ hr hG hWo => ?_
  have nd := sc__law_stamp_by.nd
  exact (m7 (v9 2 nd (a08 (a3c rfl) a5m T.n_dict boot_dict (d7 (j5 0) j6)))
    (v5 (a0u (at3 (a8h [("_law_sign", 3)] rfl nd (a4p (j8 1)) (blkOk_by (N := a5c) (sc := defScope a03) (by decide +kernel)) (fun _ _ _ _ _ => (a0n 3 nd)) (m9 3) (fun _ _ _ _ _ => (a2m rfl)) (fun _ _ _ _ _ => (ar5 (ae0 hr.units (j5 3) (d8 o8)) (o7 (hu_of hr) (j5 2) (j5 3)) (j8 3))))))))
theorem a8j (T : Txt K mg fa fd ca cl) : FnG P w K mg base CX0 2 (fa 13) (fd 13) a1r (spD K cl [false, false] a1x) := by
  have G__law_stamp_by : ∀ c', c' = cl → FnG P w K mg base CX0 1 (fa 12) (fd 12) a1b (spD K c' [false, false] a0m) := fun _ e => e ▸ a7j T
  refine okD T.F13 sc__law_page_by [false, false] rfl (by decide) (c := a3z) fun cdv A outer s H E Z W hZ hr hG hWo => ?_
  have nd := sc__law_page_by.nd
  exact (m7 (ac6 (a8y 4 rfl (a0i (a0k 2 nd) (m9 2) (a0i (a0k 3 nd) (m9 3) (a0i (a0k 4 nd) (m9 4) (a0i (a0k 5 nd) (m9 5) a6x))))) (a3w (v8 (m9 2) (v8 (m9 3) (v8 (m9 4) (v8 (m9 5) a3x))))) (j8 0))
    (m7 (v9 6 nd (a1g j6))
    (m7 (a8x PassesOwn.never rfl (b39 T.n_enumerate (d7 (d8 (o7 (hu_of hr) (j5 1) (d8 j7))) j6)) (a8y 2 rfl (a0i (a0k 7 nd) (m9 7) (a0i (a0k 8 nd) (m9 8) a6x))) (a3w (v8 (m9 7) (v8 (m9 8) a3x))) (m7 (v9 9 nd (u9 (d7 (d8 (o7 (hu_of hr) (d8 (o7 (hu_of hr) (j5 1) (d8 j7))) (d8 j7))) (d7 (d8 (j8 7)) j6))))
    (m7 (a5d (ax9 (a4f hr) (j5 9) (d8 (u9 (d7 (d8 (u9 (d7 (d8 o8) (d7 (d8 j7) j6)))) (d7 (d8 (u9 (d7 (d8 o8) (d7 (d8 j7) j6)))) (d7 (d8 (u9 (d7 (d8 o8) (d7 (d8 j7) j6)))) j6)))))) (v5 (v9 8 nd (o7 (hu_of hr) (d8 (a08 (a3c rfl) a5m T.n_dict boot_dict (d7 (j5 2) j6))) (j5 8)))) a1p)
    (m7 (a5d (ax9 (a4f hr) (j5 9) (d8 (u9 (d7 (d8 (u9 (d7 (d8 o8) (d7 (d8 j7) j6)))) (d7 (d8 (u9 (d7 (d8 o8) (d7 (d8 j7) j6)))) j6))))) (v5 (v9 8 nd (o9 (G__law_stamp_by Z.cls hZ) (hr.mono (by decide)) hG T.g12 T.F12.kp T.b12 t7 (d7 (d8 (j8 3)) (d7 (d8 (j8 8)) j6))))) a1p)
    (m7 (a5d (a9r hr.units (j5 9) (d8 (u9 (d7 (d8 o8) (d7 (d8 j7) j6))))) (v5 (v9 8 nd (a08 a0p a2i T.n_tuple boot_tuple (d7 (d8 (a8h [("_law_stamp", 10)] rfl nd (a4p (j8 8)) (blkOk_by (N := a65) (sc := defScope a07) (by decide +kernel)) (fun _ _ _ _ _ => (a0n 10 nd)) (m9 10) (fun _ _ _ _ _ => (a2m rfl)) (fun _ _ _ _ _ => (o9 (G__law_stamp_by Z.cls hZ) (hr.mono (by decide)) hG T.g12 T.F12.kp T.b12 t7 (d7 (d8 (j8 3)) (d7 (d8 (j8 10)) j6)))))) j6)))) a1p)
    (m7 (a5d (ad7 (az0 (a9r hr.units (j5 7) (d8 j7)) (ah2 (ax9 (a4f hr) (d8 (o7 (hu_of hr) (d8 (o7 (hu_of hr) (j5 1) (d8 j7))) (d8 j7))) (d8 (u9 (d7 (d8 o8) (d7 (d8 o8) (d7 (d8 o8) (d7 (d8 o8) (d7 (d8 o8) j6))))))))))) (v5 (v9 8 nd (o7 (hu_of hr) (d8 (a08 (a3c rfl) a5m T.n_dict boot_dict (d7 (j5 4) j6))) (j5 8)))) a1p)
    (v5 (a83 (a4t 6 (j8 8))))))))))
    (v5 (a0u (u9 (d7 (d8 (a0z (d8 (o7 (hu_of hr) (j5 1) (d8 j7))) (j5 5))) (d7 (d8 (a08 a0p a2i T.n_tuple boot_tuple (d7 (j5 6) j6))) j6))))))))
theorem a7e (T : Txt K mg fa fd ca cl) : FnG P w K mg base CX0 1 (fa 14) (fd 14) a1e (spD K cl [false] a1n) := by
  refine okD T.F14 sc__law_contrary [false] rfl (by decide) (c := a3m) fun cdv A outer s H E Z W hZ hr hG hWo => ?_
  have nd := sc__law_contrary.nd
  exact (m7 (ac6 (a8y 4 rfl (a0i (a0k 1 nd) (m9 1) (a0i (a0k 2 nd) (m9 2) (a0i (a0k 3 nd) (m9 3) (a0i (a0k 4 nd) (m9 4) a6x))))) (a3w (v8 (m9 1) (v8 (m9 2) (v8 (m9 3) (v8 (m9 4) a3x))))) (j8 0))
    (m7 (a7m 5 [("_law_one", 6)] rfl nd rfl rfl (sw_true rfl rfl rfl (by decide +kernel)) (a4p (u9 (d7 (d8 (j8 1)) (d7 (d8 (j8 2)) (d7 (d8 (j8 3)) j6))))) (blkOk_by (N := a3e) (sc := defScope a00) (by decide +kernel)) (fun _ _ _ _ _ => (a0n 6 nd)) (m9 6) (fun _ _ _ _ _ => (a2m rfl)) (fun _ _ _ _ _ => (a08 a0p a2i T.n_tuple boot_tuple (d7 (d8 (a8h [("_law_elder", 7), ("_law_newer", 8)] rfl nd (a4p (j8 6)) (a94 (N := a3e) rfl rfl (by kernel_rfl)) (fun _ _ _ _ _ => (a97 2 rfl (a2p (a0n 7 nd) (m9 7) (a2p (a0n 8 nd) (m9 8) a7s)))) (a3w (v8 (m9 7) (v8 (m9 8) a3x))) (fun _ _ _ _ _ => (a2m rfl)) (fun _ _ _ _ _ => (u9 (d7 (d8 (j8 8)) (d7 (d8 (j8 7)) j6)))))) j6))))
    (v5 (a0u (u9 (d7 (d8 (o7 (hu_of hr) (j5 5) (d8 j7))) (d7 (d8 (o7 (hu_of hr) (j5 5) (d8 j7))) (d7 (d8 (o7 (hu_of hr) (j5 5) (d8 j7))) (d7 (d8 (ak0 (d8 j7) (j5 4))) j6)))))))))
theorem ok_law (T : Txt K mg fa fd ca cl) : FnG P w K mg base CX0 5 (fa 15) (fd 15) ak2 (spD K cl [false] as4) := by
  have G_renamed : ∀ c', c' = cl → FnG P w K mg base CX0 3 (fa 2) (fd 2) a4b (spD K c' [false, false, false, false, false] a2s) := fun _ e => e ▸ am8 T
  have G__law_tape : ∀ c', c' = cl → FnG P w K mg base CX0 1 (fa 3) (fd 3) a2r (spD K c' [false] a3o) := fun _ e => e ▸ ad1 T
  have G__law_pick_4 : ∀ c', c' = cl → FnG P w K mg base CX0 1 (fa 4) (fd 4) a04 (spD K c' [true, false] j9) := fun _ e => e ▸ a0o T
  have G__law_river_4 : ∀ c', c' = cl → FnG P w K mg base CX0 2 (fa 5) (fd 5) a1j (spD K c' [true] a1w) := fun _ e => e ▸ a7y T
  have G__law_pages : ∀ c', c' = cl → FnG P w K mg base CX0 4 (fa 9) (fd 9) a2e (spD K c' [true, false, false] a2t) := fun _ e => e ▸ a99 T
  have G__law_renaming : ∀ c', c' = cl → FnG P w K mg base CX0 3 (fa 11) (fd 11) a1a (spD K c' [true, false] a1k) := fun _ e => e ▸ a7d T
  have G__law_page_by : ∀ c', c' = cl → FnG P w K mg base CX0 2 (fa 13) (fd 13) a1r (spD K c' [false, false] a1x) := fun _ e => e ▸ a8j T
  have G__law_contrary : ∀ c', c' = cl → FnG P w K mg base CX0 1 (fa 14) (fd 14) a1e (spD K c' [false] a1n) := fun _ e => e ▸ a7e T
  refine okD T.F15 sc_law [false] rfl (by decide) (c := b4a) fun cdv A outer s H E Z W hZ hr hG hWo => ?_
  have nd := sc_law.nd
  exact (m7 (v9 1 nd (o9 (G__law_tape Z.cls hZ) (hr.mono (by decide)) hG T.g3 T.F3.kp T.b3 t7 (d7 (d8 (j8 0)) j6)))
    (m7 (v9 2 nd (ar5 (a9r hr.units (d8 (o9 (G__law_pick_4 Z.cls hZ) (hr.mono (by decide)) hG T.g4 T.F4.kp T.b4 t7 (d7 (j5 1) (d7 (d8 j7) j6)))) (d8 j7)) j7 (a0z (d8 j7) (d8 (o9 (G__law_pick_4 Z.cls hZ) (hr.mono (by decide)) hG T.g4 T.F4.kp T.b4 t7 (d7 (j5 1) (d7 (d8 j7) j6)))))))
    (m7 (v9 3 nd (o9 (G__law_river_4 Z.cls hZ) (hr.mono (by decide)) hG T.g5 T.F5.kp T.b5 t7 (d7 (j5 1) j6)))
    (m7 (v9 4 nd (a08 a0p a2i T.n_tuple boot_tuple (d7 (d8 (a0c (a6n rfl (a4f hr)) (a6j hWo) T.n_sorted boot_sorted (d7 (d8 (o9 (G__law_pages Z.cls hZ) (hr.mono (by decide)) hG T.g9 T.F9.kp T.b9 t7 (d7 (j5 1) (d7 (d8 (j8 3)) (d7 (d8 (j8 2)) j6))))) j6))) j6)))
    (m7 (a7m 5 [("_law_k", 15)] rfl nd rfl rfl (sw_true rfl rfl rfl (by decide +kernel)) (a3h T.n_range (d7 (d8 j7) j6)) (blkOk_by (N := aq8) (sc := defScope a5w) (by decide +kernel)) (fun _ _ _ _ _ => (a0n 15 nd)) (m9 15) (fun _ _ _ _ _ => (a2m rfl)) (fun _ _ _ _ _ => (o9 (G__law_renaming Z.cls hZ) (hr.mono (by decide)) hG T.g11 T.F11.kp T.b11 t7 (d7 (j5 1) (d7 (d8 (j8 4)) j6)))))
    (m7 (v9 6 nd (a0c (a1f hG hr.units) a3y T.n_repr boot_repr (d7 (d8 (u9 (d7 (d8 (j8 4)) (d7 (d8 (j8 5)) j6)))) j6)))
    (m7 (a8x PassesOwn.never rfl (a4p (a0z (j5 5) (d8 (a5g (j5 5) a5q (a5n j7))))) (a0k 7 nd) (m9 7) (m7 (ac6 (a8y 4 rfl (a0i (a0k 9 nd) (m9 9) (a0i (a0k 10 nd) (m9 10) (a0i (a0k 11 nd) (m9 11) (a0i (a0k 12 nd) (m9 12) a6x))))) (a3w (v8 (m9 9) (v8 (m9 10) (v8 (m9 11) (v8 (m9 12) a3x))))) (j8 7))
    (m7 (v9 13 nd (a08 a0p a2i T.n_tuple boot_tuple (d7 (d8 (a8h [("_law_page", 17)] rfl nd (a4p (j8 4)) (blkOk_by (N := aq8) (sc := defScope a5w) (by decide +kernel)) (fun _ _ _ _ _ => (a0n 17 nd)) (m9 17) (fun _ _ _ _ _ => (a2m rfl)) (fun _ _ _ _ _ => (o9 (G__law_page_by Z.cls hZ) (hr.mono (by decide)) hG T.g13 T.F13.kp T.b13 t7 (d7 (d8 (j8 7)) (d7 (d8 (j8 17)) j6)))))) j6)))
    (m7 (v9 14 nd (o9 (G_renamed Z.cls hZ) (hr.mono (by decide)) hG T.g2 T.F2.kp T.b2 t7 (d7 (d8 (j8 4)) (d7 (d8 (j8 9)) (d7 (d8 (j8 10)) (d7 (d8 (j8 11)) (d7 (d8 (j8 12)) j6)))))))
    (m7 (a5d (ad7 (am3 (b6n (b20 (a0c call_isi b63 T.n_isinstance boot_isinstance (d7 (j5 14) (d7 (d8 (ba7 T.n_tuple boot_tuple)) j6))))) (am3 (ae0 hr.units (d8 (a0c (a1f hG hr.units) a3y T.n_repr boot_repr (d7 (j5 14) j6))) (d8 (a0c (a1f hG hr.units) a3y T.n_repr boot_repr (d7 (j5 13) j6)))) (aa6 (ae0 hr.units (d8 (a08 call_list_of a9x T.n_list boot_list (d7 (j5 13) j6))) (d8 (a0c (b0t rfl (a4f hr)) (b1h hWo) T.n_sorted boot_sorted (d7 (j5 13) j6)))))))) (v5 (a0u b3u)) a1p)
    (m7 (ac6 (a8y 4 rfl (a0i (a0k 9 nd) (m9 9) (a0i (a0k 10 nd) (m9 10) (a0i (a0k 11 nd) (m9 11) (a0i (a0k 12 nd) (m9 12) a6x))))) (a3w (v8 (m9 9) (v8 (m9 10) (v8 (m9 11) (v8 (m9 12) a3x))))) (o9 (G__law_contrary Z.cls hZ) (hr.mono (by decide)) hG T.g14 T.F14.kp T.b14 t7 (d7 (d8 (j8 7)) j6)))
    (v5 (a5d (ae0 hr.units (d8 (a0c (a1f hG hr.units) a3y T.n_repr boot_repr (d7 (d8 (o9 (G_renamed Z.cls hZ) (hr.mono (by decide)) hG T.g2 T.F2.kp T.b2 t7 (d7 (d8 (j8 14)) (d7 (d8 (j8 9)) (d7 (d8 (j8 10)) (d7 (d8 (j8 11)) (d7 (d8 (j8 12)) j6))))))) j6))) (d8 (a0c (a1f hG hr.units) a3y T.n_repr boot_repr (d7 (j5 4) j6)))) (v5 (a0u b3u)) a1p))))))))
    (m7 (a7m 8 [("_law_one", 16)] rfl nd rfl rfl (sw_true rfl rfl rfl (by decide +kernel)) (a4p (a5g (d8 (o7 (hu_of hr) (j5 5) (d8 j7))) a5q (a5n j7))) (blkOk_by (N := aq8) (sc := defScope a5w) (by decide +kernel)) (fun _ _ _ _ _ => (a0n 16 nd)) (m9 16) (fun _ _ _ _ _ => (a2m rfl)) (fun _ _ _ _ _ => (a08 a0p a2i T.n_tuple boot_tuple (d7 (d8 (a8h [("_law_elder", 18), ("_law_newer", 19)] rfl nd (a4p (j8 16)) (a94 (N := aq8) rfl rfl (by kernel_rfl)) (fun _ _ _ _ _ => (a97 2 rfl (a2p (a0n 18 nd) (m9 18) (a2p (a0n 19 nd) (m9 19) a7s)))) (a3w (v8 (m9 18) (v8 (m9 19) a3x))) (fun _ _ _ _ _ => (a2m rfl)) (fun _ _ _ _ _ => (u9 (d7 (d8 (j8 18)) (d7 (d8 (j8 18)) j6)))))) j6))))
    (m7 (a5d (ae0 hr.units (d8 (a0c (a1f hG hr.units) a3y T.n_repr boot_repr (d7 (d8 (o9 (G_renamed Z.cls hZ) (hr.mono (by decide)) hG T.g2 T.F2.kp T.b2 t7 (d7 (d8 (j8 4)) (d7 (d8 (o7 (hu_of hr) (j5 8) (d8 j7))) (d7 (d8 (o7 (hu_of hr) (j5 8) (d8 j7))) (d7 (d8 (o7 (hu_of hr) (j5 8) (d8 j7))) (d7 (d8 j7) j6))))))) j6))) (d8 (a0c (a1f hG hr.units) a3y T.n_repr boot_repr (d7 (j5 4) j6)))) (v5 (a0u b3u)) a1p)
    (v5 (a0u (b86 (b88 hr.units (d8 (a0c (a1f hG hr.units) a3y T.n_repr boot_repr (d7 (d8 (u9 (d7 (d8 (j8 4)) (d7 (d8 (j8 5)) j6)))) j6))) (j5 6)) (b8i (b88 hr.units (d8 (a0c (a1f hG hr.units) a3y T.n_repr boot_repr (d7 (d8 (o9 (G_renamed Z.cls hZ) (hr.mono (by decide)) hG T.g2 T.F2.kp T.b2 t7 (d7 (d8 (u9 j6)) (d7 (d8 (u9 j6)) (d7 (d8 (u9 j6)) (d7 (d8 (u9 j6)) (d7 (d8 j7) j6))))))) j6))) (d8 (a0c (a1f hG hr.units) a3y T.n_repr boot_repr (d7 (d8 (u9 j6)) j6)))))))))))))))))
end
end K78
namespace K78
open PySem L2 PySem.Spec PyProof.Rows Dv
local macro_rules | `(tactic| tm_at "rf") => `(tactic| first
  | exact rfl)
local macro_rules | `(tactic| tm_at "de") => `(tactic| first
  | decide)
local macro_rules | `(tactic| tm_at "om'") => `(tactic| fail "no rule")
local macro_rules | `(tactic| tm_at "om'") => `(tactic| first
  | omega
  | with_reducible assumption
  | with_reducible exact rfl
  | with_reducible exact Bool.false_ne_true)
local macro_rules | `(tactic| tm_at "om") => `(tactic| first | tm_at "om'" | fail "no step")
local macro_rules | `(tactic| tm_at "st'") => `(tactic| fail "no rule")
local macro_rules | `(tactic| tm_at "st'") => `(tactic| first
  | with_reducible exact bq6
  | ((with_reducible apply bm1); tm_at "st"))
local macro_rules | `(tactic| tm_at "st") => `(tactic| first | tm_at "st'" | fail "no step")
local macro_rules | `(tactic| tm_at "up'") => `(tactic| fail "no rule")
local macro_rules | `(tactic| tm_at "up'") => `(tactic| first
  | with_reducible exact b6i
  | ((with_reducible apply b35); tm_at "st"; tm_at "up"))
local macro_rules | `(tactic| tm_at "up") => `(tactic| first | tm_at "up'" | fail "no step")
local macro_rules | `(tactic| tm_at "im'") => `(tactic| fail "no rule")
local macro_rules | `(tactic| tm_at "im'") => `(tactic| first
  | with_reducible exact im_nil
  | ((with_reducible apply im_cons); (exact a91 (by omega) (by omega)); tm_at "im"))
local macro_rules | `(tactic| tm_at "im") => `(tactic| first | tm_at "im'" | fail "no step")
local macro_rules | `(tactic| tm_at "lk'") => `(tactic| fail "no rule")
local macro_rules | `(tactic| tm_at "lk'") => `(tactic| first
  | ((with_reducible apply ba4); tm_at "rf")
  | ((with_reducible apply lk_lent); tm_at "rf"))
local macro_rules | `(tactic| tm_at "lk'") => `(tactic| first
  | with_reducible exact bc0
  | with_reducible exact lk_vw
  | with_reducible exact b3h
  | ((with_reducible apply b0j); tm_at "lk"; tm_at "lk")
  | ((with_reducible apply b5y); tm_at "rf"))
local macro_rules | `(tactic| tm_at "lk") => `(tactic| first | tm_at "lk'" | fail "no step")
local macro_rules | `(tactic| tm_at "fz'") => `(tactic| fail "no rule")
local macro_rules | `(tactic| tm_at "fz'") => `(tactic| first
  | with_reducible exact frL_ints _
  | ((with_reducible apply be5); tm_at "fz")
  | ((with_reducible apply b53); tm_at "fz"; tm_at "fz")
  | ((with_reducible apply a6r); with_reducible assumption)
  | ((with_reducible apply a6r); tm_at "rf"))
local macro_rules | `(tactic| tm_at "fz'") => `(tactic| first
  | with_reducible exact fz_n
  | with_reducible exact be0
  | with_reducible exact bf0
  | with_reducible exact fz_pr
  | with_reducible assumption)
local macro_rules | `(tactic| tm_at "fz'") => `(tactic| first
  | with_reducible exact b7n
  | with_reducible exact bk0
  | with_reducible exact bn8
  | with_reducible exact fz_b
  | with_reducible exact be7)
local macro_rules | `(tactic| tm_at "fz") => `(tactic| first | tm_at "fz'" | fail "no step")
local macro_rules | `(tactic| tm_at "pp'") => `(tactic| fail "no rule")
local macro_rules | `(tactic| tm_at "pp'") => `(tactic| first
  | with_reducible exact b79
  | ((with_reducible apply bk1); tm_at "fz"; tm_at "pp")
  | ((with_reducible apply b8v); tm_at "rf"; tm_at "st"; tm_at "pp")
  | ((with_reducible apply bd4); tm_at "rf"; tm_at "st"; tm_at "pp")
  | ((with_reducible apply pp_t); tm_at "pp"))
local macro_rules | `(tactic| tm_at "pp") => `(tactic| first | tm_at "pp'" | fail "no step")
local macro_rules | `(tactic| tm_at "bk'") => `(tactic| fail "no rule")
local macro_rules | `(tactic| tm_at "bk'") => `(tactic| first
  | with_reducible exact b7x
  | ((with_reducible apply br1); tm_at "bk")
  | ((with_reducible apply b6t); tm_at "rf"; tm_at "st"; tm_at "bk")
  | ((with_reducible apply bf1); tm_at "rf"; tm_at "st"; tm_at "bk")
  | ((with_reducible apply bk_t); tm_at "bk"))
local macro_rules | `(tactic| tm_at "bk") => `(tactic| first | tm_at "bk'" | fail "no step")
local macro_rules | `(tactic| tm_at "wp'") => `(tactic| fail "no rule")
local macro_rules | `(tactic| tm_at "wp'") => `(tactic| first
  | with_reducible exact b6o
  | ((with_reducible apply b4v); tm_at "st"; tm_at "wp"))
local macro_rules | `(tactic| tm_at "wp") => `(tactic| first | tm_at "wp'" | fail "no step")
local macro_rules | `(tactic| tm_at "rs'") => `(tactic| fail "no rule")
local macro_rules | `(tactic| tm_at "rs'") => `(tactic| first
  | with_reducible exact b8o
  | ((with_reducible apply b4x); tm_at "rf"; tm_at "st"; tm_at "rs"))
local macro_rules | `(tactic| tm_at "rs") => `(tactic| first | tm_at "rs'" | fail "no step")
local macro_rules | `(tactic| tm_at "ow'") => `(tactic| fail "no rule")
local macro_rules | `(tactic| tm_at "ow'") => `(tactic| first
  | with_reducible exact OwnS.own _
  | with_reducible exact OwnS.none
  | assumption
  | exact OwnP.ownS (by assumption))
local macro_rules | `(tactic| tm_at "ow") => `(tactic| first | tm_at "ow'" | fail "no step")
local macro_rules | `(tactic| tm_at "op2'") => `(tactic| fail "no rule")
local macro_rules | `(tactic| tm_at "op2'") => `(tactic| first
  | with_reducible exact OwnP.non
  | with_reducible assumption
  | ((with_reducible apply OwnP.ow); tm_at "rf")
  | ((with_reducible apply OwnP.ow); with_reducible assumption))
local macro_rules | `(tactic| tm_at "op2") => `(tactic| first | tm_at "op2'" | fail "no step")
local macro_rules | `(tactic| tm_at "oo'") => `(tactic| fail "no rule")
local macro_rules | `(tactic| tm_at "oo'") => `(tactic| first
  | with_reducible exact b6a
  | ((with_reducible apply b4l); tm_at "rf"; tm_at "op2"; tm_at "oo"))
local macro_rules | `(tactic| tm_at "oo") => `(tactic| first | tm_at "oo'" | fail "no step")
local macro_rules | `(tactic| tm_at "ln'") => `(tactic| fail "no rule")
local macro_rules | `(tactic| tm_at "ln'") => `(tactic| first
  | assumption
  | ((try simp only [List.length_append, List.length_cons, List.length_nil, List.length_map, List.length_take, List.length_drop, List.length_set, List.length_reverse, List.length_range, List.length_replicate]); omega))
local macro_rules | `(tactic| tm_at "ln") => `(tactic| first | tm_at "ln'" | fail "no step")
local macro_rules | `(tactic| tm_at "al'") => `(tactic| fail "no rule")
local macro_rules | `(tactic| tm_at "al'") => `(tactic| first
  | with_reducible exact b8t
  | ((with_reducible apply b4b); (first | exact rfl | exact OwnS.lent (by assumption) | exact OwnS.lent (OwnP.ownS (by assumption))); tm_at "al"))
local macro_rules | `(tactic| tm_at "al") => `(tactic| first | tm_at "al'" | fail "no step")
local macro_rules | `(tactic| tm_at "lo") => `(tactic| first
  | ((with_reducible apply bb8); tm_at "rf"; tm_at "st"; tm_at "al"))
local macro_rules | `(tactic| tm_at "sd") => `(tactic| first
  | with_reducible assumption)
local macro_rules | `(tactic| tm_at "ow3'") => `(tactic| fail "no rule")
local macro_rules | `(tactic| tm_at "ow3'") => `(tactic| first
  | exact rfl
  | with_reducible assumption)
local macro_rules | `(tactic| tm_at "ow3") => `(tactic| first | tm_at "ow3'" | fail "no step")
local macro_rules | `(tactic| tm_at "ln2'") => `(tactic| fail "no rule")
local macro_rules | `(tactic| tm_at "ln2'") => `(tactic| first
  | with_reducible assumption
  | (show _ < _; tm_at "ln"))
local macro_rules | `(tactic| tm_at "ln2") => `(tactic| first | tm_at "ln2'" | fail "no step")
local macro_rules | `(tactic| tm_at "op'") => `(tactic| fail "no rule")
local macro_rules | `(tactic| tm_at "op'") => `(tactic| first
  | ((with_reducible apply ro (attrX_is (by decide) (by decide) rfl)))
  | ((with_reducible apply isi_t); (exact rfl))
  | ((with_reducible apply isi_f); (exact rfl)))
local macro_rules | `(tactic| tm_at "op'") => `(tactic| first
  | with_reducible refine ro cnt_t ?_
  | with_reducible refine ro cnt_oi ?_
  | with_reducible refine ro cnt_toi ?_
  | ((with_reducible apply ro (isx_is (b := true) (by decide) (by decide))))
  | ((with_reducible apply ro (isx_is (b := false) (by decide) (by decide)))))
local macro_rules | `(tactic| tm_at "op'") => `(tactic| first
  | with_reducible refine ro (add_bi _ _) ?_
  | with_reducible refine ro (sub_bi _ _) ?_
  | with_reducible refine ro ixp0 ?_
  | with_reducible refine ro ixp1 ?_
  | with_reducible refine ro cnt_l ?_)
local macro_rules | `(tactic| tm_at "op'") => `(tactic| first
  | ((with_reducible apply b2v); tm_at "rf")
  | with_reducible refine ro listD_tup ?_
  | with_reducible refine ro (slD_tup _ _ _) ?_
  | ((with_reducible apply ao5); tm_at "ln")
  | with_reducible refine ro rev3_tup ?_)
local macro_rules | `(tactic| tm_at "op'") => `(tactic| first
  | with_reducible refine ro isi_int ?_
  | with_reducible refine ro b3c ?_
  | with_reducible refine ro b3m ?_
  | ((with_reducible apply b3a); tm_at "rf")
  | ((with_reducible apply b32); tm_at "rf"))
local macro_rules | `(tactic| tm_at "op'") => `(tactic| first
  | with_reducible refine ro (isnot_bl _ _) ?_
  | with_reducible refine ro (is_non _) ?_
  | with_reducible refine ro (isnot_non _) ?_
  | with_reducible refine ro int_bl ?_
  | with_reducible refine ro b4u ?_)
local macro_rules | `(tactic| tm_at "op'") => `(tactic| first
  | with_reducible refine ro (lenD_tup _) ?_
  | with_reducible refine ro (min2_int _ _) ?_
  | with_reducible refine ro (max2_int _ _) ?_
  | with_reducible refine ro abs_int ?_
  | with_reducible refine ro (is_bl _ _) ?_)
local macro_rules | `(tactic| tm_at "op'") => `(tactic| first
  | with_reducible refine ro lent1 ?_
  | with_reducible refine ro lent3 ?_
  | with_reducible refine ro lent4 ?_
  | with_reducible refine ro lent0 ?_
  | with_reducible refine ro (lenD_lst _ _) ?_)
local macro_rules | `(tactic| tm_at "op'") => `(tactic| first
  | with_reducible refine ro pw9 ?_
  | with_reducible refine ro pw6 ?_
  | with_reducible refine ro pw12 ?_
  | with_reducible refine ro bm0 ?_
  | with_reducible refine ro lent2 ?_)
local macro_rules | `(tactic| tm_at "op'") => `(tactic| first
  | with_reducible refine ro ixt2 ?_
  | ((with_reducible apply ro); with_reducible assumption)
  | ((with_reducible apply ah7); tm_at "om")
  | ((with_reducible apply aa7); tm_at "om"; tm_at "om")
  | ((with_reducible apply ad9); tm_at "om"; tm_at "om"; tm_at "om"; tm_at "om"))
local macro_rules | `(tactic| tm_at "op'") => `(tactic| first
  | with_reducible refine ro (leD_int _ _) ?_
  | with_reducible refine ro (gtD_int _ _) ?_
  | with_reducible refine ro (geD_int _ _) ?_
  | with_reducible refine ro ixt0 ?_
  | with_reducible refine ro ixt1 ?_)
local macro_rules | `(tactic| tm_at "op'") => `(tactic| first
  | with_reducible refine ro (addD_int _ _) ?_
  | with_reducible refine ro (subD_int _ _) ?_
  | with_reducible refine ro (eqD_int _ _) ?_
  | with_reducible refine ro (neD_int _ _) ?_
  | with_reducible refine ro (ltD_int _ _) ?_)
local macro_rules | `(tactic| tm_at "op") => `(tactic| first | tm_at "op'" | fail "no step")
local macro_rules | `(tactic| tm_at "pd'") => `(tactic| fail "no rule")
local macro_rules | `(tactic| tm_at "pd'") => `(tactic| first
  | with_reducible assumption
  | exact rfl)
local macro_rules | `(tactic| tm_at "pd") => `(tactic| first | tm_at "pd'" | fail "no step")
local macro_rules | `(tactic| tm_at "ow0'") => `(tactic| fail "no rule")
local macro_rules | `(tactic| tm_at "ow0'") => `(tactic| first
  | exact rfl
  | with_reducible assumption)
local macro_rules | `(tactic| tm_at "ow0") => `(tactic| first | tm_at "ow0'" | fail "no step")
local macro_rules | `(tactic| tm_at "sb'") => `(tactic| fail "no rule")
local macro_rules | `(tactic| tm_at "sb'") => `(tactic| first
  | with_reducible assumption
  | exact rfl)
local macro_rules | `(tactic| tm_at "sb") => `(tactic| first | tm_at "sb'" | fail "no step")
local macro_rules | `(tactic| tm_at "dr") => `(tactic| first
  | ((with_reducible apply a1s); (with_reducible assumption); tm_at "om"; tm_at "om"; tm_at "om"))
local macro_rules | `(tactic| tm_at "zE") => `(tactic| fail "no rule")
local macro_rules | `(tactic| tm_at "zE") => `(tactic| first
  | ((with_reducible apply we_mov); tm_at "rf"; tm_at "st")
  | with_reducible refine we_tak' ?_)
local macro_rules | `(tactic| tm_at "zE") => `(tactic| first
  | with_reducible refine we_ifT ?_
  | ((with_reducible apply we_pt); tm_at "rf")
  | with_reducible refine we_itP' ?_
  | ((with_reducible apply we_sub); tm_at "rf")
  | with_reducible refine b3x ?_)
local macro_rules | `(tactic| tm_at "zE") => `(tactic| first
  | ((with_reducible apply we_borRi); tm_at "rf"; tm_at "st")
  | ((with_reducible apply we_borRo); tm_at "rf"; tm_at "st")
  | ((with_reducible apply we_borTl); tm_at "rf")
  | ((with_reducible apply we_borTi); tm_at "rf"; tm_at "st")
  | ((with_reducible apply we_borTo); tm_at "rf"; tm_at "st"))
local macro_rules | `(tactic| tm_at "zE") => `(tactic| first
  | ((with_reducible apply we_up); tm_at "up")
  | ((with_reducible apply we_bor_l); tm_at "rf")
  | ((with_reducible apply we_bori); tm_at "rf"; tm_at "st")
  | ((with_reducible apply we_boro); tm_at "rf"; tm_at "st")
  | ((with_reducible apply we_borRl); tm_at "rf"))
local macro_rules | `(tactic| tm_at "zE") => `(tactic| first
  | with_reducible refine we_lrg1 ?_
  | with_reducible refine we_trg1 ?_
  | with_reducible refine we_lrg2 ?_
  | ((with_reducible apply we_rem); tm_at "rf"; tm_at "rf")
  | with_reducible refine a4n ?_)
local macro_rules | `(tactic| tm_at "zE") => `(tactic| first
  | with_reducible refine we_otp ?_
  | with_reducible refine we_listEn ?_
  | with_reducible refine we_op1 ?_
  | with_reducible refine we_mth ?_
  | with_reducible refine we_rng3 ?_)
local macro_rules | `(tactic| tm_at "zE") => `(tactic| first
  | with_reducible refine we_sstB ?_
  | with_reducible refine we_two2 ?_
  | with_reducible refine we_niRg ?_
  | ((with_reducible apply we_ext2); tm_at "rf"; tm_at "rf")
  | ((with_reducible apply we_extT); tm_at "rf"; tm_at "rf"))
local macro_rules | `(tactic| tm_at "zE") => `(tactic| first
  | with_reducible refine we_sst ?_
  | with_reducible refine we_sst2 ?_
  | with_reducible refine we_sstT ?_
  | with_reducible refine we_sstU ?_
  | with_reducible refine we_sstN ?_)
local macro_rules | `(tactic| tm_at "zE") => `(tactic| first
  | with_reducible refine we_rev3 ?_
  | with_reducible refine b34 ?_
  | ((with_reducible apply we_ins); tm_at "rf"; tm_at "rf")
  | ((with_reducible apply b6q); tm_at "rf"; with_reducible assumption)
  | with_reducible refine we_inRg ?_)
local macro_rules | `(tactic| tm_at "zE") => `(tactic| first
  | with_reducible refine we_get ?_
  | ((with_reducible apply b1d); tm_at "rf"; tm_at "st")
  | ((with_reducible apply we_lendi); tm_at "rf"; tm_at "st")
  | with_reducible refine we_rev ?_
  | with_reducible refine we_rev2 ?_)
local macro_rules | `(tactic| tm_at "zE") => `(tactic| first
  | with_reducible refine we_dic ?_
  | with_reducible refine we_dNil ?_
  | with_reducible refine we_dCons ?_
  | with_reducible refine we_zp ?_
  | with_reducible refine ba5 ?_)
local macro_rules | `(tactic| tm_at "zE") => `(tactic| first
  | with_reducible refine b9n ?_
  | with_reducible refine b4c ?_
  | with_reducible refine ax0 ?_
  | with_reducible refine b7o ?_
  | with_reducible refine we_ch ?_)
local macro_rules | `(tactic| tm_at "zE") => `(tactic| first
  | with_reducible refine b4h ?_
  | with_reducible refine we_rng2 ?_
  | with_reducible refine be3 ?_
  | with_reducible refine aw2 ?_
  | ((with_reducible apply b37); tm_at "rf"; tm_at "rf"))
local macro_rules | `(tactic| tm_at "zE") => `(tactic| first
  | with_reducible refine b56 ?_
  | with_reducible refine we_orV ?_
  | with_reducible refine we_notV ?_
  | with_reducible refine we_neg ?_
  | with_reducible refine b61 ?_)
local macro_rules | `(tactic| tm_at "zE") => `(tactic| first
  | ((with_reducible apply we_rdb); tm_at "rf"; with_reducible assumption; tm_at "st")
  | with_reducible refine b3q ?_
  | with_reducible refine b74 ?_
  | with_reducible refine b5m ?_
  | with_reducible refine b3t ?_)
local macro_rules | `(tactic| tm_at "zE") => `(tactic| first
  | ((with_reducible apply we_rdl); tm_at "rf"; tm_at "rf")
  | ((with_reducible apply b6l); tm_at "rf"; tm_at "rf"; tm_at "fz"; tm_at "st")
  | ((with_reducible apply we_rdoi); tm_at "rf"; tm_at "rf"; tm_at "fz"; tm_at "st")
  | ((with_reducible apply b8d); tm_at "rf"; with_reducible assumption)
  | ((with_reducible apply we_rdi); tm_at "rf"; with_reducible assumption))
local macro_rules | `(tactic| tm_at "zE") => `(tactic| first
  | with_reducible refine b54 ?_
  | with_reducible refine b8b ?_
  | with_reducible refine b03 ?_
  | ((with_reducible apply b8d); tm_at "rf"; tm_at "rf")
  | ((with_reducible apply we_rdi); tm_at "rf"; tm_at "rf"))
local macro_rules | `(tactic| tm_at "zE") => `(tactic| first
  | with_reducible refine bd9 ?_
  | with_reducible refine b0d ?_
  | with_reducible refine b5v ?_
  | ((with_reducible apply bb4); tm_at "rf")
  | with_reducible refine b5p ?_)
local macro_rules | `(tactic| tm_at "zC") => `(tactic| fail "no rule")
local macro_rules | `(tactic| tm_at "zC") => `(tactic| first
  | with_reducible refine wc_stiP' ?_
  | with_reducible refine wc_stg' ?_)
local macro_rules | `(tactic| tm_at "zC") => `(tactic| first
  | ((with_reducible apply wc_otpT); tm_at "rf")
  | with_reducible refine wc_ret0 ?_
  | with_reducible refine wc_raise ?_
  | ((with_reducible apply b02); tm_at "rf")
  | ((with_reducible apply wc_tupL); tm_at "rf"; tm_at "rf"))
local macro_rules | `(tactic| tm_at "zC") => `(tactic| first
  | with_reducible refine au5 ?_
  | with_reducible refine b1l ?_
  | with_reducible refine b4m ?_
  | ((with_reducible apply wc_lendo); tm_at "rf"; tm_at "st")
  | ((with_reducible apply wc_lendi); tm_at "rf"; tm_at "st"))
local macro_rules | `(tactic| tm_at "zC") => `(tactic| first
  | with_reducible refine b6e ?_
  | with_reducible refine b8y ?_
  | with_reducible refine b3l ?_
  | with_reducible refine ai8 ?_
  | ((with_reducible apply b5c); tm_at "rf"))
local macro_rules | `(tactic| tm_at "zC") => `(tactic| first
  | ((with_reducible apply b9u); tm_at "up")
  | ((with_reducible apply b69); tm_at "rf"; tm_at "ow"; tm_at "st")
  | with_reducible refine bd5 ?_
  | with_reducible refine b8z ?_
  | with_reducible refine b6m ?_)
local macro_rules | `(tactic| tm_at "zR") => `(tactic| fail "no rule")
local macro_rules | `(tactic| tm_at "zR") => `(tactic| first
  | ((with_reducible apply twd); tm_at "rf")
  | ((with_reducible apply ttk); tm_at "lk"; tm_at "pd")
  | with_reducible refine tv1 ?_)
local macro_rules | `(tactic| tm_at "zR") => `(tactic| first
  | (((with_reducible apply tsub_io); tm_at "lk"; (exact rfl); tm_at "sf"; (exact rfl); tm_at "sb"; tm_at "st"))
  | (((with_reducible apply tsub_own); tm_at "lk"; (exact rfl); tm_at "sf"; (exact rfl); tm_at "sb"; tm_at "st"))
  | ((with_reducible apply to_); tm_at "ow0")
  | ((with_reducible apply tdc); tm_at "lk"; tm_at "rf")
  | ((with_reducible apply tg2); tm_at "lk"; tm_at "lk"; tm_at "ow0"))
local macro_rules | `(tactic| tm_at "zR") => `(tactic| first
  | ((with_reducible apply tpo_io); tm_at "rf"; with_reducible assumption; tm_at "ln"; with_reducible assumption; tm_at "st")
  | ((with_reducible apply ex3); tm_at "ow3")
  | ((with_reducible apply tsm); tm_at "rf")
  | ((with_reducible apply tpt); tm_at "lk"; tm_at "rf"; tm_at "pd")
  | ((with_reducible apply tit_); with_reducible assumption))
local macro_rules | `(tactic| tm_at "zR") => `(tactic| first
  | with_reducible refine sk_l ?_
  | with_reducible refine sk_t ?_
  | ((with_reducible apply tmt); tm_at "lk"; tm_at "lk"; tm_at "rf")
  | ((with_reducible apply tr3); tm_at "om"; tm_at "om"; tm_at "om"; tm_at "om")
  | ((with_reducible apply aq5); tm_at "rf"; with_reducible assumption; tm_at "ln"; with_reducible assumption; tm_at "st"))
local macro_rules | `(tactic| tm_at "zR") => `(tactic| first
  | with_reducible refine toq_nx ?_
  | with_reducible refine toq_rt ?_
  | with_reducible refine toq_ct ?_
  | ((with_reducible apply toq_ex); tm_at "de"; tm_at "rf")
  | with_reducible refine wy_aNil ?_)
local macro_rules | `(tactic| tm_at "zR") => `(tactic| first
  | with_reducible refine tyq_ct ?_
  | with_reducible refine tyq_bk ?_
  | ((with_reducible apply tyq_ex); tm_at "de"; tm_at "rf"; tm_at "rf"; tm_at "ow"; tm_at "st")
  | ((with_reducible apply unq_nx); tm_at "st")
  | ((with_reducible apply unq_rt); tm_at "st"))
local macro_rules | `(tactic| tm_at "zR") => `(tactic| first
  | ((with_reducible apply fg_rt); tm_at "rf")
  | ((with_reducible apply fg_nx); tm_at "rf")
  | ((with_reducible apply fg_ex); tm_at "rf")
  | with_reducible refine tyq_nx ?_
  | with_reducible refine tyq_rt ?_)
local macro_rules | `(tactic| tm_at "zR") => `(tactic| first
  | ((with_reducible apply tmx); tm_at "ln")
  | with_reducible refine rg1 ?_
  | with_reducible refine rg2 ?_
  | with_reducible refine sq_ex ?_
  | with_reducible refine lq_ex ?_)
local macro_rules | `(tactic| tm_at "zR") => `(tactic| first
  | ((with_reducible apply tq); tm_at "lo"; tm_at "st")
  | ((with_reducible apply in2); tm_at "om"; tm_at "om"; tm_at "ow3")
  | ((with_reducible apply tm_own); tm_at "rf"; with_reducible assumption; tm_at "ln2"; tm_at "st")
  | with_reducible refine seti_t ?_
  | with_reducible refine seti_l ?_)
local macro_rules | `(tactic| tm_at "zR") => `(tactic| first
  | ((with_reducible apply en1); tm_at "rf")
  | with_reducible refine eq_nx ?_
  | with_reducible refine eq_rt ?_
  | ((with_reducible apply tq_up); tm_at "up")
  | ((with_reducible apply te_up); tm_at "up"))
local macro_rules | `(tactic| tm_at "zR") => `(tactic| first
  | ((with_reducible apply ti_own); tm_at "rf"; tm_at "sd"; tm_at "st")
  | ((with_reducible apply bb0); tm_at "rf"; tm_at "sd"; tm_at "st")
  | ((with_reducible apply b5o); tm_at "rf"; tm_at "ln"; tm_at "st")
  | ((with_reducible apply ta_io); tm_at "rf"; tm_at "ln"; tm_at "st")
  | ((with_reducible apply zp2); tm_at "rf"; tm_at "rf"))
local macro_rules | `(tactic| tm_at "zR") => `(tactic| first
  | with_reducible refine lq_rt ?_
  | with_reducible refine sq_ct ?_
  | with_reducible refine sq_bk ?_
  | ((with_reducible apply fq_nx); tm_at "rf")
  | ((with_reducible apply sl2); tm_at "rf"))
local macro_rules | `(tactic| tm_at "zR") => `(tactic| first
  | ((with_reducible apply tr); tm_at "om"; tm_at "om")
  | ((with_reducible apply tr2); tm_at "om"; tm_at "om"; tm_at "om"; tm_at "om")
  | ((with_reducible apply te); tm_at "st")
  | with_reducible refine lq_ct ?_
  | with_reducible refine lq_bk ?_)
local macro_rules | `(tactic| tm_at "zR") => `(tactic| first
  | with_reducible refine bc2 ?_
  | with_reducible refine tv2 ?_
  | with_reducible refine tv3 ?_
  | ((with_reducible apply ty); tm_at "fz")
  | ((with_reducible apply t1); tm_at "lk"))
local macro_rules | `(tactic| tm_at "zR") => `(tactic| first
  | ((with_reducible apply tw_up); tm_at "up")
  | ((with_reducible apply tw); tm_at "wp")
  | ((with_reducible apply lc2); tm_at "oo")
  | with_reducible refine ti ?_
  | with_reducible refine bb2 ?_)
local macro_rules | `(tactic| tm_at "zR") => `(tactic| first
  | ((with_reducible apply tx); tm_at "rs")
  | with_reducible refine bc8 ?_
  | ((with_reducible apply tz); tm_at "fz")
  | ((with_reducible apply ts); tm_at "rf")
  | ((with_reducible apply b9x); tm_at "rf"))
local macro_rules | `(tactic| tm_at "zR") => `(tactic| first
  | ((with_reducible apply tv); tm_at "rf")
  | ((with_reducible apply tk); tm_at "bk")
  | ((with_reducible apply tn); exact Nat.le_of_ble_eq_true rfl)
  | ((with_reducible apply tp); tm_at "pp")
  | ((with_reducible apply tx_up); tm_at "up"))
local macro_rules | `(tactic| tm_at "zR") => `(tactic| first
  | ((with_reducible apply t2); tm_at "lk"; tm_at "lk")
  | with_reducible refine tb ?_
  | ((with_reducible apply tl); tm_at "lk")
  | with_reducible refine ba2 ?_
  | ((with_reducible refine (?_ : RO _ _)); tm_at "op"))
local macro_rules | `(tactic| tm_at "zB'") => `(tactic| fail "no rule")
local macro_rules | `(tactic| tm_at "zB'") => `(tactic| first
  | with_reducible refine bo5 ?_
  | with_reducible refine bl5 ?_
  | with_reducible refine bo2 ?_
  | ((with_reducible apply b6z); tm_at "om")
  | ((with_reducible apply b6k); tm_at "om"))
local macro_rules | `(tactic| tm_at "zB") => `(tactic| first | tm_at "zB'" | fail "no step")
local macro_rules | `(tactic| tm_at "zx'E") => `(tactic| first | tm_at "zE")
local macro_rules | `(tactic| tm_at "zx'C") => `(tactic| first | with_reducible refine a3k ?_ | with_reducible refine al1 ?_ | with_reducible refine wc_try ?_ | with_reducible refine wc_tryO ?_ | tm_at "zC")
local macro_rules | `(tactic| tm_at "zx") => `(tactic| first | ((with_reducible refine (?_ : WE _ _)); tm_at "zx'E") | ((with_reducible refine (?_ : WC _ _)); tm_at "zx'C") | ((with_reducible refine (?_ : WB _ _ _)); tm_at "zB") | tm_at "zR" | fail "no step")
local macro_rules | `(tactic| tm_at "zq'E") => `(tactic| first | tm_at "zE")
local macro_rules | `(tactic| tm_at "zq'C") => `(tactic| first | with_reducible refine al1 ?_ | with_reducible refine wc_try ?_ | with_reducible refine wc_tryO ?_ | tm_at "zC")
local macro_rules | `(tactic| tm_at "zq") => `(tactic| first | ((with_reducible refine (?_ : WE _ _)); tm_at "zq'E") | ((with_reducible refine (?_ : WC _ _)); tm_at "zq'C") | ((with_reducible refine (?_ : WB _ _ _)); tm_at "zB") | tm_at "zR" | fail "no step")
local macro_rules | `(tactic| tm_at "zd'E") => `(tactic| first | with_reducible refine ay5 ?_ | with_reducible refine a9y ?_ | with_reducible refine ak3 ?_ | tm_at "zE")
local macro_rules | `(tactic| tm_at "zd'C") => `(tactic| first | with_reducible refine a3k ?_ | with_reducible refine av2 ?_ | with_reducible refine wc_try ?_ | with_reducible refine wc_tryO ?_ | tm_at "zC")
local macro_rules | `(tactic| tm_at "zd") => `(tactic| first | ((with_reducible refine (?_ : WE _ _)); tm_at "zd'E") | ((with_reducible refine (?_ : WC _ _)); tm_at "zd'C") | ((with_reducible refine (?_ : WB _ _ _)); tm_at "zB") | tm_at "zR" | fail "no step")
local macro_rules | `(tactic| tm_at "zt'E") => `(tactic| first | with_reducible refine ay5 ?_ | with_reducible refine a9y ?_ | with_reducible refine ak3 ?_ | tm_at "zE")
local macro_rules | `(tactic| tm_at "zt'C") => `(tactic| first | with_reducible refine a3k ?_ | with_reducible refine av2 ?_ | with_reducible refine al1 ?_ | tm_at "zC")
local macro_rules | `(tactic| tm_at "zt") => `(tactic| first | ((with_reducible refine (?_ : WE _ _)); tm_at "zt'E") | ((with_reducible refine (?_ : WC _ _)); tm_at "zt'C") | ((with_reducible refine (?_ : WB _ _ _)); tm_at "zB") | tm_at "zR" | fail "no step")
local macro_rules | `(tactic| tm_at "sf") => `(tactic| ((intro b); (with_reducible apply te); tm_at "st"; (repeat tm_at "zs"); (exact ⟨rfl, rfl⟩)))
local macro_rules | `(tactic| tm_at "zs'E") => `(tactic| first | with_reducible refine ay5 ?_ | with_reducible refine a9y ?_ | with_reducible refine ak3 ?_ | tm_at "zE")
local macro_rules | `(tactic| tm_at "zs'C") => `(tactic| first | with_reducible refine a3k ?_ | with_reducible refine av2 ?_ | with_reducible refine al1 ?_ | with_reducible refine wc_try ?_ | with_reducible refine wc_tryO ?_ | tm_at "zC")
local macro_rules | `(tactic| tm_at "zs") => `(tactic| first | ((with_reducible refine (?_ : WE _ _)); tm_at "zs'E") | ((with_reducible refine (?_ : WC _ _)); tm_at "zs'C") | ((with_reducible refine (?_ : WB _ _ _)); tm_at "zB") | tm_at "zR" | fail "no step")
def tpD (cs : List Int) (a l c : Int) : D := .lst true [.lst false (cs.map .int), .int a, .int l, .int c]
def Feed (n : Nat) (F : D) : Prop := ∃ cs a l c, F = tpD cs a l c ∧ 0 ≤ a ∧ 0 ≤ c ∧ c ≤ n
theorem Feed.le {n m : Nat} {F : D} (h : Feed n F) (l : n ≤ m) : Feed m F := by
  obtain ⟨cs, a, l', c, rfl, h1, h2, h3⟩ := h
  exact ⟨cs, a, l', c, rfl, h1, h2, by omega⟩
theorem b7l (ns : List Int) : ∃ F, a3o [.scr ns] = .ok F [] ∧ Feed 0 F := by
  show_term
  refine ⟨tpD (a8b ns none (some 63)) 0 0 0, ?_, _, _, _, _, rfl, by decide, by decide, by decide⟩
  apply b7b
  have SL : slD (.scr ns) none (some 63) = some (.lst true ((a8b ns none (some 63)).map .int)) := rfl
  have LD : a9t [.lst true ((a8b ns none (some 63)).map .int)] = some (.lst true ((a8b ns none (some 63)).map .int)) := by simp [a9t, az1]
  have FZ := b3n (b := true) (frL_ints (a8b ns none (some 63)))
  unfold a3o a67
  refine a2z (by simp [List.replicate]; rfl) ?_
  repeat tm_at "zs"
  exact ⟨rfl, rfl⟩
theorem a1s {n : Nat} {F : D} {m : Int} {Q : D → List D → Prop} (hF : Feed n F) (hn : n < 10 ^ 9) (hm : 1 ≤ m) (hm2 : m < 2 ^ 190) (k : ∀ v F', Feed (n + 1) F' → 0 ≤ v → v < m → Q (.int v) [F']) : WF (j9 [F, .int m]) Q := by
  show_term
  obtain ⟨cs, a, l, c, rfl, ha, hc, hcn⟩ := hF
  have I3 : ixD (tpD cs a l c) (.int 3) = some (.int c) := rfl
  have S3 : ad8 (tpD cs a l c) (.int 3) (.int (c + 1)) = some (tpD cs a l (c + 1)) := rfl
  have I2 : ixD (tpD cs a l (c + 1)) (.int 2) = some (.int l) := rfl
  have S2 : ad8 (tpD cs a l (c + 1)) (.int 2) (.int (l / m)) = some (tpD cs a (l / m) (c + 1)) := rfl
  have I1 : ixD (tpD cs a l (c + 1)) (.int 1) = some (.int a) := rfl
  have S1 : ad8 (tpD cs a l (c + 1)) (.int 1) (.int (a + 1)) = some (tpD cs (a + 1) l (c + 1)) := rfl
  have I0 : ixD (tpD cs (a + 1) l (c + 1)) (.int 0) = some (.lst false (cs.map .int)) := rfl
  have J3 : ixD (tpD cs (a + 1) l (c + 1)) (.int 3) = some (.int (c + 1)) := rfl
  have LN : ai0 [.lst false (cs.map .int)] = some (.int (cs.length : Int)) := by rw [lenD_lst, List.length_map]
  unfold j9 a4o
  refine a2z (by simp [List.replicate]; rfl) ?_
  repeat tm_at "zs"
  refine ao4 (fun hl => ?_) fun hl => ?_
  · repeat tm_at "zs"
    exact k _ _ ⟨_, _, _, _, rfl, ha, by omega, by omega⟩ (Int.emod_nonneg _ (by omega)) (Int.emod_lt_of_pos _ (by omega))
  repeat tm_at "zq"
  refine a3k ?_
  repeat tm_at "zq"
  refine a3k ?_
  repeat tm_at "zq"
  refine af4 (fun ρ ρ' => ∃ x : Int, ρ' = up ρ [(3, oI x)]) ?_ ?_
  · rcases cs with _ | ⟨c0, cs⟩
    · have N0 : neD (.lst false (([] : List Int).map .int)) (.lst true []) = some (.bl false) := ax6 false []
      repeat tm_at "zs"
      exact ⟨_, rfl⟩
    · have N0 : neD (.lst false ((c0 :: cs).map .int)) (.lst true []) = some (.bl true) := (ax6 false (c0 :: cs)).trans (by simp)
      have p0 : (0 : Int) < ((c0 :: cs).length : Int) := by rw [List.length_cons]; omega
      have h1 : 0 ≤ a % ((c0 :: cs).length : Int) := Int.emod_nonneg _ (by omega)
      have h2 : a % ((c0 :: cs).length : Int) < (c0 :: cs).length := Int.emod_lt_of_pos _ p0
      have ML : ae3 (.int a) (.int ((c0 :: cs).length : Int)) = some (.int (a % ((c0 :: cs).length : Int))) := aj8 p0
      generalize c0 :: cs = ds at *
      obtain ⟨j, hj⟩ : ∃ j : Nat, a % (ds.length : Int) = j := ⟨(a % (ds.length : Int)).toNat, by omega⟩
      rw [hj] at ML h1 h2
      have hj2 : j < ds.length := by omega
      have IX : ixD (.lst false (ds.map .int)) (.int (j : Int)) = some (.int ds[j]) := by
        rw [ae6, atI_nat (by rw [List.getElem?_map, List.getElem?_eq_getElem hj2]; rfl)]
        rfl
      repeat tm_at "zs"
      exact ⟨_, rfl⟩
  rintro _ ⟨x, rfl⟩
  repeat tm_at "zq"
  refine a3k (av2 (ap5 (fun ρ b ρ' => ρ' = ρ) (a9y ?_) ?_))
  · repeat tm_at "zs"
    refine ao4 (fun h => ?_) fun h => ?_
    · repeat tm_at "zs"
      exact rfl
    · repeat tm_at "zs"
      exact rfl
  rintro b _ rfl
  have S4 : ad8 (tpD cs (a + 1) l (c + 1)) (.int 2) (.int (x / m)) = some (tpD cs (a + 1) (x / m) (c + 1)) := rfl
  refine b97 (fun e => ?_) fun e => ?_
  · repeat tm_at "zs"
    exact k _ _ ⟨_, _, _, _, rfl, by omega, by omega, by omega⟩ (Int.emod_nonneg _ (by omega)) (Int.emod_lt_of_pos _ (by omega))
  · repeat tm_at "zs"
    exact k _ _ ⟨_, _, _, _, rfl, by omega, by omega, by omega⟩ (Int.emod_nonneg _ (by omega)) (Int.emod_lt_of_pos _ (by omega))
theorem b2y (a b : Str) : eqD (.str a) (.str b) = some (.bl (decide (a = b))) := by simp [eqD, eqB, flat, scal]
theorem b4p (a b : Str) : neD (.str a) (.str b) = some (.bl (!decide (a = b))) := by simp [neD, eqB, flat, scal]
theorem a72 {a b : Str} (z : Bool) {K : D → Prop} (e : eqD (.str a) (.str b) = some (.bl z)) (k : K (.bl z)) : RO (eqD (.str a) (.str b)) K := ⟨_, e, k⟩
theorem a6v {a : Str} {xs : List D} (z : Bool) {K : D → Prop} (e : inD (.str a) (.tup xs) = some (.bl z)) (k : K (.bl z)) : RO (inD (.str a) (.tup xs)) K := ⟨_, e, k⟩
theorem b4r {x : D} {xs : List D} : slD (.tup (x :: xs)) (some 1) none = some (.tup xs) := by
  have := av0 (xs := x :: xs) (k := 1) (by simp)
  exact congrArg (fun l => some (D.tup l)) this
local macro_rules | `(tactic| tm_at "op") => `(tactic| first
  | ((with_reducible apply a72 false); (exact rfl)) | ((with_reducible apply a72 true); (exact rfl)) | ((with_reducible apply a6v true); (exact rfl)) | ((with_reducible apply a6v false); (exact rfl)) | ((with_reducible apply ro_neSb true); (exact rfl)) | ((with_reducible apply ro_neSb false); (exact rfl)) | ((with_reducible apply ro_niSb true); (exact rfl)) | ((with_reducible apply ro_niSb false); (exact rfl)) | ((with_reducible apply au6); (exact rfl)) | (with_reducible refine ro b4r ?_) | (with_reducible refine ro sl2_t ?_) | (with_reducible refine ro sl3_t ?_))
local macro_rules | `(tactic| tm_at "op") => `(tactic| first
  | ((with_reducible apply a72 false); (exact rfl)) | ((with_reducible apply a72 true); (exact rfl)) | ((with_reducible apply a6v true); (exact rfl)) | ((with_reducible apply a6v false); (exact rfl)) | ((with_reducible apply ro_neSb true); (exact rfl)) | ((with_reducible apply ro_neSb false); (exact rfl)) | ((with_reducible apply ro_niSb true); (exact rfl)) | ((with_reducible apply ro_niSb false); (exact rfl)) | ((with_reducible apply au6); (exact rfl)) | (with_reducible refine ro b4r ?_) | (with_reducible refine ro sl2_t ?_) | (with_reducible refine ro sl3_t ?_))
abbrev Riv := List (Nat × Int)
def rD (p : Nat × Int) : D := .tup [.int (p.1 : Int), .int p.2]
abbrev rvD (xs : Riv) : D := .tup (xs.map rD)
structure RvOk (xs : Riv) : Prop where
  most : xs.length ≤ 100
  down : ∀ (k d : Nat) (m : Int), xs[k]? = some (d, m) → d ≤ k
  far : ∀ p ∈ xs, 1 ≤ p.2 ∧ p.2 ≤ 2 ^ 40
def a8q (xs : Riv) (p : Nat) : Nat := (xs.getD (p - 1) (0, 0)).1
def ao6 (xs : Riv) (p : Nat) : Int := (xs.getD (p - 1) (0, 0)).2
section
variable {xs : Riv} (R : RvOk xs)
include R
theorem b2f {p : Nat} (h0 : 0 < p) (h1 : p ≤ xs.length) : xs[p - 1]? = some (a8q xs p, ao6 xs p) := by
  unfold a8q ao6
  rw [List.getD_eq_getElem?_getD, List.getElem?_eq_getElem (by omega)]; rfl
theorem b3e {p : Nat} (h0 : 0 < p) (h1 : p ≤ xs.length) : a8q xs p < p := by
  have := R.down _ _ _ (b2f R h0 h1)
  omega
end
theorem as6 {n : Nat} {F : D} (hF : Feed n F) (hn : n + 200 < 10 ^ 9) {Q : D → List D → Prop} (k : ∀ (xs : Riv) F', Feed (n + 100) F' → RvOk xs → xs.length ≤ 12 → Q (rvD xs) [F']) : WF (a1w [F]) Q := by
  show_term
  unfold a1w a4a
  refine a2z (by simp [List.replicate]; rfl) ?_
  repeat tm_at "zs"
  refine a1s hF (by omega) (by decide) (by decide) fun v F1 hF1 v0 v1 => ?_
  repeat tm_at "zs"
  refine a6h 0 12 v0 (by simpa using v1) ?_ fun m m0 m1 => ?_
  · intro d hd
    simp only [List.mem_cons, List.not_mem_nil, or_false] at hd
    rcases hd with rfl | rfl | rfl | rfl | rfl | rfl | rfl | rfl <;> exact a91 (by omega) (by omega)
  obtain ⟨m, rfl⟩ := Int.eq_ofNat_of_zero_le m0
  repeat tm_at "zs"
  refine a1s hF1 (by omega) (by decide) (by decide) fun c F2 hF2 c0 c1 => ?_
  repeat tm_at "zs"
  refine a9i (I := fun ρ i ρ' => ∃ (xs : Riv) (F' : D) (x4 x5 : Option Slot), OwnS x4 ∧ OwnS x5 ∧ Feed (n + 2 + 4 * i) F' ∧ RvOk xs ∧ xs.length = i ∧ ρ' = [iD F', oI (m : Int), oI c, oD (.lst true (xs.map rD)), x4, x5]) ?_ ?_ ?_
  · exact ⟨[], F2, none, none, .none, .none, hF2, ⟨by simp, fun k d m e => (by cases e), fun p h => (by cases h)⟩, rfl, rfl⟩
  · rintro i ρ' hi ⟨xs, F', x4, x5, h4, h5, hF', R, xl, rfl⟩
    have i12 : i < 12 := by omega
    have px : a0d (xs.map rD) = true := a4s fun d hd => by obtain ⟨x, _, rfl⟩ := List.mem_map.mp hd; rfl
    have gl : (xs.map rD).length < 1000000 := by rw [List.length_map]; omega
    refine a3k ?_
    tm_at "zs"
    tm_at "zs"
    refine af4 (fun ρ ρ' => ∃ (d : Nat) (F3 : D), d ≤ i ∧ Feed (n + 2 + 4 * i + 2) F3 ∧ ρ' = [iD F3, oI (m : Int), oI c, oD (.lst true (xs.map rD)), oI (i : Int), oI (d : Int)]) ?_ ?_
    · repeat tm_at "zs"
      refine ao4 (fun e => ?_) fun e => ?_
      · repeat tm_at "zs"
        exact ⟨i, F', Nat.le_refl _, hF'.le (by omega), rfl⟩
      · repeat tm_at "zs"
        refine a1s hF' (by omega) (by decide) (by decide) fun w F3 hF3 w0 w1 => ?_
        repeat tm_at "zs"
        refine ao4 (fun e2 => ?_) fun e2 => ?_
        · repeat tm_at "zs"
          exact ⟨i, F3, Nat.le_refl _, hF3.le (by omega), rfl⟩
        · repeat tm_at "zs"
          refine a1s hF3 (by omega) (by omega) (by omega) fun u F4 hF4 u0 u1 => ?_
          obtain ⟨u, rfl⟩ := Int.eq_ofNat_of_zero_le u0
          repeat tm_at "zs"
          exact ⟨u, F4, by omega, hF4.le (by omega), rfl⟩
    rintro _ ⟨d, F3, di, hF3, rfl⟩
    repeat tm_at "zs"
    refine a1s hF3 (by omega) (by decide) (by decide) fun w F4 hF4 w0 w1 => ?_
    repeat tm_at "zs"
    refine a6h 5 100 w0 (by simpa using w1) ?_ fun a a0 a1 => ?_
    · intro d hd
      simp only [List.mem_cons, List.not_mem_nil, or_false] at hd
      rcases hd with rfl | rfl <;> exact a91 (by omega) (by omega)
    repeat tm_at "zs"
    refine a1s hF4 (by omega) (by omega) (by omega) fun u F5 hF5 u0 u1 => ?_
    repeat tm_at "zs"
    refine ⟨xs ++ [(d, 1 + u)], F5, some (.own (.int (i : Int))), some (.own (.int (d : Int))), .own _, .own _, hF5.le (by omega), ⟨by rw [List.length_append]; simp; omega, fun k d' m' e => ?_, fun p hp => ?_⟩, by rw [List.length_append, xl]; rfl, by rw [List.map_append]; rfl⟩
    · by_cases hk : k < xs.length
      · rw [List.getElem?_append_left hk] at e
        exact R.down k d' m' e
      · rw [List.getElem?_append_right (by omega)] at e
        have : k = xs.length := by
          cases q : k - xs.length with
          | zero => omega
          | succ j => rw [q] at e; cases e
        subst this
        rw [Nat.sub_self] at e
        cases e
        omega
    · rcases List.mem_append.mp hp with h | h
      · exact R.far p h
      · rw [List.mem_singleton.mp h]
        show 1 ≤ 1 + u ∧ 1 + u ≤ 2 ^ 40
        omega
  rintro _ ⟨xs, F', x4, x5, h4, h5, hF', R, xl, rfl⟩
  have TU := v7 (o := true) (ds := xs.map rD) (a4s fun d hd => by obtain ⟨x, _, rfl⟩ := List.mem_map.mp hd; rfl)
  repeat tm_at "zs"
  exact k xs F' (hF'.le (by omega)) R (by omega)
local macro_rules | `(tactic| tm_at "dr") => `(tactic| first
  | ((with_reducible apply a1s); (with_reducible assumption); tm_at "om"; tm_at "om"; tm_at "om"))
local macro_rules | `(tactic| tm_at "op") => `(tactic| first
  | ((with_reducible apply a72 false); (exact rfl)) | ((with_reducible apply a72 true); (exact rfl)) | ((with_reducible apply a6v true); (exact rfl)) | ((with_reducible apply a6v false); (exact rfl)) | ((with_reducible apply ro_neSb true); (exact rfl)) | ((with_reducible apply ro_neSb false); (exact rfl)) | ((with_reducible apply ro_niSb true); (exact rfl)) | ((with_reducible apply ro_niSb false); (exact rfl)) | ((with_reducible apply au6); (exact rfl)) | (with_reducible refine ro b4r ?_) | (with_reducible refine ro sl2_t ?_) | (with_reducible refine ro sl3_t ?_))
inductive Deed where
  | brand (o b : Str) (p : Nat) | drop (o b : Str) (p : Nat) | put (l p : Nat) (st : List Str) (n g : Nat) | byy (l p : Nat) | sink (l p : Nat) | rise (l : Nat) | sell (l p m : Nat)
  | jam (p : Nat) | free (p : Nat) | shut (p : Nat) | opn (p : Nat) | tally (rs : List (Nat × Nat)) | owns (p : Nat) (o : Str) (n : Nat) | cost (p m : Nat) | reckon
def stD (st : List Str) : D := .tup (st.map .str)
def rwD (x : Nat × Nat) : D := .tup [.int (x.1 : Int), .int (x.2 : Int)]
def Deed.d : Deed → D
  | .brand o b p => .tup [.str "brand", .str o, .str b, .int (p : Int)]
  | .drop o b p => .tup [.str "drop", .str o, .str b, .int (p : Int)]
  | .put l p st n g => .tup [.str "put", .int (l : Int), .int (p : Int), stD st, .int (n : Int), .int (g : Int)]
  | .byy l p => .tup [.str "by", .int (l : Int), .int (p : Int)]
  | .sink l p => .tup [.str "sink", .int (l : Int), .int (p : Int)]
  | .rise l => .tup [.str "rise", .int (l : Int)]
  | .sell l p m => .tup [.str "sell", .int (l : Int), .int (p : Int), .int (m : Int)]
  | .jam p => .tup [.str "jam", .int (p : Int)]
  | .free p => .tup [.str "free", .int (p : Int)]
  | .shut p => .tup [.str "shut", .int (p : Int)]
  | .opn p => .tup [.str "open", .int (p : Int)]
  | .tally rs => .tup [.str "tally", .tup (rs.map rwD)]
  | .owns p o n => .tup [.str "owns", .int (p : Int), .str o, .int (n : Int)]
  | .cost p m => .tup [.str "cost", .int (p : Int), .int (m : Int)]
  | .reckon => .tup [.str "reckon"]
abbrev a2n := Nat × Deed
def pgD (x : a2n) : D := .tup [.int (x.1 : Int), x.2.d]
abbrev Brd := Nat × Str × Str
def brD (x : Brd) : D := .tup [.int (x.1 : Int), .str x.2.1, .str x.2.2]
inductive PSt where
  | fl (n f : Nat) | mil | sunk (p : Nat) | sold (p m : Nat)
  deriving DecidableEq
def PSt.d : PSt → D
  | .fl n f => .tup [.str "float", .int (n : Int), .int (f : Int)]
  | .mil => .tup [.str "milled"]
  | .sunk p => .tup [.str "sunk", .int (p : Int)]
  | .sold p m => .tup [.str "sold", .int (p : Int), .int (m : Int)]
def kN (k : Nat) : DK := .k (.inl (k : Int))
def dcD {α : Type} (f : α → D) (m : List (Nat × α)) : D := .dic true false (m.map fun x => kN x.1) (m.map fun x => f x.2)
def putN {α : Type} : List (Nat × α) → Nat → α → List (Nat × α)
  | x :: m, k, y => if x.1 = k then (k, y) :: m else x :: putN m k y
  | [], k, y => [(k, y)]
theorem b1q {a b : Nat} (h : kN a = kN b) : a = b := by unfold kN at h; injection h with h; injection h with h; omega
theorem a98 {α : Type} {f : α → D} (k : Nat) : ∀ m : List (Nat × α), a0y (m.map fun x => kN x.1) (m.map fun x => f x.2) (kN k) = (m.lookup k).map f
  | [] => rfl
  | (a, y) :: m => by
    have ih := a98 (f := f) k m
    rw [List.map_cons, List.map_cons]
    unfold a0y
    by_cases h : a = k
    · subst h
      rw [if_pos rfl, List.lookup_cons_self]; rfl
    · have e : (k == a) = false := by simpa using fun z : k = a => h z.symm
      rw [if_neg fun z => h (b1q z), ih, List.lookup_cons, e]
theorem b24 {α : Type} {f : α → D} (k : Nat) (y : α) : ∀ m : List (Nat × α), a7c (m.map fun x => kN x.1) (kN k) = (putN m k y).map (fun x => kN x.1) ∧ a4c (m.map fun x => kN x.1) (m.map fun x => f x.2) (kN k) (f y) = (putN m k y).map fun x => f x.2
  | [] => ⟨rfl, rfl⟩
  | (a, z) :: m => by
    obtain ⟨h1, h2⟩ := b24 (f := f) k y m
    rw [List.map_cons, List.map_cons]
    unfold a7c a4c putN
    by_cases h : a = k
    · subst h
      rw [if_pos rfl, if_pos rfl, if_pos rfl]
      exact ⟨rfl, rfl⟩
    · have h' : ¬ kN a = kN k := fun z => h (b1q z)
      rw [if_neg h', if_neg h', if_neg h, h1, h2]
      exact ⟨rfl, rfl⟩
theorem b2p {α : Type} {f : α → D} {m : List (Nat × α)} {k : Nat} {y : α} (h : m.length < 1000000) : ad8 (dcD f m) (.int (k : Int)) (f y) = some (dcD f (putN m k y)) := by
  show_term
  obtain ⟨h1, h2⟩ := b24 (f := f) k y m
  show (if a7g false (kN k) = true ∧ (m.map fun x => kN x.1).length < 1000000 then some (D.dic true false (a7c (m.map fun x => kN x.1) (kN k)) (a4c (m.map fun x => kN x.1) (m.map fun x => f x.2) (kN k) (f y))) else none) = _
  rw [if_pos ⟨rfl, by rw [List.length_map]; exact h⟩, h1, h2]
  rfl
theorem b43 {α : Type} {f : α → D} {m : List (Nat × α)} {k : Nat} {y : α} (h : m.lookup k = some y) (ho : owned (f y) = false) : ixD (dcD f m) (.int (k : Int)) = some (f y) := by
  show_term
  show unO (a0y (m.map fun x => kN x.1) (m.map fun x => f x.2) (kN k)) = _
  rw [a98, h]
  show (if owned (f y) = true then none else some (f y)) = _
  rw [ho]; rfl
theorem b9r {α : Type} {f : α → D} {m : List (Nat × α)} {k : Nat} {z : D} (ho : ∀ y, owned (f y) = false) : ab7 (dcD f m) (.int (k : Int)) z = some (match m.lookup k with | some y => f y | none => z) := by
  show_term
  show (if a7g false (kN k) = true then (match a0y (m.map fun x => kN x.1) (m.map fun x => f x.2) (kN k) with | some d => if owned d = true then none else some d | none => some z) else none) = _
  rw [a98]
  cases m.lookup k with
  | none => rfl
  | some y => show (if owned (f y) = true then none else some (f y)) = _; rw [ho]; rfl
theorem b40 {α : Type} {f : α → D} {m : List (Nat × α)} : ax8 [dcD f m] = some (.lst true ((m.map (·.1)).map nI)) := by
  show_term
  have : ∀ m : List (Nat × α), ao8 (m.map fun x => kN x.1) = some ((m.map (·.1)).map nI) := by
    intro m
    induction m with
    | nil => rfl
    | cons x m ih => rw [List.map_cons]; unfold ao8; rw [ih]; rfl
  show (match ao8 (m.map fun x => kN x.1) with | some ds => some (D.lst true ds) | none => none) = _
  rw [this]
theorem bb7 {α : Type} {f : α → D} {m : List (Nat × α)} (ho : ∀ y, owned (f y) = false) : fr (dcD f m) = .dic false false (m.map fun x => kN x.1) (m.map fun x => f x.2) := by
  show D.dic false false _ (frL _) = _
  rw [a5k fun d hd => by obtain ⟨x, _, rfl⟩ := List.mem_map.mp hd; exact ho _]
theorem a7r {α : Type} (k : Nat) (y : α) : ∀ m : List (Nat × α), (putN m k y).length ≤ m.length + 1
  | [] => Nat.le_refl _
  | x :: m => by
    unfold putN
    split
    · simp
    · have := a7r k y m; simp; omega
theorem ad2 {α : Type} (k : Nat) (y : α) (j : Nat) : ∀ m : List (Nat × α), (putN m k y).lookup j = if j = k then some y else m.lookup j
  | [] => by
    unfold putN
    rw [List.lookup_cons]
    by_cases h : j = k
    · subst h; simp
    · have e : (j == k) = false := by simpa using h
      rw [e, if_neg h]
  | (a, z) :: m => by
    have ih := ad2 k y j m
    unfold putN
    by_cases h : a = k
    · subst h
      rw [if_pos rfl, List.lookup_cons, List.lookup_cons]
      by_cases h2 : j = a
      · subst h2; simp
      · have e : (j == a) = false := by simpa using h2
        rw [e, if_neg h2]
    · rw [if_neg h, List.lookup_cons, List.lookup_cons, ih]
      by_cases h2 : j = k
      · subst h2
        have : (j == a) = false := by simpa using fun z : j = a => h z.symm
        rw [this]
      · rw [if_neg h2, if_neg h2]
theorem PSt.own (s : PSt) : owned s.d = false := by cases s <;> rfl
structure PW where
  stands : List (Nat × PSt)
  lands : List (Nat × Nat)
  stamps : List (Nat × List Str)
  thn : List (Nat × List Brd)
  jam : List Nat
  shut : List Nat
  brands : List Brd
  aside : List a2n
  steps : List D
def wkD : List DK := [.k (.inr "stands"), .k (.inr "landings"), .k (.inr "stamps"), .k (.inr "brands_then"), .k (.inr "jam"), .k (.inr "shut"), .k (.inr "brands"), .k (.inr "aside"), .k (.inr "steps")]
def thD (x : List Brd) : D := .lst false (x.map brD)
def wDg (w : PW) (sd : D) : D := .dic true false wkD [dcD PSt.d w.stands, dcD nI w.lands, dcD stD w.stamps, dcD thD w.thn, .lst true (w.jam.map nI), .lst true (w.shut.map nI), .lst true (w.brands.map brD), .lst true (w.aside.map pgD), sd]
abbrev wD (w : PW) : D := wDg w (.lst true w.steps)
structure PW.few (w : PW) (n : Nat) : Prop where
  stands : w.stands.length ≤ n
  lands : w.lands.length ≤ n
  stamps : w.stamps.length ≤ n
  thn : w.thn.length ≤ n
  jam : w.jam.length ≤ n
  shut : w.shut.length ≤ n
  brands : w.brands.length ≤ n
  aside : w.aside.length ≤ n
  steps : w.steps.length ≤ n
  pure : a0d w.steps = true
theorem Deed.own (d : Deed) : owned d.d = false := by cases d <;> rfl
theorem a4y (x : List a2n) : a0d (x.map pgD) = true := a4s fun d hd => by obtain ⟨x, _, rfl⟩ := List.mem_map.mp hd; rfl
def bl8 (x : Brd) : Prop := PyData.strOk x.2.1 = true ∧ PyData.strOk x.2.2 = true
def wrd : Deed → Str | .brand .. => "brand" | .drop .. => "drop" | .put .. => "put" | .byy .. => "by" | .sink .. => "sink" | .rise _ => "rise" | .sell .. => "sell" | .jam _ => "jam" | .free _ => "free" | .shut _ => "shut" | .opn _ => "open" | .tally _ => "tally" | .owns .. => "owns" | .cost .. => "cost" | .reckon => "reckon"
theorem b6c (s : String) : ∀ c ∈ (Str.ofString s).cps.toList, c < 1114112 := fun c hc => by
  rw [signs_ofString] at hc
  obtain ⟨ch, _, rfl⟩ := List.mem_map.mp hc
  have := ch.valid
  simp only [UInt32.isValidChar, Nat.isValidChar] at this
  show ch.val.toNat < 1114112
  omega
structure Tx (z : Str) (n : Nat) : Prop where
  len : z.length ≤ n
  low : ∀ c ∈ z.cps.toList, c < 1114112
theorem Tx.of (s : String) {n : Nat} (h : (Str.ofString s).length ≤ n) : Tx (Str.ofString s) n := ⟨h, b6c s⟩
theorem Shows.str {z : Str} {n : Nat} (h : Tx z n) (d : Nat) : Shows (.str z) (10 * n + 2) d := by
  show_term
  refine ⟨by simp [PyData.showable], ?_, by simp [PyData.depth]⟩
  have e : z.cps.toList.all (fun c => decide (c < 16 ^ 8)) = true := List.all_eq_true.mpr fun c hc => decide_eq_true (Nat.lt_of_lt_of_le (h.low c hc) (by decide))
  unfold Dv.mes
  rw [if_pos e]
  have := h.len
  omega
theorem Tx.ok {z : Str} {n : Nat} (h : Tx z n) : PyData.strOk z = true := by
  show_term
  unfold PyData.strOk
  rw [← Array.all_toList]
  exact List.all_eq_true.mpr fun c hc => decide_eq_true (h.low c hc)
def dPy : Deed → PyData
  | .brand o b p => .tuple [.str "brand", .str o, .str b, .int (p : Int)]
  | .drop o b p => .tuple [.str "drop", .str o, .str b, .int (p : Int)]
  | .put l p st n g => .tuple [.str "put", .int (l : Int), .int (p : Int), .tuple (st.map .str), .int (n : Int), .int (g : Int)]
  | .byy l p => .tuple [.str "by", .int (l : Int), .int (p : Int)]
  | .sink l p => .tuple [.str "sink", .int (l : Int), .int (p : Int)]
  | .rise l => .tuple [.str "rise", .int (l : Int)]
  | .sell l p m => .tuple [.str "sell", .int (l : Int), .int (p : Int), .int (m : Int)]
  | .jam p => .tuple [.str "jam", .int (p : Int)]
  | .free p => .tuple [.str "free", .int (p : Int)]
  | .shut p => .tuple [.str "shut", .int (p : Int)]
  | .opn p => .tuple [.str "open", .int (p : Int)]
  | .tally rs => .tuple [.str "tally", .tuple (rs.map fun x => .tuple [.int (x.1 : Int), .int (x.2 : Int)])]
  | .owns p o n => .tuple [.str "owns", .int (p : Int), .str o, .int (n : Int)]
  | .cost p m => .tuple [.str "cost", .int (p : Int), .int (m : Int)]
  | .reckon => .tuple [.str "reckon"]
def DrD : Deed → Prop
  | .brand o b p => Tx o 9 ∧ Tx b 9 ∧ p < 1048576
  | .drop o b p => Tx o 9 ∧ Tx b 9 ∧ p < 1048576
  | .put l p st a b => l < 1048576 ∧ p < 1048576 ∧ st.length ≤ 3 ∧ (∀ z ∈ st, Tx z 9) ∧ a < 1048576 ∧ b < 1048576
  | .byy l p => l < 1048576 ∧ p < 1048576
  | .sink l p => l < 1048576 ∧ p < 1048576
  | .rise l => l < 1048576
  | .sell l p m => l < 1048576 ∧ p < 1048576 ∧ m < 1048576
  | .jam p => p < 1048576
  | .free p => p < 1048576
  | .shut p => p < 1048576
  | .opn p => p < 1048576
  | .tally rs => rs.length ≤ 7 ∧ (∀ x ∈ rs, x.1 < 1048576 ∧ x.2 < 1048576) ∧ 1 ≤ rs.length ∧ rs.Pairwise (fun a b => a.1 < b.1)
  | .owns p o n => p < 1048576 ∧ Tx o 9 ∧ n < 1048576
  | .cost p m => p < 1048576 ∧ m < 1048576
  | .reckon => True
def Drn (x : a2n) : Prop := x.1 < 1048576 ∧ DrD x.2
def PyP (h : Nat) (d : Deed) : PyData := .tuple [.int (h : Int), dPy d]
theorem b3v (st : List Str) : a0l (st.map .str) = some (st.map .str) := a66 (fun _ => rfl) st
theorem b6b (rs : List (Nat × Nat)) : a0l (rs.map rwD) = some (rs.map fun x => .tuple [.int (x.1 : Int), .int (x.2 : Int)]) := a66 (fun _ => rfl) rs
theorem ah6 (d : Deed) : toPy d.d = some (dPy d) := by
  show_term
  cases d with
  | put l p st a b =>
    show toPy (.tup [.str "put", .int (l : Int), .int (p : Int), .tup (st.map .str), .int (a : Int), .int (b : Int)]) = _
    simp only [toPy, a0l, b3v]
    rfl
  | tally rs =>
    show toPy (.tup [.str "tally", .tup (rs.map rwD)]) = _
    simp only [toPy, a0l, b6b]
    rfl
  | _ => rfl
theorem ad4 {x : a2n} (_ : Drn x) : toPy (pgD x) = some (PyP x.1 x.2) := by
  unfold pgD PyP
  simp only [toPy, a0l, ah6]
theorem ak7 {x : a2n} (h : Drn x) : Shows (PyP x.1 x.2) 8000 10 := by
  show_term
  obtain ⟨k, d⟩ := x
  obtain ⟨hk, h⟩ := h
  have I : ∀ {k : Nat}, k < 1048576 → Shows (.int (k : Int)) 22 3 := fun h => Shows.intK (k := 20) (by omega) (by decide) 3
  have T : ∀ {z : Str}, Tx z 9 → Shows (.str z) 92 3 := fun h => Shows.str h 3
  have W : ∀ (s : String), (Str.ofString s).length ≤ 9 → Shows (.str (Str.ofString s)) 92 3 := fun s h => Shows.str (.of s h) 3
  have N : ShowsL [] 0 3 := ShowsL.nil.up (Nat.le_refl _) (by omega)
  have P : ∀ {p : PyData} {n : Nat}, Shows p n 4 → n ≤ 7900 → Shows (.tuple [.int (k : Int), p]) 8000 10 := fun h l => (Shows.tup (ShowsL.cons ((I hk).up (Nat.le_refl _) (by decide) : Shows _ 22 4) (ShowsL.cons h (ShowsL.nil.up (Nat.le_refl _) (by omega))))).up (by omega) (by decide)
  cases d with
  | put l p st a b =>
    obtain ⟨hl, hp, hs, hT, ha, hb⟩ := h
    have S : Shows (.tuple (st.map .str)) 400 3 := (Shows.tup (ShowsL.all (n := 92) (d := 2) fun q hq => by obtain ⟨z, hz, rfl⟩ := List.mem_map.mp hq; exact Shows.str (hT z hz) 2)).up (by rw [List.length_map]; omega) (by decide)
    exact P (Shows.tup (ShowsL.cons (W "put" (by decide)) (ShowsL.cons (I hl) (ShowsL.cons (I hp) (ShowsL.cons S (ShowsL.cons (I ha) (ShowsL.cons (I hb) N))))))) (by decide)
  | tally rs =>
    have S : Shows (.tuple (rs.map fun x => .tuple [.int (x.1 : Int), .int (x.2 : Int)])) 800 3 := (Shows.tup (ShowsL.all (n := 60) (d := 2) fun q hq => by
      obtain ⟨z, hz, rfl⟩ := List.mem_map.mp hq
      have := h.2.1 z hz
      exact (Shows.tup (ShowsL.cons (Shows.intK (k := 20) (by omega) (by decide) 0) (ShowsL.cons (Shows.intK (k := 20) (by omega) (by decide) 0) ShowsL.nil))).up (by decide) (by decide))).up (by rw [List.length_map]; have := h.1; omega) (by decide)
    exact P (Shows.tup (ShowsL.cons (W "tally" (by decide)) (ShowsL.cons S N))) (by decide)
  | brand o b p => exact P (Shows.tup (ShowsL.cons (W "brand" (by decide)) (ShowsL.cons (T h.1) (ShowsL.cons (T h.2.1) (ShowsL.cons (I h.2.2) N))))) (by decide)
  | drop o b p => exact P (Shows.tup (ShowsL.cons (W "drop" (by decide)) (ShowsL.cons (T h.1) (ShowsL.cons (T h.2.1) (ShowsL.cons (I h.2.2) N))))) (by decide)
  | byy l p => exact P (Shows.tup (ShowsL.cons (W "by" (by decide)) (ShowsL.cons (I h.1) (ShowsL.cons (I h.2) N)))) (by decide)
  | sink l p => exact P (Shows.tup (ShowsL.cons (W "sink" (by decide)) (ShowsL.cons (I h.1) (ShowsL.cons (I h.2) N)))) (by decide)
  | rise l => exact P (Shows.tup (ShowsL.cons (W "rise" (by decide)) (ShowsL.cons (I h) N))) (by decide)
  | sell l p m => exact P (Shows.tup (ShowsL.cons (W "sell" (by decide)) (ShowsL.cons (I h.1) (ShowsL.cons (I h.2.1) (ShowsL.cons (I h.2.2) N))))) (by decide)
  | jam p => exact P (Shows.tup (ShowsL.cons (W "jam" (by decide)) (ShowsL.cons (I h) N))) (by decide)
  | free p => exact P (Shows.tup (ShowsL.cons (W "free" (by decide)) (ShowsL.cons (I h) N))) (by decide)
  | shut p => exact P (Shows.tup (ShowsL.cons (W "shut" (by decide)) (ShowsL.cons (I h) N))) (by decide)
  | opn p => exact P (Shows.tup (ShowsL.cons (W "open" (by decide)) (ShowsL.cons (I h) N))) (by decide)
  | owns p o n => exact P (Shows.tup (ShowsL.cons (W "owns" (by decide)) (ShowsL.cons (I h.1) (ShowsL.cons (T h.2.1) (ShowsL.cons (I h.2.2) N))))) (by decide)
  | cost p m => exact P (Shows.tup (ShowsL.cons (W "cost" (by decide)) (ShowsL.cons (I h.1) (ShowsL.cons (I h.2) N)))) (by decide)
  | reckon => exact P (Shows.tup (ShowsL.cons (W "reckon" (by decide)) N)) (by decide)
open PySem.W in
theorem ai9 : ∀ a b : List Str, a2u (a.map .str) (b.map .str) = true
  | [], b => by cases b <;> rfl
  | a :: as, [] => rfl
  | a :: as, b :: bs => by
    rw [List.map_cons, List.map_cons, a2u, ai9 as bs]
    simp [cmb]
open PySem.W in
theorem au2 : ∀ a b : List (Nat × Nat), a2u (a.map fun x => .tuple [.int (x.1 : Int), .int (x.2 : Int)]) (b.map fun x => .tuple [.int (x.1 : Int), .int (x.2 : Int)]) = true
  | [], b => by cases b <;> rfl
  | a :: as, [] => rfl
  | a :: as, b :: bs => by
    rw [List.map_cons, List.map_cons, a2u, au2 as bs]
    simp [cmb, a2u]
open PySem.W in
theorem b45 {a b : Str} {r s : List PyData} {h k : Int} (e : PyData.eqv (.str a) (.str b) = false) : cmb (.tuple [.int h, .tuple (.str a :: r)]) (.tuple [.int k, .tuple (.str b :: s)]) = true := by
  simp [cmb, a2u, e]
open PySem.W in
theorem ag9 {x y : a2n} (_ : Drn x) (_ : Drn y) : cmb (PyP x.1 x.2) (PyP y.1 y.2) = true := by
  show_term
  obtain ⟨k, d⟩ := x
  obtain ⟨k2, d2⟩ := y
  cases d <;> cases d2 <;> first
    | exact b45 (by decide)
    | simp [PyP, dPy, cmb, a2u, ai9, au2]
theorem a2y {x : a2n} (h : Drn x) : Dv.encD (pgD x) = PyP x.1 x.2 := by unfold Dv.encD; rw [ad4 h]; rfl
theorem a5h {x : a2n} (_ : Drn x) : (PyP x.1 x.2).plain = true ∧ ∃ i r, PyP x.1 x.2 = .tuple (.int i :: r) := by
  show_term
  obtain ⟨k, d⟩ := x
  have P : ∀ st : List Str, PyData.plainAll (st.map .str) = true := fun st => by
    induction st with
    | nil => rfl
    | cons a t ih => rw [List.map_cons, PyData.plainAll, ih]; rfl
  have P2 : ∀ rs : List (Nat × Nat), PyData.plainAll (rs.map fun x => .tuple [.int (x.1 : Int), .int (x.2 : Int)]) = true := fun rs => by
    induction rs with
    | nil => rfl
    | cons a t ih => rw [List.map_cons, PyData.plainAll, ih]; rfl
  refine ⟨?_, _, _, rfl⟩
  cases d with
  | put l p st a b => simp [PyP, dPy, PyData.plain, PyData.plainAll, P]
  | tally rs => simp [PyP, dPy, PyData.plain, PyData.plainAll, P2]
  | _ => rfl
open PySem.W PyProof.Rows in
theorem ba6 {a b : Nat} {p q : PyData} (h : a < b) : lexLt itemOrd (keyToks (.tuple [.int (a : Int), p])) (keyToks (.tuple [.int (b : Int), q])) = true := by
  show_term
  simp only [keyToks, keyToksAll, List.cons_append, List.nil_append]
  rw [lex_self (O := itemOrd)]
  refine (lex_true (O := itemOrd)).mpr (.inl ?_)
  show decide ((a : Int) < (b : Int)) = true
  exact decide_eq_true (by omega)
open PySem.W PyProof.Rows in
theorem aw5 {ps : List a2n} (h : ∀ x ∈ ps, Drn x) : (ps.mergeSort fun a b => a3g (pgD a) (pgD b)).Pairwise (fun a b => a.1 ≤ b.1) := by
  show_term
  have T := sortLe_total (listOrd itemOrd) false fun b : a2n => keyToks (Dv.encD (pgD b))
  have P := List.pairwise_mergeSort (le := fun a b : a2n => a3g (pgD a) (pgD b)) (fun a b c => T.trans a b c) (fun a b => by rw [Bool.or_eq_true]; exact T.total a b) ps
  refine List.Pairwise.imp_of_mem (fun {a b} ha hb hab => ?_) P
  have da := h a ((List.mergeSort_perm _ _).mem_iff.mp ha)
  have db := h b ((List.mergeSort_perm _ _).mem_iff.mp hb)
  have hab : (!lexLt itemOrd (keyToks (Dv.encD (pgD b))) (keyToks (Dv.encD (pgD a)))) = true := hab
  rw [a2y da, a2y db] at hab
  refine Nat.le_of_not_lt fun lt => ?_
  have := ba6 (p := dPy b.2) (q := dPy a.2) lt
  unfold PyP at hab
  rw [this] at hab
  cases hab
theorem b96 {ps : List a2n} (h : ∀ x ∈ ps, Drn x) (hl : ps.length ≤ 1000) (h1 : 1 ≤ ps.length) {o : Bool} : ∃ qs : List a2n, a5v [.lst o (ps.map pgD)] = some (.lst true (qs.map pgD)) ∧ qs.Perm ps ∧ qs.Pairwise (fun a b => a.1 ≤ b.1) := by
  show_term
  refine ⟨ps.mergeSort fun a b => a3g (pgD a) (pgD b), ?_, List.mergeSort_perm _ _, aw5 h⟩
  have ni : a2j (ps.map pgD) = none := by
    cases ps with
    | nil => simp at h1
    | cons a t => rfl
  rw [af3 (ds := ps.map pgD) ni ?_, List.map_mergeSort (r := fun a b => a3g (pgD a) (pgD b)) (s := a3g) fun _ _ _ _ => rfl]
  refine .inr ⟨a4y ps, by rw [List.length_map]; omega, fun d hd => ?_, ⟨fun d hd => ?_, fun d hd d' hd' => ?_, fun d hd => ?_⟩⟩
  · obtain ⟨x, hx, rfl⟩ := List.mem_map.mp hd
    exact ⟨_, ad4 (h x hx), Nat.le_trans (ak7 (h x hx)).dep (by decide)⟩
  · rw [List.map_map] at hd
    obtain ⟨x, hx, rfl⟩ := List.mem_map.mp hd
    rw [Function.comp, a2y (h x hx)]
    exact (a5h (h x hx)).1
  · rw [List.map_map] at hd hd'
    obtain ⟨x, hx, rfl⟩ := List.mem_map.mp hd
    obtain ⟨y, hy, rfl⟩ := List.mem_map.mp hd'
    rw [Function.comp, Function.comp, a2y (h x hx), a2y (h y hy)]
    exact ag9 (h x hx) (h y hy)
  · rw [List.map_map] at hd
    obtain ⟨x, hx, rfl⟩ := List.mem_map.mp hd
    rw [Function.comp, a2y (h x hx)]
    exact (a5h (h x hx)).2
theorem b23 {x : a2n} (h : Drn x) : b1z (pgD x) = true := by
  show_term
  obtain ⟨k, d⟩ := x
  cases d with
  | put l p st a b =>
    have hs := h.2.2.2.1
    match st, hs with
    | [], _ => rfl
    | [_], _ => rfl
    | [_, _], _ => rfl
    | [_, _, _], _ => rfl
    | _ :: _ :: _ :: _ :: _, hs => exact absurd hs (by simp)
  | tally rs =>
    have hs := h.2.1
    match rs, hs with
    | [], _ => rfl
    | [_], _ => rfl
    | [_, _], _ => rfl
    | [_, _, _], _ => rfl
    | [_, _, _, _], _ => rfl
    | [_, _, _, _, _], _ => rfl
    | [_, _, _, _, _, _], _ => rfl
    | [_, _, _, _, _, _, _], _ => rfl
    | _ :: _ :: _ :: _ :: _ :: _ :: _ :: _ :: _, hs => exact absurd hs (by simp)
  | _ => rfl
def kS (o : Str) : DK := .k (.inr o)
theorem b82 {a b : Str} (h : kS a = kS b) : a = b := by unfold kS at h; injection h with h; injection h with h
theorem a2q (l : List Str) : a0d (l.map .str) = true := a4s fun d hd => by obtain ⟨x, _, rfl⟩ := List.mem_map.mp hd; rfl
def dxD {α : Type} (b : Bool) (f : α → D) (m : List (Str × α)) : D := .dic b false (m.map fun x => kS x.1) (m.map fun x => f x.2)
def bo8 {α : Type} : List (Str × α) → Str → α → List (Str × α)
  | x :: m, k, y => if x.1 = k then (k, y) :: m else x :: bo8 m k y
  | [], k, y => [(k, y)]
section
variable {α : Type} {f : α → D}
theorem af2 (k : Str) : ∀ m : List (Str × α), a0y (m.map fun x => kS x.1) (m.map fun x => f x.2) (kS k) = (m.lookup k).map f
  | [] => rfl
  | (a, y) :: m => by
    have ih := af2 k m
    rw [List.map_cons, List.map_cons]
    unfold a0y
    by_cases h : a = k
    · subst h
      rw [if_pos rfl, List.lookup_cons_self]; rfl
    · have e : (k == a) = false := by simpa using fun z : k = a => h z.symm
      rw [if_neg fun z => h (b82 z), ih, List.lookup_cons, e]
theorem b0r {b : Bool} {m : List (Str × α)} {k : Str} {y : α} (h : m.lookup k = some y) (ho : owned (f y) = false) : ixD (dxD b f m) (.str k) = some (f y) := by
  show_term
  show unO (a0y (m.map fun x => kS x.1) (m.map fun x => f x.2) (kS k)) = _
  rw [af2, h]
  show (if owned (f y) = true then none else some (f y)) = _
  rw [ho]; rfl
theorem b2u {b : Bool} {m : List (Str × α)} {k : Str} {z : α} (ho : ∀ y, owned (f y) = false) : ab7 (dxD b f m) (.str k) (f z) = some (f ((m.lookup k).getD z)) := by
  show_term
  show (if a7g false (kS k) = true then (match a0y (m.map fun x => kS x.1) (m.map fun x => f x.2) (kS k) with | some d => if owned d = true then none else some d | none => some (f z)) else none) = _
  rw [af2]
  cases m.lookup k with
  | none => rfl
  | some y => show (if owned (f y) = true then none else some (f y)) = _; rw [ho]; rfl
theorem b8f {m : List (Str × α)} {b : Bool} (ho : ∀ y, owned (f y) = false) : fr (dxD b f m) = dxD false f m := by
  show_term
  cases b with
  | false => rfl
  | true =>
    show D.dic false false _ (frL _) = _
    rw [a5k fun d hd => by obtain ⟨x, _, rfl⟩ := List.mem_map.mp hd; exact ho _]
    rfl
theorem aq2 {l : List Str} (nd : l.Nodup) : (l.map D.str).mergeSort a3g = (a4w l).map D.str := by
  show_term
  rw [← List.map_mergeSort (r := leS) (f := D.str) (s := a3g) fun a _ b _ => rfl]
  congr 1
  exact av7 (ba3 nd) (a87 _) fun z => by rw [mem_upSetT]; exact (List.mergeSort_perm _ _).mem_iff
end
mutual
theorem b2b : ∀ (d e : D) (k j : NestedKey) (p q : PyData), nkD d = some k → nkD e = some j → toPy d = some p → toPy e = some q → (PyData.eqv p q = true ↔ d = e)
  | .non, e, k, j, p, q, h1, h2, g1, g2 => by
    cases h1; cases g1
    cases e with
    | non => cases g2; simp [PyData.eqv]
    | int i => cases g2; simp [PyData.eqv]
    | str i => cases g2; simp [PyData.eqv]
    | tup ys =>
      unfold toPy at g2
      split at g2 <;> cases g2
      simp [PyData.eqv]
    | _ => first | (cases h2; done) | (simp [nkD] at h2; done)
  | .int i, e, k, j, p, q, h1, h2, g1, g2 => by
    cases h1; cases g1
    cases e with
    | non => cases g2; simp [PyData.eqv]
    | int i => cases g2; simp [PyData.eqv]
    | str i => cases g2; simp [PyData.eqv]
    | tup ys =>
      unfold toPy at g2
      split at g2 <;> cases g2
      simp [PyData.eqv]
    | _ => first | (cases h2; done) | (simp [nkD] at h2; done)
  | .str i, e, k, j, p, q, h1, h2, g1, g2 => by
    cases h1; cases g1
    cases e with
    | non => cases g2; simp [PyData.eqv]
    | int i => cases g2; simp [PyData.eqv]
    | str i => cases g2; simp [PyData.eqv]
    | tup ys =>
      unfold toPy at g2
      split at g2 <;> cases g2
      simp [PyData.eqv]
    | _ => first | (cases h2; done) | (simp [nkD] at h2; done)
  | .tup xs, e, k, j, p, q, h1, h2, g1, g2 => by
    unfold nkD at h1
    cases e1 : a8p xs with
    | none => rw [e1] at h1; cases h1
    | some ks =>
      unfold toPy at g1
      cases f1 : a0l xs with
      | none => rw [f1] at g1; cases g1
      | some ps =>
        rw [f1] at g1
        cases g1
        cases e with
        | non => cases g2; simp [PyData.eqv]
        | int i => cases g2; simp [PyData.eqv]
        | str i => cases g2; simp [PyData.eqv]
        | tup ys =>
          unfold nkD at h2
          cases e2 : a8p ys with
          | none => rw [e2] at h2; cases h2
          | some js =>
            unfold toPy at g2
            cases f2 : a0l ys with
            | none => rw [f2] at g2; cases g2
            | some qs =>
              rw [f2] at g2
              cases g2
              have := aw4 xs ys ks js ps qs e1 e2 f1 f2
              simp only [PyData.eqv]
              rw [this]
              exact ⟨fun h => by rw [h], fun h => by cases h; rfl⟩
        | _ => first | (cases h2; done) | (simp [nkD] at h2; done)
  | .bl _, _, _, _, _, _, h1, _, _, _ => by cases h1
  | .lst _ _, _, _, _, _, _, h1, _, _, _ => by cases h1
  | .dic _ _ _ _, _, _, _, _, _, h1, _, _, _ => by cases h1
  | .scr _, _, _, _, _, _, h1, _, _, _ => by cases h1
  | .ty _, _, _, _, _, _, h1, _, _, _ => by cases h1
  | .raw _, _, _, _, _, _, h1, _, _, _ => by cases h1
  | .pr _, _, _, _, _, _, h1, _, _, _ => by cases h1
  | .exc _ _ _, _, _, _, _, _, h1, _, _, _ => by cases h1
  | .xds _ _, _, _, _, _, _, h1, _, _, _ => by cases h1
  | .obj _ _ _ _, _, _, _, _, _, h1, _, _, _ => by cases h1
  | .pgs _ _, _, _, _, _, _, h1, _, _, _ => by cases h1
  | .dicL _ _, _, _, _, _, _, h1, _, _, _ => by cases h1
  | .otp _, _, _, _, _, _, h1, _, _, _ => by cases h1
theorem aw4 : ∀ (ds es : List D) (ks js : List NestedKey) (ps qs : List PyData), a8p ds = some ks → a8p es = some js → a0l ds = some ps → a0l es = some qs → (PyData.eqvAll ps qs = true ↔ ds = es)
  | [], [], _, _, _, _, _, _, g1, g2 => by cases g1; cases g2; simp [PyData.eqvAll]
  | [], e :: es, ks, js, ps, qs, h1, h2, g1, g2 => by
    cases g1
    unfold a0l at g2
    split at g2 <;> cases g2
    simp [PyData.eqvAll]
  | d :: ds, [], ks, js, ps, qs, h1, h2, g1, g2 => by
    cases g2
    unfold a0l at g1
    split at g1 <;> cases g1
    simp [PyData.eqvAll]
  | d :: ds, e :: es, ks, js, ps, qs, h1, h2, g1, g2 => by
    unfold a8p at h1 h2
    unfold a0l at g1 g2
    cases a1 : nkD d with
    | none => rw [a1] at h1; cases h1
    | some k =>
      cases a2 : a8p ds with
      | none => rw [a1, a2] at h1; cases h1
      | some ks =>
        cases b1 : nkD e with
        | none => rw [b1] at h2; cases h2
        | some k2 =>
          cases b2 : a8p es with
          | none => rw [b1, b2] at h2; cases h2
          | some js2 =>
            cases c1 : toPy d with
            | none => rw [c1] at g1; cases g1
            | some p =>
              cases c2 : a0l ds with
              | none => rw [c1, c2] at g1; cases g1
              | some ps =>
                cases d1 : toPy e with
                | none => rw [d1] at g2; cases g2
                | some q =>
                  cases d2 : a0l es with
                  | none => rw [d1, d2] at g2; cases g2
                  | some qs =>
                    rw [c1, c2] at g1
                    rw [d1, d2] at g2
                    cases g1; cases g2
                    have h1 := b2b d e k k2 p q a1 b1 c1 d1
                    have h2 := aw4 ds es ks js2 ps qs a2 b2 c2 d2
                    simp only [PyData.eqvAll, Bool.and_eq_true, h1, h2]
                    exact ⟨fun h => by rw [h.1, h.2], fun h => by cases h; exact ⟨rfl, rfl⟩⟩
end
theorem ah9 {d : Deed} (h : DrD d) : Lays (dPy d) 3 := by
  show_term
  have T : ∀ z : Str, Tx z 9 → Lays (.str z) 2 := fun z hz => .str 2 hz.ok
  have I : ∀ i : Int, Lays (.int i) 2 := fun i => .int 2
  have W : ∀ s : String, PyData.strOk (Str.ofString s) = true → Lays (.str (Str.ofString s)) 2 := fun s hs => .str 2 hs
  cases d with
  | brand o b p => exact .tup (.cons (W _ (by decide +kernel)) (.cons (T _ h.1) (.cons (T _ h.2.1) (.cons (I _) (.nil 2)))))
  | drop o b p => exact .tup (.cons (W _ (by decide +kernel)) (.cons (T _ h.1) (.cons (T _ h.2.1) (.cons (I _) (.nil 2)))))
  | put l p st a b =>
    refine .tup (.cons (W _ (by decide +kernel)) (.cons (I _) (.cons (I _) (.cons (.tup (LaysL.all fun q hq => ?_)) (.cons (I _) (.cons (I _) (.nil 2)))))))
    obtain ⟨z, hz, rfl⟩ := List.mem_map.mp hq
    exact .str 1 (h.2.2.2.1 z hz).ok
  | byy l p => exact .tup (.cons (W _ (by decide +kernel)) (.cons (I _) (.cons (I _) (.nil 2))))
  | sink l p => exact .tup (.cons (W _ (by decide +kernel)) (.cons (I _) (.cons (I _) (.nil 2))))
  | rise l => exact .tup (.cons (W _ (by decide +kernel)) (.cons (I _) (.nil 2)))
  | sell l p m => exact .tup (.cons (W _ (by decide +kernel)) (.cons (I _) (.cons (I _) (.cons (I _) (.nil 2)))))
  | jam p => exact .tup (.cons (W _ (by decide +kernel)) (.cons (I _) (.nil 2)))
  | free p => exact .tup (.cons (W _ (by decide +kernel)) (.cons (I _) (.nil 2)))
  | shut p => exact .tup (.cons (W _ (by decide +kernel)) (.cons (I _) (.nil 2)))
  | opn p => exact .tup (.cons (W _ (by decide +kernel)) (.cons (I _) (.nil 2)))
  | tally rs =>
    refine .tup (.cons (W _ (by decide +kernel)) (.cons (.tup (LaysL.all fun q hq => ?_)) (.nil 2)))
    obtain ⟨z, hz, rfl⟩ := List.mem_map.mp hq
    exact .tup (.cons (.int 0) (.cons (.int 0) (.nil 0)))
  | owns p o n => exact .tup (.cons (W _ (by decide +kernel)) (.cons (I _) (.cons (T _ h.2.1) (.cons (I _) (.nil 2)))))
  | cost p m => exact .tup (.cons (W _ (by decide +kernel)) (.cons (I _) (.cons (I _) (.nil 2))))
  | reckon => exact .tup (.cons (W _ (by decide +kernel)) (.nil 2))
def bh9 (d : D) : Prop := ∃ x, Drn x ∧ d = pgD x
theorem EqC.pg : EqC bh9 (fun d : D => d) 4 :=
  ⟨fun d h => by
    obtain ⟨x, hx, rfl⟩ := h
    exact ⟨_, ad4 hx, .tup (.cons (.int 3) (.cons (ah9 hx.2) (.nil 3)))⟩, fun d e p q h1 h2 e1 e2 => by
    obtain ⟨x, hx, rfl⟩ := h1
    obtain ⟨y, hy, rfl⟩ := h2
    have n1 := b23 hx
    have n2 := b23 hy
    unfold b1z at n1 n2
    cases k1 : nkD (pgD x) with
    | none => rw [k1] at n1; cases n1
    | some k =>
      cases j1 : nkD (pgD y) with
      | none => rw [j1] at n2; cases n2
      | some j => exact b2b _ _ k j p q k1 j1 e1 e2⟩
theorem ba9 {x : a2n} (hx : Drn x) {b : Bool} {ps : List a2n} (hp : ∀ y ∈ ps, Drn y) : (pgD x ∈ ps.map pgD → niD (pgD x) (.lst b (ps.map pgD)) = some (.bl false)) ∧ (pgD x ∉ ps.map pgD → niD (pgD x) (.lst b (ps.map pgD)) = some (.bl true)) := by
  show_term
  haveI : DecidableEq D := fun a b => Classical.propDecidable (a = b)
  have := b8r (o := b) (xs := ps.map pgD) EqC.pg (by decide) (x := pgD x) ⟨x, hx, rfl⟩ fun d hd => by
    obtain ⟨y, hy, rfl⟩ := List.mem_map.mp hd
    exact ⟨y, hp y hy, rfl⟩
  rw [List.map_id'] at this
  exact ⟨fun h => by rw [this, decide_eq_true h]; rfl, fun h => by rw [this, decide_eq_false h]; rfl⟩
noncomputable instance : DecidableEq Deed := fun a b => Classical.propDecidable (a = b)
def am0 : Deed → Str
  | .brand _ _ _ => "brand" | .drop _ _ _ => "drop" | .put _ _ _ _ _ => "put" | .byy _ _ => "by" | .sink _ _ => "sink" | .rise _ => "rise" | .sell _ _ _ => "sell"
  | .jam _ => "jam" | .free _ => "free" | .shut _ => "shut" | .opn _ => "open" | .tally _ => "tally" | .owns _ _ _ => "owns" | .cost _ _ => "cost" | .reckon => "reckon"
def a9z (ps : List a2n) : List a2n := ps.mergeSort fun a b => a3g (pgD a) (pgD b)
theorem bq5 (a b c : a2n) : a3g (pgD a) (pgD b) = true → a3g (pgD b) (pgD c) = true → a3g (pgD a) (pgD c) = true := leD2_total.trans _ _ _
theorem bi7 (a b : a2n) : (a3g (pgD a) (pgD b) || a3g (pgD b) (pgD a)) = true := by rcases leD2_total.total (pgD a) (pgD b) with h | h <;> simp [h]
theorem b1r (ps : List a2n) : (a9z ps).Perm ps := List.mergeSort_perm _ _
theorem am2 {ps : List a2n} (h : ∀ x ∈ ps, Drn x) (hl : ps.length ≤ 1000) (h1 : 1 ≤ ps.length) {o : Bool} : a5v [.lst o (ps.map pgD)] = some (.lst true ((a9z ps).map pgD)) := by
  show_term
  have ni : a2j (ps.map pgD) = none := by
    cases ps with
    | nil => simp at h1
    | cons a t => rfl
  unfold a9z
  rw [af3 (ds := ps.map pgD) ni ?_, List.map_mergeSort (r := fun a b => a3g (pgD a) (pgD b)) (s := a3g) fun _ _ _ _ => rfl]
  refine .inr ⟨a4y ps, by rw [List.length_map]; omega, fun d hd => ?_, ⟨fun d hd => ?_, fun d hd d' hd' => ?_, fun d hd => ?_⟩⟩
  · obtain ⟨x, hx, rfl⟩ := List.mem_map.mp hd
    exact ⟨_, ad4 (h x hx), Nat.le_trans (ak7 (h x hx)).dep (by decide)⟩
  · rw [List.map_map] at hd
    obtain ⟨x, hx, rfl⟩ := List.mem_map.mp hd
    rw [Function.comp, a2y (h x hx)]
    exact (a5h (h x hx)).1
  · rw [List.map_map] at hd hd'
    obtain ⟨x, hx, rfl⟩ := List.mem_map.mp hd
    obtain ⟨y, hy, rfl⟩ := List.mem_map.mp hd'
    rw [Function.comp, Function.comp, a2y (h x hx), a2y (h y hy)]
    exact ag9 (h x hx) (h y hy)
  · rw [List.map_map] at hd
    obtain ⟨x, hx, rfl⟩ := List.mem_map.mp hd
    rw [Function.comp, a2y (h x hx)]
    exact (a5h (h x hx)).2
def owL : List Str := ["a", "ab", "ann", "by", "zzzzzzzz"]
def brL : List Str := ["A", "AB", "B", "ABDE"]
def stL : List Str := ["A", "B", "AB", "A?", "?", "??", "ABDE", "A?D?", "Z", "????"]
def lgL : List Nat := [1, 2, 9, 10, 11, 99, 100, 999]
theorem b00 : ∀ z ∈ owL, Tx z 9 := fun z hz => by
  unfold owL at hz
  simp only [List.mem_cons, List.not_mem_nil, or_false] at hz
  rcases hz with rfl | rfl | rfl | rfl | rfl <;> exact Tx.of _ (by decide)
theorem b8j : ∀ z ∈ brL, Tx z 9 := fun z hz => by
  unfold brL at hz
  simp only [List.mem_cons, List.not_mem_nil, or_false] at hz
  rcases hz with rfl | rfl | rfl | rfl <;> exact Tx.of _ (by decide)
theorem bc4 : ∀ z ∈ stL, Tx z 9 := fun z hz => by
  unfold stL at hz
  simp only [List.mem_cons, List.not_mem_nil, or_false] at hz
  rcases hz with rfl | rfl | rfl | rfl | rfl | rfl | rfl | rfl | rfl | rfl <;> exact Tx.of _ (by decide)
theorem au1 : ∀ l ∈ lgL, l < 1000 := by decide
def DQ : Deed → Prop
  | .brand o b p => o ∈ owL ∧ b ∈ brL ∧ p ≤ 12
  | .drop o b p => o ∈ owL ∧ b ∈ brL ∧ p ≤ 12
  | .put l p st a b => l ∈ lgL ∧ p ≤ 12 ∧ st.length ≤ 3 ∧ (∀ z ∈ st, z ∈ stL) ∧ a ≤ 60 ∧ b ≤ 200
  | .byy l p => l ∈ lgL ∧ p ≤ 12
  | .sink l p => l ∈ lgL ∧ p ≤ 12
  | .rise l => l ∈ lgL
  | .sell l p m => l ∈ lgL ∧ p ≤ 12 ∧ m ≤ 1000000
  | .jam p => p ≤ 12
  | .free p => p ≤ 12
  | .shut p => p ≤ 12
  | .opn p => p ≤ 12
  | .tally rs => rs.length ≤ 7 ∧ (∀ x ∈ rs, x.1 ≤ 12 ∧ x.2 ≤ 3) ∧ 1 ≤ rs.length ∧ rs.Pairwise (fun a b => a.1 < b.1)
  | .owns p o n => p ≤ 12 ∧ o ∈ owL ∧ n ≤ 3
  | .cost p m => p ≤ 12 ∧ m ≤ 1000000
  | .reckon => True
theorem DQ.dr {d : Deed} (h : DQ d) : DrD d := by
  show_term
  cases d with
  | brand o b p => exact ⟨b00 o h.1, b8j b h.2.1, by have := h.2.2; omega⟩
  | drop o b p => exact ⟨b00 o h.1, b8j b h.2.1, by have := h.2.2; omega⟩
  | put l p st a b =>
    obtain ⟨h1, h2, h3, h4, h5, h6⟩ := h
    exact ⟨by have := au1 l h1; omega, by omega, h3, fun z hz => bc4 z (h4 z hz), by omega, by omega⟩
  | byy l p => exact ⟨by have := au1 l h.1; omega, by have := h.2; omega⟩
  | sink l p => exact ⟨by have := au1 l h.1; omega, by have := h.2; omega⟩
  | rise l => exact Nat.lt_trans (au1 l h) (by decide)
  | sell l p m => exact ⟨by have := au1 l h.1; omega, by have := h.2.1; omega, by have := h.2.2; omega⟩
  | jam p => exact Nat.lt_of_le_of_lt h (by decide)
  | free p => exact Nat.lt_of_le_of_lt h (by decide)
  | shut p => exact Nat.lt_of_le_of_lt h (by decide)
  | opn p => exact Nat.lt_of_le_of_lt h (by decide)
  | tally rs =>
    obtain ⟨h1, h2, h3, h4⟩ := h
    exact ⟨h1, fun x hx => ⟨by have := (h2 x hx).1; omega, by have := (h2 x hx).2; omega⟩, h3, h4⟩
  | owns p o n => exact ⟨by have := h.1; omega, b00 o h.2.1, by have := h.2.2; omega⟩
  | cost p m => exact ⟨by have := h.1; omega, by have := h.2; omega⟩
  | reckon => trivial
theorem af6 {b : Bool} {l : List Str} {v : Int} {K : D → Prop} (v0 : 0 ≤ v) (v1 : v < l.length) (k : ∀ z, z ∈ l → K (.str z)) : RO (ixD (.lst b (l.map .str)) (.int v)) K := a6t (fun d => ∃ z : Str, d = .str z ∧ z ∈ l) v0 (by rw [List.length_map]; omega) (fun d hd => by
  obtain ⟨z, hz, rfl⟩ := List.mem_map.mp hd
  exact ⟨rfl, z, rfl, hz⟩) fun z _ ⟨w, e, t⟩ => e ▸ k w t
theorem aj3 {b : Bool} {l : List Nat} {v : Int} {K : D → Prop} (v0 : 0 ≤ v) (v1 : v < l.length) (k : ∀ z : Nat, z ∈ l → K (.int (z : Int))) : RO (ixD (.lst b (l.map nI)) (.int v)) K := a6t (fun d => ∃ z : Nat, d = .int (z : Int) ∧ z ∈ l) v0 (by rw [List.length_map]; omega) (fun d hd => by
  obtain ⟨z, hz, rfl⟩ := List.mem_map.mp hd
  exact ⟨rfl, z, rfl, hz⟩) fun z _ ⟨w, e, t⟩ => e ▸ k w t
theorem am1 {n : Nat} {F : D} (hF : Feed n F) (hn : n + 100 < 10 ^ 9) {Q : D → List D → Prop} (k : ∀ (st : List Str) F', Feed (n + 5) F' → st.length ≤ 3 → (∀ z ∈ st, z ∈ stL) → Q (stD st) [F']) : WF (a1i [F]) Q := by
  show_term
  unfold a1i a3n
  refine a2z (by simp [List.replicate]; rfl) ?_
  repeat tm_at "zs"
  refine a1s hF (by omega) (by decide) (by decide) fun v F1 hF1 v0 v1 => ?_
  obtain ⟨v, rfl⟩ := Int.eq_ofNat_of_zero_le v0
  repeat tm_at "zs"
  refine ar3 (I := fun ρ i acc ρ' => ∃ (st : List Str) (F' : D) (x2 : Option Slot) (b : Bool), OwnS x2 ∧ Feed (n + 1 + i) F' ∧ st.length = i ∧ (∀ z ∈ st, z ∈ stL) ∧ acc = st.map .str ∧ ρ' = [iD F', oD (.lst b (stL.map .str)), x2]) (by omega) ?_ ?_ ?_
  · exact ⟨[], F1, none, true, .none, hF1, rfl, fun z h => (by cases h), rfl, rfl⟩
  · rintro i acc ρ' hi _ ⟨st, F', x2, b, h2, hF', sl, hs, rfl, rfl⟩
    repeat tm_at "zs"
    refine a1s hF' (by omega) (by decide) (by decide) fun u F2 hF2 u0 u1 => ?_
    repeat tm_at "zs"
    refine af6 u0 (by simpa [stL] using u1) fun z hz => ?_
    repeat tm_at "zs"
    exact ⟨st ++ [z], F2, none, b, .none, hF2.le (by omega), by rw [List.length_append, sl]; rfl, fun y hy => (List.mem_append.mp hy).elim (hs y) fun h => by rw [List.mem_singleton.mp h]; exact hz, by rw [List.map_append]; rfl, rfl⟩
  rintro _ _ _ ⟨st, F', x2, b, h2, hF', sl, hs, rfl, rfl⟩
  have TU := v7 (o := true) (a2q st)
  refine tx (ρ' := [iD F', oD (.lst b (stL.map .str)), none]) rfl ?_
  repeat tm_at "zs"
  exact k st F' (hF'.le (by omega)) (by omega) hs
theorem ah4 {α : Type} {xs : List α} {k : Nat} : a8b xs none (some (k : Int)) = xs.take k := by
  show_term
  unfold a8b
  rw [HT.sIx_nat]
  show (xs.drop 0).take _ = _
  rw [List.drop_zero, show HT.sIx xs.length 0 none = 0 from rfl, Nat.sub_zero]
  rcases Nat.le_total k xs.length with h | h
  · rw [Nat.min_eq_left h]
  · rw [Nat.min_eq_right h, List.take_of_length_le h, List.take_of_length_le (Nat.le_refl _)]
structure RwI (rs : List (Nat × Nat)) (i q : Nat) : Prop where
  up : rs.Pairwise fun a b => a.1 < b.1
  lt : ∀ x ∈ rs, x.1 < i ∧ x.2 ≤ 3
  one : q < i → 1 ≤ rs.length
theorem RwI.no {rs : List (Nat × Nat)} {i q : Nat} (h : RwI rs i q) (n : i ≠ q) : RwI rs (i + 1) q := ⟨h.up, fun x hx => ⟨Nat.lt_succ_of_lt (h.lt x hx).1, (h.lt x hx).2⟩, fun z => h.one (by omega)⟩
theorem RwI.yes {rs : List (Nat × Nat)} {i q m : Nat} (h : RwI rs i q) (hm : m ≤ 3) : RwI (rs ++ [(i, m)]) (i + 1) q :=
  ⟨List.pairwise_append.mpr ⟨h.up, by simp, fun a ha b hb => by rw [List.mem_singleton.mp hb]; exact (h.lt a ha).1⟩, fun x hx => (List.mem_append.mp hx).elim (fun g => ⟨Nat.lt_succ_of_lt (h.lt x g).1, (h.lt x g).2⟩) fun g => by rw [List.mem_singleton.mp g]; exact ⟨Nat.lt_succ_self _, hm⟩, fun _ => by rw [List.length_append]; simp⟩
theorem b36 {xs : Riv} (x12 : xs.length ≤ 12) {q : Nat} (hq : q ≤ xs.length) {n : Nat} {F : D} (hF : Feed n F) (hn : n + 200 < 10 ^ 9) {Q : D → List D → Prop} (k : ∀ (d : Deed) F', Feed (n + 50) F' → DQ d → Q d.d [F']) : WF (a2f [F, rvD xs, .int (q : Int)]) Q := by
  have ll : (xs.map rD).length = xs.length := List.length_map _
  unfold a2f a4i
  refine a2z (by simp [List.replicate]; rfl) ?_
  repeat tm_at "zs"
  refine a1s hF (by omega) (by decide) (by decide) fun v F1 hF1 v0 v1 => ?_
  repeat tm_at "zs"
  refine af6 (l := owL) v0 (by simpa [owL] using v1) fun o oo => ?_
  repeat tm_at "zs"
  refine a1s hF1 (by omega) (by decide) (by decide) fun w F2 hF2 w0 w1 => ?_
  repeat tm_at "zs"
  refine af6 (l := brL) w0 (by simpa [brL] using w1) fun b bb => ?_
  repeat tm_at "zs"
  refine a1s hF2 (by omega) (by decide) (by decide) fun a F3 hF3 a0 a1 => ?_
  repeat tm_at "zs"
  refine a1s hF3 (by omega) (by decide) (by decide) fun c F4 hF4 c0 c1 => ?_
  repeat tm_at "zs"
  refine a1s hF4 (by omega) (by decide) (by decide) fun e F5 hF5 e0 e1 => ?_
  repeat tm_at "zs"
  refine a6h 0 1000000 (v := e / 3) (by omega) (by simp; omega) ?_ fun m m0 m1 => ?_
  · intro d hd
    simp only [List.mem_cons, List.not_mem_nil, or_false] at hd
    rcases hd with rfl | rfl <;> exact a91 (by omega) (by omega)
  obtain ⟨m, rfl⟩ := Int.eq_ofNat_of_zero_le m0
  repeat tm_at "zs"
  refine ay9 (I := fun i acc ρ' => ∃ (rs : List (Nat × Nat)) (F' : D), Feed (n + 5 + 2 * i) F' ∧ RwI rs i q ∧ rs.length ≤ i ∧ acc = rs.map rwD ∧ ρ' = [iD F', oD (rvD xs), oI (q : Int), oD (.str o), oD (.str b), oI (m : Int), none, none, none]) (by rw [a8w]; omega) ?_ ?_ ?_
  · exact ⟨[], F5, hF5, ⟨.nil, fun x h => (by cases h), fun h => (by omega)⟩, Nat.le_refl _, rfl, rfl⟩
  · rintro i d acc ρ' ed ⟨rs, F', hF', R, rl, rfl, rfl⟩
    obtain ⟨rfl, h2⟩ := as7 ed
    rw [Int.zero_add] at h2 ⊢
    have i13 : i < 13 := by omega
    repeat tm_at "zs"
    refine ao4 (fun e => ?_) fun e => ?_
    · repeat tm_at "zs"
      refine a1s hF' (by omega) (by decide) (by decide) fun u F6 hF6 u0 u1 => ?_
      obtain ⟨u, rfl⟩ := Int.eq_ofNat_of_zero_le u0
      repeat tm_at "zs"
      exact ⟨rs ++ [(i, u)], F6, hF6.le (by omega), R.yes (by omega), by rw [List.length_append]; simp; omega, by rw [List.map_append]; rfl, rfl⟩
    · repeat tm_at "zs"
      refine a1s hF' (by omega) (by decide) (by decide) fun s F6 hF6 s0 s1 => ?_
      repeat tm_at "zs"
      refine ao4 (fun e2 => ?_) fun e2 => ?_
      · repeat tm_at "zs"
        refine a1s hF6 (by omega) (by decide) (by decide) fun u F7 hF7 u0 u1 => ?_
        obtain ⟨u, rfl⟩ := Int.eq_ofNat_of_zero_le u0
        repeat tm_at "zs"
        exact ⟨rs ++ [(i, u)], F7, hF7.le (by omega), R.yes (by omega), by rw [List.length_append]; simp; omega, by rw [List.map_append]; rfl, rfl⟩
      · repeat tm_at "zs"
        exact ⟨rs, F6, hF6.le (by omega), R.no (by omega), by omega, rfl, rfl⟩
  rintro acc _ _ ⟨rs, F', hF', R, rl, rfl, rfl⟩
  rw [a8w] at hF' R rl
  have RL := R.one (by omega)
  have PR : ∀ l : List (Nat × Nat), a0d (l.map rwD) = true := fun l => a4s fun d hd => by obtain ⟨x, _, rfl⟩ := List.mem_map.mp hd; rfl
  have SLn : slD (.lst true (rs.map rwD)) none (some 7) = some (.lst true ((rs.take 7).map rwD)) := by
    unfold slD
    simp only
    rw [if_pos (PR _), show (7 : Int) = ((7 : Nat) : Int) from rfl, ah4, List.map_take]
  have TU := v7 (o := true) (PR (rs.take 7))
  have FR := a5k (z9 (PR (rs.take 7)))
  have TQ : DQ (.tally (rs.take 7)) := ⟨by rw [List.length_take]; omega, fun x hx => by
    have := R.lt x (List.mem_of_mem_take hx)
    omega, by rw [List.length_take]; omega, R.up.sublist (List.take_sublist _ _)⟩
  have TD : (Deed.tally (rs.take 7)).d = .tup [.str "tally", .tup ((rs.take 7).map rwD)] := rfl
  repeat tm_at "zs"
  refine a1s hF' (by omega) (by decide) (by decide) fun u F6 hF6 u0 u1 => ?_
  obtain ⟨u, rfl⟩ := Int.eq_ofNat_of_zero_le u0
  repeat tm_at "zs"
  refine ro (at6 (by simp) rfl rfl) ?_
  repeat tm_at "zs"
  refine ro (at6 (by simp) rfl rfl) ?_
  repeat tm_at "zs"
  refine a1s hF6 (by omega) (by decide) (by decide) fun g F7 hF7 g0 g1 => ?_
  repeat tm_at "zs"
  have q12 : q ≤ 12 := by omega
  refine a6t (fun d => ∃ x : Deed, d = x.d ∧ DQ x) g0 (by simpa using g1) ?_ ?_
  · intro d hd
    simp only [List.mem_append, List.mem_cons, List.not_mem_nil, or_false] at hd
    rcases hd with ((rfl | rfl | rfl | rfl | rfl) | rfl | rfl | rfl) | rfl | rfl | rfl | rfl
    · exact ⟨rfl, .jam q, rfl, q12⟩
    · exact ⟨rfl, .free q, rfl, q12⟩
    · exact ⟨rfl, .shut q, rfl, q12⟩
    · exact ⟨rfl, .opn q, rfl, q12⟩
    · exact ⟨rfl, .brand o b q, rfl, oo, bb, q12⟩
    · exact ⟨rfl, .drop o b q, rfl, oo, bb, q12⟩
    · exact ⟨rfl, .owns q o u, rfl, q12, oo, by omega⟩
    · exact ⟨rfl, .cost q m, rfl, q12, by omega⟩
    · exact ⟨rfl, .tally (rs.take 7), rfl, TQ⟩
    · exact ⟨rfl, .reckon, rfl, trivial⟩
    · exact ⟨rfl, .jam q, rfl, q12⟩
    · exact ⟨rfl, .brand o b q, rfl, oo, bb, q12⟩
  rintro _ _ ⟨x, rfl, hx⟩
  have NO := Deed.own x
  repeat tm_at "zs"
  exact k x F7 (hF7.le (by omega)) hx
structure SpOk (xs : Riv) (m : List (Nat × Nat)) : Prop where
  ky : ∀ x ∈ m, x.1 ∈ lgL
  pl : ∀ x ∈ m, x.2 ≤ xs.length
  ln : m.length ≤ 60
theorem ai7 {α : Type} {m : List (Nat × α)} {k : Nat} {y : α} {x : Nat × α} (h : x ∈ putN m k y) : x ∈ m ∨ x = (k, y) := by
  show_term
  induction m with
  | nil => exact .inr (List.mem_singleton.mp h)
  | cons a m ih =>
    unfold putN at h
    split at h
    · rcases List.mem_cons.mp h with h | h
      · exact .inr h
      · exact .inl (List.mem_cons_of_mem _ h)
    · rcases List.mem_cons.mp h with h | h
      · rw [h]; exact .inl List.mem_cons_self
      · exact (ih h).imp (List.mem_cons_of_mem _) id
theorem SpOk.put {xs : Riv} {m : List (Nat × Nat)} (S : SpOk xs m) (hl : m.length < 60) {l p : Nat} (h1 : l ∈ lgL) (h2 : p ≤ xs.length) : SpOk xs (putN m l p) :=
  ⟨fun x hx => (ai7 hx).elim (S.ky x) fun e => by rw [e]; exact h1, fun x hx => (ai7 hx).elim (S.pl x) fun e => by rw [e]; exact h2, Nat.le_trans (a7r l p m) hl⟩
theorem aj5 {α : Type} {l : Nat} : ∀ {m : List (Nat × α)}, l ∈ m.map (·.1) → ∃ y, m.lookup l = some y ∧ (l, y) ∈ m
  | [], h => by cases h
  | (a, z) :: m, h => by
    rw [List.lookup_cons]
    by_cases e : l = a
    · subst e; exact ⟨z, by simp, List.mem_cons_self⟩
    · have e2 : (l == a) = false := by simpa using e
      rw [e2]
      obtain ⟨y, h1, h2⟩ := aj5 ((List.mem_cons.mp h).resolve_left e)
      exact ⟨y, h1, List.mem_cons_of_mem _ h2⟩
theorem as8 {o : Bool} (ls : List Nat) : ∃ ks : List Nat, a5v [.lst o (ls.map nI)] = some (.lst true (ks.map nI)) ∧ ks.Perm ls := by
  show_term
  refine ⟨ls.mergeSort fun a b => decide (a ≤ b), ?_, List.mergeSort_perm _ _⟩
  have := av5 (o := o) (ns := ls.map fun k : Nat => (k : Int))
  rw [List.map_map] at this
  refine this.trans ?_
  unfold sortI
  rw [← List.map_mergeSort (f := fun k : Nat => (k : Int)) (r := fun a b => decide (a ≤ b)) (s := fun a b => decide (a ≤ b)) fun a _ b _ => decide_eq_decide.mpr (by omega), List.map_map]
  rfl
theorem b1a {xs : Riv} (R : RvOk xs) (x12 : xs.length ≤ 12) {m : List (Nat × Nat)} (S : SpOk xs m) (hl : m.length < 60) {n : Nat} {F : D} (hF : Feed n F) (hn : n + 300 < 10 ^ 9) {Q : D → List D → Prop} (k : ∀ (d : Deed) F' (m' : List (Nat × Nat)), Feed (n + 60) F' → SpOk xs m' → m'.length ≤ m.length + 1 → DQ d → Q d.d [F', dcD nI m']) : WF (a0x [F, rvD xs, dcD nI m]) Q := by
  show_term
  have ll : (xs.map rD).length = xs.length := List.length_map _
  have LD : ai0 [dcD nI m] = some (.int (m.length : Int)) := by
    show some (D.int ((m.map fun x => kN x.1).length : Int)) = _
    rw [List.length_map]
  have EM : ab5 (dcD nI m) (.dic true false [] []) = some (.bl (decide (m = []))) := by
    show some (D.bl (decide ((m.map fun x => kN x.1) = []))) = _
    cases m <;> simp
  unfold a0x a2v
  refine a2z (by simp [List.replicate]; rfl) ?_
  repeat tm_at "zs"
  refine a1s hF (by omega) (by decide) (by decide) fun v F1 hF1 v0 v1 => ?_
  repeat tm_at "zs"
  refine a1s hF1 (by omega) (by omega) (by omega) fun q F2 hF2 q0 q1 => ?_
  obtain ⟨q, rfl⟩ := Int.eq_ofNat_of_zero_le q0
  repeat tm_at "zs"
  refine a1s hF2 (by omega) (by decide) (by decide) fun w F3 hF3 w0 w1 => ?_
  repeat tm_at "zs"
  refine aj3 (l := lgL) w0 (by simpa [lgL] using w1) fun l hlg => ?_
  repeat tm_at "zs"
  refine ao4 (fun e => ?_) fun e => ?_
  · repeat tm_at "zs"
    refine b36 x12 (by omega) hF3 (by omega) fun d F4 hF4 hd => ?_
    have NO := Deed.own d
    repeat tm_at "zs"
    exact k d F4 m (hF4.le (by omega)) S (Nat.le_succ _) hd
  repeat tm_at "zq"
  refine a3k (av2 (ap5 (fun ρ b ρ' => ρ' = ρ ∧ (b = false → m ≠ [] ∧ ¬ v < 4)) (ak3 ?_) ?_))
  · repeat tm_at "zs"
    refine ao4 (fun e2 => ?_) fun e2 => ?_
    · repeat tm_at "zs"
      exact ⟨rfl, fun z => (by cases z)⟩
    · repeat tm_at "zs"
      exact ⟨rfl, fun z => ⟨fun h => by rw [h] at z; exact absurd z (by decide), e2⟩⟩
  rintro b _ ⟨rfl, hb⟩
  refine b97 (fun eb => ?_) fun eb => ?_
  · have SD := b2p (f := nI) (m := m) (k := l) (y := q) (by omega)
    have SD : ad8 (dcD nI m) (.int (l : Int)) (.int (q : Int)) = some (dcD nI (putN m l q)) := SD
    repeat tm_at "zs"
    refine am1 hF3 (by omega) fun st F4 hF4 sl hs => ?_
    have OS : owned (stD st) = false := rfl
    have PD : ∀ a b : Nat, (Deed.put l q st a b).d = .tup [.str "put", .int (l : Int), .int (q : Int), stD st, .int (a : Int), .int (b : Int)] := fun _ _ => rfl
    generalize stD st = sd at *
    repeat tm_at "zs"
    refine a1s hF4 (by omega) (by decide) (by decide) fun a F5 hF5 a0 a1 => ?_
    obtain ⟨a, rfl⟩ := Int.eq_ofNat_of_zero_le a0
    repeat tm_at "zs"
    refine a1s hF5 (by omega) (by decide) (by decide) fun c F6 hF6 c0 c1 => ?_
    obtain ⟨c, rfl⟩ := Int.eq_ofNat_of_zero_le c0
    repeat tm_at "zs"
    have := k (.put l q st (1 + a) (1 + c)) F6 (putN m l q) (hF6.le (by omega)) (S.put hl hlg (by omega)) (a7r _ _ _) ⟨hlg, by omega, sl, hs, by omega, by omega⟩
    rw [PD, show (((1 + a : Nat)) : Int) = 1 + (a : Int) by omega, show (((1 + c : Nat)) : Int) = 1 + (c : Int) by omega] at this
    exact this
  obtain ⟨mne, v4⟩ := hb eb
  have LX := b40 (f := nI) (m := m)
  obtain ⟨ks, SX, kp⟩ := as8 (o := true) (m.map (·.1))
  have kl := kp.length_eq
  rw [List.length_map] at kl
  have mp : 0 < m.length := List.length_pos_iff.mpr mne
  repeat tm_at "zs"
  refine a1s hF3 (by omega) (by omega) (by omega) fun w2 F4 hF4 w20 w21 => ?_
  repeat tm_at "zs"
  refine aj3 (l := ks) w20 (by omega) fun l2 hk => ?_
  obtain ⟨h, eh, hm⟩ := aj5 (kp.mem_iff.mp hk)
  have l2g : l2 ∈ lgL := S.ky _ hm
  have hh : h ≤ xs.length := S.pl _ hm
  have IX := b43 (f := nI) eh rfl
  have IX : ixD (dcD nI m) (.int (l2 : Int)) = some (.int (h : Int)) := IX
  repeat tm_at "zs"
  refine ao4 (fun e8 => ?_) fun e8 => ?_
  · have fin : ∀ p : Nat, p ≤ xs.length → ad8 (dcD nI m) (.int (l2 : Int)) (.int (p : Int)) = some (dcD nI (putN m l2 p)) ∧ ixD (dcD nI (putN m l2 p)) (.int (l2 : Int)) = some (.int (p : Int)) ∧ Q (Deed.byy l2 p).d [F4, dcD nI (putN m l2 p)] := fun p hp =>
      ⟨b2p (f := nI) (y := p) (by omega), b43 (f := nI) (y := p) (by rw [ad2, if_pos rfl]) rfl, k (.byy l2 p) F4 _ (hF4.le (by omega)) (S.put hl l2g hp) (a7r _ _ _) ⟨l2g, by omega⟩⟩
    repeat tm_at "zs"
    refine ao4 (fun h0 => ?_) fun h0 => ?_
    · have hp : 0 < h := by omega
      have IR : ixD (rvD xs) (.int ((h : Int) - 1)) = some (rD (a8q xs h, ao6 xs h)) := by
        rw [show (h : Int) - 1 = ((h - 1 : Nat) : Int) by omega]
        refine b2s ?_
        rw [List.getElem?_map, b2f R hp hh]
        rfl
      have IR0 : ixD (rD (a8q xs h, ao6 xs h)) (.int 0) = some (.int (a8q xs h : Int)) := rfl
      have NR : owned (rD (a8q xs h, ao6 xs h)) = false := rfl
      obtain ⟨f1, f2, f3⟩ := fin (a8q xs h) (by have := b3e R hp hh; omega)
      generalize rD (a8q xs h, ao6 xs h) = rd at *
      generalize a8q xs h = dh at *
      repeat tm_at "zs"
      exact f3
    · obtain ⟨f1, f2, f3⟩ := fin 0 (Nat.zero_le _)
      have f1 : ad8 (dcD nI m) (.int (l2 : Int)) (.int 0) = some (dcD nI (putN m l2 0)) := f1
      have f2 : ixD (dcD nI (putN m l2 0)) (.int (l2 : Int)) = some (.int 0) := f2
      repeat tm_at "zs"
      exact f3
  · repeat tm_at "zs"
    refine a1s hF4 (by omega) (by decide) (by decide) fun a F5 hF5 a0 a1 => ?_
    obtain ⟨a, rfl⟩ := Int.eq_ofNat_of_zero_le a0
    repeat tm_at "zs"
    refine a6t (fun d => ∃ x : Deed, d = x.d ∧ DQ x) (v := v - 8) (by omega) (by simp; omega) ?_ ?_
    · intro d hd
      simp only [List.mem_cons, List.not_mem_nil, or_false] at hd
      rcases hd with rfl | rfl | rfl
      · exact ⟨rfl, .sink l2 h, rfl, l2g, by omega⟩
      · exact ⟨rfl, .rise l2, rfl, l2g⟩
      · exact ⟨rfl, .sell l2 h a, rfl, l2g, by omega, by omega⟩
    rintro _ _ ⟨x, rfl, hx⟩
    have NO := Deed.own x
    repeat tm_at "zs"
    exact k x F5 m (hF5.le (by omega)) S (Nat.le_succ _) hx
def at7 : Deed → Bool | .reckon => true | _ => false
theorem b26 {d : Deed} (h : DrD d) : eqD d.d (.tup [.str "reckon"]) = some (.bl (at7 d)) := by
  show_term
  have e2 : toPy (.tup [.str "reckon"]) = some (.tuple [.str "reckon"]) := rfl
  rw [b2e (x := d.d) (y := .tup [.str "reckon"]) (.inr rfl) (ah6 d) e2 ((ah9 h).shaped (by decide)) ((Lays.tup (.cons (Lays.str 0 (Tx.of (n := 9) "reckon" (by decide)).ok) (.nil 0))).shaped (by decide))]
  congr 2
  cases d <;> rfl
theorem b78 {d : Deed} (h : DrD d) : neD d.d (.tup [.str "reckon"]) = some (.bl (!at7 d)) := by
  show_term
  have := b26 h
  unfold eqD at this
  unfold neD
  cases e : eqB d.d (.tup [.str "reckon"]) with
  | none => rw [e] at this; cases this
  | some b =>
    rw [e] at this
    injection this with this
    injection this with this
    rw [this]
structure PsOk (ps : List a2n) (n : Nat) : Prop where
  pg : ∀ x ∈ ps, DQ x.2 ∧ x.1 ≤ 3200 * n
  nd : ps.Nodup
  ln : ps.length ≤ n
theorem PsOk.drn {ps : List a2n} {n : Nat} (P : PsOk ps n) (hn : n ≤ 30) : ∀ x ∈ ps, Drn x := fun x hx => ⟨by have := (P.pg x hx).2; omega, (P.pg x hx).1.dr⟩
theorem PsOk.up {ps : List a2n} {n : Nat} (P : PsOk ps n) : PsOk ps (n + 1) := ⟨fun x hx => ⟨(P.pg x hx).1, by have := (P.pg x hx).2; omega⟩, P.nd, Nat.le_succ_of_le P.ln⟩
theorem PsOk.add {ps : List a2n} {n : Nat} (P : PsOk ps n) {x : a2n} (hx : x ∉ ps) (h1 : DQ x.2) (h2 : x.1 ≤ 3200 * (n + 1)) : PsOk (ps ++ [x]) (n + 1) :=
  ⟨fun y hy => (List.mem_append.mp hy).elim (P.up.pg y) fun e => by rw [List.mem_singleton.mp e]; exact ⟨h1, h2⟩, List.nodup_append.mpr ⟨P.nd, by simp, fun a ha b hb e => hx (by rw [← List.mem_singleton.mp hb, ← e]; exact ha)⟩, by rw [List.length_append]; have := P.ln; simp; omega⟩
theorem b0f {xs : Riv} (R : RvOk xs) (x12 : xs.length ≤ 12) {many : Nat} (m24 : many ≤ 24) {n : Nat} {F : D} (hF : Feed n F) (hn : n + 3000 < 10 ^ 9) {Q : D → List D → Prop} (k : ∀ (ps : List a2n) F' b, Feed (n + 2000) F' → PsOk ps 24 → Q (.lst b (ps.map pgD)) [F']) : WF (a2t [F, rvD xs, .int (many : Int)]) Q := by
  unfold a2t a4v
  refine a2z (by simp [List.replicate]; rfl) ?_
  repeat tm_at "zs"
  refine a1s hF (by omega) (by decide) (by decide) fun v F1 hF1 v0 v1 => ?_
  repeat tm_at "zs"
  refine a6h 1 1600 v0 (by simpa using v1) ?_ fun s s0 s1 => ?_
  · intro d hd
    simp only [List.mem_cons, List.not_mem_nil, or_false] at hd
    rcases hd with rfl | rfl | rfl <;> exact a91 (by omega) (by omega)
  obtain ⟨s, rfl⟩ := Int.eq_ofNat_of_zero_le (show 0 ≤ s by omega)
  repeat tm_at "zs"
  refine a9i (I := fun ρ i ρ' => ∃ (ps : List a2n) (m : List (Nat × Nat)) (F' : D) (hr : Nat) (x7 x8 x9 : Option Slot), OwnS x7 ∧ OwnS x8 ∧ OwnS x9 ∧ Feed (n + 1 + 70 * i) F' ∧ PsOk ps i ∧ SpOk xs m ∧ m.length ≤ i ∧ hr ≤ 3200 * i ∧ ρ' = [iD F', oD (rvD xs), oI (many : Int), oD (dcD nI m), oD (.lst true (ps.map pgD)), oI (hr : Int), oI (s : Int), x7, x8, x9, none]) ?_ ?_ ?_
  · exact ⟨[], [], F1, 0, none, none, none, .none, .none, .none, hF1, ⟨fun x h => (by cases h), .nil, Nat.le_refl _⟩, ⟨fun x h => (by cases h), fun x h => (by cases h), by decide⟩, Nat.le_refl _, Nat.zero_le _, rfl⟩
  · rintro i ρ' hi ⟨ps, m, F', hr, x7, x8, x9, h7, h8, h9, hF', P, S, ml, hh, rfl⟩
    have i24 : i < 24 := by omega
    repeat tm_at "zs"
    refine a1s hF' (by omega) (by decide) (by decide) fun u F2 hF2 u0 u1 => ?_
    obtain ⟨u, rfl⟩ := Int.eq_ofNat_of_zero_le u0
    have ML : al8 (.int (s : Int)) (.int (u : Int)) = some (.int ((s * u : Nat) : Int)) := by rw [aj9 (by omega) (by omega) (by omega) (by omega)]; rfl
    have su : s * u ≤ 3200 := Nat.le_trans (Nat.mul_le_mul (show s ≤ 1600 by omega) (show u ≤ 2 by omega)) (by decide)
    generalize s * u = sv at *
    repeat tm_at "zs"
    rw [show (hr : Int) + (sv : Int) = ((hr + sv : Nat) : Int) by omega]
    refine b1a R x12 S (by omega) hF2 (by omega) fun d F3 m' hF3 S' ml' hd => ?_
    have NO := Deed.own d
    have dp := P.drn (by omega)
    have px : Drn (hr + sv, d) := ⟨by show hr + sv < 1048576; omega, hd.dr⟩
    have NE := b78 hd.dr
    obtain ⟨ni1, ni2⟩ := ba9 (b := true) px dp
    have plen : ps.length ≤ 24 := by have := P.ln; omega
    have PP := a4y ps
    repeat tm_at "zs"
    refine as3 (enc := pgD) (xs := ps) (fun x => at7 x.2) pgD (by omega) ?_ ?_
    · rintro ⟨h', d'⟩ hx
      have EQ := b26 (dp _ hx).2
      have NOd := Deed.own d'
      have I1 : ixD (pgD (h', d')) (.int 1) = some d'.d := by
        show ixD (D.tup [.int (h' : Int), d'.d]) (.int 1) = _
        exact b2s rfl
      have NP : owned (pgD (h', d')) = false := rfl
      generalize pgD (h', d') = pg at *
      generalize d'.d = dd at *
      repeat tm_at "zs"
      refine ⟨rfl, ?_⟩
      refine b97 (fun e => ?_) fun e => ?_
      · repeat tm_at "zs"
        exact ⟨rfl, tw (by tm_at "wp") rfl⟩
      · exact tw (by tm_at "wp") rfl
    have LF : ai0 [.lst true ((ps.filter fun x => at7 x.2).map pgD)] = some (.int ((ps.filter fun x => at7 x.2).length : Int)) := by rw [lenD_lst, List.length_map]
    repeat tm_at "zs"
    have PG : D.tup [.int ((hr + sv : Nat) : Int), d.d] = pgD (hr + sv, d) := rfl
    have hle : hr + sv ≤ 3200 * (i + 1) := by omega
    have NPd : owned (D.tup [.int ((hr + sv : Nat) : Int), d.d]) = false := rfl
    by_cases hc : pgD (hr + sv, d) ∈ ps.map pgD
    · refine ro (ni1 hc) ?_
      repeat tm_at "zs"
      exact ⟨ps, m', F3, hr + sv, _, _, _, .own _, .own _, .own _, hF3.le (by omega), P.up, S', by omega, hle, rfl⟩
    · have hc2 : (hr + sv, d) ∉ ps := fun h => hc (List.mem_map_of_mem h)
      have P2 : PsOk (ps ++ [(hr + sv, d)]) (i + 1) := P.add hc2 hd hle
      have AP : (ps ++ [(hr + sv, d)]).map pgD = ps.map pgD ++ [D.tup [.int ((hr + sv : Nat) : Int), d.d]] := by rw [List.map_append]; rfl
      have gl : (ps.map pgD).length < 1000000 := by rw [List.length_map]; omega
      refine ro (ni2 hc) ?_
      repeat tm_at "zs"
      refine ao4 (fun e4 => ?_) fun e4 => ?_
      · repeat tm_at "zs"
        exact ⟨ps ++ [(hr + sv, d)], m', F3, hr + sv, _, _, _, .own _, .own _, .own _, hF3.le (by omega), P2, S', by omega, hle, by rw [AP]⟩
      · repeat tm_at "zs"
        refine b97 (fun e5 => ?_) fun e5 => ?_
        · repeat tm_at "zs"
          exact ⟨ps, m', F3, hr + sv, _, _, _, .own _, .own _, .own _, hF3.le (by omega), P.up, S', by omega, hle, rfl⟩
        · repeat tm_at "zs"
          exact ⟨ps ++ [(hr + sv, d)], m', F3, hr + sv, _, _, _, .own _, .own _, .own _, hF3.le (by omega), P2, S', by omega, hle, by rw [AP]⟩
  rintro _ ⟨ps, m, F', hr, x7, x8, x9, h7, h8, h9, hF', P, S, ml, hh, rfl⟩
  have FZ := b3n (b := true) (a5k (z9 (a4y ps)))
  have P24 : PsOk ps 24 := ⟨fun x hx => ⟨(P.pg x hx).1, by have := (P.pg x hx).2; omega⟩, P.nd, by have := P.ln; omega⟩
  repeat tm_at "zs"
  exact k ps F' _ (hF'.le (by omega)) P24
theorem at8 {l : List Str} (hl : l.length ≤ 1000) (h0 : l ≠ []) (nd : l.Nodup) {o : Bool} : a5v [.lst o (l.map .str)] = some (.lst true ((a4w l).map .str)) := by
  show_term
  have ni : a2j (l.map .str) = none := by
    cases l with
    | nil => exact absurd rfl h0
    | cons a t => rfl
  have OK : a95 (l.map .str) := by
    refine ⟨a2q _, by rw [List.length_map]; omega, .inr ⟨fun d hd => ?_, ?_, ?_⟩⟩
    · obtain ⟨x, _, rfl⟩ := List.mem_map.mp hd
      exact ⟨_, rfl, Nat.zero_le _⟩
    · rw [List.map_map]
      exact PySem.W.AllAlike.of (enc := fun x : Str => Dv.encD (.str x)) fun x y => rfl
    · rw [List.map_map]
      exact PySem.W.Sortable.others (enc := fun x : Str => Dv.encD (.str x)) fun x => ⟨fun h : PyData.str x = _ => (by cases h), fun xs (h : PyData.str x = _) => (by cases h)⟩
  rw [af3 (ds := l.map .str) ni (.inl OK), aq2 nd]
theorem b7j {O : List Str} (h : O.Pairwise ltS) : O.Nodup := List.Pairwise.imp (fun {a b} (h : ltS a b) (e : a = b) => a70 b (e ▸ h)) h
theorem b2t {l : List Str} (nd : l.Nodup) : (a4w l).length = l.length := by
  haveI : DecidableEq Str := inferInstance
  exact ((List.perm_ext_iff_of_nodup (b7j (a87 l)) nd).mpr fun z => mem_upSetT).length_eq
theorem b2l {α β : Type} (f : α → β) : ∀ (l : List α) (v : Nat), (l.map f).eraseIdx v = (l.eraseIdx v).map f
  | [], _ => rfl
  | a :: l, 0 => rfl
  | a :: l, v + 1 => by
    rw [List.map_cons, List.eraseIdx_cons_succ, List.eraseIdx_cons_succ, List.map_cons, b2l f l v]
theorem ar0 {α : Type} : ∀ (l : List α) (v : Nat) (h : v < l.length), (l[v] :: l.eraseIdx v).Perm l
  | a :: l, 0, _ => .refl _
  | a :: l, v + 1, h => by
    have h2 : v < l.length := by simpa using h
    rw [List.eraseIdx_cons_succ, List.getElem_cons_succ]
    exact (List.Perm.swap _ _ _).trans ((ar0 l v h2).cons a)
theorem ab8 {pl : D} {L : List Str} (hpl : ay4 [pl] = some (.lst true (L.map .str))) (hown : owned pl = false) (nd : L.Nodup) {m : Nat} (m1 : 1 ≤ m) (mL : m ≤ L.length) (L50 : L.length ≤ 50) {n : Nat} {F : D} (hF : Feed n F) (hn : n + 100 < 10 ^ 9) {Q : D → List D → Prop} (k : ∀ (zs : List Str) F', Feed (n + m) F' → zs.Pairwise ltS → zs.length = m → (∀ z ∈ zs, z ∈ L) → Q (.lst true (zs.map .str)) [F']) : WF (a1t [F, pl, .int (m : Int)]) Q := by
  show_term
  unfold a1t a4j
  refine a2z (by simp [List.replicate]; rfl) ?_
  repeat tm_at "zs"
  refine a9i (I := fun ρ i ρ' => ∃ (ls fs : List Str) (F' : D) (x5 : Option Slot), OwnS x5 ∧ Feed (n + i) F' ∧ (fs ++ ls).Perm L ∧ fs.length = i ∧ ρ' = [iD F', some (.own pl), oI (m : Int), oD (.lst true (ls.map .str)), oD (.lst true (fs.map .str)), x5]) ?_ ?_ ?_
  · exact ⟨L, [], F, none, .none, hF, .refl _, rfl, rfl⟩
  · rintro i ρ' hi ⟨ls, fs, F', x5, h5, hF', pm, fl, rfl⟩
    have pl2 := pm.length_eq
    rw [List.length_append] at pl2
    have pw := a2q ls
    have pf := a2q fs
    have gl : (fs.map D.str).length < 1000000 := by rw [List.length_map]; omega
    have ll : (ls.map D.str).length = ls.length := List.length_map _
    repeat tm_at "zs"
    refine b7g (s := .own (.lst true (ls.map .str))) rfl rfl ?_
    repeat tm_at "zs"
    refine a1s hF' (by omega) (by omega) (by omega) fun v F2 hF2 v0 v1 => ?_
    obtain ⟨v, rfl⟩ := Int.eq_ofNat_of_zero_le v0
    have v2 : v < ls.length := by omega
    repeat tm_at "zs"
    have EI : (ls.map D.str).eraseIdx v = (ls.eraseIdx v).map D.str := b2l D.str ls v
    refine ⟨v, rfl, aq5 (ds := ls.map .str) (x := .str ls[v]) (ρ' := [iD F2, some (.own pl), oI (m : Int), oD (.lst true ((ls.eraseIdx v).map .str)), oD (.lst true (fs.map .str)), some (.own (.int (i : Int)))]) rfl pw (by omega) (by rw [List.getElem?_map, List.getElem?_eq_getElem v2]; rfl) (by rw [EI]; rfl) ?_⟩
    repeat tm_at "zs"
    refine ⟨ls.eraseIdx v, fs ++ [ls[v]], F2, some (.own (.int (i : Int))), .own _, hF2, ?_, by rw [List.length_append, fl]; rfl, by rw [List.map_append]; rfl⟩
    rw [List.append_assoc]
    exact (List.Perm.append_left fs (ar0 ls v v2)).trans pm
  rintro _ ⟨ls, fs, F', x5, h5, hF', pm, fl, rfl⟩
  have fl : fs.length = m := by omega
  have nf : fs.Nodup := (List.nodup_append.mp (pm.nodup_iff.mpr nd)).1
  have SX := at8 (l := fs) (by omega) (by intro z; rw [z] at fl; simp at fl; omega) nf (o := true)
  repeat tm_at "zs"
  refine k (a4w fs) F' (hF'.le (by omega)) (a87 _) (by rw [b2t nf, fl]) fun z hz => ?_
  exact pm.mem_iff.mp (List.mem_append_left _ (mem_upSetT.mp hz))
def sgS (c : Nat) : Str := ⟨#[c]⟩
def pwL : List Str := ["a", "aa", "ab", "abcdefgh", "ann", "b", "bob", "by", "c", "m", "put", "z", "zz", "zzzzzzzz"]
theorem bc6 : ∀ z ∈ pwL, Tx z 9 := fun z hz => by
  unfold pwL at hz
  simp only [List.mem_cons, List.not_mem_nil, or_false] at hz
  rcases hz with rfl | rfl | rfl | rfl | rfl | rfl | rfl | rfl | rfl | rfl | rfl | rfl | rfl | rfl <;> exact Tx.of _ (by decide)
theorem b9m : pwL.Nodup := by decide
def azL : List Nat := [65, 66, 67, 68, 69, 70, 71, 72, 73, 74, 75, 76, 77, 78, 79, 80, 81, 82, 83, 84, 85, 86, 87, 88, 89, 90]
def esL : List Nat := [65, 66, 68, 69, 90]
theorem b44 : ay4 [.str "ABCDEFGHIJKLMNOPQRSTUVWXYZ"] = some (.lst true ((azL.map sgS).map .str)) := rfl
theorem b7w : aj2 (.str "ABDEZ") = some ((esL.map sgS).map .str) := rfl
theorem ai6 {a b : Nat} (h : sgS a = sgS b) : a = b := by
  show_term
  unfold sgS at h
  injection h with h
  injection h with h
  injection h
theorem sg_lt {a b : Nat} : ltS (sgS a) (sgS b) ↔ a < b := by
  show [a] < [b] ↔ a < b
  simp [List.cons_lt_cons_iff]
structure Ren where
  w : List (Str × Str)
  s : List (Nat × Nat)
  p : List (Nat × Nat)
  h : Int
def w2D (x : Str × Str) : D := .tup [.str x.1, .str x.2]
def s2D (x : Nat × Nat) : D := .tup [.str (sgS x.1), .str (sgS x.2)]
def Ren.d (r : Ren) : D := .tup [.tup (r.w.map w2D), .tup (r.s.map s2D), .tup (r.p.map rwD), .int r.h]
theorem a7o {α β : Type} (f : α → D) (g : β → D) : ∀ (xs : List α) (ys : List β), ac9 (xs.map f) (ys.map g) = (xs.zip ys).map fun z => D.tup [f z.1, g z.2]
  | [], ys => by simp [ac9]
  | x :: xs, [] => by simp [ac9]
  | x :: xs, y :: ys => by
    show _ :: ac9 _ _ = _
    rw [a7o f g xs ys]
    rfl
structure RenOk (r : Ren) (ps : List a2n) : Prop where
  w1 : r.w.map (·.1) = owL
  w2 : r.w.Pairwise fun a b => ltS a.1 b.1 ∧ ltS a.2 b.2
  w3 : ∀ x ∈ r.w, Tx x.2 9
  s1 : r.s.map (·.1) = esL
  s2 : r.s.Pairwise fun a b => a.1 < b.1 ∧ a.2 < b.2
  s3 : ∀ x ∈ r.s, 65 ≤ x.2 ∧ x.2 ≤ 90
  p1 : r.p.map (·.1) = lgL
  p2 : r.p.Pairwise fun a b => a.1 < b.1 ∧ a.2 < b.2
  p3 : ∀ x ∈ r.p, x.2 ≤ 968
  h1 : ∀ x ∈ ps, 0 ≤ (x.1 : Int) + r.h
  h2 : -76800 ≤ r.h ∧ r.h ≤ 9000
theorem a7n {α β : Type} {R : α → α → Prop} {S : β → β → Prop} : ∀ {xs : List α} {ys : List β}, xs.Pairwise R → ys.Pairwise S → (xs.zip ys).Pairwise fun a b => R a.1 b.1 ∧ S a.2 b.2
  | [], ys, _, _ => by simp
  | x :: xs, [], _, _ => by simp
  | x :: xs, y :: ys, h1, h2 => by
    rw [List.pairwise_cons] at h1 h2
    rw [List.zip_cons_cons, List.pairwise_cons]
    exact ⟨fun z hz => ⟨h1.1 _ (List.of_mem_zip hz).1, h2.1 _ (List.of_mem_zip hz).2⟩, a7n h1.2 h2.2⟩
theorem zip_fst {α β : Type} : ∀ {xs : List α} {ys : List β}, xs.length = ys.length → (xs.zip ys).map (·.1) = xs
  | [], [], _ => rfl
  | x :: xs, y :: ys, h => by
    rw [List.zip_cons_cons, List.map_cons, zip_fst (by simpa using h)]
theorem fold_min : ∀ (ns : List Int) (m : Int), ns.foldl min m ≤ m ∧ (∀ n ∈ ns, ns.foldl min m ≤ n) ∧ (ns.foldl min m = m ∨ ns.foldl min m ∈ ns)
  | [], m => ⟨Int.le_refl _, fun n h => (by cases h), .inl rfl⟩
  | a :: ns, m => by
    obtain ⟨h1, h2, h3⟩ := fold_min ns (min m a)
    rw [List.foldl_cons]
    refine ⟨by omega, fun n hn => ?_, ?_⟩
    · rcases List.mem_cons.mp hn with rfl | h
      · omega
      · exact h2 n h
    · rcases h3 with h | h
      · rcases Int.le_total m a with g | g
        · exact .inl (by rw [h]; omega)
        · exact .inr (by rw [h, show min m a = a by omega]; exact List.mem_cons_self)
      · exact .inr (List.mem_cons_of_mem _ h)
theorem b16 {ps : List a2n} (h : ∀ x ∈ ps, x.1 ≤ 76800) {o : Bool} : ∃ m : Nat, ao0 0 [.lst o (ps.map fun x => D.int (x.1 : Int))] = some (.int (m : Int)) ∧ m ≤ 76800 ∧ ∀ x ∈ ps, m ≤ x.1 := by
  show_term
  have e : ps.map (fun x => D.int (x.1 : Int)) = (ps.map fun x => (x.1 : Int)).map .int := by rw [List.map_map]; rfl
  rw [e]
  unfold ao0
  simp only [Dv.ints_map]
  cases ps with
  | nil => exact ⟨0, rfl, by decide, fun x hx => (by cases hx)⟩
  | cons a t =>
    obtain ⟨h1, h2, h3⟩ := fold_min (t.map fun x => (x.1 : Int)) (a.1 : Int)
    have ha := h a List.mem_cons_self
    have p0 : 0 ≤ (t.map fun x => (x.1 : Int)).foldl min (a.1 : Int) := by
      rcases h3 with g | g
      · rw [g]; omega
      · obtain ⟨x, _, e⟩ := List.mem_map.mp g
        rw [← e]; omega
    obtain ⟨m, hm⟩ := Int.eq_ofNat_of_zero_le p0
    refine ⟨m, by show some (D.int ((t.map fun x => (x.1 : Int)).foldl min (a.1 : Int))) = _; rw [hm], by omega, fun x hx => ?_⟩
    rcases List.mem_cons.mp hx with rfl | hx
    · omega
    · have := h2 _ (List.mem_map_of_mem hx)
      omega
theorem b2m : ∀ {ss : List Str}, (∀ z ∈ ss, z ∈ azL.map sgS) → ss.Pairwise ltS → ∃ sn : List Nat, ss = sn.map sgS ∧ (∀ c ∈ sn, 65 ≤ c ∧ c ≤ 90) ∧ sn.Pairwise (· < ·)
  | [], _, _ => ⟨[], rfl, fun _ h => (by cases h), .nil⟩
  | s :: ss, h, p => by
    rw [List.pairwise_cons] at p
    obtain ⟨sn, e, h1, h2⟩ := b2m (fun z hz => h z (List.mem_cons_of_mem _ hz)) p.2
    obtain ⟨c, hc, rfl⟩ := List.mem_map.mp (h s List.mem_cons_self)
    have az : ∀ c ∈ azL, 65 ≤ c ∧ c ≤ 90 := by decide
    refine ⟨c :: sn, by rw [e, List.map_cons], fun x hx => ?_, List.pairwise_cons.mpr ⟨fun x hx => sg_lt.mp (p.1 _ (by rw [e]; exact List.mem_map_of_mem hx)), h2⟩⟩
    rcases List.mem_cons.mp hx with rfl | g
    · exact az _ hc
    · exact h1 x g
theorem b2n {a : D} (ha : owned a = false) {ws : List D} (h : a0d ws = true) : frL [a, .lst true ws] = [a, .lst false ws] := by
  rw [frL_cons, frL_cons, frL_nil, a6r ha, b3n (a5k fun d hd => z9 h d hd)]
theorem aa3 (l : List Nat) : a0d (l.map nI) = true := a4s fun d hd => by obtain ⟨x, _, rfl⟩ := List.mem_map.mp hd; rfl
theorem af5 {ps : List a2n} (ph : ∀ x ∈ ps, x.1 ≤ 76800) (pl : ps.length ≤ 24) {n : Nat} {F : D} (hF : Feed n F) (hn : n + 500 < 10 ^ 9) {Q : D → List D → Prop} (k : ∀ (r : Ren) F', Feed (n + 100) F' → RenOk r ps → Q r.d [F']) : WF (a1k [F, .tup (ps.map pgD)]) Q := by
  show_term
  unfold a1k a3l
  refine a2z (by simp [List.replicate]; rfl) ?_
  repeat tm_at "zs"
  refine b4w ?_
  repeat tm_at "zs"
  refine ab8 (L := pwL) (m := 5) rfl rfl b9m (by decide) (by decide) (by decide) hF (by omega) fun ws F1 hF1 wu wl wm => ?_
  repeat tm_at "zs"
  refine ⟨.lst false (owL.map .str), .lst false (ws.map .str), owL.map .str, ws.map .str, b2n rfl (a2q ws), rfl, rfl, by rw [a6q, List.length_map, List.length_map, wl]; decide, ?_⟩
  rw [a7o D.str D.str owL ws]
  repeat tm_at "zs"
  refine b4w ?_
  repeat tm_at "zs"
  refine ab8 (L := azL.map sgS) (m := 5) b44 rfl (List.pairwise_map.mpr (List.Pairwise.imp (fun h e => h (ai6 e)) (by decide : azL.Nodup))) (by decide) (by decide) (by decide) hF1 (by omega) fun ss F2 hF2 su sl sm => ?_
  obtain ⟨sn, rfl, sr, sp⟩ := b2m sm su
  rw [List.length_map] at sl
  repeat tm_at "zs"
  refine ⟨.str "ABDEZ", .lst false ((sn.map sgS).map .str), (esL.map sgS).map .str, (sn.map sgS).map .str, b2n rfl (a2q _), b7w, rfl, by rw [a6q, List.length_map, List.length_map, List.length_map, List.length_map, sl]; decide, ?_⟩
  rw [List.map_map, List.map_map, a7o (D.str ∘ sgS) (D.str ∘ sgS) esL sn]
  repeat tm_at "zs"
  refine a9i (I := fun ρ i ρ' => ∃ (ns : List Nat) (F' : D) (f : Nat) (x8 : Option Slot), OwnS x8 ∧ Feed (n + 10 + 2 * i) F' ∧ ns.Pairwise (· < ·) ∧ (∀ x ∈ ns, x ≤ f) ∧ f ≤ 120 * i ∧ ns.length = i ∧ ρ' = [iD F', oD (.tup (ps.map pgD)), oD (.lst false (owL.map .str)), oD (.lst false (pwL.map .str)), oD (.tup ((owL.zip ws).map w2D)), oD (.tup ((esL.zip sn).map s2D)), oD (.lst true (ns.map nI)), oI (f : Int), x8, none, none, none, none]) ?_ ?_ ?_
  · exact ⟨[], F2, 0, none, .none, hF2, .nil, fun x h => (by cases h), Nat.le_refl _, rfl, rfl⟩
  · rintro i ρ' hi ⟨ns, F', f, x8, h8, hF', np, nf, ff, nl, rfl⟩
    have i8 : i < 8 := by omega
    refine a3k ?_
    repeat tm_at "zs"
    refine a1s hF' (by omega) (by decide) (by decide) fun v F3 hF3 v0 v1 => ?_
    repeat tm_at "zs"
    refine a6h 1 120 v0 (by simpa using v1) ?_ fun s s0 s1 => ?_
    · intro d hd
      simp only [List.mem_cons, List.not_mem_nil, or_false] at hd
      rcases hd with rfl | rfl <;> exact a91 (by omega) (by omega)
    repeat tm_at "zs"
    refine a1s hF3 (by omega) (by omega) (by omega) fun u F4 hF4 u0 u1 => ?_
    obtain ⟨u, rfl⟩ := Int.eq_ofNat_of_zero_le u0
    have PN := aa3 ns
    repeat tm_at "zs"
    refine ⟨ns ++ [f + 1 + u], F4, f + 1 + u, some (.own (.int (i : Int))), .own _, hF4.le (by omega), List.pairwise_append.mpr ⟨np, by simp, fun a ha b hb => by rw [List.mem_singleton.mp hb]; have := nf a ha; omega⟩, fun x hx => ?_, by omega, by rw [List.length_append, nl]; rfl, ?_⟩
    · rcases List.mem_append.mp hx with h | h
      · have := nf x h
        omega
      · exact Nat.le_of_eq (List.mem_singleton.mp h)
    · rw [List.map_append]
      rfl
  rintro _ ⟨ns, F', f, x8, h8, hF', np, nf, ff, nl, rfl⟩
  repeat tm_at "zs"
  refine b4w ?_
  repeat tm_at "zs"
  have FN : frL (ns.map nI) = ns.map nI := a5k fun d hd => z9 (aa3 ns) d hd
  repeat tm_at "zs"
  refine ⟨.lst false (lgL.map nI), .lst false (ns.map nI), lgL.map nI, ns.map nI, ?_, rfl, rfl, by rw [a6q, List.length_map, List.length_map, nl]; decide, ?_⟩
  · rfl
  rw [a7o nI nI lgL ns]
  obtain ⟨m, hm, m1, m2⟩ := b16 ph (o := true)
  have pll : (ps.map pgD).length = ps.length := List.length_map _
  repeat tm_at "zs"
  refine a6d (fun d => match d with | .tup [h, _] => h | _ => .non) (by omega) ?_ ?_
  · intro d hd
    obtain ⟨x, hx, rfl⟩ := List.mem_map.mp hd
    unfold pgD
    have NO := Deed.own x.2
    repeat tm_at "zs"
    refine ⟨rfl, ?_⟩
    repeat tm_at "zs"
    rfl
  rw [List.map_map]
  refine tx (ρ' := [iD F', oD (.tup (ps.map pgD)), oD (.lst false (owL.map .str)), oD (.lst false (pwL.map .str)), oD (.tup ((owL.zip ws).map w2D)), oD (.tup ((esL.zip sn).map s2D)), oD (.lst false (ns.map nI)), oI (f : Int), x8, oD (.tup ((lgL.zip ns).map rwD)), none, none, none]) rfl ?_
  repeat tm_at "zs"
  refine ro hm ?_
  repeat tm_at "zs"
  refine a1s hF' (by omega) (by decide) (by decide) fun v F3 hF3 v0 v1 => ?_
  repeat tm_at "zs"
  refine a6t (fun d => ∃ h : Int, d = .int h ∧ (-76800 ≤ h ∧ h ≤ 9000) ∧ ∀ x ∈ ps, 0 ≤ (x.1 : Int) + h) v0 (by simpa using v1) (fun d hd => ?_) fun z _ hz => ?_
  · simp only [List.mem_cons, List.not_mem_nil, or_false] at hd
    rcases hd with rfl | rfl | rfl | rfl
    · exact ⟨rfl, _, rfl, by omega, fun x hx => by omega⟩
    · exact ⟨rfl, _, rfl, by omega, fun x hx => by omega⟩
    · exact ⟨rfl, _, rfl, by omega, fun x hx => by omega⟩
    · exact ⟨rfl, _, rfl, by omega, fun x hx => by have := m2 x hx; omega⟩
  obtain ⟨h, rfl, hh, hp⟩ := hz
  repeat tm_at "zs"
  have lw : owL.length = ws.length := by rw [wl]; rfl
  have ls : esL.length = sn.length := by rw [sl]; rfl
  have lp : lgL.length = ns.length := by rw [nl]; rfl
  refine k ⟨owL.zip ws, esL.zip sn, lgL.zip ns, h⟩ F3 (hF3.le (by omega)) ⟨zip_fst lw, a7n (by decide) wu, fun x hx => bc6 _ (wm _ (List.of_mem_zip hx).2), zip_fst ls, a7n (by decide) sp, fun x hx => sr _ (List.of_mem_zip hx).2, zip_fst lp, a7n (by decide) np, fun x hx => by have := nf _ (List.of_mem_zip hx).2; omega, hp, hh⟩
theorem ar4 {α : Type} {f : α → D} (ho : ∀ y, owned (f y) = false) : ∀ m : List (Nat × α), a3t (m.map fun x => D.tup [.int (x.1 : Int), f x.2]) = some (m.map fun x => ((.inl (x.1 : Int) : Key), f x.2))
  | [] => rfl
  | x :: m => by
    rw [List.map_cons]
    unfold a3t
    rw [ar4 ho m, if_neg (by rw [ho]; decide)]
    rfl
theorem b9z {α : Type} {f : α → D} (ho : ∀ y, owned (f y) = false) {m : List (Nat × α)} (nd : (m.map (·.1)).Nodup) {o : Bool} : dcM [.lst o (m.map fun x => D.tup [.int (x.1 : Int), f x.2])] = some (dcD f m) := by
  show_term
  unfold dcM
  simp only [ar4 ho]
  have n2 : (([] : List (Key × D)).map (·.1) ++ (m.map fun x => ((.inl (x.1 : Int) : Key), f x.2)).map (·.1)).Nodup := by
    rw [List.map_nil, List.nil_append, List.map_map]
    exact List.pairwise_map.mpr ((List.pairwise_map.mp nd).imp fun {a b} (h : a.1 ≠ b.1) (z : (Sum.inl (a.1 : Int) : Key) = Sum.inl (b.1 : Int)) => h (by injection z with z; omega))
  rw [av8 n2, List.nil_append, List.map_map, List.map_map]
  rfl
theorem b7c {α : Type} {f : α → D} (ho : ∀ y, owned (f y) = false) {m : List (Nat × α)} (nd : (m.map (·.1)).Nodup) : dcM [.tup (m.map fun x => D.tup [.int (x.1 : Int), f x.2])] = some (dcD f m) := b9z (o := false) ho nd
theorem aw3 {α : Type} {f : α → D} (ho : ∀ y, owned (f y) = false) : ∀ m : List (Str × α), a3t (m.map fun x => D.tup [.str x.1, f x.2]) = some (m.map fun x => ((.inr x.1 : Key), f x.2))
  | [] => rfl
  | x :: m => by
    rw [List.map_cons]
    unfold a3t
    rw [aw3 ho m, if_neg (by rw [ho]; decide)]
    rfl
theorem b6y {α : Type} {f : α → D} (ho : ∀ y, owned (f y) = false) {m : List (Str × α)} (nd : (m.map (·.1)).Nodup) {o : Bool} : dcM [.lst o (m.map fun x => D.tup [.str x.1, f x.2])] = some (dxD true f m) := by
  show_term
  unfold dcM
  simp only [aw3 ho]
  have n2 : (([] : List (Key × D)).map (·.1) ++ (m.map fun x => ((.inr x.1 : Key), f x.2)).map (·.1)).Nodup := by
    rw [List.map_nil, List.nil_append, List.map_map]
    exact List.pairwise_map.mpr ((List.pairwise_map.mp nd).imp fun {a b} (h : a.1 ≠ b.1) (z : (Sum.inr a.1 : Key) = Sum.inr b.1) => h (by injection z))
  rw [av8 n2, List.nil_append, List.map_map, List.map_map]
  rfl
structure Tb where
  w : List (Str × Str)
  s : List (Nat × Nat)
  p : List (Nat × Nat)
def Tb.W (t : Tb) (o : Str) : Str := (t.w.lookup o).getD o
def Tb.S (t : Tb) (c : Nat) : Nat := (t.s.lookup c).getD c
def Tb.L (t : Tb) (l : Nat) : Nat := (t.p.lookup l).getD l
def Tb.sg (t : Tb) (z : Str) : Str := ⟨(z.cps.toList.map t.S).toArray⟩
def Tb.deed (t : Tb) : Deed → Deed
  | .brand o b p => .brand (t.W o) (t.sg b) p
  | .drop o b p => .drop (t.W o) (t.sg b) p
  | .put l p st a b => .put (t.L l) p (st.map t.sg) a b
  | .byy l p => .byy (t.L l) p
  | .sink l p => .sink (t.L l) p
  | .rise l => .rise (t.L l)
  | .sell l p m => .sell (t.L l) p m
  | .owns p o n => .owns p (t.W o) n
  | d => d
def Tb.page (t : Tb) (h : Int) (x : a2n) : a2n := (((x.1 : Int) + h).toNat, t.deed x.2)
def Tb.cz (t : Tb) (z : Str) : Prop := ∀ c ∈ z.cps.toList, c = 63 ∨ (t.s.lookup c).isSome
def Tb.cv (t : Tb) : Deed → Prop
  | .brand o b _ => (t.w.lookup o).isSome ∧ t.cz b
  | .drop o b _ => (t.w.lookup o).isSome ∧ t.cz b
  | .put l _ st _ _ => (t.p.lookup l).isSome ∧ ∀ z ∈ st, t.cz z
  | .byy l _ => (t.p.lookup l).isSome
  | .sink l _ => (t.p.lookup l).isSome
  | .rise l => (t.p.lookup l).isSome
  | .sell l _ _ => (t.p.lookup l).isSome
  | .owns _ o _ => (t.w.lookup o).isSome
  | _ => True
def sT (s : List (Nat × Nat)) : List (Str × Nat) := s.map fun x => (sgS x.1, x.2)
def sgD (c : Nat) : D := .str (sgS c)
theorem ag0 (c : Nat) : ∀ s : List (Nat × Nat), (sT s).lookup (sgS c) = s.lookup c
  | [] => rfl
  | (a, b) :: s => by
    show List.lookup (sgS c) ((sgS a, b) :: sT s) = _
    rw [List.lookup_cons, List.lookup_cons, ag0 c s]
    by_cases h : c = a
    · subst h
      rw [beq_self_eq_true, beq_self_eq_true]
    · rw [show (sgS c == sgS a) = false by simpa using fun z => h (ai6 z), show (c == a) = false by simpa using h]
theorem a5p {α β : Type} [BEq α] {m : List (α × β)} {k : α} (z : β) (h : (m.lookup k).isSome) : m.lookup k = some ((m.lookup k).getD z) := by
  show_term
  cases e : m.lookup k with
  | none => rw [e] at h; cases h
  | some y => rfl
structure TbOk (t : Tb) : Prop where
  nw : (t.w.map (·.1)).Nodup
  ns : (t.s.map (·.1)).Nodup
  np : (t.p.map (·.1)).Nodup
  wn : t.s.lookup 63 = none
theorem b08 {t : Tb} (h : TbOk t) : dcM [.tup (t.w.map w2D)] = some (dxD true D.str t.w) := b6y (o := false) (f := D.str) (fun _ => rfl) h.nw
theorem bi3 {t : Tb} (h : TbOk t) : dcM [.tup (t.s.map s2D)] = some (dxD true sgD (sT t.s)) := by
  show_term
  have := b6y (o := false) (f := sgD) (fun _ => rfl) (m := sT t.s) (by unfold sT; rw [List.map_map]; exact List.pairwise_map.mpr ((List.pairwise_map.mp h.ns).imp fun {a b} g e => g (ai6 e)))
  unfold sT at this
  rw [List.map_map] at this
  unfold sT
  exact this
theorem az6 {t : Tb} (h : TbOk t) : dcM [.tup (t.p.map rwD)] = some (dcD nI t.p) := b7c (f := nI) (fun _ => rfl) h.np
theorem b5h (z : Str) : z.length = z.cps.toList.length := by rw [Array.length_toList]; rfl
theorem b01 (cs : List Nat) : Txt.join (Str.ofString "") (cs.map sgS) = ⟨cs.toArray⟩ := by
  rw [TL.join_eq]
  exact PyProof.Rows.join_ones cs
theorem b6f (t : Tb) (z : Str) : (t.sg z).length = z.length := by
  show_term
  rw [b5h, b5h]
  unfold Tb.sg
  rw [List.length_map]
theorem aw0 (cs : List Nat) (hl : cs.length ≤ 1000000) {o : Bool} : ao1 (Str.ofString "") (.lst o (cs.map sgD)) = some (.str ⟨cs.toArray⟩) := by
  show_term
  have sm : ∀ cs : List Nat, ((cs.map sgS).map fun y : Str => y.length).sum = cs.length := fun cs => by
    induction cs with
    | nil => rfl
    | cons c cs ih => rw [List.map_cons, List.map_cons, List.sum_cons, ih, show (sgS c).length = 1 from rfl, List.length_cons]; omega
  have J := b3w (a := Str.ofString "") (o := o) (ys := cs.map sgS) (by rw [sm, show (Str.ofString "").length = 0 from rfl]; omega)
  rw [b01, List.map_map] at J
  exact J
def sgF (t : Tb) (d : D) : D := match d with | .str x => sgD (t.S (x.cps.toList.headD 0)) | _ => .non
theorem a9w {t : Tb} {z : Str} (hz : z.length ≤ 1000) {Q : D → List D → Prop} (k : Q (.str (t.sg z)) []) : WF (a2k [.str z, dxD false sgD (sT t.s)]) Q := by
  show_term
  unfold a2k a6e
  refine a2z (by simp [List.replicate]; rfl) ?_
  repeat tm_at "zs"
  refine a6d (sgF t) (by rw [List.length_map, ← b5h]; omega) ?_ ?_
  · intro d hd
    obtain ⟨c, hc, rfl⟩ := List.mem_map.mp hd
    have G : ab7 (dxD false sgD (sT t.s)) (sign c) (sign c) = some (sgD (t.S c)) := by
      have := b2u (b := false) (f := sgD) (m := sT t.s) (k := sgS c) (z := c) (fun _ => rfl)
      rw [ag0] at this
      exact this
    have so : owned (sign c) = false := rfl
    have sf : fr (sign c) = sign c := rfl
    have so2 : owned (sgD (t.S c)) = false := rfl
    repeat tm_at "zs"
    refine ⟨rfl, ?_⟩
    repeat tm_at "zs"
    rfl
  rw [List.map_map]
  refine tx (ρ' := [oD (.str z), oD (dxD false sgD (sT t.s)), none]) rfl ?_
  have J := aw0 (z.cps.toList.map t.S) (by rw [List.length_map, ← b5h]; omega) (o := true)
  rw [List.map_map] at J
  repeat tm_at "zs"
  refine ro J ?_
  repeat tm_at "zs"
  exact k
def dcZ {α : Type} (f : α → D) (m : List (Nat × α)) : D := .dic false false (m.map fun x => kN x.1) (m.map fun x => f x.2)
theorem b75 {α : Type} {f : α → D} {m : List (Nat × α)} {k : Nat} {y : α} (h : m.lookup k = some y) (ho : owned (f y) = false) : ixD (dcZ f m) (.int (k : Int)) = some (f y) := by
  show_term
  show unO (a0y (m.map fun x => kN x.1) (m.map fun x => f x.2) (kN k)) = _
  rw [a98, h]
  show (if owned (f y) = true then none else some (f y)) = _
  rw [ho]; rfl
theorem b77 {α : Type} {f : α → D} {m : List (Nat × α)} (ho : ∀ y, owned (f y) = false) : fr (dcD f m) = dcZ f m := bb7 ho
theorem ab2 {t : Tb} {l : Nat} (h : (t.p.lookup l).isSome) : ixD (dcZ nI t.p) (.int (l : Int)) = some (.int (t.L l : Int)) := b75 (f := nI) (a5p l h) rfl
theorem ap4 {t : Tb} {o : Str} (h : (t.w.lookup o).isSome) : ixD (dxD false D.str t.w) (.str o) = some (.str (t.W o)) := b0r (a5p o h) rfl
def bq1 (t : Tb) (d : D) : D := match d with | .str x => .str (t.sg x) | _ => .non
theorem b0k {t : Tb} {d : Deed} (hd : DrD d) (hc : t.cv d) {Q : D → List D → Prop} (k : Q (t.deed d).d []) : WF (a2b [d.d, dxD false D.str t.w, dxD false sgD (sT t.s), dcZ nI t.p]) Q := by
  show_term
  unfold a2b a3v
  refine a2z (by simp [List.replicate]; rfl) ?_
  cases d with
  | brand o b p =>
    simp only [Deed.d, Tb.deed] at k ⊢
    have IW := ap4 hc.1
    repeat tm_at "zs"
    refine a9w (Nat.le_trans hd.2.1.len (by decide)) ?_
    repeat tm_at "zs"
    exact k
  | drop o b p =>
    simp only [Deed.d, Tb.deed] at k ⊢
    have IW := ap4 hc.1
    repeat tm_at "zs"
    refine a9w (Nat.le_trans hd.2.1.len (by decide)) ?_
    repeat tm_at "zs"
    exact k
  | put l p st a b =>
    simp only [Deed.d, Tb.deed] at k ⊢
    have IL := ab2 hc.1
    have sl : (st.map D.str).length = st.length := List.length_map _
    have s3 := hd.2.2.1
    repeat tm_at "zs"
    refine a6d (bq1 t) (by omega) ?_ ?_
    · intro d dz
      obtain ⟨z, hz, rfl⟩ := List.mem_map.mp dz
      repeat tm_at "zs"
      refine a9w (Nat.le_trans (hd.2.2.2.1 z hz).len (by decide)) ?_
      repeat tm_at "zs"
      refine ⟨rfl, ?_⟩
      repeat tm_at "zs"
      rfl
    rw [List.map_map]
    refine tx (ρ' := [oD (.tup [.str "put", .int (l : Int), .int (p : Int), stD st, .int (a : Int), .int (b : Int)]), oD (dxD false D.str t.w), oD (dxD false sgD (sT t.s)), oD (dcZ nI t.p), oD (.str "put"), none, none]) rfl ?_
    have TU := v7 (o := true) (a2q (st.map t.sg))
    rw [List.map_map] at TU
    repeat tm_at "zs"
    refine ro TU ?_
    repeat tm_at "zs"
    have E : st.map (D.str ∘ t.sg) = (st.map t.sg).map .str := by rw [List.map_map]
    rw [E]
    exact k
  | byy l p =>
    simp only [Deed.d, Tb.deed] at k ⊢
    have IL := ab2 hc
    repeat tm_at "zs"
    exact k
  | sink l p =>
    simp only [Deed.d, Tb.deed] at k ⊢
    have IL := ab2 hc
    repeat tm_at "zs"
    exact k
  | rise l =>
    simp only [Deed.d, Tb.deed] at k ⊢
    have IL := ab2 hc
    repeat tm_at "zs"
    exact k
  | sell l p m =>
    simp only [Deed.d, Tb.deed] at k ⊢
    have IL := ab2 hc
    repeat tm_at "zs"
    exact k
  | jam p =>
    simp only [Deed.d, Tb.deed] at k ⊢
    repeat tm_at "zs"
    exact k
  | free p =>
    simp only [Deed.d, Tb.deed] at k ⊢
    repeat tm_at "zs"
    exact k
  | shut p =>
    simp only [Deed.d, Tb.deed] at k ⊢
    repeat tm_at "zs"
    exact k
  | opn p =>
    simp only [Deed.d, Tb.deed] at k ⊢
    repeat tm_at "zs"
    exact k
  | tally rs =>
    simp only [Deed.d, Tb.deed] at k ⊢
    repeat tm_at "zs"
    exact k
  | cost p m =>
    simp only [Deed.d, Tb.deed] at k ⊢
    repeat tm_at "zs"
    exact k
  | reckon  =>
    simp only [Deed.d, Tb.deed] at k ⊢
    repeat tm_at "zs"
    exact k
  | owns p o n =>
    simp only [Deed.d, Tb.deed] at k ⊢
    have IW := ap4 hc
    repeat tm_at "zs"
    exact k
theorem a8k {ps : List a2n} (h : ∀ x ∈ ps, Drn x) (hl : ps.length ≤ 1000) {o : Bool} : a5v [.lst o (ps.map pgD)] = some (.lst true ((a9z ps).map pgD)) := by
  show_term
  cases ps with
  | nil =>
    have e := av5 (ns := []) (o := o)
    rw [show sortI [] = [] by unfold sortI; simp] at e
    unfold a9z
    rw [List.mergeSort_nil]
    exact e
  | cons a t => exact am2 h hl (by simp)
def pgF (t : Tb) (h : Int) (d : D) : D := match d with | .tup [.int n, e] => .tup [.int (n + h), e] | _ => .non
theorem a5j {t : Tb} (T : TbOk t) {h : Int} {ps : List a2n} (hp : ∀ x ∈ ps, Drn x ∧ t.cv x.2 ∧ 0 ≤ (x.1 : Int) + h ∧ Drn (t.page h x)) (hl : ps.length ≤ 1000) (hh : -1000000 ≤ h ∧ h ≤ 1000000) {Q : D → List D → Prop} (k : Q (.tup ((a9z (ps.map (t.page h))).map pgD)) []) :
    WF (a2s [.tup (ps.map pgD), .tup (t.w.map w2D), .tup (t.s.map s2D), .tup (t.p.map rwD), .int h]) Q := by
  show_term
  have tw := b08 T
  have ts := bi3 T
  have tp := az6 T
  have f1 : fr (dxD true D.str t.w) = dxD false D.str t.w := b8f fun _ => rfl
  have f2 : fr (dxD true sgD (sT t.s)) = dxD false sgD (sT t.s) := b8f fun _ => rfl
  have f3 : fr (dcD nI t.p) = dcZ nI t.p := b77 fun _ => rfl
  unfold a2s a7z
  refine a2z (by simp [List.replicate]; rfl) ?_
  repeat tm_at "zs"
  have pll : (ps.map pgD).length = ps.length := List.length_map _
  refine a9c (enc := pgD) (xs := ps) (fun x => pgD (t.page h x)) (by omega) ?_ ?_
  · intro x hx
    obtain ⟨h1, h2, h3, h4⟩ := hp x hx
    have NO := Deed.own x.2
    have NO2 := Deed.own (t.deed x.2)
    have hb := h1.1
    show WC (a9a 2 _ (.tup [.int (x.1 : Int), x.2.d]) _) _
    repeat tm_at "zs"
    refine b0k h1.2 h2 ?_
    repeat tm_at "zs"
    refine ⟨?_, ?_⟩
    · show _ = D.tup [.int ((((x.1 : Int) + h).toNat : Nat) : Int), _]
      rw [Int.toNat_of_nonneg h3]
      rfl
    repeat tm_at "zs"
    rfl
  refine tx (ρ' := [oD (.tup (ps.map pgD)), oD (dxD false D.str t.w), oD (dxD false sgD (sT t.s)), oD (dcZ nI t.p), some (.own (.int h)), none, none]) rfl ?_
  have SX := a8k (o := true) (ps := ps.map (t.page h)) (fun x hx => by obtain ⟨y, hy, rfl⟩ := List.mem_map.mp hx; exact (hp y hy).2.2.2) (by rw [List.length_map]; omega)
  have E : (ps.map fun x => pgD (t.page h x)) = (ps.map (t.page h)).map pgD := by rw [List.map_map]; rfl
  rw [E]
  have TU := v7 (o := true) (a4y (a9z (ps.map (t.page h))))
  repeat tm_at "zs"
  exact k
theorem at9 {t : Tb} (T : TbOk t) {z : Str} (hz : z.length ≤ 1000) (hc : t.cz z) {Q : D → List D → Prop} (k : Q (.str (t.sg z)) []) : WF (a0m [.tup (t.s.map s2D), .str z]) Q := by
  show_term
  have ts := bi3 T
  unfold a0m a3i
  refine a2z (by simp [List.replicate]; rfl) ?_
  repeat tm_at "zs"
  refine a9c (enc := sign) (xs := z.cps.toList) (fun c => sgD (t.S c)) (by rw [← b5h]; omega) ?_ ?_
  · intro c hx
    have so : owned (sign c) = false := rfl
    have sf : fr (sign c) = sign c := rfl
    have so2 : owned (sgD (t.S c)) = false := rfl
    have NE : neD (sign c) (.str "?") = some (.bl (decide (c ≠ 63))) := by
      unfold sign
      simp
      exact ⟨fun e => ai6 (show sgS c = sgS 63 from e), fun e => e ▸ rfl⟩
    repeat tm_at "zs"
    refine ao4 (fun e => ?_) fun e => ?_
    · have IS : ixD (dxD true sgD (sT t.s)) (sign c) = some (sgD (t.S c)) := b0r (f := sgD) (show (sT t.s).lookup (sgS c) = _ by rw [ag0]; exact a5p c ((hc c hx).resolve_left e)) rfl
      repeat tm_at "zs"
      refine ⟨rfl, ?_⟩
      repeat tm_at "zs"
      rfl
    · have e : c = 63 := Classical.byContradiction e
      subst e
      have S63 : t.S 63 = 63 := by unfold Tb.S; rw [T.wn]; rfl
      repeat tm_at "zs"
      refine ⟨by rw [S63]; rfl, ?_⟩
      repeat tm_at "zs"
      rfl
  refine tx (ρ' := [oD (.tup (t.s.map s2D)), oD (.str z), oD (dxD true sgD (sT t.s)), none]) rfl ?_
  have J := aw0 (z.cps.toList.map t.S) (by rw [List.length_map, ← b5h]; omega) (o := true)
  rw [List.map_map] at J
  repeat tm_at "zs"
  refine ro J ?_
  repeat tm_at "zs"
  exact k
def Tb.rD (t : Tb) (h : Int) : D := .tup [.tup (t.w.map w2D), .tup (t.s.map s2D), .tup (t.p.map rwD), .int h]
theorem a3f {step : D → C} {ρ : Dv.Env} {P : Out → Prop} (h : P (.nx ρ)) : WC (a1h step [] ρ) P := by unfold WC; exact h
theorem a6a {step : D → C} {ds : List D} {d : D} {ρ : Dv.Env} {P : Out → Prop} (I : Dv.Env → Prop) (h : WC (step d ρ) (lq I P)) (k : ∀ ρ', I ρ' → WC (a1h step ds ρ') P) : WC (a1h step (d :: ds) ρ) P := by
  show_term
  unfold WC at h ⊢
  rw [loopC_cons]
  cases e : step d ρ with
  | nx ρ' => rw [e] at h; exact b92 (k ρ' h)
  | ct ρ' => rw [e] at h; exact b92 (k ρ' h)
  | bk ρ' => rw [e] at h; exact h
  | rt x ρ' => rw [e] at h; exact h
  | ex x ρ' => rw [e] at h; exact h
  | bad => rw [e] at h; exact h.elim
abbrev a1z : D → C := fun d => a09 (a9a 2 (a0f (putS 7) (a0f (putS 8) a5x)) d)
  (a09 (setC 9 (a1u (d9 (va (op2 ixD (va (op2 ixD (nmN 1) (va (cst (.int 1))))) (va (cst (.int 0))))) (d9 (va (rdN 7)) t8))))
  (a09 (ifC (tst (op2 inD (nmN 9) (va (a1u (d9 (va (a1u (d9 (va (cst (.str "brand"))) (d9 (va (cst (.int 1))) t8)))) (d9 (va (a1u (d9 (va (cst (.str "drop"))) (d9 (va (cst (.int 1))) t8)))) (d9 (va (a1u (d9 (va (cst (.str "owns"))) (d9 (va (cst (.int 2))) t8)))) t8))))))) (setC 8 (op2 ixD (va (a0e dcM (d9 (nmN 2) t8))) (nmN 8))) nxC)
  (a09 (ifC (tst (op2 inD (nmN 9) (va (a1u (d9 (va (a1u (d9 (va (cst (.str "brand"))) (d9 (va (cst (.int 2))) t8)))) (d9 (va (a1u (d9 (va (cst (.str "drop"))) (d9 (va (cst (.int 2))) t8)))) t8)))))) (setC 8 (callC [false, false] a0m (d9 (va (rdN 3)) (d9 (va (rdN 8)) t8)))) nxC)
  (a09 (ifC (tst (op2 eqD (nmN 9) (va (a1u (d9 (va (cst (.str "put"))) (d9 (va (cst (.int 3))) t8)))))) (setC 8 (a0e a2w (d9 (va (lcM (itD (rdN 8)) (putS 10) a8o (callC [false, false] a0m (d9 (va (rdN 3)) (d9 (va (rdN 10)) t8))) [10])) t8))) nxC)
  (a09 (ifC (andM (tst (op2 eqD (nmN 7) (va (cst (.int 1))))) (tst (op2 inD (va (op2 ixD (va (op2 ixD (nmN 1) (va (cst (.int 1))))) (va (cst (.int 0))))) (va (a1u (d9 (va (cst (.str "put"))) (d9 (va (cst (.str "by"))) (d9 (va (cst (.str "sink"))) (d9 (va (cst (.str "rise"))) (d9 (va (cst (.str "sell"))) t8)))))))))) (setC 8 (op2 ixD (va (a0e dcM (d9 (nmN 4) t8))) (nmN 8))) nxC)
  (b1i (ao7 6 (rdN 8))))))))
def lpE (t : Tb) (h : Int) (n : Int) (E : List D) (acc : List D) (x7 x8 x9 : Option Slot) : Dv.Env := [oD (t.rD h), oD (.tup [.int n, .tup E]), oD (.tup (t.w.map w2D)), oD (.tup (t.s.map s2D)), oD (.tup (t.p.map rwD)), oI h, oD (.lst true acc), x7, x8, x9, none]
theorem a73 {t : Tb} (T : TbOk t) {h n : Int} {E rest acc : List D} {w : Str} {k : Nat} {d : D} {x7 x8 x9 : Option Slot} {P : Out → Prop} (h7 : OwnS x7) (h8 : OwnS x8) (h9 : OwnS x9) (pa : a0d acc = true) (la : acc.length ≤ 20) (k7 : k ≤ 20) (W0 : ixD (.tup E) (.int 0) = some (.str w)) (po : owned d = false)
    (B1 : inD (.tup [.str w, .int (k : Int)]) (.tup [.tup [.str "brand", .int 1], .tup [.str "drop", .int 1], .tup [.str "owns", .int 2]]) = some (.bl false)) (B2 : inD (.tup [.str w, .int (k : Int)]) (.tup [.tup [.str "brand", .int 2], .tup [.str "drop", .int 2]]) = some (.bl false)) (B3 : eqD (.tup [.str w, .int (k : Int)]) (.tup [.str "put", .int 3]) = some (.bl false)) (B4 : k ≠ 1)
    (next : ∀ x7 x8 x9, OwnS x7 → OwnS x8 → OwnS x9 → WC (a1h a1z rest (lpE t h n E (acc ++ [d]) x7 x8 x9)) P) : WC (a1h a1z (.pr [.int (k : Int), d] :: rest) (lpE t h n E acc x7 x8 x9)) P := by
  show_term
  have tw := b08 T
  have tp := az6 T
  refine a6a (I := fun ρ' => ∃ x7 x8 x9, OwnS x7 ∧ OwnS x8 ∧ OwnS x9 ∧ ρ' = lpE t h n E (acc ++ [d]) x7 x8 x9) ?_ (fun ρ' ⟨x7, x8, x9, a, b, c, e⟩ => e ▸ next x7 x8 x9 a b c)
  unfold a1z lpE
  repeat tm_at "zs"
  exact ⟨_, _, _, .own _, .own _, .own _, rfl⟩
theorem b33 {t : Tb} (T : TbOk t) {h n : Int} {E rest acc : List D} {w : Str} {k : Nat} {d : D} {x7 x8 x9 : Option Slot} {P : Out → Prop} (h7 : OwnS x7) (h8 : OwnS x8) (h9 : OwnS x9) (pa : a0d acc = true) (la : acc.length ≤ 20) (k7 : k ≤ 20) (W0 : ixD (.tup E) (.int 0) = some (.str w)) (po : owned d = false)
    (B1 : inD (.tup [.str w, .int (k : Int)]) (.tup [.tup [.str "brand", .int 1], .tup [.str "drop", .int 1], .tup [.str "owns", .int 2]]) = some (.bl false)) (B2 : inD (.tup [.str w, .int (k : Int)]) (.tup [.tup [.str "brand", .int 2], .tup [.str "drop", .int 2]]) = some (.bl false)) (B3 : eqD (.tup [.str w, .int (k : Int)]) (.tup [.str "put", .int 3]) = some (.bl false)) (B4 : k = 1) (B5 : inD (.str w) (.tup [.str "put", .str "by", .str "sink", .str "rise", .str "sell"]) = some (.bl false))
    (next : ∀ x7 x8 x9, OwnS x7 → OwnS x8 → OwnS x9 → WC (a1h a1z rest (lpE t h n E (acc ++ [d]) x7 x8 x9)) P) : WC (a1h a1z (.pr [.int (k : Int), d] :: rest) (lpE t h n E acc x7 x8 x9)) P := by
  show_term
  have tw := b08 T
  have tp := az6 T
  refine a6a (I := fun ρ' => ∃ x7 x8 x9, OwnS x7 ∧ OwnS x8 ∧ OwnS x9 ∧ ρ' = lpE t h n E (acc ++ [d]) x7 x8 x9) ?_ (fun ρ' ⟨x7, x8, x9, a, b, c, e⟩ => e ▸ next x7 x8 x9 a b c)
  unfold a1z lpE
  repeat tm_at "zs"
  exact ⟨_, _, _, .own _, .own _, .own _, rfl⟩
theorem bp0 {t : Tb} (T : TbOk t) {h n : Int} {E rest acc : List D} {w : Str} {k : Nat} {x7 x8 x9 : Option Slot} {P : Out → Prop} (h7 : OwnS x7) (h8 : OwnS x8) (h9 : OwnS x9) (pa : a0d acc = true) (la : acc.length ≤ 20) (k7 : k ≤ 20) (W0 : ixD (.tup E) (.int 0) = some (.str w)) {o : Str} (ho : (t.w.lookup o).isSome)
    (B1 : inD (.tup [.str w, .int (k : Int)]) (.tup [.tup [.str "brand", .int 1], .tup [.str "drop", .int 1], .tup [.str "owns", .int 2]]) = some (.bl true)) (B2 : inD (.tup [.str w, .int (k : Int)]) (.tup [.tup [.str "brand", .int 2], .tup [.str "drop", .int 2]]) = some (.bl false)) (B3 : eqD (.tup [.str w, .int (k : Int)]) (.tup [.str "put", .int 3]) = some (.bl false)) (B4 : k ≠ 1)
    (next : ∀ x7 x8 x9, OwnS x7 → OwnS x8 → OwnS x9 → WC (a1h a1z rest (lpE t h n E (acc ++ [(.str (t.W o))]) x7 x8 x9)) P) : WC (a1h a1z (.pr [.int (k : Int), (.str o)] :: rest) (lpE t h n E acc x7 x8 x9)) P := by
  show_term
  have tw := b08 T
  have tp := az6 T
  have IW : ixD (dxD true D.str t.w) (.str o) = some (.str (t.W o)) := b0r (a5p o ho) rfl
  refine a6a (I := fun ρ' => ∃ x7 x8 x9, OwnS x7 ∧ OwnS x8 ∧ OwnS x9 ∧ ρ' = lpE t h n E (acc ++ [(.str (t.W o))]) x7 x8 x9) ?_ (fun ρ' ⟨x7, x8, x9, a, b, c, e⟩ => e ▸ next x7 x8 x9 a b c)
  unfold a1z lpE
  repeat tm_at "zs"
  exact ⟨_, _, _, .own _, .own _, .own _, rfl⟩
theorem bf9 {t : Tb} (T : TbOk t) {h n : Int} {E rest acc : List D} {w : Str} {k : Nat} {x7 x8 x9 : Option Slot} {P : Out → Prop} (h7 : OwnS x7) (h8 : OwnS x8) (h9 : OwnS x9) (pa : a0d acc = true) (la : acc.length ≤ 20) (k7 : k ≤ 20) (W0 : ixD (.tup E) (.int 0) = some (.str w)) {o : Str} (ho : (t.w.lookup o).isSome)
    (B1 : inD (.tup [.str w, .int (k : Int)]) (.tup [.tup [.str "brand", .int 1], .tup [.str "drop", .int 1], .tup [.str "owns", .int 2]]) = some (.bl true)) (B2 : inD (.tup [.str w, .int (k : Int)]) (.tup [.tup [.str "brand", .int 2], .tup [.str "drop", .int 2]]) = some (.bl false)) (B3 : eqD (.tup [.str w, .int (k : Int)]) (.tup [.str "put", .int 3]) = some (.bl false)) (B4 : k = 1) (B5 : inD (.str w) (.tup [.str "put", .str "by", .str "sink", .str "rise", .str "sell"]) = some (.bl false))
    (next : ∀ x7 x8 x9, OwnS x7 → OwnS x8 → OwnS x9 → WC (a1h a1z rest (lpE t h n E (acc ++ [(.str (t.W o))]) x7 x8 x9)) P) : WC (a1h a1z (.pr [.int (k : Int), (.str o)] :: rest) (lpE t h n E acc x7 x8 x9)) P := by
  show_term
  have tw := b08 T
  have tp := az6 T
  have IW : ixD (dxD true D.str t.w) (.str o) = some (.str (t.W o)) := b0r (a5p o ho) rfl
  refine a6a (I := fun ρ' => ∃ x7 x8 x9, OwnS x7 ∧ OwnS x8 ∧ OwnS x9 ∧ ρ' = lpE t h n E (acc ++ [(.str (t.W o))]) x7 x8 x9) ?_ (fun ρ' ⟨x7, x8, x9, a, b, c, e⟩ => e ▸ next x7 x8 x9 a b c)
  unfold a1z lpE
  repeat tm_at "zs"
  exact ⟨_, _, _, .own _, .own _, .own _, rfl⟩
theorem bg4 {t : Tb} (T : TbOk t) {h n : Int} {E rest acc : List D} {w : Str} {k : Nat} {x7 x8 x9 : Option Slot} {P : Out → Prop} (h7 : OwnS x7) (h8 : OwnS x8) (h9 : OwnS x9) (pa : a0d acc = true) (la : acc.length ≤ 20) (k7 : k ≤ 20) (W0 : ixD (.tup E) (.int 0) = some (.str w)) {z : Str} (hz : z.length ≤ 1000) (cz : t.cz z)
    (B1 : inD (.tup [.str w, .int (k : Int)]) (.tup [.tup [.str "brand", .int 1], .tup [.str "drop", .int 1], .tup [.str "owns", .int 2]]) = some (.bl false)) (B2 : inD (.tup [.str w, .int (k : Int)]) (.tup [.tup [.str "brand", .int 2], .tup [.str "drop", .int 2]]) = some (.bl true)) (B3 : eqD (.tup [.str w, .int (k : Int)]) (.tup [.str "put", .int 3]) = some (.bl false)) (B4 : k ≠ 1)
    (next : ∀ x7 x8 x9, OwnS x7 → OwnS x8 → OwnS x9 → WC (a1h a1z rest (lpE t h n E (acc ++ [(.str (t.sg z))]) x7 x8 x9)) P) : WC (a1h a1z (.pr [.int (k : Int), (.str z)] :: rest) (lpE t h n E acc x7 x8 x9)) P := by
  show_term
  have tw := b08 T
  have tp := az6 T
  refine a6a (I := fun ρ' => ∃ x7 x8 x9, OwnS x7 ∧ OwnS x8 ∧ OwnS x9 ∧ ρ' = lpE t h n E (acc ++ [(.str (t.sg z))]) x7 x8 x9) ?_ (fun ρ' ⟨x7, x8, x9, a, b, c, e⟩ => e ▸ next x7 x8 x9 a b c)
  unfold a1z lpE
  repeat tm_at "zs"
  refine at9 T hz cz ?_
  repeat tm_at "zs"
  exact ⟨_, _, _, .own _, .own _, .own _, rfl⟩
theorem bk6 {t : Tb} (T : TbOk t) {h n : Int} {E rest acc : List D} {w : Str} {k : Nat} {x7 x8 x9 : Option Slot} {P : Out → Prop} (h7 : OwnS x7) (h8 : OwnS x8) (h9 : OwnS x9) (pa : a0d acc = true) (la : acc.length ≤ 20) (k7 : k ≤ 20) (W0 : ixD (.tup E) (.int 0) = some (.str w)) {st : List Str} (hl : st.length ≤ 1000) (hz : ∀ z ∈ st, z.length ≤ 1000 ∧ t.cz z)
    (B1 : inD (.tup [.str w, .int (k : Int)]) (.tup [.tup [.str "brand", .int 1], .tup [.str "drop", .int 1], .tup [.str "owns", .int 2]]) = some (.bl false)) (B2 : inD (.tup [.str w, .int (k : Int)]) (.tup [.tup [.str "brand", .int 2], .tup [.str "drop", .int 2]]) = some (.bl false)) (B3 : eqD (.tup [.str w, .int (k : Int)]) (.tup [.str "put", .int 3]) = some (.bl true)) (B4 : k ≠ 1)
    (next : ∀ x7 x8 x9, OwnS x7 → OwnS x8 → OwnS x9 → WC (a1h a1z rest (lpE t h n E (acc ++ [(stD (st.map t.sg))]) x7 x8 x9)) P) : WC (a1h a1z (.pr [.int (k : Int), (stD st)] :: rest) (lpE t h n E acc x7 x8 x9)) P := by
  show_term
  have tw := b08 T
  have tp := az6 T
  refine a6a (I := fun ρ' => ∃ x7 x8 x9, OwnS x7 ∧ OwnS x8 ∧ OwnS x9 ∧ ρ' = lpE t h n E (acc ++ [(stD (st.map t.sg))]) x7 x8 x9) ?_ (fun ρ' ⟨x7, x8, x9, a, b, c, e⟩ => e ▸ next x7 x8 x9 a b c)
  unfold a1z lpE
  repeat tm_at "zs"
  refine a9c (enc := D.str) (xs := st) (fun z => .str (t.sg z)) (by omega) ?_ ?_
  · intro z hx
    repeat tm_at "zs"
    refine at9 T (hz z hx).1 (hz z hx).2 ?_
    repeat tm_at "zs"
    refine ⟨rfl, ?_⟩
    repeat tm_at "zs"
    rfl
  rw [show (st.map fun z => D.str (t.sg z)) = (st.map t.sg).map .str by rw [List.map_map]; rfl]
  refine tx (ρ' := [oD (t.rD h), oD (.tup [.int n, .tup E]), oD (.tup (t.w.map w2D)), oD (.tup (t.s.map s2D)), oD (.tup (t.p.map rwD)), oI h, oD (.lst true acc), some (.own (.int (k : Int))), some (.own (stD st)), some (.own (.tup [.str w, .int (k : Int)])), none]) rfl ?_
  have TU := v7 (o := true) (a2q (st.map t.sg))
  repeat tm_at "zs"
  exact ⟨_, _, _, .own _, .own _, .own _, rfl⟩
theorem b8q {t : Tb} (T : TbOk t) {h n : Int} {E rest acc : List D} {w : Str} {k : Nat} {x7 x8 x9 : Option Slot} {P : Out → Prop} (h7 : OwnS x7) (h8 : OwnS x8) (h9 : OwnS x9) (pa : a0d acc = true) (la : acc.length ≤ 20) (k7 : k ≤ 20) (W0 : ixD (.tup E) (.int 0) = some (.str w)) {l : Nat} (hl : (t.p.lookup l).isSome)
    (B1 : inD (.tup [.str w, .int (k : Int)]) (.tup [.tup [.str "brand", .int 1], .tup [.str "drop", .int 1], .tup [.str "owns", .int 2]]) = some (.bl false)) (B2 : inD (.tup [.str w, .int (k : Int)]) (.tup [.tup [.str "brand", .int 2], .tup [.str "drop", .int 2]]) = some (.bl false)) (B3 : eqD (.tup [.str w, .int (k : Int)]) (.tup [.str "put", .int 3]) = some (.bl false)) (B4 : k = 1) (B5 : inD (.str w) (.tup [.str "put", .str "by", .str "sink", .str "rise", .str "sell"]) = some (.bl true))
    (next : ∀ x7 x8 x9, OwnS x7 → OwnS x8 → OwnS x9 → WC (a1h a1z rest (lpE t h n E (acc ++ [(.int (t.L l : Int))]) x7 x8 x9)) P) : WC (a1h a1z (.pr [.int (k : Int), (.int (l : Int))] :: rest) (lpE t h n E acc x7 x8 x9)) P := by
  show_term
  have tw := b08 T
  have tp := az6 T
  have IL : ixD (dcD nI t.p) (.int (l : Int)) = some (.int (t.L l : Int)) := b43 (f := nI) (a5p l hl) rfl
  refine a6a (I := fun ρ' => ∃ x7 x8 x9, OwnS x7 ∧ OwnS x8 ∧ OwnS x9 ∧ ρ' = lpE t h n E (acc ++ [(.int (t.L l : Int))]) x7 x8 x9) ?_ (fun ρ' ⟨x7, x8, x9, a, b, c, e⟩ => e ▸ next x7 x8 x9 a b c)
  unfold a1z lpE
  repeat tm_at "zs"
  exact ⟨_, _, _, .own _, .own _, .own _, rfl⟩
def wiD (x : Str × Int) : D := .tup [.str x.1, .int x.2]
theorem EqC.wi : EqC (fun x : Str × Int => PyData.strOk x.1 = true ∧ bd7 x.2) wiD 1 := EqC.pair EqC.str EqC.int
theorem b9o {x y : Str × Int} (hx : Tx x.1 9) (hy : Tx y.1 9) {b : Bool} (e : decide (x = y) = b) : eqD (wiD x) (wiD y) = some (.bl b) := by
  rw [← e]
  exact (b29 EqC.wi (by decide) ⟨hx.ok, trivial⟩ ⟨hy.ok, trivial⟩ (.inl rfl)).trans (by congr)
theorem b7m {x : Str × Int} {xs : List (Str × Int)} (hx : Tx x.1 9) (hs : ∀ y ∈ xs, Tx y.1 9) {b : Bool} (e : decide (x ∈ xs) = b) : inD (wiD x) (.tup (xs.map wiD)) = some (.bl b) := by
  show_term
  obtain ⟨p, e1, s⟩ := EqC.wi.py x ⟨hx.ok, trivial⟩
  obtain ⟨ps, e2, s2⟩ := EqC.wi.pyL xs fun y hy => ⟨(hs y hy).ok, trivial⟩
  have : inT (wiD x) (xs.map wiD) = some b := by
    unfold inT
    simp only [e1, e2, if_pos (And.intro (s.shaped (by omega)) ((Lays.lst s2).shaped (by omega)))]
    rw [af0 EqC.wi ⟨hx.ok, trivial⟩ e1 xs ps (fun y hy => ⟨(hs y hy).ok, trivial⟩) e2, ← e]
    congr
  show (match inT (wiD x) (xs.map wiD) with | some b => some (D.bl b) | none => none) = _
  rw [this]
def b99 : List (Str × Int) := [("brand", 1), ("drop", 1), ("owns", 2)]
def b9i : List (Str × Int) := [("brand", 2), ("drop", 2)]
theorem b5k : ∀ y ∈ b99, Tx y.1 9 := fun y hy => by
  unfold b99 at hy
  simp only [List.mem_cons, List.not_mem_nil, or_false] at hy
  rcases hy with rfl | rfl | rfl <;> exact Tx.of _ (by decide)
theorem b71 : ∀ y ∈ b9i, Tx y.1 9 := fun y hy => by
  unfold b9i at hy
  simp only [List.mem_cons, List.not_mem_nil, or_false] at hy
  rcases hy with rfl | rfl <;> exact Tx.of _ (by decide)
theorem a3q {w : Str} (hw : Tx w 9) {k : Nat} {b : Bool} (e : decide ((w, (k : Int)) ∈ b99) = b) : inD (.tup [.str w, .int (k : Int)]) (.tup [.tup [.str "brand", .int 1], .tup [.str "drop", .int 1], .tup [.str "owns", .int 2]]) = some (.bl b) := b7m (x := (w, (k : Int))) (xs := b99) hw b5k e
theorem a3r {w : Str} (hw : Tx w 9) {k : Nat} {b : Bool} (e : decide ((w, (k : Int)) ∈ b9i) = b) : inD (.tup [.str w, .int (k : Int)]) (.tup [.tup [.str "brand", .int 2], .tup [.str "drop", .int 2]]) = some (.bl b) := b7m (x := (w, (k : Int))) (xs := b9i) hw b71 e
theorem a3u {w : Str} (hw : Tx w 9) {k : Nat} {b : Bool} (e : decide ((w, (k : Int)) = (("put" : Str), (3 : Int))) = b) : eqD (.tup [.str w, .int (k : Int)]) (.tup [.str "put", .int 3]) = some (.bl b) := b9o (x := (w, (k : Int))) (y := (("put" : Str), (3 : Int))) hw (Tx.of _ (by decide)) e
theorem b30 {t : Tb} (T : TbOk t) {h : Int} {x : a2n} (hp : Drn x) (hc : t.cv x.2) (h0 : 0 ≤ (x.1 : Int) + h) (hh : -1000000 ≤ h ∧ h ≤ 1000000) {Q : D → List D → Prop} (k : Q (pgD (t.page h x)) []) : WF (a1x [t.rD h, pgD x]) Q := by
  show_term
  have tw := b08 T
  have tp := az6 T
  obtain ⟨n, d⟩ := x
  unfold a1x a3z
  refine a2z (by simp [List.replicate]; rfl) ?_
  unfold pgD Tb.rD
  unfold Tb.page pgD at k
  simp only [] at *
  rw [Int.toNat_of_nonneg h0] at k
  cases d with
  | brand o b p =>
    simp only [Deed.d, Tb.deed] at k ⊢
    repeat tm_at "zs"
    refine a73 T (k := 0) .none .none .none rfl (Nat.le_of_ble_eq_true rfl) (by decide) rfl rfl (a3q (Tx.of _ (by decide)) rfl) (a3r (Tx.of _ (by decide)) rfl) (a3u (Tx.of _ (by decide)) rfl) (by decide) fun x7 x8 x9 h7 h8 h9 => ?_
    refine bf9 T (k := 1) h7 h8 h9 rfl (Nat.le_of_ble_eq_true rfl) (by decide) rfl hc.1 (a3q (Tx.of _ (by decide)) rfl) (a3r (Tx.of _ (by decide)) rfl) (a3u (Tx.of _ (by decide)) rfl) rfl rfl fun x7 x8 x9 h7 h8 h9 => ?_
    refine bg4 T (k := 2) h7 h8 h9 rfl (Nat.le_of_ble_eq_true rfl) (by decide) rfl (Nat.le_trans hp.2.2.1.len (by decide)) hc.2 (a3q (Tx.of _ (by decide)) rfl) (a3r (Tx.of _ (by decide)) rfl) (a3u (Tx.of _ (by decide)) rfl) (by decide) fun x7 x8 x9 h7 h8 h9 => ?_
    refine a73 T (k := 3) h7 h8 h9 rfl (Nat.le_of_ble_eq_true rfl) (by decide) rfl rfl (a3q (Tx.of _ (by decide)) rfl) (a3r (Tx.of _ (by decide)) rfl) (a3u (Tx.of _ (by decide)) rfl) (by decide) fun x7 x8 x9 h7 h8 h9 => ?_
    simp only [List.nil_append, List.cons_append]
    unfold lpE
    refine a3f ?_
    repeat tm_at "zs"
    refine ro (v7 (o := true) rfl) ?_
    repeat tm_at "zs"
    exact k
  | drop o b p =>
    simp only [Deed.d, Tb.deed] at k ⊢
    repeat tm_at "zs"
    refine a73 T (k := 0) .none .none .none rfl (Nat.le_of_ble_eq_true rfl) (by decide) rfl rfl (a3q (Tx.of _ (by decide)) rfl) (a3r (Tx.of _ (by decide)) rfl) (a3u (Tx.of _ (by decide)) rfl) (by decide) fun x7 x8 x9 h7 h8 h9 => ?_
    refine bf9 T (k := 1) h7 h8 h9 rfl (Nat.le_of_ble_eq_true rfl) (by decide) rfl hc.1 (a3q (Tx.of _ (by decide)) rfl) (a3r (Tx.of _ (by decide)) rfl) (a3u (Tx.of _ (by decide)) rfl) rfl rfl fun x7 x8 x9 h7 h8 h9 => ?_
    refine bg4 T (k := 2) h7 h8 h9 rfl (Nat.le_of_ble_eq_true rfl) (by decide) rfl (Nat.le_trans hp.2.2.1.len (by decide)) hc.2 (a3q (Tx.of _ (by decide)) rfl) (a3r (Tx.of _ (by decide)) rfl) (a3u (Tx.of _ (by decide)) rfl) (by decide) fun x7 x8 x9 h7 h8 h9 => ?_
    refine a73 T (k := 3) h7 h8 h9 rfl (Nat.le_of_ble_eq_true rfl) (by decide) rfl rfl (a3q (Tx.of _ (by decide)) rfl) (a3r (Tx.of _ (by decide)) rfl) (a3u (Tx.of _ (by decide)) rfl) (by decide) fun x7 x8 x9 h7 h8 h9 => ?_
    simp only [List.nil_append, List.cons_append]
    unfold lpE
    refine a3f ?_
    repeat tm_at "zs"
    refine ro (v7 (o := true) rfl) ?_
    repeat tm_at "zs"
    exact k
  | put l p st a b =>
    simp only [Deed.d, Tb.deed] at k ⊢
    repeat tm_at "zs"
    refine a73 T (k := 0) .none .none .none rfl (Nat.le_of_ble_eq_true rfl) (by decide) rfl rfl (a3q (Tx.of _ (by decide)) rfl) (a3r (Tx.of _ (by decide)) rfl) (a3u (Tx.of _ (by decide)) rfl) (by decide) fun x7 x8 x9 h7 h8 h9 => ?_
    refine b8q T (k := 1) h7 h8 h9 rfl (Nat.le_of_ble_eq_true rfl) (by decide) rfl hc.1 (a3q (Tx.of _ (by decide)) rfl) (a3r (Tx.of _ (by decide)) rfl) (a3u (Tx.of _ (by decide)) rfl) rfl rfl fun x7 x8 x9 h7 h8 h9 => ?_
    refine a73 T (k := 2) h7 h8 h9 rfl (Nat.le_of_ble_eq_true rfl) (by decide) rfl rfl (a3q (Tx.of _ (by decide)) rfl) (a3r (Tx.of _ (by decide)) rfl) (a3u (Tx.of _ (by decide)) rfl) (by decide) fun x7 x8 x9 h7 h8 h9 => ?_
    refine bk6 T (k := 3) h7 h8 h9 rfl (Nat.le_of_ble_eq_true rfl) (by decide) rfl (Nat.le_trans hp.2.2.2.1 (by decide)) (fun z hz => ⟨Nat.le_trans (hp.2.2.2.2.1 z hz).len (by decide), hc.2 z hz⟩) (a3q (Tx.of _ (by decide)) rfl) (a3r (Tx.of _ (by decide)) rfl) (a3u (Tx.of _ (by decide)) rfl) (by decide) fun x7 x8 x9 h7 h8 h9 => ?_
    refine a73 T (k := 4) h7 h8 h9 rfl (Nat.le_of_ble_eq_true rfl) (by decide) rfl rfl (a3q (Tx.of _ (by decide)) rfl) (a3r (Tx.of _ (by decide)) rfl) (a3u (Tx.of _ (by decide)) rfl) (by decide) fun x7 x8 x9 h7 h8 h9 => ?_
    refine a73 T (k := 5) h7 h8 h9 rfl (Nat.le_of_ble_eq_true rfl) (by decide) rfl rfl (a3q (Tx.of _ (by decide)) rfl) (a3r (Tx.of _ (by decide)) rfl) (a3u (Tx.of _ (by decide)) rfl) (by decide) fun x7 x8 x9 h7 h8 h9 => ?_
    simp only [List.nil_append, List.cons_append]
    unfold lpE
    refine a3f ?_
    repeat tm_at "zs"
    refine ro (v7 (o := true) rfl) ?_
    repeat tm_at "zs"
    exact k
  | byy l p =>
    simp only [Deed.d, Tb.deed] at k ⊢
    repeat tm_at "zs"
    refine a73 T (k := 0) .none .none .none rfl (Nat.le_of_ble_eq_true rfl) (by decide) rfl rfl (a3q (Tx.of _ (by decide)) rfl) (a3r (Tx.of _ (by decide)) rfl) (a3u (Tx.of _ (by decide)) rfl) (by decide) fun x7 x8 x9 h7 h8 h9 => ?_
    refine b8q T (k := 1) h7 h8 h9 rfl (Nat.le_of_ble_eq_true rfl) (by decide) rfl hc (a3q (Tx.of _ (by decide)) rfl) (a3r (Tx.of _ (by decide)) rfl) (a3u (Tx.of _ (by decide)) rfl) rfl rfl fun x7 x8 x9 h7 h8 h9 => ?_
    refine a73 T (k := 2) h7 h8 h9 rfl (Nat.le_of_ble_eq_true rfl) (by decide) rfl rfl (a3q (Tx.of _ (by decide)) rfl) (a3r (Tx.of _ (by decide)) rfl) (a3u (Tx.of _ (by decide)) rfl) (by decide) fun x7 x8 x9 h7 h8 h9 => ?_
    simp only [List.nil_append, List.cons_append]
    unfold lpE
    refine a3f ?_
    repeat tm_at "zs"
    refine ro (v7 (o := true) rfl) ?_
    repeat tm_at "zs"
    exact k
  | sink l p =>
    simp only [Deed.d, Tb.deed] at k ⊢
    repeat tm_at "zs"
    refine a73 T (k := 0) .none .none .none rfl (Nat.le_of_ble_eq_true rfl) (by decide) rfl rfl (a3q (Tx.of _ (by decide)) rfl) (a3r (Tx.of _ (by decide)) rfl) (a3u (Tx.of _ (by decide)) rfl) (by decide) fun x7 x8 x9 h7 h8 h9 => ?_
    refine b8q T (k := 1) h7 h8 h9 rfl (Nat.le_of_ble_eq_true rfl) (by decide) rfl hc (a3q (Tx.of _ (by decide)) rfl) (a3r (Tx.of _ (by decide)) rfl) (a3u (Tx.of _ (by decide)) rfl) rfl rfl fun x7 x8 x9 h7 h8 h9 => ?_
    refine a73 T (k := 2) h7 h8 h9 rfl (Nat.le_of_ble_eq_true rfl) (by decide) rfl rfl (a3q (Tx.of _ (by decide)) rfl) (a3r (Tx.of _ (by decide)) rfl) (a3u (Tx.of _ (by decide)) rfl) (by decide) fun x7 x8 x9 h7 h8 h9 => ?_
    simp only [List.nil_append, List.cons_append]
    unfold lpE
    refine a3f ?_
    repeat tm_at "zs"
    refine ro (v7 (o := true) rfl) ?_
    repeat tm_at "zs"
    exact k
  | rise l =>
    simp only [Deed.d, Tb.deed] at k ⊢
    repeat tm_at "zs"
    refine a73 T (k := 0) .none .none .none rfl (Nat.le_of_ble_eq_true rfl) (by decide) rfl rfl (a3q (Tx.of _ (by decide)) rfl) (a3r (Tx.of _ (by decide)) rfl) (a3u (Tx.of _ (by decide)) rfl) (by decide) fun x7 x8 x9 h7 h8 h9 => ?_
    refine b8q T (k := 1) h7 h8 h9 rfl (Nat.le_of_ble_eq_true rfl) (by decide) rfl hc (a3q (Tx.of _ (by decide)) rfl) (a3r (Tx.of _ (by decide)) rfl) (a3u (Tx.of _ (by decide)) rfl) rfl rfl fun x7 x8 x9 h7 h8 h9 => ?_
    simp only [List.nil_append, List.cons_append]
    unfold lpE
    refine a3f ?_
    repeat tm_at "zs"
    refine ro (v7 (o := true) rfl) ?_
    repeat tm_at "zs"
    exact k
  | sell l p m =>
    simp only [Deed.d, Tb.deed] at k ⊢
    repeat tm_at "zs"
    refine a73 T (k := 0) .none .none .none rfl (Nat.le_of_ble_eq_true rfl) (by decide) rfl rfl (a3q (Tx.of _ (by decide)) rfl) (a3r (Tx.of _ (by decide)) rfl) (a3u (Tx.of _ (by decide)) rfl) (by decide) fun x7 x8 x9 h7 h8 h9 => ?_
    refine b8q T (k := 1) h7 h8 h9 rfl (Nat.le_of_ble_eq_true rfl) (by decide) rfl hc (a3q (Tx.of _ (by decide)) rfl) (a3r (Tx.of _ (by decide)) rfl) (a3u (Tx.of _ (by decide)) rfl) rfl rfl fun x7 x8 x9 h7 h8 h9 => ?_
    refine a73 T (k := 2) h7 h8 h9 rfl (Nat.le_of_ble_eq_true rfl) (by decide) rfl rfl (a3q (Tx.of _ (by decide)) rfl) (a3r (Tx.of _ (by decide)) rfl) (a3u (Tx.of _ (by decide)) rfl) (by decide) fun x7 x8 x9 h7 h8 h9 => ?_
    refine a73 T (k := 3) h7 h8 h9 rfl (Nat.le_of_ble_eq_true rfl) (by decide) rfl rfl (a3q (Tx.of _ (by decide)) rfl) (a3r (Tx.of _ (by decide)) rfl) (a3u (Tx.of _ (by decide)) rfl) (by decide) fun x7 x8 x9 h7 h8 h9 => ?_
    simp only [List.nil_append, List.cons_append]
    unfold lpE
    refine a3f ?_
    repeat tm_at "zs"
    refine ro (v7 (o := true) rfl) ?_
    repeat tm_at "zs"
    exact k
  | jam p =>
    simp only [Deed.d, Tb.deed] at k ⊢
    repeat tm_at "zs"
    refine a73 T (k := 0) .none .none .none rfl (Nat.le_of_ble_eq_true rfl) (by decide) rfl rfl (a3q (Tx.of _ (by decide)) rfl) (a3r (Tx.of _ (by decide)) rfl) (a3u (Tx.of _ (by decide)) rfl) (by decide) fun x7 x8 x9 h7 h8 h9 => ?_
    refine b33 T (k := 1) h7 h8 h9 rfl (Nat.le_of_ble_eq_true rfl) (by decide) rfl rfl (a3q (Tx.of _ (by decide)) rfl) (a3r (Tx.of _ (by decide)) rfl) (a3u (Tx.of _ (by decide)) rfl) rfl rfl fun x7 x8 x9 h7 h8 h9 => ?_
    simp only [List.nil_append, List.cons_append]
    unfold lpE
    refine a3f ?_
    repeat tm_at "zs"
    refine ro (v7 (o := true) rfl) ?_
    repeat tm_at "zs"
    exact k
  | free p =>
    simp only [Deed.d, Tb.deed] at k ⊢
    repeat tm_at "zs"
    refine a73 T (k := 0) .none .none .none rfl (Nat.le_of_ble_eq_true rfl) (by decide) rfl rfl (a3q (Tx.of _ (by decide)) rfl) (a3r (Tx.of _ (by decide)) rfl) (a3u (Tx.of _ (by decide)) rfl) (by decide) fun x7 x8 x9 h7 h8 h9 => ?_
    refine b33 T (k := 1) h7 h8 h9 rfl (Nat.le_of_ble_eq_true rfl) (by decide) rfl rfl (a3q (Tx.of _ (by decide)) rfl) (a3r (Tx.of _ (by decide)) rfl) (a3u (Tx.of _ (by decide)) rfl) rfl rfl fun x7 x8 x9 h7 h8 h9 => ?_
    simp only [List.nil_append, List.cons_append]
    unfold lpE
    refine a3f ?_
    repeat tm_at "zs"
    refine ro (v7 (o := true) rfl) ?_
    repeat tm_at "zs"
    exact k
  | shut p =>
    simp only [Deed.d, Tb.deed] at k ⊢
    repeat tm_at "zs"
    refine a73 T (k := 0) .none .none .none rfl (Nat.le_of_ble_eq_true rfl) (by decide) rfl rfl (a3q (Tx.of _ (by decide)) rfl) (a3r (Tx.of _ (by decide)) rfl) (a3u (Tx.of _ (by decide)) rfl) (by decide) fun x7 x8 x9 h7 h8 h9 => ?_
    refine b33 T (k := 1) h7 h8 h9 rfl (Nat.le_of_ble_eq_true rfl) (by decide) rfl rfl (a3q (Tx.of _ (by decide)) rfl) (a3r (Tx.of _ (by decide)) rfl) (a3u (Tx.of _ (by decide)) rfl) rfl rfl fun x7 x8 x9 h7 h8 h9 => ?_
    simp only [List.nil_append, List.cons_append]
    unfold lpE
    refine a3f ?_
    repeat tm_at "zs"
    refine ro (v7 (o := true) rfl) ?_
    repeat tm_at "zs"
    exact k
  | opn p =>
    simp only [Deed.d, Tb.deed] at k ⊢
    repeat tm_at "zs"
    refine a73 T (k := 0) .none .none .none rfl (Nat.le_of_ble_eq_true rfl) (by decide) rfl rfl (a3q (Tx.of _ (by decide)) rfl) (a3r (Tx.of _ (by decide)) rfl) (a3u (Tx.of _ (by decide)) rfl) (by decide) fun x7 x8 x9 h7 h8 h9 => ?_
    refine b33 T (k := 1) h7 h8 h9 rfl (Nat.le_of_ble_eq_true rfl) (by decide) rfl rfl (a3q (Tx.of _ (by decide)) rfl) (a3r (Tx.of _ (by decide)) rfl) (a3u (Tx.of _ (by decide)) rfl) rfl rfl fun x7 x8 x9 h7 h8 h9 => ?_
    simp only [List.nil_append, List.cons_append]
    unfold lpE
    refine a3f ?_
    repeat tm_at "zs"
    refine ro (v7 (o := true) rfl) ?_
    repeat tm_at "zs"
    exact k
  | tally rs =>
    simp only [Deed.d, Tb.deed] at k ⊢
    repeat tm_at "zs"
    refine a73 T (k := 0) .none .none .none rfl (Nat.le_of_ble_eq_true rfl) (by decide) rfl rfl (a3q (Tx.of _ (by decide)) rfl) (a3r (Tx.of _ (by decide)) rfl) (a3u (Tx.of _ (by decide)) rfl) (by decide) fun x7 x8 x9 h7 h8 h9 => ?_
    refine b33 T (k := 1) h7 h8 h9 rfl (Nat.le_of_ble_eq_true rfl) (by decide) rfl rfl (a3q (Tx.of _ (by decide)) rfl) (a3r (Tx.of _ (by decide)) rfl) (a3u (Tx.of _ (by decide)) rfl) rfl rfl fun x7 x8 x9 h7 h8 h9 => ?_
    simp only [List.nil_append, List.cons_append]
    unfold lpE
    refine a3f ?_
    repeat tm_at "zs"
    refine ro (v7 (o := true) rfl) ?_
    repeat tm_at "zs"
    exact k
  | owns p o n =>
    simp only [Deed.d, Tb.deed] at k ⊢
    repeat tm_at "zs"
    refine a73 T (k := 0) .none .none .none rfl (Nat.le_of_ble_eq_true rfl) (by decide) rfl rfl (a3q (Tx.of _ (by decide)) rfl) (a3r (Tx.of _ (by decide)) rfl) (a3u (Tx.of _ (by decide)) rfl) (by decide) fun x7 x8 x9 h7 h8 h9 => ?_
    refine b33 T (k := 1) h7 h8 h9 rfl (Nat.le_of_ble_eq_true rfl) (by decide) rfl rfl (a3q (Tx.of _ (by decide)) rfl) (a3r (Tx.of _ (by decide)) rfl) (a3u (Tx.of _ (by decide)) rfl) rfl rfl fun x7 x8 x9 h7 h8 h9 => ?_
    refine bp0 T (k := 2) h7 h8 h9 rfl (Nat.le_of_ble_eq_true rfl) (by decide) rfl hc (a3q (Tx.of _ (by decide)) rfl) (a3r (Tx.of _ (by decide)) rfl) (a3u (Tx.of _ (by decide)) rfl) (by decide) fun x7 x8 x9 h7 h8 h9 => ?_
    refine a73 T (k := 3) h7 h8 h9 rfl (Nat.le_of_ble_eq_true rfl) (by decide) rfl rfl (a3q (Tx.of _ (by decide)) rfl) (a3r (Tx.of _ (by decide)) rfl) (a3u (Tx.of _ (by decide)) rfl) (by decide) fun x7 x8 x9 h7 h8 h9 => ?_
    simp only [List.nil_append, List.cons_append]
    unfold lpE
    refine a3f ?_
    repeat tm_at "zs"
    refine ro (v7 (o := true) rfl) ?_
    repeat tm_at "zs"
    exact k
  | cost p m =>
    simp only [Deed.d, Tb.deed] at k ⊢
    repeat tm_at "zs"
    refine a73 T (k := 0) .none .none .none rfl (Nat.le_of_ble_eq_true rfl) (by decide) rfl rfl (a3q (Tx.of _ (by decide)) rfl) (a3r (Tx.of _ (by decide)) rfl) (a3u (Tx.of _ (by decide)) rfl) (by decide) fun x7 x8 x9 h7 h8 h9 => ?_
    refine b33 T (k := 1) h7 h8 h9 rfl (Nat.le_of_ble_eq_true rfl) (by decide) rfl rfl (a3q (Tx.of _ (by decide)) rfl) (a3r (Tx.of _ (by decide)) rfl) (a3u (Tx.of _ (by decide)) rfl) rfl rfl fun x7 x8 x9 h7 h8 h9 => ?_
    refine a73 T (k := 2) h7 h8 h9 rfl (Nat.le_of_ble_eq_true rfl) (by decide) rfl rfl (a3q (Tx.of _ (by decide)) rfl) (a3r (Tx.of _ (by decide)) rfl) (a3u (Tx.of _ (by decide)) rfl) (by decide) fun x7 x8 x9 h7 h8 h9 => ?_
    simp only [List.nil_append, List.cons_append]
    unfold lpE
    refine a3f ?_
    repeat tm_at "zs"
    refine ro (v7 (o := true) rfl) ?_
    repeat tm_at "zs"
    exact k
  | reckon =>
    simp only [Deed.d, Tb.deed] at k ⊢
    repeat tm_at "zs"
    refine a73 T (k := 0) .none .none .none rfl (Nat.le_of_ble_eq_true rfl) (by decide) rfl rfl (a3q (Tx.of _ (by decide)) rfl) (a3r (Tx.of _ (by decide)) rfl) (a3u (Tx.of _ (by decide)) rfl) (by decide) fun x7 x8 x9 h7 h8 h9 => ?_
    simp only [List.nil_append, List.cons_append]
    unfold lpE
    refine a3f ?_
    repeat tm_at "zs"
    refine ro (v7 (o := true) rfl) ?_
    repeat tm_at "zs"
    exact k
def swP {α : Type} (x : α × α) : α × α := (x.2, x.1)
def seP {α : Type} (x : α × α) : α × α := (x.1, x.1)
def Tb.swap (t : Tb) : Tb := ⟨t.w.map swP, t.s.map swP, t.p.map swP⟩
def Tb.same (t : Tb) : Tb := ⟨t.w.map seP, t.s.map seP, t.p.map seP⟩
def swD (d : D) : D := match d with | .tup [a, b] => .tup [b, a] | _ => .non
def seD (d : D) : D := match d with | .tup [a, _] => .tup [a, a] | _ => .non
def mpD (f : D → D) (d : D) : D := match d with | .tup ds => .tup (ds.map f) | _ => .non
def PrD (d : D) : Prop := ∃ ds : List D, d = .tup ds ∧ ds.length ≤ 1000 ∧ ∀ x ∈ ds, ∃ a b, x = .tup [a, b] ∧ owned a = false ∧ owned b = false ∧ fr a = a ∧ fr b = b
theorem b66 {w : List (Str × Str)} (h : w.length ≤ 1000) : PrD (.tup (w.map w2D)) := ⟨_, rfl, by rw [List.length_map]; exact h, fun x hx => by obtain ⟨y, _, rfl⟩ := List.mem_map.mp hx; exact ⟨_, _, rfl, rfl, rfl, rfl, rfl⟩⟩
theorem b6w {w : List (Nat × Nat)} (h : w.length ≤ 1000) : PrD (.tup (w.map s2D)) := ⟨_, rfl, by rw [List.length_map]; exact h, fun x hx => by obtain ⟨y, _, rfl⟩ := List.mem_map.mp hx; exact ⟨_, _, rfl, rfl, rfl, rfl, rfl⟩⟩
theorem b5s {w : List (Nat × Nat)} (h : w.length ≤ 1000) : PrD (.tup (w.map rwD)) := ⟨_, rfl, by rw [List.length_map]; exact h, fun x hx => by obtain ⟨y, _, rfl⟩ := List.mem_map.mp hx; exact ⟨_, _, rfl, rfl, rfl, rfl, rfl⟩⟩
theorem bp6 (w : List (Str × Str)) : mpD swD (.tup (w.map w2D)) = .tup ((w.map swP).map w2D) := by
  show D.tup (List.map swD (w.map w2D)) = _
  rw [List.map_map, List.map_map]; rfl
theorem bq3 (w : List (Nat × Nat)) : mpD swD (.tup (w.map s2D)) = .tup ((w.map swP).map s2D) := by
  show D.tup (List.map swD (w.map s2D)) = _
  rw [List.map_map, List.map_map]; rfl
theorem bm3 (w : List (Nat × Nat)) : mpD swD (.tup (w.map rwD)) = .tup ((w.map swP).map rwD) := by
  show D.tup (List.map swD (w.map rwD)) = _
  rw [List.map_map, List.map_map]; rfl
theorem bp1 (w : List (Str × Str)) : mpD seD (.tup (w.map w2D)) = .tup ((w.map seP).map w2D) := by
  show D.tup (List.map seD (w.map w2D)) = _
  rw [List.map_map, List.map_map]; rfl
theorem bj9 (w : List (Nat × Nat)) : mpD seD (.tup (w.map s2D)) = .tup ((w.map seP).map s2D) := by
  show D.tup (List.map seD (w.map s2D)) = _
  rw [List.map_map, List.map_map]; rfl
theorem bo3 (w : List (Nat × Nat)) : mpD seD (.tup (w.map rwD)) = .tup ((w.map seP).map rwD) := by
  show D.tup (List.map seD (w.map rwD)) = _
  rw [List.map_map, List.map_map]; rfl
structure TbL (t : Tb) : Prop where
  w : t.w.length ≤ 1000
  s : t.s.length ≤ 1000
  p : t.p.length ≤ 1000
theorem b0o {t : Tb} (L : TbL t) {h : Int} (hh : -1000000 ≤ h ∧ h ≤ 1000000) {Q : D → List D → Prop} (k : Q (t.swap.rD (0 - h)) []) : WF (a1n [t.rD h]) Q := by
  show_term
  unfold a1n a3m
  refine a2z (by simp [List.replicate]; rfl) ?_
  unfold Tb.rD
  repeat tm_at "zs"
  refine a6d (mpD swD) (Nat.le_of_ble_eq_true rfl) ?_ ?_
  · intro d hd
    have PD : PrD d := by
      simp only [List.mem_cons, List.not_mem_nil, or_false] at hd
      rcases hd with rfl | rfl | rfl
      · exact b66 L.w
      · exact b6w L.s
      · exact b5s L.p
    obtain ⟨ds, rfl, dl, de⟩ := PD
    repeat tm_at "zs"
    refine a6d swD (by omega) ?_ ?_
    · intro x hx
      obtain ⟨a, b, rfl, oa, ob, fa, fb⟩ := de x hx
      repeat tm_at "zs"
      refine ⟨rfl, ?_⟩
      repeat tm_at "zs"
      rfl
    refine tx (ρ' := [oD (t.rD h), oD (.tup (t.w.map w2D)), oD (.tup (t.s.map s2D)), oD (.tup (t.p.map rwD)), oI h, none, oD (.tup ds), none, none]) rfl ?_
    have SP : a0d (ds.map swD) = true := a4s fun d hd => by
      obtain ⟨x, hx, rfl⟩ := List.mem_map.mp hd
      obtain ⟨a, b, rfl, _⟩ := de x hx
      rfl
    have TU := v7 (o := true) SP
    repeat tm_at "zs"
    refine ⟨rfl, ?_⟩
    repeat tm_at "zs"
    rfl
  refine tx (ρ' := [oD (t.rD h), oD (.tup (t.w.map w2D)), oD (.tup (t.s.map s2D)), oD (.tup (t.p.map rwD)), oI h, none, none, none, none]) rfl ?_
  rw [List.map_cons, List.map_cons, List.map_cons, List.map_nil, bp6, bq3, bm3]
  repeat tm_at "zs"
  exact k
abbrev Tok := Int ⊕ List Nat
abbrev lxT (a b : List Tok) : Bool := PyProof.Rows.lexLt PyProof.Rows.itemOrd a b
def FS (p q p' q' : PyData) : Prop := ∀ r t r' t' : List Tok, lxT r t = lxT r' t' → lxT (PySem.W.keyToks p ++ r) (PySem.W.keyToks q ++ t) = lxT (PySem.W.keyToks p' ++ r') (PySem.W.keyToks q' ++ t')
def FSL (p q p' q' : List PyData) : Prop := ∀ r t r' t' : List Tok, lxT r t = lxT r' t' → lxT (PySem.W.keyToksAll p ++ r) (PySem.W.keyToksAll q ++ t) = lxT (PySem.W.keyToksAll p' ++ r') (PySem.W.keyToksAll q' ++ t')
theorem a4z (x : Tok) (r t : List Tok) : lxT (x :: r) (x :: t) = lxT r t := PyProof.Rows.lex_self (O := PyProof.Rows.itemOrd) x r t
theorem a4r {x y : Tok} (h : x ≠ y) (r t : List Tok) : lxT (x :: r) (y :: t) = PyProof.Rows.itemLt x y := PyProof.Rows.lex_diff (O := PyProof.Rows.itemOrd) h
theorem FS.one {x y x' y' : Tok} {r t r' t' : List Tok} (e : x = y ↔ x' = y') (b : PyProof.Rows.itemLt x y = PyProof.Rows.itemLt x' y') (h : lxT r t = lxT r' t') : lxT (x :: r) (y :: t) = lxT (x' :: r') (y' :: t') := by
  show_term
  by_cases z : x = y
  · have z' := e.mp z
    subst z
    subst z'
    rw [a4z, a4z, h]
  · rw [a4r z, a4r fun z' => z (e.mpr z'), b]
theorem FS.int {a b a' b' : Int} (e : a = b ↔ a' = b') (l : a < b ↔ a' < b') : FS (.int a) (.int b) (.int a') (.int b') := fun r t r' t' h => by
  simp only [PySem.W.keyToks, List.cons_append, List.nil_append]
  exact FS.one ⟨fun z => by rw [e.mp (by injection z)], fun z => by rw [e.mpr (by injection z)]⟩ (decide_eq_decide.mpr l) h
theorem FS.str {a b a' b' : Str} (e : a = b ↔ a' = b') (l : ltS a b ↔ ltS a' b') : FS (.str a) (.str b) (.str a') (.str b') := fun r t r' t' h => by
  simp only [PySem.W.keyToks, List.cons_append, List.nil_append]
  exact FS.one ⟨fun z => by rw [e.mp (a6b (by injection z))], fun z => by rw [e.mpr (a6b (by injection z))]⟩ (decide_eq_decide.mpr l) h
theorem FSL.nil : FSL [] [] [] [] := fun r t r' t' h => by
  simp only [PySem.W.keyToksAll, List.cons_append, List.nil_append]
  rw [a4z, a4z, h]
theorem FSL.left {y y' : PyData} {ys ys' : List PyData} : FSL [] (y :: ys) [] (y' :: ys') := fun r t r' t' h => by
  simp only [PySem.W.keyToksAll, List.cons_append, List.nil_append]
  rw [a4r (by decide), a4r (by decide)]
theorem FSL.right {y y' : PyData} {ys ys' : List PyData} : FSL (y :: ys) [] (y' :: ys') [] := fun r t r' t' h => by
  simp only [PySem.W.keyToksAll, List.cons_append, List.nil_append]
  rw [a4r (by decide), a4r (by decide)]
theorem FSL.cons {x y x' y' : PyData} {xs ys xs' ys' : List PyData} (h1 : FS x y x' y') (h2 : FSL xs ys xs' ys') : FSL (x :: xs) (y :: ys) (x' :: xs') (y' :: ys') := fun r t r' t' h => by
  simp only [PySem.W.keyToksAll, List.cons_append, List.append_assoc]
  rw [a4z, a4z]
  exact h1 _ _ _ _ (h2 _ _ _ _ h)
theorem FS.tup {p q p' q' : List PyData} (h : FSL p q p' q') : FS (.tuple p) (.tuple q) (.tuple p') (.tuple q') := fun r t r' t' e => by
  simp only [PySem.W.keyToks]
  exact h _ _ _ _ e
theorem FS.word {a b : Str} (h : a ≠ b) {xs ys xs' ys' : List PyData} : FS (.tuple (.str a :: xs)) (.tuple (.str b :: ys)) (.tuple (.str a :: xs')) (.tuple (.str b :: ys')) := fun r t r' t' e => by
  have ne : (Sum.inr a.cps.toList : Tok) ≠ Sum.inr b.cps.toList := fun z => h (a6b (by injection z))
  simp only [PySem.W.keyToks, PySem.W.keyToksAll, List.cons_append, List.append_assoc, List.nil_append]
  rw [a4z, a4z, a4r ne, a4r ne]
theorem FS.nat (a b : Nat) : FS (.int (a : Int)) (.int (b : Int)) (.int (a : Int)) (.int (b : Int)) := FS.int .rfl .rfl
theorem FS.text (a b : Str) : FS (.str a) (.str b) (.str a) (.str b) := FS.str .rfl .rfl
theorem FSL.strs {f : Str → Str} {A : Str → Prop} (h : ∀ a b, A a → A b → (a = b ↔ f a = f b) ∧ (ltS a b ↔ ltS (f a) (f b))) : ∀ {as bs : List Str}, (∀ a ∈ as, A a) → (∀ b ∈ bs, A b) → FSL (as.map .str) (bs.map .str) ((as.map f).map .str) ((bs.map f).map .str)
  | [], [], _, _ => .nil
  | [], _ :: _, _, _ => .left
  | _ :: _, [], _, _ => .right
  | a :: as, b :: bs, h1, h2 => by
    obtain ⟨e1, e2⟩ := h a b (h1 a List.mem_cons_self) (h2 b List.mem_cons_self)
    exact .cons (.str e1 e2) (FSL.strs h (fun z hz => h1 z (List.mem_cons_of_mem _ hz)) fun z hz => h2 z (List.mem_cons_of_mem _ hz))
theorem FSL.rows : ∀ as bs : List (Nat × Nat), FSL (as.map fun x => .tuple [.int (x.1 : Int), .int (x.2 : Int)]) (bs.map fun x => .tuple [.int (x.1 : Int), .int (x.2 : Int)]) (as.map fun x => .tuple [.int (x.1 : Int), .int (x.2 : Int)]) (bs.map fun x => .tuple [.int (x.1 : Int), .int (x.2 : Int)])
  | [], [] => .nil
  | [], _ :: _ => .left
  | _ :: _, [] => .right
  | a :: as, b :: bs => .cons (.tup (.cons (.nat _ _) (.cons (.nat _ _) .nil))) (FSL.rows as bs)
structure Mon (t : Tb) : Prop where
  w : ∀ a ∈ owL, ∀ b ∈ owL, (a = b ↔ t.W a = t.W b) ∧ (ltS a b ↔ ltS (t.W a) (t.W b))
  s : ∀ a b : Str, (∀ c ∈ a.cps.toList, c ∈ 63 :: esL) → (∀ c ∈ b.cps.toList, c ∈ 63 :: esL) → (a = b ↔ t.sg a = t.sg b) ∧ (ltS a b ↔ ltS (t.sg a) (t.sg b))
  l : ∀ a ∈ lgL, ∀ b ∈ lgL, (a = b ↔ t.L a = t.L b) ∧ (a < b ↔ t.L a < t.L b)
theorem a7f : ∀ z ∈ brL, ∀ c ∈ z.cps.toList, c ∈ 63 :: esL := by decide
theorem al5 : ∀ z ∈ stL, ∀ c ∈ z.cps.toList, c ∈ 63 :: esL := by decide
theorem ac8 (t : Tb) (d : Deed) : am0 (t.deed d) = am0 d := by cases d <;> rfl
theorem a9o (d : Deed) : ∃ r, dPy d = .tuple (.str (am0 d) :: r) := by cases d <;> exact ⟨_, rfl⟩
theorem FS.deed {t : Tb} (M : Mon t) {d e : Deed} (hd : DQ d) (he : DQ e) : FS (dPy d) (dPy e) (dPy (t.deed d)) (dPy (t.deed e)) := by
  show_term
  by_cases w : am0 d = am0 e
  · have W : ∀ {a b : Str}, a ∈ owL → b ∈ owL → FS (.str a) (.str b) (.str (t.W a)) (.str (t.W b)) := fun ha hb => .str (M.w _ ha _ hb).1 (M.w _ ha _ hb).2
    have L : ∀ {a b : Nat}, a ∈ lgL → b ∈ lgL → FS (.int (a : Int)) (.int (b : Int)) (.int (t.L a : Int)) (.int (t.L b : Int)) := fun ha hb => .int (by have := (M.l _ ha _ hb).1; omega) (by have := (M.l _ ha _ hb).2; omega)
    have S : ∀ {a b : Str}, a ∈ brL → b ∈ brL → FS (.str a) (.str b) (.str (t.sg a)) (.str (t.sg b)) := fun ha hb => .str (M.s _ _ (a7f _ ha) (a7f _ hb)).1 (M.s _ _ (a7f _ ha) (a7f _ hb)).2
    cases d <;> cases e <;> first
      | (simp only [am0] at w; exact absurd w (by decide))
      | exact .tup (.cons (.text _ _) (.cons (W hd.1 he.1) (.cons (S hd.2.1 he.2.1) (.cons (.nat _ _) .nil))))
      | exact .tup (.cons (.text _ _) (.cons (L hd.1 he.1) (.cons (.nat _ _) (.cons (.tup (FSL.strs M.s (fun z hz => al5 z (hd.2.2.2.1 z hz)) fun z hz => al5 z (he.2.2.2.1 z hz))) (.cons (.nat _ _) (.cons (.nat _ _) .nil))))))
      | exact .tup (.cons (.text _ _) (.cons (L hd.1 he.1) (.cons (.nat _ _) (.cons (.nat _ _) .nil))))
      | exact .tup (.cons (.text _ _) (.cons (L hd.1 he.1) (.cons (.nat _ _) .nil)))
      | exact .tup (.cons (.text _ _) (.cons (L hd he) .nil))
      | exact .tup (.cons (.text _ _) (.cons (.nat _ _) (.cons (W hd.2.1 he.2.1) (.cons (.nat _ _) .nil))))
      | exact .tup (.cons (.text _ _) (.cons (.tup (FSL.rows _ _)) .nil))
      | exact .tup (.cons (.text _ _) (.cons (.nat _ _) (.cons (.nat _ _) .nil)))
      | exact .tup (.cons (.text _ _) (.cons (.nat _ _) .nil))
      | exact .tup (.cons (.text _ _) .nil)
  · obtain ⟨r1, e1⟩ := a9o d
    obtain ⟨r2, e2⟩ := a9o e
    obtain ⟨r3, e3⟩ := a9o (t.deed d)
    obtain ⟨r4, e4⟩ := a9o (t.deed e)
    rw [e1, e2, e3, e4, ac8, ac8]
    exact .word w
theorem aw9 {x y : a2n} (hx : Drn x) (hy : Drn y) : a3g (pgD x) (pgD y) = !lxT (PySem.W.keyToks (PyP y.1 y.2)) (PySem.W.keyToks (PyP x.1 x.2)) := by
  rw [← a2y hx, ← a2y hy]
  rfl
theorem b09 {t : Tb} (M : Mon t) {h : Int} {x y : a2n} (hx : Drn x) (hy : Drn y) (qx : DQ x.2) (qy : DQ y.2) (x0 : 0 ≤ (x.1 : Int) + h) (y0 : 0 ≤ (y.1 : Int) + h) (hx' : Drn (t.page h x)) (hy' : Drn (t.page h y)) : a3g (pgD (t.page h x)) (pgD (t.page h y)) = a3g (pgD x) (pgD y) := by
  show_term
  rw [aw9 hx hy, aw9 hx' hy']
  have F : FS (PyP y.1 y.2) (PyP x.1 x.2) (PyP (t.page h y).1 (t.page h y).2) (PyP (t.page h x).1 (t.page h x).2) := by
    refine .tup (.cons (.int ?_ ?_) (.cons (FS.deed M qy qx) .nil))
    · show _ ↔ ((((y.1 : Int) + h).toNat : Nat) : Int) = ((((x.1 : Int) + h).toNat : Nat) : Int)
      omega
    · show _ ↔ ((((y.1 : Int) + h).toNat : Nat) : Int) < ((((x.1 : Int) + h).toNat : Nat) : Int)
      omega
  have := F [] [] [] [] rfl
  simp only [List.append_nil] at this
  rw [this]
def Ren.tb (r : Ren) : Tb := ⟨r.w, r.s, r.p⟩
theorem a68 {α β : Type} [BEq α] [LawfulBEq α] : ∀ {l : List (α × β)} {a : α} {b : β}, (l.map (·.1)).Nodup → (a, b) ∈ l → l.lookup a = some b
  | (x, y) :: l, a, b, nd, h => by
    rw [List.map_cons, List.nodup_cons] at nd
    rcases List.mem_cons.mp h with e | h
    · cases e
      rw [List.lookup_cons_self]
    · have ne : a ≠ x := fun e => nd.1 (e ▸ List.mem_map_of_mem (f := (·.1)) h)
      rw [List.lookup_cons, show (a == x) = false by simpa using ne]
      exact a68 nd.2 h
theorem ae8 {α β : Type} [BEq α] [LawfulBEq α] : ∀ {l : List (α × β)} {a : α}, a ∉ l.map (·.1) → l.lookup a = none
  | [], a, _ => rfl
  | (x, y) :: l, a, h => by
    rw [List.map_cons, List.mem_cons, not_or] at h
    rw [List.lookup_cons, show (a == x) = false by simpa using h.1]
    exact ae8 h.2
theorem ay6 {α β : Type} {l : List (α × β)} {a : α} (h : a ∈ l.map (·.1)) : ∃ b, (a, b) ∈ l := by
  obtain ⟨x, hx, rfl⟩ := List.mem_map.mp h
  exact ⟨x.2, hx⟩
theorem b27 {α : Type} {R : α → α → Prop} : ∀ {l : List α}, l.Pairwise R → ∀ {x y}, x ∈ l → y ∈ l → x = y ∨ R x y ∨ R y x
  | a :: l, h, x, y, hx, hy => by
    rw [List.pairwise_cons] at h
    rcases List.mem_cons.mp hx with e1 | hx2
    · rcases List.mem_cons.mp hy with e2 | hy2
      · exact .inl (e1.trans e2.symm)
      · exact .inr (.inl (e1 ▸ h.1 y hy2))
    · rcases List.mem_cons.mp hy with e2 | hy2
      · exact .inr (.inr (e2 ▸ h.1 x hx2))
      · exact b27 h.2 hx2 hy2
theorem ae5 {α : Type} {lt : α → α → Prop} (irr : ∀ a, ¬ lt a a) (tr : ∀ {a b c}, lt a b → lt b c → lt a c) {l : List (α × α)} (h : l.Pairwise fun x y => lt x.1 y.1 ∧ lt x.2 y.2) {x y : α × α} (hx : x ∈ l) (hy : y ∈ l) : (x.1 = y.1 ↔ x.2 = y.2) ∧ (lt x.1 y.1 ↔ lt x.2 y.2) := by
  show_term
  rcases b27 h hx hy with rfl | ⟨h1, h2⟩ | ⟨h1, h2⟩
  · exact ⟨⟨fun _ => rfl, fun _ => rfl⟩, ⟨fun z => absurd z (irr _), fun z => absurd z (irr _)⟩⟩
  · exact ⟨⟨fun z => absurd (z ▸ h1) (irr _), fun z => absurd (z ▸ h2) (irr _)⟩, ⟨fun _ => h2, fun _ => h1⟩⟩
  · exact ⟨⟨fun z => absurd (z ▸ h1) (irr _), fun z => absurd (z ▸ h2) (irr _)⟩, ⟨fun z => absurd (tr z h1) (irr _), fun z => absurd (tr z h2) (irr _)⟩⟩
theorem ax2 {S : Nat → Nat} {A : List Nat} (h : ∀ a ∈ A, ∀ b ∈ A, (a = b ↔ S a = S b) ∧ (a < b ↔ S a < S b)) : ∀ {as bs : List Nat}, (∀ c ∈ as, c ∈ A) → (∀ c ∈ bs, c ∈ A) → (as = bs ↔ as.map S = bs.map S) ∧ (as < bs ↔ as.map S < bs.map S)
  | [], [], _, _ => by simp
  | [], _ :: _, _, _ => by simp
  | _ :: _, [], _, _ => by simp
  | a :: as, b :: bs, h1, h2 => by
    obtain ⟨e1, e2⟩ := h a (h1 a List.mem_cons_self) b (h2 b List.mem_cons_self)
    obtain ⟨i1, i2⟩ := ax2 h (fun c hc => h1 c (List.mem_cons_of_mem _ hc)) fun c hc => h2 c (List.mem_cons_of_mem _ hc)
    rw [List.map_cons, List.map_cons, List.cons_lt_cons_iff, List.cons_lt_cons_iff, List.cons.injEq, List.cons.injEq, ← i1, ← i2, ← e1, ← e2]
    exact ⟨.rfl, .rfl⟩
section
variable {r : Ren} {ps : List a2n} (R : RenOk r ps)
include R
theorem b7t : (r.w.map (·.2)).Pairwise ltS := List.pairwise_map.mpr (R.w2.imp fun h => h.2)
theorem b7k : (r.s.map (·.2)).Pairwise (· < ·) := List.pairwise_map.mpr (R.s2.imp fun h => h.2)
theorem b7y : (r.p.map (·.2)).Pairwise (· < ·) := List.pairwise_map.mpr (R.p2.imp fun h => h.2)
theorem a7t : TbOk r.tb :=
  ⟨by show (r.w.map (·.1)).Nodup; rw [R.w1]; decide, by show (r.s.map (·.1)).Nodup; rw [R.s1]; decide, by show (r.p.map (·.1)).Nodup; rw [R.p1]; decide, ae8 (by show 63 ∉ r.s.map (·.1); rw [R.s1]; decide)⟩
theorem ag1 : TbL r.tb :=
  ⟨by have := congrArg List.length R.w1; rw [List.length_map] at this; show r.w.length ≤ 1000; rw [this]; decide,
   by have := congrArg List.length R.s1; rw [List.length_map] at this; show r.s.length ≤ 1000; rw [this]; decide,
   by have := congrArg List.length R.p1; rw [List.length_map] at this; show r.p.length ≤ 1000; rw [this]; decide⟩
theorem av4 {o : Str} (h : o ∈ owL) : (o, r.tb.W o) ∈ r.w ∧ r.w.lookup o = some (r.tb.W o) := by
  show_term
  rw [← R.w1] at h
  obtain ⟨b, hb⟩ := ay6 h
  have e := a68 (a7t R).nw hb
  have : r.tb.W o = b := by show (r.w.lookup o).getD o = b; rw [show r.w.lookup o = some b from e]; rfl
  rw [this]
  exact ⟨hb, e⟩
theorem av9 {o : Nat} (h : o ∈ lgL) : (o, r.tb.L o) ∈ r.p ∧ r.p.lookup o = some (r.tb.L o) := by
  show_term
  rw [← R.p1] at h
  obtain ⟨b, hb⟩ := ay6 h
  have e := a68 (a7t R).np hb
  have : r.tb.L o = b := by show (r.p.lookup o).getD o = b; rw [show r.p.lookup o = some b from e]; rfl
  rw [this]
  exact ⟨hb, e⟩
theorem b4j {o : Nat} (h : o ∈ esL) : (o, r.tb.S o) ∈ r.s ∧ r.s.lookup o = some (r.tb.S o) := by
  show_term
  rw [← R.s1] at h
  obtain ⟨b, hb⟩ := ay6 h
  have e := a68 (a7t R).ns hb
  have : r.tb.S o = b := by show (r.s.lookup o).getD o = b; rw [show r.s.lookup o = some b from e]; rfl
  rw [this]
  exact ⟨hb, e⟩
theorem b2k : r.tb.S 63 = 63 := by show (r.tb.s.lookup 63).getD 63 = 63; rw [(a7t R).wn]; rfl
theorem ah3 {c : Nat} (h : c ∈ 63 :: esL) : (c, r.tb.S c) ∈ (63, 63) :: r.s := by
  show_term
  rcases List.mem_cons.mp h with rfl | h
  · rw [b2k R]
    exact List.mem_cons_self
  · exact List.mem_cons_of_mem _ (b4j R h).1
theorem b4o : Mon r.tb := by
  show_term
  refine ⟨fun a ha b hb => ae5 (lt := ltS) a70 a7x R.w2 (av4 R ha).1 (av4 R hb).1, fun a b ha hb => ?_, fun a ha b hb => ae5 (lt := fun a b : Nat => a < b) (fun a => Nat.lt_irrefl a) Nat.lt_trans R.p2 (av9 R ha).1 (av9 R hb).1⟩
  have P : ((63, 63) :: r.s).Pairwise fun x y => x.1 < y.1 ∧ x.2 < y.2 := List.pairwise_cons.mpr ⟨fun x hx => ⟨by
    have : x.1 ∈ esL := by rw [← R.s1]; exact List.mem_map_of_mem hx
    have q : ∀ c ∈ esL, 63 < c := by decide
    exact q _ this, by have := (R.s3 x hx).1; show 63 < x.2; omega⟩, R.s2⟩
  have := ax2 (S := r.tb.S) (A := 63 :: esL) (fun a ha b hb => ae5 (lt := fun a b : Nat => a < b) (fun a => Nat.lt_irrefl a) Nat.lt_trans P (ah3 R ha) (ah3 R hb)) ha hb
  refine ⟨⟨fun e => e ▸ rfl, fun e => a6b (this.1.mpr ?_)⟩, this.2⟩
  have := congrArg (fun z : Str => z.cps.toList) e
  exact this
theorem ay2 {z : Str} (h : ∀ c ∈ z.cps.toList, c ∈ 63 :: esL) : r.tb.cz z := fun c hc => by
  rcases List.mem_cons.mp (h c hc) with e | e
  · exact .inl e
  · exact .inr (by rw [show r.tb.s.lookup c = _ from (b4j R e).2]; rfl)
theorem b8c {d : Deed} (h : DQ d) : r.tb.cv d := by
  show_term
  have W : ∀ {o}, o ∈ owL → (r.tb.w.lookup o).isSome := fun h => by rw [show r.tb.w.lookup _ = _ from (av4 R h).2]; rfl
  have L : ∀ {o}, o ∈ lgL → (r.tb.p.lookup o).isSome := fun h => by rw [show r.tb.p.lookup _ = _ from (av9 R h).2]; rfl
  cases d with
  | brand o b p => exact ⟨W h.1, ay2 R (a7f b h.2.1)⟩
  | drop o b p => exact ⟨W h.1, ay2 R (a7f b h.2.1)⟩
  | put l p st a b => exact ⟨L h.1, fun z hz => ay2 R (al5 z (h.2.2.2.1 z hz))⟩
  | byy l p => exact L h.1
  | sink l p => exact L h.1
  | rise l => exact L h
  | sell l p m => exact L h.1
  | owns p o n => exact W h.2.1
  | _ => trivial
theorem ae4 {z : Str} (h : ∀ c ∈ z.cps.toList, c ∈ 63 :: esL) (l : z.length ≤ 9) : Tx (r.tb.sg z) 9 := by
  show_term
  refine ⟨by rw [b6f]; exact l, fun c hc => ?_⟩
  obtain ⟨a, ha, rfl⟩ := List.mem_map.mp (show c ∈ z.cps.toList.map r.tb.S from hc)
  rcases List.mem_cons.mp (ah3 R (h a ha)) with e | e
  · have : r.tb.S a = 63 := congrArg Prod.snd e
    rw [this]; decide
  · have := (R.s3 _ e).2
    show r.tb.S a < 1114112
    have e2 : (a, r.tb.S a).2 = r.tb.S a := rfl
    omega
theorem b7e {d : Deed} (h : DQ d) : DrD (r.tb.deed d) := by
  show_term
  have h0 := h.dr
  have W : ∀ {o}, o ∈ owL → Tx (r.tb.W o) 9 := fun h => R.w3 _ (av4 R h).1
  have L : ∀ {o}, o ∈ lgL → r.tb.L o < 1048576 := fun h => Nat.lt_of_le_of_lt (R.p3 _ (av9 R h).1) (by decide)
  cases d with
  | brand o b p => exact ⟨W h.1, ae4 R (a7f b h.2.1) h0.2.1.len, h0.2.2⟩
  | drop o b p => exact ⟨W h.1, ae4 R (a7f b h.2.1) h0.2.1.len, h0.2.2⟩
  | put l p st a b =>
    refine ⟨L h.1, h0.2.1, by rw [List.length_map]; exact h0.2.2.1, fun z hz => ?_, h0.2.2.2.2⟩
    obtain ⟨y, hy, rfl⟩ := List.mem_map.mp hz
    exact ae4 R (al5 y (h.2.2.2.1 y hy)) (h0.2.2.2.1 y hy).len
  | byy l p => exact ⟨L h.1, h0.2⟩
  | sink l p => exact ⟨L h.1, h0.2⟩
  | rise l => exact L h
  | sell l p m => exact ⟨L h.1, h0.2⟩
  | owns p o n => exact ⟨h0.1, W h.2.1, h0.2.2⟩
  | jam p => exact h0
  | free p => exact h0
  | shut p => exact h0
  | opn p => exact h0
  | tally rs => exact h0
  | cost p m => exact h0
  | reckon => trivial
theorem a8c : TbOk r.tb.swap := by
  show_term
  have m1 : ∀ {α : Type} (l : List (α × α)), (l.map swP).map (·.1) = l.map (·.2) := fun l => by rw [List.map_map]; rfl
  refine ⟨by show ((r.w.map swP).map (·.1)).Nodup; rw [m1]; exact List.Pairwise.imp (fun {a b} (h : ltS a b) (e : a = b) => a70 b (e ▸ h)) (b7t R), by show ((r.s.map swP).map (·.1)).Nodup; rw [m1]; exact (b7k R).imp fun {a b} h => Nat.ne_of_lt h, by show ((r.p.map swP).map (·.1)).Nodup; rw [m1]; exact (b7y R).imp fun {a b} h => Nat.ne_of_lt h, ae8 ?_⟩
  show 63 ∉ (r.s.map swP).map (·.1)
  rw [m1]
  intro h
  obtain ⟨x, hx, e⟩ := List.mem_map.mp h
  have := (R.s3 x hx).1
  omega
theorem b73 {o : Str} (h : o ∈ owL) : r.tb.swap.w.lookup (r.tb.W o) = some o := a68 (a8c R).nw (List.mem_map_of_mem (f := swP) (av4 R h).1)
theorem b60 {o : Nat} (h : o ∈ lgL) : r.tb.swap.p.lookup (r.tb.L o) = some o := a68 (a8c R).np (List.mem_map_of_mem (f := swP) (av9 R h).1)
theorem b84 {o : Nat} (h : o ∈ esL) : r.tb.swap.s.lookup (r.tb.S o) = some o := a68 (a8c R).ns (List.mem_map_of_mem (f := swP) (b4j R h).1)
theorem a6y {z : Str} (h : ∀ c ∈ z.cps.toList, c ∈ 63 :: esL) : r.tb.swap.sg (r.tb.sg z) = z ∧ r.tb.swap.cz (r.tb.sg z) := by
  show_term
  have e : ∀ c ∈ z.cps.toList, r.tb.swap.S (r.tb.S c) = c ∧ (r.tb.S c = 63 ∨ (r.tb.swap.s.lookup (r.tb.S c)).isSome) := fun c hc => by
    rcases List.mem_cons.mp (h c hc) with rfl | q
    · rw [b2k R]
      refine ⟨?_, .inl rfl⟩
      show (r.tb.swap.s.lookup 63).getD 63 = 63
      rw [(a8c R).wn]; rfl
    · have := b84 R q
      refine ⟨?_, .inr (by rw [this]; rfl)⟩
      show (r.tb.swap.s.lookup (r.tb.S c)).getD _ = c
      rw [this]; rfl
  refine ⟨a6b ?_, fun c hc => ?_⟩
  · show (z.cps.toList.map r.tb.S).map r.tb.swap.S = z.cps.toList
    rw [List.map_map]
    exact (List.map_congr_left fun c hc => (e c hc).1).trans (List.map_id _)
  · obtain ⟨a, ha, rfl⟩ := List.mem_map.mp (show c ∈ z.cps.toList.map r.tb.S from hc)
    exact (e a ha).2
theorem aa0 {d : Deed} (h : DQ d) : r.tb.swap.deed (r.tb.deed d) = d ∧ r.tb.swap.cv (r.tb.deed d) := by
  show_term
  have W : ∀ {o}, o ∈ owL → r.tb.swap.W (r.tb.W o) = o ∧ (r.tb.swap.w.lookup (r.tb.W o)).isSome := fun {o} h => by
    have := b73 R h
    refine ⟨?_, by rw [this]; rfl⟩
    show (r.tb.swap.w.lookup (r.tb.W o)).getD _ = o
    rw [this]; rfl
  have L : ∀ {o}, o ∈ lgL → r.tb.swap.L (r.tb.L o) = o ∧ (r.tb.swap.p.lookup (r.tb.L o)).isSome := fun {o} h => by
    have := b60 R h
    refine ⟨?_, by rw [this]; rfl⟩
    show (r.tb.swap.p.lookup (r.tb.L o)).getD _ = o
    rw [this]; rfl
  cases d with
  | brand o b p => exact ⟨by show Deed.brand (r.tb.swap.W (r.tb.W o)) (r.tb.swap.sg (r.tb.sg b)) p = _; rw [(W h.1).1, (a6y R (a7f b h.2.1)).1], (W h.1).2, (a6y R (a7f b h.2.1)).2⟩
  | drop o b p => exact ⟨by show Deed.drop (r.tb.swap.W (r.tb.W o)) (r.tb.swap.sg (r.tb.sg b)) p = _; rw [(W h.1).1, (a6y R (a7f b h.2.1)).1], (W h.1).2, (a6y R (a7f b h.2.1)).2⟩
  | put l p st a b =>
    refine ⟨?_, (L h.1).2, fun z hz => ?_⟩
    · show Deed.put (r.tb.swap.L (r.tb.L l)) p ((st.map r.tb.sg).map r.tb.swap.sg) a b = _
      rw [(L h.1).1, List.map_map, (List.map_congr_left (f := r.tb.swap.sg ∘ r.tb.sg) (g := id) fun z hz => (a6y R (al5 z (h.2.2.2.1 z hz))).1), List.map_id]
    · obtain ⟨y, hy, rfl⟩ := List.mem_map.mp hz
      exact (a6y R (al5 y (h.2.2.2.1 y hy))).2
  | byy l p => exact ⟨by show Deed.byy (r.tb.swap.L (r.tb.L l)) p = _; rw [(L h.1).1], (L h.1).2⟩
  | sink l p => exact ⟨by show Deed.sink (r.tb.swap.L (r.tb.L l)) p = _; rw [(L h.1).1], (L h.1).2⟩
  | rise l => exact ⟨by show Deed.rise (r.tb.swap.L (r.tb.L l)) = _; rw [(L h).1], (L h).2⟩
  | sell l p m => exact ⟨by show Deed.sell (r.tb.swap.L (r.tb.L l)) p m = _; rw [(L h.1).1], (L h.1).2⟩
  | owns p o n => exact ⟨by show Deed.owns p (r.tb.swap.W (r.tb.W o)) n = _; rw [(W h.2.1).1], (W h.2.1).2⟩
  | jam p => exact ⟨rfl, trivial⟩
  | free p => exact ⟨rfl, trivial⟩
  | shut p => exact ⟨rfl, trivial⟩
  | opn p => exact ⟨rfl, trivial⟩
  | tally rs => exact ⟨rfl, trivial⟩
  | cost p m => exact ⟨rfl, trivial⟩
  | reckon => exact ⟨rfl, trivial⟩
end
theorem a9l {α : Type} [BEq α] [LawfulBEq α] : ∀ (l : List (α × α)) (a : α), ((l.map seP).lookup a).getD a = a
  | [], a => rfl
  | (x, y) :: l, a => by
    rw [List.map_cons]
    show (List.lookup a ((x, x) :: l.map seP)).getD a = a
    by_cases h : a = x
    · subst h
      rw [List.lookup_cons_self]; rfl
    · rw [List.lookup_cons, show (a == x) = false by simpa using h]
      exact a9l l a
theorem a6p {α : Type} [BEq α] [LawfulBEq α] : ∀ (l : List (α × α)) (a : α), (l.map seP).lookup a = (l.lookup a).map fun _ => a
  | [], a => rfl
  | (x, y) :: l, a => by
    rw [List.map_cons]
    show List.lookup a ((x, x) :: l.map seP) = _
    by_cases h : a = x
    · subst h
      rw [List.lookup_cons_self, List.lookup_cons_self]; rfl
    · rw [List.lookup_cons, List.lookup_cons, show (a == x) = false by simpa using h]
      exact a6p l a
theorem ay7 (t : Tb) (z : Str) : t.same.sg z = z := a6b (by
  show z.cps.toList.map t.same.S = z.cps.toList
  exact (List.map_congr_left fun c _ => a9l t.s c).trans (List.map_id _))
theorem aa4 (t : Tb) (d : Deed) : t.same.deed d = d := by
  show_term
  have W : ∀ o, t.same.W o = o := fun o => a9l t.w o
  have L : ∀ o, t.same.L o = o := fun o => a9l t.p o
  cases d with
  | put l p st a b =>
    show Deed.put (t.same.L l) p (st.map t.same.sg) a b = _
    rw [L, List.map_congr_left (g := id) fun z _ => ay7 t z, List.map_id]
  | _ => simp only [Tb.deed, W, L, ay7]
theorem b57 {t : Tb} {d : Deed} (h : t.cv d) : t.same.cv d := by
  show_term
  have W : ∀ {o}, (t.w.lookup o).isSome → (t.same.w.lookup o).isSome := fun h => by rw [show t.same.w.lookup _ = _ from a6p t.w _, Option.isSome_map]; exact h
  have L : ∀ {o}, (t.p.lookup o).isSome → (t.same.p.lookup o).isSome := fun h => by rw [show t.same.p.lookup _ = _ from a6p t.p _, Option.isSome_map]; exact h
  have S : ∀ {z}, t.cz z → t.same.cz z := fun h c hc => (h c hc).imp id fun h => by rw [show t.same.s.lookup _ = _ from a6p t.s _, Option.isSome_map]; exact h
  cases d with
  | brand o b p => exact ⟨W h.1, S h.2⟩
  | drop o b p => exact ⟨W h.1, S h.2⟩
  | put l p st a b => exact ⟨L h.1, fun z hz => S (h.2 z hz)⟩
  | byy l p => exact L h
  | sink l p => exact L h
  | rise l => exact L h
  | sell l p m => exact L h
  | owns p o n => exact W h
  | _ => trivial
theorem b2w {t : Tb} (T : TbOk t) : TbOk t.same := by
  have m1 : ∀ {α : Type} (l : List (α × α)), (l.map seP).map (·.1) = l.map (·.1) := fun l => by rw [List.map_map]; rfl
  exact ⟨by show ((t.w.map seP).map (·.1)).Nodup; rw [m1]; exact T.nw, by show ((t.s.map seP).map (·.1)).Nodup; rw [m1]; exact T.ns, by show ((t.p.map seP).map (·.1)).Nodup; rw [m1]; exact T.np, by rw [show t.same.s.lookup 63 = _ from a6p t.s 63, T.wn]; rfl⟩
structure Turn (r : Ren) (ps : List a2n) : Prop where
  A : ∀ x ∈ ps, Drn x ∧ r.tb.cv x.2 ∧ 0 ≤ (x.1 : Int) + r.h ∧ Drn (r.tb.page r.h x)
  B : a9z (ps.map (r.tb.page r.h)) = ps.map (r.tb.page r.h)
  C : ∀ x ∈ ps.map (r.tb.page r.h), Drn x ∧ r.tb.swap.cv x.2 ∧ 0 ≤ (x.1 : Int) + (0 - r.h) ∧ Drn (r.tb.swap.page (0 - r.h) x)
  D : a9z ((ps.map (r.tb.page r.h)).map (r.tb.swap.page (0 - r.h))) = ps
theorem a9s {ps : List a2n} (h : ps.Pairwise fun a b => a3g (pgD a) (pgD b) = true) : a9z ps = ps := List.mergeSort_of_pairwise (le := fun a b : a2n => a3g (pgD a) (pgD b)) h
theorem as5 {r : Ren} {ps : List a2n} (R : RenOk r ps) (P : ∀ x ∈ ps, DQ x.2 ∧ x.1 ≤ 76800) (S : ps.Pairwise fun a b => a3g (pgD a) (pgD b) = true) : Turn r ps := by
  show_term
  have hh := R.h2
  have D1 : ∀ x ∈ ps, Drn x := fun x hx => ⟨by have := (P x hx).2; omega, (P x hx).1.dr⟩
  have D2 : ∀ x ∈ ps, Drn (r.tb.page r.h x) := fun x hx => ⟨by
    have h1 := (P x hx).2
    have h2 := R.h1 x hx
    show ((x.1 : Int) + r.h).toNat < 1048576
    omega, b7e R (P x hx).1⟩
  have BK : ∀ x ∈ ps, r.tb.swap.page (0 - r.h) (r.tb.page r.h x) = x := fun x hx => by
    obtain ⟨n, d⟩ := x
    have h2 : 0 ≤ (n : Int) + r.h := R.h1 _ hx
    have e1 : (((((n : Int) + r.h).toNat : Nat) : Int) + (0 - r.h)).toNat = n := by omega
    show ((((((n : Int) + r.h).toNat : Nat) : Int) + (0 - r.h)).toNat, r.tb.swap.deed (r.tb.deed d)) = (n, d)
    rw [e1, (aa0 R (P _ hx).1).1]
  refine ⟨fun x hx => ⟨D1 x hx, b8c R (P x hx).1, R.h1 x hx, D2 x hx⟩, a9s (List.pairwise_map.mpr ?_), fun y hy => ?_, ?_⟩
  · refine List.Pairwise.imp_of_mem ?_ S
    intro a b ha hb h
    rw [b09 (b4o R) (D1 a ha) (D1 b hb) (P a ha).1 (P b hb).1 (R.h1 a ha) (R.h1 b hb) (D2 a ha) (D2 b hb)]
    exact h
  · obtain ⟨x, hx, rfl⟩ := List.mem_map.mp hy
    refine ⟨D2 x hx, (aa0 R (P x hx).1).2, ?_, by rw [BK x hx]; exact D1 x hx⟩
    show 0 ≤ ((((x.1 : Int) + r.h).toNat : Nat) : Int) + (0 - r.h)
    have := R.h1 x hx
    omega
  · rw [List.map_map, List.map_congr_left (f := r.tb.swap.page (0 - r.h) ∘ r.tb.page r.h) (g := id) fun x hx => BK x hx, List.map_id]
    exact a9s S
theorem b4z (x : a2n) : toPy (pgD x) = some (PyP x.1 x.2) := by
  unfold pgD PyP
  simp only [toPy, a0l, ah6]
theorem ak9 (ps : List a2n) : toPy (.tup (ps.map pgD)) = some (.tuple (ps.map fun x => PyP x.1 x.2)) := a79 (a66 b4z ps)
theorem ah8 {ps : List a2n} (h : ∀ x ∈ ps, Drn x) (hl : ps.length ≤ 24) : Shows (.tuple (ps.map fun x => PyP x.1 x.2)) 200000 11 := by
  show_term
  have := ShowsL.all (ps := ps.map fun x => PyP x.1 x.2) (n := 8000) (d := 10) fun p hp => by
    obtain ⟨x, hx, rfl⟩ := List.mem_map.mp hp
    exact ak7 (h x hx)
  rw [List.length_map] at this
  exact (Shows.tup this).up (by have := Nat.mul_le_mul_right 8002 hl; omega) (by decide)
theorem ac3 {ps : List a2n} (h : ∀ x ∈ ps, Drn x) (hl : ps.length ≤ 24) : a5t [.tup (ps.map pgD)] = some (.str (PyData.shown (.tuple (ps.map fun x => PyP x.1 x.2)))) := af1 (ak9 ps) ((ah8 h hl).up (by decide) (by decide))
def Ren.py (r : Ren) : PyData := .tuple [.tuple (r.w.map fun x => .tuple [.str x.1, .str x.2]), .tuple (r.s.map fun x => .tuple [.str (sgS x.1), .str (sgS x.2)]), .tuple (r.p.map fun x => .tuple [.int (x.1 : Int), .int (x.2 : Int)]), .int r.h]
theorem b1w (r : Ren) : toPy r.d = some r.py := by
  show_term
  unfold Ren.d Ren.py
  have e1 : a0l (r.w.map w2D) = some (r.w.map fun x => .tuple [.str x.1, .str x.2]) := a66 (fun _ => rfl) _
  have e2 : a0l (r.s.map s2D) = some (r.s.map fun x => .tuple [.str (sgS x.1), .str (sgS x.2)]) := a66 (fun _ => rfl) _
  have e3 : a0l (r.p.map rwD) = some (r.p.map fun x => .tuple [.int (x.1 : Int), .int (x.2 : Int)]) := a66 (fun _ => rfl) _
  simp only [toPy, a0l, e1, e2, e3]
theorem b6p {c : Nat} (h : c ≤ 90) : Tx (sgS c) 1 := ⟨Nat.le_refl _, fun x hx => by
  have : x ∈ [c] := hx
  rw [List.mem_singleton.mp this]
  omega⟩
theorem b1x {r : Ren} {ps : List a2n} (R : RenOk r ps) : Shows r.py 10000 10 := by
  show_term
  have L := ag1 R
  have l1 : r.w.length = 5 := by have := congrArg List.length R.w1; rw [List.length_map] at this; rw [this]; rfl
  have l2 : r.s.length = 5 := by have := congrArg List.length R.s1; rw [List.length_map] at this; rw [this]; rfl
  have l3 : r.p.length = 8 := by have := congrArg List.length R.p1; rw [List.length_map] at this; rw [this]; rfl
  have P2 : ∀ {p q : PyData} {n m : Nat}, Shows p n 5 → Shows q m 5 → Shows (.tuple [p, q]) (n + 2 + (m + 2) + 3) 6 := fun a b => (Shows.tup (ShowsL.cons a (ShowsL.cons b (ShowsL.nil.up (Nat.le_refl _) (by decide)) : ShowsL _ _ 5))).up (by omega) (by decide)
  have A1 : ShowsL (r.w.map fun x => .tuple [.str x.1, .str x.2]) 1005 6 := by
    have := ShowsL.all (ps := r.w.map fun x => PyData.tuple [.str x.1, .str x.2]) (n := 199) (d := 6) fun p hp => by
      obtain ⟨x, hx, rfl⟩ := List.mem_map.mp hp
      have : x.1 ∈ owL := by rw [← R.w1]; exact List.mem_map_of_mem hx
      exact (P2 (Shows.str (b00 _ this) 5) (Shows.str (R.w3 x hx) 5)).up (by decide) (by decide)
    rw [List.length_map, l1] at this
    exact this
  have A2 : ShowsL (r.s.map fun x => .tuple [.str (sgS x.1), .str (sgS x.2)]) 1005 6 := by
    have := ShowsL.all (ps := r.s.map fun x => PyData.tuple [.str (sgS x.1), .str (sgS x.2)]) (n := 199) (d := 6) fun p hp => by
      obtain ⟨x, hx, rfl⟩ := List.mem_map.mp hp
      have : x.1 ∈ esL := by rw [← R.s1]; exact List.mem_map_of_mem hx
      have q : ∀ c ∈ esL, c ≤ 90 := by decide
      exact (P2 (Shows.str (b6p (q _ this)) 5) (Shows.str (b6p (R.s3 x hx).2) 5)).up (by decide) (by decide)
    rw [List.length_map, l2] at this
    exact this
  have A3 : ShowsL (r.p.map fun x => .tuple [.int (x.1 : Int), .int (x.2 : Int)]) 1608 6 := by
    have := ShowsL.all (ps := r.p.map fun x => PyData.tuple [.int (x.1 : Int), .int (x.2 : Int)]) (n := 199) (d := 6) fun p hp => by
      obtain ⟨x, hx, rfl⟩ := List.mem_map.mp hp
      have : x.1 ∈ lgL := by rw [← R.p1]; exact List.mem_map_of_mem hx
      have q : ∀ c ∈ lgL, c < 1000 := by decide
      have := q _ this
      have := R.p3 x hx
      exact (P2 (Shows.intK (k := 20) (by omega) (by decide) 5) (Shows.intK (k := 20) (by omega) (by decide) 5)).up (by decide) (by decide)
    rw [List.length_map, l3] at this
    exact this
  have A4 : Shows (.int r.h) 22 7 := Shows.intK (k := 20) (by have := R.h2; omega) (by decide) 7
  exact (Shows.tup (ShowsL.cons (Shows.tup A1) (ShowsL.cons (Shows.tup A2) (ShowsL.cons (Shows.tup A3) (ShowsL.cons A4 (ShowsL.nil.up (Nat.le_refl _) (by decide))))))).up (by decide) (by decide)
theorem b0e {r1 r2 : Ren} {ps : List a2n} (R1 : RenOk r1 ps) (R2 : RenOk r2 ps) (h : ∀ x ∈ ps, Drn x) (hl : ps.length ≤ 24) : ∃ t, ∀ o, a5t [.tup [.tup (ps.map pgD), .lst o [r1.d, r2.d]]] = some (.str t) := by
  show_term
  refine ⟨_, fun o => af1 (p := .tuple [.tuple (ps.map fun x => PyP x.1 x.2), .list [r1.py, r2.py]]) ?_ ?_⟩
  · have e1 := ak9 ps
    have e2 := b1w r1
    have e3 := b1w r2
    generalize D.tup (ps.map pgD) = a at *
    generalize r1.d = b at *
    generalize r2.d = c at *
    simp only [toPy, a0l, e1, e2, e3]
  · have A := Shows.lst (ShowsL.cons (b1x R1) (ShowsL.cons (b1x R2) (ShowsL.nil.up (Nat.le_refl _) (by decide))))
    exact (Shows.tup (ShowsL.cons (ah8 h hl) (ShowsL.cons A (ShowsL.nil.up (Nat.le_refl _) (by decide))))).up (by decide) (by decide)
theorem b0z {ps : List a2n} (h : ∀ x ∈ ps, Drn x) : neD (.lst true (ps.map pgD)) (.lst true (ps.map pgD)) = some (.bl false) := by
  show_term
  haveI : DecidableEq (List D) := fun a b => Classical.propDecidable (a = b)
  have d : ∀ d ∈ ps.map pgD, bh9 d := fun d hd => by
    obtain ⟨y, hy, rfl⟩ := List.mem_map.mp hd
    exact ⟨y, h y hy, rfl⟩
  have := b94 (EqC.lst true EqC.pg) (by decide) (x := ps.map pgD) (y := ps.map pgD) d d (.inl rfl)
  rw [List.map_id', decide_eq_true rfl] at this
  exact this
theorem aq9 {ps : List a2n} (h : ∀ x ∈ ps, Drn x) (hl : ps.length ≤ 1000) : ax7 [.tup (ps.map pgD)] = some (.lst true ((a9z ps).map pgD)) := by
  show_term
  unfold a9z
  rw [b4g (ds := ps.map pgD) ?_, List.map_mergeSort (r := fun a b => a3g (pgD a) (pgD b)) (s := a3g) fun _ _ _ _ => rfl]
  refine ⟨a4y ps, by rw [List.length_map]; omega, fun d hd => ?_, .inl ⟨fun d hd => ?_, fun d hd d' hd' => ?_, fun d hd => ?_⟩⟩
  · obtain ⟨x, hx, rfl⟩ := List.mem_map.mp hd
    exact ⟨_, ad4 (h x hx), Nat.le_trans (ak7 (h x hx)).dep (by decide)⟩
  · rw [List.map_map] at hd
    obtain ⟨x, hx, rfl⟩ := List.mem_map.mp hd
    rw [Function.comp, a2y (h x hx)]
    exact (a5h (h x hx)).1
  · rw [List.map_map] at hd hd'
    obtain ⟨x, hx, rfl⟩ := List.mem_map.mp hd
    obtain ⟨y, hy, rfl⟩ := List.mem_map.mp hd'
    rw [Function.comp, Function.comp, a2y (h x hx), a2y (h y hy)]
    exact ag9 (h x hx) (h y hy)
  · rw [List.map_map] at hd
    obtain ⟨x, hx, rfl⟩ := List.mem_map.mp hd
    rw [Function.comp, a2y (h x hx)]
    exact (a5h (h x hx)).2
theorem b1c (ns : List Int) (hns : ns.length ≤ 63) : as4 [.scr ns] = .ok (.bl true) [] := by
  show_term
  obtain ⟨F0, e0, hF0⟩ := b7l ns
  apply b7b
  unfold as4 b4a
  refine a2z (by simp [List.replicate]; rfl) ?_
  repeat tm_at "zs"
  refine bb6 e0 ?_
  tm_at "zs"
  tm_at "zs"
  tm_at "zs"
  refine af4 (fun ρ ρ' => ∃ (many : Nat) (F : D), many ≤ 24 ∧ Feed 2 F ∧ ρ' = up ρ [(1, oD F), (2, oI (many : Int))]) ?_ ?_
  · repeat tm_at "zs"
    refine a1s hF0 (by decide) (by decide) (by decide) fun v F1 hF1 v0 v1 => ?_
    repeat tm_at "zs"
    refine ao4 (fun e => ?_) fun e => ?_
    · repeat tm_at "zs"
      exact ⟨24, F1, Nat.le_refl _, hF1.le (by decide), rfl⟩
    · repeat tm_at "zs"
      refine a1s hF1 (by decide) (by decide) (by decide) fun u F2 hF2 u0 u1 => ?_
      obtain ⟨u, rfl⟩ := Int.eq_ofNat_of_zero_le u0
      repeat tm_at "zs"
      exact ⟨1 + u, F2, by omega, hF2.le (by decide), by rw [show ((1 + u : Nat) : Int) = 1 + (u : Int) by omega]; rfl⟩
  rintro _ ⟨many, F, m24, hF, rfl⟩
  show WC _ _
  repeat tm_at "zs"
  refine as6 hF (by decide) fun xs F2 hF2 RV x12 => ?_
  repeat tm_at "zs"
  refine b0f RV x12 m24 hF2 (by decide) fun ps0 F3 b hF3 PO => ?_
  have D0 := PO.drn (by decide)
  have SX := a8k (o := b) D0 (by have := PO.ln; omega)
  have TS := v7 (o := true) (a4y (a9z ps0))
  have SS : (a9z ps0).Pairwise fun a b => a3g (pgD a) (pgD b) = true := List.pairwise_mergeSort bq5 bi7 ps0
  have PD : ∀ x ∈ a9z ps0, DQ x.2 ∧ x.1 ≤ 76800 := fun x hx => by
    have := PO.pg x ((b1r ps0).mem_iff.mp hx)
    exact ⟨this.1, by have := this.2; omega⟩
  have PL : (a9z ps0).length ≤ 24 := by rw [(b1r ps0).length_eq]; exact PO.ln
  repeat tm_at "zs"
  generalize a9z ps0 = ps at *
  refine ar3 (I := fun ρ i acc ρ' => ∃ (rs : List Ren) (F' : D), Feed (2200 + 100 * i) F' ∧ rs.length = i ∧ (∀ r ∈ rs, RenOk r ps) ∧ acc = rs.map Ren.d ∧ ρ' = up ρ [(1, oD F')]) (by decide) ?_ ?_ ?_
  · exact ⟨[], F3, hF3.le (by decide), rfl, fun r h => (by cases h), rfl, rfl⟩
  · rintro i acc ρ' hi _ ⟨rs, F', hF', rl, hr, rfl, rfl⟩
    repeat tm_at "zs"
    refine af5 (fun x hx => (PD x hx).2) PL hF' (by omega) fun r F4 hF4 R => ?_
    have ro2 : owned r.d = false := rfl
    repeat tm_at "zs"
    exact ⟨rs ++ [r], F4, hF4.le (by omega), by rw [List.length_append, rl]; rfl, fun x hx => (List.mem_append.mp hx).elim (hr x) fun h => by rw [List.mem_singleton.mp h]; exact R, by rw [List.map_append]; rfl, rfl⟩
  rintro _ _ _ ⟨rs, F4, hF4, rl, hr, rfl, rfl⟩
  obtain ⟨r1, r2, rfl⟩ : ∃ r1 r2, rs = [r1, r2] := by
    match rs, rl with
    | [a, b], _ => exact ⟨a, b, rfl⟩
  have R1 := hr r1 (by simp)
  have R2 := hr r2 (by simp)
  have T1 := as5 R1 PD SS
  have T2 := as5 R2 PD SS
  have DP : ∀ x ∈ ps, Drn x := fun x hx => (T1.A x hx).1
  have RP := ac3 DP PL
  obtain ⟨t, HT⟩ := b0e R1 R2 DP PL
  have HT1 := HT true
  have HT2 := HT false
  have o1 : owned r1.d = false := rfl
  have o2 : owned r2.d = false := rfl
  have FN : frL [r1.d, r2.d] = [r1.d, r2.d] := rfl
  refine tx (ρ' := [oD (.scr ns), oD F4, oI (many : Int), oD (rvD xs), oD (.tup (ps.map pgD)), none, none, none, none, none, none, none, none, none, none, none, none, none, none, none]) rfl ?_
  show WC (putS 5 (.lst true [r1.d, r2.d]) _) _
  have FI := hF4
  clear HT
  repeat tm_at "zs"
  have SL : slD (.lst false [r1.d, r2.d]) none (some 1) = some (.lst true [r1.d]) := rfl
  have AL : a5s (.lst false [r1.d, r2.d]) (.lst true [r1.d]) = some (.lst true [r1.d, r2.d, r1.d]) := rfl
  repeat tm_at "zs"
  refine b7z (enc := Ren.d) (xs := [r1, r2, r1]) (I := fun ρ pre ρ' => ∃ x7 x9 x10 x11 x12 x13 x14, OwnS x7 ∧ OwnS x9 ∧ OwnS x10 ∧ OwnS x11 ∧ OwnS x12 ∧ OwnS x13 ∧ OwnS x14 ∧ ρ' = up ρ [(7, x7), (9, x9), (10, x10), (11, x11), (12, x12), (13, x13), (14, x14)]) ?_ ?_ ?_
  · exact ⟨none, none, none, none, none, none, none, .none, .none, .none, .none, .none, .none, .none, rfl⟩
  · rintro pre r post _ er ⟨x7, x9, x10, x11, x12, x13, x14, h7, h9, h10, h11, h12, h13, h14, rfl⟩
    have hr : r ∈ [r1, r2] := by
      have : r ∈ [r1, r2, r1] := by rw [er]; simp
      simp only [List.mem_cons, List.not_mem_nil, or_false] at this ⊢
      rcases this with h | h | h
      · exact .inl h
      · exact .inr h
      · exact .inl h
    obtain ⟨R, TR⟩ : RenOk r ps ∧ Turn r ps := by
      rcases (by simpa using hr : r = r1 ∨ r = r2) with rfl | rfl
      · exact ⟨R1, T1⟩
      · exact ⟨R2, T2⟩
    have hh := R.h2
    have pll : (ps.map pgD).length = ps.length := List.length_map _
    generalize D.lst false [r1.d, r2.d] = L5
    unfold Ren.d
    refine a3k ?_
    repeat tm_at "zs"
    refine a9c (enc := pgD) (xs := ps) (fun x => pgD (r.tb.page r.h x)) (by omega) ?_ ?_
    · intro x hx
      have NOp : owned (pgD x) = false := rfl
      have NOq : owned (pgD (r.tb.page r.h x)) = false := rfl
      repeat tm_at "zs"
      refine b30 (t := r.tb) (h := r.h) (x := x) (a7t R) (TR.A x hx).1 (TR.A x hx).2.1 (TR.A x hx).2.2.1 (by omega) ?_
      repeat tm_at "zs"
      refine ⟨rfl, ?_⟩
      repeat tm_at "zs"
      rfl
    rw [show (ps.map fun x => pgD (r.tb.page r.h x)) = (ps.map (r.tb.page r.h)).map pgD by rw [List.map_map]; rfl]
    have TB := TR.B
    have TC := TR.C
    have TD := TR.D
    have dl : (ps.map (r.tb.page r.h)).length ≤ 24 := by rw [List.length_map]; exact PL
    have RK := fun {Q : D → List D → Prop} => a5j (t := r.tb) (a7t R) (h := r.h) (ps := ps) TR.A (by omega) (by omega) (Q := Q)
    have RK2 := fun {Q : D → List D → Prop} => a5j (t := r.tb.swap) (a8c R) (h := 0 - r.h) (ps := ps.map (r.tb.page r.h)) TC (by omega) (by omega) (Q := Q)
    rw [TB] at RK
    rw [TD] at RK2
    generalize ps.map (r.tb.page r.h) = due at *
    have DD : ∀ x ∈ due, Drn x := fun x hx => (TC x hx).1
    have TU := v7 (o := true) (a4y due)
    have LU : a9t [.tup (due.map pgD)] = some (.lst true (due.map pgD)) := rfl
    have RD := ac3 DD dl
    have SD := aq9 (ps := due) DD (by omega)
    rw [TB] at SD
    have NE := b0z DD
    refine tx (ρ' := [oD (.scr ns), oD F4, oI (many : Int), oD (rvD xs), oD (.tup (ps.map pgD)), oD L5, oD (.str t), oD (r.tb.rD r.h), none, oD (.tup (r.w.map w2D)), oD (.tup (r.s.map s2D)), oD (.tup (r.p.map rwD)), oI r.h, x13, x14, none, none, none, none, none]) rfl ?_
    repeat tm_at "zs"
    refine RK ?_
    repeat tm_at "zs"
    refine b0o (t := r.tb) (ag1 R) (h := r.h) (by omega) ?_
    unfold Tb.rD
    repeat tm_at "zs"
    refine RK2 ?_
    repeat tm_at "zs"
    exact ⟨_, _, _, _, _, _, _, .own _, .own _, .own _, .own _, .own _, .own _, .own _, rfl⟩
  rintro _ ⟨x7, x9, x10, x11, x12, x13, x14, h7, h9, h10, h11, h12, h13, h14, rfl⟩
  have IX0 : ixD (.lst false [r1.d, r2.d]) (.int 0) = some r1.d := rfl
  have SL3 : slD r1.d none (some 3) = some (.tup [.tup (r1.w.map w2D), .tup (r1.s.map s2D), .tup (r1.p.map rwD)]) := rfl
  have L := ag1 R1
  have TS := b2w (a7t R1)
  have R0 := fun {Q : D → List D → Prop} => a5j (t := r1.tb.same) TS (h := 0) (ps := ps) (fun x hx => by
    have e : r1.tb.same.page 0 x = x := by
      show ((((x.1 : Int) + 0).toNat : Nat), r1.tb.same.deed x.2) = x
      rw [aa4]
      exact Prod.ext (by show ((x.1 : Int) + 0).toNat = x.1; omega) rfl
    exact ⟨DP x hx, b57 (T1.A x hx).2.1, by omega, by rw [e]; exact DP x hx⟩) (by omega) (by decide) (Q := Q)
  rw [show ps.map (r1.tb.same.page 0) = ps by
    refine (List.map_congr_left (g := id) fun x _ => ?_).trans (List.map_id _)
    show ((((x.1 : Int) + 0).toNat : Nat), r1.tb.same.deed x.2) = x
    rw [aa4]
    exact Prod.ext (by show ((x.1 : Int) + 0).toNat = x.1; omega) rfl, a9s SS] at R0
  repeat tm_at "zs"
  refine a6d (mpD seD) (Nat.le_of_ble_eq_true rfl) ?_ ?_
  · intro d hd
    have PR : PrD d := by
      simp only [List.mem_cons, List.not_mem_nil, or_false] at hd
      rcases hd with rfl | rfl | rfl
      · exact b66 L.w
      · exact b6w L.s
      · exact b5s L.p
    obtain ⟨ds, rfl, dl, de⟩ := PR
    repeat tm_at "zs"
    refine a6d seD (by omega) ?_ ?_
    · intro x hx
      obtain ⟨a, b, rfl, oa, ob, fa, fb⟩ := de x hx
      repeat tm_at "zs"
      refine ⟨rfl, ?_⟩
      repeat tm_at "zs"
      rfl
    have SP : a0d (ds.map seD) = true := a4s fun d hd => by
      obtain ⟨x, hx, rfl⟩ := List.mem_map.mp hd
      obtain ⟨a, b, rfl, _⟩ := de x hx
      rfl
    have TU := v7 (o := true) SP
    refine tx (ρ' := [oD (.scr ns), oD F4, oI (many : Int), oD (rvD xs), oD (.tup (ps.map pgD)), oD (.lst false [r1.d, r2.d]), oD (.str t), x7, none, x9, x10, x11, x12, x13, x14, none, oD (.tup ds), none, none, none]) rfl ?_
    repeat tm_at "zs"
    refine ⟨rfl, ?_⟩
    repeat tm_at "zs"
    rfl
  refine tx (ρ' := [oD (.scr ns), oD F4, oI (many : Int), oD (rvD xs), oD (.tup (ps.map pgD)), oD (.lst false [r1.d, r2.d]), oD (.str t), x7, none, x9, x10, x11, x12, x13, x14, none, none, none, none, none]) rfl ?_
  rw [List.map_cons, List.map_cons, List.map_cons, List.map_nil, bp1, bj9, bo3]
  have RE : a5t [.tup []] = some (.str (PyData.shown (.tuple []))) := af1 rfl ((Shows.tup ShowsL.nil).up (by decide) (by decide))
  have RN := fun {Q : D → List D → Prop} => a5j (t := ⟨[], [], []⟩) ⟨List.nodup_nil, List.nodup_nil, List.nodup_nil, rfl⟩ (h := 5) (ps := []) (fun x hx => by cases hx) (by decide) (by decide) (Q := Q)
  rw [show a9z (([] : List a2n).map (Tb.page ⟨[], [], []⟩ 5)) = [] from List.mergeSort_nil] at RN
  repeat tm_at "zs"
  refine R0 ?_
  repeat tm_at "zs"
  refine RN ?_
  repeat tm_at "zs"
  refine ro RE ?_
  repeat tm_at "zs"
  exact ⟨rfl, rfl⟩
end K78
namespace K78
open PySem L2 PySem.Spec PyProof.Rows Dv
theorem all_mk {l : PySem.W.OpenLaw} {w : World} {K : PySem.W.Frag} {h : Heap} {mg : Str → Option Value} {fl : Addr} (X : K.In h) (G : h.Ns mainGlobals mg) (hfl : mg "law" = some (.ref fl))
    {f0 f1 f2 f3 f4 f5 f6 f7 f8 f9 f10 f11 f12 f13 f14 f15 : Addr} {od0 an0 od1 an1 od2 an2 od3 an3 od4 an4 od5 an5 od6 an6 od7 an7 od8 an8 od9 an9 od10 an10 od11 an11 od12 an12 od13 an13 od14 an14 od15 an15 : Option Addr} {sl0 sl1 sl2 sl3 sl4 sl5 sl6 sl7 sl8 sl9 sl10 sl11 sl12 sl13 sl14 sl15 : Array (Option Value)} {oc0 kV0 dc0 pm0 cd0 ct0 oc1 kV1 dc1 pm1 cd1 ct1 oc2 kV2 dc2 pm2 cd2 ct2 oc3 kV3 dc3 pm3 cd3 ct3 oc4 kV4 dc4 pm4 cd4 ct4 oc5 kV5 dc5 pm5 cd5 ct5 oc6 kV6 dc6 pm6 cd6 ct6 oc7 kV7 dc7 pm7 cd7 ct7 oc8 kV8 dc8 pm8 cd8 ct8 oc9 kV9 dc9 pm9 cd9 ct9 oc10 kV10 dc10 pm10 cd10 ct10 oc11 kV11 dc11 pm11 cd11 ct11 oc12 kV12 dc12 pm12 cd12 ct12 oc13 kV13 dc13 pm13 cd13 ct13 oc14 kV14 dc14 pm14 cd14 ct14 oc15 kV15 dc15 pm15 cd15 ct15 : Value}
    (a0 : PySem.W.nsIn K mainGlobals "otherwise" = some (some (.ref f0)))
    (a1 : PySem.W.nsIn K mainGlobals "deed_renamed" = some (some (.ref f1)))
    (a2 : PySem.W.nsIn K mainGlobals "renamed" = some (some (.ref f2)))
    (a3 : PySem.W.nsIn K mainGlobals "_law_tape" = some (some (.ref f3)))
    (a4 : PySem.W.nsIn K mainGlobals "_law_pick" = some (some (.ref f4)))
    (a5 : PySem.W.nsIn K mainGlobals "_law_river" = some (some (.ref f5)))
    (a6 : PySem.W.nsIn K mainGlobals "_law_stamps" = some (some (.ref f6)))
    (a7 : PySem.W.nsIn K mainGlobals "_law_said" = some (some (.ref f7)))
    (a8 : PySem.W.nsIn K mainGlobals "_law_page_deed" = some (some (.ref f8)))
    (a9 : PySem.W.nsIn K mainGlobals "_law_pages" = some (some (.ref f9)))
    (a10 : PySem.W.nsIn K mainGlobals "_law_rising" = some (some (.ref f10)))
    (a11 : PySem.W.nsIn K mainGlobals "_law_renaming" = some (some (.ref f11)))
    (a12 : PySem.W.nsIn K mainGlobals "_law_stamp_by" = some (some (.ref f12)))
    (a13 : PySem.W.nsIn K mainGlobals "_law_page_by" = some (some (.ref f13)))
    (a14 : PySem.W.nsIn K mainGlobals "_law_contrary" = some (some (.ref f14)))
    (a15 : PySem.W.nsIn K mainGlobals "law" = some (some (.ref f15)))
    (l0 : K.lookup f0 = some ⟨oc0, od0, .func (PySem.W.fnOf "otherwise" "otherwise" (defArgs a0q) (defBody a0q) (defScope a0q) .none kV0 dc0 pm0 an0 cd0 ct0), sl0⟩) (c0 : PySem.W.codeIn K cd0 "otherwise" = true) (k0 : PySem.W.keepIn K (.ref f0) = true)
    (l1 : K.lookup f1 = some ⟨oc1, od1, .func (PySem.W.fnOf "deed_renamed" "deed_renamed" (defArgs a06) (defBody a06) (defScope a06) .none kV1 dc1 pm1 an1 cd1 ct1), sl1⟩) (c1 : PySem.W.codeIn K cd1 "deed_renamed" = true) (k1 : PySem.W.keepIn K (.ref f1) = true)
    (l2 : K.lookup f2 = some ⟨oc2, od2, .func (PySem.W.fnOf "renamed" "renamed" (defArgs a1l) (defBody a1l) (defScope a1l) .none kV2 dc2 pm2 an2 cd2 ct2), sl2⟩) (c2 : PySem.W.codeIn K cd2 "renamed" = true) (k2 : PySem.W.keepIn K (.ref f2) = true)
    (l3 : K.lookup f3 = some ⟨oc3, od3, .func (PySem.W.fnOf "_law_tape" "_law_tape" (defArgs a0t) (defBody a0t) (defScope a0t) .none kV3 dc3 pm3 an3 cd3 ct3), sl3⟩) (c3 : PySem.W.codeIn K cd3 "_law_tape" = true) (k3 : PySem.W.keepIn K (.ref f3) = true)
    (l4 : K.lookup f4 = some ⟨oc4, od4, .func (PySem.W.fnOf "_law_pick" "_law_pick" (defArgs a0g) (defBody a0g) (defScope a0g) .none kV4 dc4 pm4 an4 cd4 ct4), sl4⟩) (c4 : PySem.W.codeIn K cd4 "_law_pick" = true) (k4 : PySem.W.keepIn K (.ref f4) = true)
    (l5 : K.lookup f5 = some ⟨oc5, od5, .func (PySem.W.fnOf "_law_river" "_law_river" (defArgs a0a) (defBody a0a) (defScope a0a) .none kV5 dc5 pm5 an5 cd5 ct5), sl5⟩) (c5 : PySem.W.codeIn K cd5 "_law_river" = true) (k5 : PySem.W.keepIn K (.ref f5) = true)
    (l6 : K.lookup f6 = some ⟨oc6, od6, .func (PySem.W.fnOf "_law_stamps" "_law_stamps" (defArgs w6) (defBody w6) (defScope w6) .none kV6 dc6 pm6 an6 cd6 ct6), sl6⟩) (c6 : PySem.W.codeIn K cd6 "_law_stamps" = true) (k6 : PySem.W.keepIn K (.ref f6) = true)
    (l7 : K.lookup f7 = some ⟨oc7, od7, .func (PySem.W.fnOf "_law_said" "_law_said" (defArgs a0b) (defBody a0b) (defScope a0b) .none kV7 dc7 pm7 an7 cd7 ct7), sl7⟩) (c7 : PySem.W.codeIn K cd7 "_law_said" = true) (k7 : PySem.W.keepIn K (.ref f7) = true)
    (l8 : K.lookup f8 = some ⟨oc8, od8, .func (PySem.W.fnOf "_law_page_deed" "_law_page_deed" (defArgs a05) (defBody a05) (defScope a05) .none kV8 dc8 pm8 an8 cd8 ct8), sl8⟩) (c8 : PySem.W.codeIn K cd8 "_law_page_deed" = true) (k8 : PySem.W.keepIn K (.ref f8) = true)
    (l9 : K.lookup f9 = some ⟨oc9, od9, .func (PySem.W.fnOf "_law_pages" "_law_pages" (defArgs a0j) (defBody a0j) (defScope a0j) .none kV9 dc9 pm9 an9 cd9 ct9), sl9⟩) (c9 : PySem.W.codeIn K cd9 "_law_pages" = true) (k9 : PySem.W.keepIn K (.ref f9) = true)
    (l10 : K.lookup f10 = some ⟨oc10, od10, .func (PySem.W.fnOf "_law_rising" "_law_rising" (defArgs a0h) (defBody a0h) (defScope a0h) .none kV10 dc10 pm10 an10 cd10 ct10), sl10⟩) (c10 : PySem.W.codeIn K cd10 "_law_rising" = true) (k10 : PySem.W.keepIn K (.ref f10) = true)
    (l11 : K.lookup f11 = some ⟨oc11, od11, .func (PySem.W.fnOf "_law_renaming" "_law_renaming" (defArgs z8) (defBody z8) (defScope z8) .none kV11 dc11 pm11 an11 cd11 ct11), sl11⟩) (c11 : PySem.W.codeIn K cd11 "_law_renaming" = true) (k11 : PySem.W.keepIn K (.ref f11) = true)
    (l12 : K.lookup f12 = some ⟨oc12, od12, .func (PySem.W.fnOf "_law_stamp_by" "_law_stamp_by" (defArgs a03) (defBody a03) (defScope a03) .none kV12 dc12 pm12 an12 cd12 ct12), sl12⟩) (c12 : PySem.W.codeIn K cd12 "_law_stamp_by" = true) (k12 : PySem.W.keepIn K (.ref f12) = true)
    (l13 : K.lookup f13 = some ⟨oc13, od13, .func (PySem.W.fnOf "_law_page_by" "_law_page_by" (defArgs a07) (defBody a07) (defScope a07) .none kV13 dc13 pm13 an13 cd13 ct13), sl13⟩) (c13 : PySem.W.codeIn K cd13 "_law_page_by" = true) (k13 : PySem.W.keepIn K (.ref f13) = true)
    (l14 : K.lookup f14 = some ⟨oc14, od14, .func (PySem.W.fnOf "_law_contrary" "_law_contrary" (defArgs a00) (defBody a00) (defScope a00) .none kV14 dc14 pm14 an14 cd14 ct14), sl14⟩) (c14 : PySem.W.codeIn K cd14 "_law_contrary" = true) (k14 : PySem.W.keepIn K (.ref f14) = true)
    (l15 : K.lookup f15 = some ⟨oc15, od15, .func (PySem.W.fnOf "law" "law" (defArgs a5w) (defBody a5w) (defScope a5w) .none kV15 dc15 pm15 an15 cd15 ct15), sl15⟩) (c15 : PySem.W.codeIn K cd15 "law" = true) (k15 : PySem.W.keepIn K (.ref f15) = true)
    (z_dict : PySem.W.nsIn K mainGlobals "dict" = some none)
    (z_enumerate : PySem.W.nsIn K mainGlobals "enumerate" = some none)
    (z_isinstance : PySem.W.nsIn K mainGlobals "isinstance" = some none)
    (z_len : PySem.W.nsIn K mainGlobals "len" = some none)
    (z_list : PySem.W.nsIn K mainGlobals "list" = some none)
    (z_min : PySem.W.nsIn K mainGlobals "min" = some none)
    (z_range : PySem.W.nsIn K mainGlobals "range" = some none)
    (z_repr : PySem.W.nsIn K mainGlobals "repr" = some none)
    (z_sorted : PySem.W.nsIn K mainGlobals "sorted" = some none)
    (z_tuple : PySem.W.nsIn K mainGlobals "tuple" = some none)
    (z_zip : PySem.W.nsIn K mainGlobals "zip" = some none) :
    ∃ (fd : FuncData) (cl : Str → Option Addr), (∀ (s : Shared) (v : Value), BindsTo s fd ⟨[v], []⟩ [("_law_script", v)]) ∧ ∀ base : Heap, K.In base → base.Ns mainGlobals mg → FnG l.prog w K mg base CX0 5 fl fd ["_law_script"] (spD K cl [false] as4) := by
  show_term
  have e := (PySem.W.mg_of X G a15).symm.trans hfl
  cases e
  let fa : Nat → Addr := fun i => [f0, f1, f2, f3, f4, f5, f6, f7, f8, f9, f10, f11, f12, f13, f14, fl].getD i 0
  let fdo : FuncData := PySem.W.fnOf "law" "law" (defArgs a5w) (defBody a5w) (defScope a5w) .none kV15 dc15 pm15 an15 cd15 ct15
  let fd : Nat → FuncData := fun i => [PySem.W.fnOf "otherwise" "otherwise" (defArgs a0q) (defBody a0q) (defScope a0q) .none kV0 dc0 pm0 an0 cd0 ct0, PySem.W.fnOf "deed_renamed" "deed_renamed" (defArgs a06) (defBody a06) (defScope a06) .none kV1 dc1 pm1 an1 cd1 ct1, PySem.W.fnOf "renamed" "renamed" (defArgs a1l) (defBody a1l) (defScope a1l) .none kV2 dc2 pm2 an2 cd2 ct2, PySem.W.fnOf "_law_tape" "_law_tape" (defArgs a0t) (defBody a0t) (defScope a0t) .none kV3 dc3 pm3 an3 cd3 ct3, PySem.W.fnOf "_law_pick" "_law_pick" (defArgs a0g) (defBody a0g) (defScope a0g) .none kV4 dc4 pm4 an4 cd4 ct4, PySem.W.fnOf "_law_river" "_law_river" (defArgs a0a) (defBody a0a) (defScope a0a) .none kV5 dc5 pm5 an5 cd5 ct5, PySem.W.fnOf "_law_stamps" "_law_stamps" (defArgs w6) (defBody w6) (defScope w6) .none kV6 dc6 pm6 an6 cd6 ct6, PySem.W.fnOf "_law_said" "_law_said" (defArgs a0b) (defBody a0b) (defScope a0b) .none kV7 dc7 pm7 an7 cd7 ct7, PySem.W.fnOf "_law_page_deed" "_law_page_deed" (defArgs a05) (defBody a05) (defScope a05) .none kV8 dc8 pm8 an8 cd8 ct8, PySem.W.fnOf "_law_pages" "_law_pages" (defArgs a0j) (defBody a0j) (defScope a0j) .none kV9 dc9 pm9 an9 cd9 ct9, PySem.W.fnOf "_law_rising" "_law_rising" (defArgs a0h) (defBody a0h) (defScope a0h) .none kV10 dc10 pm10 an10 cd10 ct10, PySem.W.fnOf "_law_renaming" "_law_renaming" (defArgs z8) (defBody z8) (defScope z8) .none kV11 dc11 pm11 an11 cd11 ct11, PySem.W.fnOf "_law_stamp_by" "_law_stamp_by" (defArgs a03) (defBody a03) (defScope a03) .none kV12 dc12 pm12 an12 cd12 ct12, PySem.W.fnOf "_law_page_by" "_law_page_by" (defArgs a07) (defBody a07) (defScope a07) .none kV13 dc13 pm13 an13 cd13 ct13, PySem.W.fnOf "_law_contrary" "_law_contrary" (defArgs a00) (defBody a00) (defScope a00) .none kV14 dc14 pm14 an14 cd14 ct14, PySem.W.fnOf "law" "law" (defArgs a5w) (defBody a5w) (defScope a5w) .none kV15 dc15 pm15 an15 cd15 ct15].getD i fdo
  let ca : Nat → Addr := fun _ => 0
  let cl : Str → Option Addr := fun _ => none
  have T : Txt K mg fa fd ca cl := {
    F0 := fun_mk (st := a0q) l0 c0 k0
    b0 := (fun_mk (st := a0q) l0 c0 k0).binds (ps := a2o) fun _ _ _ _ _ _ us hl => match us, hl with | [_, _], _ => rfl
    g0 := PySem.W.mg_of X G a0
    F1 := fun_mk (st := a06) l1 c1 k1
    b1 := (fun_mk (st := a06) l1 c1 k1).binds (ps := a1o) fun _ _ _ _ _ _ us hl => match us, hl with | [_, _, _, _], _ => rfl
    g1 := PySem.W.mg_of X G a1
    F2 := fun_mk (st := a1l) l2 c2 k2
    b2 := (fun_mk (st := a1l) l2 c2 k2).binds (ps := a4b) fun _ _ _ _ _ _ us hl => match us, hl with | [_, _, _, _, _], _ => rfl
    g2 := PySem.W.mg_of X G a2
    F3 := fun_mk (st := a0t) l3 c3 k3
    b3 := (fun_mk (st := a0t) l3 c3 k3).binds (ps := a2r) fun _ _ _ _ _ _ us hl => match us, hl with | [_], _ => rfl
    g3 := PySem.W.mg_of X G a3
    F4 := fun_mk (st := a0g) l4 c4 k4
    b4 := (fun_mk (st := a0g) l4 c4 k4).binds (ps := a04) fun _ _ _ _ _ _ us hl => match us, hl with | [_, _], _ => rfl
    g4 := PySem.W.mg_of X G a4
    F5 := fun_mk (st := a0a) l5 c5 k5
    b5 := (fun_mk (st := a0a) l5 c5 k5).binds (ps := a1j) fun _ _ _ _ _ _ us hl => match us, hl with | [_], _ => rfl
    g5 := PySem.W.mg_of X G a5
    F6 := fun_mk (st := w6) l6 c6 k6
    b6 := (fun_mk (st := w6) l6 c6 k6).binds (ps := a1c) fun _ _ _ _ _ _ us hl => match us, hl with | [_], _ => rfl
    g6 := PySem.W.mg_of X G a6
    F7 := fun_mk (st := a0b) l7 c7 k7
    b7 := (fun_mk (st := a0b) l7 c7 k7).binds (ps := a2a) fun _ _ _ _ _ _ us hl => match us, hl with | [_, _, _], _ => rfl
    g7 := PySem.W.mg_of X G a7
    F8 := fun_mk (st := a05) l8 c8 k8
    b8 := (fun_mk (st := a05) l8 c8 k8).binds (ps := a0v) fun _ _ _ _ _ _ us hl => match us, hl with | [_, _, _], _ => rfl
    g8 := PySem.W.mg_of X G a8
    F9 := fun_mk (st := a0j) l9 c9 k9
    b9 := (fun_mk (st := a0j) l9 c9 k9).binds (ps := a2e) fun _ _ _ _ _ _ us hl => match us, hl with | [_, _, _], _ => rfl
    g9 := PySem.W.mg_of X G a9
    F10 := fun_mk (st := a0h) l10 c10 k10
    b10 := (fun_mk (st := a0h) l10 c10 k10).binds (ps := a1v) fun _ _ _ _ _ _ us hl => match us, hl with | [_, _, _], _ => rfl
    g10 := PySem.W.mg_of X G a10
    F11 := fun_mk (st := z8) l11 c11 k11
    b11 := (fun_mk (st := z8) l11 c11 k11).binds (ps := a1a) fun _ _ _ _ _ _ us hl => match us, hl with | [_, _], _ => rfl
    g11 := PySem.W.mg_of X G a11
    F12 := fun_mk (st := a03) l12 c12 k12
    b12 := (fun_mk (st := a03) l12 c12 k12).binds (ps := a1b) fun _ _ _ _ _ _ us hl => match us, hl with | [_, _], _ => rfl
    g12 := PySem.W.mg_of X G a12
    F13 := fun_mk (st := a07) l13 c13 k13
    b13 := (fun_mk (st := a07) l13 c13 k13).binds (ps := a1r) fun _ _ _ _ _ _ us hl => match us, hl with | [_, _], _ => rfl
    g13 := PySem.W.mg_of X G a13
    F14 := fun_mk (st := a00) l14 c14 k14
    b14 := (fun_mk (st := a00) l14 c14 k14).binds (ps := a1e) fun _ _ _ _ _ _ us hl => match us, hl with | [_], _ => rfl
    g14 := PySem.W.mg_of X G a14
    F15 := fun_mk (st := a5w) l15 c15 k15
    b15 := (fun_mk (st := a5w) l15 c15 k15).binds (ps := ak2) fun _ _ _ _ _ _ us hl => match us, hl with | [_], _ => rfl
    g15 := PySem.W.mg_of X G a15
    n_dict := PySem.W.mg_none_of X G z_dict
    n_enumerate := PySem.W.mg_none_of X G z_enumerate
    n_isinstance := PySem.W.mg_none_of X G z_isinstance
    n_len := PySem.W.mg_none_of X G z_len
    n_list := PySem.W.mg_none_of X G z_list
    n_min := PySem.W.mg_none_of X G z_min
    n_range := PySem.W.mg_none_of X G z_range
    n_repr := PySem.W.mg_none_of X G z_repr
    n_sorted := PySem.W.mg_none_of X G z_sorted
    n_tuple := PySem.W.mg_none_of X G z_tuple
    n_zip := PySem.W.mg_none_of X G z_zip }
  exact ⟨fdo, cl, fun s v => .of_eq rfl, fun base _ _ => ok_law T⟩
end K78
open PySem PySem.W PyProof.Rows in
set_option maxRecDepth 100000 in
set_option maxHeartbeats 0 in
theorem PySem.Challenge.cw_logdrive_k78_names_turned_holds : PySem.Challenge.rw_logdrive_k78_names_turned.Holds := by
  w_on; o_law; k_head; (case hw => w_witness2)
  k_fill
  refine Dv.b3s (l := PySem.Challenge.rw_logdrive_k78_names_turned) (k := 5) (CX := fun _ => L2.CX0) (m := K78.as4) (x := "_law_script") rfl rfl ⟨rfl, by decide, by decide⟩ (fun w h Y => PySem.W.kIn_of Y) ?F K78.b1c (fun _ _ _ _ _ z => z)
  case F =>
    intro w mg fl h KX G hmg
    refine' K78.all_mk KX G hmg ?a0 ?a1 ?a2 ?a3 ?a4 ?a5 ?a6 ?a7 ?a8 ?a9 ?a10 ?a11 ?a12 ?a13 ?a14 ?a15 ?l0 ?c0 ?k0 ?l1 ?c1 ?k1 ?l2 ?c2 ?k2 ?l3 ?c3 ?k3 ?l4 ?c4 ?k4 ?l5 ?c5 ?k5 ?l6 ?c6 ?k6 ?l7 ?c7 ?k7 ?l8 ?c8 ?k8 ?l9 ?c9 ?k9 ?l10 ?c10 ?k10 ?l11 ?c11 ?k11 ?l12 ?c12 ?k12 ?l13 ?c13 ?k13 ?l14 ?c14 ?k14 ?l15 ?c15 ?k15 ?z_dict ?z_enumerate ?z_isinstance ?z_len ?z_list ?z_min ?z_range ?z_repr ?z_sorted ?z_tuple ?z_zip
    (case a0 => k_is)
    (case a1 => k_is)
    (case a2 => k_is)
    (case a3 => k_is)
    (case a4 => k_is)
    (case a5 => k_is)
    (case a6 => k_is)
    (case a7 => k_is)
    (case a8 => k_is)
    (case a9 => k_is)
    (case a10 => k_is)
    (case a11 => k_is)
    (case a12 => k_is)
    (case a13 => k_is)
    (case a14 => k_is)
    (case a15 => k_is)
    (case l0 => k_is)
    (case c0 => k_is)
    (case k0 => k_is)
    (case l1 => k_is)
    (case c1 => k_is)
    (case k1 => k_is)
    (case l2 => k_is)
    (case c2 => k_is)
    (case k2 => k_is)
    (case l3 => k_is)
    (case c3 => k_is)
    (case k3 => k_is)
    (case l4 => k_is)
    (case c4 => k_is)
    (case k4 => k_is)
    (case l5 => k_is)
    (case c5 => k_is)
    (case k5 => k_is)
    (case l6 => k_is)
    (case c6 => k_is)
    (case k6 => k_is)
    (case l7 => k_is)
    (case c7 => k_is)
    (case k7 => k_is)
    (case l8 => k_is)
    (case c8 => k_is)
    (case k8 => k_is)
    (case l9 => k_is)
    (case c9 => k_is)
    (case k9 => k_is)
    (case l10 => k_is)
    (case c10 => k_is)
    (case k10 => k_is)
    (case l11 => k_is)
    (case c11 => k_is)
    (case k11 => k_is)
    (case l12 => k_is)
    (case c12 => k_is)
    (case k12 => k_is)
    (case l13 => k_is)
    (case c13 => k_is)
    (case k13 => k_is)
    (case l14 => k_is)
    (case c14 => k_is)
    (case k14 => k_is)
    (case l15 => k_is)
    (case c15 => k_is)
    (case k15 => k_is)
    (case z_dict => k_is)
    (case z_enumerate => k_is)
    (case z_isinstance => k_is)
    (case z_len => k_is)
    (case z_list => k_is)
    (case z_min => k_is)
    (case z_range => k_is)
    (case z_repr => k_is)
    (case z_sorted => k_is)
    (case z_tuple => k_is)
    (case z_zip => k_is)
