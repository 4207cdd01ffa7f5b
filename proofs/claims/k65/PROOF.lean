import PyProof.Rows.All
import Wide.All
import OpenK.AllK
import Wide.FinOn
import HandS.ForMost
import HandS.Exc
import HandS.ExcOwn
import HandS.TryOnly
import HandS.TryMany
import HandS.ExcInit
import HandS.ExcIs
import HandS.ExcField
import HandS.Wide
import HandS.TupAny
import HandS.TupLe
import HandS.TupMul
import HandS.Conv
import HandS.Style
import HandS.Zip
import HandS.Rev
import HandS.IsInst
import HandS.Strs
import HandS.SetFor
import HandS.WordsExc
import HandS.DictTup
import HandS.DictComp
import KE.KDictKeyed
import KE.KeyNested
import KE.GoesEnum
import KE.KDictWalk
import KE.KDictLaw
import KE.KExcIs
import KE.DataFind
import HandS.Deep
import HandS.OwnEq
import HandS.RaiseMore
import PyProof.ReprRoads
import PyProof.InstNe
import HandS.Head0
import HandS.Head1
import HandS.Head2
import HandS.HeadEnd
import HandS.HeadHook4
import HandS.EndBits
import PyProof.ReprLen
import KE.DataEq
import KE.GoesRaise
import PySem.Challenge.RW_tellsless_k65_whole_first_rounds_of_mach
-- PdA
set_option Elab.async false
set_option linter.all false
set_option maxRecDepth 100000
set_option maxHeartbeats 4000000
/-! PdA: data without addresses (D), what it means over the abstract heap, and readings over it. -/
namespace PD
open PySem PySem.Spec PyProof.Rows L2

/-- a value as data: tuples are what is in them -/
inductive D where
  | non | bl (b : Bool) | int (i : Int) | str (x : Str) | tup (xs : List D) | fl (xs : List D) | ref (a : Addr) | ty (n : String)

mutual
/-- v is d, over the abstract heap H -/
def RD (K : PySem.W.Frag) (H : Hp) : V → D → Prop
  | v, .non => v = .non
  | v, .bl b => v = .bl b
  | v, .int i => v = .int i
  | v, .str x => v = .str x
  | v, .tup ds => ∃ a vs, v = .ref a ∧ SqT K H a vs ∧ RDs K H vs ds
  | v, .fl ds => ∃ a vs, v = .ref a ∧ ((∃ o, H a = some (.frz o (.lst vs))) ∨ SqL K (fun _ => Option.none) a vs) ∧ RDs K H vs ds
  | v, .ref a => v = .ref a
  | v, .ty n => v = .ty n
def RDs (K : PySem.W.Frag) (H : Hp) : List V → List D → Prop
  | vs, [] => vs = []
  | vs, d :: ds => ∃ v r, vs = v :: r ∧ RD K H v d ∧ RDs K H r ds
end

/-- what never changes -/
def Imm : HO → Bool
  | .tup _ => true
  | .frz _ _ => true
  | _ => false
def Kep (H H' : Hp) : Prop := ∀ a o, H a = some o → Imm o = true → H' a = some o
theorem Kep.refl (H : Hp) : Kep H H := fun _ _ h _ => h
theorem Kep.trans {H H1 H2 : Hp} (a : Kep H H1) (b : Kep H1 H2) : Kep H H2 := fun x o h i => b x o (a x o h i) i
theorem Kep.sqt {K : PySem.W.Frag} {H H' : Hp} {a : Addr} {xs : List V} (t : Kep H H') (h : SqT K H a xs) : SqT K H' a xs := by
  rcases h with (h | ⟨o, h⟩) | h
  · exact .inl (.inl (t _ _ h rfl))
  · exact .inl (.inr ⟨o, t _ _ h rfl⟩)
  · exact .inr h
mutual
theorem RD.mono {K : PySem.W.Frag} {H H' : Hp} (t : Kep H H') : ∀ {d : D} {v : V}, RD K H v d → RD K H' v d
  | .non, _, h => h
  | .bl _, _, h => h
  | .int _, _, h => h
  | .str _, _, h => h
  | .ref _, _, h => h
  | .ty _, _, h => h
  | .tup ds, _, h => by
    obtain ⟨a, vs, e, q, r⟩ := h
    exact ⟨a, vs, e, t.sqt q, RDs.mono t r⟩
  | .fl ds, _, h => by
    obtain ⟨a, vs, e, q, r⟩ := h
    refine ⟨a, vs, e, ?_, RDs.mono t r⟩
    rcases q with ⟨o, q⟩ | q
    · exact .inl ⟨o, t _ _ q rfl⟩
    · exact .inr q
theorem RDs.mono {K : PySem.W.Frag} {H H' : Hp} (t : Kep H H') : ∀ {ds : List D} {vs : List V}, RDs K H vs ds → RDs K H' vs ds
  | [], _, h => h
  | d :: ds, _, h => by
    obtain ⟨v, r, e, q, s⟩ := h
    exact ⟨v, r, e, RD.mono t q, RDs.mono t s⟩
end
section
variable {K : PySem.W.Frag} {H : Hp}
theorem RDs.length : ∀ {ds : List D} {vs : List V}, RDs K H vs ds → vs.length = ds.length
  | [], _, h => by cases h; rfl
  | d :: ds, _, h => by
    obtain ⟨v, r, rfl, _, s⟩ := h
    rw [List.length_cons, List.length_cons, RDs.length s]
theorem RDs.get : ∀ {ds : List D} {vs : List V} {i : Nat} {d : D}, RDs K H vs ds → ds[i]? = some d → ∃ v, vs[i]? = some v ∧ RD K H v d
  | [], _, _, _, _, e => by simp at e
  | d :: ds, _, 0, _, h, e => by
    obtain ⟨v, r, rfl, q, _⟩ := h
    cases e
    exact ⟨v, rfl, q⟩
  | d :: ds, _, i + 1, _, h, e => by
    obtain ⟨v, r, rfl, _, s⟩ := h
    exact RDs.get (i := i) s (by simpa using e)
theorem RDs.getV : ∀ {ds : List D} {vs : List V} {i : Nat} {v : V}, RDs K H vs ds → vs[i]? = some v → ∃ d, ds[i]? = some d ∧ RD K H v d
  | [], _, _, _, h, e => by cases h; simp at e
  | d :: ds, _, 0, _, h, e => by
    obtain ⟨v, r, rfl, q, _⟩ := h
    cases e
    exact ⟨d, rfl, q⟩
  | d :: ds, _, i + 1, _, h, e => by
    obtain ⟨v, r, rfl, _, s⟩ := h
    exact RDs.getV (i := i) s (by simpa using e)
theorem RDs.append : ∀ {ds es : List D} {vs ws : List V}, RDs K H vs ds → RDs K H ws es → RDs K H (vs ++ ws) (ds ++ es)
  | [], _, _, _, h, s => by cases h; exact s
  | d :: ds, _, _, _, h, s => by
    obtain ⟨v, r, rfl, q, t⟩ := h
    exact ⟨v, r ++ _, rfl, q, RDs.append t s⟩
theorem RDs.take : ∀ {ds : List D} {vs : List V} (n : Nat), RDs K H vs ds → RDs K H (vs.take n) (ds.take n)
  | _, _, 0, _ => by rw [List.take_zero, List.take_zero]; rfl
  | [], _, n + 1, h => by cases h; rfl
  | d :: ds, _, n + 1, h => by
    obtain ⟨v, r, rfl, q, t⟩ := h
    exact ⟨v, r.take n, rfl, q, RDs.take n t⟩
theorem RDs.drop : ∀ {ds : List D} {vs : List V} (n : Nat), RDs K H vs ds → RDs K H (vs.drop n) (ds.drop n)
  | _, _, 0, h => h
  | [], _, n + 1, h => by cases h; rfl
  | d :: ds, _, n + 1, h => by
    obtain ⟨v, r, rfl, q, t⟩ := h
    exact RDs.drop n t
theorem RDs.set : ∀ {ds : List D} {vs : List V} (i : Nat) {v : V} {d : D}, RD K H v d → RDs K H vs ds → RDs K H (vs.set i v) (ds.set i d)
  | [], _, _, _, _, _, h => by cases h; rfl
  | d :: ds, _, 0, v, d', q, h => by
    obtain ⟨u, r, rfl, _, t⟩ := h
    exact ⟨v, r, rfl, q, t⟩
  | d :: ds, _, i + 1, v, d', q, h => by
    obtain ⟨u, r, rfl, p, t⟩ := h
    exact ⟨u, r.set i v, rfl, p, RDs.set i q t⟩
theorem RDs.nil_iff {ds : List D} {vs : List V} (h : RDs K H vs ds) : vs = [] ↔ ds = [] := by
  cases ds with
  | nil => cases h; simp
  | cons d ds => obtain ⟨v, r, rfl, _⟩ := h; simp
theorem RDs.rep {ds : List D} {vs : List V} (h : RDs K H vs ds) : ∀ k : Nat, RDs K H (List.replicate k vs).flatten (List.replicate k ds).flatten
  | 0 => rfl
  | k + 1 => by
    rw [List.replicate_succ, List.replicate_succ, List.flatten_cons, List.flatten_cons]
    exact h.append (RDs.rep h k)
theorem RDs.dropLast {ds : List D} {vs : List V} (h : RDs K H vs ds) : RDs K H vs.dropLast ds.dropLast := by
  rw [List.dropLast_eq_take, List.dropLast_eq_take, h.length]
  exact h.take _
theorem RDs.bls : ∀ {bs : List Bool} {vs : List V}, RDs K H vs (bs.map D.bl) → vs = bs.map V.bl
  | [], _, h => h
  | b :: bs, _, h => by
    obtain ⟨v, r, rfl, q, t⟩ := h
    cases (show v = V.bl b from q)
    rw [RDs.bls t]
    rfl
theorem RDs.ints : ∀ {bs : List Int} {vs : List V}, RDs K H vs (bs.map D.int) → vs = bs.map V.int
  | [], _, h => h
  | b :: bs, _, h => by
    obtain ⟨v, r, rfl, q, t⟩ := h
    cases (show v = V.int b from q)
    rw [RDs.ints t]
    rfl
theorem RDs.strs : ∀ {bs : List Str} {vs : List V}, RDs K H vs (bs.map D.str) → vs = bs.map V.str
  | [], _, h => h
  | b :: bs, _, h => by
    obtain ⟨v, r, rfl, q, t⟩ := h
    cases (show v = V.str b from q)
    rw [RDs.strs t]
    rfl
theorem RDs.ofInts : ∀ (bs : List Int), RDs K H (bs.map V.int) (bs.map D.int)
  | [] => rfl
  | b :: bs => ⟨_, _, rfl, rfl, RDs.ofInts bs⟩
theorem RDs.reverse : ∀ {ds : List D} {vs : List V}, RDs K H vs ds → RDs K H vs.reverse ds.reverse
  | [], _, h => by cases h; rfl
  | d :: ds, _, h => by
    obtain ⟨v, r, rfl, q, t⟩ := h
    rw [List.reverse_cons, List.reverse_cons]
    exact (RDs.reverse t).append ⟨v, [], rfl, q, rfl⟩
end


mutual
def nk : D → NestedKey
  | .non => .none
  | .bl b => .num (if b = true then 1 else 0)
  | .int i => .num i
  | .str x => .text x
  | .tup ds => .tup (nks ds)
  | .fl _ => .none
  | .ref _ => .none
  | .ty _ => .none
def nks : List D → List NestedKey
  | [] => []
  | d :: ds => nk d :: nks ds
end
mutual
def nkOk : D → Bool
  | .non => true
  | .bl _ => true
  | .int _ => true
  | .str _ => true
  | .tup ds => nksOk ds
  | .fl _ => false
  | .ref _ => false
  | .ty _ => false
def nksOk : List D → Bool
  | [] => true
  | d :: ds => nkOk d && nksOk ds
end
abbrev KX := NestedKey × Addr × V
def RelX (p : KX) (q : NestedKey × Addr × Value) : Prop := p.1 = q.1 ∧ p.2.1 = q.2.1 ∧ RelV p.2.2 q.2.2
/-- a dict, its keys tuples -/
def dictO (P : Program) (w : World) (a : Addr) (o : Obj) (xs : List KX) : HO := .ext fun h => h.get? a = some o ∧ (a == sysModules) = false ∧ xs.length ≤ sizeLine ∧ o.ExactDict ∧
  ∃ (ys : List (NestedKey × Addr × Value)) (es : Array DictEntry) (ep : Nat), Paired RelX xs ys ∧ o.data = .dict es ep ∧ es.toList = ys.map (entryOfKey (nestedKind P w)) ∧ (ys.map (·.1)).Nodup
def kyT : D → Bool
  | .tup ds => nksOk ds
  | _ => false
def RKs (K : PySem.W.Frag) (H : Hp) : List KX → List (D × D) → Prop
  | xs, [] => xs = []
  | xs, d :: r => ∃ b v xr, xs = (nk d.1, b, v) :: xr ∧ kyT d.1 = true ∧ (nk d.1).depth ≤ 8 ∧ RD K H (.ref b) d.1 ∧ RD K H v d.2 ∧ RKs K H xr r
theorem RKs.mono {K : PySem.W.Frag} {H H' : Hp} (t : Kep H H') : ∀ {ds : List (D × D)} {xs : List KX}, RKs K H xs ds → RKs K H' xs ds
  | [], _, h => h
  | d :: ds, _, h => by
    obtain ⟨b, v, r, e, k, z, q1, q2, s⟩ := h
    exact ⟨b, v, r, e, k, z, q1.mono t, q2.mono t, RKs.mono t s⟩
theorem RKs.length {K : PySem.W.Frag} {H : Hp} : ∀ {ds : List (D × D)} {xs : List KX}, RKs K H xs ds → xs.length = ds.length
  | [], _, h => by cases h; rfl
  | d :: ds, _, h => by
    obtain ⟨b, v, r, rfl, k, z, q1, q2, s⟩ := h
    rw [List.length_cons, List.length_cons, RKs.length s]

/-- the objects that are told, as data -/
inductive OB where
  | dN (P : Program) (w : World) (kvs : List (D × D))
  | lkN (P : Program) (w : World) (o : Obj) (xs : List KX) (kvs : List (D × D))
  | lst (xs : List D)
  | dK (kvs : List (Key × D)) | dT (kvs : List (List Key × D))
  | ins (C dx : Addr) (fs : List (Str × D))
  | raw (o : HO)
abbrev HD := Addr → Option OB
def updD (h : HD) (a : Addr) (o : OB) : HD := fun b => if b = a then some o else h b
theorem updD_same {h : HD} {a : Addr} {o : OB} : updD h a o a = some o := if_pos rfl
theorem updD_ne {h : HD} {a b : Addr} {o : OB} (e : b ≠ a) : updD h a o b = h b := if_neg e

/-- pairs: the first parts equal, the second ones as told -/
def RPs {κ : Type} (K : PySem.W.Frag) (H : Hp) : List (κ × V) → List (κ × D) → Prop
  | vs, [] => vs = []
  | vs, d :: ds => ∃ v r, vs = (d.1, v) :: r ∧ RD K H v d.2 ∧ RPs K H r ds
theorem RPs.mono {κ : Type} {K : PySem.W.Frag} {H H' : Hp} (t : Kep H H') : ∀ {ds : List (κ × D)} {vs : List (κ × V)}, RPs K H vs ds → RPs K H' vs ds
  | [], _, h => h
  | d :: ds, _, h => by
    obtain ⟨v, r, e, q, s⟩ := h
    exact ⟨v, r, e, q.mono t, RPs.mono t s⟩
theorem RPs.length {κ : Type} {K : PySem.W.Frag} {H : Hp} : ∀ {ds : List (κ × D)} {vs : List (κ × V)}, RPs K H vs ds → vs.length = ds.length
  | [], _, h => by cases h; rfl
  | d :: ds, _, h => by
    obtain ⟨v, r, rfl, _, s⟩ := h
    rw [List.length_cons, List.length_cons, RPs.length s]
theorem RPs.keys {κ : Type} {K : PySem.W.Frag} {H : Hp} : ∀ {ds : List (κ × D)} {vs : List (κ × V)}, RPs K H vs ds → vs.map (·.1) = ds.map (·.1)
  | [], _, h => by cases h; rfl
  | d :: ds, _, h => by
    obtain ⟨v, r, rfl, _, s⟩ := h
    rw [List.map_cons, List.map_cons, RPs.keys s]
theorem RPs.lookup {κ : Type} [BEq κ] {K : PySem.W.Frag} {H : Hp} {f : κ} : ∀ {ds : List (κ × D)} {vs : List (κ × V)}, RPs K H vs ds →
    (∀ d, ds.lookup f = some d → ∃ v, vs.lookup f = some v ∧ RD K H v d) ∧ (ds.lookup f = none → vs.lookup f = none)
  | [], _, h => by cases h; exact ⟨fun d e => by simp at e, fun _ => rfl⟩
  | (k, d) :: ds, _, h => by
    obtain ⟨v, r, rfl, q, s⟩ := h
    have ih := RPs.lookup (f := f) s
    cases hk : f == k with
    | true =>
      refine ⟨fun d' e => ?_, fun e => ?_⟩
      · rw [List.lookup_cons, hk] at e
        cases e
        exact ⟨v, by rw [List.lookup_cons, hk], q⟩
      · rw [List.lookup_cons, hk] at e
        cases e
    | false =>
      refine ⟨fun d' e => ?_, fun e => ?_⟩
      · rw [List.lookup_cons, hk] at e
        obtain ⟨v', e', q'⟩ := ih.1 d' e
        exact ⟨v', by rw [List.lookup_cons, hk]; exact e', q'⟩
      · rw [List.lookup_cons, hk] at e
        rw [List.lookup_cons, hk]
        exact ih.2 e

def RO (K : PySem.W.Frag) (H : Hp) (a : Addr) : OB → Prop
  | .lst ds => ∃ vs, H a = some (.lst vs) ∧ RDs K H vs ds
  | .dK kvs => ∃ vs, H a = some (.dK vs) ∧ RPs K H vs kvs
  | .dT kvs => ∃ vs, H a = some (.dT vs) ∧ RPs K H vs kvs
  | .ins C dx fs => ∃ vs, H a = some (.ins C dx vs) ∧ RPs K H vs fs
  | .raw o => H a = some o
  | .dN P w kvs => ∃ o xs, H a = some (dictO P w a o xs) ∧ RKs K H xs kvs
  | .lkN P w o xs kvs => H a = some (dictO P w a o xs) ∧ RKs K H xs kvs
def RH (K : PySem.W.Frag) (H : Hp) (h : HD) : Prop := ∀ a o, h a = some o → RO K H a o
theorem RO.keep {K : PySem.W.Frag} {H H' : Hp} {a : Addr} {o : OB} (r : RO K H a o) (t : Kep H H') (e : H' a = H a) : RO K H' a o := by
  cases o with
  | lst ds => obtain ⟨vs, q, s⟩ := r; exact ⟨vs, by rw [e]; exact q, s.mono t⟩
  | dK kvs => obtain ⟨vs, q, s⟩ := r; exact ⟨vs, by rw [e]; exact q, s.mono t⟩
  | dT kvs => obtain ⟨vs, q, s⟩ := r; exact ⟨vs, by rw [e]; exact q, s.mono t⟩
  | ins C dx fs => obtain ⟨vs, q, s⟩ := r; exact ⟨vs, by rw [e]; exact q, s.mono t⟩
  | raw o => exact (show H' a = some o by rw [e]; exact r)
  | dN P w kvs => obtain ⟨o, xs, q, s⟩ := r; exact ⟨o, xs, by rw [e]; exact q, s.mono t⟩
  | lkN P w o xs kvs => obtain ⟨q, s⟩ := r; exact ⟨by rw [e]; exact q, s.mono t⟩
theorem sql_fl {K : PySem.W.Frag} {H : Hp} {a : Addr} {vs : List V} (q : (∃ o, H a = some (.frz o (.lst vs))) ∨ SqL K (fun _ => none) a vs) : SqL K H a vs := by
  rcases q with ⟨o, q⟩ | q
  · exact .inl (.inr ⟨o, q⟩)
  · rcases q with (q | ⟨o, q⟩) | q
    · cases q
    · cases q
    · exact .inr q
theorem RO.some {K : PySem.W.Frag} {H : Hp} {a : Addr} {o : OB} (r : RO K H a o) : H a ≠ none := by
  cases o with
  | lst ds => obtain ⟨vs, q, s⟩ := r; rw [q]; simp
  | dK kvs => obtain ⟨vs, q, s⟩ := r; rw [q]; simp
  | dT kvs => obtain ⟨vs, q, s⟩ := r; rw [q]; simp
  | ins C dx fs => obtain ⟨vs, q, s⟩ := r; rw [q]; simp
  | raw o => rw [show H a = _ from r]; simp
  | dN P w kvs => obtain ⟨o, xs, q, s⟩ := r; rw [q]; simp
  | lkN P w o xs kvs => obtain ⟨q, s⟩ := r; rw [q]; simp

def isTbl : HO → Bool
  | .tbl _ => true
  | _ => false
/-- from (H, h) to (H', h') -/
structure Stp (K : PySem.W.Frag) (H : Hp) (h : HD) (H' : Hp) (h' : HD) : Prop where
  ts : Kep H H'
  dm : ∀ a, H a ≠ none → H' a ≠ none
  nf : ∀ a, h' a ≠ none → h a ≠ none ∨ H a = none
  rh : RH K H' h'
  hd : ∀ a o, H a = some o → h a = none → isTbl o = false → H' a = some o
theorem Stp.refl {K : PySem.W.Frag} {H : Hp} {h : HD} (r : RH K H h) : Stp K H h H h := ⟨.refl _, fun _ q => q, fun _ q => .inl q, r, fun _ _ q _ _ => q⟩
theorem Stp.trans {K : PySem.W.Frag} {H H1 H2 : Hp} {h h1 h2 : HD} (a : Stp K H h H1 h1) (b : Stp K H1 h1 H2 h2) : Stp K H h H2 h2 :=
  ⟨a.ts.trans b.ts, fun x q => b.dm x (a.dm x q), fun x q => by
    rcases b.nf x q with q | q
    · exact a.nf x q
    · right
      cases e : H x with
      | none => rfl
      | some o => exact absurd q (a.dm x (by rw [e]; simp)), b.rh, fun x o e n i => b.hd x o (a.hd x o e n i) (by
    cases q : h1 x with
    | none => rfl
    | some u =>
      rcases a.nf x (by rw [q]; simp) with z | z
      · exact absurd n z
      · rw [e] at z; cases z) i⟩

/-- a new object is told -/
theorem Stp.new {K : PySem.W.Frag} {H : Hp} {h : HD} {p : Addr} {o : HO} {b : OB} (rh : RH K H h) (np : H p = none) (ro : RO K (upd H p o) p b) : Stp K H h (upd H p o) (updD h p b) := by
  have ts : Kep H (upd H p o) := fun a u e _ => by rw [upd_ne (ne_of_none e np)]; exact e
  refine ⟨ts, fun a q => ?_, fun a q => ?_, fun a u e => ?_, fun a u e _ _ => by rw [upd_ne (ne_of_none e np)]; exact e⟩
  · by_cases e : a = p
    · rw [e, upd_same]; simp
    · rw [upd_ne e]; exact q
  · by_cases e : a = p
    · exact .inr (by rw [e]; exact np)
    · rw [updD_ne e] at q; exact .inl q
  · by_cases q : a = p
    · subst q
      rw [updD_same] at e
      cases e
      exact ro
    · rw [updD_ne q] at e
      exact (rh a u e).keep ts (upd_ne q)
/-- a new object is not told -/
theorem Stp.hid {K : PySem.W.Frag} {H : Hp} {h : HD} {p : Addr} {o : HO} (rh : RH K H h) (np : H p = none) (hp : h p = none) : Stp K H h (upd H p o) h := by
  have ts : Kep H (upd H p o) := fun a u e _ => by rw [upd_ne (ne_of_none e np)]; exact e
  refine ⟨ts, fun a q => ?_, fun a q => .inl q, fun a u e => ?_, fun a u e _ _ => by rw [upd_ne (ne_of_none e np)]; exact e⟩
  · by_cases e : a = p
    · rw [e, upd_same]; simp
    · rw [upd_ne e]; exact q
  · have q : a ≠ p := fun z => by rw [z, hp] at e; cases e
    exact (rh a u e).keep ts (upd_ne q)
/-- an object is changed -/
theorem Stp.mut {K : PySem.W.Frag} {H : Hp} {h : HD} {p : Addr} {o o' : HO} {b : OB} (rh : RH K H h) (hp : H p = some o) (im : Imm o = false) (hb : h p ≠ none) (ro : RO K (upd H p o') p b) : Stp K H h (upd H p o') (updD h p b) := by
  have ts : Kep H (upd H p o') := fun a u e i => by
    by_cases z : a = p
    · rw [z, hp] at e
      cases e
      rw [im] at i
      cases i
    · rw [upd_ne z]; exact e
  refine ⟨ts, fun a q => ?_, fun a q => ?_, fun a u e => ?_, fun a u e n _ => by rw [upd_ne (fun z => hb (by rw [← z]; exact n))]; exact e⟩
  · by_cases e : a = p
    · rw [e, upd_same]; simp
    · rw [upd_ne e]; exact q
  · by_cases e : a = p
    · exact .inl (by rw [e]; exact hb)
    · rw [updD_ne e] at q; exact .inl q
  · by_cases q : a = p
    · subst q
      rw [updD_same] at e
      cases e
      exact ro
    · rw [updD_ne q] at e
      exact (rh a u e).keep ts (upd_ne q)
/-- what is not tracked is not told -/
theorem RH.none {K : PySem.W.Frag} {H : Hp} {h : HD} (rh : RH K H h) {p : Addr} (np : H p = Option.none) : h p = Option.none := by
  cases e : h p with
  | none => rfl
  | some o => exact absurd np (rh p o e).some

abbrev En := List (Option D)
abbrev DK := D → HD → Prop
abbrev CE := En → HD → DK → Prop
abbrev CT := En → HD → (Bool → HD → Prop) → Prop
abbrev CA := En → HD → (List D → HD → Prop) → Prop
def Sl (K : PySem.W.Frag) (σ : L2.St) (H : Hp) (ρ : En) : Prop := ρ.length = σ.length ∧ ∀ (i : Nat) (d : D), ρ[i]? = some (some d) → ∃ v, σ[i]? = some (some v) ∧ RD K H v d
theorem Sl.mono {K : PySem.W.Frag} {σ : L2.St} {H H' : Hp} {ρ : En} (t : Kep H H') (s : Sl K σ H ρ) : Sl K σ H' ρ :=
  ⟨s.1, fun i d e => by
    obtain ⟨v, q, r⟩ := s.2 i d e
    exact ⟨v, q, r.mono t⟩⟩
theorem Sl.set {K : PySem.W.Frag} {σ : L2.St} {H : Hp} {ρ : En} {i : Nat} {v : V} {d : D} (s : Sl K σ H ρ) (r : RD K H v d) : Sl K (σ.set i (some v)) H (ρ.set i (some d)) := by
  refine ⟨by rw [List.length_set, List.length_set]; exact s.1, fun j e q => ?_⟩
  by_cases hj : i = j
  · subst hj
    by_cases hl : i < ρ.length
    · rw [List.getElem?_set_self hl] at q
      cases q
      exact ⟨v, List.getElem?_set_self (by rw [← s.1]; exact hl), r⟩
    · rw [List.getElem?_eq_none (by rw [List.length_set]; omega)] at q
      cases q
  · rw [List.getElem?_set_ne hj] at q
    obtain ⟨u, e1, r1⟩ := s.2 j e q
    exact ⟨u, by rw [List.getElem?_set_ne hj]; exact e1, r1⟩

/-! ### the readings, lowered; B: the state from which it is reckoned (the def's entry, a try's) -/
abbrev Bs := Hp × HD
abbrev RB (K : PySem.W.Frag) (B : Bs) (H : Hp) (h : HD) : Prop := Stp K B.1 B.2 H h
def lowE (K : PySem.W.Frag) (B : Bs) (t : CE) : TE := fun σ H Q => ∃ ρ h Q', Sl K σ H ρ ∧ RB K B H h ∧ t ρ h Q' ∧ ∀ v d H' h', RD K H' v d → Stp K H h H' h' → Q' d h' → Q v H'
def lowT (K : PySem.W.Frag) (B : Bs) (t : CT) : TT := fun σ H Q => ∃ ρ h Q', Sl K σ H ρ ∧ RB K B H h ∧ t ρ h Q' ∧ ∀ b H' h', Stp K H h H' h' → Q' b h' → Q b H'
def lowA (K : PySem.W.Frag) (B : Bs) (t : CA) : TA := fun σ H Q => ∃ ρ h Q', Sl K σ H ρ ∧ RB K B H h ∧ t ρ h Q' ∧ ∀ vs ds H' h', RDs K H' vs ds → Stp K H h H' h' → Q' ds h' → Q vs H'
def QE (X : Cx) (B : Bs) (e : Expr) (t : CE) : Prop := PE X e (lowE X.K B t)
def QT (X : Cx) (B : Bs) (e : Expr) (t : CT) : Prop := PT X e (lowT X.K B t)
def QA (X : Cx) (B : Bs) (es : List Expr) (t : CA) : Prop := PA X es (lowA X.K B t)
/-- ends: of a statement -/
structure DE where
  nx : En → HD → Prop
  rt : DK
  bk : En → HD → Prop := fun _ _ => False
  ct : En → HD → Prop := fun _ _ => False
abbrev CS := DE → En → HD → Prop
structure LkE (K : PySem.W.Frag) (H : Hp) (h : HD) (D' : DE) (D : Ends) : Prop where
  nx : ∀ σ' ρ' H' h', Sl K σ' H' ρ' → Stp K H h H' h' → D'.nx ρ' h' → D.nx σ' H'
  rt : ∀ v d H' h', RD K H' v d → Stp K H h H' h' → D'.rt d h' → D.rt v H'
  bk : ∀ σ' ρ' H' h', Sl K σ' H' ρ' → Stp K H h H' h' → D'.bk ρ' h' → D.bk σ' H'
  ct : ∀ σ' ρ' H' h', Sl K σ' H' ρ' → Stp K H h H' h' → D'.ct ρ' h' → D.ct σ' H'
def lowS (K : PySem.W.Frag) (B : Bs) (t : CS) : L2.TS := fun D σ H => ∃ ρ h D', Sl K σ H ρ ∧ RB K B H h ∧ t D' ρ h ∧ LkE K H h D' D
def QS (X : Cx) (B : Bs) (s : Stmt) (t : CS) : Prop := PS X s (lowS X.K B t)
def QSs (X : Cx) (B : Bs) (s : List Stmt) (t : CS) : Prop := PSs X s (lowS X.K B t)
theorem LkE.step {K : PySem.W.Frag} {H H1 : Hp} {h h1 : HD} {D' : DE} {D : Ends} (l : LkE K H h D' D) (s : Stp K H h H1 h1) : LkE K H1 h1 D' D :=
  ⟨fun σ' ρ' H' h' a b c => l.nx σ' ρ' H' h' a (s.trans b) c, fun v d H' h' a b c => l.rt v d H' h' a (s.trans b) c, fun σ' ρ' H' h' a b c => l.bk σ' ρ' H' h' a (s.trans b) c, fun σ' ρ' H' h' a b c => l.ct σ' ρ' H' h' a (s.trans b) c⟩

theorem PE.imp {X : Cx} {e : Expr} {t t' : TE} (p : PE X e t') (k : ∀ σ H Q, t σ H Q → t' σ H Q) : PE X e t := ⟨fun pins s σ H Q I h => p.run pins s σ H Q I (k σ H Q h)⟩
theorem PT.imp {X : Cx} {e : Expr} {t t' : TT} (p : PT X e t') (k : ∀ σ H Q, t σ H Q → t' σ H Q) : PT X e t := ⟨fun pins s σ H Q I h => p.run pins s σ H Q I (k σ H Q h)⟩
theorem PW.imp {X : Cx} {e : Expr} {t t' : TT} (p : PW X e t') (k : ∀ σ H Q, t σ H Q → t' σ H Q) : PW X e t := ⟨fun wh pins s σ H Q I h => p.run wh pins s σ H Q I (k σ H Q h)⟩
theorem PA.imp {X : Cx} {e : List Expr} {t t' : TA} (p : PA X e t') (k : ∀ σ H Q, t σ H Q → t' σ H Q) : PA X e t := ⟨fun pos pins s σ H Q I h => p.run pos pins s σ H Q I (k σ H Q h)⟩
theorem PS.imp {X : Cx} {e : Stmt} {t t' : L2.TS} (p : PS X e t') (k : ∀ D σ H, t D σ H → t' D σ H) : PS X e t := ⟨fun pins s σ H D I h => p.run pins s σ H D I (k D σ H h)⟩
theorem PSs.imp {X : Cx} {e : List Stmt} {t t' : L2.TS} (p : PSs X e t') (k : ∀ D σ H, t D σ H → t' D σ H) : PSs X e t := ⟨fun pins s σ H D I h => p.run pins s σ H D I (k D σ H h)⟩

/-! ### names, constants -/
def cVar (i : Nat) : CE := fun ρ h Q => match ρ[i]? with
  | some (some d) => Q d h
  | _ => False
def cC (d : D) : CE := fun _ h Q => Q d h
section
variable {X : Cx} {B : Bs}
theorem qe_var {i : Nat} {x : Str} {pos : Pos} (hN : X.N[i]? = some x) (hv : Vis X.env.scope x) (hd : (x == ("__debug__" : Str)) = false := by decide) (hcd : (x == ("__classdict__" : Str)) = false := by decide) : QE X B (.Name x pos) (cVar i) := by
  refine PE.imp (pe_var hN hv hd hcd) fun σ H Q w => ?_
  obtain ⟨ρ, h, Q', sl, rh, ht, k⟩ := w
  unfold cVar at ht
  split at ht
  · rename_i d e
    obtain ⟨v, e1, r⟩ := sl.2 i d e
    exact ⟨v, e1, k v d H h r (.refl rh.rh) ht⟩
  · exact ht.elim
theorem qe_const {e : Expr} {v : V} {d : D} (p : PE X e (tC v)) (r : ∀ H, RD X.K H v d) : QE X B e (cC d) := by
  refine PE.imp p fun σ H Q w => ?_
  obtain ⟨ρ, h, Q', sl, rh, ht, k⟩ := w
  exact k v d H h (r H) (.refl rh.rh) ht
theorem qe_int {i j pos} : QE X B (.Constant (.int i) j pos) (cC (.int i)) := qe_const pe_int fun _ => rfl
theorem qe_bl {b j pos} : QE X B (.Constant (.bool b) j pos) (cC (.bl b)) := qe_const pe_bl fun _ => rfl
theorem qe_non {j pos} : QE X B (.Constant .none j pos) (cC .non) := qe_const pe_non fun _ => rfl
theorem qe_str {x j pos} : QE X B (.Constant (.str x) j pos) (cC (.str x)) := qe_const pe_str fun _ => rfl
theorem qv (i : Nat) {x : Str} {pos : Pos} (hN : X.N[i]? = some x := by rfl) (hv : Vis X.env.scope x := by first | exact Or.inl rfl | exact Or.inr (Or.inl rfl) | exact Or.inr (Or.inr rfl)) (hd : (x == ("__debug__" : Str)) = false := by decide)
    (hcd : (x == ("__classdict__" : Str)) = false := by decide) : QE X B (.Name x pos) (cVar i) := qe_var hN hv hd hcd
end

/-! ### operators by values -/
abbrev C1 := D → HD → DK → Prop
abbrev C2 := D → D → HD → DK → Prop
abbrev CL := List D → HD → DK → Prop
def low1 (K : PySem.W.Frag) (r : C1) : V → Hp → VK → Prop := fun x H Q => ∃ dx h Q', RD K H x dx ∧ RH K H h ∧ r dx h Q' ∧ ∀ v d H' h', RD K H' v d → Stp K H h H' h' → Q' d h' → Q v H'
def low2 (K : PySem.W.Frag) (r : C2) : R2 := fun x y H Q => ∃ dx dy h Q', RD K H x dx ∧ RD K H y dy ∧ RH K H h ∧ r dx dy h Q' ∧ ∀ v d H' h', RD K H' v d → Stp K H h H' h' → Q' d h' → Q v H'
def lowL (K : PySem.W.Frag) (r : CL) : List V → Hp → VK → Prop := fun xs H Q => ∃ ds h Q', RDs K H xs ds ∧ RH K H h ∧ r ds h Q' ∧ ∀ v d H' h', RD K H' v d → Stp K H h H' h' → Q' d h' → Q v H'
/-- an operator (binaryOp op, compareOp op) by data -/
abbrev OpD (X : Cx) (f : Value → Value → Sem Value) (r : C2) : Prop := OpR X f (low2 X.K r)
abbrev UnD (X : Cx) (f : Value → Sem Value) (r : C1) : Prop := UnR X f (low1 X.K r)
abbrev CallD (X : Cx) (f : Value) (r : CL) : Prop := CallR X f (lowL X.K r)
abbrev IxD (X : Cx) (r : C2) : Prop := IxR X (low2 X.K r)

def cOp (r : C2) (ta tb : CE) : CE := fun ρ h Q => ta ρ h fun x h1 => tb ρ h1 fun y h2 => r x y h2 Q
def cUn (r : C1) (ta : CE) : CE := fun ρ h Q => ta ρ h fun x h1 => r x h1 Q
def cNil : CA := fun _ h Q => Q [] h
def cCons (t : CE) (u : CA) : CA := fun ρ h Q => t ρ h fun x h1 => u ρ h1 fun xs h2 => Q (x :: xs) h2
def cCall (r : CL) (t : CA) : CE := fun ρ h Q => t ρ h fun xs h1 => r xs h1 Q
section
variable {K : PySem.W.Frag} {B : Bs} {ta tb : CE}
theorem low_op {r : C2} {σ : L2.St} {H : Hp} {Q : VK} (w : lowE K B (cOp r ta tb) σ H Q) : tOp (low2 K r) (lowE K B ta) (lowE K B tb) σ H Q := by
  obtain ⟨ρ, h, Q', sl, rh, ht, k⟩ := w
  refine ⟨ρ, h, _, sl, rh, ht, fun v d H1 h1 rv s1 q1 => ?_⟩
  refine ⟨ρ, h1, _, sl.mono s1.ts, rh.trans s1, q1, fun u e H2 h2 ru s2 q2 => ?_⟩
  exact ⟨d, e, h2, Q', rv.mono s2.ts, ru, s2.rh, q2, fun v' d' H' h' r' s' q' => k v' d' H' h' r' ((s1.trans s2).trans s') q'⟩
theorem low_un {r : C1} {σ : L2.St} {H : Hp} {Q : VK} (w : lowE K B (cUn r ta) σ H Q) : tUn (low1 K r) (lowE K B ta) σ H Q := by
  obtain ⟨ρ, h, Q', sl, rh, ht, k⟩ := w
  refine ⟨ρ, h, _, sl, rh, ht, fun v d H1 h1 rv s1 q1 => ?_⟩
  exact ⟨d, h1, Q', rv, s1.rh, q1, fun v' d' H' h' r' s' q' => k v' d' H' h' r' (s1.trans s') q'⟩
theorem low_cons {u : CA} {σ : L2.St} {H : Hp} {Q : List V → Hp → Prop} (w : lowA K B (cCons ta u) σ H Q) : tCons (lowE K B ta) (lowA K B u) σ H Q := by
  obtain ⟨ρ, h, Q', sl, rh, ht, k⟩ := w
  refine ⟨ρ, h, _, sl, rh, ht, fun v d H1 h1 rv s1 q1 => ?_⟩
  refine ⟨ρ, h1, _, sl.mono s1.ts, rh.trans s1, q1, fun vs ds H2 h2 rvs s2 q2 => ?_⟩
  exact k (v :: vs) (d :: ds) H2 h2 ⟨v, vs, rfl, rv.mono s2.ts, rvs⟩ (s1.trans s2) q2
theorem low_call {r : CL} {t : CA} {σ : L2.St} {H : Hp} {Q : VK} (w : lowE K B (cCall r t) σ H Q) : tCB (lowL K r) (lowA K B t) σ H Q := by
  obtain ⟨ρ, h, Q', sl, rh, ht, k⟩ := w
  refine ⟨ρ, h, _, sl, rh, ht, fun vs ds H1 h1 rv s1 q1 => ?_⟩
  exact ⟨ds, h1, Q', rv, s1.rh, q1, fun v' d' H' h' r' s' q' => k v' d' H' h' r' (s1.trans s') q'⟩
end
section
variable {X : Cx} {B : Bs} {a b e : Expr} {es : List Expr} {ta tb te : CE} {u : CA} {pos : Pos}
theorem qe_op {op : Operator} {r : C2} (ho : OpD X (binaryOp op) r) (ha : QE X B a ta) (hb : QE X B b tb) : QE X B (.BinOp a op b pos) (cOp r ta tb) := PE.imp (pe_op ho ha hb) fun _ _ _ => low_op
theorem qe_un {op : UnaryOp} {r : C1} (ho : UnD X (unaryOp op) r) (ha : QE X B a ta) : QE X B (.UnaryOp op a pos) (cUn r ta) := PE.imp (pe_un ho ha) fun _ _ _ => low_un
theorem qe_cmp {op : CmpOp} {r : C2} (ho : OpD X (compareOp op) r) (ha : QE X B a ta) (hb : QE X B b tb) (hm : behindInMarks op b = false := by first | exact nomark _ | rfl) : QE X B (.Compare a [op] [b] pos) (cOp r ta tb) := PE.imp (pe_cmpR ho ha hb hm) fun _ _ _ => low_op
theorem qe_ix {r : C2} (ho : IxD X r) (ha : QE X B a ta) (hb : QE X B b tb) (hs : PlainIx b) : QE X B (.Subscript a b pos) (cOp r ta tb) := PE.imp (pe_ix ho ha hb hs) fun _ _ _ => low_op
theorem qa_nil : QA X B [] cNil := PA.imp pa_nil fun σ H Q w => by
  obtain ⟨ρ, h, Q', sl, rh, ht, k⟩ := w
  exact k [] [] H h rfl (.refl rh.rh) ht
theorem qa_cons (ha : QE X B e te) (hr : QA X B es u) (hs : starEach (e :: es) X.env = (false, eval e X.env) :: starEach es X.env := by rfl) : QA X B (e :: es) (cCons te u) := PA.imp (pa_cons ha hr hs) fun _ _ _ => low_cons
theorem qe_callB {x : Str} {p : Pos} {id : String} {r : CL} (hc : CallD X (.builtin id) r) (hg : Gl X x) (hm : X.mg x = none) (hv : bootBuiltins x = some (.builtin id)) (ha : QA X B (e :: es) u)
    (hn : x ≠ "__name__" := by decide) (hdb : (x == ("__debug__" : Str)) = false := by decide) (he : starEach (e :: es) X.env = (false, eval e X.env) :: starEach es X.env := by rfl)
    (hpl : (backTo pos (starEach es X.env)).any (·.1) = false := by rfl) : QE X B (.Call (.Name x p) (e :: es) [] pos) (cCall r u) := PE.imp (pe_callB hc hg hm hv ha hn hdb he hpl) fun _ _ _ => low_call
theorem qe_callTy {x : Str} {p : Pos} {T : String} {r : CL} (hc : CallD X (.type T) r) (hg : Gl X x) (hm : X.mg x = none) (hv : bootBuiltins x = some (.type T)) (ha : QA X B (e :: es) u)
    (hn : x ≠ "__name__" := by decide) (hdb : (x == ("__debug__" : Str)) = false := by decide) (he : starEach (e :: es) X.env = (false, eval e X.env) :: starEach es X.env := by rfl)
    (hpl : (backTo pos (starEach es X.env)).any (·.1) = false := by rfl) : QE X B (.Call (.Name x p) (e :: es) [] pos) (cCall r u) := PE.imp (pe_callTy hc hg hm hv ha hn hdb he hpl) fun _ _ _ => low_call
end
end PD

-- PdB
set_option Elab.async false
set_option linter.all false
set_option maxRecDepth 100000
set_option maxHeartbeats 4000000
/-! PdB: operators, comparisons, items, slices, built-in calls, by data. -/
namespace PD
open PySem PySem.Spec PyProof.Rows L2

/-! ### data as the library's data -/
mutual
def toP : D → PyData
  | .non => .none
  | .bl b => .bool b
  | .int i => .int i
  | .str x => .str x
  | .tup ds => .tuple (toPs ds)
  | .fl ds => .list (toPs ds)
  | .ref _ => .none
  | .ty _ => .none
def toPs : List D → List PyData
  | [] => []
  | d :: ds => toP d :: toPs ds
end
mutual
/-- no objects in it, but tuples -/
def rf : D → Bool
  | .non => true
  | .bl _ => true
  | .int _ => true
  | .str _ => true
  | .tup ds => rfs ds
  | .fl ds => rfs ds
  | .ref _ => false
  | .ty _ => false
def rfs : List D → Bool
  | [] => true
  | d :: ds => rf d && rfs ds
end
mutual
theorem RD.dp {K : PySem.W.Frag} {H : Hp} : ∀ {d : D} {v : V}, RD K H v d → rf d = true → Dp K H v (toP d)
  | .non, _, h, _ => by cases (show _ = V.non from h); exact .non
  | .bl b, _, h, _ => by cases (show _ = V.bl b from h); exact .bl b
  | .int b, _, h, _ => by cases (show _ = V.int b from h); exact .int b
  | .str b, _, h, _ => by cases (show _ = V.str b from h); exact .str b
  | .tup ds, _, h, e => by
    obtain ⟨a, vs, rfl, q, r⟩ := h
    exact .tup q (RDs.dp r e)
  | .fl ds, _, h, e => by
    obtain ⟨a, vs, rfl, q, r⟩ := h
    exact .lst (sql_fl q) (RDs.dp r e)
theorem RDs.dp {K : PySem.W.Frag} {H : Hp} : ∀ {ds : List D} {vs : List V}, RDs K H vs ds → rfs ds = true → DpAll K H vs (toPs ds)
  | [], _, h, _ => by cases h; exact .nil
  | d :: ds, _, h, e => by
    obtain ⟨v, r, rfl, q, t⟩ := h
    have e' := (Bool.and_eq_true _ _).mp e
    exact .cons (RD.dp q e'.1) (RDs.dp t e'.2)
end

section
variable {X : Cx}
/-! ### arithmetic -/
def cAdd : C2 := fun x y h Q => match x, y with
  | .int i, .int j => Q (.int (i + j)) h
  | .str a, .str b => a.length + b.length ≤ sizeLine ∧ Q (.str (a ++ b)) h
  | .tup xs, .tup ys => xs.length + ys.length ≤ sizeLine ∧ Q (.tup (xs ++ ys)) h
  | .ref a, .ref b => ∃ xs ys, h a = some (.lst xs) ∧ h b = some (.lst ys) ∧ xs.length + ys.length ≤ sizeLine ∧ ∀ p, h p = none → Q (.ref p) (updD h p (.lst (xs ++ ys)))
  | _, _ => False
theorem new_tup {K : PySem.W.Frag} {H : Hp} {p : Addr} {vs : List V} {ds : List D} (np : H p = none) (r : RDs K H vs ds) : RD K (upd H p (.tup vs)) (.ref p) (.tup ds) :=
  ⟨p, vs, rfl, .inl (.inl upd_same), r.mono fun a u e _ => by rw [upd_ne (ne_of_none e np)]; exact e⟩
theorem new_lst {K : PySem.W.Frag} {H : Hp} {p : Addr} {vs : List V} {ds : List D} (np : H p = none) (r : RDs K H vs ds) : RO K (upd H p (.lst vs)) p (.lst ds) :=
  ⟨vs, upd_same, r.mono fun a u e _ => by rw [upd_ne (ne_of_none e np)]; exact e⟩
theorem mut_lst {K : PySem.W.Frag} {H : Hp} {p : Addr} {us vs : List V} {ds : List D} (hp : H p = some (.lst us)) (r : RDs K H vs ds) : RO K (upd H p (.lst vs)) p (.lst ds) :=
  ⟨vs, upd_same, r.mono fun a u e i => by
    by_cases z : a = p
    · rw [z, hp] at e; cases e; cases i
    · rw [upd_ne z]; exact e⟩
theorem od_add : OpD X (binaryOp .Add) cAdd := by
  intro pins s σ H x y v u Q I rv ru w
  obtain ⟨dx, dy, h, Q', rx, ry, rh, hr, k⟩ := w
  cases dx with
  | int i =>
    cases dy with
    | int j => cases (show _ = V.int i from rx); cases (show _ = V.int j from ry); exact op_add pins s σ H _ _ v u Q I rv ru ⟨i, j, rfl, rfl, k _ (.int (i + j)) H h rfl (.refl rh) hr⟩
    | _ => exact hr.elim
  | str i =>
    cases dy with
    | str j => cases (show _ = V.str i from rx); cases (show _ = V.str j from ry); exact op_add_str pins s σ H _ _ v u Q I rv ru ⟨i, j, rfl, rfl, hr.1, k _ (.str (i ++ j)) H h rfl (.refl rh) hr.2⟩
    | _ => exact hr.elim
  | tup xs =>
    cases dy with
    | tup ys =>
      obtain ⟨a, vs, rfl, qa, ra⟩ := rx
      obtain ⟨b, ws, rfl, qb, rb⟩ := ry
      refine op_catA pins s σ H _ _ v u Q I rv ru ⟨a, b, vs, ws, rfl, rfl, qa, qb, by rw [ra.length, rb.length]; exact hr.1, fun e => ?_, fun e e' => ?_, fun _ _ p np => ?_⟩
      · subst e
        have : xs = [] := ra.nil_iff.mp rfl
        subst this
        exact k _ (.tup ([] ++ ys)) H h ⟨b, ws, rfl, qb, rb⟩ (.refl rh) hr.2
      · subst e'
        have : ys = [] := rb.nil_iff.mp rfl
        subst this
        exact k _ (.tup (xs ++ [])) H h ⟨a, vs, rfl, qa, by rw [List.append_nil]; exact ra⟩ (.refl rh) hr.2
      · exact k _ _ _ h (new_tup np (ra.append rb)) (.hid rh np (rh.none np)) hr.2
    | _ => exact hr.elim
  | ref a =>
    cases dy with
    | ref b =>
      obtain ⟨xs, ys, ha, hb, hz, q⟩ := hr
      obtain ⟨vs, ea, ra⟩ := rh a _ ha
      obtain ⟨ws, eb, rb⟩ := rh b _ hb
      cases (show _ = V.ref a from rx); cases (show _ = V.ref b from ry)
      refine op_cat pins s σ H _ _ v u Q I rv ru ⟨a, b, vs, ws, rfl, rfl, ea, eb, by rw [ra.length, rb.length]; exact hz, fun p np => ?_⟩
      exact k _ (.ref p) _ _ rfl (.new rh np (new_lst np (ra.append rb))) (q p (rh.none np))
    | _ => exact hr.elim
  | _ => exact hr.elim
def cSub : C2 := fun x y h Q => match x, y with
  | .int i, .int j => Q (.int (i - j)) h
  | _, _ => False
theorem od_sub : OpD X (binaryOp .Sub) cSub := by
  intro pins s σ H x y v u Q I rv ru w
  obtain ⟨dx, dy, h, Q', rx, ry, rh, hr, k⟩ := w
  cases dx with
  | int i =>
    cases dy with
    | int j => cases (show _ = V.int i from rx); cases (show _ = V.int j from ry); exact op_sub pins s σ H _ _ v u Q I rv ru ⟨i, j, rfl, rfl, k _ (.int (i - j)) H h rfl (.refl rh) hr⟩
    | _ => exact hr.elim
  | _ => exact hr.elim
/-- a tuple once over, or an empty one: itself -/
theorem tup_mul1 (l : Addr) (items : Array Value) (n : Nat) (dd : Option Addr) (sl : Array (Option Value)) (x : Int) (u : Tok) (c0 : (decide (x < -(2 ^ 63)) || decide (x ≥ 2 ^ 63)) = false) (c1 : (items.isEmpty || x == 1) = true) :
    Meets (Builtin.«tuple.__mul__» ⟨[.ref l, .int x u], []⟩) (fun _ R s => s.heap.get? l = some { cls := .type "tuple", dict := dd, data := .seq items n, slots := sl } ∧
      R (.ok (.ret (Value.ref l))) s) :=
  .of_wp fun prog w A R s h => by
    obtain ⟨hp, g, d, tk, os⟩ := s
    obtain ⟨hl, h⟩ := h
    have f1 := AutoSeq1.idx_int
    wp_walk using wpAny_loadPart' hl
    repeat (first
      | (refine wpAny_ite_false (decide_eq_false (by rw [c0]; exact Bool.false_ne_true)) ?_; wp_walk using wpAny_loadPart' hl)
      | (refine wpAny_ite_true (decide_eq_true c1) ?_; wp_walk using wpAny_loadPart' hl))
    exact ⟨_, rfl, h⟩
/-- a tuple no times over: a new empty one -/
theorem tup_mul0 (l : Addr) (items : Array Value) (n : Nat) (dd : Option Addr) (sl : Array (Option Value)) (x : Int) (u : Tok) (c0 : (decide (x < -(2 ^ 63)) || decide (x ≥ 2 ^ 63)) = false) (c1 : (items.isEmpty || x == 1) = false) (c2 : (decide (x ≤ 0) || items.isEmpty) = true) :
    Meets (Builtin.«tuple.__mul__» ⟨[.ref l, .int x u], []⟩) (fun _ R s => s.heap.get? l = some { cls := .type "tuple", dict := dd, data := .seq items n, slots := sl } ∧
      R (.ok (.ret (Value.ref s.heap.objs.size))) { s with heap := s.heap.push { cls := Value.type "tuple", data := Data.seq #[] }, toks := s.toks }) :=
  .of_wp fun prog w A R s h => by
    obtain ⟨hp, g, d, tk, os⟩ := s
    obtain ⟨hl, h⟩ := h
    have f1 := AutoSeq1.idx_int
    wp_walk using wpAny_loadPart' hl
    repeat (first
      | (refine wpAny_ite_false (decide_eq_false (by rw [c0]; exact Bool.false_ne_true)) ?_; wp_walk using wpAny_loadPart' hl)
      | (refine wpAny_ite_false (decide_eq_false (by rw [c1]; exact Bool.false_ne_true)) ?_; wp_walk using wpAny_loadPart' hl)
      | (refine wpAny_ite_true (decide_eq_true c2) ?_; wp_walk using wpAny_loadPart' hl))
    exact ⟨_, rfl, h⟩
/-- a tuple some times over, by values -/
def rRepA (K : PySem.W.Frag) : R2 := fun x y H Q => ∃ l k xs, x = .ref l ∧ y = .int k ∧ SqT K H l xs ∧ 0 ≤ k ∧ k ≤ 1000 ∧ xs.length ≤ 1000 ∧
  ((xs = [] ∨ k = 1) → Q (.ref l) H) ∧ ∀ p, H p = none → Q (.ref p) (upd H p (.tup (List.replicate k.toNat xs).flatten))
theorem op_repA : OpR X (binaryOp .Mult) (rRepA X.K) := by
  intro pins s σ H x y v u Q I rx ry w
  obtain ⟨l, k, xs, rfl, rfl, hT, hk, hk2, hz, q1, q⟩ := w
  by_cases c : xs ≠ [] ∧ 2 ≤ k
  · exact op_repT pins s σ H _ _ v u Q I rx ry ⟨l, k, xs, rfl, rfl, hT, c.1, c.2, hk2, hz, q⟩
  have rx' : v = Value.ref l := rx
  subst rx'
  obtain ⟨t, ru⟩ : ∃ t, u = Value.int k t := ry
  subst ru
  obtain ⟨its, r, ⟨⟨cls, dd, data, sl⟩, ho, hc, n, hd⟩, hs⟩ := I.tuple hT
  simp only at hc hd
  subst hc hd
  have hlen : its.length = xs.length := r.length.symm
  have c0 : (decide (k < -(2 ^ 63)) || decide (k ≥ 2 ^ 63)) = false := by
    rw [decide_eq_false (by omega), decide_eq_false (by omega)] <;> rfl
  have go : ∀ {Q' : Value → Shared → Prop} {Sp : Around → (Result → Shared → Prop) → Shared → Prop}, Meets (Builtin.«tuple.__mul__» ⟨[.ref l, .int k t], []⟩) Sp →
      Sp (X.A.in1) (fun r s' => ∃ u', r = .ok (.ret u') ∧ Q' u' s') s → True := fun _ _ => trivial
  by_cases c1 : xs = [] ∨ k = 1
  · have e1 : (its.toArray.isEmpty || k == 1) = true := by
      rcases c1 with e | e
      · have : its = [] := List.eq_nil_of_length_eq_zero (by rw [hlen, e]; rfl)
        rw [this]; rfl
      · rw [e]; simp
    exact wpAny_binaryOp_repeat_ref (T := "tuple") (U := "int") (by decide) ⟨_, ho, rfl⟩ (fun s' => typeIs_int s' k t) noFill_tuple_mul F.fills_int_mul F.slot_int_rmul repeat_tuple F.slot_int_index.lookup
      (call_meets F.slot_int_rmul (typeIs_int s k t) F.entry_int_rmul (F.args_int_rmul_2 _ _) (int_rmul_tuple k t l its.toArray n dd sl)
        ⟨ho, rfl, ⟨_, ho, rfl⟩, call_meets F.slot_tuple_mul ⟨_, ho, rfl⟩ F.entry_tuple_mul (F.args_tuple_mul_2 _ _) (tup_mul1 l its.toArray n dd sl k t c0 e1) ⟨ho, ⟨.ref l, H, I, rfl, q1 c1⟩⟩⟩)
  · have k0 : k = 0 := by
      rcases Classical.not_and_iff_not_or_not.mp c with e | e
      · exact absurd (.inl (Classical.not_not.mp e)) c1
      · have : ¬ k = 1 := fun z => c1 (.inr z)
        omega
    have xn : its.toArray.isEmpty = false := by
      cases its with
      | nil => exact absurd (.inl (List.eq_nil_of_length_eq_zero (by rw [← hlen]; rfl))) c1
      | cons a b => rfl
    have e1 : (its.toArray.isEmpty || k == 1) = false := by rw [xn, k0]; rfl
    have e2 : (decide (k ≤ 0) || its.toArray.isEmpty) = true := by rw [k0]; rfl
    refine wpAny_binaryOp_repeat_ref (T := "tuple") (U := "int") (by decide) ⟨_, ho, rfl⟩ (fun s' => typeIs_int s' k t) noFill_tuple_mul F.fills_int_mul F.slot_int_rmul repeat_tuple F.slot_int_index.lookup
      (call_meets F.slot_int_rmul (typeIs_int s k t) F.entry_int_rmul (F.args_int_rmul_2 _ _) (int_rmul_tuple k t l its.toArray n dd sl)
        ⟨ho, rfl, ⟨_, ho, rfl⟩, call_meets F.slot_tuple_mul ⟨_, ho, rfl⟩ F.entry_tuple_mul (F.args_tuple_mul_2 _ _) (tup_mul0 l its.toArray n dd sl k t c0 e1 e2) ⟨ho, ?_⟩⟩)
    have er : (List.replicate k.toNat xs).flatten = [] := by rw [k0]; rfl
    refine ⟨.ref s.heap.objs.size, _, I.laid (t' := s.toks) (o := .tup (List.replicate k.toNat xs).flatten) (fun b ob q => Heap.get?_push_of_some _ q) (Nat.le_refl _) ?_, rfl, q _ (I.hok.fresh (Nat.le_refl _))⟩
    rw [er]
    exact ⟨Nat.zero_le _, [], .nil, IsTup.new _ _⟩
/-- ints; a tuple or a list some times over (0 to 1000) -/
def cMul : C2 := fun x y h Q => match x, y with
  | .int i, .int j => CMulW i j ∧ Q (.int (i * j)) h
  | .tup xs, .int k => 0 ≤ k ∧ k ≤ 1000 ∧ xs.length ≤ 1000 ∧ Q (.tup (List.replicate k.toNat xs).flatten) h
  | .ref a, .int k => ∃ xs, h a = some (.lst xs) ∧ 0 ≤ k ∧ k ≤ 1000 ∧ xs.length ≤ 1000 ∧ ∀ p, h p = none → Q (.ref p) (updD h p (.lst (List.replicate k.toNat xs).flatten))
  | _, _ => False
theorem od_mul : OpD X (binaryOp .Mult) cMul := by
  intro pins s σ H x y v u Q I rv ru w
  obtain ⟨dx, dy, h, Q', rx, ry, rh, hr, k⟩ := w
  cases dx with
  | int i =>
    cases dy with
    | int j => cases (show _ = V.int i from rx); cases (show _ = V.int j from ry); exact op_mulW pins s σ H _ _ v u Q I rv ru ⟨i, j, rfl, rfl, hr.1, k _ (.int (i * j)) H h rfl (.refl rh) hr.2⟩
    | _ => exact hr.elim
  | tup xs =>
    cases dy with
    | int j =>
      cases (show _ = V.int j from ry)
      obtain ⟨a, vs, rfl, qa, ra⟩ := rx
      obtain ⟨h0, h1, hz, q⟩ := hr
      refine op_repA pins s σ H _ _ v u Q I rv ru ⟨a, j, vs, rfl, rfl, qa, h0, h1, by rw [ra.length]; exact hz, fun e => ?_, fun p np => ?_⟩
      · refine k _ (.tup (List.replicate j.toNat xs).flatten) H h ⟨a, vs, rfl, qa, ?_⟩ (.refl rh) q
        rcases e with e | e
        · have e2 : xs = [] := ra.nil_iff.mp e
          rw [e, e2]
          have : ∀ n : Nat, (List.replicate n ([] : List D)).flatten = [] := fun n => by induction n with
            | zero => rfl
            | succ n ih => rw [List.replicate_succ, List.flatten_cons, ih]; rfl
          rw [this]
          rfl
        · rw [e]
          show RDs X.K H vs (xs ++ [])
          rw [List.append_nil]
          exact ra
      · exact k _ (.tup (List.replicate j.toNat xs).flatten) _ h (new_tup np (ra.rep _)) (.hid rh np (rh.none np)) q
    | _ => exact hr.elim
  | ref a =>
    cases dy with
    | int j =>
      cases (show _ = V.int j from ry); cases (show _ = V.ref a from rx)
      obtain ⟨xs, ha, h0, h1, hz, q⟩ := hr
      obtain ⟨vs, ea, ra⟩ := rh a _ ha
      have hz2 : vs.length * j.toNat ≤ sizeLine := by
        rw [ra.length, sizeLine_eq]
        have a1 : xs.length * j.toNat ≤ 1000 * 1000 := Nat.mul_le_mul hz (by omega)
        omega
      refine op_rep pins s σ H _ _ v u Q I rv ru ⟨a, j, vs, rfl, rfl, ea, by omega, by omega, hz2, fun p np => ?_⟩
      exact k _ (.ref p) _ _ rfl (.new rh np (new_lst np (ra.rep _))) (q p (rh.none np))
    | _ => exact hr.elim
  | _ => exact hr.elim
/-- ints under C, an answer -/
def cII (C : Int → Int → Prop) (g : Int → Int → D) : C2 := fun x y h Q => match x, y with
  | .int i, .int j => C i j ∧ Q (g i j) h
  | _, _ => False
theorem od_ii {f : Value → Value → Sem Value} {C : Int → Int → Prop} {g : Int → Int → V} {g' : Int → Int → D} (o : OpR X f (rI C g)) (e : ∀ i j H, RD X.K H (g i j) (g' i j)) : OpD X f (cII C g') := by
  intro pins s σ H x y v u Q I rv ru w
  obtain ⟨dx, dy, h, Q', rx, ry, rh, hr, k⟩ := w
  cases dx with
  | int i =>
    cases dy with
    | int j => cases (show _ = V.int i from rx); cases (show _ = V.int j from ry); exact o pins s σ H _ _ v u Q I rv ru ⟨i, j, rfl, rfl, hr.1, k _ (g' i j) H h (e i j H) (.refl rh) hr.2⟩
    | _ => exact hr.elim
  | _ => exact hr.elim
abbrev cFdiv : C2 := cII CDivW fun i j => .int (i / j)
abbrev cMod : C2 := cII (fun _ j => 0 < j) fun i j => .int (i % j)
abbrev cPow : C2 := cII CPow fun i j => .int (i ^ j.toNat)
theorem od_fdiv : OpD X (binaryOp .FloorDiv) cFdiv := od_ii op_fdivW fun _ _ _ => rfl
theorem od_mod : OpD X (binaryOp .Mod) cMod := od_ii op_mod fun _ _ _ => rfl
theorem od_pow : OpD X (binaryOp .Pow) cPow := od_ii op_pow fun _ _ _ => rfl
def cNeg : C1 := fun x h Q => match x with
  | .int i => Q (.int (-i)) h
  | _ => False
theorem ud_neg : UnD X (unaryOp .USub) cNeg := by
  intro pins s σ H x v Q I rv w
  obtain ⟨dx, h, Q', rx, rh, hr, k⟩ := w
  cases dx with
  | int i => cases (show _ = V.int i from rx); exact un_neg pins s σ H _ v Q I rv ⟨i, rfl, k _ (.int (-i)) H h rfl (.refl rh) hr⟩
  | _ => exact hr.elim

/-! ### comparisons -/
theorem od_ii0 {f : Value → Value → Sem Value} {g : Int → Int → V} {g' : Int → Int → D} (o : OpR X f (rI0 g)) (e : ∀ i j H, RD X.K H (g i j) (g' i j)) : OpD X f (cII (fun _ _ => True) g') := by
  intro pins s σ H x y v u Q I rv ru w
  obtain ⟨dx, dy, h, Q', rx, ry, rh, hr, k⟩ := w
  cases dx with
  | int i =>
    cases dy with
    | int j => cases (show _ = V.int i from rx); cases (show _ = V.int j from ry); exact o pins s σ H _ _ v u Q I rv ru ⟨i, j, rfl, rfl, k _ (g' i j) H h (e i j H) (.refl rh) hr.2⟩
    | _ => exact hr.elim
  | _ => exact hr.elim
abbrev cLe : C2 := cII (fun _ _ => True) fun i j => .bl (decide (i ≤ j))
abbrev cGt : C2 := cII (fun _ _ => True) fun i j => .bl (decide (j < i))
abbrev cGe : C2 := cII (fun _ _ => True) fun i j => .bl (decide (j ≤ i))
theorem od_le : OpD X (compareOp .LtE) cLe := od_ii0 op_le fun _ _ _ => rfl
theorem od_gt : OpD X (compareOp .Gt) cGt := od_ii0 op_gt fun _ _ _ => rfl
theorem od_ge : OpD X (compareOp .GtE) cGe := od_ii0 op_ge fun _ _ _ => rfl
/-- <: ints; tuples of ints -/
def cLt : C2 := fun x y h Q => match x, y with
  | .int i, .int j => Q (.bl (decide (i < j))) h
  | .tup xs, .tup ys => ∃ ns ms, xs = ns.map D.int ∧ ys = ms.map D.int ∧ Q (.bl (HT.lexLt ns ms)) h
  | _, _ => False
theorem od_lt (hu : X.A.units < cLine) : OpD X (compareOp .Lt) cLt := by
  intro pins s σ H x y v u Q I rv ru w
  obtain ⟨dx, dy, h, Q', rx, ry, rh, hr, k⟩ := w
  cases dx with
  | int i =>
    cases dy with
    | int j => cases (show _ = V.int i from rx); cases (show _ = V.int j from ry); exact op_lt pins s σ H _ _ v u Q I rv ru ⟨i, j, rfl, rfl, k _ (.bl (decide (i < j))) H h rfl (.refl rh) hr⟩
    | _ => exact hr.elim
  | tup xs =>
    cases dy with
    | tup ys =>
      obtain ⟨a, vs, rfl, qa, ra⟩ := rx
      obtain ⟨b, ws, rfl, qb, rb⟩ := ry
      obtain ⟨ns, ms, rfl, rfl, q⟩ := hr
      exact op_ltT hu pins s σ H _ _ v u Q I rv ru ⟨a, b, ns, ms, rfl, rfl, by rw [← ra.ints]; exact qa, by rw [← rb.ints]; exact qb, k _ (.bl (HT.lexLt ns ms)) H h rfl (.refl rh) q⟩
    | _ => exact hr.elim
  | _ => exact hr.elim
/-- ==, != of data of any depth to 64 -/
def shp (d : D) : Prop := rf d = true ∧ SeqAt.shaped (toP d) = true
def eqD (x y : D) : Bool := PyData.eqv (toP x) (toP y)
def cEq : C2 := fun x y h Q => shp x ∧ shp y ∧ Q (.bl (eqD x y)) h
def cNe : C2 := fun x y h Q => shp x ∧ shp y ∧ Q (.bl (!eqD x y)) h
theorem od_eq (hu : X.A.units + 64 < cLine) : OpD X (compareOp .Eq) cEq := by
  intro pins s σ H x y v u Q I rv ru w
  obtain ⟨dx, dy, h, Q', rx, ry, rh, ⟨sx, sy, q⟩, k⟩ := w
  exact op_eqD hu pins s σ H x y v u Q I rv ru ⟨toP dx, toP dy, rx.dp sx.1, ry.dp sy.1, sx.2, sy.2, k _ (.bl (eqD dx dy)) H h rfl (.refl rh) q⟩
theorem od_ne (hu : X.A.units + 64 < cLine) : OpD X (compareOp .NotEq) cNe := by
  intro pins s σ H x y v u Q I rv ru w
  obtain ⟨dx, dy, h, Q', rx, ry, rh, ⟨sx, sy, q⟩, k⟩ := w
  exact op_neD hu pins s σ H x y v u Q I rv ru ⟨toP dx, toP dy, rx.dp sx.1, ry.dp sy.1, sx.2, sy.2, k _ (.bl (!eqD dx dy)) H h rfl (.refl rh) q⟩
/-- is None; is of bools -/
def isN : D → Bool
  | .non => true
  | _ => false
theorem RD.isN {K : PySem.W.Frag} {H : Hp} {v : V} {d : D} (r : RD K H v d) : decide (v = .non) = isN d := by
  cases d with
  | non => cases (show v = V.non from r); rfl
  | bl b => cases (show v = V.bl b from r); rfl
  | int b => cases (show v = V.int b from r); rfl
  | str b => cases (show v = V.str b from r); rfl
  | ref b => cases (show v = V.ref b from r); rfl
  | ty b => cases (show v = V.ty b from r); rfl
  | tup ds => obtain ⟨a, vs, rfl, _⟩ := r; rfl
  | fl ds => obtain ⟨a, vs, rfl, _⟩ := r; rfl
def cIs : C2 := fun x y h Q => match x, y with
  | x, .non => Q (.bl (isN x)) h
  | .bl a, .bl b => Q (.bl (decide (a = b))) h
  | _, _ => False
def cIsNot : C2 := fun x y h Q => match x, y with
  | x, .non => Q (.bl (!isN x)) h
  | .bl a, .bl b => Q (.bl (!decide (a = b))) h
  | _, _ => False
theorem od_is : OpD X (compareOp .Is) cIs := by
  intro pins s σ H x y v u Q I rv ru w
  obtain ⟨dx, dy, h, Q', rx, ry, rh, hr, k⟩ := w
  cases dy with
  | non =>
    cases (show _ = V.non from ry)
    have hr' : Q' (.bl (isN dx)) h := by cases dx <;> exact hr
    exact op_isN pins s σ H _ _ v u Q I rv ru ⟨rfl, k _ (.bl (isN dx)) H h (by rw [rx.isN]; rfl) (.refl rh) hr'⟩
  | bl b =>
    cases dx with
    | bl a => cases (show _ = V.bl a from rx); cases (show _ = V.bl b from ry); exact op_isBl pins s σ H _ _ v u Q I rv ru ⟨a, b, rfl, rfl, k _ (.bl (decide (a = b))) H h rfl (.refl rh) hr⟩
    | _ => exact hr.elim
  | _ => cases dx <;> exact hr.elim
theorem od_isNot : OpD X (compareOp .IsNot) cIsNot := by
  intro pins s σ H x y v u Q I rv ru w
  obtain ⟨dx, dy, h, Q', rx, ry, rh, hr, k⟩ := w
  cases dy with
  | non =>
    cases (show _ = V.non from ry)
    have hr' : Q' (.bl (!isN dx)) h := by cases dx <;> exact hr
    exact op_notN pins s σ H _ _ v u Q I rv ru ⟨rfl, k _ (.bl (!isN dx)) H h (by rw [rx.isN]; rfl) (.refl rh) hr'⟩
  | bl b =>
    cases dx with
    | bl a => cases (show _ = V.bl a from rx); cases (show _ = V.bl b from ry); exact op_notBl pins s σ H _ _ v u Q I rv ru ⟨a, b, rfl, rfl, k _ (.bl (!decide (a = b))) H h rfl (.refl rh) hr⟩
    | _ => exact hr.elim
  | _ => cases dx <;> exact hr.elim

/-! ### items, slices -/
def cIx : C2 := fun x y h Q => match x, y with
  | .tup ds, .int i => ∃ d, atI ds i = some d ∧ Q d h
  | .fl ds, .int i => ∃ d, atI ds i = some d ∧ Q d h
  | .ref a, .int i => ∃ ds d, h a = some (.lst ds) ∧ atI ds i = some d ∧ Q d h
  | .str z, .int i => z.length ≤ sizeLine ∧ ∃ c, atI z.cps.toList i = some c ∧ Q (.str ⟨#[c]⟩) h
  | _, _ => False
theorem atI_RDs {K : PySem.W.Frag} {H : Hp} {ds : List D} {vs : List V} {i : Int} {d : D} (r : RDs K H vs ds) (e : atI ds i = some d) : ∃ v, atI vs i = some v ∧ RD K H v d := by
  unfold atI at e ⊢
  rw [r.length]
  cases q : ixN ds.length i with
  | none => rw [q] at e; cases e
  | some j =>
    rw [q] at e
    exact r.get e
theorem xd_ix : IxD X cIx := by
  intro value slice pins s σ H x y v u Q I rv ru w hs
  obtain ⟨dx, dy, h, Q', rx, ry, rh, hr, k⟩ := w
  cases dx with
  | tup ds =>
    cases dy with
    | int i =>
      cases (show _ = V.int i from ry)
      obtain ⟨a, vs, rfl, qa, ra⟩ := rx
      obtain ⟨d, e, q⟩ := hr
      obtain ⟨w', e', r'⟩ := atI_RDs ra e
      exact ix_tup value slice pins s σ H _ _ v u Q I rv ru ⟨a, vs, i, w', rfl, rfl, qa, e', k _ d H h r' (.refl rh) q⟩ hs
    | _ => exact hr.elim
  | fl ds =>
    cases dy with
    | int i =>
      cases (show _ = V.int i from ry)
      obtain ⟨a, vs, rfl, qa, ra⟩ := rx
      obtain ⟨d, e, q⟩ := hr
      obtain ⟨w', e', r'⟩ := atI_RDs ra e
      exact ix_list value slice pins s σ H _ _ v u Q I rv ru ⟨a, vs, i, w', rfl, rfl, sql_fl qa, e', k _ d H h r' (.refl rh) q⟩ hs
    | _ => exact hr.elim
  | ref a =>
    cases dy with
    | int i =>
      cases (show _ = V.int i from ry); cases (show _ = V.ref a from rx)
      obtain ⟨ds, d, ha, e, q⟩ := hr
      obtain ⟨vs, ea, ra⟩ := rh a _ ha
      obtain ⟨w', e', r'⟩ := atI_RDs ra e
      exact ix_list value slice pins s σ H _ _ v u Q I rv ru ⟨a, vs, i, w', rfl, rfl, .of ea, e', k _ d H h r' (.refl rh) q⟩ hs
    | _ => exact hr.elim
  | str z =>
    cases dy with
    | int i =>
      cases (show _ = V.int i from ry); cases (show _ = V.str z from rx)
      obtain ⟨hz, c, e, q⟩ := hr
      exact ix_str value slice pins s σ H _ _ v u Q I rv ru ⟨z, i, c, rfl, rfl, hz, e, k _ (.str ⟨#[c]⟩) H h rfl (.refl rh) q⟩ hs
    | _ => exact hr.elim
  | _ => exact hr.elim

/-- d[lo:hi] -/
abbrev CSl := D → Option Int → Option Int → HD → DK → Prop
def cutD (xs : List D) (lo hi : Option Int) : List D := (xs.drop (HT.sIx xs.length 0 lo)).take (HT.sIx xs.length xs.length hi - HT.sIx xs.length 0 lo)
theorem RDs.cut {K : PySem.W.Frag} {H : Hp} {ds : List D} {vs : List V} (r : RDs K H vs ds) (lo hi : Option Int) : RDs K H (cutV vs lo hi) (cutD ds lo hi) := by
  unfold cutV cutD
  rw [r.length]
  exact (r.drop _).take _
def lowSl (K : PySem.W.Frag) (r : CSl) : V → Option Int → Option Int → Hp → VK → Prop := fun x lo hi H Q => ∃ dx h Q', RD K H x dx ∧ RH K H h ∧ r dx lo hi h Q' ∧ ∀ v d H' h', RD K H' v d → Stp K H h H' h' → Q' d h' → Q v H'
def cSlc : CSl := fun x lo hi h Q => match x with
  | .tup ds => Q (.tup (cutD ds lo hi)) h
  | .fl ds => ∀ p, h p = none → Q (.ref p) (updD h p (.lst (cutD ds lo hi)))
  | .str z => z.length ≤ sizeLine ∧ Q (.str (cutS z lo hi)) h
  | .ref a => ∃ ds, h a = some (.lst ds) ∧ ∀ p, h p = none → Q (.ref p) (updD h p (.lst (cutD ds lo hi)))
  | _ => False
theorem sld : SlR X (lowSl X.K cSlc) := by
  intro pins s σ H x v vl vu lo hi sl Q I rv hs pl pu w
  obtain ⟨dx, h, Q', rx, rh, hr, k⟩ := w
  cases dx with
  | tup ds =>
    obtain ⟨a, vs, rfl, qa, ra⟩ := rx
    refine sl_tupA pins s σ H _ v vl vu lo hi sl Q I rv hs pl pu ⟨a, vs, rfl, qa, fun e => ?_, fun _ p np => ?_⟩
    · refine k _ (.tup (cutD ds lo hi)) H h ⟨a, vs, rfl, qa, ?_⟩ (.refl rh) hr
      have := ra.cut lo hi
      unfold cutV at this
      rw [e.1, e.2, List.drop_zero, Nat.sub_zero, List.take_length] at this
      exact this
    · exact k _ (.tup (cutD ds lo hi)) _ h (new_tup np (ra.cut lo hi)) (.hid rh np (rh.none np)) hr
  | fl ds =>
    obtain ⟨a, vs, rfl, qa, ra⟩ := rx
    exact sl_list pins s σ H _ v vl vu lo hi sl Q I rv hs pl pu ⟨a, vs, rfl, sql_fl qa, fun p np => k _ (.ref p) _ _ rfl (.new rh np (new_lst np (ra.cut lo hi))) (hr p (rh.none np))⟩
  | ref a =>
    cases (show _ = V.ref a from rx)
    obtain ⟨ds, ha, q⟩ := hr
    obtain ⟨vs, ea, ra⟩ := rh a _ ha
    exact sl_list pins s σ H _ v vl vu lo hi sl Q I rv hs pl pu ⟨a, vs, rfl, .of ea, fun p np => k _ (.ref p) _ _ rfl (.new rh np (new_lst np (ra.cut lo hi))) (q p (rh.none np))⟩
  | str z =>
    cases (show _ = V.str z from rx)
    exact sl_str pins s σ H _ v vl vu lo hi sl Q I rv hs pl pu ⟨z, rfl, hr.1, k _ (.str (cutS z lo hi)) H h rfl (.refl rh) hr.2⟩
  | _ => exact hr.elim
abbrev CO := En → HD → (Option Int → HD → Prop) → Prop
def lowO (K : PySem.W.Frag) (B : Bs) (t : CO) : TO := fun σ H Q => ∃ ρ h Q', Sl K σ H ρ ∧ RB K B H h ∧ t ρ h Q' ∧ ∀ o H' h', Stp K H h H' h' → Q' o h' → Q o H'
def QO (X : Cx) (B : Bs) (e : Option Expr) (t : CO) : Prop := PO X e (lowO X.K B t)
theorem PO.imp {X : Cx} {e : Option Expr} {t t' : TO} (p : PO X e t') (k : ∀ σ H Q, t σ H Q → t' σ H Q) : PO X e t := ⟨fun pins s σ H Q I h => p.run pins s σ H Q I (k σ H Q h)⟩
def cNoP : CO := fun _ h Q => Q none h
def cPart (t : CE) : CO := fun ρ h Q => t ρ h fun x h1 => match x with
  | .int i => Q (some i) h1
  | _ => False
theorem qo_none {B : Bs} : QO X B none cNoP := PO.imp po_none fun σ H Q w => by
  obtain ⟨ρ, h, Q', sl, rh, ht, k⟩ := w
  exact k none H h (.refl rh.rh) ht
theorem qo_some {B : Bs} {e : Expr} {t : CE} (p : QE X B e t) : QO X B (some e) (cPart t) := PO.imp (po_some p) fun σ H Q w => by
  obtain ⟨ρ, h, Q', sl, rh, ht, k⟩ := w
  refine ⟨ρ, h, _, sl, rh, ht, fun v d H1 h1 rv s1 q1 => ?_⟩
  cases d with
  | int i => cases (show v = V.int i from rv); exact ⟨i, rfl, k (some i) H1 h1 s1 q1⟩
  | _ => exact q1.elim
def cSl (r : CSl) (te : CE) (tl th : CO) : CE := fun ρ h Q => te ρ h fun x h1 => tl ρ h1 fun l h2 => th ρ h2 fun u h3 => r x l u h3 Q
theorem qe_slice {B : Bs} {e : Expr} {lo hi : Option Expr} {te : CE} {tl th : CO} {p2 pos : Pos} (he : QE X B e te) (hl : QO X B lo tl) (hu : QO X B hi th) : QE X B (.Subscript e (.Slice lo hi none p2) pos) (cSl cSlc te tl th) :=
  PE.imp (pe_slice sld he hl hu) fun σ H Q w => by
    obtain ⟨ρ, h, Q', sl, rh, ht, k⟩ := w
    refine ⟨ρ, h, _, sl, rh, ht, fun v d H1 h1 rv s1 q1 => ?_⟩
    refine ⟨ρ, h1, _, sl.mono s1.ts, rh.trans s1, q1, fun l H2 h2 s2 q2 => ?_⟩
    refine ⟨ρ, h2, _, sl.mono (s1.ts.trans s2.ts), rh.trans (s1.trans s2), q2, fun u H3 h3 s3 q3 => ?_⟩
    exact ⟨d, h3, Q', rv.mono (s2.ts.trans s3.ts), s3.rh, q3, fun v' d' H' h' r' s' q' => k v' d' H' h' r' (((s1.trans s2).trans s3).trans s') q'⟩

/-! ### built-in calls -/
theorem RDs.one {K : PySem.W.Frag} {H : Hp} {vs : List V} {d : D} (r : RDs K H vs [d]) : ∃ v, vs = [v] ∧ RD K H v d := by
  obtain ⟨v, r', rfl, q, t⟩ := r
  cases (show r' = [] from t)
  exact ⟨v, rfl, q⟩
theorem RDs.two {K : PySem.W.Frag} {H : Hp} {vs : List V} {d e : D} (r : RDs K H vs [d, e]) : ∃ v w, vs = [v, w] ∧ RD K H v d ∧ RD K H w e := by
  obtain ⟨v, r', rfl, q, t⟩ := r
  obtain ⟨w, rfl, q2⟩ := RDs.one t
  exact ⟨v, w, rfl, q, q2⟩
def cLen : CL := fun ds h Q => match ds with
  | [.tup xs] => Q (.int xs.length) h
  | [.fl xs] => Q (.int xs.length) h
  | [.str z] => z.length ≤ sizeLine ∧ Q (.int z.length) h
  | [.ref a] => (∃ xs, h a = some (.lst xs) ∧ Q (.int xs.length) h) ∨ (∃ kvs, h a = some (.dK kvs) ∧ Q (.int kvs.length) h)
  | _ => False
theorem cd_len : CallD X (.builtin "len") cLen := by
  intro pins s σ H xs us Q I rv w
  obtain ⟨ds, h, Q', rx, rh, hr, k⟩ := w
  match ds, hr with
  | [.tup ys], hr =>
    obtain ⟨v, rfl, a, vs, rfl, qa, ra⟩ := rx.one
    exact call_len_seq pins s σ H _ us Q I rv ⟨a, vs, rfl, .inr qa, k _ (.int ys.length) H h (by rw [ra.length]; rfl) (.refl rh) hr⟩
  | [.fl ys], hr =>
    obtain ⟨v, rfl, a, vs, rfl, qa, ra⟩ := rx.one
    exact call_len_seq pins s σ H _ us Q I rv ⟨a, vs, rfl, .inl (sql_fl qa), k _ (.int ys.length) H h (by rw [ra.length]; rfl) (.refl rh) hr⟩
  | [.str z], hr =>
    obtain ⟨v, rfl, q⟩ := rx.one
    cases (show v = V.str z from q)
    exact call_len_str pins s σ H _ us Q I rv ⟨z, rfl, hr.1, k _ (.int z.length) H h rfl (.refl rh) hr.2⟩
  | [.ref a], hr =>
    obtain ⟨v, rfl, q⟩ := rx.one
    cases (show v = V.ref a from q)
    rcases hr with ⟨ys, ha, q⟩ | ⟨kvs, ha, q⟩
    · obtain ⟨vs, ea, ra⟩ := rh a _ ha
      exact call_len_seq pins s σ H _ us Q I rv ⟨a, vs, rfl, .inl (.of ea), k _ (.int ys.length) H h (by rw [ra.length]; rfl) (.refl rh) q⟩
    · obtain ⟨vs, ea, ra⟩ := rh a _ ha
      exact call_lenD pins s σ H _ us Q I rv ⟨a, vs, rfl, ea, k _ (.int kvs.length) H h (by rw [ra.length]; rfl) (.refl rh) q⟩
/-- tuple(a list or tuple), list(..) -/
def cTuple : CL := fun ds h Q => match ds with
  | [.tup xs] => Q (.tup xs) h
  | [.fl xs] => Q (.tup xs) h
  | [.ref a] => ∃ xs, h a = some (.lst xs) ∧ Q (.tup xs) h
  | _ => False
theorem cd_tuple : CallD X (.type "tuple") cTuple := by
  intro pins s σ H xs us Q I rv w
  obtain ⟨ds, h, Q', rx, rh, hr, k⟩ := w
  match ds, hr with
  | [.tup ys], hr =>
    obtain ⟨v, rfl, a, vs, rfl, qa, ra⟩ := rx.one
    exact call_tuple_of pins s σ H _ us Q I rv ⟨a, vs, rfl, .inr ⟨qa, k _ (.tup ys) H h ⟨a, vs, rfl, qa, ra⟩ (.refl rh) hr⟩⟩
  | [.fl ys], hr =>
    obtain ⟨v, rfl, a, vs, rfl, qa, ra⟩ := rx.one
    exact call_tuple_of pins s σ H _ us Q I rv ⟨a, vs, rfl, .inl ⟨sql_fl qa, fun p np => k _ (.tup ys) _ h (new_tup np ra) (.hid rh np (rh.none np)) hr⟩⟩
  | [.ref a], hr =>
    obtain ⟨v, rfl, q⟩ := rx.one
    cases (show v = V.ref a from q)
    obtain ⟨ys, ha, q⟩ := hr
    obtain ⟨vs, ea, ra⟩ := rh a _ ha
    exact call_tuple_of pins s σ H _ us Q I rv ⟨a, vs, rfl, .inl ⟨.of ea, fun p np => k _ (.tup ys) _ h (new_tup np ra) (.hid rh np (rh.none np)) q⟩⟩
def cList : CL := fun ds h Q => match ds with
  | [.tup xs] => ∀ p, h p = none → Q (.ref p) (updD h p (.lst xs))
  | [.fl xs] => ∀ p, h p = none → Q (.ref p) (updD h p (.lst xs))
  | [.ref a] => ∃ xs, h a = some (.lst xs) ∧ ∀ p, h p = none → Q (.ref p) (updD h p (.lst xs))
  | _ => False
theorem cd_list : CallD X (.type "list") cList := by
  intro pins s σ H xs us Q I rv w
  obtain ⟨ds, h, Q', rx, rh, hr, k⟩ := w
  match ds, hr with
  | [.tup ys], hr =>
    obtain ⟨v, rfl, a, vs, rfl, qa, ra⟩ := rx.one
    exact call_list_of pins s σ H _ us Q I rv ⟨a, vs, rfl, .inr qa, fun p np => k _ (.ref p) _ _ rfl (.new rh np (new_lst np ra)) (hr p (rh.none np))⟩
  | [.fl ys], hr =>
    obtain ⟨v, rfl, a, vs, rfl, qa, ra⟩ := rx.one
    exact call_list_of pins s σ H _ us Q I rv ⟨a, vs, rfl, .inl (sql_fl qa), fun p np => k _ (.ref p) _ _ rfl (.new rh np (new_lst np ra)) (hr p (rh.none np))⟩
  | [.ref a], hr =>
    obtain ⟨v, rfl, q⟩ := rx.one
    cases (show v = V.ref a from q)
    obtain ⟨ys, ha, q⟩ := hr
    obtain ⟨vs, ea, ra⟩ := rh a _ ha
    exact call_list_of pins s σ H _ us Q I rv ⟨a, vs, rfl, .inl (.of ea), fun p np => k _ (.ref p) _ _ rfl (.new rh np (new_lst np ra)) (q p (rh.none np))⟩
/-- abs, int of an int or a bool -/
def cAbs : CL := fun ds h Q => match ds with
  | [.int i] => Q (.int (if i < 0 then -i else i)) h
  | _ => False
theorem cd_abs : CallD X (.builtin "abs") cAbs := by
  intro pins s σ H xs us Q I rv w
  obtain ⟨ds, h, Q', rx, rh, hr, k⟩ := w
  match ds, hr with
  | [.int i], hr =>
    obtain ⟨v, rfl, q⟩ := rx.one
    cases (show v = V.int i from q)
    exact call_abs pins s σ H _ us Q I rv ⟨i, rfl, k _ (.int (if i < 0 then -i else i)) H h rfl (.refl rh) hr⟩
def cInt : CL := fun ds h Q => match ds with
  | [.int i] => Q (.int i) h
  | [.bl b] => Q (.int (if b then 1 else 0)) h
  | _ => False
theorem cd_int : CallD X (.type "int") cInt := by
  intro pins s σ H xs us Q I rv w
  obtain ⟨ds, h, Q', rx, rh, hr, k⟩ := w
  match ds, hr with
  | [.int i], hr =>
    obtain ⟨v, rfl, q⟩ := rx.one
    cases (show v = V.int i from q)
    exact call_int1 pins s σ H _ us Q I rv (.inl ⟨i, rfl, k _ (.int i) H h rfl (.refl rh) hr⟩)
  | [.bl i], hr =>
    obtain ⟨v, rfl, q⟩ := rx.one
    cases (show v = V.bl i from q)
    exact call_int1 pins s σ H _ us Q I rv (.inr ⟨i, rfl, k _ (.int (if i then 1 else 0)) H h rfl (.refl rh) hr⟩)
/-- any, all of a list of bools; sum, max, min of a list of ints -/
def cBools (f : List Bool → Bool) : CL := fun ds h Q => match ds with
  | [.ref a] => ∃ bs : List Bool, h a = some (.lst (bs.map D.bl)) ∧ Q (.bl (f bs)) h
  | _ => False
theorem cd_any (hc : X.calm = true) : CallD X (.builtin "any") (cBools fun bs => bs.any id) := by
  intro pins s σ H xs us Q I rv w
  obtain ⟨ds, h, Q', rx, rh, hr, k⟩ := w
  match ds, hr with
  | [.ref a], hr =>
    obtain ⟨v, rfl, q⟩ := rx.one
    cases (show v = V.ref a from q)
    obtain ⟨bs, ha, q⟩ := hr
    obtain ⟨vs, ea, ra⟩ := rh a _ ha
    rw [ra.bls] at ea
    exact cr_any hc pins s σ H _ us Q I rv ⟨a, bs, rfl, .of ea, k _ (.bl (bs.any id)) H h rfl (.refl rh) q⟩
theorem cd_all (hc : X.calm = true) : CallD X (.builtin "all") (cBools fun bs => bs.all id) := by
  intro pins s σ H xs us Q I rv w
  obtain ⟨ds, h, Q', rx, rh, hr, k⟩ := w
  match ds, hr with
  | [.ref a], hr =>
    obtain ⟨v, rfl, q⟩ := rx.one
    cases (show v = V.ref a from q)
    obtain ⟨bs, ha, q⟩ := hr
    obtain ⟨vs, ea, ra⟩ := rh a _ ha
    rw [ra.bls] at ea
    exact cr_all hc pins s σ H _ us Q I rv ⟨a, bs, rfl, .of ea, k _ (.bl (bs.all id)) H h rfl (.refl rh) q⟩
def cSum : CL := fun ds h Q => match ds with
  | [.ref a] => ∃ ns : List Int, h a = some (.lst (ns.map D.int)) ∧ Q (.int ns.sum) h
  | _ => False
theorem cd_sum (hc : X.calm = true) : CallD X (.builtin "sum") cSum := by
  intro pins s σ H xs us Q I rv w
  obtain ⟨ds, h, Q', rx, rh, hr, k⟩ := w
  match ds, hr with
  | [.ref a], hr =>
    obtain ⟨v, rfl, q⟩ := rx.one
    cases (show v = V.ref a from q)
    obtain ⟨bs, ha, q⟩ := hr
    obtain ⟨vs, ea, ra⟩ := rh a _ ha
    rw [ra.ints] at ea
    exact cr_sum hc pins s σ H _ us Q I rv ⟨a, bs, rfl, .of ea, k _ (.int bs.sum) H h rfl (.refl rh) q⟩
/-- max(list), max(a, b); min -/
def cMax : CL := fun ds h Q => match ds with
  | [.ref a] => ∃ ns : List Int, h a = some (.lst (ns.map D.int)) ∧ 0 < ns.length ∧ ∀ m, m ∈ ns → (∀ y, y ∈ ns → y ≤ m) → Q (.int m) h
  | [.int i, .int j] => Q (.int (if j > i then j else i)) h
  | _ => False
theorem cd_max (hc : X.calm = true) : CallD X (.builtin "max") cMax := by
  intro pins s σ H xs us Q I rv w
  obtain ⟨ds, h, Q', rx, rh, hr, k⟩ := w
  match ds, hr with
  | [.ref a], hr =>
    obtain ⟨v, rfl, q⟩ := rx.one
    cases (show v = V.ref a from q)
    obtain ⟨bs, ha, hl, q⟩ := hr
    obtain ⟨vs, ea, ra⟩ := rh a _ ha
    rw [ra.ints] at ea
    exact cr_max hc pins s σ H _ us Q I rv ⟨a, bs, rfl, .of ea, hl, fun m m1 m2 => k _ (.int m) H h rfl (.refl rh) (q m m1 m2)⟩
  | [.int i, .int j], hr =>
    obtain ⟨v, w, rfl, q, q2⟩ := rx.two
    cases (show v = V.int i from q); cases (show w = V.int j from q2)
    exact call_max2 hc pins s σ H _ us Q I rv ⟨i, j, rfl, k _ (.int (if j > i then j else i)) H h rfl (.refl rh) hr⟩
def cMin : CL := fun ds h Q => match ds with
  | [.int i, .int j] => Q (.int (if j < i then j else i)) h
  | _ => False
theorem cd_min (hc : X.calm = true) : CallD X (.builtin "min") cMin := by
  intro pins s σ H xs us Q I rv w
  obtain ⟨ds, h, Q', rx, rh, hr, k⟩ := w
  match ds, hr with
  | [.int i, .int j], hr =>
    obtain ⟨v, w, rfl, q, q2⟩ := rx.two
    cases (show v = V.int i from q); cases (show w = V.int j from q2)
    exact call_min2 hc pins s σ H _ us Q I rv ⟨i, j, rfl, k _ (.int (if j < i then j else i)) H h rfl (.refl rh) hr⟩
/-- isinstance: the kinds that are told -/
inductive Kd where
  | non | bl | int | str | tup | lst | dct
  deriving DecidableEq
def Kd.name : Kd → String
  | .non => "NoneType" | .bl => "bool" | .int => "int" | .str => "str" | .tup => "tuple" | .lst => "list" | .dct => "dict"
def Kd.isa : Kd → Kd → Bool
  | .bl, .int => true
  | a, b => decide (a = b)
theorem Kd.kit {K : PySem.W.Frag} : ∀ a b : Kd, PySem.W.kitOne K (.type a.name) (.type b.name) = some (a.isa b)
  | .non, .non => kit_ty (by decide +kernel) | .non, .bl => kit_ty (by decide +kernel) | .non, .int => kit_ty (by decide +kernel) | .non, .str => kit_ty (by decide +kernel) | .non, .tup => kit_ty (by decide +kernel) | .non, .lst => kit_ty (by decide +kernel) | .non, .dct => kit_ty (by decide +kernel)
  | .bl, .non => kit_ty (by decide +kernel) | .bl, .bl => kit_ty (by decide +kernel) | .bl, .int => kit_ty (by decide +kernel) | .bl, .str => kit_ty (by decide +kernel) | .bl, .tup => kit_ty (by decide +kernel) | .bl, .lst => kit_ty (by decide +kernel) | .bl, .dct => kit_ty (by decide +kernel)
  | .int, .non => kit_ty (by decide +kernel) | .int, .bl => kit_ty (by decide +kernel) | .int, .int => kit_ty (by decide +kernel) | .int, .str => kit_ty (by decide +kernel) | .int, .tup => kit_ty (by decide +kernel) | .int, .lst => kit_ty (by decide +kernel) | .int, .dct => kit_ty (by decide +kernel)
  | .str, .non => kit_ty (by decide +kernel) | .str, .bl => kit_ty (by decide +kernel) | .str, .int => kit_ty (by decide +kernel) | .str, .str => kit_ty (by decide +kernel) | .str, .tup => kit_ty (by decide +kernel) | .str, .lst => kit_ty (by decide +kernel) | .str, .dct => kit_ty (by decide +kernel)
  | .tup, .non => kit_ty (by decide +kernel) | .tup, .bl => kit_ty (by decide +kernel) | .tup, .int => kit_ty (by decide +kernel) | .tup, .str => kit_ty (by decide +kernel) | .tup, .tup => kit_ty (by decide +kernel) | .tup, .lst => kit_ty (by decide +kernel) | .tup, .dct => kit_ty (by decide +kernel)
  | .lst, .non => kit_ty (by decide +kernel) | .lst, .bl => kit_ty (by decide +kernel) | .lst, .int => kit_ty (by decide +kernel) | .lst, .str => kit_ty (by decide +kernel) | .lst, .tup => kit_ty (by decide +kernel) | .lst, .lst => kit_ty (by decide +kernel) | .lst, .dct => kit_ty (by decide +kernel)
  | .dct, .non => kit_ty (by decide +kernel) | .dct, .bl => kit_ty (by decide +kernel) | .dct, .int => kit_ty (by decide +kernel) | .dct, .str => kit_ty (by decide +kernel) | .dct, .tup => kit_ty (by decide +kernel) | .dct, .lst => kit_ty (by decide +kernel) | .dct, .dct => kit_ty (by decide +kernel)
def kd (h : HD) : D → Option Kd
  | .non => some .non
  | .bl _ => some .bl
  | .int _ => some .int
  | .str _ => some .str
  | .tup _ => some .tup
  | .fl _ => some .lst
  | .ref a => match h a with
    | some (.lst _) => some .lst
    | some (.dK _) => some .dct
    | some (.dT _) => some .dct
    | _ => none
  | .ty _ => none
theorem sqt_ty {K : PySem.W.Frag} {H : Hp} {a : Addr} {vs : List V} (q : SqT K H a vs) : TyX K H (.ref a) (.type "tuple") := by
  rcases q with (q | ⟨o, q⟩) | ⟨o, its, n, e, c, _⟩
  · exact .base (.tup q)
  · exact .fTuple q
  · exact .kTuple e c
theorem fl_ty {K : PySem.W.Frag} {H : Hp} {a : Addr} {vs : List V} (q : (∃ o, H a = some (.frz o (.lst vs))) ∨ SqL K (fun _ => none) a vs) : TyX K H (.ref a) (.type "list") := by
  rcases q with ⟨o, q⟩ | q
  · exact .base (.frz q)
  · rcases q with (q | ⟨o, q⟩) | ⟨o, its, n, e, c, _⟩
    · cases q
    · cases q
    · exact .kList e c
theorem kd_ty {K : PySem.W.Frag} {H : Hp} {h : HD} {v : V} {d : D} {z : Kd} (rh : RH K H h) (r : RD K H v d) (e : kd h d = some z) : TyX K H v (.type z.name) := by
  cases d with
  | non => cases e; cases (show v = V.non from r); exact .base .non
  | bl b => cases e; cases (show v = V.bl b from r); exact .base (.bl b)
  | int b => cases e; cases (show v = V.int b from r); exact .base (.int b)
  | str b => cases e; cases (show v = V.str b from r); exact .base (.str b)
  | tup ds => cases e; obtain ⟨a, vs, rfl, q, _⟩ := r; exact sqt_ty q
  | fl ds => cases e; obtain ⟨a, vs, rfl, q, _⟩ := r; exact fl_ty q
  | ty n => cases e
  | ref a =>
    cases (show v = V.ref a from r)
    have e : (match h a with
      | some (.lst _) => some Kd.lst
      | some (.dK _) => some Kd.dct
      | some (.dT _) => some Kd.dct
      | _ => none) = some z := e
    cases q : h a with
    | none => rw [q] at e; cases e
    | some o =>
      rw [q] at e
      cases o with
      | lst ds => cases e; obtain ⟨vs, ea, _⟩ := rh a _ q; exact .base (.lst ea)
      | dK ds => cases e; obtain ⟨vs, ea, _⟩ := rh a _ q; exact .base (.dK ea)
      | dT ds => cases e; obtain ⟨vs, ea, _⟩ := rh a _ q; exact .base (.dT ea)
      | ins C dx fs => cases e
      | raw o => cases e
      | dN P w ks => cases e
      | lkN P w o xs ks => cases e
/-- what an instance's class must have to be asked for -/
structure IsiC (K : PySem.W.Frag) (C : Addr) : Prop where
  cl : Cls K C
  ha : PySem.W.findIn K (.ref C) "__class__" = some (some (.builtin "object.__class__"))
  hn : PySem.W.specialIn K (.builtin "object.__class__") "__get__" = some (some (.builtin "getset_descriptor.__get__"))
  htk : PySem.W.takesIn K (.builtin "object.__class__") = some true
  hm : PySem.W.mroIn K C (.type "object") = some true
/-- isinstance(x, c) -/
def cIsi (K : PySem.W.Frag) : CL := fun ds h Q => match ds with
  | [x, .ty n] => (∃ z m, kd h x = some z ∧ n = Kd.name m ∧ Q (.bl (z.isa m)) h) ∨ (∃ a C dx fs b, x = .ref a ∧ h a = some (.ins C dx fs) ∧ IsiC K C ∧ PySem.W.kitOne K (.ref C) (.type n) = some b ∧ Q (.bl b) h)
  | [x, .ref c] => (∃ z b, kd h x = some z ∧ PySem.W.kitOne K (.type z.name) (.ref c) = some b ∧ Q (.bl b) h) ∨ (∃ a C dx fs b, x = .ref a ∧ h a = some (.ins C dx fs) ∧ IsiC K C ∧ PySem.W.kitOne K (.ref C) (.ref c) = some b ∧ Q (.bl b) h)
  | _ => False
theorem cd_isi : CallD X (.builtin "isinstance") (cIsi X.K) := by
  intro pins s σ H xs us Q I rv w
  obtain ⟨ds, h, Q', rx, rh, hr, k⟩ := w
  have insT : ∀ {a C dx fs}, h a = some (.ins C dx fs) → IsiC X.K C → TyX X.K H (.ref a) (.ref C) := fun {a C dx fs} e i => by
    obtain ⟨vs, ea, _⟩ := rh a _ e
    exact .base (.ins ea i.cl i.ha i.hn i.htk i.hm)
  match ds, hr with
  | [x, .ty n], hr =>
    obtain ⟨v, w, rfl, q, q2⟩ := rx.two
    cases (show w = V.ty n from q2)
    rcases hr with ⟨z, m, e, rfl, q3⟩ | ⟨a, C, dx, fs, b, rfl, e, i, kq, q3⟩
    · exact call_isi pins s σ H _ us Q I rv ⟨v, _, _, _, _, rfl, .ty _, kd_ty rh q e, z.kit m, k _ (.bl (z.isa m)) H h rfl (.refl rh) q3⟩
    · cases (show v = V.ref a from q)
      exact call_isi pins s σ H _ us Q I rv ⟨_, _, _, _, _, rfl, .ty _, insT e i, kq, k _ (.bl b) H h rfl (.refl rh) q3⟩
  | [x, .ref c], hr =>
    obtain ⟨v, w, rfl, q, q2⟩ := rx.two
    cases (show w = V.ref c from q2)
    rcases hr with ⟨z, b, e, kq, q3⟩ | ⟨a, C, dx, fs, b, rfl, e, i, kq, q3⟩
    · exact call_isi pins s σ H _ us Q I rv ⟨v, _, _, _, _, rfl, .own _, kd_ty rh q e, kq, k _ (.bl b) H h rfl (.refl rh) q3⟩
    · cases (show v = V.ref a from q)
      exact call_isi pins s σ H _ us Q I rv ⟨_, _, _, _, _, rfl, .own _, insT e i, kq, k _ (.bl b) H h rfl (.refl rh) q3⟩
end
end PD

-- PdC
set_option Elab.async false
set_option linter.all false
set_option maxRecDepth 100000
set_option maxHeartbeats 4000000
/-! PdC: what is walked, by data; loops and list comprehensions. -/
namespace PD
open PySem PySem.Spec PyProof.Rows L2

/-! ### enumerate(a tuple) -/
theorem enum_newT (l : Addr) (items : Array Value) (n : Nat) (dd : Option Addr) (sl : Array (Option Value)) :
    Meets (Builtin.«enumerate.__new__» ⟨[.type "enumerate", .ref l], []⟩) (fun _ R s => s.heap.get? l = some { cls := .type "tuple", dict := dd, data := .seq items n, slots := sl } ∧
      R (.ok (.ret (.ref (s.heap.push { cls := .type "tuple_iterator", data := .fields #[.ref l, .int 0 0] }).objs.size)))
        { s with heap := (s.heap.push { cls := .type "tuple_iterator", data := .fields #[.ref l, .int 0 0] }).push { cls := .type "enumerate", data := .fields #[.none, .bool false, .ref s.heap.objs.size, rawInt 0, .none, .none] } }) :=
  .of_wp fun prog w A R s hyp => by
    obtain ⟨hp, g, d, tk, os⟩ := s
    obtain ⟨hl, fin⟩ := hyp
    have subE := sub_enumerate
    have hT : Heap.IsTuple (Shared.heap ⟨hp, g, d, tk, os⟩) l items := ⟨_, hl, rfl, n, rfl⟩
    wp_walk using AutoSeq1.wpAny_loadPart' hl
    refine wpAny_stack_any fun stk => wpAny_pure ?_
    split
    · rename_i c _ _ _ _ _
      cases (c == Value.type "enumerate")
      · wp_walk using AutoSeq1.wpAny_loadPart' hl, wpAny_pyIter_tuple hT
        exact ⟨_, rfl, fin⟩
      · wp_walk using AutoSeq1.wpAny_loadPart' hl, wpAny_pyIter_tuple hT
        exact ⟨_, rfl, fin⟩
    · wp_walk using AutoSeq1.wpAny_loadPart' hl, wpAny_pyIter_tuple hT
      exact ⟨_, rfl, fin⟩
theorem call_enumT {prog : Program} {w : World} {A : Around} {E : Value → Shared → Prop} {s : Shared} {l : Addr} {items : Array Value} {Q : Value → Shared → Prop} (hT : IsTup s.heap l items)
    (k : ∀ h', IsEnum h' (s.heap.objs.size + 1) s.heap.objs.size 0 .none → h'.IsTupleIter s.heap.objs.size l 0 →
      (∀ b o, s.heap.get? b = some o → h'.get? b = some o) → Q (.ref (s.heap.objs.size + 1)) { s with heap := h' }) :
    wpAny (model prog w) A (call (.type "enumerate") [.ref l]) Q E s := by
  obtain ⟨⟨c, dct, dt, sl⟩, hl, hc, n, hd⟩ := hT
  simp only at hc hd
  subst hc hd
  refine callType_new F.called_enumerate (by decide) (F.typeCall_enumerate_1 _) (F.newCall_enumerate_1 _) (fun obj => F.args_object_init_2 obj _) F.entry_enumerate_new (enum_newT l items n dct sl) ⟨hl, ?_⟩
  have sz1 : (s.heap.push { cls := .type "tuple_iterator", data := .fields #[.ref l, .int 0 0] }).objs.size = s.heap.objs.size + 1 := Heap.size_push ..
  show _ ∧ _
  rw [sz1]
  have isE : IsEnum ((s.heap.push { cls := .type "tuple_iterator", data := .fields #[.ref l, .int 0 0] }).push { cls := .type "enumerate", data := .fields #[.none, .bool false, .ref s.heap.objs.size, rawInt 0, .none, .none] })
      (s.heap.objs.size + 1) s.heap.objs.size 0 .none := by
    have g := Heap.get?_push_size (s.heap.push { cls := .type "tuple_iterator", data := .fields #[.ref l, .int 0 0] }) (o := { cls := .type "enumerate", data := .fields #[.none, .bool false, .ref s.heap.objs.size, rawInt 0, .none, .none] }) rfl
    rw [sz1] at g
    exact g
  exact ⟨⟨_, isE, rfl⟩, k _ isE ⟨_, Heap.get?_push_of_some _ (Heap.get?_push_size _ rfl), rfl, rfl⟩ fun b o x => Heap.get?_push_of_some _ (Heap.get?_push_of_some _ x)⟩
/-- the tuple at a, each item in a new pair with its number -/
def IteT (K : PySem.W.Frag) (a : Addr) : It :=
  ⟨fun i H => ∃ (xs : List V) (x : V), SqT K H a xs ∧ xs[i]? = some x, fun i H v H' => ∃ T x, v = .ref T ∧ H T = none ∧ H' = upd H T (.tup [.int (i : Nat), x]) ∧ ∀ xs, SqT K H a xs → xs[i]? = some x, fun i H => ∃ xs : List V, SqT K H a xs ∧ xs.length = i⟩
theorem turn_enumT {P : Program} {w : World} {K : PySem.W.Frag} {elts : List Expr} {kk : Nat} {tpos : Pos} (a e it : Addr) :
    Turn P w K (.Tuple elts kk tpos) (IteT K a) [e, it] e (fun i h => (∃ old, IsEnum h e it ((i : Nat) : Int) old) ∧ h.IsTupleIter it a i ∧ e ≠ it) where
  mem := List.mem_cons_self
  obj := fun i h st b hb => by
    obtain ⟨⟨old, he⟩, ⟨o, ho, _, hd⟩, _⟩ := st
    rcases (show b = e ∨ b = it by simpa using hb) with rfl | rfl
    · exact ⟨_, he, fun v q => nomatch q⟩
    · exact ⟨o, ho, fun v q => by rw [hd] at q; cases q⟩
  keep := fun i h h' ⟨⟨old, he⟩, hi, hne⟩ k => ⟨⟨old, k e (by simp) _ he⟩, hi.at fun o q => k it (by simp) o q, hne⟩
  item := by
    intro X hP hw hK hc i pins s σ H E I hf st hg
    subst hP hw hK
    obtain ⟨⟨old, he⟩, hit, hne⟩ := st
    obtain ⟨xs, x, hq, hx⟩ := hg
    obtain ⟨its, rv, p, hz⟩ := I.tuple hq
    obtain ⟨u, hu, ru⟩ := rv.get hx
    have le : e < s.heap.objs.size := Heap.lt_size he
    have li : it < s.heap.objs.size := by obtain ⟨_, q, _⟩ := hit; exact Heap.lt_size q
    have hta : s.heap.IsTuple a its.toArray := p
    have ait : a ≠ it := fun z => by
      obtain ⟨o1, e1, c1, _⟩ := hta
      obtain ⟨o2, e2, c2, _⟩ := hit
      rw [z, e2] at e1; cases e1; rw [c2] at c1; injection c1 with c1; exact absurd c1 (by decide)
    have ae : e ≠ a := fun z => by
      obtain ⟨o1, e1, c1, _⟩ := hta
      rw [← z, he] at e1; cases e1; injection c1 with c1; exact absurd c1 (by decide)
    have iu : i < its.toArray.size := by
      have := (List.getElem?_eq_some_iff.mp hu).1
      simpa using this
    refine wpAny_pyNext_enum_itemC (Draws.tuple (A := X.A.in1) (I.ok.hd hc) it a ait its.toArray) he ⟨hit, hta⟩ iu hne (by simp [hne, ae]) fun y h' tk hy ho hs' hT hsz hk => ?_
    have hyu : y = u := by
      have e2 : its.toArray[i]? = some u := by simpa using hu
      rw [e2] at hy
      exact (Option.some.inj hy).symm
    subst hyu
    refine ⟨_, rfl, wpAny_letOwnedTupleGo_enum (s := { s with heap := h', toks := tk + 1 }) ho fun h'' he' sb => ?_⟩
    have hT2 : h''.get? s.heap.objs.size = some { cls := .type "tuple", data := .seq #[.int i tk, y] } := (sb.2 _ (Nat.ne_of_gt le)).trans hT
    have new : ObjOk X.prog X.w (upd H s.heap.objs.size (.tup [.int (i : Nat), x])) h'' s.heap.objs.size (.tup [.int (i : Nat), x]) :=
      ⟨by show 2 ≤ sizeLine; decide, [.int i tk, y], .cons ⟨_, rfl⟩ (.cons ru .nil), ⟨_, hT2, rfl, _, rfl⟩⟩
    have I1 : Inv X pins σ (upd H s.heap.objs.size (.tup [.int (i : Nat), x])) { s with heap := h'', toks := tk + 1 } :=
      I.turnedNew (t' := tk + 1) (ch := [e, it]) (fun b ob hb q => (sb.2 b (fun z => hb (by simp [z]))).trans (hk b ob (fun z => hb (by simp [z])) (fun z => hb (by simp [z])) q)) hf (Nat.le_refl _) new
    refine ⟨.ref s.heap.objs.size, _, I1, rfl, ⟨_, x, rfl, I.hok.fresh (Nat.le_refl _), rfl, fun ys hy => by rw [I.tuple_inj hy hq]; exact hx⟩, ⟨⟨y, ?_⟩, hs'.1.at fun o q => (sb.2 it (Ne.symm hne)).trans q, hne⟩, fun b hb => ?_⟩
    · have e1 : ((i + 1 : Nat) : Int) = (i : Int) + 1 := by omega
      rw [e1]; exact he'
    · have hb' : b < s.heap.objs.size := by
        rcases (show b = e ∨ b = it by simpa using hb) with z | z
        · rw [z]; exact le
        · rw [z]; exact li
      rw [upd_ne (Nat.ne_of_lt hb')]
      exact (hf b hb).1
  done := by
    intro X hP hw hK hc i pins s σ H E I hf st hg
    subst hP hw hK
    obtain ⟨⟨old, he⟩, hit, hne⟩ := st
    obtain ⟨xs, hq, hx⟩ := hg
    obtain ⟨its, rv, p, hz⟩ := I.tuple hq
    have hta : s.heap.IsTuple a its.toArray := p
    have ait : a ≠ it := fun z => by
      obtain ⟨o1, e1, c1, _⟩ := hta
      obtain ⟨o2, e2, c2, _⟩ := hit
      rw [z, e2] at e1; cases e1; rw [c2] at c1; injection c1 with c1; exact absurd c1 (by decide)
    obtain ⟨f0, f1, f2, f3, f4, f5⟩ := hf it (by simp)
    have sz : its.toArray.size = i := by rw [List.size_toArray, ← rv.length, hx]
    subst sz
    exact wpAny_pyNext_enum_endD (Draws.tuple (A := X.A.in1) (I.ok.hd hc) it a ait its.toArray) he ⟨hit, hta⟩ fun h' eb => ⟨rfl, I.turned (t' := s.toks) (fun b o hb q => eb b o hb q) f0 f1 f3 f4 f5⟩
  self := fun A i s Q E ⟨⟨_, he⟩, _⟩ k => wpAny_pyIter_enum he k
/-- enumerate of a list or a tuple -/
def iEnumA (K : PySem.W.Frag) (ta : TA) : TI := fun σ H R => ta σ H fun vs H1 => ∃ a xs, vs = [.ref a] ∧ ((SqL K H1 a xs ∧ R (Ite K a) H1) ∨ (SqT K H1 a xs ∧ R (IteT K a) H1))
theorem pi_enumA {X : Cx} {e : Expr} {ta : TA} {p pos tpos : Pos} {elts : List Expr} {kk : Nat} (hg : Gl X "enumerate") (hm : X.mg "enumerate" = none) (ha : PA X [e] ta) (hs : starEach [e] X.env = [(false, eval e X.env)] := by rfl) :
    PI X (.Tuple elts kk tpos) (.Call (.Name "enumerate" p) [e] [] pos) (iEnumA X.K ta) := by
  refine ⟨fun pins s σ H R I w => ?_⟩
  refine Call_ (ld_blt I hg hm boot_enumerate (PyProof.Rows.callWith_type1 (thn (ha.run pos pins s σ H _ I w) fun us s1 ⟨vs, H1, I1, r1, q1⟩ => ?_) hs rfl))
  obtain ⟨a, xs, ex, q1⟩ := q1
  subst ex
  obtain rfl : us = [Value.ref a] := by
    cases r1 with
    | cons r rr => cases rr; cases (show _ = Value.ref a from r); rfl
  have two : ∀ b, b ∈ [s1.heap.objs.size + 1, s1.heap.objs.size] → FpOk X pins H1 b := fun b hb => by
    have hle : s1.heap.objs.size ≤ b := by
      rcases (show b = s1.heap.objs.size + 1 ∨ b = s1.heap.objs.size by simpa using hb) with z | z
      · rw [z]; exact Nat.le_add_right _ _
      · rw [z]; exact Nat.le_refl _
    exact I1.fpOk hle (I1.hok.fresh hle)
  rcases q1 with ⟨hq, q⟩ | ⟨hq, q⟩
  · obtain ⟨its, rv, p', hz⟩ := I1.list hq
    refine call_enumerate_list p'.isList fun h' he hit hsz hk => wpAny_pyIter_enum he ?_
    exact ⟨s1.heap.objs.size + 1, [s1.heap.objs.size + 1, s1.heap.objs.size], _, _, H1, rfl, I1.kept (t' := s1.toks) hk, turn_enum a (s1.heap.objs.size + 1) s1.heap.objs.size, ⟨⟨.none, he⟩, hit, Nat.succ_ne_self _⟩, two, q⟩
  · obtain ⟨its, rv, p', hz⟩ := I1.tuple hq
    refine call_enumT p' fun h' he hit hk => wpAny_pyIter_enum he ?_
    exact ⟨s1.heap.objs.size + 1, [s1.heap.objs.size + 1, s1.heap.objs.size], _, _, H1, rfl, I1.kept (t' := s1.toks) hk, turn_enumT a (s1.heap.objs.size + 1) s1.heap.objs.size, ⟨⟨.none, he⟩, hit, Nat.succ_ne_self _⟩, two, q⟩
/-! ### sources by data -/
/-- what is walked: the items; what must hold at each turn -/
structure IS where
  items : List D
  ok : HD → Prop := fun _ => True
def ISok (K : PySem.W.Frag) (H0 : Hp) (S : IS) (J : It) : Prop := ∀ i H h, Kep H0 H → RH K H h → S.ok h →
  (S.items.length = i → J.stop i H) ∧ ∀ d, S.items[i]? = some d → J.go i H ∧ ∀ x H', J.yld i H x H' → RD K H' x d ∧ Stp K H h H' h
abbrev CI := En → HD → (IS → HD → Prop) → Prop
def lowI (K : PySem.W.Frag) (B : Bs) (t : CI) : TI := fun σ H R => ∃ ρ h Q', Sl K σ H ρ ∧ RB K B H h ∧ t ρ h Q' ∧ ∀ S J H' h', ISok K H' S J → Stp K H h H' h' → Q' S h' → R J H'
def QI (X : Cx) (B : Bs) (tg e : Expr) (t : CI) : Prop := PI X tg e (lowI X.K B t)
theorem PI.imp {X : Cx} {tg e : Expr} {t t' : TI} (p : PI X tg e t') (k : ∀ σ H Q, t σ H Q → t' σ H Q) : PI X tg e t := ⟨fun pins s σ H R I h => p.run pins s σ H R I (k σ H R h)⟩
theorem RDs.at {K : PySem.W.Frag} {H : Hp} {ds : List D} {vs : List V} {i : Nat} {d : D} {v : V} (r : RDs K H vs ds) (e : ds[i]? = some d) (e' : vs[i]? = some v) : RD K H v d := by
  obtain ⟨w, e2, q⟩ := r.get e
  rw [e'] at e2
  cases e2
  exact q
theorem RDs.some {K : PySem.W.Frag} {H : Hp} {ds : List D} {vs : List V} {i : Nat} {d : D} (r : RDs K H vs ds) (e : ds[i]? = some d) : ∃ v, vs[i]? = Option.some v := by
  obtain ⟨w, e2, q⟩ := r.get e
  exact ⟨w, e2⟩
theorem is_list {K : PySem.W.Frag} {H0 : Hp} {a : Addr} {ds : List D} {ok : HD → Prop} (q : ∀ H h, Kep H0 H → RH K H h → ok h → ∃ vs, SqL K H a vs ∧ RDs K H vs ds) : ISok K H0 ⟨ds, ok⟩ (Itl K a) := fun i H h kp rh hok => by
  obtain ⟨vs, sq, r⟩ := q H h kp rh hok
  refine ⟨fun e => ⟨vs, sq, by rw [r.length]; exact Nat.le_of_eq e⟩, fun d e => ?_⟩
  obtain ⟨v, e2⟩ := r.some e
  refine ⟨⟨vs, v, sq, e2⟩, fun x H' y => ?_⟩
  obtain ⟨rfl, y⟩ := y
  exact ⟨r.at e (y vs sq), .refl rh⟩
theorem is_tup {K : PySem.W.Frag} {H0 : Hp} {a : Addr} {ds : List D} {vs : List V} (sq : SqT K H0 a vs) (r : RDs K H0 vs ds) : ISok K H0 ⟨ds, fun _ => True⟩ (Itt K a) := fun i H h kp rh _ => by
  have sq' := kp.sqt sq
  have r' := r.mono kp
  refine ⟨fun e => ⟨vs, sq', by rw [r.length]; exact Nat.le_of_eq e⟩, fun d e => ?_⟩
  obtain ⟨v, e2⟩ := r'.some e
  refine ⟨⟨vs, v, sq', e2⟩, fun x H' y => ?_⟩
  obtain ⟨rfl, y⟩ := y
  exact ⟨r'.at e (y vs sq'), .refl rh⟩
theorem fl_kep {K : PySem.W.Frag} {H H' : Hp} {a : Addr} {vs : List V} (kp : Kep H H') (q : (∃ o, H a = some (.frz o (.lst vs))) ∨ SqL K (fun _ => none) a vs) : SqL K H' a vs := by
  rcases q with ⟨o, q⟩ | q
  · exact .inl (.inr ⟨o, kp _ _ q rfl⟩)
  · exact sql_fl (.inr q)
theorem is_fl {K : PySem.W.Frag} {H0 : Hp} {a : Addr} {ds : List D} {vs : List V} (q : (∃ o, H0 a = some (.frz o (.lst vs))) ∨ SqL K (fun _ => none) a vs) (r : RDs K H0 vs ds) : ISok K H0 ⟨ds, fun _ => True⟩ (Itl K a) :=
  is_list fun H h kp _ _ => ⟨vs, fl_kep kp q, r.mono kp⟩
theorem is_ref {K : PySem.W.Frag} {H0 : Hp} {a : Addr} {ds : List D} : ISok K H0 ⟨ds, fun h => h a = some (.lst ds)⟩ (Itl K a) :=
  is_list fun H h _ rh e => by
    obtain ⟨vs, ea, r⟩ := rh a _ e
    exact ⟨vs, .of ea, r⟩
section
variable {X : Cx} {B : Bs} {tg : Expr}
/-- a list or a tuple -/
def iSeq (K : PySem.W.Frag) (tl : TE) : TI := fun σ H R => tl σ H fun x H1 => ∃ a xs, x = .ref a ∧ ((SqL K H1 a xs ∧ R (Itl K a) H1) ∨ (SqT K H1 a xs ∧ R (Itt K a) H1))
theorem pi_seq {l : Expr} {tl : TE} (hl : PE X l tl) : PI X tg l (iSeq X.K tl) := by
  refine ⟨fun pins s σ H R I w => ?_⟩
  refine thn (hl.run pins s σ H _ I w) fun v s1 ⟨x, H1, I1, r1, a, xs, e, q⟩ => ?_
  subst e
  obtain rfl : v = Value.ref a := r1
  have fr : ∀ b, b ∈ [s1.heap.objs.size] → FpOk X pins H1 b := fun b hb => by
    obtain rfl : b = s1.heap.objs.size := by simpa using hb
    exact I1.fpOk (Nat.le_refl _) (I1.hok.fresh (Nat.le_refl _))
  rcases q with ⟨hq, q⟩ | ⟨hq, q⟩
  · obtain ⟨its, rv, p, hz⟩ := I1.list hq
    exact wpAny_pyIter_list p.isList ⟨s1.heap.objs.size, [s1.heap.objs.size], _, _, H1, rfl, I1.kept (t' := s1.toks) fun b o e => Heap.get?_push_of_some _ e, turn_list a _, ⟨_, Heap.get?_push_size _ rfl, rfl, rfl⟩, fr, q⟩
  · obtain ⟨its, rv, p, hz⟩ := I1.tuple hq
    exact wpAny_pyIter_tuple (show s1.heap.IsTuple a its.toArray from p) ⟨s1.heap.objs.size, [s1.heap.objs.size], _, _, H1, rfl, I1.kept (t' := s1.toks) fun b o e => Heap.get?_push_of_some _ e, turn_tuple a _, ⟨_, Heap.get?_push_size _ rfl, rfl, rfl⟩, fr, q⟩
def cSrc (t : CE) : CI := fun ρ h Q => t ρ h fun x h1 => match x with
  | .tup ds => Q ⟨ds, fun _ => True⟩ h1
  | .fl ds => Q ⟨ds, fun _ => True⟩ h1
  | .ref a => ∃ ds, h1 a = some (.lst ds) ∧ Q ⟨ds, fun h => h a = some (.lst ds)⟩ h1
  | _ => False
theorem qi_src {l : Expr} {t : CE} (hl : QE X B l t) : QI X B tg l (cSrc t) := PI.imp (pi_seq hl) fun σ H R w => by
  obtain ⟨ρ, h, Q', sl, rh, ht, k⟩ := w
  refine ⟨ρ, h, _, sl, rh, ht, fun v d H1 h1 rv s1 q1 => ?_⟩
  cases d with
  | tup ds => obtain ⟨a, vs, rfl, sq, r⟩ := rv; exact ⟨a, vs, rfl, .inr ⟨sq, k _ _ H1 h1 (is_tup sq r) s1 q1⟩⟩
  | fl ds => obtain ⟨a, vs, rfl, sq, r⟩ := rv; exact ⟨a, vs, rfl, .inl ⟨sql_fl sq, k _ _ H1 h1 (is_fl sq r) s1 q1⟩⟩
  | ref a =>
    cases (show v = V.ref a from rv)
    obtain ⟨ds, e, q⟩ := q1
    obtain ⟨vs, ea, r⟩ := s1.rh a _ e
    exact ⟨a, vs, rfl, .inl ⟨.of ea, k _ _ H1 h1 is_ref s1 q⟩⟩
  | _ => exact q1.elim
/-- range -/
def rgD (lo : Int) (n : Nat) : List D := (List.range n).map fun i => D.int (lo + (i : Nat))
theorem is_rng {K : PySem.W.Frag} {H0 : Hp} {lo : Int} {n : Nat} : ISok K H0 ⟨rgD lo n, fun _ => True⟩ (Itr lo n) := fun i H h kp rh _ => by
  refine ⟨fun e => ?_, fun d e => ?_⟩
  · show n ≤ i
    rw [← e]
    unfold rgD
    simp
  · have lt : i < n := by
      have := (List.getElem?_eq_some_iff.mp e).1
      unfold rgD at this
      simpa using this
    refine ⟨lt, fun x H' y => ?_⟩
    obtain ⟨rfl, rfl⟩ := y
    have : d = .int (lo + (i : Nat)) := by
      unfold rgD at e
      rw [List.getElem?_map, List.getElem?_range lt] at e
      exact (Option.some.inj e).symm
    rw [this]
    exact ⟨rfl, .refl rh⟩
def cRng1 (t : CA) : CI := fun ρ h Q => t ρ h fun xs h1 => match xs with
  | [.int j] => -(2 ^ 62) ≤ j ∧ j < 2 ^ 62 ∧ Q ⟨rgD 0 j.toNat, fun _ => True⟩ h1
  | _ => False
def cRng2 (t : CA) : CI := fun ρ h Q => t ρ h fun xs h1 => match xs with
  | [.int i, .int j] => (-(2 ^ 62) ≤ i ∧ i < 2 ^ 62 ∧ -(2 ^ 62) ≤ j ∧ j < 2 ^ 62) ∧ Q ⟨rgD i (j - i).toNat, fun _ => True⟩ h1
  | _ => False
theorem qi_range1 {a : Expr} {t : CA} {p pos : Pos} (hg : Gl X "range") (hm : X.mg "range" = none) (ha : QA X B [a] t) (hs : starEach [a] X.env = [(false, eval a X.env)] := by rfl) : QI X B tg (.Call (.Name "range" p) [a] [] pos) (cRng1 t) :=
  PI.imp (pi_range1 hg hm ha hs) fun σ H R w => by
    obtain ⟨ρ, h, Q', sl, rh, ht, k⟩ := w
    refine ⟨ρ, h, _, sl, rh, ht, fun vs ds H1 h1 rv s1 q1 => ?_⟩
    match ds, q1 with
    | [.int j], q1 =>
      obtain ⟨v, rfl, e⟩ := rv.one
      cases (show v = V.int j from e)
      exact ⟨j, rfl, q1.1, q1.2.1, k _ _ H1 h1 is_rng s1 q1.2.2⟩
theorem qi_range2 {a b : Expr} {t : CA} {p pos : Pos} (hg : Gl X "range") (hm : X.mg "range" = none) (ha : QA X B [a, b] t) (hs : starEach [a, b] X.env = [(false, eval a X.env), (false, eval b X.env)] := by rfl) (hs2 : starEach [b] X.env = [(false, eval b X.env)] := by rfl) :
    QI X B tg (.Call (.Name "range" p) [a, b] [] pos) (cRng2 t) :=
  PI.imp (pi_range2 hg hm ha hs hs2) fun σ H R w => by
    obtain ⟨ρ, h, Q', sl, rh, ht, k⟩ := w
    refine ⟨ρ, h, _, sl, rh, ht, fun vs ds H1 h1 rv s1 q1 => ?_⟩
    match ds, q1 with
    | [.int i, .int j], q1 =>
      obtain ⟨v, w, rfl, e, e2⟩ := rv.two
      cases (show v = V.int i from e); cases (show w = V.int j from e2)
      exact ⟨i, j, rfl, q1.1, k _ _ H1 h1 is_rng s1 q1.2⟩
/-- enumerate, zip -/
def enD (ds : List D) : List D := (ds.zipIdx).map fun p => D.tup [.int (p.2 : Nat), p.1]
theorem enD_get {ds : List D} {i : Nat} {d : D} (e : (enD ds)[i]? = some d) : ∃ x, ds[i]? = some x ∧ d = .tup [.int (i : Nat), x] := by
  unfold enD at e
  rw [List.getElem?_map, List.getElem?_zipIdx] at e
  cases q : ds[i]? with
  | none => rw [q] at e; cases e
  | some x =>
    rw [q] at e
    refine ⟨x, rfl, ?_⟩
    have := (Option.some.inj e).symm
    simpa using this
theorem enD_len (ds : List D) : (enD ds).length = ds.length := by unfold enD; simp
theorem pair_new {K : PySem.W.Frag} {H : Hp} {h : HD} {T : Addr} {x y : V} {d e : D} (rh : RH K H h) (np : H T = none) (r1 : RD K H x d) (r2 : RD K H y e) :
    RD K (upd H T (.tup [x, y])) (.ref T) (.tup [d, e]) ∧ Stp K H h (upd H T (.tup [x, y])) h :=
  ⟨new_tup np ⟨x, [y], rfl, r1, y, [], rfl, r2, rfl⟩, .hid rh np (rh.none np)⟩
theorem is_enumL {K : PySem.W.Frag} {H0 : Hp} {a : Addr} {ds : List D} {ok : HD → Prop} (q : ∀ H h, Kep H0 H → RH K H h → ok h → ∃ vs, SqL K H a vs ∧ RDs K H vs ds) : ISok K H0 ⟨enD ds, ok⟩ (Ite K a) := fun i H h kp rh hok => by
  obtain ⟨vs, sq, r⟩ := q H h kp rh hok
  refine ⟨fun e => ⟨vs, sq, by rw [r.length, ← enD_len]; exact Nat.le_of_eq e⟩, fun d e => ?_⟩
  obtain ⟨x, e1, rfl⟩ := enD_get e
  obtain ⟨v, e2⟩ := r.some e1
  refine ⟨⟨vs, v, sq, e2⟩, fun z H' y => ?_⟩
  obtain ⟨T, w, rfl, np, rfl, y⟩ := y
  exact pair_new rh np rfl (r.at e1 (y vs sq))
theorem is_enumT {K : PySem.W.Frag} {H0 : Hp} {a : Addr} {ds : List D} {vs : List V} (sq : SqT K H0 a vs) (r : RDs K H0 vs ds) : ISok K H0 ⟨enD ds, fun _ => True⟩ (IteT K a) := fun i H h kp rh _ => by
  have sq' := kp.sqt sq
  have r' := r.mono kp
  refine ⟨fun e => ⟨vs, sq', by rw [r.length, ← enD_len]; exact e⟩, fun d e => ?_⟩
  obtain ⟨x, e1, rfl⟩ := enD_get e
  obtain ⟨v, e2⟩ := r'.some e1
  refine ⟨⟨vs, v, sq', e2⟩, fun z H' y => ?_⟩
  obtain ⟨T, w, rfl, np, rfl, y⟩ := y
  exact pair_new rh np rfl (r'.at e1 (y vs sq'))
def cEnum (t : CA) : CI := fun ρ h Q => t ρ h fun xs h1 => match xs with
  | [.tup ds] => Q ⟨enD ds, fun _ => True⟩ h1
  | [.fl ds] => Q ⟨enD ds, fun _ => True⟩ h1
  | [.ref a] => ∃ ds, h1 a = some (.lst ds) ∧ Q ⟨enD ds, fun h => h a = some (.lst ds)⟩ h1
  | _ => False
theorem qi_enum {e : Expr} {t : CA} {p pos tpos : Pos} {elts : List Expr} {kk : Nat} (hg : Gl X "enumerate") (hm : X.mg "enumerate" = none) (ha : QA X B [e] t) (hs : starEach [e] X.env = [(false, eval e X.env)] := by rfl) :
    QI X B (.Tuple elts kk tpos) (.Call (.Name "enumerate" p) [e] [] pos) (cEnum t) := PI.imp (pi_enumA hg hm ha hs) fun σ H R w => by
  obtain ⟨ρ, h, Q', sl, rh, ht, k⟩ := w
  refine ⟨ρ, h, _, sl, rh, ht, fun vs ds H1 h1 rv s1 q1 => ?_⟩
  match ds, q1 with
  | [.tup ds], q1 => obtain ⟨v, rfl, a, vs, rfl, sq, r⟩ := rv.one; exact ⟨a, vs, rfl, .inr ⟨sq, k _ _ H1 h1 (is_enumT sq r) s1 q1⟩⟩
  | [.fl ds], q1 => obtain ⟨v, rfl, a, vs, rfl, sq, r⟩ := rv.one; exact ⟨a, vs, rfl, .inl ⟨sql_fl sq, k _ _ H1 h1 (is_enumL fun H h kp _ _ => ⟨vs, fl_kep kp sq, r.mono kp⟩) s1 q1⟩⟩
  | [.ref a], q1 =>
    obtain ⟨v, rfl, e⟩ := rv.one
    cases (show v = V.ref a from e)
    obtain ⟨ds, e, q⟩ := q1
    obtain ⟨vs, ea, r⟩ := s1.rh a _ e
    exact ⟨a, vs, rfl, .inl ⟨.of ea, k _ _ H1 h1 (is_enumL (ok := fun h => h a = some (.lst ds)) fun H h _ rh e => let ⟨vs, ea, r⟩ := rh a _ e; ⟨vs, .of ea, r⟩) s1 q⟩⟩
def zpD (ds es : List D) : List D := (ds.zip es).map fun p => D.tup [p.1, p.2]
theorem zpD_get {ds es : List D} {i : Nat} {d : D} (e : (zpD ds es)[i]? = some d) : ∃ x y, ds[i]? = some x ∧ es[i]? = some y ∧ d = .tup [x, y] := by
  unfold zpD at e
  rw [List.getElem?_map] at e
  obtain ⟨p, e1, e2⟩ := Option.map_eq_some_iff.mp e
  obtain ⟨h1, h2⟩ := List.getElem?_zip_eq_some.mp e1
  exact ⟨p.1, p.2, h1, h2, e2.symm⟩
theorem zpD_len (ds es : List D) : (zpD ds es).length = min ds.length es.length := by unfold zpD; rw [List.length_map, List.length_zip]
theorem is_zipL {K : PySem.W.Frag} {H0 : Hp} {a b : Addr} {ds es : List D} {ok : HD → Prop} (q : ∀ H h, Kep H0 H → RH K H h → ok h → ∃ vs ws, SqL K H a vs ∧ RDs K H vs ds ∧ SqL K H b ws ∧ RDs K H ws es) : ISok K H0 ⟨zpD ds es, ok⟩ (Itz K a b) := fun i H h kp rh hok => by
  obtain ⟨vs, ws, sq, r, sq2, r2⟩ := q H h kp rh hok
  refine ⟨fun e => ⟨vs, ws, sq, sq2, ?_⟩, fun d e => ?_⟩
  · have e' : (zpD ds es).length = i := e
    rw [zpD_len, ← r.length, ← r2.length] at e'
    omega
  · obtain ⟨x, y, e1, e2, rfl⟩ := zpD_get e
    obtain ⟨v, e3⟩ := r.some e1
    obtain ⟨w, e4⟩ := r2.some e2
    refine ⟨⟨vs, ws, v, w, sq, sq2, e3, e4⟩, fun z H' y => ?_⟩
    obtain ⟨T, x', y', rfl, np, rfl, y1, y2⟩ := y
    exact pair_new rh np (r.at e1 (y1 vs sq)) (r2.at e2 (y2 ws sq2))
theorem is_zipT {K : PySem.W.Frag} {H0 : Hp} {a b : Addr} {ds es : List D} {vs ws : List V} (sq : SqT K H0 a vs) (r : RDs K H0 vs ds) (sq2 : SqT K H0 b ws) (r2 : RDs K H0 ws es) : ISok K H0 ⟨zpD ds es, fun _ => True⟩ (RZ.ItzT K a b) := fun i H h kp rh _ => by
  have sq := kp.sqt sq
  have r := r.mono kp
  have sq2 := kp.sqt sq2
  have r2 := r2.mono kp
  refine ⟨fun e => ⟨vs, ws, sq, sq2, ?_⟩, fun d e => ?_⟩
  · have e' : (zpD ds es).length = i := e
    rw [zpD_len, ← r.length, ← r2.length] at e'
    omega
  · obtain ⟨x, y, e1, e2, rfl⟩ := zpD_get e
    obtain ⟨v, e3⟩ := r.some e1
    obtain ⟨w, e4⟩ := r2.some e2
    refine ⟨⟨vs, ws, v, w, sq, sq2, e3, e4⟩, fun z H' y => ?_⟩
    obtain ⟨T, x', y', rfl, np, rfl, y1, y2⟩ := y
    exact pair_new rh np (r.at e1 (y1 vs sq)) (r2.at e2 (y2 ws sq2))
def cZip (t : CA) : CI := fun ρ h Q => t ρ h fun xs h1 => match xs with
  | [.tup ds, .tup es] => Q ⟨zpD ds es, fun _ => True⟩ h1
  | [.ref a, .ref b] => ∃ ds es, h1 a = some (.lst ds) ∧ h1 b = some (.lst es) ∧ Q ⟨zpD ds es, fun h => h a = some (.lst ds) ∧ h b = some (.lst es)⟩ h1
  | _ => False
theorem qi_zip {e e2 : Expr} {t : CA} {p pos tpos : Pos} {elts : List Expr} {kk : Nat} (hg : Gl X "zip") (hm : X.mg "zip" = none) (ha : QA X B [e, e2] t)
    (hs : starEach [e, e2] X.env = (false, eval e X.env) :: starEach [e2] X.env := by rfl) (hpl : (backTo pos (starEach [e2] X.env)).any (·.1) = false := by rfl) :
    QI X B (.Tuple elts kk tpos) (.Call (.Name "zip" p) [e, e2] [] pos) (cZip t) := PI.imp (RZ.pi_zipA hg hm ha hs hpl) fun σ H R w => by
  obtain ⟨ρ, h, Q', sl, rh, ht, k⟩ := w
  refine ⟨ρ, h, _, sl, rh, ht, fun vs ds H1 h1 rv s1 q1 => ?_⟩
  match ds, q1 with
  | [.tup ds, .tup es], q1 =>
    obtain ⟨v, w, rfl, ⟨a, vs, rfl, sq, r⟩, b, ws, rfl, sq2, r2⟩ := rv.two
    exact ⟨a, b, vs, ws, rfl, .inr ⟨sq, sq2, k _ _ H1 h1 (is_zipT sq r sq2 r2) s1 q1⟩⟩
  | [.ref a, .ref b], q1 =>
    obtain ⟨v, w, rfl, e, e'⟩ := rv.two
    cases (show v = V.ref a from e); cases (show w = V.ref b from e')
    obtain ⟨ds, es, e, e', q⟩ := q1
    obtain ⟨vs, ea, r⟩ := s1.rh a _ e
    obtain ⟨ws, eb, r2⟩ := s1.rh b _ e'
    exact ⟨a, b, vs, ws, rfl, .inl ⟨.of ea, .of eb, k _ _ H1 h1 (is_zipL (ok := fun h => h a = some (.lst ds) ∧ h b = some (.lst es)) fun H h _ rh e => let ⟨vs, ea, r⟩ := rh a _ e.1; let ⟨ws, eb, r2⟩ := rh b _ e.2; ⟨vs, ws, .of ea, r, .of eb, r2⟩) s1 q⟩⟩
end

/-! ### targets -/
abbrev CG := D → En → HD → (En → HD → Prop) → Prop
abbrev CGs := List D → En → HD → (En → HD → Prop) → Prop
def lowG (K : PySem.W.Frag) (B : Bs) (t : CG) : TG := fun v σ H Q => ∃ d ρ h Q', RD K H v d ∧ Sl K σ H ρ ∧ RB K B H h ∧ t d ρ h Q' ∧ ∀ σ' ρ' H' h', Sl K σ' H' ρ' → Stp K H h H' h' → Q' ρ' h' → Q σ' H'
def lowGs (K : PySem.W.Frag) (B : Bs) (t : CGs) : TGs := fun vs σ H Q => ∃ ds ρ h Q', RDs K H vs ds ∧ Sl K σ H ρ ∧ RB K B H h ∧ t ds ρ h Q' ∧ ∀ σ' ρ' H' h', Sl K σ' H' ρ' → Stp K H h H' h' → Q' ρ' h' → Q σ' H'
def QG (X : Cx) (B : Bs) (e : Expr) (t : CG) : Prop := PG X e (lowG X.K B t)
def QGs (X : Cx) (B : Bs) (es : List Expr) (t : CGs) : Prop := PGs X es (lowGs X.K B t)
theorem PG.imp {X : Cx} {e : Expr} {t t' : TG} (p : PG X e t') (k : ∀ v σ H Q, t v σ H Q → t' v σ H Q) : PG X e t := ⟨fun pins s σ H v u Q I r h => p.run pins s σ H v u Q I r (k v σ H Q h)⟩
theorem PGs.imp {X : Cx} {e : List Expr} {t t' : TGs} (p : PGs X e t') (k : ∀ v σ H Q, t v σ H Q → t' v σ H Q) : PGs X e t := ⟨fun pins s σ H v u Q I r h => p.run pins s σ H v u Q I r (k v σ H Q h)⟩
section
variable {X : Cx} {B : Bs}
def cName (i : Nat) : CG := fun d ρ h Q => Q (ρ.set i (some d)) h
theorem qg_name {i : Nat} {x : Str} {pos : Pos} (hN : X.N.Nodup) (hi : X.N[i]? = some x) (hx : Loc X.env.scope x) (hf : X.fn x = true ∨ X.env.scope.names.lookup x = some .local := by first | exact .inl rfl | exact .inr rfl | assumption) : QG X B (.Name x pos) (cName i) :=
  PG.imp (pg_name hN hi hx hf) fun v σ H Q w => by
    obtain ⟨d, ρ, h, Q', rv, sl, rh, ht, k⟩ := w
    exact k _ _ H h (sl.set rv) (.refl rh.rh) ht
def cGNil : CGs := fun ds ρ h Q => ds = [] ∧ Q ρ h
def cGCons (t : CG) (u : CGs) : CGs := fun ds ρ h Q => match ds with
  | [] => False
  | d :: r => t d ρ h fun ρ' h' => u r ρ' h' Q
theorem qgs_nil : QGs X B [] cGNil := PGs.imp pgs_nil fun v σ H Q w => by
  obtain ⟨d, ρ, h, Q', rv, sl, rh, ⟨rfl, q⟩, k⟩ := w
  exact ⟨rv, k _ _ H h sl (.refl rh.rh) q⟩
theorem qgs_cons {e : Expr} {es : List Expr} {t : CG} {u : CGs} (h1 : QG X B e t) (h2 : QGs X B es u) (hs : (assignEach (e :: es) X.env).map (·.2) = assign e X.env :: (assignEach es X.env).map (·.2) := by rfl) : QGs X B (e :: es) (cGCons t u) :=
  PGs.imp (pgs_cons h1 h2 hs) fun v σ H Q w => by
    obtain ⟨ds, ρ, h, Q', rv, sl, rh, ht, k⟩ := w
    cases ds with
    | nil => exact ht.elim
    | cons d r =>
      obtain ⟨v, vr, rfl, r1, r2⟩ := rv
      refine ⟨v, vr, rfl, d, ρ, h, _, r1, sl, rh, ht, fun σ' ρ' H' h' sl' s' q' => ?_⟩
      exact ⟨r, ρ', h', Q', r2.mono s'.ts, sl', rh.trans s', q', fun σ2 ρ2 H2 h2 sl2 s2 q2 => k σ2 ρ2 H2 h2 sl2 (s'.trans s2) q2⟩
def cGTup (n : Nat) (t : CGs) : CG := fun d ρ h Q => match d with
  | .tup ds => ds.length = n ∧ t ds ρ h Q
  | _ => False
theorem qg_tup {es : List Expr} {k : Nat} {t : CGs} {n : Nat} {pos : Pos} (hc : X.calm = true) (h : QGs X B es t) (hn : (assignEach es X.env).length = n := by rfl) (hst : (assignEach es X.env).findIdx? (·.1) = none := by rfl) : QG X B (.Tuple es k pos) (cGTup n t) :=
  PG.imp (pg_tup hc h hn hst) fun v σ H Q w => by
    obtain ⟨d, ρ, h, Q', rv, sl, rh, ht, k⟩ := w
    cases d with
    | tup ds =>
      obtain ⟨a, vs, rfl, sq, r⟩ := rv
      exact ⟨a, vs, rfl, sq, by rw [r.length]; exact ht.1, ds, ρ, h, Q', r, sl, rh, ht.2, k⟩
    | _ => exact ht.elim

/-! ### for -/
/-- the turns over the items that are left -/
def cLoop (ok : HD → Prop) (g : CG) (b : CS) (Z : DE) : List D → En → HD → Prop
  | [], ρ, h => ok h ∧ Z.nx ρ h
  | x :: xs, ρ, h => ok h ∧ g x ρ h fun ρ1 h1 => b { Z with nx := cLoop ok g b Z xs, ct := cLoop ok g b Z xs, bk := Z.nx } ρ1 h1
def cFor (t : CI) (g : CG) (b : CS) : CS := fun D ρ h => t ρ h fun S h1 => cLoop S.ok g b D S.items ρ h1
theorem qs_for {tg iter : Expr} {body : List Stmt} {t : CI} {g : CG} {b : CS} {pos : Pos} (hp : PassesOwn (model X.prog X.w) X.A X.env X.xe) (hc : X.calm = true) (hi : QI X B tg iter t) (hg : QG X B tg g) (hb : QSs X B body b)
    (hs : ∀ x, foldedSetIterable iter X.env x = pure x := by intro _; rfl) : QS X B (.For tg iter body [] pos) (cFor t g b) :=
  PS.imp (ps_for hp hc hi hg hb hs) fun D σ H w => by
    obtain ⟨ρ, h, D', sl, rh, ht, lk⟩ := w
    refine ⟨ρ, h, _, sl, rh, ht, fun S J H1 h1 isok s1 q1 => ?_⟩
    have lk1 := lk.step s1
    refine ⟨fun i m σ2 H2 => ∃ ρ2 h2, Sl X.K σ2 H2 ρ2 ∧ Stp X.K H1 h1 H2 h2 ∧ i + m = S.items.length ∧ cLoop S.ok g b D' (S.items.drop i) ρ2 h2, ⟨S.items.length, ρ, h1, sl.mono s1.ts, .refl s1.rh, Nat.zero_add _, q1⟩, ?_⟩
    rintro i m σ2 H2 ⟨ρ2, h2, sl2, s2, e, q2⟩
    cases m with
    | zero =>
      have e' : S.items.length = i := by omega
      rw [List.drop_eq_nil_of_le (by omega)] at q2
      exact .inl ⟨(isok i H2 h2 s2.ts s2.rh q2.1).1 e', lk1.nx _ _ _ _ sl2 s2 q2.2⟩
    | succ m =>
      have lt : i < S.items.length := by omega
      rw [List.drop_eq_getElem_cons lt] at q2
      have isk := (isok i H2 h2 s2.ts s2.rh q2.1).2 S.items[i] (List.getElem?_eq_getElem lt)
      refine .inr ⟨isk.1, fun σ3 H3 => ∃ ρ3 h3, Sl X.K σ3 H3 ρ3 ∧ Stp X.K H1 h1 H3 h3 ∧ cLoop S.ok g b D' (S.items.drop (i + 1)) ρ3 h3, fun σ3 H3 n3 => ?_, fun x H3 y => ?_⟩
      · obtain ⟨ρ3, h3, sl3, s3, q3⟩ := n3
        exact ⟨m, Nat.lt_succ_self _, ρ3, h3, sl3, s3, by omega, q3⟩
      · obtain ⟨rx, s3⟩ := isk.2 x H3 y
        refine ⟨S.items[i], ρ2, h2, _, rx, sl2.mono s3.ts, ((rh.trans s1).trans s2).trans s3, q2.2, fun σ4 ρ4 H4 h4 sl4 s4 q4 => ?_⟩
        have s14 := (s2.trans s3).trans s4
        refine ⟨ρ4, h4, _, sl4, (rh.trans s1).trans s14, q4, ⟨fun σ' ρ' H' h' a c d => ⟨ρ', h', a, s14.trans c, d⟩, fun v d H' h' a c e => lk1.rt v d H' h' a (s14.trans c) e, fun σ' ρ' H' h' a c d => lk1.nx σ' ρ' H' h' a (s14.trans c) d, fun σ' ρ' H' h' a c d => ⟨ρ', h', a, s14.trans c, d⟩⟩⟩
/-- a while: so many turns at most -/
def cWh (c : CT) (b : CS) (D : DE) : Nat → En → HD → Prop
  | 0, _, _ => False
  | n + 1, ρ, h => c ρ h fun k h1 => if k = true then b { D with nx := cWh c b D n, ct := cWh c b D n, bk := D.nx } ρ h1 else D.nx ρ h1
def cWhile (c : CT) (b : CS) : CS := fun D ρ h => ∃ n, cWh c b D n ρ h
theorem qs_while {c : Expr} {body : List Stmt} {t : CT} {b : CS} {pos : Pos} (hp : PassesOwn (model X.prog X.w) X.A X.env X.xe) (hc : QT X B c t) (hb : QSs X B body b) : QS X B (.While c body [] pos) (cWhile t b) :=
  PS.imp (ps_while hp hc hb) fun D σ H w => by
    obtain ⟨ρ, h, D', sl, rh, ⟨n, ht⟩, lk⟩ := w
    refine ⟨fun m σ2 H2 => ∃ ρ2 h2, Sl X.K σ2 H2 ρ2 ∧ Stp X.K H h H2 h2 ∧ cWh t b D' m ρ2 h2, ⟨n, ρ, h, sl, .refl rh.rh, ht⟩, ?_⟩
    rintro m σ2 H2 ⟨ρ2, h2, sl2, s2, q2⟩
    cases m with
    | zero => exact q2.elim
    | succ m =>
      refine ⟨ρ2, h2, _, sl2, rh.trans s2, q2, fun k H3 h3 s3 q3 => ?_⟩
      have s13 := s2.trans s3
      cases k with
      | true =>
        simp only [if_true] at q3 ⊢
        refine ⟨fun σ4 H4 => ∃ ρ4 h4, Sl X.K σ4 H4 ρ4 ∧ Stp X.K H h H4 h4 ∧ cWh t b D' m ρ4 h4, fun σ4 H4 n4 => ⟨m, Nat.lt_succ_self _, n4⟩, ?_⟩
        refine ⟨ρ2, h3, _, sl2.mono s3.ts, rh.trans s13, q3, ⟨fun σ' ρ' H' h' a c d => ⟨ρ', h', a, s13.trans c, d⟩, fun v d H' h' a c e => lk.rt v d H' h' a (s13.trans c) e, fun σ' ρ' H' h' a c d => lk.nx σ' ρ' H' h' a (s13.trans c) d, fun σ' ρ' H' h' a c d => ⟨ρ', h', a, s13.trans c, d⟩⟩⟩
      | false =>
        simp only [Bool.false_eq_true, if_false] at q3 ⊢
        exact lk.nx _ _ _ _ (sl2.mono s3.ts) s13 q3

/-! ### list comprehensions -/
def wipeD (ρ : En) : List Nat → En
  | [] => ρ
  | v :: vs => (wipeD ρ vs).set v none
theorem Sl.wipe {K : PySem.W.Frag} {σ : L2.St} {H : Hp} {ρ : En} (s : Sl K σ H ρ) : ∀ vs, Sl K (wipe σ vs) H (wipeD ρ vs)
  | [] => s
  | v :: vs => by
    have ih := Sl.wipe s vs
    refine ⟨by show ((wipeD ρ vs).set v none).length = ((L2.wipe σ vs).set v none).length; rw [List.length_set, List.length_set]; exact ih.1, fun j d e => ?_⟩
    have e' : ((wipeD ρ vs).set v none)[j]? = some (some d) := e
    by_cases hj : v = j
    · subst hj
      by_cases hl : v < (wipeD ρ vs).length
      · rw [List.getElem?_set_self hl] at e'; cases e'
      · rw [List.getElem?_eq_none (by rw [List.length_set]; omega)] at e'; cases e'
    · rw [List.getElem?_set_ne hj] at e'
      obtain ⟨v', q, r⟩ := ih.2 j d e'
      exact ⟨v', by show ((L2.wipe σ vs).set v none)[j]? = _; rw [List.getElem?_set_ne hj]; exact q, r⟩
end

end PD

-- PdD
set_option Elab.async false
set_option linter.all false
set_option maxRecDepth 100000
set_option maxHeartbeats 4000000
/-! PdD: list comprehensions, tests, statements, by data. -/
namespace PD
open PySem PySem.Spec PyProof.Rows L2

/-! ### list comprehensions -/
/-- a comprehension's target: a name; a tuple of names -/
inductive TgS where
  | one (i : Nat) | many (is : List Nat)
def gNames : List Nat → TGs
  | [] => gNil
  | i :: is => gCons (gName i) (gNames is)
def TgS.g (K : PySem.W.Frag) : TgS → TG
  | .one i => gName i
  | .many is => gTup K is.length (gNames is)
def TgS.slots : TgS → List Nat
  | .one i => [i]
  | .many is => is
def setsD : En → List Nat → List D → En
  | ρ, i :: is, d :: ds => setsD (ρ.set i (some d)) is ds
  | ρ, _, _ => ρ
def TgS.bind (ρ : En) (d : D) (k : En → Prop) : TgS → Prop
  | .one i => k (ρ.set i (some d))
  | .many is => match d with
    | .tup ds => ds.length = is.length ∧ k (setsD ρ is ds)
    | _ => False
theorem wipe_at {σ : L2.St} {i : Nat} {x : Option V} : ∀ {vs : List Nat}, i ∈ vs → wipe (σ.set i x) vs = wipe σ vs
  | v :: vs, h => by
    show (wipe (σ.set i x) vs).set v none = (wipe σ vs).set v none
    by_cases m : i ∈ vs
    · rw [wipe_at m]
    · have e : i = v := by
        rcases List.mem_cons.mp h with e | e
        · exact e
        · exact absurd e m
      subst e
      have go : ∀ (ws : List Nat), i ∉ ws → wipe (σ.set i x) ws = (wipe σ ws).set i x := by
        intro ws
        induction ws with
        | nil => intro _; rfl
        | cons w ws ih =>
          intro n
          have n1 : i ≠ w := fun z => n (by rw [z]; exact List.mem_cons_self)
          have n2 : i ∉ ws := fun z => n (List.mem_cons_of_mem _ z)
          show (wipe (σ.set i x) ws).set w none = ((wipe σ ws).set w none).set i x
          rw [ih n2, List.set_comm _ _ n1]
      rw [go vs m, List.set_set]
theorem wipe_wipe {σ : L2.St} : ∀ vs : List Nat, wipe (wipe σ vs) vs = wipe σ vs := by
  have gen : ∀ (ws vs : List Nat), (∀ w ∈ ws, w ∈ vs) → ∀ τ : L2.St, wipe (wipe τ ws) vs = wipe τ vs := by
    intro ws
    induction ws with
    | nil => intro vs _ τ; rfl
    | cons w ws ih =>
      intro vs h τ
      show wipe ((wipe τ ws).set w none) vs = wipe τ vs
      rw [wipe_at (h w List.mem_cons_self), ih vs (fun z m => h z (List.mem_cons_of_mem _ m))]
  exact fun vs => gen vs vs (fun _ m => m) σ
def setsV : L2.St → List Nat → List V → L2.St
  | σ, i :: is, v :: vs => setsV (σ.set i (some v)) is vs
  | σ, _, _ => σ
theorem gNames_run {σ : L2.St} {H : Hp} {Q : L2.St → Hp → Prop} : ∀ {is : List Nat} {vs : List V} {σ : L2.St}, vs.length = is.length → Q (setsV σ is vs) H → gNames is vs σ H Q
  | [], [], _, _, q => ⟨rfl, q⟩
  | [], _ :: _, _, e, _ => by cases e
  | _ :: _, [], _, e, _ => by cases e
  | i :: is, v :: vs, σ, e, q => ⟨v, vs, rfl, gNames_run (σ := σ.set i (some v)) (Nat.succ.inj e) q⟩
theorem wipe_setsV {vs : List Nat} : ∀ {is : List Nat} {us : List V} {σ : L2.St}, (∀ i ∈ is, i ∈ vs) → wipe (setsV σ is us) vs = wipe σ vs
  | [], _, _, _ => by unfold setsV; rfl
  | i :: is, [], _, _ => by unfold setsV; rfl
  | i :: is, u :: us, σ, h => by
    show wipe (setsV (σ.set i (some u)) is us) vs = _
    rw [wipe_setsV (fun j m => h j (List.mem_cons_of_mem _ m)), wipe_at (h i List.mem_cons_self)]
theorem Sl.sets {K : PySem.W.Frag} {H : Hp} : ∀ {is : List Nat} {us : List V} {ds : List D} {σ : L2.St} {ρ : En}, Sl K σ H ρ → RDs K H us ds → Sl K (setsV σ is us) H (setsD ρ is ds)
  | [], _, _, _, _, s, _ => by unfold setsV setsD; exact s
  | i :: is, us, [], _, _, s, r => by cases r; unfold setsV setsD; exact s
  | i :: is, us, d :: ds, σ, ρ, s, r => by
    obtain ⟨v, r', rfl, q, t⟩ := r
    exact Sl.sets (is := is) (s.set q) t
theorem TgS.run {K : PySem.W.Frag} {σ : L2.St} {H : Hp} {ρ : En} {v : V} {d : D} {k : En → Prop} {Q : L2.St → Hp → Prop} {vs : List Nat} (tg : TgS) (s : Sl K σ H ρ) (r : RD K H v d) (b : TgS.bind ρ d k tg) (sub : ∀ i ∈ tg.slots, i ∈ vs)
    (q : ∀ σ' ρ', wipe σ' vs = wipe σ vs → Sl K σ' H ρ' → k ρ' → Q σ' H) : tg.g K v σ H Q := by
  cases tg with
  | one i => exact q _ _ (wipe_at (sub i (by simp [TgS.slots]))) (s.set r) b
  | many is =>
    cases d with
    | tup ds =>
      obtain ⟨a, us, rfl, sq, rs⟩ := r
      have e : us.length = is.length := by rw [rs.length]; exact b.1
      exact ⟨a, us, rfl, sq, e, gNames_run (σ := σ) e (q _ _ (wipe_setsV sub) (s.sets rs) b.2)⟩
    | _ => exact b.elim
def cLcGo (ok : HD → Prop) (tg : TgS) (tt : CT) (te : CE) (ρ : En) (Q : DK) : List D → List D → HD → Prop
  | [], acc, h => ok h ∧ ∀ p, h p = none → Q (.ref p) (updD h p (.lst acc))
  | x :: xs, acc, h => ok h ∧ tg.bind ρ x fun ρ1 => tt ρ1 h fun b h1 => if b = true then te ρ1 h1 fun y h2 => cLcGo ok tg tt te ρ Q xs (acc ++ [y]) h2 else cLcGo ok tg tt te ρ Q xs acc h1
/-- [te for tg in t if tt]; vs: the block's own names -/
def cLc (t : CI) (tg : TgS) (tt : CT) (te : CE) (vs : List Nat) : CE := fun ρ h Q => t ρ h fun S h1 => S.items.length ≤ sizeLine ∧ cLcGo S.ok tg tt te (wipeD ρ vs) Q S.items [] h1
theorem low_lc {K : PySem.W.Frag} {B : Bs} {t : CI} {tg : TgS} {tt : CT} {te : CE} {vs : List Nat} {σ : L2.St} {H : Hp} {Q : VK} (sub : ∀ i ∈ tg.slots, i ∈ vs) (w : lowE K B (cLc t tg tt te vs) σ H Q) :
    tLc (lowI K B t) (tg.g K) (lowT K B tt) (lowE K B te) vs σ H Q := by
  obtain ⟨ρ, h, Q', sl, rh, ht, k⟩ := w
  refine ⟨ρ, h, _, sl, rh, ht, fun S J H1 h1 isok s1 q1 L nL => ?_⟩
  obtain ⟨hsz, q1⟩ := q1
  have sL : Stp K H1 h1 (upd H1 L (.lst [])) h1 := .hid s1.rh nL (s1.rh.none nL)
  refine ⟨fun i m H2 => ∃ h2 vacc acc, H2 L = some (.lst vacc) ∧ RDs K H2 vacc acc ∧ h2 L = none ∧ Stp K H1 h1 H2 h2 ∧ i + m = S.items.length ∧ acc.length ≤ i ∧ cLcGo S.ok tg tt te (wipeD ρ vs) Q' (S.items.drop i) acc h2,
    ⟨S.items.length, h1, [], [], upd_same, rfl, s1.rh.none nL, sL, Nat.zero_add _, Nat.le_refl _, q1⟩, ?_⟩
  rintro i m H2 ⟨h2, vacc, acc, eL, ra, hL, s2, e, hle, q2⟩
  cases m with
  | zero =>
    have e' : S.items.length = i := by omega
    rw [List.drop_eq_nil_of_le (by omega)] at q2
    refine .inl ⟨(isok i H2 h2 s2.ts s2.rh q2.1).1 e', ?_⟩
    have st : Stp K H1 h1 H2 (updD h2 L (.lst acc)) := by
      have s3 := s2
      refine ⟨s3.ts, s3.dm, fun a q => ?_, fun a o eo => ?_, s3.hd⟩
      · by_cases z : a = L
        · exact .inr (by rw [z]; exact nL)
        · rw [updD_ne z] at q; exact s3.nf a q
      · by_cases z : a = L
        · subst z
          rw [updD_same] at eo
          cases eo
          exact ⟨vacc, eL, ra⟩
        · rw [updD_ne z] at eo; exact s3.rh a o eo
    exact k _ (.ref L) H2 _ rfl (s1.trans st) (q2.2 L hL)
  | succ m =>
    have lt : i < S.items.length := by omega
    rw [List.drop_eq_getElem_cons lt] at q2
    have isk := (isok i H2 h2 s2.ts s2.rh q2.1).2 S.items[i] (List.getElem?_eq_getElem lt)
    refine .inr ⟨isk.1, fun H3 => ∃ h2 vacc acc, H3 L = some (.lst vacc) ∧ RDs K H3 vacc acc ∧ h2 L = none ∧ Stp K H1 h1 H3 h2 ∧ acc.length ≤ i + 1 ∧ cLcGo S.ok tg tt te (wipeD ρ vs) Q' (S.items.drop (i + 1)) acc h2, fun H3 n3 => ?_, fun x H3 y => ?_⟩
    · obtain ⟨h3, va, ac, a1, a2, a3, a4, a5, a6⟩ := n3
      exact ⟨m, Nat.lt_succ_self _, h3, va, ac, a1, a2, a3, a4, by omega, a5, a6⟩
    · obtain ⟨rx, s3⟩ := isk.2 x H3 y
      have sl3 : Sl K (wipe σ vs) H3 (wipeD ρ vs) := (sl.wipe vs).mono ((s1.ts.trans s2.ts).trans s3.ts)
      refine tg.run sl3 rx q2.2 sub fun σ' ρ' we sl' b => ⟨by rw [we, wipe_wipe], ?_⟩
      refine ⟨ρ', h2, _, sl', ((rh.trans s1).trans s2).trans s3, b, fun kb H4 h4 s4 q4 => ?_⟩
      have s34 := s3.trans s4
      have eL4 : H4 L = some (.lst vacc) := s34.hd L _ eL hL rfl
      have hL4 : h4 L = none := by
        cases z : h4 L with
        | none => rfl
        | some u =>
          rcases s34.nf L (by rw [z]; simp) with y | y
          · exact absurd hL y
          · rw [eL] at y; cases y
      cases kb with
      | true =>
        simp only [if_true] at q4 ⊢
        refine ⟨ρ', h4, _, sl'.mono s4.ts, (((rh.trans s1).trans s2).trans s3).trans s4, q4, fun v d H5 h5 rv s5 q5 => ?_⟩
        have eL5 : H5 L = some (.lst vacc) := s5.hd L _ eL4 hL4 rfl
        have hL5 : h5 L = none := by
          cases z : h5 L with
          | none => rfl
          | some u =>
            rcases s5.nf L (by rw [z]; simp) with y | y
            · exact absurd hL4 y
            · rw [eL4] at y; cases y
        have s25 := (s2.trans s34).trans s5
        have kp : Kep H5 (upd H5 L (.lst (vacc ++ [v]))) := fun a u eu iu => by
          by_cases z : a = L
          · rw [z, eL5] at eu; cases eu; cases iu
          · rw [upd_ne z]; exact eu
        refine ⟨vacc, eL5, ?_, h5, vacc ++ [v], acc ++ [d], upd_same, ?_, hL5, ?_, ?_, q5⟩
        · rw [ra.length]; omega
        · exact ((ra.mono (s34.ts.trans s5.ts)).append (ds := acc) (es := [d]) (ws := [v]) ⟨v, [], rfl, rv, rfl⟩).mono kp
        · refine ⟨s25.ts.trans kp, fun a z => ?_, s25.nf, fun a o eo => ?_, fun a o eo na it => ?_⟩
          · by_cases y : a = L
            · rw [y, upd_same]; simp
            · rw [upd_ne y]; exact s25.dm a z
          · have nz : a ≠ L := fun y => by rw [y, hL5] at eo; cases eo
            exact (s25.rh a o eo).keep kp (upd_ne nz)
          · by_cases y : a = L
            · rw [y, nL] at eo; cases eo
            · rw [upd_ne y]; exact s25.hd a o eo na it
        · rw [List.length_append, List.length_singleton]; omega
      | false =>
        simp only [Bool.false_eq_true, if_false] at q4 ⊢
        exact ⟨h4, vacc, acc, eL4, ra.mono s34.ts, hL4, s2.trans s34, by omega, q4⟩

section
variable {X : Cx} {B : Bs}
def QTs (X : Cx) (B : Bs) (ifs : List Expr) (t : CT) : Prop := PTs X ifs (lowT X.K B t)
theorem PTs.imp {X : Cx} {e : List Expr} {t t' : TT} (p : PTs X e t') (k : ∀ σ H Q, t σ H Q → t' σ H Q) : PTs X e t := ⟨fun pins s σ H Q I h => p.run pins s σ H Q I (k σ H Q h)⟩
def cYes : CT := fun _ h Q => Q true h
theorem qts_nil : QTs X B [] cYes := PTs.imp pts_nil fun σ H Q w => by
  obtain ⟨ρ, h, Q', sl, rh, ht, k⟩ := w
  exact k true H h (.refl rh.rh) ht
theorem qts_one {c : Expr} {t : CT} (h : QT X B c t) : QTs X B [c] t := pts_one h
theorem qe_lc {elt tgE iter : Expr} {ifs : List Expr} {scope : Scope} {own : List (Str × Nat)} {pos : Pos} {t : CI} {tg : TgS} {tt : CT} {te : CE} (hc : X.calm = true) (hN : X.N.Nodup) (hi : QI X B tgE iter t) (ok : BlkOk X.N X.env.scope scope own)
    (sub : ∀ i ∈ tg.slots, i ∈ own.map (·.2))
    (hg : ∀ (s : Shared) (H : Hp) (C : Addr) (cl : List (Str × Addr)) (fp : List Addr), PG (X.blk s H scope (compEnvC scope cl C X.env) fp) tgE (tg.g X.K))
    (ht : ∀ (s : Shared) (H : Hp) (C : Addr) (cl : List (Str × Addr)) (fp : List Addr), QTs (X.blk s H scope (compEnvC scope cl C X.env) fp) B ifs tt)
    (he : ∀ (s : Shared) (H : Hp) (C : Addr) (cl : List (Str × Addr)) (fp : List Addr), QE (X.blk s H scope (compEnvC scope cl C X.env) fp) B elt te) (hs : ∀ x, foldedSetIterable iter X.env x = pure x := by intro _; rfl) :
    QE X B (.ListComp elt [⟨tgE, iter, ifs, 0⟩] scope pos) (cLc t tg tt te (own.map (·.2))) :=
  PE.imp (pe_lc (tt := lowT X.K B tt) (te := lowE X.K B te) hc hN hi ok hg ht he hs) fun σ H Q w => low_lc sub w
theorem qs_setLc {i : Nat} {y : Str} {py : Pos} {elt tgE iter : Expr} {ifs : List Expr} {scope : Scope} {own : List (Str × Nat)} {pos spos : Pos} {t : CI} {tg : TgS} {tt : CT} {te : CE} (hc : X.calm = true) (hN : X.N.Nodup) (hy : X.N[i]? = some y) (hyl : X.env.scope.names.lookup y = some .local)
    (hsw : swapsWith (.ListComp elt [⟨tgE, iter, ifs, 0⟩] scope pos) (some (.Name y py)) spos.line X.env = pure true) (hi : QI X B tgE iter t) (ok : BlkOk X.N X.env.scope scope own) (sub : ∀ i ∈ tg.slots, i ∈ own.map (·.2))
    (hg : ∀ (s : Shared) (H : Hp) (C : Addr) (cl : List (Str × Addr)) (fp : List Addr), PG (X.blk s H scope (compEnvC scope cl C X.env) fp) tgE (tg.g X.K))
    (ht : ∀ (s : Shared) (H : Hp) (C : Addr) (cl : List (Str × Addr)) (fp : List Addr), QTs (X.blk s H scope (compEnvC scope cl C X.env) fp) B ifs tt)
    (he : ∀ (s : Shared) (H : Hp) (C : Addr) (cl : List (Str × Addr)) (fp : List Addr), QE (X.blk s H scope (compEnvC scope cl C X.env) fp) B elt te) (hs : ∀ x, foldedSetIterable iter X.env x = pure x := by intro _; rfl) :
    QS X B (.Assign [.Name y py] (.ListComp elt [⟨tgE, iter, ifs, 0⟩] scope pos) spos) (fun Z ρ h => cLc t tg tt te (own.map (·.2)) ρ h fun d h1 => Z.nx (ρ.set i (some d)) h1) :=
  PS.imp (ps_setLc (tt := lowT X.K B tt) (te := lowE X.K B te) hc hN hy hyl hsw hi ok hg ht he hs) fun E σ H w => by
    obtain ⟨ρ, h, D', sl, rh, hw, lk⟩ := w
    exact low_lc (K := X.K) sub ⟨ρ, h, _, sl, rh, hw, fun v d H' h' rv st q => lk.nx _ _ H' h' ((sl.mono st.ts).set rv) st q⟩
/-- a target of a comprehension: a name; names -/
theorem tg_one {i : Nat} {x : Str} {pos : Pos} (hN : X.N.Nodup) (hi : X.N[i]? = some x) (hx : Loc X.env.scope x) (hf : X.fn x = true ∨ X.env.scope.names.lookup x = some .local := by first | exact .inl rfl | exact .inr rfl | assumption) (K : PySem.W.Frag) : PG X (.Name x pos) ((TgS.one i).g K) := pg_name hN hi hx hf
theorem tg_nil : PGs X [] (gNames []) := pgs_nil
theorem tg_cons {i : Nat} {is : List Nat} {x : Str} {pos : Pos} {es : List Expr} (hN : X.N.Nodup) (hi : X.N[i]? = some x) (hx : Loc X.env.scope x) (r : PGs X es (gNames is)) (hf : X.fn x = true ∨ X.env.scope.names.lookup x = some .local := by first | exact .inl rfl | exact .inr rfl | assumption)
    (hs : (assignEach (.Name x pos :: es) X.env).map (·.2) = assign (.Name x pos) X.env :: (assignEach es X.env).map (·.2) := by rfl) : PGs X (.Name x pos :: es) (gNames (i :: is)) := pgs_cons (pg_name hN hi hx hf) r hs
theorem tg_many {is : List Nat} {es : List Expr} {k : Nat} {pos : Pos} (hc : X.calm = true) (h : PGs X es (gNames is)) (hn : (assignEach es X.env).length = is.length := by rfl) (hst : (assignEach es X.env).findIdx? (·.1) = none := by rfl) : PG X (.Tuple es k pos) ((TgS.many is).g X.K) := pg_tup hc h hn hst

/-! ### tests -/
def cT (t : CE) : CT := fun ρ h Q => t ρ h fun x h1 => match x with
  | .bl b => Q b h1
  | _ => False
theorem low_T {K : PySem.W.Frag} {t : CE} {σ : L2.St} {H : Hp} {Q : Bool → Hp → Prop} (w : lowT K B (cT t) σ H Q) : lowE K B t σ H fun x H' => ∃ k, x = .bl k ∧ Q k H' := by
  obtain ⟨ρ, h, Q', sl, rh, ht, k⟩ := w
  refine ⟨ρ, h, _, sl, rh, ht, fun v d H1 h1 rv s1 q1 => ?_⟩
  cases d with
  | bl b => cases (show v = V.bl b from rv); exact ⟨b, rfl, k b H1 h1 s1 q1⟩
  | _ => exact q1.elim
variable {a b c e : Expr} {ta tb tc te : CE} {pos : Pos} {u v : CT} {rest : List Expr}
theorem qt_cmp {op : CmpOp} {r : C2} (ho : OpD X (compareOp op) r) (ha : QE X B a ta) (hb : QE X B b tb) (hm : behindInMarks op b = false := by first | exact nomark _ | rfl) : QT X B (.Compare a [op] [b] pos) (cT (cOp r ta tb)) :=
  PT.imp (pt_cmpR ho ha hb hm) fun σ H Q w => by
    obtain ⟨ρ, h, Q', sl, rh, ht, k⟩ := low_T w
    exact low_op ⟨ρ, h, Q', sl, rh, ht, k⟩
/-- any expression whose value is a bool -/
theorem qt_val (h : QE X B e te) (he : ∀ whole, isTrue e X.env whole = (do let v ← whole; standAt e.pos; holding [v] (truthy v)) := by intro _; rfl) : QT X B e (cT te) := PT.imp (pt_val h he) fun σ H Q w => low_T w
def cNot (t : CT) : CT := fun ρ h Q => t ρ h fun k h1 => Q (!k) h1
def cAnd (t u : CT) : CT := fun ρ h Q => t ρ h fun k h1 => if k = true then u ρ h1 Q else Q false h1
def cOr (t u : CT) : CT := fun ρ h Q => t ρ h fun k h1 => if k = true then Q true h1 else u ρ h1 Q
def QW (X : Cx) (B : Bs) (e : Expr) (t : CT) : Prop := PW X e (lowT X.K B t)
theorem QW.t (h : QW X B e u) : QT X B e u := PW.pt h
theorem qt_not (h : QT X B a u) : QT X B (.UnaryOp .Not a pos) (cNot u) := PT.imp (pt_not h) fun σ H Q w => by
  obtain ⟨ρ, h, Q', sl, rh, ht, k⟩ := w
  exact ⟨ρ, h, _, sl, rh, ht, fun b H' h' s q => k (!b) H' h' s q⟩
theorem qw_and1 (h : QT X B a u) : QW X B (.BoolOp .And [a] pos) u := pw_and1 h
theorem qw_or1 (h : QT X B a u) : QW X B (.BoolOp .Or [a] pos) u := pw_or1 h
theorem qw_and (h : QT X B a u) (h2 : QW X B (.BoolOp .And (b :: rest) pos) v) : QW X B (.BoolOp .And (a :: b :: rest) pos) (cAnd u v) := PW.imp (pw_and h h2) fun σ H Q w => by
  obtain ⟨ρ, h, Q', sl, rh, ht, k⟩ := w
  refine ⟨ρ, h, _, sl, rh, ht, fun b H1 h1 s q => ?_⟩
  cases b with
  | true => exact iteT ⟨ρ, h1, Q', sl.mono s.ts, rh.trans s, by simpa using q, fun c H' h' s' q' => k c H' h' (s.trans s') q'⟩
  | false => exact iteF (k false H1 h1 s (by simpa using q))
theorem qw_or (h : QT X B a u) (h2 : QW X B (.BoolOp .Or (b :: rest) pos) v) : QW X B (.BoolOp .Or (a :: b :: rest) pos) (cOr u v) := PW.imp (pw_or h h2) fun σ H Q w => by
  obtain ⟨ρ, h, Q', sl, rh, ht, k⟩ := w
  refine ⟨ρ, h, _, sl, rh, ht, fun b H1 h1 s q => ?_⟩
  cases b with
  | false => exact iteF ⟨ρ, h1, Q', sl.mono s.ts, rh.trans s, by simpa using q, fun c H' h' s' q' => k c H' h' (s.trans s') q'⟩
  | true => exact iteT (k true H1 h1 s (by simpa using q))
/-- as values -/
def cAndV (ta tb : CE) : CE := fun ρ h Q => ta ρ h fun x h1 => match x with
  | .bl k => if k = true then tb ρ h1 Q else Q (.bl false) h1
  | _ => False
def cOrV (ta tb : CE) : CE := fun ρ h Q => ta ρ h fun x h1 => match x with
  | .bl k => if k = true then Q (.bl true) h1 else tb ρ h1 Q
  | _ => False
def cNotV (ta : CE) : CE := fun ρ h Q => ta ρ h fun x h1 => match x with
  | .bl k => Q (.bl (!k)) h1
  | _ => False
theorem qe_one {op : BoolOp} (h : QE X B a ta) : QE X B (.BoolOp op [a] pos) ta := pe_one h
theorem qe_and (h : QE X B a ta) (h2 : QE X B (.BoolOp .And (b :: rest) pos) tb) : QE X B (.BoolOp .And (a :: b :: rest) pos) (cAndV ta tb) := PE.imp (pe_and h h2) fun σ H Q w => by
  obtain ⟨ρ, h, Q', sl, rh, ht, k⟩ := w
  refine ⟨ρ, h, _, sl, rh, ht, fun x d H1 h1 rx s q => ?_⟩
  cases d with
  | bl b =>
    cases (show x = V.bl b from rx)
    refine ⟨b, rfl, ?_⟩
    cases b with
    | true => exact iteT ⟨ρ, h1, Q', sl.mono s.ts, rh.trans s, by simpa using q, fun w d H' h' r' s' q' => k w d H' h' r' (s.trans s') q'⟩
    | false => exact iteF (k _ (.bl false) H1 h1 rfl s (by simpa using q))
  | _ => exact q.elim
theorem qe_or (h : QE X B a ta) (h2 : QE X B (.BoolOp .Or (b :: rest) pos) tb) : QE X B (.BoolOp .Or (a :: b :: rest) pos) (cOrV ta tb) := PE.imp (pe_or h h2) fun σ H Q w => by
  obtain ⟨ρ, h, Q', sl, rh, ht, k⟩ := w
  refine ⟨ρ, h, _, sl, rh, ht, fun x d H1 h1 rx s q => ?_⟩
  cases d with
  | bl b =>
    cases (show x = V.bl b from rx)
    refine ⟨b, rfl, ?_⟩
    cases b with
    | false => exact iteF ⟨ρ, h1, Q', sl.mono s.ts, rh.trans s, by simpa using q, fun w d H' h' r' s' q' => k w d H' h' r' (s.trans s') q'⟩
    | true => exact iteT (k _ (.bl true) H1 h1 rfl s (by simpa using q))
  | _ => exact q.elim
theorem qe_not (h : QE X B a ta) : QE X B (.UnaryOp .Not a pos) (cNotV ta) := PE.imp (pe_not h) fun σ H Q w => by
  obtain ⟨ρ, h, Q', sl, rh, ht, k⟩ := w
  refine ⟨ρ, h, _, sl, rh, ht, fun x d H1 h1 rx s q => ?_⟩
  cases d with
  | bl b => cases (show x = V.bl b from rx); exact ⟨b, rfl, k _ (.bl (!b)) H1 h1 rfl s q⟩
  | _ => exact q.elim
def cIf (t : CT) (ta tb : CE) : CE := fun ρ h Q => t ρ h fun k h1 => if k = true then ta ρ h1 Q else tb ρ h1 Q
theorem qe_if (hc : QT X B c u) (ha : QE X B a ta) (hb : QE X B b tb) : QE X B (.IfExp c a b pos) (cIf u ta tb) := PE.imp (pe_ifExp hc ha hb) fun σ H Q w => by
  obtain ⟨ρ, h, Q', sl, rh, ht, k⟩ := w
  refine ⟨ρ, h, _, sl, rh, ht, fun b H1 h1 s q => ?_⟩
  cases b with
  | true => exact iteT ⟨ρ, h1, Q', sl.mono s.ts, rh.trans s, by simpa using q, fun w d H' h' r' s' q' => k w d H' h' r' (s.trans s') q'⟩
  | false => exact iteF ⟨ρ, h1, Q', sl.mono s.ts, rh.trans s, by simpa using q, fun w d H' h' r' s' q' => k w d H' h' r' (s.trans s') q'⟩
/-- a < b <= c -/
def cChain (r r' : C2) (ta tb tc : CE) : CE := fun ρ h Q => ta ρ h fun x h1 => tb ρ h1 fun y h2 => r x y h2 fun z h3 => match z with
  | .bl k => if k = true then tc ρ h3 fun w h4 => r' y w h4 Q else Q (.bl false) h3
  | _ => False
theorem low_chain {K : PySem.W.Frag} {r r' : C2} {σ : L2.St} {H : Hp} {Q : VK} (w : lowE K B (cChain r r' ta tb tc) σ H Q) : tChain (low2 K r) (low2 K r') (lowE K B ta) (lowE K B tb) (lowE K B tc) σ H Q := by
  obtain ⟨ρ, h, Q', sl, rh, ht, k⟩ := w
  refine ⟨ρ, h, _, sl, rh, ht, fun v d H1 h1 rv s1 q1 => ?_⟩
  refine ⟨ρ, h1, _, sl.mono s1.ts, rh.trans s1, q1, fun u e H2 h2 ru s2 q2 => ?_⟩
  refine ⟨d, e, h2, _, rv.mono s2.ts, ru, s2.rh, q2, fun z f H3 h3 rz s3 q3 => ?_⟩
  have s123 := (s1.trans s2).trans s3
  cases f with
  | bl kb =>
    cases (show z = V.bl kb from rz)
    refine ⟨kb, rfl, ?_⟩
    cases kb with
    | false => exact iteF (k _ (.bl false) H3 h3 rfl s123 (by simpa using q3))
    | true =>
      refine iteT ⟨ρ, h3, _, sl.mono s123.ts, rh.trans s123, by simpa using q3, fun v4 d4 H4 h4 r4 s4 q4 => ?_⟩
      exact ⟨e, d4, h4, Q', (ru.mono s3.ts).mono s4.ts, r4, s4.rh, q4, fun v5 d5 H5 h5 r5 s5 q5 => k v5 d5 H5 h5 r5 ((s123.trans s4).trans s5) q5⟩
  | _ => exact q3.elim
theorem qe_chain {op op' : CmpOp} {r r' : C2} (ho : OpD X (compareOp op) r) (ho' : OpD X (compareOp op') r') (ha : QE X B a ta) (hb : QE X B b tb) (hc : QE X B c tc) (hm : lastMarks [op, op'] [b, c] = false := by with_unfolding_all rfl) :
    QE X B (.Compare a [op, op'] [b, c] pos) (cChain r r' ta tb tc) := PE.imp (pe_chain ho ho' ha hb hc hm) fun _ _ _ w => low_chain w
theorem qt_chain {op op' : CmpOp} {r r' : C2} (ho : OpD X (compareOp op) r) (ho' : OpD X (compareOp op') r') (ha : QE X B a ta) (hb : QE X B b tb) (hc : QE X B c tc) (hm : lastMarks [op, op'] [b, c] = false := by with_unfolding_all rfl) :
    QT X B (.Compare a [op, op'] [b, c] pos) (cT (cChain r r' ta tb tc)) := PT.imp (pt_chain ho ho' ha hb hc hm) fun σ H Q w => by
  obtain ⟨ρ, h, Q', sl, rh, ht, k⟩ := low_T w
  exact low_chain ⟨ρ, h, Q', sl, rh, ht, k⟩

/-! ### displays -/
def cTup (t : CA) : CE := fun ρ h Q => t ρ h fun ds h1 => ds.length ≤ sizeLine ∧ Q (.tup ds) h1
def cLst (t : CA) : CE := fun ρ h Q => t ρ h fun ds h1 => ds.length ≤ sizeLine ∧ ∀ p, h1 p = none → Q (.ref p) (updD h1 p (.lst ds))
theorem qe_tup {es : List Expr} {t : CA} {x1} (ha : QA X B es t) : QE X B (.Tuple es x1 pos) (cTup t) := PE.imp (pe_tup ha) fun σ H Q w => by
  obtain ⟨ρ, h, Q', sl, rh, ht, k⟩ := w
  refine ⟨ρ, h, _, sl, rh, ht, fun vs ds H1 h1 rv s q => ⟨by rw [rv.length]; exact q.1, fun p np => ?_⟩⟩
  exact k _ (.tup ds) _ h1 (new_tup np rv) (s.trans (.hid s.rh np (s.rh.none np))) q.2
theorem qe_lst {es : List Expr} {t : CA} (ha : QA X B es t) : QE X B (.List es pos) (cLst t) := PE.imp (pe_lst ha) fun σ H Q w => by
  obtain ⟨ρ, h, Q', sl, rh, ht, k⟩ := w
  refine ⟨ρ, h, _, sl, rh, ht, fun vs ds H1 h1 rv s q => ⟨by rw [rv.length]; exact q.1, fun p np => ?_⟩⟩
  exact k _ (.ref p) _ _ rfl (s.trans (.new s.rh np (new_lst np rv))) (q.2 p (s.rh.none np))
/-- a written value of the module: a constant, a tuple of constants, a class, a def -/
theorem qe_glob {x : Str} {d : D} {z : V} {uu : Value} (hg : Gl X x) (hm : X.mg x = some uu) (r : RelV z uu) (rd : ∀ H, RD X.K H z d) (hd : (x == ("__debug__" : Str)) = false := by decide) : QE X B (.Name x pos) (cC d) := qe_const (pe_glob hg hm r hd) rd
theorem qe_bltn {x : Str} {d : D} {z : V} {uu : Value} (hg : Gl X x) (hm : X.mg x = none) (hv : bootBuiltins x = some uu) (r : RelV z uu) (rd : ∀ H, RD X.K H z d) (hn : x ≠ "__name__" := by decide) (hd : (x == ("__debug__" : Str)) = false := by decide) : QE X B (.Name x pos) (cC d) :=
  qe_const (pe_bltn hg hm hv r hn hd) rd

/-! ### statements -/
variable {st : Stmt} {sts : List Stmt} {t w : CS}
def cNext : CS := fun Z ρ h => Z.nx ρ h
def cSeq (t u : CS) : CS := fun Z ρ h => t { Z with nx := u Z } ρ h
theorem qss_nil : QSs X B [] cNext := PSs.imp pss_nil fun E σ H w => by
  obtain ⟨ρ, h, D', sl, rh, ht, lk⟩ := w
  exact lk.nx σ ρ H h sl (.refl rh.rh) ht
theorem qss_cons (h1 : QS X B st t) (h2 : QSs X B sts w) : QSs X B (st :: sts) (cSeq t w) := PSs.imp (pss_cons h1 h2) fun E σ H z => by
  obtain ⟨ρ, h, D', sl, rh, ht, lk⟩ := z
  exact ⟨ρ, h, _, sl, rh, ht, ⟨fun σ' ρ' H' h' a c d => ⟨ρ', h', D', a, rh.trans c, d, lk.step c⟩, lk.rt, lk.bk, lk.ct⟩⟩
theorem qss_one (h1 : QS X B st t) : QSs X B [st] t := pss_one h1
/-- cut: what follows is shown once, from Mid -/
def cCut (t u : CS) : CS := fun Z ρ h => ∃ Mid : En → HD → Prop, t { Z with nx := Mid } ρ h ∧ ∀ ρ' h', Mid ρ' h' → u Z ρ' h'
theorem qss_cut (h1 : QS X B st t) (h2 : QSs X B sts w) : QSs X B (st :: sts) (cCut t w) := PSs.imp (pss_cons h1 h2) fun E σ H z => by
  obtain ⟨ρ, h, D', sl, rh, ⟨Mid, ht, hu⟩, lk⟩ := z
  exact ⟨ρ, h, _, sl, rh, ht, ⟨fun σ' ρ' H' h' a c d => ⟨ρ', h', D', a, rh.trans c, hu _ _ d, lk.step c⟩, lk.rt, lk.bk, lk.ct⟩⟩
def cBreak : CS := fun Z ρ h => Z.bk ρ h
def cCont : CS := fun Z ρ h => Z.ct ρ h
theorem qs_pass : QS X B (.Pass pos) cNext := PS.imp ps_pass fun E σ H w => by
  obtain ⟨ρ, h, D', sl, rh, ht, lk⟩ := w
  exact lk.nx σ ρ H h sl (.refl rh.rh) ht
def cDrop (t : CE) : CS := fun Z ρ h => t ρ h fun _ h1 => Z.nx ρ h1
theorem qs_expr (he : QE X B e te) (hs : swapsWith e none pos.line X.env = pure false := by rfl) : QS X B (.Expr e pos) (cDrop te) := PS.imp (ps_expr he hs) fun E σ H w => by
  obtain ⟨ρ, h, D', sl, rh, ht, lk⟩ := w
  exact ⟨ρ, h, _, sl, rh, ht, fun v d H' h' _ s q => lk.nx σ ρ H' h' (sl.mono s.ts) s q⟩
theorem qs_doc {x j pos pos'} : QS X B (.Expr (.Constant (.str x) j pos) pos') cNext := PS.imp ps_doc fun E σ H w => by
  obtain ⟨ρ, h, D', sl, rh, ht, lk⟩ := w
  exact lk.nx σ ρ H h sl (.refl rh.rh) ht
def cRet (t : CE) : CS := fun Z ρ h => t ρ h Z.rt
theorem qs_ret (he : QE X B e te) : QS X B (.Return (some e) pos) (cRet te) := PS.imp (ps_ret he) fun E σ H w => by
  obtain ⟨ρ, h, D', sl, rh, ht, lk⟩ := w
  exact ⟨ρ, h, _, sl, rh, ht, fun v d H' h' r s q => lk.rt v d H' h' r s q⟩
def cRetN : CS := fun Z _ h => Z.rt .non h
theorem qs_retN : QS X B (.Return none pos) cRetN := PS.imp ps_retN fun E σ H w => by
  obtain ⟨ρ, h, D', sl, rh, ht, lk⟩ := w
  exact lk.rt _ .non H h rfl (.refl rh.rh) ht
def cIfS (c : CT) (t u : CS) : CS := fun Z ρ h => c ρ h fun k h1 => if k = true then t Z ρ h1 else u Z ρ h1
theorem qs_if {M N : List Stmt} (hc : QT X B c u) (ha : QSs X B M t) (hb : QSs X B N w) : QS X B (.If c M N pos) (cIfS u t w) := PS.imp (ps_if hc ha hb) fun E σ H z => by
  obtain ⟨ρ, h, D', sl, rh, ht, lk⟩ := z
  refine ⟨ρ, h, _, sl, rh, ht, fun k H1 h1 s q => ?_⟩
  cases k with
  | true => exact iteT ⟨ρ, h1, D', sl.mono s.ts, rh.trans s, by simpa using q, lk.step s⟩
  | false => exact iteF ⟨ρ, h1, D', sl.mono s.ts, rh.trans s, by simpa using q, lk.step s⟩
/-- code that is never come to -/
def cNever : CS := fun _ _ _ => False
theorem qss_never : QSs X B sts cNever := PSs.imp pss_never fun E σ H w => by
  obtain ⟨ρ, h, D', sl, rh, ht, lk⟩ := w
  exact ht.elim
theorem qs_never : QS X B st cNever := PS.imp ps_never fun E σ H w => by
  obtain ⟨ρ, h, D', sl, rh, ht, lk⟩ := w
  exact ht.elim
/-- x = e -/
def cSet (i : Nat) (t : CE) : CS := fun Z ρ h => t ρ h fun d h1 => Z.nx (ρ.set i (some d)) h1
theorem qs_set {i : Nat} {x : Str} {pos' : Pos} (hN : X.N.Nodup) (hi : X.N[i]? = some x) (hx : Loc X.env.scope x) (he : QE X B e te) (hs : swapsWith e (some (.Name x pos')) pos.line X.env = pure false := by rfl)
    (hf : X.fn x = true ∨ X.env.scope.names.lookup x = some .local := by first | exact .inl rfl | exact .inr rfl | assumption) : QS X B (.Assign [.Name x pos'] e pos) (cSet i te) := PS.imp (ps_set hN hi hx he hs hf) fun E σ H w => by
  obtain ⟨ρ, h, D', sl, rh, ht, lk⟩ := w
  exact ⟨ρ, h, _, sl, rh, ht, fun v d H' h' r s q => lk.nx _ _ H' h' ((sl.mono s.ts).set r) s q⟩
/-- target = e -/
def cAsg (t : CE) (g : CG) : CS := fun Z ρ h => t ρ h fun d h1 => g d ρ h1 Z.nx
theorem qs_asg {tg : Expr} {g : CG} (he : QE X B e te) (hg : QG X B tg g) (hs : swapsWithSole [tg] e pos.line X.env = pure false := by rfl) (hw : swappedStores [tg] e X.env = pure none := by rfl) (h1 : (assignEach [tg] X.env).map (·.2) = [assign tg X.env] := by rfl) :
    QS X B (.Assign [tg] e pos) (cAsg te g) := PS.imp (ps_asg he hg hs hw h1) fun E σ H w => by
  obtain ⟨ρ, h, D', sl, rh, ht, lk⟩ := w
  refine ⟨ρ, h, _, sl, rh, ht, fun v d H1 h1 r s q => ?_⟩
  exact ⟨d, ρ, h1, _, r, sl.mono s.ts, rh.trans s, q, fun σ' ρ' H' h' a c z => lk.nx σ' ρ' H' h' a (s.trans c) z⟩
/-- a, b = x, y: plain local names -/
def cPar (i j : Nat) (t : CA) : CS := fun Z ρ h => t ρ h fun ds h1 => match ds with
  | [d, e] => Z.nx ((ρ.set i (some d)).set j (some e)) h1
  | _ => False
theorem qs_par {i j : Nat} {x y : Str} {px py pt : Pos} {kt k2 pt2} {u : CA} (hc : X.calm = true) (hN : X.N.Nodup) (hi : X.N[i]? = some x) (hj : X.N[j]? = some y) (hij : i ≠ j)
    (hx : X.env.scope.names.lookup x = some .local) (hy : X.env.scope.names.lookup y = some .local) (ha : QA X B [a, b] u)
    (hw : swappedStores [.Tuple [.Name x px, .Name y py] kt pt] (.Tuple [a, b] k2 pt2) X.env = pure (some [x, y]))
    (hs : swapsWithSole [.Tuple [.Name x px, .Name y py] kt pt] (.Tuple [a, b] k2 pt2) pos.line X.env = pure false := by rfl) :
    QS X B (.Assign [.Tuple [.Name x px, .Name y py] kt pt] (.Tuple [a, b] k2 pt2) pos) (cPar i j u) := PS.imp (ps_par hc hN hi hj hij hx hy ha hw hs) fun E σ H w => by
  obtain ⟨ρ, h, D', sl, rh, ht, lk⟩ := w
  refine ⟨ρ, h, _, sl, rh, ht, fun vs ds H1 h1 r s q => ?_⟩
  match ds, q with
  | [d, e], q =>
    obtain ⟨v, z, rfl, r1, r2⟩ := r.two
    exact ⟨v, z, rfl, lk.nx _ _ H1 h1 (((sl.mono s.ts).set r1).set r2) s q⟩
/-- o[i] = e -/
abbrev CSet := D → D → D → HD → (HD → Prop) → Prop
def lowSet (K : PySem.W.Frag) (t : CSet) : TSet := fun o i v H Q => ∃ dk di dv h Q', RD K H o dk ∧ RD K H i di ∧ RD K H v dv ∧ RH K H h ∧ t dk di dv h Q' ∧ ∀ H' h', Stp K H h H' h' → Q' h' → Q H'
abbrev SetD (X : Cx) (t : CSet) : Prop := PSet X (lowSet X.K t)
def cItm (to ti : CE) (t : CSet) : CG := fun v ρ h Q => to ρ h fun o h1 => ti ρ h1 fun i h2 => t o i v h2 fun h3 => Q ρ h3
theorem qg_sub {o i : Expr} {to ti : CE} {t : CSet} (ho : QE X B o to) (hi : QE X B i ti) (hs : SetD X t)
    (ha : ∀ v, assign (.Subscript o i pos) X.env v = (do let ov ← holding [v] (eval o X.env); let iv ← holding [v, ov] (eval i X.env); standAt pos; holding [v, ov, iv] (setItem ov iv v); release [v, ov, iv] []) := by intro _; rfl) : QG X B (.Subscript o i pos) (cItm to ti t) := PG.imp (pg_sub ho hi hs ha) fun v σ H Q w => by
  obtain ⟨d, ρ, h, Q', rv, sl, rh, ht, k⟩ := w
  refine ⟨ρ, h, _, sl, rh, ht, fun vo do' H1 h1 r1 s1 q1 => ?_⟩
  refine ⟨ρ, h1, _, sl.mono s1.ts, rh.trans s1, q1, fun vi di H2 h2 r2 s2 q2 => ?_⟩
  refine ⟨do', di, d, h2, _, r1.mono s2.ts, r2, rv.mono (s1.ts.trans s2.ts), s2.rh, q2, fun H3 h3 s3 q3 => ?_⟩
  exact k σ ρ H3 h3 (sl.mono ((s1.ts.trans s2.ts).trans s3.ts)) ((s1.trans s2).trans s3) q3
def cSetL : CSet := fun o i v h Q => match o, i with
  | .ref a, .int k => ∃ ds j, h a = some (.lst ds) ∧ ixN ds.length k = some j ∧ Q (updD h a (.lst (ds.set j v)))
  | _, _ => False
theorem sd_list : SetD X cSetL := by
  intro pins s σ H o i v ov iv uv Q I ro ri rv z
  obtain ⟨dk, di, dv, h, Q', r1, r2, r3, rh, q, k⟩ := z
  cases dk with
  | ref a =>
    cases di with
    | int n =>
      cases (show o = V.ref a from r1); cases (show i = V.int n from r2)
      obtain ⟨ds, j, e, ej, q⟩ := q
      obtain ⟨vs, ea, r⟩ := rh a _ e
      refine set_list pins s σ H _ _ v ov iv uv Q I ro ri rv ⟨a, vs, n, j, rfl, rfl, ea, by rw [r.length]; exact ej, ?_⟩
      exact k _ _ (.mut rh ea rfl (by rw [e]; simp) (mut_lst ea (r.set j r3))) q
    | _ => exact q.elim
  | _ => exact q.elim
end
end PD

-- PdE
set_option Elab.async false
set_option linter.all false
set_option maxRecDepth 100000
set_option maxHeartbeats 4000000
/-! PdE: defs, methods, instances, exceptions, by data. -/
namespace PD
open PySem PySem.Spec PyProof.Rows L2

/-- what is wanted of an exception: its class, its fields (where it has a dict), what is told -/
abbrev XD := Value → Option (List (Str × D)) → HD → Prop
abbrev SpD := List D → HD → DK → XD → Prop
def XR (K : PySem.W.Frag) (H : Hp) (h : HD) (d : Option Addr) (fs : Option (List (Str × D))) : Prop :=
  match fs with
  | none => d = none
  | some l => ∃ a vs, d = some a ∧ h a = none ∧ H a = some (.xd vs) ∧ RPs K H vs l
def lowX (K : PySem.W.Frag) (B : Bs) (E : XD) : XK := fun cls d H => ∃ h fs, RB K B H h ∧ XR K H h d fs ∧ E cls fs h
def lowSp (K : PySem.W.Frag) (sp : SpD) : Sp := fun vs H Q E => ∃ ds h Q' E', RDs K H vs ds ∧ RH K H h ∧ sp ds h Q' E' ∧ (∀ v d H' h', RD K H' v d → Stp K H h H' h' → Q' d h' → Q v H') ∧ ∀ cls d H', lowX K (H, h) E' cls d H' → E cls d H'
abbrev noX : XD := fun _ _ _ => False

/-- a def keeps a promise: within k levels, with no guard around -/
structure GF (P : Program) (w : World) (K : PySem.W.Frag) (mg : Str → Option Value) (base : Heap) (k : Nat) (f : Addr) (fd : FuncData) (ps : List Str) (sp : SpD) : Prop where
  len : ∀ ds h Q E, sp ds h Q E → ds.length = ps.length
  run : ∀ (A : Around) (outer : List Env) (s : Shared) (H : Hp) (args : Args) (us : List Value) (vs : List V) (Q : VK) (E : XK), Room k A → A.guards = some [] → Env0 P w K mg base A outer s H → BindsTo s fd args (ps.zip us) → Vals vs us → lowSp K sp vs H Q E →
    codeAny (model P w) A (.call (.ref f) args) (CR (L2.CX P w) outer P w H s Q E) s
theorem GF.mono {P : Program} {w : World} {K : PySem.W.Frag} {mg : Str → Option Value} {base : Heap} {j k : Nat} {f : Addr} {fd : FuncData} {ps : List Str} {sp : SpD} (F : GF P w K mg base j f fd ps sp) (h : j ≤ k) : GF P w K mg base k f fd ps sp :=
  ⟨F.len, fun A outer s H args us vs Q E hr => F.run A outer s H args us vs Q E (hr.mono h)⟩
theorem GF.imp {P : Program} {w : World} {K : PySem.W.Frag} {mg : Str → Option Value} {base : Heap} {k : Nat} {f : Addr} {fd : FuncData} {ps : List Str} {sp sp' : SpD} (F : GF P w K mg base k f fd ps sp) (i : ∀ ds h Q E, sp' ds h Q E → sp ds h Q E) : GF P w K mg base k f fd ps sp' :=
  ⟨fun ds h Q E q => F.len ds h Q E (i _ _ _ _ q), fun A outer s H args us vs Q E hr hg he hb hv ⟨ds, h, Q', E', a, b, c, d, e⟩ => F.run A outer s H args us vs Q E hr hg he hb hv ⟨ds, h, Q', E', a, b, i _ _ _ _ c, d, e⟩⟩

/-- the context of a def's body -/
abbrev bodyX (P : Program) (w : World) (K : PySem.W.Frag) (mg : Str → Option Value) (base : Heap) (N : List Str) (qual : Str) (sc : Scope) (f : Addr) (cd : Value) (A : Around) (outer : List Env) (s : Shared) (H : Hp) (E : XK) : Cx :=
  cxOf (L2.CX P w) P w K mg base N qual sc f cd A outer s H E
def startD (N : List Str) (ds : List D) : En := ds.map some ++ List.replicate (N.length - ds.length) none
theorem Sl.start {K : PySem.W.Frag} {H : Hp} {N : List Str} {vs : List V} {ds : List D} (r : RDs K H vs ds) : Sl K (L2.start N vs) H (startD N ds) := by
  refine ⟨by unfold L2.start startD; simp [r.length], fun i d e => ?_⟩
  unfold startD at e
  unfold L2.start
  by_cases hi : i < ds.length
  · rw [List.getElem?_append_left (by simpa using hi), List.getElem?_map] at e
    cases q : ds[i]? with
    | none => rw [q] at e; cases e
    | some x =>
      rw [q] at e
      cases e
      obtain ⟨v, e1, r1⟩ := r.get q
      exact ⟨v, by rw [List.getElem?_append_left (by simpa [r.length] using hi), List.getElem?_map, e1]; rfl, r1⟩
  · rw [List.getElem?_append_right (by simpa using hi), List.getElem?_replicate] at e
    split at e <;> cases e
/-- a def as it stands in the text, by its body -/
theorem gf_of {P : Program} {w : World} {K : PySem.W.Frag} {mg : Str → Option Value} {base : Heap} {x qual : Str} {st : Stmt} {f : Addr} {fd : FuncData} {N ps : List Str} {k : Nat} {sp : SpD} (F : Fun K x qual st f fd) (S : FnScope N ps (defScope st))
    (len : ∀ ds h Q E, sp ds h Q E → ds.length = ps.length)
    (body : ∀ (cdv : Value) (A : Around) (outer : List Env) (s : Shared) (H : Hp) (E : XK) (ds : List D) (h : HD) (Q : DK) (E' : XD), Room k (A.deeper (envOfC qual (defScope st) s.heap.objs.size f cdv)) → (A.deeper (envOfC qual (defScope st) s.heap.objs.size f cdv)).guards = some [] →
      (∀ cls d H', lowX K (H, h) E' cls d H' → E cls d H') → sp ds h Q E' →
      ∃ t, QSs (bodyX P w K mg base N qual (defScope st) f cdv A outer s H E) (H, h) (defBody st) t ∧ t { nx := fun _ h' => Q .non h', rt := Q } (startD N ds) h) : GF P w K mg base (k + 1) f fd ps sp := by
  obtain ⟨oc, od, kV, doc, pm, an, cdv, ct, osl, rfl, lk, hcd⟩ := F.ex
  refine ⟨len, fun A outer s H args us vs Q E hr hg e0 hb r hsp => ?_⟩
  obtain ⟨ds, h, Q', E', rd, rh, hs, kq, kx⟩ := hsp
  have hl : us.length = ps.length := by rw [← r.length, rd.length]; exact len _ _ _ _ hs
  have KX : K.In s.heap := e0.mod.kin.keeps fun b o e => (e0.bs b o e).1
  have lim : s.heap.NoLimit := e0.mod.nolimit.keeps fun b o e => (e0.bs b o e).1
  have kinds : ∀ y ∈ ps.zip us, (defScope st).names.lookup y.1 = some .local ∨ ((defScope st).names.lookup y.1 = some .cell ∧ ((cellsFrom (s.heap.objs.size + 1) (defScope st).names []).lookup y.1).isSome = true) := fun ⟨n, v⟩ hy =>
    (S.par n (List.of_mem_zip hy).1).elim .inl fun q => .inr ⟨q, PySem.W.cellsFrom_some _ _ _ (.inl q)⟩
  refine codeAny_call_function hr.depth (KX _ _ lk) rfl S.co S.gen rfl (PySem.W.codeRec_of KX hcd) (hb _ _ _ _ (wpAny_newFunctionEnv_cells S.kind kinds fun env he s1 x => ?_))
  subst he
  obtain ⟨t, ht, hq⟩ := body cdv A outer s H E ds h Q' E' (hr.deeper _) (by show A.guards = some []; exact hg) kx hs
  have I := inv_start (CX := L2.CX P w) (P := P) (w := w) (K := K) (mg := mg) (base := base) (f := f) (cd := cdv) (E := E) (qual := qual) S hr.hd e0 (by rw [rd.length]; exact len _ _ _ _ hs) r x
  refine ⟨lim.keeps x.toInCall.keep, codeAny_func (wpAny_mono (ht.run [] s1 (start N vs) H { nx := fun _ H' => Q .non H', rt := Q } I ⟨_, h, _, Sl.start rd, .refl rh, hq, ?_⟩) (fun fl s' z => ?_) fun e s' z => z)⟩
  · exact ⟨fun σ' ρ' H' h' _ b c => kq .non .non H' h' rfl b c, fun v d H' h' a b c => kq v d H' h' a b c, fun _ _ _ _ _ _ z => z, fun _ _ _ _ _ _ z => z⟩
  · cases fl with
    | ret u => obtain ⟨v, σ', H', J, rv, q⟩ := z; exact ⟨v, H', J.os, J.bare, J.base, J.hok, rv, q⟩
    | next => obtain ⟨σ', H', J, q⟩ := z; exact ⟨.non, H', J.os, J.bare, J.base, J.hok, rfl, q⟩
    | brk => obtain ⟨_, _, _, q⟩ := z; exact q.elim
    | cont => obtain ⟨_, _, _, q⟩ := z; exact q.elim

section
variable {X : Cx} {B : Bs} {k : Nat} {f C : Addr} {fd : FuncData} {ps : List Str} {sp : SpD} {x m : Str} {p pos apos : Pos} {e o : Expr} {es : List Expr} {ta : CE} {t : CA}
/-- the wish of X's exceptions, by data, from B -/
def TkD (X : Cx) (B : Bs) (W : En → XD) : Prop := Takes X fun cls d σ H => ∃ ρ h fs, Sl X.K σ H ρ ∧ RB X.K B H h ∧ XR X.K H h d fs ∧ W ρ cls fs h
theorem TkD.body {P : Program} {w : World} {K : PySem.W.Frag} {mg : Str → Option Value} {base : Heap} {N : List Str} {qual : Str} {sc : Scope} {f : Addr} {cd : Value} {A : Around} {outer : List Env} {s : Shared} {H : Hp} {h : HD} {E : XK} {E' : XD} (kx : ∀ cls d H', lowX K (H, h) E' cls d H' → E cls d H') :
    TkD (bodyX P w K mg base N qual sc f cd A outer s H E) (H, h) fun _ => E' := by
  refine Takes.imp (takes_of (E := E) rfl rfl rfl rfl) fun c d σ H' z => ?_
  obtain ⟨ρ, h', fs, _, b, xr, q⟩ := z
  exact kx c d H' ⟨h', fs, b, xr, q⟩
theorem TkD.imp {W W' : En → XD} (t : TkD X B W) (h : ∀ ρ c fs h', W' ρ c fs h' → W ρ c fs h') : TkD X B W' := Takes.imp t fun c d σ H ⟨ρ, h', fs, a, b, c', q⟩ => ⟨ρ, h', fs, a, b, c', h _ _ _ _ q⟩
theorem TkD.none : TkD X B fun _ => noX := fun _ _ ⟨_, _, _, _, _, _, _, _, _, _, _, _, _, _, _, _, _, _, _, _, _, _, z⟩ => z.elim
/-- f(..): W: what is wanted of its exceptions -/
def cFn (sp : SpD) (W : En → XD) (t : CA) : CE := fun ρ h Q => t ρ h fun ds h1 => sp ds h1 Q (W ρ)
/-- the callee runs -/
theorem run_gf {pins : List (Addr × Obj)} {σ : L2.St} {H : Hp} {s : Shared} {Q : VK} {us : List Value} {vs : List V} {ρ : En} {ds : List D} {h : HD} {W : En → XD} {Q' : DK} (F : GF X.prog X.w X.K X.mg X.base k f fd ps sp) (hr : Room k X.A) (hg : X.A.guards = some []) (hb : Binds X.K fd ps []) (tk : TkD X B W)
    (I : Inv X pins σ H s) (r : Vals vs us) (sl : Sl X.K σ H ρ) (rb : RB X.K B H h) (rd : RDs X.K H vs ds) (hs : sp ds h Q' (W ρ)) (kq : ∀ v d H' h', RD X.K H' v d → Stp X.K H h H' h' → Q' d h' → Q v H') : wpAny (model X.prog X.w) X.A (call (.ref f) us) (EP X pins σ Q) X.xe s := by
  have hl : us.length = ps.length := by rw [← r.length, rd.length]; exact F.len _ _ _ _ hs
  have b := hb s us I.kIn (by rw [List.append_nil]; exact hl)
  rw [List.append_nil] at b
  refine wpAny_call (codeAny_mono (F.run X.A X.stack s H ⟨us, []⟩ us vs Q (lowX X.K (H, h) (W ρ)) hr hg I.env0 b r ⟨ds, h, Q', W ρ, rd, rb.rh, hs, kq, fun _ _ _ z => z⟩) fun r s' hq => ?_)
  cases r with
  | error er =>
    refine tk _ _ (XE.of_call I (fun cls d H' z => ?_) hq)
    obtain ⟨h', fs, st, xr, w⟩ := z
    exact ⟨ρ, h', fs, sl.mono st.ts, rb.trans st, xr, w⟩
  | ok fl =>
    cases fl with
    | ret u => exact I.after hq
    | next => exact False.elim hq
    | brk => exact False.elim hq
    | cont => exact False.elim hq
theorem qe_call {W : En → XD} (F : GF X.prog X.w X.K X.mg X.base k f fd ps sp) (hr : Room k X.A) (hgd : X.A.guards = some []) (hg : Gl X x) (hm : X.mg x = some (.ref f)) (hk : PySem.W.keepIn X.K (.ref f) = true) (hb : Binds X.K fd ps []) (tk : TkD X B W)
    (ha : QA X B (e :: es) t) (hdb : (x == ("__debug__" : Str)) = false := by decide) (he : starEach (e :: es) X.env = (false, eval e X.env) :: starEach es X.env := by rfl) (hpl : (backTo pos (starEach es X.env)).any (·.1) = false := by rfl) :
    QE X B (.Call (.Name x p) (e :: es) [] pos) (cFn sp W t) := by
  refine ⟨fun pins s σ H Q I w => ?_⟩
  obtain ⟨ρ, h, Q', sl, rb, ht, kq⟩ := w
  refine wpAny_Call_Name_kw (ld_glob I hg hm ?_ hdb)
  refine PySem.W.callWith_K (h₀ := X.base) I.ok.mod.kin hk (thn (ha.run pos pins s σ H (fun vs H1 => ∃ ds h1, RDs X.K H1 vs ds ∧ Stp X.K H h H1 h1 ∧ sp ds h1 Q' (W ρ)) I ⟨ρ, h, _, sl, rb, ht, fun vs ds H1 h1 a b c => ⟨ds, h1, a, b, c⟩⟩) fun us s1 z => ?_) he hpl
  obtain ⟨vs, H1, I1, r, ds, h1, rd, st, hs⟩ := z
  exact ⟨I1.kIn, run_gf F hr hgd hb tk I1 r (sl.mono st.ts) (rb.trans st) rd hs fun v d H' h' a b c => kq v d H' h' a (st.trans b) c⟩
theorem qe_call0 {W : En → XD} (F : GF X.prog X.w X.K X.mg X.base k f fd ps sp) (hr : Room k X.A) (hgd : X.A.guards = some []) (hg : Gl X x) (hm : X.mg x = some (.ref f)) (hk : PySem.W.keepIn X.K (.ref f) = true) (hb : Binds X.K fd ps []) (tk : TkD X B W)
    (hdb : (x == ("__debug__" : Str)) = false := by decide) : QE X B (.Call (.Name x p) [] [] pos) (cFn sp W cNil) := by
  refine ⟨fun pins s σ H Q I w => ?_⟩
  obtain ⟨ρ, h, Q', sl, rb, ht, kq⟩ := w
  refine wpAny_Call_Name_kw (ld_glob I hg hm ?_ hdb)
  exact PySem.W.callWith_K0 I.kIn hk (run_gf (us := []) F hr hgd hb tk I .nil sl rb (ds := []) rfl ht kq)

/-! ### instances -/
theorem rps_lookup {K : PySem.W.Frag} {H : Hp} {f : Str} {fs : List (Str × D)} {vs : List (Str × V)} {d : D} (r : RPs K H vs fs) (e : fs.lookup f = some d) : ∃ v, vs.lookup f = some v ∧ RD K H v d := (RPs.lookup (f := f) r).1 d e
/-- o.f -/
def cFld (K : PySem.W.Frag) (ta : CE) (f : Str) : CE := fun ρ h Q => ta ρ h fun x h1 => match x with
  | .ref a => ∃ C dx fs d, h1 a = some (.ins C dx fs) ∧ Cls K C ∧ NoAttr K C f ∧ fs.lookup f = some d ∧ Q d h1
  | _ => False
theorem qe_fld {fn : Str} (he : QE X B e ta) (hb : attributeBase e fn X.env (eval e X.env) = eval e X.env) : QE X B (.Attribute e fn pos) (cFld X.K ta fn) := PE.imp (pe_fld he hb) fun σ H Q w => by
  obtain ⟨ρ, h, Q', sl, rb, ht, kq⟩ := w
  refine ⟨ρ, h, _, sl, rb, ht, fun v d H1 h1 rv s1 q1 => ?_⟩
  cases d with
  | ref a =>
    cases (show v = V.ref a from rv)
    obtain ⟨C, dx, fs, d, e, cl, na, l, q⟩ := q1
    obtain ⟨vs, ea, r⟩ := s1.rh a _ e
    obtain ⟨w, l', rw'⟩ := rps_lookup r l
    exact ⟨a, C, dx, vs, w, rfl, ea, cl, na, l', kq w d H1 h1 rw' s1 q⟩
  | _ => exact q1.elim
def putD (f : Str) (d : D) : List (Str × D) → List (Str × D)
  | [] => [(f, d)]
  | (g, x) :: r => if g = f then (g, d) :: r else (g, x) :: putD f d r
theorem RPs.put {K : PySem.W.Frag} {H : Hp} {f : Str} {v : V} {d : D} (rv : RD K H v d) : ∀ {fs : List (Str × D)} {vs : List (Str × V)}, RPs K H vs fs → RPs K H (L2.putF f v vs) (putD f d fs)
  | [], _, r => by cases r; exact ⟨v, [], rfl, rv, rfl⟩
  | (g, x) :: fs, _, r => by
    obtain ⟨w, r', rfl, q, t⟩ := r
    unfold L2.putF putD
    by_cases e : g = f
    · rw [if_pos e, if_pos e]; exact ⟨v, r', rfl, rv, t⟩
    · rw [if_neg e, if_neg e]; exact ⟨w, _, rfl, q, RPs.put rv t⟩
theorem mut_ins {K : PySem.W.Frag} {H : Hp} {p C dx : Addr} {us vs : List (Str × V)} {fs : List (Str × D)} (hp : H p = some (.ins C dx us)) (r : RPs K H vs fs) : RO K (upd H p (.ins C dx vs)) p (.ins C dx fs) :=
  ⟨vs, upd_same, r.mono fun a u e i => by
    by_cases z : a = p
    · rw [z, hp] at e; cases e; cases i
    · rw [upd_ne z]; exact e⟩
/-- o.f = e -/
def cFldS (K : PySem.W.Frag) (ta tv : CE) (f : Str) : CS := fun Z ρ h => tv ρ h fun y h1 => ta ρ h1 fun x h2 => match x with
  | .ref a => ∃ C dx fs, h2 a = some (.ins C dx fs) ∧ Cls K C ∧ NoAttr K C f ∧ fs.length < 1000 ∧ Z.nx ρ (updD h2 a (.ins C dx (putD f y fs)))
  | _ => False
theorem qs_fld {fn : Str} {value : Expr} {tv : CE} {pos' : Pos} (ha : QE X B o ta) (hv : QE X B value tv) (hs : swapsWith value (some (.Attribute o fn pos')) pos.line X.env = pure false := by rfl) : QS X B (.Assign [.Attribute o fn pos'] value pos) (cFldS X.K ta tv fn) := PS.imp (ps_fld ha hv hs) fun E σ H w => by
  obtain ⟨ρ, h, D', sl, rb, ht, lk⟩ := w
  refine ⟨ρ, h, _, sl, rb, ht, fun y dy H1 h1 ry s1 q1 => ?_⟩
  refine ⟨ρ, h1, _, sl.mono s1.ts, rb.trans s1, q1, fun v d H2 h2 rv s2 q2 => ?_⟩
  cases d with
  | ref a =>
    cases (show v = V.ref a from rv)
    obtain ⟨C, dx, fs, e, cl, na, hl, q⟩ := q2
    obtain ⟨vs, ea, r⟩ := s2.rh a _ e
    have s3 := Stp.mut (o' := .ins C dx (L2.putF fn y vs)) s2.rh ea rfl (by rw [e]; simp) (mut_ins ea (r.put (ry.mono s2.ts)))
    exact ⟨a, C, dx, vs, rfl, ea, cl, na, by rw [r.length]; exact hl, lk.nx _ _ _ _ (sl.mono ((s1.ts.trans s2.ts).trans s3.ts)) ((s1.trans s2).trans s3) q⟩
  | _ => exact q2.elim
/-- o.f op= e -/
abbrev CIn := D → D → HD → DK → Prop
abbrev InD (X : Cx) (op : Operator) (r : CIn) : Prop := InOp X op (low2 X.K r)
def cFldA (K : PySem.W.Frag) (ta tv : CE) (r : CIn) (f : Str) : CS := fun Z ρ h => ta ρ h fun x h1 => match x with
  | .ref a => ∃ C dx fs d, h1 a = some (.ins C dx fs) ∧ Cls K C ∧ NoAttr K C f ∧ fs.lookup f = some d ∧ tv ρ h1 fun y h2 => r d y h2 fun z h3 => ∃ dx' fs', h3 a = some (.ins C dx' fs') ∧ fs'.length < 1000 ∧ Z.nx ρ (updD h3 a (.ins C dx' (putD f z fs')))
  | _ => False
theorem qs_fldaug {fn : Str} {value : Expr} {tv : CE} {tpos : Pos} {op : Operator} {r : CIn} (ha : QE X B o ta) (hv : QE X B value tv) (hop : InD X op r) : QS X B (.AugAssign (.Attribute o fn tpos) op value pos) (cFldA X.K ta tv r fn) := PS.imp (ps_fldaug ha hv hop) fun E σ H w => by
  obtain ⟨ρ, h, D', sl, rb, ht, lk⟩ := w
  refine ⟨ρ, h, _, sl, rb, ht, fun v d H1 h1 rv s1 q1 => ?_⟩
  cases d with
  | ref a =>
    cases (show v = V.ref a from rv)
    obtain ⟨C, dx, fs, d, e, cl, na, l, q⟩ := q1
    obtain ⟨vs, ea, rr⟩ := s1.rh a _ e
    obtain ⟨w0, l', rw0⟩ := rps_lookup rr l
    refine ⟨a, C, dx, vs, w0, rfl, ea, cl, na, l', ρ, h1, _, sl.mono s1.ts, rb.trans s1, q, fun y dy H2 h2 ry s2 q2 => ?_⟩
    refine ⟨d, dy, h2, _, rw0.mono s2.ts, ry, s2.rh, q2, fun z dz H3 h3 rz s3 q3 => ?_⟩
    obtain ⟨dx', fs', e3, hl, q⟩ := q3
    obtain ⟨vs3, ea3, r3⟩ := s3.rh a _ e3
    have s4 := Stp.mut (o' := .ins C dx' (L2.putF fn z vs3)) s3.rh ea3 rfl (by rw [e3]; simp) (mut_ins ea3 (r3.put rz))
    exact ⟨dx', vs3, ea3, by rw [r3.length]; exact hl, lk.nx _ _ _ _ (sl.mono (((s1.ts.trans s2.ts).trans s3.ts).trans s4.ts)) (((s1.trans s2).trans s3).trans s4) q⟩
  | _ => exact q1.elim
def cInI (g : Int → Int → Int) : CIn := fun x y h Q => match x, y with
  | .int i, .int j => Q (.int (g i j)) h
  | _, _ => False
theorem ind_add : InD X .Add (cInI fun i j => i + j) := by
  intro pins s σ H x y u v Q I rx ry w
  obtain ⟨dx, dy, h, Q', r1, r2, rh, hr, k⟩ := w
  cases dx with
  | int i =>
    cases dy with
    | int j => cases (show x = V.int i from r1); cases (show y = V.int j from r2); exact in_add pins s σ H _ _ u v Q I rx ry ⟨i, j, rfl, rfl, k _ (.int (i + j)) H h rfl (.refl rh) hr⟩
    | _ => exact hr.elim
  | _ => exact hr.elim
theorem ind_sub : InD X .Sub (cInI fun i j => i - j) := by
  intro pins s σ H x y u v Q I rx ry w
  obtain ⟨dx, dy, h, Q', r1, r2, rh, hr, k⟩ := w
  cases dx with
  | int i =>
    cases dy with
    | int j => cases (show x = V.int i from r1); cases (show y = V.int j from r2); exact in_sub pins s σ H _ _ u v Q I rx ry ⟨i, j, rfl, rfl, k _ (.int (i - j)) H h rfl (.refl rh) hr⟩
    | _ => exact hr.elim
  | _ => exact hr.elim
/-- o.m(..), m a def of the class at C -/
def cMeth (C : Addr) (m : Str) (sp : SpD) (W : En → XD) (ta : CE) (t : CA) : CE := fun ρ h Q => ta ρ h fun x h1 => match x with
  | .ref a => ∃ dx fs, h1 a = some (.ins C dx fs) ∧ fs.lookup m = none ∧ t ρ h1 fun ds h2 => sp (.ref a :: ds) h2 Q (W ρ)
  | _ => False
theorem qe_meth {W : En → XD} {pl : Sem Bool} (ho : QE X B o ta) (c : Cls X.K C) (hm : Meth X.K C m f) (F : GF X.prog X.w X.K X.mg X.base k f fd ps sp) (hr : Room k X.A) (hgd : X.A.guards = some []) (hb : Binds X.K fd ps []) (tk : TkD X B W) (ha : QA X B (e :: es) t)
    (hst : starEach (e :: es) X.env = (false, eval e X.env) :: starEach es X.env := by rfl) (hpl : (backTo pos (starEach es X.env)).any (·.1) = false := by rfl)
    (ht : eval (.Call (.Attribute o m apos) (e :: es) [] pos) X.env = (do let ov ← eval o X.env; standAt apos.atName; let (f, first) ← holding [ov] (getMethod ov m pl); callWith pos f first (backTo pos (starEach (e :: es) X.env)) (backToKw pos (keywordEach [] X.env))) := by rfl) :
    QE X B (.Call (.Attribute o m apos) (e :: es) [] pos) (cMeth C m sp W ta t) := by
  refine ⟨fun pins s σ H Q I w => ?_⟩
  obtain ⟨ρ, h, Q', sl, rb, hw, kq⟩ := w
  refine PySem.W.methodCall_KW (pl := pl) (thn (ho.run pins s σ H (fun v H1 => ∃ a dx fs h1, v = V.ref a ∧ Stp X.K H h H1 h1 ∧ h1 a = some (.ins C dx fs) ∧ fs.lookup m = none ∧ t ρ h1 fun ds h2 => sp (.ref a :: ds) h2 Q' (W ρ)) I ⟨ρ, h, _, sl, rb, hw, fun v d H1 h1 rv s1 q1 => ?_⟩) fun u s1 z => ?_) ht
  · cases d with
    | ref a => obtain ⟨dx, fs, e, l, q⟩ := q1; exact ⟨a, dx, fs, h1, rv, s1, e, l, q⟩
    | _ => exact q1.elim
  · obtain ⟨x, H1, I1, rx, a, dx, fs, h1, rfl, st, e1, l, q⟩ := z
    obtain rfl : u = Value.ref a := rx
    obtain ⟨vs, ea, r⟩ := st.rh a _ e1
    refine getmeth_ok I1 ea c hm ((RPs.lookup (f := m) r).2 l) ?_
    refine PySem.W.callWith_K (first := [.ref a]) (h₀ := X.base) I.ok.mod.kin hm.kp (thn (ha.run pos pins s1 σ H1 (fun ws H2 => ∃ ds h2, RDs X.K H2 ws ds ∧ Stp X.K H1 h1 H2 h2 ∧ sp (.ref a :: ds) h2 Q' (W ρ)) I1 ⟨ρ, h1, _, sl.mono st.ts, rb.trans st, q, fun vs ds H1 h1 a b c => ⟨ds, h1, a, b, c⟩⟩) fun us s2 z => ?_) hst hpl
    obtain ⟨ws, H2, I2, r2, ds, h2, rd, s2', hs⟩ := z
    exact ⟨I2.kIn, run_gf (us := .ref a :: us) (vs := .ref a :: ws) (ds := .ref a :: ds) F hr hgd hb tk I2 (.cons rfl r2) (sl.mono (st.ts.trans s2'.ts)) ((rb.trans st).trans s2') ⟨_, _, rfl, rfl, rd⟩ hs fun v d H' h' a b c => kq v d H' h' a ((st.trans s2').trans b) c⟩
theorem qe_meth0 {W : En → XD} {pl : Sem Bool} (ho : QE X B o ta) (c : Cls X.K C) (hm : Meth X.K C m f) (F : GF X.prog X.w X.K X.mg X.base k f fd ps sp) (hr : Room k X.A) (hgd : X.A.guards = some []) (hb : Binds X.K fd ps []) (tk : TkD X B W)
    (ht : eval (.Call (.Attribute o m apos) [] [] pos) X.env = (do let ov ← eval o X.env; standAt apos.atName; let (f, first) ← holding [ov] (getMethod ov m pl); callWith pos f first (backTo pos (starEach [] X.env)) (backToKw pos (keywordEach [] X.env))) := by rfl) :
    QE X B (.Call (.Attribute o m apos) [] [] pos) (cMeth C m sp W ta cNil) := by
  refine ⟨fun pins s σ H Q I w => ?_⟩
  obtain ⟨ρ, h, Q', sl, rb, hw, kq⟩ := w
  refine PySem.W.methodCall_KW (pl := pl) (thn (ho.run pins s σ H (fun v H1 => ∃ a dx fs h1, v = V.ref a ∧ Stp X.K H h H1 h1 ∧ h1 a = some (.ins C dx fs) ∧ fs.lookup m = none ∧ sp [.ref a] h1 Q' (W ρ)) I ⟨ρ, h, _, sl, rb, hw, fun v d H1 h1 rv s1 q1 => ?_⟩) fun u s1 z => ?_) ht
  · cases d with
    | ref a => obtain ⟨dx, fs, e, l, q⟩ := q1; exact ⟨a, dx, fs, h1, rv, s1, e, l, q⟩
    | _ => exact q1.elim
  · obtain ⟨x, H1, I1, rx, a, dx, fs, h1, rfl, st, e1, l, q⟩ := z
    obtain rfl : u = Value.ref a := rx
    obtain ⟨vs, ea, r⟩ := st.rh a _ e1
    refine getmeth_ok I1 ea c hm ((RPs.lookup (f := m) r).2 l) ?_
    exact PySem.W.callWith_K0 (first := [.ref a]) I1.kIn hm.kp (run_gf (us := [.ref a]) (vs := [.ref a]) (ds := [.ref a]) F hr hgd hb tk I1 (.cons rfl .nil) (sl.mono st.ts) (rb.trans st) ⟨_, _, rfl, rfl, rfl⟩ q fun v d H' h' a b c => kq v d H' h' a (st.trans b) c)
/-- C(..): a new instance, then __init__ -/
def cMake (C : Addr) (sp : SpD) (W : En → XD) (t : CA) : CE := fun ρ h Q => t ρ h fun ds h1 => ∀ x dx, h1 x = none → h1 dx = none → dx ≠ x →
  sp (.ref x :: ds) (updD h1 x (.ins C dx [])) (fun v h2 => v = .non ∧ Q (.ref x) h2) (W ρ)
theorem stp_made {K : PySem.W.Frag} {H : Hp} {h : HD} {x dx C : Addr} (rh : RH K H h) (nx : H x = none) (nd : H dx = none) (ne : dx ≠ x) : Stp K H h (upd (upd H dx (.own x)) x (.ins C dx [])) (updD h x (.ins C dx [])) := by
  have s1 : Stp K H h (upd H dx (.own x)) h := .hid rh nd (rh.none nd)
  have nx' : upd H dx (.own x) x = none := by rw [upd_ne (Ne.symm ne)]; exact nx
  exact s1.trans (.new s1.rh nx' ⟨[], upd_same, rfl⟩)
theorem run_mk {pins : List (Addr × Obj)} {σ : L2.St} {H : Hp} {s : Shared} {Q : VK} {us : List Value} {vs : List V} {ρ : En} {ds : List D} {h : HD} {W : En → XD} {Q' : DK} (M : Mk X.K C f) (F : GF X.prog X.w X.K X.mg X.base k f fd ps sp) (hr : Room (k + 1) X.A) (hgd : X.A.guards = some []) (hb : Binds X.K fd ps []) (tk : TkD X B W)
    (I : Inv X pins σ H s) (r : Vals vs us) (sl : Sl X.K σ H ρ) (rb : RB X.K B H h) (rd : RDs X.K H vs ds)
    (hs : ∀ x dx, h x = none → h dx = none → dx ≠ x → sp (.ref x :: ds) (updD h x (.ins C dx [])) (fun v h2 => v = .non ∧ Q' (.ref x) h2) (W ρ))
    (kq : ∀ v d H' h', RD X.K H' v d → Stp X.K H h H' h' → Q' d h' → Q v H') : wpAny (model X.prog X.w) X.A (call (.ref C) us) (EP X pins σ Q) X.xe s := by
  have nx : H (s.heap.objs.size + 1) = none := I.hok.fresh (Nat.le_succ _)
  have nd : H s.heap.objs.size = none := I.hok.fresh (Nat.le_refl _)
  have ne : s.heap.objs.size ≠ s.heap.objs.size + 1 := Nat.ne_of_lt (Nat.lt_succ_self _)
  have hq := hs (s.heap.objs.size + 1) s.heap.objs.size (rb.rh.none nx) (rb.rh.none nd) ne
  have I2 := Inv.made (C := C) I
  have st := stp_made (C := C) rb.rh nx nd ne
  have hl : (Value.ref (s.heap.objs.size + 1) :: us).length = ps.length := by
    rw [← F.len _ _ _ _ hq, List.length_cons, List.length_cons, ← r.length, rd.length]
  have b := hb _ (Value.ref (s.heap.objs.size + 1) :: us) I2.kIn (by rw [List.append_nil]; exact hl)
  rw [List.append_nil] at b
  refine wpAny_call (make_map (f := f) I.kIn M.makes M.init (beq_iff_eq.mp M.fn) (codeAny_mono (F.run _ X.stack _ _ ⟨Value.ref (s.heap.objs.size + 1) :: us, []⟩ (Value.ref (s.heap.objs.size + 1) :: us) (V.ref (s.heap.objs.size + 1) :: vs) (fun v H2 => v = .non ∧ Q (.ref (s.heap.objs.size + 1)) H2) (lowX X.K (_, _) (W ρ)) (hr.make C us [])
    ?_ (I2.env0.make C us []) b (.cons rfl r) ⟨.ref (s.heap.objs.size + 1) :: ds, _, _, W ρ, ⟨_, _, rfl, rfl, rd.mono st.ts⟩, st.rh, hq, fun v d H' h' a b c => ?_, fun _ _ _ z => z⟩) fun r s' hq' => ?_))
  · first
      | exact hgd
      | (show (X.A.under _).guards = _; simp [Around.under, Code.guards, Code.isGuard, pushGuards, guardIds, hgd])
  · obtain ⟨rfl, q⟩ := c
    exact ⟨a, kq _ (.ref (s.heap.objs.size + 1)) H' h' rfl (st.trans b) q⟩
  · cases r with
    | error er =>
      refine tk _ _ (XE.of_call I2 (fun cls d H' z => ?_) hq')
      obtain ⟨h', fs, s2, xr, w⟩ := z
      exact ⟨ρ, h', fs, sl.mono (st.ts.trans s2.ts), (rb.trans st).trans s2, xr, w⟩
    | ok fl =>
      cases fl with
      | ret u =>
        obtain ⟨v, H', I3, rv, ev, q3⟩ := I2.after hq'
        subst ev
        exact ⟨rv, ⟨V.ref (s.heap.objs.size + 1), H', I3, rfl, q3⟩⟩
      | next => exact False.elim hq'
      | brk => exact False.elim hq'
      | cont => exact False.elim hq'
theorem qe_make {W : En → XD} (M : Mk X.K C f) (F : GF X.prog X.w X.K X.mg X.base k f fd ps sp) (hr : Room (k + 1) X.A) (hgd : X.A.guards = some []) (hg : Gl X x) (hm : X.mg x = some (.ref C)) (hb : Binds X.K fd ps []) (tk : TkD X B W)
    (ha : QA X B (e :: es) t) (hdb : (x == ("__debug__" : Str)) = false := by decide) (he : starEach (e :: es) X.env = (false, eval e X.env) :: starEach es X.env := by rfl) (hpl : (backTo pos (starEach es X.env)).any (·.1) = false := by rfl) :
    QE X B (.Call (.Name x p) (e :: es) [] pos) (cMake C sp W t) := by
  refine ⟨fun pins s σ H Q I w => ?_⟩
  obtain ⟨ρ, h, Q', sl, rb, ht, kq⟩ := w
  refine wpAny_Call_Name_kw (ld_glob I hg hm ?_ hdb)
  refine PySem.W.callWith_K (h₀ := X.base) I.ok.mod.kin M.kp (thn (ha.run pos pins s σ H (fun vs H1 => ∃ ds h1, RDs X.K H1 vs ds ∧ Stp X.K H h H1 h1 ∧ ∀ x dx, h1 x = none → h1 dx = none → dx ≠ x → sp (.ref x :: ds) (updD h1 x (.ins C dx [])) (fun v h2 => v = .non ∧ Q' (.ref x) h2) (W ρ)) I ⟨ρ, h, _, sl, rb, ht, fun vs ds H1 h1 a b c => ⟨ds, h1, a, b, c⟩⟩) fun us s1 z => ?_) he hpl
  obtain ⟨vs, H1, I1, r, ds, h1, rd, st, hs⟩ := z
  exact ⟨I1.kIn, run_mk M F hr hgd hb tk I1 r (sl.mono st.ts) (rb.trans st) rd hs fun v d H' h' a b c => kq v d H' h' a (st.trans b) c⟩
theorem qe_make0 {W : En → XD} (M : Mk X.K C f) (F : GF X.prog X.w X.K X.mg X.base k f fd ps sp) (hr : Room (k + 1) X.A) (hgd : X.A.guards = some []) (hg : Gl X x) (hm : X.mg x = some (.ref C)) (hb : Binds X.K fd ps []) (tk : TkD X B W)
    (hdb : (x == ("__debug__" : Str)) = false := by decide) : QE X B (.Call (.Name x p) [] [] pos) (cMake C sp W cNil) := by
  refine ⟨fun pins s σ H Q I w => ?_⟩
  obtain ⟨ρ, h, Q', sl, rb, ht, kq⟩ := w
  refine wpAny_Call_Name_kw (ld_glob I hg hm ?_ hdb)
  exact PySem.W.callWith_K0 I.kIn M.kp (run_mk (us := []) M F hr hgd hb tk I .nil sl rb (ds := []) rfl ht kq)
end
end PD

-- PdF
set_option Elab.async false
set_option linter.all false
set_option maxRecDepth 100000
set_option maxHeartbeats 4000000
/-! PdF: dicts whose keys are tuples, by data. -/
namespace PD
open PySem PySem.Spec PyProof.Rows L2

mutual
theorem nk_is {X : Cx} {pins : List (Addr × Obj)} {σ : L2.St} {H : Hp} {s : Shared} (I : Inv X pins σ H s) : ∀ {d : D} {v : V} {u : Value}, nkOk d = true → RD X.K H v d → RelV v u → NestedIs s.heap (nk d) u
  | .non, _, _, _, r, q => by cases (show _ = V.non from r); cases (show _ = Value.none from q); exact .none
  | .bl b, _, _, _, r, q => by cases (show _ = V.bl b from r); cases (show _ = Value.bool b from q); exact .bool rfl
  | .int i, _, _, _, r, q => by cases (show _ = V.int i from r); obtain ⟨t, rfl⟩ := q; exact .int i t
  | .str x, _, _, _, r, q => by cases (show _ = V.str x from r); obtain ⟨t, rfl⟩ := q; exact .text x t
  | .tup ds, _, _, k, r, q => by
    obtain ⟨a, vs, rfl, qa, ra⟩ := r
    cases (show _ = Value.ref a from q)
    obtain ⟨its, rv, ⟨o, e, c, n, hd⟩, hz⟩ := I.tuple qa
    refine .tup e c hd ?_
    simpa using nks_is I (show nksOk ds = true from k) ra rv
theorem nks_is {X : Cx} {pins : List (Addr × Obj)} {σ : L2.St} {H : Hp} {s : Shared} (I : Inv X pins σ H s) : ∀ {ds : List D} {vs : List V} {us : List Value}, nksOk ds = true → RDs X.K H vs ds → Vals vs us → NestedAll s.heap (nks ds) us
  | [], _, _, _, r, q => by cases r; cases q; exact .nil
  | d :: ds, _, _, k, r, q => by
    obtain ⟨v, vs, rfl, r1, r2⟩ := r
    cases q with
    | cons q1 q2 =>
      have k' : nkOk d = true ∧ nksOk ds = true := by simpa [nksOk] using k
      exact .cons (nk_is I k'.1 r1 q1) (nks_is I k'.2 r2 q2)
end
theorem ky_is {X : Cx} {pins : List (Addr × Obj)} {σ : L2.St} {H : Hp} {s : Shared} (I : Inv X pins σ H s) {d : D} {b : Addr} (k : kyT d = true) (z : (nk d).depth ≤ 8) (r : RD X.K H (.ref b) d) : (nestedKind X.prog X.w).is s.heap (nk d) b := by
  cases d with
  | tup ds => exact ⟨nk_is I (d := .tup ds) k r rfl, z⟩
  | _ => cases k

/-! ### what is found, what is put -/
def keq (a b : D) : Bool := NestedKey.beq (nk a) (nk b)
def valD (kvs : List (D × D)) (k : D) : Option D := (kvs.find? fun p => keq p.1 k).map (·.2)
def putK' (kvs : List (D × D)) (k v : D) : List (D × D) := if (kvs.any fun p => keq p.1 k) = true then kvs.map (fun p => if keq p.1 k = true then (p.1, v) else p) else kvs ++ [(k, v)]
theorem keq_iff {a b : D} : keq a b = true ↔ nk a = nk b := ⟨NestedKey.eq_of_beq _ _, fun e => by unfold keq; rw [e]; exact NestedKey.beq_self _⟩
theorem keq_dec {a b : D} : keq a b = decide (nk a = nk b) := by
  by_cases e : nk a = nk b
  · rw [decide_eq_true e]; exact keq_iff.mpr e
  · rw [decide_eq_false e]
    cases q : keq a b with
    | false => rfl
    | true => exact absurd (keq_iff.mp q) e

section
variable {X : Cx} {pins : List (Addr × Obj)} {σ : L2.St} {H : Hp} {s : Shared} {a : Addr} {o : Obj} {xs : List KX} {kvs : List (D × D)} {ys : List (NestedKey × Addr × Value)}
theorem rel_is (I : Inv X pins σ H s) : ∀ {kvs : List (D × D)} {xs : List KX} {ys : List (NestedKey × Addr × Value)}, RKs X.K H xs kvs → Paired RelX xs ys → ∀ y ∈ ys, (nestedKind X.prog X.w).is s.heap y.1 y.2.1
  | [], _, _, r, p => by cases r; cases p; intro y hy; cases hy
  | d :: ds, _, _, r, p => by
    obtain ⟨b, v, xr, rfl, k, z, q1, q2, r'⟩ := r
    cases p with
    | cons h t =>
      intro y hy
      rcases List.mem_cons.mp hy with e | hy
      · rw [e, ← h.1, ← h.2.1]
        exact ky_is I k z q1
      · exact rel_is I r' t y hy
/-- what is true of it -/
theorem dictO_at (I : Inv X pins σ H s) (e : H a = some (dictO X.prog X.w a o xs)) (r : RKs X.K H xs kvs) :
    (a == sysModules) = false ∧ xs.length ≤ sizeLine ∧ s.heap.get? a = some o ∧ o.ExactDict ∧ ∃ ys es ep, Paired RelX xs ys ∧ o.data = .dict es ep ∧ es.toList = ys.map (entryOfKey (nestedKind X.prog X.w)) ∧ s.heap.DictOfH (nestedKind X.prog X.w) a ys := by
  obtain ⟨⟨g, h1, h2, h3, ys, es, ep, p, hd, he, hn⟩, _⟩ := I.hok a _ e
  exact ⟨h1, h2, g, h3, ys, es, ep, p, hd, he, o, es, ep, g, h3, hd, he, rel_is I r p, hn⟩
theorem rel_at : ∀ {kvs : List (D × D)} {xs : List KX} {ys : List (NestedKey × Addr × Value)} {k : D}, RKs X.K H xs kvs → Paired RelX xs ys →
    (∀ d, valD kvs k = some d → ∃ p v, atKey ys (nk k) = some p ∧ RelV v p.2 ∧ RD X.K H v d) ∧ (valD kvs k = none → atKey ys (nk k) = none)
  | [], _, _, k, r, p => by cases r; cases p; exact ⟨fun d e => (by cases e), fun _ => rfl⟩
  | d :: ds, _, _, k, r, p => by
    obtain ⟨b, v, xr, rfl, hk, z, q1, q2, r'⟩ := r
    cases p with
    | @cons _ y _ ys' h t =>
      have ih := rel_at (k := k) r' t
      have h1 : nk d.1 = y.1 := h.1
      by_cases e : nk d.1 = nk k
      · have e1 : keq d.1 k = true := keq_iff.mpr e
        have v1 : valD (d :: ds) k = some d.2 := by simp [valD, List.find?_cons, e1]
        have a1 : atKey (y :: ys') (nk k) = some y.2 := by simp [atKey, List.find?_cons, ← h1, e]
        refine ⟨fun d' q => ?_, fun q => by rw [v1] at q; cases q⟩
        rw [v1] at q
        cases q
        exact ⟨y.2, v, a1, h.2.2, q2⟩
      · have e1 : keq d.1 k = false := by rw [keq_dec]; exact decide_eq_false e
        have v1 : valD (d :: ds) k = valD ds k := by simp [valD, List.find?_cons, e1]
        have a1 : atKey (y :: ys') (nk k) = atKey ys' (nk k) := by
          have : ¬ y.1 = nk k := fun q => e (h1.trans q)
          simp [atKey, List.find?_cons, this]
        rw [v1, a1]
        exact ih
theorem rel_any : ∀ {kvs : List (D × D)} {xs : List KX} {ys : List (NestedKey × Addr × Value)} {k : D}, RKs X.K H xs kvs → Paired RelX xs ys → (kvs.any fun p => keq p.1 k) = (atKey ys (nk k)).isSome
  | [], _, _, k, r, p => by cases r; cases p; rfl
  | d :: ds, _, _, k, r, p => by
    obtain ⟨b, v, xr, rfl, hk, z, q1, q2, r'⟩ := r
    cases p with
    | @cons _ y _ ys' h t =>
      have ih := rel_any (k := k) r' t
      have h1 : nk d.1 = y.1 := h.1
      rw [List.any_cons, ih, keq_dec]
      by_cases e : nk d.1 = nk k
      · have a1 : atKey (y :: ys') (nk k) = some y.2 := by simp [atKey, List.find?_cons, ← h1, e]
        rw [a1, decide_eq_true e]; rfl
      · have a1 : atKey (y :: ys') (nk k) = atKey ys' (nk k) := by
          have : ¬ y.1 = nk k := fun q => e (h1.trans q)
          simp [atKey, List.find?_cons, this]
        rw [a1, decide_eq_false e]; rfl
theorem rel_map (k : D) {dv : D} {v : V} {u : Value} (rv : RD X.K H v dv) (ru : RelV v u) : ∀ {kvs : List (D × D)} {xs : List KX} {ys : List (NestedKey × Addr × Value)}, RKs X.K H xs kvs → Paired RelX xs ys →
    ∃ xs', xs'.length = xs.length ∧ RKs X.K H xs' (kvs.map fun p => if keq p.1 k = true then (p.1, dv) else p) ∧ Paired RelX xs' (ys.map (putAt (nk k) u))
  | [], _, _, r, p => by cases r; cases p; exact ⟨[], rfl, rfl, .nil⟩
  | d :: ds, _, _, r, p => by
    obtain ⟨b, w, xr, rfl, hk, z, q1, q2, r'⟩ := r
    cases p with
    | @cons _ y _ ys' h t =>
      obtain ⟨xs', hl, r2, p2⟩ := rel_map k rv ru r' t
      have h1 : nk d.1 = y.1 := h.1
      by_cases e : nk d.1 = nk k
      · refine ⟨(nk d.1, b, v) :: xs', by simp [hl], ?_, ?_⟩
        · rw [List.map_cons, if_pos (keq_iff.mpr e)]
          exact ⟨b, v, xs', rfl, hk, z, q1, rv, r2⟩
        · rw [List.map_cons]
          refine .cons ?_ p2
          unfold putAt
          rw [if_pos (h1.symm.trans e)]
          exact ⟨h.1, h.2.1, ru⟩
      · refine ⟨(nk d.1, b, w) :: xs', by simp [hl], ?_, ?_⟩
        · rw [List.map_cons, if_neg (fun q => e (keq_iff.mp q))]
          exact ⟨b, w, xs', rfl, hk, z, q1, q2, r2⟩
        · rw [List.map_cons]
          refine .cons ?_ p2
          unfold putAt
          rw [if_neg (fun q => e (h1.trans q))]
          exact h
theorem RKs.snoc {K : PySem.W.Frag} {H : Hp} {k dv : D} {b : Addr} {v : V} (hk : kyT k = true) (z : (nk k).depth ≤ 8) (r1 : RD K H (.ref b) k) (rv : RD K H v dv) : ∀ {kvs : List (D × D)} {xs : List KX}, RKs K H xs kvs → RKs K H (xs ++ [(nk k, b, v)]) (kvs ++ [(k, dv)])
  | [], _, r => by cases r; exact ⟨b, v, [], rfl, hk, z, r1, rv, rfl⟩
  | d :: ds, _, r => by
    obtain ⟨b', w, xr, rfl, hk', z', q1, q2, r'⟩ := r
    exact ⟨b', w, _, rfl, hk', z', q1, q2, RKs.snoc hk z r1 rv r'⟩
theorem rel_put {k dv : D} {b : Addr} {v : V} {u : Value} (hk : kyT k = true) (z : (nk k).depth ≤ 8) (r1 : RD X.K H (.ref b) k) (rv : RD X.K H v dv) (ru : RelV v u) (r : RKs X.K H xs kvs) (p : Paired RelX xs ys) :
    ∃ xs', xs'.length ≤ xs.length + 1 ∧ RKs X.K H xs' (putK' kvs k dv) ∧ Paired RelX xs' (storedH ys (nk k) b u) := by
  unfold putK' storedH
  rw [rel_any (k := k) r p]
  by_cases e : (atKey ys (nk k)).isSome = true
  · rw [if_pos e, if_pos e]
    obtain ⟨xs', hl, a1, a2⟩ := rel_map k rv ru r p
    exact ⟨xs', by omega, a1, a2⟩
  · rw [if_neg e, if_neg e]
    exact ⟨_, by simp, r.snoc hk z r1 rv, Paired.snoc p ⟨rfl, rfl, ru⟩⟩
theorem dictO_ok {P : Program} {w : World} {H : Hp} {h : Heap} (h1 : (a == sysModules) = false) (h2 : xs.length ≤ sizeLine) (p : Paired RelX xs ys) (d : h.DictOfH (nestedKind P w) a ys) : ∃ o, ObjOk P w H h a (dictO P w a o xs) := by
  obtain ⟨o, es, ep, g, h3, hd, he, _, hn⟩ := d
  exact ⟨o, ⟨g, h1, h2, h3, ys, es, ep, p, hd, he, hn⟩, ⟨o, g⟩, fun k1 k2 ⟨g1, r⟩ k => ⟨k _ g1, r⟩⟩
end

/-- a dict with tuples as keys, locked or not -/
def isDN (P : Program) (w : World) (h : HD) (a : Addr) (kvs : List (D × D)) : Prop := h a = some (.dN P w kvs) ∨ ∃ o xs, h a = some (.lkN P w o xs kvs)
theorem isDN.ro {P : Program} {w : World} {K : PySem.W.Frag} {H : Hp} {h : HD} {a : Addr} {kvs : List (D × D)} (rh : RH K H h) (e : isDN P w h a kvs) : ∃ o xs, H a = some (dictO P w a o xs) ∧ RKs K H xs kvs := by
  rcases e with e | ⟨o, xs, e⟩
  · exact rh a _ e
  · exact ⟨o, xs, rh a _ e⟩
theorem isDN.ne {P : Program} {w : World} {h : HD} {a : Addr} {kvs : List (D × D)} (e : isDN P w h a kvs) : h a ≠ none := by
  rcases e with e | ⟨o, xs, e⟩ <;> rw [e] <;> simp

section
variable {X : Cx} {B : Bs}
theorem room_n {A : Around} (hu : A.units + 9 < cLine) : (nestedKind X.prog X.w).room A.in1 := by
  show A.units + 1 + 8 < cLine
  omega
/-- {} -/
def cDNew (P : Program) (w : World) : CE := fun _ h Q => ∀ p, h p = none → Q (.ref p) (updD h p (.dN P w []))
theorem qe_dnewN {pos : Pos} : QE X B (.Dict [] [] pos) (cDNew X.prog X.w) := ⟨fun pins s σ H Q I w => by
  obtain ⟨ρ, h, Q', sl, rb, ht, k⟩ := w
  have np : H s.heap.objs.size = none := I.hok.fresh (Nat.le_refl _)
  obtain ⟨o, ok⟩ := dictO_ok (H := H) (xs := []) (P := X.prog) (w := X.w) (h := s.heap.push { cls := .type "dict", data := .dict #[] }) (beq_eq_false_iff_ne.mpr (Ne.symm (Nat.ne_of_lt I.big))) (Nat.zero_le _) Paired.nil (Heap.DictOfH.new s.heap)
  refine wpAny_Dict_empty ⟨.ref s.heap.objs.size, _, I.laid (a := s.heap.objs.size) (o := dictO X.prog X.w s.heap.objs.size o []) (t' := s.toks) (fun _ _ q => Heap.get?_push_of_some _ q) (Nat.le_refl _) ok, rfl, ?_⟩
  exact k _ (.ref s.heap.objs.size) _ _ rfl (.new (b := .dN X.prog X.w []) rb.rh np ⟨o, [], upd_same, rfl⟩) (ht _ (rb.rh.none np))⟩
def cDNewK : CE := fun _ h Q => ∀ p, h p = none → Q (.ref p) (updD h p (.dK []))
theorem qe_dnewK {pos : Pos} : QE X B (.Dict [] [] pos) cDNewK := PE.imp pe_dnewK fun σ H Q w => by
  obtain ⟨ρ, h, Q', sl, rb, ht, k⟩ := w
  exact fun p np => k _ (.ref p) _ _ rfl (.new (b := .dK []) rb.rh np ⟨[], upd_same, rfl⟩) (ht _ (rb.rh.none np))
/-- d[k] -/
def cDIx (P : Program) (w : World) : C2 := fun x y h Q => match x with
  | .ref a => ∃ kvs d, isDN P w h a kvs ∧ kyT y = true ∧ (nk y).depth ≤ 8 ∧ valD kvs y = some d ∧ Q d h
  | _ => False
theorem xd_dict (hu : X.A.units + 9 < cLine) : IxD X (cDIx X.prog X.w) := by
  intro value slice pins s σ H x y v u Q I rv ru w hs
  obtain ⟨dx, dy, h, Q', rx, ry, rh, hr, k⟩ := w
  cases dx with
  | ref a =>
    cases (show x = V.ref a from rx)
    obtain ⟨kvs, d, e, ky, kz, ev, q⟩ := hr
    obtain ⟨o, xs, ea, rk⟩ := e.ro rh
    obtain ⟨b, rfl⟩ : ∃ b, y = .ref b := by
      cases dy with
      | tup ds => obtain ⟨b, _, eb, _⟩ := ry; exact ⟨b, eb⟩
      | _ => cases ky
    obtain ⟨h1, h2, g, h3, ys, es, ep, p, hd, he, dh⟩ := dictO_at I ea rk
    obtain ⟨pp, vv, ap, rvv, rdd⟩ := (rel_at (k := dy) rk p).1 d ev
    cases (show v = Value.ref a from rv); cases (show u = Value.ref b from ru)
    exact subscriptTail_builtinR (x := pp.2) dh.typeIs F.slot_dict_getitem.lookup (wpAny_getItem_heap (Q := fun r s' => r = pp.2 ∧ EP X pins σ Q r s') (room_n (X := X) hu) (ky_is I ky kz ry) dh ap ⟨rfl, vv, H, I.tok _, rvv, k vv d H h rdd (.refl rh) q⟩) hs
  | _ => exact hr.elim
theorem ky_ref {K : PySem.W.Frag} {H : Hp} {y : V} {d : D} (r : RD K H y d) (k : kyT d = true) : ∃ b, y = .ref b := by
  cases d with
  | tup ds => obtain ⟨b, _, eb, _⟩ := r; exact ⟨b, eb⟩
  | _ => cases k
/-- d[k] = v -/
def cDPut (P : Program) (w : World) : CSet := fun o i v h Q => match o with
  | .ref a => ∃ kvs, isDN P w h a kvs ∧ kyT i = true ∧ (nk i).depth ≤ 8 ∧ kvs.length < sizeLine ∧ Q (updD h a (.dN P w (putK' kvs i v)))
  | _ => False
theorem dput_core {pins : List (Addr × Obj)} {σ : L2.St} {H : Hp} {s : Shared} {h : HD} {a b : Addr} {kvs : List (D × D)} {di dv : D} {v : V} {uv : Value} (I : Inv X pins σ H s) (rh : RH X.K H h) (e : isDN X.prog X.w h a kvs) (hz : kvs.length < sizeLine) :
    ∃ (o : Obj) (xs : List KX) (ys : List (NestedKey × Addr × Value)), H a = some (dictO X.prog X.w a o xs) ∧ RKs X.K H xs kvs ∧ Paired RelX xs ys ∧ (a == sysModules) = false ∧ ys.length ≤ sizeLine ∧ s.heap.DictOfH (nestedKind X.prog X.w) a ys := by
  obtain ⟨o, xs, ea, rk⟩ := e.ro rh
  obtain ⟨h1, h2, g, h3, ys, es, ep, p, hd, he, dh⟩ := dictO_at I ea rk
  exact ⟨o, xs, ys, ea, rk, p, h1, by rw [← Paired.length p]; exact h2, dh⟩
theorem dput_end {pins : List (Addr × Obj)} {σ : L2.St} {H : Hp} {s : Shared} {h : HD} {a b : Addr} {kvs : List (D × D)} {di dv : D} {v : V} {uv : Value} {o : Obj} {xs : List KX} {ys : List (NestedKey × Addr × Value)} {h' : Heap} {t' : Nat} (I : Inv X pins σ H s) (rh : RH X.K H h) (e : isDN X.prog X.w h a kvs) (hz : kvs.length < sizeLine)
    (ea : H a = some (dictO X.prog X.w a o xs)) (rk : RKs X.K H xs kvs) (p : Paired RelX xs ys) (h1 : (a == sysModules) = false) (ky : kyT di = true) (kz : (nk di).depth ≤ 8) (ri : RD X.K H (.ref b) di) (rv : RD X.K H v dv) (ru : RelV v uv)
    (dh' : h'.DictOfH (nestedKind X.prog X.w) a (storedH ys (nk di) b uv)) (hs : Heap.SameBut a s.heap h') :
    ∃ H', Inv X pins σ H' { s with heap := h', toks := t' } ∧ Stp X.K H h H' (updD h a (.dN X.prog X.w (putK' kvs di dv))) := by
  obtain ⟨xs', hl, rk', p'⟩ := rel_put ky kz ri rv ru rk p
  obtain ⟨o', ok⟩ := dictO_ok (H := upd H a (dictO X.prog X.w a o xs)) h1 (xs := xs') (by have := rk.length; omega) p' dh'
  have ok2 : ObjOk X.prog X.w (upd H a (dictO X.prog X.w a o' xs')) h' a (dictO X.prog X.w a o' xs') := ok
  refine ⟨_, d_write I (by rw [ea]; exact True.intro) hs ?_ ok2, ?_⟩
  · obtain ⟨q, _, _, hq, _⟩ := dh'; exact ⟨q, hq⟩
  · have kp : Kep H (upd H a (dictO X.prog X.w a o' xs')) := fun c u eu iu => by
      by_cases z : c = a
      · rw [z, ea] at eu; cases eu; cases iu
      · rw [upd_ne z]; exact eu
    exact Stp.mut rh ea rfl e.ne ⟨o', xs', upd_same, rk'.mono kp⟩
theorem sd_dict (hu : X.A.units + 9 < cLine) : SetD X (cDPut X.prog X.w) := by
  intro pins s σ H o i v ov iv uv Q I ro ri rv z
  obtain ⟨dk, di, dv, h, Q', r1, r2, r3, rh, q, k⟩ := z
  cases dk with
  | ref a =>
    obtain ⟨kvs, e, ky, kz, hz, q⟩ := q
    cases (show o = V.ref a from r1); cases (show ov = Value.ref a from ro)
    obtain ⟨b, rfl⟩ := ky_ref r2 ky
    cases (show iv = Value.ref b from ri)
    obtain ⟨o, xs, ys, ea, rk, p, h1, hy, dh⟩ := dput_core (b := b) (di := di) (dv := dv) (v := v) (uv := uv) I rh e hz
    refine wpAny_setItem_heap (hsz := hy) (room_n (X := X) hu) (ky_is I ky kz r2) dh fun h' dh' hs => ?_
    obtain ⟨H', I', st⟩ := dput_end (t' := s.toks + (nestedKind X.prog X.w).draws (nk di)) I rh e hz ea rk p h1 ky kz r2 r3 rv dh' hs
    exact ⟨H', I', k _ _ st q⟩
  | _ => exact q.elim
/-- d.get(k, x) -/
def cDGet2 (P : Program) (w : World) (td ty tx : CE) : CE := fun ρ h Q => td ρ h fun x h1 => match x with
  | .ref a => ∃ kvs, isDN P w h1 a kvs ∧ ty ρ h1 fun y h2 => tx ρ h2 fun z h3 => ∃ kvs', isDN P w h3 a kvs' ∧ kyT y = true ∧ (nk y).depth ≤ 8 ∧ Q ((valD kvs' y).getD z) h3
  | _ => False
theorem qe_dget2 {o e f : Expr} {td ty tx : CE} {apos cpos : Pos} (hu : X.A.units + 9 < cLine) (ho : QE X B o td) (he : QE X B e ty) (hf : QE X B f tx) (m : M2 X o "get" apos e f cpos) : QE X B (.Call (.Attribute o "get" apos) [e, f] [] cpos) (cDGet2 X.prog X.w td ty tx) := by
  refine ⟨fun pins s σ H Q I w => ?_⟩
  obtain ⟨ρ, h, Q', sl, rb, ht, k⟩ := w
  refine wpAny_Call_method m.base m.few m.line PySem.F.plainAttrs_dict PySem.F.slot_dict_get PySem.F.type_dict_get (thn (ho.run pins s σ H (fun v H1 => ∃ a kvs h1, v = V.ref a ∧ Stp X.K H h H1 h1 ∧ isDN X.prog X.w h1 a kvs ∧ ty ρ h1 fun y h2 => tx ρ h2 fun z h3 => ∃ kvs', isDN X.prog X.w h3 a kvs' ∧ kyT y = true ∧ (nk y).depth ≤ 8 ∧ Q' ((valD kvs' y).getD z) h3) I
    ⟨ρ, h, _, sl, rb, ht, fun v d H1 h1 rv s1 q1 => ?_⟩) fun u s1 z => ?_)
  · cases d with
    | ref a => obtain ⟨kvs, e, q⟩ := q1; exact ⟨a, kvs, h1, rv, s1, e, q⟩
    | _ => exact q1.elim
  obtain ⟨x, H1, I1, rx, a, kvs, h1, rfl, st, e, q1⟩ := z
  obtain rfl : u = Value.ref a := rx
  obtain ⟨o1, xs1, ea1, rk1⟩ := e.ro st.rh
  obtain ⟨z1, z2, g1, z3, ys1, es1, ep1, p1, hd1, he1, dh1⟩ := dictO_at I1 ea1 rk1
  refine ⟨dh1.typeIs, fun b q => ?_, ?_⟩
  · cases q; exact ⟨o1, g1, z3.2.1⟩
  rw [m.trees]
  refine Calls.callWith_builtin rfl (Calls.evalArgs_plain (Calls.spliced_cons (thn (he.run pins s1 σ H1 (fun v H2 => ∃ d h2, RD X.K H2 v d ∧ Stp X.K H1 h1 H2 h2 ∧ tx ρ h2 fun z h3 => ∃ kvs', isDN X.prog X.w h3 a kvs' ∧ kyT d = true ∧ (nk d).depth ≤ 8 ∧ Q' ((valD kvs' d).getD z) h3) I1
    ⟨ρ, h1, _, sl.mono st.ts, rb.trans st, q1, fun v d H2 h2 rv s2 q2 => ⟨d, h2, rv, s2, q2⟩⟩) fun iv s2 ⟨y, H2, I2, ry, dy, h2, rdy, st2, q2⟩ =>
    Calls.spliced_cons (thn (hf.run pins s2 σ H2 (fun v H3 => ∃ d h3, RD X.K H3 v d ∧ Stp X.K H2 h2 H3 h3 ∧ ∃ kvs', isDN X.prog X.w h3 a kvs' ∧ kyT dy = true ∧ (nk dy).depth ≤ 8 ∧ Q' ((valD kvs' dy).getD d) h3) I2
    ⟨ρ, h2, _, sl.mono (st.ts.trans st2.ts), (rb.trans st).trans st2, q2, fun v d H3 h3 rv s3 q3 => ⟨d, h3, rv, s3, q3⟩⟩) fun fv s3 ⟨z, H3, I3, rz, dz, h3, rdz, st3, kvs', e', ky, kz, q3⟩ => Calls.spliced_nil ?_))))
  obtain ⟨b, rfl⟩ := ky_ref rdy ky
  cases (show iv = Value.ref b from ry)
  obtain ⟨o2, xs2, ea2, rk2⟩ := e'.ro st3.rh
  obtain ⟨y1, y2, g2, y3, ys2, es2, ep2, p2, hd2, he2, dh2⟩ := dictO_at I3 ea2 rk2
  have rdy3 := rdy.mono st3.ts
  have st13 := (st.trans st2).trans st3
  refine call_meetsIn PySem.F.slot_dict_get dh2.typeIs PySem.F.entry_dict_get (PySem.F.args_dict_get_3 _ _ _) (meetsH_dict_get_default (nestedKind X.prog X.w) a b y1 fv) ⟨room_n (X := X) hu, nk dy, ys2, ky_is I3 ky kz rdy3, dh2, ?_⟩
  cases ev : valD kvs' dy with
  | some d =>
    obtain ⟨pp, vv, ap, rvv, rdd⟩ := (rel_at (k := dy) rk2 p2).1 d ev
    rw [ev] at q3
    exact ⟨vv, H3, I3.tok _, by rw [ap]; exact rvv, k vv d H3 h3 rdd st13 q3⟩
  | none =>
    have ap := (rel_at (k := dy) rk2 p2).2 ev
    rw [ev] at q3
    exact ⟨z, H3, I3.tok _, by rw [ap]; exact rz, k z dz H3 h3 rdz st13 q3⟩
end
end PD

-- PdG
set_option Elab.async false
set_option linter.all false
set_option maxRecDepth 100000
set_option maxHeartbeats 4000000
/-! PdG: walks of dicts, dict comprehensions, by data. -/
namespace PD
open PySem PySem.Spec PyProof.Rows L2

/-- the keys of the dict at d, while it stays -/
def Itkn (P : Program) (w : World) (d : Addr) (o : Obj) (xs : List KX) : It :=
  ⟨fun i H => H d = some (dictO P w d o xs) ∧ i < xs.length, fun i H x H' => H' = H ∧ ∃ p : KX, xs[i]? = some p ∧ x = .ref p.2.1, fun i H => H d = some (dictO P w d o xs) ∧ xs.length ≤ i⟩
theorem dictO_raw {X : Cx} {pins : List (Addr × Obj)} {σ : L2.St} {H : Hp} {s : Shared} {d : Addr} {o : Obj} {xs : List KX} (I : Inv X pins σ H s) (e : H d = some (dictO X.prog X.w d o xs)) :
    (d == sysModules) = false ∧ s.heap.get? d = some o ∧ o.ExactDict ∧ ∃ (es : Array DictEntry) (ep : Nat), o.data = .dict es ep ∧ es.size = xs.length ∧ ∀ (i : Nat) (p : KX), xs[i]? = some p → ∃ en : DictEntry, es[i]? = some en ∧ en.key = .ref p.2.1 := by
  obtain ⟨⟨g, h1, h2, h3, ys, es, ep, p, hd, he, hn⟩, _⟩ := I.hok d _ e
  refine ⟨h1, g, h3, es, ep, hd, ?_, fun i q hq => ?_⟩
  · rw [size_of_entries he]; exact (Paired.length p).symm
  · obtain ⟨y, hy, e1⟩ := paired_get p hq
    have e2 := entry_at he i
    rw [hy] at e2
    refine ⟨_, e2, ?_⟩
    show Value.ref y.2.1 = _
    rw [e1.2.1]
theorem turn_keysN {P : Program} {w : World} {K : PySem.W.Frag} {tg : Expr} {d : Addr} {o : Obj} {es : Array DictEntry} {ep : Nat} {xs : List KX} (it : Addr) (hod : o.data = .dict es ep) : Turn P w K tg (Itkn P w d o xs) [it] it (fun i h => h.IsKeyIter it d i xs.length ep) where
  mem := by simp
  obj := fun i h st b hb => by
    have e : b = it := by simpa using hb
    subst e
    obtain ⟨oi, e, c, dd⟩ := st
    exact ⟨oi, e, fun v z => by rw [dd] at z; cases z⟩
  keep := fun i h h' st k => st.at fun oi e => k it (by simp) oi e
  item := by
    intro X hP hw hK hc i pins s σ H E I hf st hg
    subst hP hw hK
    obtain ⟨hd, hi⟩ := hg
    obtain ⟨f0, f1, f2, f3, f4, f5⟩ := hf it (by simp)
    obtain ⟨hs, hgd, hx, es', ep', hdt, hsz, ent⟩ := dictO_raw I hd
    obtain ⟨rfl, rfl⟩ := dict_ep hod hdt
    obtain ⟨p, hp⟩ : ∃ p, xs[i]? = some p := ⟨xs[i], List.getElem?_eq_getElem hi⟩
    obtain ⟨en, hen, hkey⟩ := ent i p hp
    refine next_key_item st hgd hdt hsz hen fun h' st' sb => ?_
    have I1 : Inv X pins σ H { s with heap := h' } := I.turned (t' := s.toks) (fun b ob hb e => (sb.2 b hb).trans e) f0 f1 f3 f4 f5
    obtain ⟨oi, e, c, dd⟩ := id st'
    exact ⟨en.key, rfl, go_of (s := { s with heap := h' }) e c dd (by decide) ⟨.ref p.2.1, H, I1, hkey, ⟨rfl, p, hp, rfl⟩, st', fun b hb => (hf b hb).1⟩⟩
  done := by
    intro X hP hw hK hc i pins s σ H E I hf st hg
    subst hP hw hK
    obtain ⟨hd, hi⟩ := hg
    obtain ⟨f0, f1, f2, f3, f4, f5⟩ := hf it (by simp)
    obtain ⟨hs, hgd, hx, es', ep', hdt, hsz, ent⟩ := dictO_raw I hd
    obtain ⟨rfl, rfl⟩ := dict_ep hod hdt
    exact next_key_end (I.ok.hd hc) st hgd hdt hsz hi fun h' eb => ⟨rfl, I.turned (t' := s.toks) (fun b ob hb e => eb b ob hb e) f0 f1 f3 f4 f5⟩
  self := fun A i s Q E st h => by
    refine wpAny_pyIter_slot st.typeIs F.slot_dict_keyiterator_iter (wpAny_call_entry F.slot_dict_keyiterator_iter st.typeIs F.entry_dict_keyiterator_iter ?_ (F.args_dict_keyiterator_iter_1 _))
    show wpAny _ _ (ret (.ref it)) _ _ s
    exact wpAny_pure ⟨_, rfl, "dict_keyiterator", _, st.typeIs, F.slot_dict_keyiterator_next.lookup, h⟩
def iKeysN (P : Program) (w : World) (td : TE) : TI := fun σ H R => td σ H fun x H1 => ∃ d o xs, x = .ref d ∧ H1 d = some (dictO P w d o xs) ∧ R (Itkn P w d o xs) H1
section
variable {X : Cx} {B : Bs}
theorem pi_keysN {tg e : Expr} {td : TE} (he : PE X e td) : PI X tg e (iKeysN X.prog X.w td) := by
  refine ⟨fun pins s σ H R I h => ?_⟩
  refine thn (he.run pins s σ H _ I h) fun u s1 ⟨x, H1, I1, rx, d, o, xs, ex, hd, q⟩ => ?_
  subst ex
  obtain rfl : u = Value.ref d := rx
  obtain ⟨hs, hgd, hx, es, ep, hdt, hsz, ent⟩ := dictO_raw I1 hd
  refine iter_keys hs hgd hx hdt (pi_one (tk := s1.toks) I1 _ (turn_keysN _ hdt) ⟨_, Heap.get?_push_size _ rfl, rfl, ?_⟩ q)
  rw [hsz] <;> rfl
theorem RKs.get {K : PySem.W.Frag} {H : Hp} : ∀ {ds : List (D × D)} {xs : List KX} {i : Nat} {d : D × D}, RKs K H xs ds → ds[i]? = some d → ∃ p : KX, xs[i]? = some p ∧ RD K H (.ref p.2.1) d.1
  | [], _, _, _, _, e => by simp at e
  | d :: ds, _, 0, _, h, e => by
    obtain ⟨b, v, xr, rfl, _, _, q, _, _⟩ := h
    cases e
    exact ⟨_, rfl, q⟩
  | d :: ds, _, i + 1, _, h, e => by
    obtain ⟨b, v, xr, rfl, _, _, _, _, s⟩ := h
    exact RKs.get (i := i) s (by simpa using e)
theorem is_keysN {K : PySem.W.Frag} {H0 : Hp} {P : Program} {w : World} {a : Addr} {o : Obj} {xs : List KX} {kvs : List (D × D)} : ISok K H0 ⟨kvs.map (·.1), fun h => h a = some (.lkN P w o xs kvs)⟩ (Itkn P w a o xs) := fun i H h kp rh hok => by
  obtain ⟨ea, rk⟩ := rh a _ hok
  have hl := rk.length
  refine ⟨fun e => ⟨ea, by rw [hl, ← e]; simp⟩, fun d e => ?_⟩
  rw [List.getElem?_map] at e
  obtain ⟨p, e1, e2⟩ := Option.map_eq_some_iff.mp e
  obtain ⟨q, e3, r⟩ := rk.get e1
  refine ⟨⟨ea, (List.getElem?_eq_some_iff.mp e3).1⟩, fun x H' y => ?_⟩
  obtain ⟨rfl, p', ep, rfl⟩ := y
  rw [e3] at ep
  cases ep
  rw [← e2]
  exact ⟨r, .refl rh⟩
/-- a dict of tuples as keys is walked: its keys; as long as that lasts, it is locked -/
def cKeys (P : Program) (w : World) (t : CE) : CI := fun ρ h Q => t ρ h fun x h1 => match x with
  | .ref a => ∃ kvs, isDN P w h1 a kvs ∧ ∀ o xs, Q ⟨kvs.map (·.1), fun h => h a = some (.lkN P w o xs kvs)⟩ (updD h1 a (.lkN P w o xs kvs))
  | _ => False
theorem stp_lk {K : PySem.W.Frag} {H : Hp} {h : HD} {P : Program} {w : World} {a : Addr} {o : Obj} {xs : List KX} {kvs : List (D × D)} (rh : RH K H h) (e : h a ≠ none) (ea : H a = some (dictO P w a o xs)) (rk : RKs K H xs kvs) : Stp K H h H (updD h a (.lkN P w o xs kvs)) :=
  ⟨.refl _, fun _ q => q, fun x q => by
    by_cases z : x = a
    · exact .inl (by rw [z]; exact e)
    · rw [updD_ne z] at q; exact .inl q, fun x u q => by
    by_cases z : x = a
    · subst z
      rw [updD_same] at q
      cases q
      exact ⟨ea, rk⟩
    · rw [updD_ne z] at q; exact rh x u q, fun _ _ q _ _ => q⟩
theorem qi_keys {tg e : Expr} {t : CE} (he : QE X B e t) : QI X B tg e (cKeys X.prog X.w t) := PI.imp (pi_keysN he) fun σ H R w => by
  obtain ⟨ρ, h, Q', sl, rb, ht, k⟩ := w
  refine ⟨ρ, h, _, sl, rb, ht, fun v d H1 h1 rv s1 q1 => ?_⟩
  cases d with
  | ref a =>
    cases (show v = V.ref a from rv)
    obtain ⟨kvs, e, q⟩ := q1
    obtain ⟨o, xs, ea, rk⟩ := e.ro s1.rh
    exact ⟨a, o, xs, rfl, ea, k _ _ H1 _ is_keysN (s1.trans (stp_lk s1.rh e.ne ea rk)) (q o xs)⟩
  | _ => exact q1.elim
/-- len(d) -/
theorem len_dN {pins : List (Addr × Obj)} {σ : L2.St} {H : Hp} {s : Shared} {h : HD} {a : Addr} {kvs : List (D × D)} {Q : Value → Shared → Prop} (I : Inv X pins σ H s) (rh : RH X.K H h) (e : isDN X.prog X.w h a kvs) (q : Q (.int kvs.length (s.toks + 1)) { s with toks := s.toks + 1 + 1 }) :
    wpAny (model X.prog X.w) X.A (call (.builtin "len") [.ref a]) Q X.xe s := by
  obtain ⟨o, xs, ea, rk⟩ := e.ro rh
  obtain ⟨h1, h2, g, h3, ys, es, ep, p, hd, he, dh⟩ := dictO_at I ea rk
  have hl : ys.length = kvs.length := by rw [← Paired.length p, rk.length]
  have hz := rk.length
  have hs := sizeLine_eq
  have dk : s.heap.DictKeyed (nestedKind X.prog X.w) a (pairsH ys) := ⟨ys, dh, rfl⟩
  have hl2 : (pairsH ys).length = kvs.length := by rw [pairsH_length, hl]
  refine PyProof.Rows.call_len_slot (n := kvs.length) dk.typeIs F.slot_dict_len (fun Q' hq => len_keyed h1 dk (by rw [hl2]; exact hq)) (by omega) (by omega) q
/-- len: sequences, texts, dicts -/
def cLenA (P : Program) (w : World) : CL := fun ds h Q => cLen ds h Q ∨ ∃ a kvs, ds = [.ref a] ∧ isDN P w h a kvs ∧ Q (.int kvs.length) h
theorem cd_lenA : CallD X (.builtin "len") (cLenA X.prog X.w) := by
  intro pins s σ H xs us Q I rv w
  obtain ⟨ds, h, Q', rx, rh, hr, k⟩ := w
  rcases hr with hr | ⟨a, kvs, rfl, e, q⟩
  · exact cd_len pins s σ H xs us Q I rv ⟨ds, h, Q', rx, rh, hr, k⟩
  · obtain ⟨v, rfl, r⟩ := rx.one
    cases (show v = V.ref a from r)
    obtain rfl := Vals.ref1 rv
    exact len_dN I rh e ⟨.int kvs.length, H, I.tok _, ⟨_, rfl⟩, k (.int kvs.length) (.int kvs.length) H h rfl (.refl rh) q⟩
def cIxA (P : Program) (w : World) : C2 := fun x y h Q => cIx x y h Q ∨ cDIx P w x y h Q
theorem xd_any (hu : X.A.units + 9 < cLine) : IxD X (cIxA X.prog X.w) := by
  intro value slice pins s σ H x y v u Q I rv ru w hs
  obtain ⟨dx, dy, h, Q', rx, ry, rh, hr, k⟩ := w
  rcases hr with hr | hr
  · exact xd_ix value slice pins s σ H x y v u Q I rv ru ⟨dx, dy, h, Q', rx, ry, rh, hr, k⟩ hs
  · exact xd_dict hu value slice pins s σ H x y v u Q I rv ru ⟨dx, dy, h, Q', rx, ry, rh, hr, k⟩ hs
def cSetA (P : Program) (w : World) : CSet := fun o i v h Q => cSetL o i v h Q ∨ cDPut P w o i v h Q
theorem sd_any (hu : X.A.units + 9 < cLine) : SetD X (cSetA X.prog X.w) := by
  intro pins s σ H o i v ov iv uv Q I ro ri rv z
  obtain ⟨dk, di, dv, h, Q', r1, r2, r3, rh, q, k⟩ := z
  rcases q with q | q
  · exact sd_list pins s σ H o i v ov iv uv Q I ro ri rv ⟨dk, di, dv, h, Q', r1, r2, r3, rh, q, k⟩
  · exact sd_dict hu pins s σ H o i v ov iv uv Q I ro ri rv ⟨dk, di, dv, h, Q', r1, r2, r3, rh, q, k⟩
end
end PD

-- PdH
set_option Elab.async false
set_option linter.all false
set_option maxRecDepth 100000
set_option maxHeartbeats 4000000
/-! PdH: dict comprehensions whose keys are tuples (the walk follows HandS.DictComp, with another object). -/
namespace PD
open PySem PySem.Spec PyProof.Rows L2
section
variable {X : Cx}
def tDcN (P : Program) (w : World) (K : PySem.W.Frag) (wi : TI) (g : TG) (tt : TT) (tk tv : TE) (vs : List Nat) : TE := fun σ H Q => wi σ H fun J H1 => ∀ L o0, H1 L = none → ∃ W : Nat → Nat → Hp → Prop, (∃ m, W 0 m (upd H1 L (dictO P w L o0 []))) ∧ ∀ i m H, W i m H →
  (J.stop i H ∧ Q (.ref L) H) ∨ (J.go i H ∧ ∃ Nx : Hp → Prop, (∀ H', Nx H' → ∃ m', m' < m ∧ W (i + 1) m' H') ∧ ∀ x H', J.yld i H x H' → g x (wipe σ vs) H' fun σ2 H2 => wipe σ2 vs = wipe σ vs ∧ tt σ2 H2 fun b H3 =>
    if b = true then tk σ2 H3 fun y H4 => tv σ2 H4 fun z H5 => ∃ (h : HD) (kvs : List (D × D)) (di dv : D), RH K H5 h ∧ isDN P w h L kvs ∧ kvs.length < sizeLine ∧ RD K H5 y di ∧ kyT di = true ∧ (nk di).depth ≤ 8 ∧ RD K H5 z dv ∧ ∀ H', Stp K H5 h H' (updD h L (.dN P w (putK' kvs di dv))) → Nx H' else Nx H3)
theorem dcN_core {pins : List (Addr × Obj)} {s : Shared} {σ : L2.St} {H : Hp} {Q : VK} {kx vx tg iter : Expr} {ifs : List Expr} {scope : Scope} {own : List (Str × Nat)} {pos pos' : Pos} {wi : TI} {g : TG} {tt : TT} {tk tv : TE} {use : Option (Value → Sem Unit)} {Qf : Value → Shared → Prop}
    (hc : X.calm = true) (hN : X.N.Nodup) (I : Inv X pins σ H s) (hi : PI X tg iter wi) (ok : BlkOk X.N X.env.scope scope own)
    (hg : ∀ (s : Shared) (H : Hp) (C : Addr) (cl : List (Str × Addr)) (fp : List Addr), PG (X.blk s H scope (compEnvC scope cl C X.env) fp) tg g) (ht : ∀ (s : Shared) (H : Hp) (C : Addr) (cl : List (Str × Addr)) (fp : List Addr), PTs (X.blk s H scope (compEnvC scope cl C X.env) fp) ifs tt)
    (hk : ∀ (s : Shared) (H : Hp) (C : Addr) (cl : List (Str × Addr)) (fp : List Addr), PE (X.blk s H scope (compEnvC scope cl C X.env) fp) kx tk)
    (he : ∀ (s : Shared) (H : Hp) (C : Addr) (cl : List (Str × Addr)) (fp : List Addr), PE (X.blk s H scope (compEnvC scope cl C X.env) fp) vx tv) (hs : ∀ x, foldedSetIterable iter X.env x = pure x)
    (hu : X.A.units + 8 < cLine) (h : tDcN X.prog X.w X.K wi g tt tk tv (own.map (·.2)) σ H Q)
    (hRR : ∀ D C s' m H', Inv X pins σ H' s' → Q (.ref D) H' → s'.heap.Ns C m → FpOk X pins H' C → compPost (model X.prog X.w) X.A X.xe use Qf (.ref D) C (.ok .next) s') :
    wpAny (model X.prog X.w) X.A (comprehension (.DictComp kx vx [⟨tg, iter, ifs, 0⟩] scope pos) scope X.env pos' newDict false (eval iter X.env) use) Qf X.xe s := by
  have hfree : ∀ y ∈ scope.names, y.2 = .free → ∃ c, X.env.cells.lookup y.1 = some c := fun y hy e => by
    rcases ok.free y hy e with k | k
    · exact I.ok.has _ (.inl k)
    · exact I.ok.has _ (.inr k)
  refine wpAny_comprehension_free (use := use) rfl hs (closure_ok hfree) ok.kind (fun y hy e => by rw [ok.uniq y hy, e])
    (thn (hi.run pins s σ H _ I h) fun xv s1 hx => thn hx fun itv s2 h2 => ?_)
  obtain ⟨it, fp, tn, J, H2, e, I2, T, st2, f2, q⟩ := h2
  subst e
  refine wpAny_newObj_type (newEnv_comp ?_)
  generalize hD : s2.heap.objs.size = D
  have hDn : H2 D = none := I2.hok.fresh (Nat.le_of_eq hD)
  obtain ⟨o0, ok0⟩ := dictO_ok (H := upd H2 D (HO.lst [])) (xs := []) (P := X.prog) (w := X.w) (h := s2.heap.push { cls := .type "dict", data := .dict #[] }) (beq_eq_false_iff_ne.mpr (Ne.symm (Nat.ne_of_lt I2.big))) (Nat.zero_le _) Paired.nil (Heap.DictOfH.new s2.heap)
  obtain ⟨W, ⟨m0, w0⟩, turn⟩ := q D o0 hDn
  -- the new list
  generalize hs3 : ({ s2 with heap := s2.heap.push { cls := .type "dict", data := .dict #[] } } : Shared) = s3
  have I3 : Inv X pins σ (upd H2 D (dictO X.prog X.w D o0 [])) s3 := by
    rw [← hs3]
    refine I2.laid (t' := s2.toks) (fun b o e => Heap.get?_push_of_some _ e) (Nat.le_of_eq hD) ?_
    rw [← hD]
    exact ok0
  have h3 : s3.heap = s2.heap.push { cls := .type "dict", data := .dict #[] } := by rw [← hs3]
  have sz : ∀ b ∈ fp, b < s2.heap.objs.size := fun b hb => by
    obtain ⟨o, e, _⟩ := T.obj _ _ st2 b hb
    exact Heap.lt_size e
  have f3 : ∀ b ∈ fp, FpOk X pins (upd H2 D (dictO X.prog X.w D o0 [])) b ∧ b < s3.heap.objs.size := fun b hb => by
    have hlt := sz b hb
    refine ⟨⟨?_, (f2 b hb).2⟩, by rw [h3, Heap.size_push]; exact Nat.lt_succ_of_lt hlt⟩
    rw [upd_ne (by rw [← hD]; exact Nat.ne_of_lt hlt)]
    exact (f2 b hb).1
  have st3 : tn 0 s3.heap := T.keep _ _ _ st2 fun b _ o e => by rw [h3]; exact Heap.get?_push_of_some _ e
  have I4 := block_start I3 ok hN f3
  have pg := hg s3 (upd H2 D (dictO X.prog X.w D o0 [])) s3.heap.objs.size (cellsFrom (s3.heap.objs.size + 1) scope.names (cloFrom X.env.cells scope.names [])) fp
  have pt := ht s3 (upd H2 D (dictO X.prog X.w D o0 [])) s3.heap.objs.size (cellsFrom (s3.heap.objs.size + 1) scope.names (cloFrom X.env.cells scope.names [])) fp
  have pk := hk s3 (upd H2 D (dictO X.prog X.w D o0 [])) s3.heap.objs.size (cellsFrom (s3.heap.objs.size + 1) scope.names (cloFrom X.env.cells scope.names [])) fp
  have pe := he s3 (upd H2 D (dictO X.prog X.w D o0 [])) s3.heap.objs.size (cellsFrom (s3.heap.objs.size + 1) scope.names (cloFrom X.env.cells scope.names [])) fp
  show codeAny _ _ (.compStart (.DictComp kx vx [⟨tg, iter, ifs, 0⟩] scope pos) 0 (.ref it) (.ref D) (compEnvC scope (cellsFrom (s3.heap.objs.size + 1) scope.names (cloFrom X.env.cells scope.names [])) s3.heap.objs.size X.env)) (compPost (model X.prog X.w) X.A X.xe use Qf (.ref D) s3.heap.objs.size) { s3 with heap := pushCells (s3.heap.push { cls := .type "dict", data := .dict #[] }) scope.names }
  have nfp : ∀ b ∈ fp, (upd H2 D (dictO X.prog X.w D o0 [])) b = none := fun b hb => (f3 b hb).1.1
  generalize hce : compEnvC scope (cellsFrom (s3.heap.objs.size + 1) scope.names (cloFrom X.env.cells scope.names [])) s3.heap.objs.size X.env = ce at I4 pg pt pk pe ⊢
  have cL : ce.locals = s3.heap.objs.size := by subst hce; rfl
  generalize hH3 : upd H2 D (dictO X.prog X.w D o0 []) = H3 at I3 I4 pg pt pk pe w0 nfp f3
  generalize hs4 : ({ s3 with heap := pushCells (s3.heap.push { cls := .type "dict", data := .dict #[] }) scope.names } : Shared) = s4 at I4 ⊢
  have st4 : tn 0 s4.heap := T.keep _ _ _ st3 fun b _ o e => by rw [← hs4]; exact pushCells_keeps _ _ _ _ (Heap.get?_push_of_some _ e)
  have stat : ∀ {σ' : L2.St} {H' : Hp} {s' : Shared}, Inv (X.blk s3 H3 scope ce fp) [] σ' H' s' → (∀ b ∈ fp, H' b = none) → ∀ b ∈ fp, FpOk (X.blk s3 H3 scope ce fp) [] H' b := fun {σ' H' s'} I' hn b hb =>
    ⟨hn b hb, (I'.ok.exf b hb).1, I'.ok.exfs b hb, .inl hb, fun x c e => (I'.ok.exf b hb).2 x c e, fun p hp => absurd (show p ∈ ([] : List (Addr × Obj)) ++ [] from hp) (by simp)⟩
  have loop : codeAny (model X.prog X.w) X.A (.compLoop (.DictComp kx vx [⟨tg, iter, ifs, 0⟩] scope pos) 0 (.ref it) (.ref D) ce) (compPost (model X.prog X.w) X.A X.xe use Qf (.ref D) s3.heap.objs.size) s4 := by
    refine compLoop_anyD (fun n s' => ∃ i H', Inv (X.blk s3 H3 scope ce fp) [] (wipe σ (own.map (·.2))) H' s' ∧ tn i s'.heap ∧ (∀ b ∈ fp, H' b = none) ∧ W i n H') ?_ m0 ⟨0, H3, I4, st4, nfp, w0⟩
    rintro n s5 ⟨i, H5, I5, st5, n5, w5⟩
    rcases turn i n H5 w5 with ⟨stop, qq⟩ | ⟨go, Nx, hNx, step⟩
    · have td := T.done (X.blk s3 H3 scope ce fp) rfl rfl rfl hc i [] s5 _ H5 (fun _ _ => False) I5 (stat I5 n5) st5 stop
      refine thnF td fun r s6 ⟨hr, I6⟩ => ?_
      subst hr
      -- back in the def's context
      have I7 : Inv X pins σ H5 s6 := I3.call' (ch := fp) I6.os I6.base I6.hok I6.bare fun b hb => ⟨(f3 b hb).1.2.2.2.1, (f3 b hb).1.2.1, (f3 b hb).1.2.2.2.2.1, (f3 b hb).1.2.2.2.2.2⟩
      have nC : H5 s3.heap.objs.size = none := by
        have z : H5 ce.locals = none := I6.free
        rw [cL] at z
        exact z
      obtain ⟨m, hn, _⟩ := I6.loc
      have hn : s6.heap.Ns ce.locals m := hn
      rw [cL] at hn
      exact hRR D s3.heap.objs.size s6 m H5 I7 qq hn (I3.fpOk (Nat.le_refl _) nC)
    · have ti := T.item (X.blk s3 H3 scope ce fp) rfl rfl rfl hc i [] s5 _ H5 (fun _ _ => False) I5 (stat I5 n5) st5 go
      refine thnF ti fun r s6 ⟨u, hr, h6⟩ => ?_
      subst hr
      refine thnF h6 fun _ s7 ⟨x, H7, I7, r7, y7, st7, n7⟩ => ?_
      have I7' := I7.pinned (stat I7 n7) (T.obj _ _ st7)
      refine thnF (pg.run _ s7 _ H7 x u _ I7' r7 (step x H7 y7)) fun _ s8 ⟨σ8, H8, I8, hw8, q8⟩ => ?_
      refine thnF (pt.run _ s8 σ8 H8 _ I8 q8) fun b s9 ⟨H9, I9, q9⟩ => ?_
      -- the turn's end
      have fin : ∀ {s' : Shared} {H' : Hp}, Inv (X.blk s3 H3 scope ce fp) ([] ++ pinsAt fp s7.heap) σ8 H' s' → Nx H' → ∃ m, m < n ∧ ∃ i H', Inv (X.blk s3 H3 scope ce fp) [] (wipe σ (own.map (·.2))) H' s' ∧ tn i s'.heap ∧ (∀ b ∈ fp, H' b = none) ∧ W i m H' := fun {s' H'} I' nx => by
        obtain ⟨m', hm, w'⟩ := hNx H' nx
        have pin' : ∀ b ∈ fp, ∀ o, s7.heap.get? b = some o → s'.heap.get? b = some o ∧ H' b = none := fun b hb o e =>
          let z := I'.pin (b, o) (List.mem_append_right _ (List.mem_append_right _ (mem_pinsAt hb e)))
          ⟨z.1, z.2.1⟩
        have hl : (wipe σ (own.map (·.2))).length = σ8.length := by rw [← hw8, wipe_length]
        refine ⟨m', hm, i + 1, H', (I'.unpinned (pins := [])).weak hl (fun j v e => ?_), T.keep _ _ _ st7 fun b hb o e => (pin' b hb o e).1, fun b hb => ?_, w'⟩
        · rw [← hw8] at e
          exact (wipe_some e).1
        · obtain ⟨o, e, _⟩ := T.obj _ _ st7 b hb
          exact (pin' b hb o e).2
      cases b with
      | false =>
        simp only [Bool.false_eq_true, if_false] at q9 ⊢
        exact fin I9 q9
      | true =>
        simp only [if_true] at q9 ⊢
        refine thnF (pk.run _ s9 σ8 H9 _ I9 q9) fun z s10 ⟨yk, H10, I10, r10, q10⟩ => ?_
        refine thnF (pe.run _ s10 σ8 H10 _ I10 q10) fun z2 s11 ⟨yv, H11, I11, r11, h11, kvs, di, dv, rh11, e11, hz11, rdi, ky, kz, rdv, nx⟩ => ?_
        obtain ⟨bk, rfl⟩ := ky_ref rdi ky
        cases (show z = Value.ref bk from r10)
        obtain ⟨o2, xs2, ys2, ea2, rk2, p2, d2, hy2, dh2⟩ := dput_core (X := X.blk s3 H3 scope ce fp) (b := bk) (di := di) (dv := dv) (v := yv) (uv := z2) I11 rh11 e11 hz11
        refine wpAny_dictSet_heap (hsz := hy2) (show (nestedKind X.prog X.w).room X.A from hu) (ky_is I11 ky kz rdi) dh2 fun h' dh' hs' => ?_
        obtain ⟨H', I', st⟩ := dput_end (X := X.blk s3 H3 scope ce fp) (t' := s11.toks + (nestedKind X.prog X.w).draws (nk di)) I11 rh11 e11 hz11 ea2 rk2 p2 d2 ky kz rdi rdv r11 dh' hs'
        exact fin I' (nx H' st)
  exact codeAny_compStart_dict loop (T.self X.A 0 _ _ _ st4 loop)
theorem pe_dcN {kx vx tg iter : Expr} {ifs : List Expr} {scope : Scope} {own : List (Str × Nat)} {pos : Pos} {wi : TI} {g : TG} {tt : TT} {tk tv : TE} (hu : X.A.units + 8 < cLine) (hc : X.calm = true) (hN : X.N.Nodup) (hi : PI X tg iter wi) (ok : BlkOk X.N X.env.scope scope own)
    (hg : ∀ (s : Shared) (H : Hp) (C : Addr) (cl : List (Str × Addr)) (fp : List Addr), PG (X.blk s H scope (compEnvC scope cl C X.env) fp) tg g) (ht : ∀ (s : Shared) (H : Hp) (C : Addr) (cl : List (Str × Addr)) (fp : List Addr), PTs (X.blk s H scope (compEnvC scope cl C X.env) fp) ifs tt)
    (hk : ∀ (s : Shared) (H : Hp) (C : Addr) (cl : List (Str × Addr)) (fp : List Addr), PE (X.blk s H scope (compEnvC scope cl C X.env) fp) kx tk)
    (he : ∀ (s : Shared) (H : Hp) (C : Addr) (cl : List (Str × Addr)) (fp : List Addr), PE (X.blk s H scope (compEnvC scope cl C X.env) fp) vx tv) (hs : ∀ x, foldedSetIterable iter X.env x = pure x := by intro _; rfl) :
    PE X (.DictComp kx vx [⟨tg, iter, ifs, 0⟩] scope pos) (tDcN X.prog X.w X.K wi g tt tk tv (own.map (·.2))) := by
  refine ⟨fun pins s σ H Q I h => ?_⟩
  rw [arm_eval_DictComp]
  refine dcN_core hc hN I hi ok hg ht hk he hs hu h fun D C s' m H' I' q hn f => ⟨m, hn, fun h'' sb => ?_⟩
  obtain ⟨f0, f1, f2, f3, f4, f5⟩ := f
  exact ⟨.ref D, H', I'.turned (t' := s'.toks) (fun b o hb e => (sb.2 b hb).trans e) f0 f1 f3 f4 f5, rfl, q⟩
theorem ps_setDcN {i : Nat} {y : Str} {py : Pos} {kx vx tg iter : Expr} {ifs : List Expr} {scope : Scope} {own : List (Str × Nat)} {pos spos : Pos} {wi : TI} {g : TG} {tt : TT} {tk tv : TE} (hu : X.A.units + 8 < cLine) (hc : X.calm = true) (hN : X.N.Nodup) (hy : X.N[i]? = some y) (hyl : X.env.scope.names.lookup y = some .local)
    (hsw : swapsWith (.DictComp kx vx [⟨tg, iter, ifs, 0⟩] scope pos) (some (.Name y py)) spos.line X.env = pure true) (hi : PI X tg iter wi) (ok : BlkOk X.N X.env.scope scope own)
    (hg : ∀ (s : Shared) (H : Hp) (C : Addr) (cl : List (Str × Addr)) (fp : List Addr), PG (X.blk s H scope (compEnvC scope cl C X.env) fp) tg g) (ht : ∀ (s : Shared) (H : Hp) (C : Addr) (cl : List (Str × Addr)) (fp : List Addr), PTs (X.blk s H scope (compEnvC scope cl C X.env) fp) ifs tt)
    (hk : ∀ (s : Shared) (H : Hp) (C : Addr) (cl : List (Str × Addr)) (fp : List Addr), PE (X.blk s H scope (compEnvC scope cl C X.env) fp) kx tk)
    (he : ∀ (s : Shared) (H : Hp) (C : Addr) (cl : List (Str × Addr)) (fp : List Addr), PE (X.blk s H scope (compEnvC scope cl C X.env) fp) vx tv) (hs : ∀ x, foldedSetIterable iter X.env x = pure x := by intro _; rfl) :
    PS X (.Assign [.Name y py] (.DictComp kx vx [⟨tg, iter, ifs, 0⟩] scope pos) spos) (tAsg (tDcN X.prog X.w X.K wi g tt tk tv (own.map (·.2))) (gName i)) := by
  refine ⟨fun pins s σ H D I h => ?_⟩
  rw [exec_Assign_Name_used _ _ _ _ hsw]
  refine wpAny_bind (wpAny_standAt (wpAny_bind ?_))
  show wpAny _ X.A (do let _ ← comprehension (.DictComp kx vx [⟨tg, iter, ifs, 0⟩] scope pos) scope X.env (firstIterPos [⟨tg, iter, ifs, 0⟩] pos) newDict false (eval iter X.env) (some (assign (.Name y py) X.env))) _ _ s
  have h : tDcN X.prog X.w X.K wi g tt tk tv (own.map (·.2)) σ H (fun x H1 => gName i x σ H1 D.nx) := h
  refine wpAny_bind (thn (dcN_core (Qf := fun _ s' => SP X pins D .next s') hc hN I hi ok hg ht hk he hs hu h fun L C s' m H' I' q hn f => ?_) fun _ s' hq => wpAny_pure (wpAny_pure hq))
  show wpAny _ _ (assign (.Name y py) X.env (.ref L)) _ _ _
  obtain ⟨f0, f1, f2, f3, f4, f5⟩ := f
  refine wpAny_assign_Name (store_ok2 (v := V.ref L) I' hN hy (.inl hyl) rfl (fun s2 I2 ⟨a, sb, ha⟩ => ?_) (.inr hyl))
  have haC : C ≠ a := ha.elim (fun z => by rw [z]; exact f1) fun z e => f4 y a z e.symm
  exact ⟨m, hn.sameBut sb haC, fun h3 sb3 => ⟨_, H', I2.turned (t' := s2.toks) (fun b o hb e => (sb3.2 b hb).trans e) f0 f1 f3 f4 f5, q⟩⟩
theorem sw_trueD {kx vx : Expr} {gs : List Comprehension} {scope : Scope} {pos py : Pos} {y : Str} {l : Nat} {env : Env} (hk : env.scope.kind = .function) (hy : env.scope.names.lookup y = some .local) (hl : (py.line == pos.line) = true)
    (ha : (scope.names.any fun (n, k) => n == y && (k == .local || k == .cell)) = false) : swapsWith (.DictComp kx vx gs scope pos) (some (.Name y py)) l env = pure true := by
  have ky : env.kindOf y = some .local := hy
  have hb : env.blockKind = .function := by unfold Env.blockKind; rw [hk]; rfl
  unfold swapsWith
  simp only [hb, ky, ha, Expr.pos, hl]
  rfl
end

def cDcGo (P : Program) (w : World) (ok : HD → Prop) (tg : TgS) (tt : CT) (tk tv : CE) (ρ : En) (D : Addr) (Q : DK) : List PD.D → HD → Prop
  | [], h => ok h ∧ Q (.ref D) h
  | x :: xs, h => ok h ∧ tg.bind ρ x fun ρ1 => tt ρ1 h fun b h1 => if b = true then tk ρ1 h1 fun y h2 => tv ρ1 h2 fun z h3 => ∃ kvs, isDN P w h3 D kvs ∧ kyT y = true ∧ (nk y).depth ≤ 8 ∧ kvs.length < sizeLine ∧ cDcGo P w ok tg tt tk tv ρ D Q xs (updD h3 D (.dN P w (putK' kvs y z))) else cDcGo P w ok tg tt tk tv ρ D Q xs h1
/-- {tk: tv for tg in t if tt} -/
def cDc (P : Program) (w : World) (t : CI) (tg : TgS) (tt : CT) (tk tv : CE) (vs : List Nat) : CE := fun ρ h Q => t ρ h fun S h1 => ∀ D, h1 D = none → cDcGo P w S.ok tg tt tk tv (wipeD ρ vs) D Q S.items (updD h1 D (.dN P w []))
theorem low_dcN {P : Program} {w : World} {K : PySem.W.Frag} {B : Bs} {t : CI} {tg : TgS} {tt : CT} {tk tv : CE} {vs : List Nat} {σ : L2.St} {H : Hp} {Q : VK} (sub : ∀ i ∈ tg.slots, i ∈ vs) (z : lowE K B (cDc P w t tg tt tk tv vs) σ H Q) :
    tDcN P w K (lowI K B t) (tg.g K) (lowT K B tt) (lowE K B tk) (lowE K B tv) vs σ H Q := by
  obtain ⟨ρ, h, Q', sl, rh, ht, k⟩ := z
  refine ⟨ρ, h, _, sl, rh, ht, fun S J H1 h1 isok s1 q1 L o0 nL => ?_⟩
  have sL : Stp K H1 h1 (upd H1 L (dictO P w L o0 [])) (updD h1 L (.dN P w [])) := .new s1.rh nL ⟨o0, [], upd_same, rfl⟩
  refine ⟨fun i m H2 => ∃ h2, Stp K H1 h1 H2 h2 ∧ i + m = S.items.length ∧ cDcGo P w S.ok tg tt tk tv (wipeD ρ vs) L Q' (S.items.drop i) h2,
    ⟨S.items.length, _, sL, Nat.zero_add _, q1 L (s1.rh.none nL)⟩, ?_⟩
  rintro i m H2 ⟨h2, s2, e, q2⟩
  cases m with
  | zero =>
    have e' : S.items.length = i := by omega
    rw [List.drop_eq_nil_of_le (by omega)] at q2
    exact .inl ⟨(isok i H2 h2 s2.ts s2.rh q2.1).1 e', k _ (.ref L) H2 _ rfl (s1.trans s2) q2.2⟩
  | succ m =>
    have lt : i < S.items.length := by omega
    rw [List.drop_eq_getElem_cons lt] at q2
    have isk := (isok i H2 h2 s2.ts s2.rh q2.1).2 S.items[i] (List.getElem?_eq_getElem lt)
    refine .inr ⟨isk.1, fun H3 => ∃ h3, Stp K H1 h1 H3 h3 ∧ cDcGo P w S.ok tg tt tk tv (wipeD ρ vs) L Q' (S.items.drop (i + 1)) h3, fun H3 ⟨h3, a, b⟩ => ⟨m, Nat.lt_succ_self _, h3, a, by omega, b⟩, fun x H3 y => ?_⟩
    obtain ⟨rx, s3⟩ := isk.2 x H3 y
    have sl3 : Sl K (wipe σ vs) H3 (wipeD ρ vs) := (sl.wipe vs).mono ((s1.ts.trans s2.ts).trans s3.ts)
    have s13 := s2.trans s3
    refine tg.run sl3 rx q2.2 sub fun σ' ρ' we sl' b => ⟨by rw [we, wipe_wipe], ?_⟩
    refine ⟨ρ', h2, _, sl', (rh.trans s1).trans s13, b, fun kb H4 h4 s4 q4 => ?_⟩
    have s14 := s13.trans s4
    cases kb with
    | false => simp only [Bool.false_eq_true, if_false] at q4 ⊢; exact ⟨h4, s14, q4⟩
    | true =>
      simp only [if_true] at q4 ⊢
      refine ⟨ρ', h4, _, sl'.mono s4.ts, (rh.trans s1).trans s14, q4, fun v d H5 h5 rv s5 q5 => ?_⟩
      refine ⟨ρ', h5, _, sl'.mono (s4.ts.trans s5.ts), (rh.trans s1).trans (s14.trans s5), q5, fun v2 d2 H6 h6 rv2 s6 q6 => ?_⟩
      obtain ⟨kvs, e6, ky, kz, hz, q6⟩ := q6
      exact ⟨h6, kvs, d, d2, s6.rh, e6, hz, rv.mono s6.ts, ky, kz, rv2, fun H7 s7 => ⟨_, ((s14.trans s5).trans s6).trans s7, q6⟩⟩
section
variable {X : Cx} {B : Bs}
theorem qe_dc {kx vx tgE iter : Expr} {ifs : List Expr} {scope : Scope} {own : List (Str × Nat)} {pos : Pos} {t : CI} {tg : TgS} {tt : CT} {tk tv : CE} (hu : X.A.units + 8 < cLine) (hc : X.calm = true) (hN : X.N.Nodup) (hi : QI X B tgE iter t) (ok : BlkOk X.N X.env.scope scope own) (sub : ∀ i ∈ tg.slots, i ∈ own.map (·.2))
    (hg : ∀ (s : Shared) (H : Hp) (C : Addr) (cl : List (Str × Addr)) (fp : List Addr), PG (X.blk s H scope (compEnvC scope cl C X.env) fp) tgE (tg.g X.K))
    (ht : ∀ (s : Shared) (H : Hp) (C : Addr) (cl : List (Str × Addr)) (fp : List Addr), QTs (X.blk s H scope (compEnvC scope cl C X.env) fp) B ifs tt)
    (hk : ∀ (s : Shared) (H : Hp) (C : Addr) (cl : List (Str × Addr)) (fp : List Addr), QE (X.blk s H scope (compEnvC scope cl C X.env) fp) B kx tk)
    (he : ∀ (s : Shared) (H : Hp) (C : Addr) (cl : List (Str × Addr)) (fp : List Addr), QE (X.blk s H scope (compEnvC scope cl C X.env) fp) B vx tv) (hs : ∀ x, foldedSetIterable iter X.env x = pure x := by intro _; rfl) :
    QE X B (.DictComp kx vx [⟨tgE, iter, ifs, 0⟩] scope pos) (cDc X.prog X.w t tg tt tk tv (own.map (·.2))) :=
  PE.imp (pe_dcN (tt := lowT X.K B tt) (tk := lowE X.K B tk) (tv := lowE X.K B tv) hu hc hN hi ok hg ht hk he hs) fun σ H Q w => low_dcN sub w
theorem qs_setDc {i : Nat} {y : Str} {py : Pos} {kx vx tgE iter : Expr} {ifs : List Expr} {scope : Scope} {own : List (Str × Nat)} {pos spos : Pos} {t : CI} {tg : TgS} {tt : CT} {tk tv : CE} (hu : X.A.units + 8 < cLine) (hc : X.calm = true) (hN : X.N.Nodup) (hy : X.N[i]? = some y) (hyl : X.env.scope.names.lookup y = some .local)
    (hsw : swapsWith (.DictComp kx vx [⟨tgE, iter, ifs, 0⟩] scope pos) (some (.Name y py)) spos.line X.env = pure true) (hi : QI X B tgE iter t) (ok : BlkOk X.N X.env.scope scope own) (sub : ∀ i ∈ tg.slots, i ∈ own.map (·.2))
    (hg : ∀ (s : Shared) (H : Hp) (C : Addr) (cl : List (Str × Addr)) (fp : List Addr), PG (X.blk s H scope (compEnvC scope cl C X.env) fp) tgE (tg.g X.K))
    (ht : ∀ (s : Shared) (H : Hp) (C : Addr) (cl : List (Str × Addr)) (fp : List Addr), QTs (X.blk s H scope (compEnvC scope cl C X.env) fp) B ifs tt)
    (hk : ∀ (s : Shared) (H : Hp) (C : Addr) (cl : List (Str × Addr)) (fp : List Addr), QE (X.blk s H scope (compEnvC scope cl C X.env) fp) B kx tk)
    (he : ∀ (s : Shared) (H : Hp) (C : Addr) (cl : List (Str × Addr)) (fp : List Addr), QE (X.blk s H scope (compEnvC scope cl C X.env) fp) B vx tv) (hs : ∀ x, foldedSetIterable iter X.env x = pure x := by intro _; rfl) :
    QS X B (.Assign [.Name y py] (.DictComp kx vx [⟨tgE, iter, ifs, 0⟩] scope pos) spos) (fun Z ρ h => cDc X.prog X.w t tg tt tk tv (own.map (·.2)) ρ h fun d h1 => Z.nx (ρ.set i (some d)) h1) :=
  PS.imp (ps_setDcN (tt := lowT X.K B tt) (tk := lowE X.K B tk) (tv := lowE X.K B tv) hu hc hN hy hyl hsw hi ok hg ht hk he hs) fun E σ H w => by
    obtain ⟨ρ, h, D', sl, rh, hw, lk⟩ := w
    exact low_dcN (K := X.K) sub ⟨ρ, h, _, sl, rh, hw, fun v d H' h' rv st q => lk.nx _ _ H' h' ((sl.mono st.ts).set rv) st q⟩
end
end PD

-- PdI
set_option Elab.async false
set_option linter.all false
set_option maxRecDepth 100000
set_option maxHeartbeats 4000000
/-! PdI: raise, try, what is asked of a caught error, by data. -/
namespace PD
open PySem PySem.Spec PyProof.Rows L2

theorem XR.step {K : PySem.W.Frag} {H H' : Hp} {h h' : HD} {d : Option Addr} {fs : Option (List (Str × D))} (x : XR K H h d fs) (s : Stp K H h H' h') : XR K H' h' d fs := by
  cases fs with
  | none => exact x
  | some l =>
    obtain ⟨a, vs, e, n, ea, r⟩ := x
    refine ⟨a, vs, e, ?_, s.hd a _ ea n rfl, r.mono s.ts⟩
    cases z : h' a with
    | none => rfl
    | some o =>
      rcases s.nf a (by rw [z]; simp) with q | q
      · exact absurd n q
      · rw [ea] at q; cases q

abbrev CM := En → HD → XD → Prop
def lowM (K : PySem.W.Frag) (B : Bs) (t : CM) : L2.St → Hp → XK → Prop := fun σ H Q => ∃ ρ h E, Sl K σ H ρ ∧ RB K B H h ∧ t ρ h E ∧ ∀ cls d H' h' fs, Stp K H h H' h' → XR K H' h' d fs → E cls fs h' → Q cls d H'
def QM (X : Cx) (B : Bs) (e : Expr) (t : CM) : Prop := PMk X e (lowM X.K B t)
theorem PMk.imp {X : Cx} {e : Expr} {t t' : L2.St → Hp → XK → Prop} (p : PMk X e t') (k : ∀ σ H Q, t σ H Q → t' σ H Q) : PMk X e t := fun pins s σ H Q I h => p pins s σ H Q I (k σ H Q h)
section
variable {X : Cx} {B : Bs} {pos : Pos} {e : Expr}
/-- raise e -/
theorem qs_raise {W : En → XD} {t : CM} (hc : X.calm = true) (tk : TkD X B W) (he : QM X B e t) : QS X B (.Raise (some e) none pos) (fun _ ρ h => t ρ h (W ρ)) := PS.imp (ps_raise hc tk he) fun E σ H w => by
  obtain ⟨ρ, h, D', sl, rb, ht, lk⟩ := w
  exact ⟨ρ, h, W ρ, sl, rb, ht, fun cls d H' h' fs st xr q => ⟨ρ, h', fs, sl.mono st.ts, rb.trans st, xr, q⟩⟩
/-- C() -/
def cMk0 (C : Addr) : CM := fun _ h E => E (.ref C) none h
theorem qm_own0 {C : Addr} {bmB : List Value} {Bn newId initId : String} {x : Str} {p : Pos} (F : ExcBaseFacts Bn newId initId bmB) (q : PySem.W.excIn X.K C bmB newId = true) (gC : X.mg x = some (.ref C))
    (kC : PySem.W.keepIn X.K (.ref C) = true) (r : Raises X (.ref C)) (hg : Gl X x) (hdb : (x == ("__debug__" : Str)) = false := by decide) : QM X B (.Call (.Name x p) [] [] pos) (cMk0 C) := by
  intro pins s σ H Q I w
  obtain ⟨ρ, h, E, sl, rb, ht, k⟩ := w
  refine wpAny_Call_Name_kw (ld_glob I hg gC ?_ hdb)
  refine PySem.W.callWith_K0 I.kIn kC ?_
  show wpAny _ _ (call (.ref C) []) _ _ _
  obtain ⟨bm, N, nm, qn, bs, hdct, sn, sub, ab, col, dd, k0, k1, k2, k3, k5, mN, hC, hN, hni, T⟩ := exc_obj I.kIn q
  refine wpAny_call_exc_subT F T hC hN hni (fun h' e hm => ?_) (Nat.zero_le _)
  exact mk_of I hm r (k (.ref C) none H h none (.refl rb.rh) rfl ht) (I.hok.gone hm.new)

/-- C(e), its __init__(self, f) says self.f = f -/
def spI (K : PySem.W.Frag) (f : Str) : Sp := fun vs H Q _ => ∃ (a : Addr) (y : V) (C : Addr), vs = [.ref a, y] ∧ OexC K C ∧ PySem.W.findIn K (.ref C) f = some none ∧ H a = some (exo a C none) ∧ ∀ dx, H dx = none → dx ≠ a → Q .non (upd (upd H dx (exd dx [(f, y)])) a (exo a C (some dx)))
theorem fn_init {P : Program} {w : World} {K : PySem.W.Frag} {mg : Str → Option Value} {base : Heap} {x qual f pn : Str} {st : Stmt} {fa : Addr} {fd : FuncData} {N : List Str} {p1 p2 p3 : Pos} (F : Fun K x qual st fa fd) (S : FnScope N [("self" : Str), pn] (defScope st)) (hN : N = [("self" : Str), pn])
    (hb : defBody st = [.Assign [.Attribute (.Name "self" p1) f p2] (.Name pn p3) pos]) (v0 : Vis (defScope st) "self") (v1 : Vis (defScope st) pn) (d1 : (pn == ("__debug__" : Str)) = false) (c1 : (pn == ("__classdict__" : Str)) = false) :
    FnOk P w K mg base CX0 1 fa fd [("self" : Str), pn] (spI K f) := by
  refine F.ok (sp := spI K f) S (fun vs H Q E ⟨a, y, C, e, _⟩ => by rw [e]; rfl) fun cdv A outer s H vs Q E hr ⟨a, y, C, e, T, hno, ea, q⟩ => ?_
  subst e hN
  rw [hb]
  refine ⟨_, pss_one (ps_ost (f := f) (pe_var (i := 0) rfl v0) (pe_var (i := 1) rfl v1 d1 c1)), ?_⟩
  exact ⟨y, rfl, .ref a, rfl, a, C, rfl, T, hno, .inl ⟨ea, fun dx n ne => q dx n ne⟩⟩
theorem qm_init {x : Str} {C fI : Addr} {k : Nat} {fd : FuncData} {f pn : Str} {p : Pos} {te : CE} (T : OexC X.K C) (hno : PySem.W.findIn X.K (.ref C) f = some none) (iC : PySem.W.findIn X.K (.ref C) "__init__" = some (some (.ref fI))) (tI : PySem.W.typeIn X.K (.ref fI) = some (.type "function"))
    (F1 : FnOk X.prog X.w X.K X.mg X.base CX0 k fI fd [("self" : Str), pn] (spI X.K f)) (hr : Room (k + 1) X.A) (hb : Binds X.K fd [("self" : Str), pn] []) (hg : Gl X x) (hm : X.mg x = some (.ref C)) (ha : QE X B e te)
    (hdb : (x == ("__debug__" : Str)) = false := by decide) (he : starEach [e] X.env = (false, eval e X.env) :: starEach [] X.env := by rfl) (hpl : (backTo pos (starEach [] X.env)).any (·.1) = false := by rfl) :
    QM X B (.Call (.Name x p) [e] [] pos) (fun ρ h E => te ρ h fun y h1 => E (.ref C) (some [(f, y)]) h1) := by
  refine PMk.imp (pmk_oex (dvs := []) (ds := []) T iC tI F1 hr hb .nil (fun _ _ _ _ _ _ _ z => False.elim z) hg hm (pa_cons ha pa_nil he) hdb he hpl) fun σ H Q w => ?_
  obtain ⟨ρ, h, E, sl, rb, ht, kq⟩ := w
  refine ⟨ρ, h, _, sl, rb, ht, fun v d H1 h1 rv s1 q1 => ?_⟩
  refine ⟨by simp, fun a na => ?_⟩
  refine ⟨a, v, C, rfl, T, hno, upd_same, fun dx nx ne => ⟨rfl, dx, [(f, v)], upd_same, ?_, ?_, ?_⟩⟩
  · rw [upd_ne ne, upd_same]
  · rw [upd_ne ne] at nx; exact nx
  · have nx1 : H1 dx = none := by rw [upd_ne ne] at nx; exact nx
    have ee : upd (L2.del (upd (upd (upd H1 a (exo a C none)) dx (exd dx [(f, v)])) a (exo a C (some dx))) a) dx (.xd [(f, v)]) = upd H1 dx (.xd [(f, v)]) := by
      funext b
      by_cases z : b = dx
      · rw [z, upd_same, upd_same]
      · rw [upd_ne z, upd_ne z]
        by_cases y : b = a
        · rw [y, L2.del_same, na]
        · rw [L2.del_ne y, upd_ne y, upd_ne z, upd_ne y]
    rw [ee]
    have st : Stp X.K H1 h1 (upd H1 dx (.xd [(f, v)])) h1 := .hid s1.rh nx1 (s1.rh.none nx1)
    exact kq _ _ _ h1 (some [(f, d)]) (s1.trans st) ⟨dx, [(f, v)], rfl, s1.rh.none nx1, upd_same, v, [], rfl, rv.mono st.ts, rfl⟩ q1
end
/-! ### try -/
theorem LkE.trans0 {K : PySem.W.Frag} {H H1 : Hp} {h h1 : HD} {D' : DE} {E : Ends} (l : LkE K H h D' E) (s : Stp K H h H1 h1) : LkE K H1 h1 D' E := l.step s
def unsetE (i : Nat) (Z : DE) : DE := { nx := fun ρ h => Z.nx (ρ.set i none) h, rt := Z.rt, bk := fun ρ h => Z.bk (ρ.set i none) h, ct := fun ρ h => Z.ct (ρ.set i none) h }
theorem Sl.unset {K : PySem.W.Frag} {σ : L2.St} {H : Hp} {ρ : En} (s : Sl K σ H ρ) (i : Nat) : Sl K (σ.set i none) H (ρ.set i none) := by
  refine ⟨by rw [List.length_set, List.length_set]; exact s.1, fun j e q => ?_⟩
  by_cases hj : i = j
  · subst hj
    by_cases hl : i < ρ.length
    · rw [List.getElem?_set_self hl] at q
      cases q
    · rw [List.getElem?_eq_none (by rw [List.length_set]; omega)] at q
      cases q
  · rw [List.getElem?_set_ne hj] at q
    obtain ⟨u, e1, r1⟩ := s.2 j e q
    exact ⟨u, by rw [List.getElem?_set_ne hj]; exact e1, r1⟩
/-- what 'except c as n' wishes: slot i is n's -/
def wAsD (K : PySem.W.Frag) (c : Value) (i : Nat) (ts : Addr → Value → Option (List (Str × D)) → CS) (Wo : En → XD) (Z : DE) : En → XD := fun ρ cls fs h =>
  ∃ b, PySem.W.exmOne K cls c = some b ∧ (b = true → ∀ a, h a = none → ts a cls fs (unsetE i Z) (ρ.set i (some (.ref a))) h) ∧ (b = false → Wo ρ cls fs h)
def cTryAs (K : PySem.W.Frag) (c : Value) (i : Nat) (tb : (En → XD) → CS) (ts : Addr → Value → Option (List (Str × D)) → CS) (Wo : En → XD) : CS := fun Z ρ h => tb (wAsD K c i ts Wo Z) Z ρ h
section
variable {X : Cx} {B : Bs} {x n : Str} {c : Value} {i : Nat} {body suite : List Stmt} {b₀ : Stmt} {np pos pos' : Pos} {tb : (En → XD) → CS} {ts : Addr → Value → Option (List (Str × D)) → CS} {Wo : En → XD}
theorem qs_try_as (hs : X.stack = X.env :: X.outer) (hf : X.env.frame = some X.env.locals) (hN : X.N.Nodup) (hi : X.N[i]? = some n) (hln : X.env.kindOf n = some .local) (hc : Names X x c) (tk : TkD X B Wo)
    (hb : ∀ (W : En → XD) (B' : Bs) (pn : List (Addr × Obj)) (xe : Value → Shared → Prop), TkD (X.tr pn xe) B' W → PassesOwn (model X.prog X.w) X.A X.env xe → QSs (X.tr pn xe) B' body (tb W))
    (hsu : ∀ (B' : Bs) (a : Addr) (oe : Obj) (cls : Value) (d : Option Addr) (fs : Option (List (Str × D))) (pn : List (Addr × Obj)), XR X.K B'.1 B'.2 d fs → Zc cls d oe → (∃ vs, oe.data = .fields vs) → QSs (X.suite a ((a, oe) :: pn)) B' (b₀ :: suite) (ts a cls fs)) :
    QS X B (.Try body [.ExceptHandler (some (.Name x np)) (some n) (b₀ :: suite) pos'] [] [] pos) (cTryAs X.K c i tb ts Wo) := by
  refine PS.imp (ps_try_as (tb := fun W E σ H => ∃ (Wd : En → XD) (B' : Bs), (∀ cls d σ H, (∃ ρ h fs, Sl X.K σ H ρ ∧ RB X.K B' H h ∧ XR X.K H h d fs ∧ Wd ρ cls fs h) → W cls d σ H) ∧ lowS X.K B' (tb Wd) E σ H)
    (ts := fun a cls d E σ H => ∃ (B' : Bs) (fs : Option (List (Str × D))), XR X.K B'.1 B'.2 d fs ∧ lowS X.K B' (ts a cls fs) E σ H) hs hf hN hi hln hc tk ?_ ?_) ?_
  · intro W pn xe tkW po
    refine ⟨fun pins s σ H E I ⟨Wd, B', kw, w⟩ => ?_⟩
    exact (hb Wd B' pn xe (Takes.imp tkW kw) po).run pins s σ H E I w
  · intro a oe cls d pn hz hv
    refine ⟨fun pins s σ H E I ⟨B', fs, xr, w⟩ => ?_⟩
    exact (hsu B' a oe cls d fs pn xr hz hv).run pins s σ H E I w
  · rintro E σ H ⟨ρ, h, D', sl, rb, ht, lk⟩
    refine ⟨wAsD X.K c i ts Wo D', (H, h), ?_, ρ, h, D', sl, .refl rb.rh, ht, lk⟩
    rintro cls d σ1 H1 ⟨ρ1, h1, fs, sl1, st, xr, b, hb1, hy, hno⟩
    have st' : Stp X.K H h H1 h1 := st
    refine ⟨b, hb1, fun e a na => ?_, fun e => ?_⟩
    · refine ⟨(H1, h1), fs, xr, ρ1.set i (some (.ref a)), h1, unsetE i D', sl1.set rfl, .refl st'.rh, hy e a (st'.rh.none na), ?_⟩
      exact ⟨fun σ' ρ' H' h' a b c => lk.nx _ _ H' h' (a.unset i) (st'.trans b) c, fun v d H' h' a b c => lk.rt v d H' h' a (st'.trans b) c, fun σ' ρ' H' h' a b c => lk.bk _ _ H' h' (a.unset i) (st'.trans b) c, fun σ' ρ' H' h' a b c => lk.ct _ _ H' h' (a.unset i) (st'.trans b) c⟩
    · exact ⟨ρ1, h1, fs, sl1, rb.trans st', xr, hno e⟩
/-- e.f, e the caught one -/
def cXf (a : Addr) (cls : Value) (fs : Option (List (Str × D))) (C : Addr) (f : Str) (te : CE) : CE := fun ρ h Q => te ρ h fun x h1 => x = .ref a ∧ cls = .ref C ∧ ∃ l v, fs = some l ∧ l.lookup f = some v ∧ Q v h1
theorem qe_xf {a C : Addr} {oe : Obj} {cls : Value} {d : Option Addr} {fs : Option (List (Str × D))} {pn : List (Addr × Obj)} {e : Expr} {te : CE} {f : Str} (T : XfC X.K C) (hno : PySem.W.findIn X.K (.ref C) f = some none) (xr : XR X.K B.1 B.2 d fs)
    (hz : Zc cls d oe) (hf : ∃ vs, oe.data = .fields vs) (he : QE (X.suite a ((a, oe) :: pn)) B e te) (hb : attributeBase e f X.env (eval e X.env) = eval e X.env := by rfl) :
    QE (X.suite a ((a, oe) :: pn)) B (.Attribute e f pos) (cXf a cls fs C f te) := PE.imp (pe_xf T hno hz hf he hb) fun σ H Q w => by
  obtain ⟨ρ, h, Q', sl, rb, ht, kq⟩ := w
  refine ⟨ρ, h, _, sl, rb, ht, fun v d1 H1 h1 rv s1 q1 => ?_⟩
  obtain ⟨rfl, rfl, l, dv, rfl, el, q⟩ := q1
  have rb1 : Stp X.K B.1 B.2 H1 h1 := Stp.trans rb s1
  obtain ⟨dd, vs, ed, n, ea, r⟩ := XR.step xr rb1
  obtain ⟨w0, l', rw0⟩ := rps_lookup r el
  exact ⟨rv, rfl, dd, vs, w0, ed, ea, l', kq w0 dv H1 h1 rw0 s1 q⟩
/-- isinstance(e, c), e the caught one, of the class at C -/
structure ExcI (K : PySem.W.Frag) (C : Addr) : Prop where
  hcl : (PySem.W.clsIn K C).isSome = true
  hga : PySem.W.findIn K (.ref C) "__getattribute__" = some (some (.builtin "BaseException.__getattribute__"))
  hgt : PySem.W.findIn K (.ref C) "__getattr__" = some none
  hsub : PySem.W.subIn K (.ref C) (.type "BaseException") = some true
  ha : PySem.W.findIn K (.ref C) "__class__" = some (some (.builtin "object.__class__"))
  hn : PySem.W.specialIn K (.builtin "object.__class__") "__get__" = some (some (.builtin "getset_descriptor.__get__"))
  htk : PySem.W.takesIn K (.builtin "object.__class__") = some true
  hm : PySem.W.mroIn K C (.type "object") = some true
def cIsE (K : PySem.W.Frag) (a : Addr) (cls : Value) : CL := fun ds h Q => ∃ C c b, cls = .ref C ∧ ExcI K C ∧ ds = [.ref a, .ref c] ∧ PySem.W.kitOne K (.ref C) (.ref c) = some b ∧ Q (.bl b) h
theorem cd_isE {a : Addr} {oe : Obj} {cls : Value} {d : Option Addr} {fs : Option (List (Str × D))} {pn : List (Addr × Obj)} (xr : XR X.K B.1 B.2 d fs) (hz : Zc cls d oe) (hf : ∃ vs, oe.data = .fields vs) :
    CallR (X.suite a ((a, oe) :: pn)) (.builtin "isinstance") (fun xs H Q => ∃ ds h Q', RDs X.K H xs ds ∧ Stp X.K B.1 B.2 H h ∧ cIsE X.K a cls ds h Q' ∧ ∀ v d H' h', RD X.K H' v d → Stp X.K H h H' h' → Q' d h' → Q v H') := by
  intro pins s σ H xs us Q I r w
  obtain ⟨ds, h, Q', rx, rb, ⟨C, c, b, rfl, T, rfl, ek, q⟩, kq⟩ := w
  obtain ⟨v1, v2, rfl, q1, q2⟩ := rx.two
  cases (show v1 = V.ref a from q1); cases (show v2 = V.ref c from q2)
  cases r with
  | cons r1 rr =>
    cases rr with
    | cons r2 rr =>
      cases rr
      obtain rfl : _ = Value.ref a := r1
      obtain rfl : _ = Value.ref c := r2
      obtain ⟨hget, _⟩ := I.pin (a, oe) (List.mem_append.mpr (.inl List.mem_cons_self))
      obtain ⟨vs, hv⟩ := hf
      have fin : ∀ tk, EP (X.suite a ((a, oe) :: pn)) pins σ Q (.bool b) { s with toks := tk } := fun tk => ⟨.bl b, H, I.kept (t' := tk) fun _ _ z => z, rfl, kq _ (.bl b) H h rfl (.refl rb.rh) q⟩
      have J : ∃ od, PySem.W.InstAt s.heap a oe C od := by
        cases fs with
        | none =>
          cases (show d = none from xr)
          exact ⟨none, hget, hz.1, by unfold PySem.W.notCls; rw [hv] <;> rfl, by rw [hz.2]; trivial⟩
        | some l =>
          obtain ⟨dd, ws, rfl, n, ea, _⟩ := XR.step xr rb
          obtain ⟨mA, ⟨od, es, ep, ho, _⟩, _⟩ := (show ObjOk X.prog X.w H s.heap dd (.xd ws) from I.hok dd _ ea)
          exact ⟨some od, hget, hz.1, by unfold PySem.W.notCls; rw [hv] <;> rfl, by rw [hz.2]; exact ho⟩
      obtain ⟨od, J⟩ := J
      exact PySem.W.kia_one (PySem.W.kitx_exc T.hcl T.hga T.hgt T.hsub T.ha T.hn T.htk T.hm) I.kIn J ek (fun z => nomatch z) fin
end
end PD

-- PdJ
set_option Elab.async false
set_option linter.all false
set_option maxRecDepth 100000
set_option maxHeartbeats 4000000
/-! PdJ: methods of lists, repr, own ==, by data. -/
namespace PD
open PySem PySem.Spec PyProof.Rows L2
section
variable {X : Cx} {B : Bs}
abbrev CMt := D → List D → HD → DK → Prop
def lowMt (K : PySem.W.Frag) (r : CMt) : V → List V → Hp → VK → Prop := fun x xs H Q => ∃ dx ds h Q', RD K H x dx ∧ RDs K H xs ds ∧ RH K H h ∧ r dx ds h Q' ∧ ∀ v d H' h', RD K H' v d → Stp K H h H' h' → Q' d h' → Q v H'
abbrev MtD (X : Cx) (id : String) (r : CMt) : Prop := MtR X id (lowMt X.K r)
/-- l.m(..), l a list -/
def cLm (to : CE) (t : CA) (r : CMt) : CE := fun ρ h Q => to ρ h fun x h1 => (∃ a ds, x = .ref a ∧ h1 a = some (.lst ds)) ∧ t ρ h1 fun xs h2 => r x xs h2 Q
theorem qe_lm {o e : Expr} {es : List Expr} {to : CE} {t : CA} {name : Str} {apos cpos : Pos} {id : String} {r : CMt} (slot : Slot "list" name id) (hty : typeOf (.builtin id) = pure (.type "method_descriptor")) (hm : MtD X id r) (ho : QE X B o to) (ha : QA X B (e :: es) t)
    (hbase : attributeBase o name X.env (eval o X.env) = eval o X.env := by rfl)
    (hfew : ((backTo cpos (starEach (e :: es) X.env)).all (fun x => !x.1) && (backToKw cpos (keywordEach [] X.env)).all (fun x => x.1.isSome)
      && decide ((e :: es).length + ([] : List Keyword).length + (if ([] : List Keyword).isEmpty then 0 else 1) < 30)) = true := by rfl)
    (hline : (apos.endLine == cpos.line) = true := by rfl) (hs : starEach (e :: es) X.env = (false, eval e X.env) :: starEach es X.env := by rfl) (hplain : (backTo cpos (starEach es X.env)).any (·.1) = false := by rfl) :
    QE X B (.Call (.Attribute o name apos) (e :: es) [] cpos) (cLm to t r) :=
  PE.imp (pe_bm (T := "list") PySem.F.plainAttrs_list slot hty hm ho ha hbase hfew hline hs hplain) fun σ H Q w => by
    obtain ⟨ρ, h, Q', sl, rb, ht, k⟩ := w
    refine ⟨ρ, h, _, sl, rb, ht, fun v d H1 h1 rv s1 q1 => ?_⟩
    obtain ⟨⟨a, ds, rfl, ea⟩, q1⟩ := q1
    cases (show v = V.ref a from rv)
    obtain ⟨vs, eh, ra⟩ := s1.rh a _ ea
    refine ⟨.inl ⟨rfl, vs, .of eh⟩, ρ, h1, _, sl.mono s1.ts, rb.trans s1, q1, fun us es H2 h2 rus s2 q2 => ?_⟩
    exact ⟨.ref a, es, h2, Q', rfl, rus, s2.rh, q2, fun v' d' H' h' r' s' q' => k v' d' H' h' r' ((s1.trans s2).trans s') q'⟩
def cApp : CMt := fun x xs h Q => match x, xs with
  | .ref a, [y] => ∃ ds, h a = some (.lst ds) ∧ ds.length < sizeLine ∧ Q .non (updD h a (.lst (ds ++ [y])))
  | _, _ => False
theorem md_append : MtD X "list.append" cApp := by
  intro pins s σ H x xs v us Q I rx rv w
  obtain ⟨dx, ds, h, Q', r1, r2, rh, hr, k⟩ := w
  match dx, ds, hr with
  | .ref a, [y], hr =>
    cases (show x = V.ref a from r1)
    obtain ⟨u, rfl, ru⟩ := r2.one
    obtain ⟨es, e, hz, q⟩ := hr
    obtain ⟨vs, ea, ra⟩ := rh a _ e
    have s1 := Stp.mut (o' := .lst (vs ++ [u])) rh ea rfl (by rw [e]; simp) (mut_lst ea (ra.append (ds := es) (es := [y]) (ws := [u]) ⟨u, [], rfl, ru, rfl⟩))
    exact mt_append pins s σ H _ _ v us Q I rx rv ⟨a, vs, u, rfl, rfl, ea, by rw [ra.length]; exact hz, k _ .non _ _ rfl s1 q⟩
mutual
theorem plain_toP : ∀ d : D, (toP d).plain = true
  | .non => rfl
  | .bl _ => rfl
  | .int _ => rfl
  | .str _ => rfl
  | .tup ds => by simp [toP, PyData.plain, plain_toPs ds]
  | .fl ds => by simp [toP, PyData.plain, plain_toPs ds]
  | .ref _ => rfl
  | .ty _ => rfl
theorem plain_toPs : ∀ ds : List D, PyData.plainAll (toPs ds) = true
  | [] => rfl
  | d :: ds => by simp [toPs, PyData.plainAll, plain_toP d, plain_toPs ds]
end
theorem toPs_map : ∀ ds : List D, toPs ds = ds.map toP
  | [] => rfl
  | d :: ds => by rw [toPs, List.map_cons, toPs_map ds]
/-- l.count(x) -/
def cCount : CMt := fun x xs h Q => match x, xs with
  | .ref a, [y] => ∃ ds, h a = some (.lst ds) ∧ rfs ds = true ∧ shp y ∧ Q (.int (ds.countP fun z => eqD z y : Nat)) h
  | _, _ => False
theorem md_count (hu : X.A.units + 65 < cLine) : MtD X "list.count" cCount := by
  intro pins s σ H x xs v us Q I rx rv w
  obtain ⟨dx, ds, h, Q', r1, r2, rh, hr, k⟩ := w
  match dx, ds, hr with
  | .ref a, [y], hr =>
    cases (show x = V.ref a from r1)
    obtain ⟨u, rfl, ru⟩ := r2.one
    obtain ⟨es, e, hf, sy, q⟩ := hr
    obtain ⟨vs, ea, ra⟩ := rh a _ e
    obtain ⟨its, rvv, pl, hz⟩ := I.list (.of ea)
    obtain ⟨uu, rfl, ruu⟩ := rv.one
    cases (show v = Value.ref a from rx)
    obtain ⟨as, h4⟩ := Dp.readsAll I _ _ its (RDs.dp ra hf) rvv
    obtain ⟨bs, h5⟩ := Dp.reads I _ u uu (RD.dp ru sy.1) ruu
    refine PySem.SeqAt.count_list_data pl.isList (by simpa using h4) h5 (plain_toPs es) (plain_toP y) (room_in_shaped sy.2 hu) ?_
    refine ⟨.int (es.countP fun z => eqD z y : Nat), H, I.tok _, ⟨s.toks, ?_⟩, k _ (.int (es.countP fun z => eqD z y : Nat)) H h rfl (.refl rh) q⟩
    rw [toPs_map, List.countP_map]
    rfl

/-! ### repr -/
/-- the data x is, without objects but lists outside -/
def den (h : HD) (x : D) (p : PyData) : Prop := (rf x = true ∧ p = toP x) ∨ ∃ a ds, x = .ref a ∧ h a = some (.lst ds) ∧ rfs ds = true ∧ p = .list (toPs ds)
def cRepr : CL := fun ds h Q => match ds with
  | [x] => ∃ p, den h x p ∧ p.showable = true ∧ p.shown.length ≤ sizeLine ∧ p.depth ≤ 100 ∧ Q (.str p.shown) h
  | _ => False
mutual
theorem noDict_toP : ∀ d : D, (toP d).hasDict = false
  | .non => rfl
  | .bl _ => rfl
  | .int _ => rfl
  | .str _ => rfl
  | .tup ds => by simp [toP, PyData.hasDict, noDict_toPs ds]
  | .fl ds => by simp [toP, PyData.hasDict, noDict_toPs ds]
  | .ref _ => rfl
  | .ty _ => rfl
theorem noDict_toPs : ∀ ds : List D, PyData.hasDictAll (toPs ds) = false
  | [] => rfl
  | d :: ds => by simp [toPs, PyData.hasDictAll, noDict_toP d, noDict_toPs ds]
end
theorem repr_dp {pins : List (Addr × Obj)} {σ : L2.St} {H : Hp} {s : Shared} {Q : Value → Shared → Prop} {x : V} {u : Value} {p : PyData} (hg : X.A.guards = some []) (hu : X.A.units + 101 < cLine) (I : Inv X pins σ H s) (r : RelV x u) (d : Dp X.K H x p) (nd : p.hasDict = false)
    (hs : p.showable = true) (hz : p.shown.length ≤ sizeLine) (hd : p.depth ≤ 100) (q : ∀ s' t, Inv X pins σ H s' → Q (.str p.shown t) s') : wpAny (model X.prog X.w) X.A (call (.builtin "repr") [u]) Q X.xe s := by
  obtain ⟨as, h1⟩ := Dp.reads I p x u d r
  have go : ∀ {a : Addr}, Reads s.heap (.ref a) p as → wpAny (model X.prog X.w) X.A (call (.builtin "repr") [.ref a]) Q X.xe s := fun {a} h2 =>
    repr_of_reads' h2 hs (PyData.noDict_hsm nd) hg (by omega) (fun _ _ e => e) (fun h' u tk hk => q _ _ (I.kept hk)) hz
  cases h1 with
  | none => exact PySem.P.repr_of_none (q _ _ (I.tok _))
  | bool b => exact PySem.P.repr_of_bool (q _ _ (I.tok _))
  | int i t => exact PySem.P.repr_of_int (by simpa [PyData.showable] using hs) (q _ _ (I.tok _))
  | str y t => exact PySem.P.repr_of_str (q _ _ (I.tok _)) hz
  | list a b c e => exact go (.list a b c e)
  | tuple a b c e => exact go (.tuple a b c e)
  | dict a b c e f => exact go (.dict a b c e f)
theorem cd_repr (hg : X.A.guards = some []) (hu : X.A.units + 101 < cLine) : CallD X (.builtin "repr") cRepr := by
  intro pins s σ H xs us Q I rv w
  obtain ⟨ds, h, Q', rx, rh, hr, k⟩ := w
  match ds, hr with
  | [x], hr =>
    obtain ⟨v, rfl, q0⟩ := rx.one
    obtain ⟨u, rfl, ru⟩ := rv.one
    obtain ⟨p, dn, hs, hz, hd, q⟩ := hr
    have fin : ∀ (s' : Shared) (t : Tok), Inv X pins σ H s' → EP X pins σ Q (.str p.shown t) s' := fun s' t J => ⟨.str p.shown, H, J, ⟨t, rfl⟩, k _ (.str p.shown) H h rfl (.refl rh) q⟩
    rcases dn with ⟨hf, rfl⟩ | ⟨a, es, rfl, e, hf, rfl⟩
    · exact repr_dp hg hu I ru (RD.dp q0 hf) (noDict_toP x) hs hz hd fin
    · cases (show v = V.ref a from q0)
      obtain ⟨vs, ea, ra⟩ := rh a _ e
      exact repr_dp hg hu I ru (.lst (.of ea) (RDs.dp ra hf)) (by simp [PyData.hasDict, noDict_toPs es]) hs hz hd fin
end
end PD

-- PdK
set_option Elab.async false
set_option linter.all false
set_option maxRecDepth 100000
set_option maxHeartbeats 4000000
/-! PdK: == and != of instances whose class writes __eq__, by data. -/
namespace PD
open PySem PySem.Spec PyProof.Rows L2

/-- the type of y -/
def tyD (h : HD) : D → Value → Prop
  | .int _, t => t = .type "int"
  | .non, t => t = .type "NoneType"
  | .tup _, t => t = .type "tuple"
  | .ref b, t => ∃ C dx fs, h b = some (.ins C dx fs) ∧ t = .ref C
  | _, _ => False
theorem tyD_looks {X : Cx} {pins : List (Addr × Obj)} {σ : L2.St} {H : Hp} {s : Shared} {h : HD} {d : D} {v : V} {u t : Value} (I : Inv X pins σ H s) (rh : RH X.K H h) (r : RD X.K H v d) (ru : RelV v u) (e : tyD h d t) : PySem.W.Looks (model X.prog X.w) s.heap (typeOf u) t := by
  cases d with
  | int i => cases (show v = V.int i from r); obtain ⟨tk, rfl⟩ := ru; cases (show t = _ from e); exact .now
  | non => cases (show v = V.non from r); cases (show u = Value.none from ru); cases (show t = _ from e); exact .now
  | tup ds =>
    obtain ⟨a, vs, rfl, qa, ra⟩ := r
    cases (show u = Value.ref a from ru)
    cases (show t = _ from e)
    obtain ⟨its, rv, ⟨o, eo, c, n, hd⟩, hz⟩ := I.tuple qa
    exact fun A Q E s k q => wpAny_typeOf_ref (k _ _ eo) (by rw [c]; exact q)
  | ref b =>
    cases (show v = V.ref b from r); cases (show u = Value.ref b from ru)
    obtain ⟨C, dx, fs, eb, rfl⟩ := e
    obtain ⟨vs, ea, _⟩ := rh b _ eb
    obtain ⟨mA, J, _⟩ := ins_get I.hok ea
    obtain ⟨od, J, _⟩ := J.look
    exact J.type
  | _ => exact e.elim
theorem run_gfA {X : Cx} {A' : Around} {k : Nat} {f : Addr} {fd : FuncData} {ps : List Str} {sp : SpD} {pins : List (Addr × Obj)} {σ : L2.St} {H : Hp} {s : Shared} {Q : VK} {us : List Value} {vs : List V} {ds : List D} {h : HD} {Q' : DK} {ρ : En} (F : GF X.prog X.w X.K X.mg X.base k f fd ps sp) (hr : Room k A') (hg : A'.guards = some []) (hfr : A'.frames = X.A.frames) (hb : Binds X.K fd ps [])
    (I : Inv X pins σ H s) (r : Vals vs us) (sl : Sl X.K σ H ρ) (rh : RH X.K H h) (rd : RDs X.K H vs ds) (hs : sp ds h Q' noX) (kq : ∀ v d H' h', RD X.K H' v d → Stp X.K H h H' h' → Q' d h' → Q v H') : wpAny (model X.prog X.w) A' (call (.ref f) us) (EP X pins σ Q) X.xe s := by
  have hl : us.length = ps.length := by rw [← r.length, rd.length]; exact F.len _ _ _ _ hs
  have b := hb s us I.kIn (by rw [List.append_nil]; exact hl)
  rw [List.append_nil] at b
  have e := I.env0
  have e0 : Env0 X.prog X.w X.K X.mg X.base A' X.stack s H := ⟨by rw [hfr]; exact e.frames, e.mod, e.bs, e.bsz, e.funs, e.frf, e.hok, e.bare⟩
  refine wpAny_call (codeAny_mono (F.run A' X.stack s H ⟨us, []⟩ us vs Q (lowX X.K (H, h) noX) hr hg e0 b r ⟨ds, h, Q', noX, rd, rh, hs, kq, fun _ _ _ z => z⟩) fun r s' hq => ?_)
  cases r with
  | error er =>
    refine (TkD.none (X := X) (B := (H, h))) _ _ (XE.of_call I (fun cls d H' z => ?_) hq)
    obtain ⟨h', fs, st, xr, w⟩ := z
    exact w.elim
  | ok fl =>
    cases fl with
    | ret u => exact I.after hq
    | next => exact False.elim hq
    | brk => exact False.elim hq
    | cont => exact False.elim hq
section
variable {X : Cx} {B : Bs} {C f : Addr} {k : Nat} {fd : FuncData} {ps : List Str} {sp : SpD}
def isBl : D → Prop
  | .bl _ => True
  | _ => False
/-- x == y, x of the class at C whose __eq__ keeps sp -/
def cEqI (K : PySem.W.Frag) (C : Addr) (sp : SpD) : C2 := fun x y h Q => (∃ a dx fs, x = .ref a ∧ h a = some (.ins C dx fs)) ∧ (∃ tb, tyD h y tb ∧ PySem.W.notFirst K C tb = true) ∧ sp [x, y] h (fun v h' => isBl v ∧ Q v h') noX
theorem od_eqI (F : GF X.prog X.w X.K X.mg X.base k f fd ps sp) (hr : Room k X.A) (hgd : X.A.guards = some []) (hb : Binds X.K fd ps []) (hs : PySem.W.findIn X.K (.ref C) "__eq__" = some (some (.ref f))) (hf : PySem.W.isFn X.K (.ref f) = true) : OpD X (compareOp .Eq) (cEqI X.K C sp) := by
  intro pins s σ H x y v u Q I rv ru w
  obtain ⟨dx, dy, h, Q', rx, ry, rh, ⟨⟨a, ddx, fs, rfl, ea⟩, ⟨tb, ty, nf⟩, hsp⟩, kq⟩ := w
  cases (show x = V.ref a from rx); cases (show v = Value.ref a from rv)
  obtain ⟨vs, ea', _⟩ := rh a _ ea
  obtain ⟨mA, J, _⟩ := ins_get I.hok ea'
  obtain ⟨od, J, _⟩ := J.look
  obtain ⟨m, hF⟩ := I.fr
  show wpAny (model X.prog X.w) X.A (richCompare .Eq (.ref a) u) (EP X pins σ Q) X.xe s
  refine PySem.W.cmp_K (op := .Eq) (tb := tb) hr.units0 hF I.ok.mod.kin J (tyD_looks I rh ry ru ty) nf hs hf ?_
  have sl0 : Sl X.K σ H (List.replicate σ.length none) := ⟨List.length_replicate, fun i d e => by
    rw [List.getElem?_replicate] at e
    split at e <;> cases e⟩
  refine wpAny_mono (run_gfA (ρ := List.replicate σ.length none) (Q := fun v H' => (∃ b, v = .bl b) ∧ Q v H') F hr hgd rfl hb I (vs := [.ref a, y]) (.cons rfl (.cons ru .nil)) sl0 rh (ds := [.ref a, dy]) ⟨_, _, rfl, rfl, _, _, rfl, ry, rfl⟩ hsp fun v d H' h' r' s' q' => ?_) (fun r s' z => ?_) fun _ _ z => z
  · obtain ⟨ib, q⟩ := q'
    cases d with
    | bl b => cases (show v = V.bl b from r'); exact ⟨⟨b, rfl⟩, kq _ (.bl b) H' h' rfl s' q⟩
    | _ => exact ib.elim
  · obtain ⟨v, H', I', rz, ⟨b, rfl⟩, q⟩ := z
    cases rz
    exact ⟨.bl b, H', I', rfl, q⟩
/-- x != y of one class whose __ne__ is object's -/
def cNeI (C : Addr) (sp : SpD) : C2 := fun x y h Q => (∃ a dx fs, x = .ref a ∧ h a = some (.ins C dx fs)) ∧ (∃ a dx fs, y = .ref a ∧ h a = some (.ins C dx fs)) ∧ sp [x, y] h (fun v h' => ∃ b, v = .bl b ∧ Q (.bl (!b)) h') noX
/-- what the text must say of the class at C for != -/
def neB (K : PySem.W.Frag) (C f : Addr) : Bool := match K.lookup C with
  | some ⟨.type "type", _, .cls cd, sl⟩ => (match cd.mro, sl.toList with
    | [.ref C', .type "object"], [_, _, _, _, some (.builtin _), _] => C' == C && !cd.hasDel && PySem.W.nsOkIn K cd.ns && decide (PySem.W.nsIn K cd.ns "__eq__" = some (some (.ref f))) && decide (PySem.W.nsIn K cd.ns "__ne__" = some none)
    | _, _ => false) && (match K.lookup f with
    | some ⟨.type "function", _, _, _⟩ => true
    | _ => false)
  | _ => false
theorem ns_some_of {K : PySem.W.Frag} {h : Heap} {N : Addr} {mg : Str → Option Value} {n : Str} {v : Value} (X : K.In h) (G : h.Ns N mg) (e : PySem.W.nsIn K N n = some (some v)) : mg n = some v := by
  obtain ⟨o, es, ep, ho, hd, _, hf⟩ := G
  unfold PySem.W.nsIn at e
  split at e
  · rename_i c d es' n' sl q
    have := X _ _ q
    rw [ho] at this
    cases this
    cases hd
    split at e
    · rename_i en he
      rw [← hf]
      unfold nsFind findBy
      rw [← Array.find?_toList, he]
      cases e
      rfl
    · split at e <;> cases e
  · cases e
theorem ne_own {K : PySem.W.Frag} {h : Heap} {x : Addr} {o : Obj} (X : K.In h) (q : neB K C f = true) (hx : h.get? x = some o) (hc : o.cls = .ref C) : h.OwnEqNoNe x C f "object" [.type "object"] := by
  unfold neB at q
  split at q
  · rename_i dd cd sl hC
    rw [Bool.and_eq_true] at q
    obtain ⟨q1, q2⟩ := q
    split at q2
    · rename_i d2 dt2 sl2 hF
      split at q1
      · rename_i C' k0 k1 k2 k3 nid k5 hm hsl
        simp only [Bool.and_eq_true, Bool.not_eq_true', decide_eq_true_eq, beq_iff_eq] at q1
        obtain ⟨⟨⟨⟨e1, e2⟩, e3⟩, e4⟩, e5⟩ := q1
        subst e1
        have G : h.Ns cd.ns (h.nsMap cd.ns) := .of_isNs (PySem.W.isNs_of_in X e3)
        obtain ⟨nm, bs, mro, ns, qn, hd, sn, sb, ab, col, del⟩ := cd
        dsimp only at hm e2 G e4 e5
        subst hm e2
        obtain ⟨sll⟩ := sl
        dsimp only at hsl
        subst hsl
        refine ⟨o, _, nm, qn, ns, bs, hd, sn, sb, ab, col, dd, k0, k1, k2, k3, k5, nid, h.nsMap ns, some (.builtin "object.__eq__"), hx, hc, X _ _ hC, G, ns_some_of X G e4, X _ _ hF, rfl, PySem.F.mro_object, PySem.F.cmp_object.eq.lookup, PySem.W.ns_none_of X G e5⟩
      · cases q1
    · cases q2
  · cases q
theorem od_neI (F : GF X.prog X.w X.K X.mg X.base k f fd ps sp) (hr : Room (k + 1) X.A) (hgd : X.A.guards = some []) (hb : Binds X.K fd ps []) (hne : neB X.K C f = true) : OpD X (compareOp .NotEq) (cNeI C sp) := by
  intro pins s σ H x y v u Q I rv ru w
  obtain ⟨dx, dy, h, Q', rx, ry, rh, ⟨⟨a, ddx, fs, rfl, ea⟩, ⟨b, ddy, gs, rfl, eb⟩, hsp⟩, kq⟩ := w
  cases (show x = V.ref a from rx); cases (show v = Value.ref a from rv)
  cases (show y = V.ref b from ry); cases (show u = Value.ref b from ru)
  obtain ⟨vs, ea', _⟩ := rh a _ ea
  obtain ⟨ws, eb', _⟩ := rh b _ eb
  have oa := (show ObjOk X.prog X.w H s.heap a (.ins C ddx vs) from I.hok a _ ea').2.2.2.1
  have ob := (show ObjOk X.prog X.w H s.heap b (.ins C ddy ws) from I.hok b _ eb').2.2.2.1
  have sl0 : Sl X.K σ H (List.replicate σ.length none) := ⟨List.length_replicate, fun i d e => by
    rw [List.getElem?_replicate] at e
    split at e <;> cases e⟩
  have hru : X.A.units + 1 < cLine := hr.in1.units0
  have go := run_gfA (A' := X.A.in1) (ρ := List.replicate σ.length none) (Q := fun v H' => ∃ b, v = .bl b ∧ Q (.bl (!b)) H') F hr.in1 (by first | exact hgd | (show X.A.in1.guards = _; exact hgd)) rfl hb I (vs := [.ref a, .ref b]) (us := [.ref a, .ref b]) (.cons rfl (.cons rfl .nil)) sl0 rh (ds := [.ref a, .ref b]) ⟨_, _, rfl, rfl, _, _, rfl, rfl, rfl⟩ hsp fun v d H' h' r' s' q' => by
    obtain ⟨bb, rfl, q⟩ := q'
    cases (show v = V.bl bb from r')
    exact ⟨bb, rfl, kq _ (.bl (!bb)) H' h' rfl s' q⟩
  obtain ⟨hh, g, d, t, os⟩ := s
  refine compareOp_ne_ownEq PySem.F.cmp_object (ne_own I.kIn hne oa rfl) ob rfl hru (wpAny_mono go (fun r s' z => ?_) fun _ _ z => z)
  obtain ⟨v, H', I', rz, bb, rfl, q⟩ := z
  cases rz
  exact ⟨bb, rfl, .bl (!bb), H', I', rfl, q⟩
end
end PD

-- PdL
set_option Elab.async false
set_option linter.all false
set_option maxRecDepth 100000
set_option maxHeartbeats 4000000
/-! PdL: defs by name; a law's end over the data layer (the end follows HandS.Ends, with another contract). -/
namespace PD
open PySem PySem.Spec PyProof.Rows L2

/-- the def x keeps sp, within k levels -/
structure Dn (P : Program) (w : World) (K : PySem.W.Frag) (mg : Str → Option Value) (base : Heap) (x : Str) (k : Nat) (ps : List Str) (sp : SpD) : Prop where
  ex : ∃ f fd, mg x = some (.ref f) ∧ PySem.W.keepIn K (.ref f) = true ∧ Binds K fd ps [] ∧ GF P w K mg base k f fd ps sp
theorem Dn.mono {P : Program} {w : World} {K : PySem.W.Frag} {mg : Str → Option Value} {base : Heap} {x : Str} {j k : Nat} {ps : List Str} {sp : SpD} (d : Dn P w K mg base x j ps sp) (h : j ≤ k) : Dn P w K mg base x k ps sp := by
  obtain ⟨f, fd, a, b, c, F⟩ := d.ex
  exact ⟨f, fd, a, b, c, F.mono h⟩
theorem Dn.imp {P : Program} {w : World} {K : PySem.W.Frag} {mg : Str → Option Value} {base : Heap} {x : Str} {k : Nat} {ps : List Str} {sp sp' : SpD} (d : Dn P w K mg base x k ps sp) (i : ∀ ds h Q E, sp' ds h Q E → sp ds h Q E) : Dn P w K mg base x k ps sp' := by
  obtain ⟨f, fd, a, b, c, F⟩ := d.ex
  exact ⟨f, fd, a, b, c, F.imp i⟩
section
variable {X : Cx} {B : Bs} {k : Nat} {ps : List Str} {sp : SpD} {x : Str} {p pos : Pos} {e : Expr} {es : List Expr} {t : CA}
theorem qe_fn {W : En → XD} (D : Dn X.prog X.w X.K X.mg X.base x k ps sp) (hr : Room k X.A) (hgd : X.A.guards = some []) (tk : TkD X B W) (ha : QA X B (e :: es) t) (hg : Gl X x := by rfl)
    (hdb : (x == ("__debug__" : Str)) = false := by decide) (he : starEach (e :: es) X.env = (false, eval e X.env) :: starEach es X.env := by rfl) (hpl : (backTo pos (starEach es X.env)).any (·.1) = false := by rfl) :
    QE X B (.Call (.Name x p) (e :: es) [] pos) (cFn sp W t) := by
  obtain ⟨f, fd, a, b, c, F⟩ := D.ex
  exact qe_call F hr hgd hg a b c tk ha hdb he hpl
theorem qe_fn0 {W : En → XD} (D : Dn X.prog X.w X.K X.mg X.base x k ps sp) (hr : Room k X.A) (hgd : X.A.guards = some []) (tk : TkD X B W) (hg : Gl X x := by rfl) (hdb : (x == ("__debug__" : Str)) = false := by decide) :
    QE X B (.Call (.Name x p) [] [] pos) (cFn sp W cNil) := by
  obtain ⟨f, fd, a, b, c, F⟩ := D.ex
  exact qe_call0 F hr hgd hg a b c tk hdb
end
theorem fun_of {K : PySem.W.Frag} {x qual : Str} {st : Stmt} {f : Addr} {fd : FuncData} (F : FunD K x qual (defArgs st) (defBody st) (defScope st) [] [] f fd) : Fun K x qual st f fd := by
  obtain ⟨⟨oc, od, dV, kV, doc, pm, an, cdv, ct, osl, e, l, c, d, _⟩, kp⟩ := F
  rcases d with ⟨_, rfl⟩ | ⟨n, _⟩
  · exact ⟨⟨oc, od, kV, doc, pm, an, cdv, ct, osl, e, l, c⟩, kp⟩
  · exact absurd rfl n
theorem dn_of {P : Program} {w : World} {K : PySem.W.Frag} {mg : Str → Option Value} {base : Heap} {x : Str} {k : Nat} {ps : List Str} {sp : SpD} {f : Addr} {fd : FuncData} (m : mg x = some (.ref f)) (kp : PySem.W.keepIn K (.ref f) = true) (b : Binds K fd ps []) (F : GF P w K mg base k f fd ps sp) : Dn P w K mg base x k ps sp := ⟨f, fd, m, kp, b, F⟩

/-! ### a law's end -/
theorem law_callG {P : Program} {w : World} {K : PySem.W.Frag} {mg mb : Str → Option Value} {k : Nat} {fa a : Addr} {fd : FuncData} {x : Str} {sp : SpD} {s₁ : Shared} {vs : List Value} {ns : List Int}
    (KX : K.In s₁.heap) (hns : s₁.heap.Ns mainGlobals mg) (hb : s₁.heap.Ns builtinsNs mb) (hbb : ∀ x : Str, x ≠ "__name__" → mb x = bootBuiltins x) (hlim : s₁.heap.NoLimit) (hg : s₁.gens = #[])
    (ha : s₁.heap.get? a = some { cls := .type "list", data := .seq vs.toArray }) (hi : IntsAre vs ns) (hl : ns.length ≤ sizeLine) (hr : Room k callerA)
    (F : ∀ base : Heap, K.In base → base.Ns mainGlobals mg → GF P w K mg base k fa fd [x] sp) (hbind : ∀ (s : Shared) (u : Value), BindsTo s fd ⟨[u], []⟩ [(x, u)])
    (hsp : sp [.fl (ns.map D.int)] (fun _ => none) (fun v _ => v = .bl true) noX) :
    codeAny (model P w) callerA (.call (.ref fa) ⟨[.ref a], []⟩) (fun r s' => r = .ok (.ret (.bool true)) ∧ OldK s₁.heap s'.heap ∧ s'.os = s₁.os ∧ AllBare s'.gens) s₁ := by
  have rv := vals_ints hi
  have lenV := hi.length
  have core : ∀ H : Hp, Only H → RD K H (.ref a) (.fl (ns.map D.int)) → HOk P w H s₁.heap → (∀ b, H b ≠ none → b = a) → (H a ≠ none → K.lookup a = none) →
      codeAny (model P w) callerA (.call (.ref fa) ⟨[.ref a], []⟩) (fun r s' => r = .ok (.ret (.bool true)) ∧ OldK s₁.heap s'.heap ∧ s'.os = s₁.os ∧ AllBare s'.gens) s₁ := by
    intro H hO hR hok hA hK
    have isA : ∀ {b : Addr} {u : HO}, H b = some u → b = a := fun {b u} e => hA b (by rw [e]; simp)
    have base_of : ∀ {b : Addr} {o : Obj}, s₁.heap.get? b = some o → H b = none → (hidT s₁.heap H).get? b = some o := fun e n => hidT_get e n
    have noA : ∀ {b : Addr} {o : Obj} {es : Array DictEntry} {ep : Nat}, s₁.heap.get? b = some o → o.data = .dict es ep → H b = none := fun {b o es ep} e d => by
      cases q : H b with
      | none => rfl
      | some u =>
        cases isA q
        rw [ha] at e; cases e
        cases (show Data.seq vs.toArray _ = Data.dict es ep from d)
    have nsK : ∀ {b : Addr} {m : Str → Option Value}, s₁.heap.Ns b m → (hidT s₁.heap H).Ns b m := fun {b m} ⟨o, es, ep, e, d, r⟩ => ⟨o, es, ep, base_of e (noA e d), d, r⟩
    have hKb : K.In (hidT s₁.heap H) := fun b o e => base_of (KX b o e) (by
      cases q : H b with
      | none => rfl
      | some u =>
        cases isA q
        rw [hK (by rw [q]; simp)] at e; cases e)
    have hM : Mod K mg (hidT s₁.heap H) := ⟨hKb, nsK hns, ⟨mb, nsK hb, hbb⟩, let ⟨mc, h1, h2⟩ := hlim; ⟨mc, nsK h1, h2⟩⟩
    have e0 : Env0 P w K mg (hidT s₁.heap H) callerA [] s₁ H := ⟨rfl, hM, fun b o e => of_hidT e, Nat.le_of_eq (hidT_size _ _), trivial, fun b hb => absurd (show b ∈ ([] : List Addr) from hb) (by simp), hok, .of_eq hg⟩
    refine codeAny_mono ((F _ hKb (nsK hns)).run callerA [] s₁ H ⟨[.ref a], []⟩ [.ref a] [.ref a] (fun v _ => v = .bl true) (fun _ _ _ => False) hr rfl e0 (hbind s₁ (.ref a)) (.cons rfl .nil)
      ⟨[.fl (ns.map D.int)], fun _ => none, _, noX, ⟨_, _, rfl, hR, rfl⟩, fun b o e => (by cases e), hsp, fun v d H' h' r _ q => (by subst q; exact r), fun _ _ _ ⟨_, _, _, _, z⟩ => z⟩) fun r s' h => ?_
    cases r with
    | error e =>
      obtain ⟨_, _, _, _, _, _, _, _, _, _, _, _, z⟩ := h
      exact False.elim z
    | ok fl =>
      cases fl with
      | next => exact False.elim h
      | brk => exact False.elim h
      | cont => exact False.elim h
      | ret u =>
        obtain ⟨v, H', os, bare, un, hok', r', q⟩ := h
        subst q
        obtain rfl : u = Value.bool true := r'
        refine ⟨rfl, OldK.of_keep fun b o e => ?_, os, bare⟩
        cases q : H b with
        | none => exact un.keep b o e q (by intro z; exact absurd (show b ∈ ([] : List Addr) from z) (by simp)) (by simp)
        | some u =>
          rcases hO b with z | ⟨ob, xs, z⟩
          · rw [q] at z; cases z
          · obtain ⟨e1, _⟩ := hok b _ z
            obtain ⟨e2, _⟩ := hok' b _ (un.frzs b ob _ z)
            rw [e] at e1; cases e1
            exact e2
  have rds : ∀ H : Hp, RDs K H (ns.map V.int) (ns.map D.int) := fun H => RDs.ofInts ns
  cases hk : K.lookup a with
  | some o =>
    have e := KX a o hk
    rw [ha] at e
    cases e
    exact core (fun _ => none) (fun _ => .inl rfl) ⟨a, ns.map V.int, rfl, .inr (.inr ⟨_, vs.toArray, _, hk, rfl, rfl, rfl, by rw [List.size_toArray, lenV]; exact hl, by simpa using rv⟩), rds _⟩ (fun b u z => by cases z) (fun b z => absurd rfl z) fun z => absurd rfl z
  | none =>
    have at_ : ∀ b, b = a → (fun b => if b = a then some (HO.frz { cls := .type "list", data := .seq vs.toArray } (.lst (ns.map V.int))) else none) b = some (HO.frz { cls := .type "list", data := .seq vs.toArray } (.lst (ns.map V.int))) := fun b e => if_pos e
    have no_ : ∀ b, b ≠ a → (fun b => if b = a then some (HO.frz { cls := .type "list", data := .seq vs.toArray } (.lst (ns.map V.int))) else none) b = none := fun b e => if_neg e
    refine core (fun b => if b = a then some (.frz { cls := .type "list", data := .seq vs.toArray } (.lst (ns.map V.int))) else none) (fun b => ?_) ⟨a, ns.map V.int, rfl, .inl ⟨{ cls := .type "list", data := .seq vs.toArray }, if_pos rfl⟩, rds _⟩ (fun b u z => ?_) (fun b z => ?_) fun _ => hk
    · by_cases hb : b = a
      · exact .inr ⟨_, _, at_ b hb⟩
      · exact .inl (no_ b hb)
    · by_cases hb : b = a
      · cases (at_ b hb).symm.trans z
        subst hb
        exact ⟨ha, by rw [List.length_map]; exact hl, vs, _, rv, ha⟩
      · cases (no_ b hb).symm.trans z
    · by_cases hb : b = a
      · exact hb
      · exact absurd (no_ b hb) z
/-- a law: F gives the written part, the function object, the promise over every base -/
theorem walk_ofG {l : PySem.W.OpenLaw} {n k : Nat} {q : Program} {loose : List Str} {XP : (Str → Option Value) → Heap → Prop} {YP : World → Heap → Prop} {d : DefRec} {x : Str}
    (hn : l.most = some n) (hn2 : n ≤ sizeLine) (hdf : d.params.defaults = []) (hr : Room k callerA)
    (F : ∀ (w : World) (mg : Str → Option Value) (fa : Addr) (h : Heap), YP w h → h.Ns mainGlobals mg → mg d.name = some (.ref fa) →
      ∃ (K : PySem.W.Frag) (fd : FuncData) (sp : SpD), K.In h ∧ (∀ (s : Shared) (u : Value), BindsTo s fd ⟨[u], []⟩ [(x, u)]) ∧
        (∀ ns : List Int, ns.length ≤ n → (∀ k ∈ ns, Builtin.Int.intBits k ≤ 1048576) → sp [.fl (ns.map D.int)] (fun _ => none) (fun v _ => v = .bl true) noX) ∧
        ∀ base : Heap, K.In base → base.Ns mainGlobals mg → GF l.prog w K mg base k fa fd [x] sp) :
    PySem.W.WalkO q loose XP YP l.row.toRowW d [] (fun f vs => PySem.call f vs) := by
  refine Att.attach_callB hn hdf fun w s₀ s₁ mg mb fa o pm cd doc a vs ns G Y ho hd hcd hmg hobj hints hlen hbits hg => ?_
  obtain ⟨K, fd, sp, KX, hb, hsp, hF⟩ := F w mg fa _ Y G.T.g hmg
  exact law_callG KX G.T.g G.T.b G.T.builtins G.T.nolimit hg hobj hints (Nat.le_trans hlen hn2) hr hF hb (hsp ns hlen hbits)
end PD

-- PdM
set_option Elab.async false
set_option linter.all false
set_option maxRecDepth 100000
set_option maxHeartbeats 4000000
/-! PdM: names of the module and of the built-ins; small things that the printed walks lean on. -/
namespace PD
open PySem PySem.Spec PyProof.Rows L2

def libNames : List Str := ["len", "tuple", "list", "dict", "abs", "int", "bool", "str", "any", "all", "sum", "max", "min", "isinstance", "repr", "range", "enumerate", "zip", "sorted", "ValueError"]
/-- the text shadows none of these -/
structure Lib (mg : Str → Option Value) : Prop where
  all_ : ∀ x ∈ libNames, mg x = none
theorem Lib.n {mg : Str → Option Value} (L : Lib mg) (x : Str) (h : x ∈ libNames := by decide +kernel) : mg x = none := L.all_ x h
theorem b_len : bootBuiltins "len" = some (.builtin "len") := by decide +kernel
theorem b_tuple : bootBuiltins "tuple" = some (.type "tuple") := by decide +kernel
theorem b_list : bootBuiltins "list" = some (.type "list") := by decide +kernel
theorem b_dict : bootBuiltins "dict" = some (.type "dict") := by decide +kernel
theorem b_int : bootBuiltins "int" = some (.type "int") := by decide +kernel
theorem b_bool : bootBuiltins "bool" = some (.type "bool") := by decide +kernel
theorem b_str : bootBuiltins "str" = some (.type "str") := by decide +kernel
theorem b_abs : bootBuiltins "abs" = some (.builtin "abs") := by decide +kernel
theorem b_any : bootBuiltins "any" = some (.builtin "any") := by decide +kernel
theorem b_all : bootBuiltins "all" = some (.builtin "all") := by decide +kernel
theorem b_sum : bootBuiltins "sum" = some (.builtin "sum") := by decide +kernel
theorem b_max : bootBuiltins "max" = some (.builtin "max") := by decide +kernel
theorem b_min : bootBuiltins "min" = some (.builtin "min") := by decide +kernel
theorem b_isinstance : bootBuiltins "isinstance" = some (.builtin "isinstance") := by decide +kernel
theorem b_repr : bootBuiltins "repr" = some (.builtin "repr") := by decide +kernel
theorem b_sorted : bootBuiltins "sorted" = some (.builtin "sorted") := by decide +kernel

/-- the module's name x stands for d -/
def GD (K : PySem.W.Frag) (mg : Str → Option Value) (x : Str) (d : D) : Prop := ∃ z u, mg x = some u ∧ RelV z u ∧ ∀ H, RD K H z d
theorem GD.int {K : PySem.W.Frag} {mg : Str → Option Value} {x : Str} {i : Int} (h : ∃ t, mg x = some (.int i t)) : GD K mg x (.int i) := by
  obtain ⟨t, e⟩ := h
  exact ⟨.int i, _, e, ⟨t, rfl⟩, fun _ => rfl⟩
theorem GD.ref {K : PySem.W.Frag} {mg : Str → Option Value} {x : Str} {a : Addr} (h : mg x = some (.ref a)) : GD K mg x (.ref a) := ⟨.ref a, _, h, rfl, fun _ => rfl⟩
theorem GD.pair {K : PySem.W.Frag} {mg : Str → Option Value} {x : Str} {a : Addr} {i j : Int} (h : mg x = some (.ref a)) (s : ∀ H, SqT K H a [V.int i, V.int j]) : GD K mg x (.tup [.int i, .int j]) :=
  ⟨.ref a, _, h, rfl, fun H => ⟨a, _, rfl, s H, RDs.ofInts [i, j]⟩⟩
section
variable {X : Cx} {B : Bs} {x : Str} {pos p : Pos} {d : D}
theorem qe_gd (h : GD X.K X.mg x d) (hg : Gl X x := by rfl) (hd : (x == ("__debug__" : Str)) = false := by decide) : QE X B (.Name x pos) (cC d) := by
  obtain ⟨z, u, m, r, rd⟩ := h
  exact qe_glob hg m r rd hd
/-- a built-in type as a value -/
theorem qe_ty {n : String} (hm : X.mg x = none) (hv : bootBuiltins x = some (.type n)) (hg : Gl X x := by rfl) (hn : x ≠ "__name__" := by decide) (hd : (x == ("__debug__" : Str)) = false := by decide) : QE X B (.Name x pos) (cC (.ty n)) :=
  qe_bltn hg hm hv (z := .ty n) rfl (fun _ => rfl) hn hd
end
theorem room_u {A : Around} {k : Nat} (h : Room k A) : A.units + 150 < cLine := by
  have := h.un
  omega
theorem uu {a b c : Nat} (h : a + 150 < c) (hb : b ≤ 150 := by decide) : a + b < c := by omega
theorem u0 {a c : Nat} (h : a + 150 < c) : a < c := by omega
section
variable {X : Cx} {B : Bs} {pos : Pos}
def cPar3 (i j l : Nat) (t : CA) : CS := fun Z ρ h => t ρ h fun ds h1 => match ds with
  | [d, e, f] => Z.nx (((ρ.set i (some d)).set j (some e)).set l (some f)) h1
  | _ => False
theorem RDs.three {K : PySem.W.Frag} {H : Hp} {vs : List V} {d e f : D} (r : RDs K H vs [d, e, f]) : ∃ v w z, vs = [v, w, z] ∧ RD K H v d ∧ RD K H w e ∧ RD K H z f := by
  obtain ⟨v, r1, rfl, q1, w, r2, rfl, q2, z, r3, rfl, q3, rfl⟩ := r
  exact ⟨v, w, z, rfl, q1, q2, q3⟩
theorem qs_par3 {i j l : Nat} {x y z : Str} {a b c : Expr} {px py pz pt : Pos} {kt k2 pt2} {u : CA} (hc : X.calm = true) (hN : X.N.Nodup) (hi : X.N[i]? = some x) (hj : X.N[j]? = some y) (hl : X.N[l]? = some z) (hij : i ≠ j) (hil : i ≠ l) (hjl : j ≠ l)
    (hx : X.env.scope.names.lookup x = some .local) (hy : X.env.scope.names.lookup y = some .local) (hz : X.env.scope.names.lookup z = some .local) (ha : QA X B [a, b, c] u)
    (hw : swappedStores [.Tuple [.Name x px, .Name y py, .Name z pz] kt pt] (.Tuple [a, b, c] k2 pt2) X.env = pure (some [x, y, z]))
    (hs : swapsWithSole [.Tuple [.Name x px, .Name y py, .Name z pz] kt pt] (.Tuple [a, b, c] k2 pt2) pos.line X.env = pure false := by rfl) :
    QS X B (.Assign [.Tuple [.Name x px, .Name y py, .Name z pz] kt pt] (.Tuple [a, b, c] k2 pt2) pos) (cPar3 i j l u) := PS.imp (ps_par3 hc hN hi hj hl hij hil hjl hx hy hz ha hw hs) fun E σ H w => by
  obtain ⟨ρ, h, D', sl, rh, ht, lk⟩ := w
  refine ⟨ρ, h, _, sl, rh, ht, fun vs ds H1 h1 r s q => ?_⟩
  match ds, q with
  | [d, e, f], q =>
    obtain ⟨v, w, z, rfl, r1, r2, r3⟩ := r.three
    exact ⟨v, w, z, rfl, lk.nx _ _ H1 h1 ((((sl.mono s.ts).set r1).set r2).set r3) s q⟩
end
/-- what is walked: a list, a tuple; a dict's keys -/
def cSrcA (P : Program) (w : World) (t : CE) : CI := fun ρ h Q => cSrc t ρ h Q ∨ cKeys P w t ρ h Q
theorem qi_any {X : Cx} {B : Bs} {tg e : Expr} {t : CE} (he : QE X B e t) : QI X B tg e (cSrcA X.prog X.w t) := ⟨fun pins s σ H R I w => by
  obtain ⟨ρ, h, Q', sl, rb, ht, k⟩ := w
  rcases ht with ht | ht
  · exact (qi_src he).run pins s σ H R I ⟨ρ, h, Q', sl, rb, ht, k⟩
  · exact (qi_keys he).run pins s σ H R I ⟨ρ, h, Q', sl, rb, ht, k⟩⟩
/-- C(..), C a class of the module -/
structure Dm (P : Program) (w : World) (K : PySem.W.Frag) (mg : Str → Option Value) (base : Heap) (x : Str) (C : Addr) (k : Nat) (ps : List Str) (sp : SpD) : Prop where
  ex : ∃ f fd, Mk K C f ∧ mg x = some (.ref C) ∧ Binds K fd ps [] ∧ GF P w K mg base k f fd ps sp
theorem qe_mk {X : Cx} {B : Bs} {k : Nat} {ps : List Str} {sp : SpD} {x : Str} {C : Addr} {p pos : Pos} {e : Expr} {es : List Expr} {t : CA} {W : En → XD} (M : Dm X.prog X.w X.K X.mg X.base x C k ps sp) (hr : Room (k + 1) X.A) (hgd : X.A.guards = some []) (tk : TkD X B W) (ha : QA X B (e :: es) t) (hg : Gl X x := by rfl)
    (hdb : (x == ("__debug__" : Str)) = false := by decide) (he : starEach (e :: es) X.env = (false, eval e X.env) :: starEach es X.env := by rfl) (hpl : (backTo pos (starEach es X.env)).any (·.1) = false := by rfl) :
    QE X B (.Call (.Name x p) (e :: es) [] pos) (cMake C sp W t) := by
  obtain ⟨f, fd, a, b, c, F⟩ := M.ex
  exact qe_make a F hr hgd hg b c tk ha hdb he hpl
/-- C(e), C an own error class whose __init__ keeps e under the name f -/
structure De (K : PySem.W.Frag) (P : Program) (w : World) (mg : Str → Option Value) (base : Heap) (x : Str) (C : Addr) (f pn : Str) : Prop where
  ex : ∃ fI fd, OexC K C ∧ PySem.W.findIn K (.ref C) f = some none ∧ PySem.W.findIn K (.ref C) "__init__" = some (some (.ref fI)) ∧ PySem.W.typeIn K (.ref fI) = some (.type "function") ∧ mg x = some (.ref C) ∧ Binds K fd [("self" : Str), pn] [] ∧
    FnOk P w K mg base CX0 1 fI fd [("self" : Str), pn] (spI K f)
theorem qm_x {X : Cx} {B : Bs} {x : Str} {C : Addr} {f pn : Str} {p pos : Pos} {e : Expr} {te : CE} (M : De X.K X.prog X.w X.mg X.base x C f pn) (hr : Room 2 X.A) (ha : QE X B e te) (hg : Gl X x := by rfl)
    (hdb : (x == ("__debug__" : Str)) = false := by decide) (he : starEach [e] X.env = (false, eval e X.env) :: starEach [] X.env := by rfl) (hpl : (backTo pos (starEach [] X.env)).any (·.1) = false := by rfl) :
    QM X B (.Call (.Name x p) [e] [] pos) (fun ρ h E => te ρ h fun y h1 => E (.ref C) (some [(f, y)]) h1) := by
  obtain ⟨fI, fd, T, hno, iC, tI, hm, hb, F1⟩ := M.ex
  exact qm_init T hno iC tI F1 hr hb hg hm ha hdb he hpl
/-- C(), C an own error class without __init__ -/
structure D0 (K : PySem.W.Frag) (mg : Str → Option Value) (x : Str) (C : Addr) : Prop where
  q : PySem.W.excIn K C He.veBase "ValueError.__new__" = true
  k : PySem.W.keepIn K (.ref C) = true
  s : PySem.W.subIn K (.ref C) (.type "BaseException") = some true
  t : PySem.W.typeIn K (.ref C) = some (.type "type")
  m : mg x = some (.ref C)
theorem qm_0 {X : Cx} {B : Bs} {x : Str} {C : Addr} {p pos : Pos} (M : D0 X.K X.mg x C) (hg : Gl X x := by rfl) (hdb : (x == ("__debug__" : Str)) = false := by decide) : QM X B (.Call (.Name x p) [] [] pos) (cMk0 C) :=
  qm_own0 PySem.F.excBase_ValueError M.q M.m M.k (raises_own M.s M.t) hg hdb
/-- {k: v}, k a number -/
def cD1 (tk tv : CE) : CE := fun ρ h Q => tk ρ h fun x h1 => match x with
  | .int i => tv ρ h1 fun y h2 => ∀ p, h2 p = none → Q (.ref p) (updD h2 p (.dK [(.inl i, y)]))
  | _ => False
theorem stp_show {K : PySem.W.Frag} {H H2 : Hp} {h h2 : HD} {p : Addr} {o o' : HO} {b : OB} (np : H p = none) (s2 : Stp K (upd H p o) h H2 h2) (hH : H p = none) (rh : RH K H h) (e2 : H2 p = some o) (im : Imm o = false) (hp : h2 p = none) (ro : RO K (upd H2 p o') p b) : Stp K H h (upd H2 p o') (updD h2 p b) := by
  have kp : Kep H2 (upd H2 p o') := fun a u eu iu => by
    by_cases z : a = p
    · rw [z, e2] at eu; cases eu; rw [im] at iu; cases iu
    · rw [upd_ne z]; exact eu
  have k0 : Kep H (upd H p o) := fun a u e _ => by rw [upd_ne (ne_of_none e np)]; exact e
  refine ⟨(k0.trans s2.ts).trans kp, fun a q => ?_, fun a q => ?_, fun a u e => ?_, fun a u e n t => ?_⟩
  · by_cases z : a = p
    · rw [z, upd_same]; simp
    · rw [upd_ne z]; exact s2.dm a (by rw [upd_ne z]; exact q)
  · by_cases z : a = p
    · exact .inr (by rw [z]; exact np)
    · rw [updD_ne z] at q
      rcases s2.nf a q with y | y
      · exact .inl y
      · rw [upd_ne z] at y; exact .inr y
  · by_cases z : a = p
    · subst z; rw [updD_same] at e; cases e; exact ro
    · rw [updD_ne z] at e; exact (s2.rh a u e).keep kp (upd_ne z)
  · have z : a ≠ p := ne_of_none e np
    rw [upd_ne z]
    exact s2.hd a u (by rw [upd_ne z]; exact e) n t
theorem qe_d1 {X : Cx} {B : Bs} {k v : Expr} {tk tv : CE} {pos : Pos} (hk : QE X B k tk) (hv : QE X B v tv) : QE X B (.Dict [some k] [v] pos) (cD1 tk tv) := PE.imp (pe_disp (pps_cons hk hv pps_nil) rfl rfl (by simp) (by simp)) fun σ H Q w => by
  obtain ⟨ρ, h, Q', sl, rb, ht, kq⟩ := w
  intro p np
  have s0 : Stp X.K H h (upd H p (.dK [])) h := .hid rb.rh np (rb.rh.none np)
  refine ⟨ρ, h, _, sl.mono s0.ts, rb.trans s0, ht, fun x dx H1 h1 rx s1 q1 => ?_⟩
  cases dx with
  | int i =>
    cases (show x = V.int i from rx)
    refine ⟨ρ, h1, _, (sl.mono s0.ts).mono s1.ts, (rb.trans s0).trans s1, q1, fun y dy H2 h2 ry s2 q2 => ?_⟩
    have s12 := s1.trans s2
    have e2 : H2 p = some (.dK []) := s12.hd p _ upd_same (rb.rh.none np) rfl
    have hp : h2 p = none := by
      cases z : h2 p with
      | none => rfl
      | some u =>
        rcases s12.nf p (by rw [z]; simp) with y | y
        · exact absurd (rb.rh.none np) y
        · rw [upd_same] at y; cases y
    refine ⟨e2, [(.inl i, y)], rfl, by simp, ?_⟩
    have kp : Kep H2 (upd H2 p (.dK [(.inl i, y)])) := fun a u eu iu => by
      by_cases z : a = p
      · rw [z, e2] at eu; cases eu; cases iu
      · rw [upd_ne z]; exact eu
    exact kq _ (.ref p) _ _ rfl (stp_show (o' := .dK [(.inl i, y)]) (b := .dK [(.inl i, dy)]) np s12 np rb.rh e2 rfl hp ⟨[(.inl i, y)], upd_same, y, [], rfl, ry.mono kp, rfl⟩) (q2 p hp)
  | _ => exact q1.elim
/-- == of texts -/
def cEqS : C2 := fun x y h Q => match x, y with
  | .str a, .str b => Q (.bl (decide (a = b))) h
  | _, _ => False
theorem od_eqS {X : Cx} : OpD X (compareOp .Eq) cEqS := by
  intro pins s σ H x y v u Q I rv ru w
  obtain ⟨dx, dy, h, Q', rx, ry, rh, hr, k⟩ := w
  match dx, dy, hr with
  | .str a, .str b, hr =>
    cases (show x = V.str a from rx); cases (show y = V.str b from ry)
    refine op_eq pins s σ H _ _ v u Q I rv ru ⟨rfl, ?_⟩
    have e : decide (V.str a = V.str b) = decide (a = b) := by
      by_cases z : a = b
      · subst z; simp
      · rw [decide_eq_false z, decide_eq_false (fun q => z (V.str.inj q))]
    rw [e]
    exact k _ (.bl (decide (a = b))) H h rfl (.refl rh) hr
/-- isinstance(e, c) in a suite, e the caught one -/
theorem qe_isE {X : Cx} {B : Bs} {a : Addr} {oe : Obj} {cls : Value} {d : Option Addr} {fs : Option (List (Str × D))} {pn : List (Addr × Obj)} {e : Expr} {es : List Expr} {u : CA} {p pos : Pos} (xr : XR X.K B.1 B.2 d fs) (hz : Zc cls d oe) (hf : ∃ vs, oe.data = .fields vs)
    (hg : Gl (X.suite a ((a, oe) :: pn)) "isinstance") (hm : (X.suite a ((a, oe) :: pn)).mg "isinstance" = none) (ha : QA (X.suite a ((a, oe) :: pn)) B (e :: es) u)
    (he : starEach (e :: es) X.env = (false, eval e X.env) :: starEach es X.env := by rfl) (hpl : (backTo pos (starEach es X.env)).any (·.1) = false := by rfl) :
    QE (X.suite a ((a, oe) :: pn)) B (.Call (.Name "isinstance" p) (e :: es) [] pos) (cCall (cIsE X.K a cls) u) :=
  PE.imp (pe_callB (X := X.suite a ((a, oe) :: pn)) (cd_isE xr hz hf) hg hm b_isinstance ha (by decide) (by decide) he hpl) fun σ H Q w => by
    obtain ⟨ρ, h, Q', sl, rb, ht, k⟩ := w
    exact ⟨ρ, h, _, sl, rb, ht, fun vs ds H1 h1 rv s1 q1 => ⟨ds, h1, Q', rv, Stp.trans rb s1, q1, fun v' d' H' h' r' s' q' => k v' d' H' h' r' (s1.trans s') q'⟩⟩
/-- a def's own place among the text's statements -/
abbrev atS (p : Program) (i : Nat) : Stmt := p.main.body.getD i (.Pass ⟨0, 0, 0, 0⟩)
def inCls : Stmt → Nat → Stmt
  | .ClassDef _ _ _ body _ _ _ _ _ _ _, i => body.getD i (.Pass ⟨0, 0, 0, 0⟩)
  | _, _ => .Pass ⟨0, 0, 0, 0⟩
abbrev FnT (K : PySem.W.Frag) (x qual : Str) (st : Stmt) (f : Addr) (fd : FuncData) : Prop := FunD K x qual (defArgs st) (defBody st) (defScope st) [] [] f fd
end PD

-- PdN
set_option Elab.async false
set_option linter.all false
set_option maxRecDepth 100000
set_option maxHeartbeats 4000000
/-! PdN: contracts of the defs that all laws share. -/
namespace PD
open PySem PySem.Spec PyProof.Rows L2
/-- what stood stands -/
def Ex (h h' : HD) : Prop := ∀ a o, h a = some o → h' a = some o
theorem Ex.refl (h : HD) : Ex h h := fun _ _ e => e
theorem Ex.trans {h h1 h2 : HD} (a : Ex h h1) (b : Ex h1 h2) : Ex h h2 := fun x o e => b x o (a x o e)
theorem Ex.new {h : HD} {p : Addr} {o : OB} (n : h p = none) : Ex h (updD h p o) := fun a u e => by
  rw [updD_ne (fun z => by rw [z, n] at e; cases e)]; exact e
theorem Ex.new' {h h' : HD} {p : Addr} {o : OB} (x : Ex h h') (n : h' p = none) : Ex h (updD h' p o) := x.trans (.new n)
/-- all but the thing at a -/
structure ExB (a : Addr) (h h' : HD) : Prop where
  keep : ∀ b o, b ≠ a → h b = some o → h' b = some o
  head : ∀ d ds, h a = some (.lst (d :: ds)) → ∃ ds', h' a = some (.lst (d :: ds'))
instance {a : Addr} {h h' : HD} : CoeFun (ExB a h h') (fun _ => ∀ b o, b ≠ a → h b = some o → h' b = some o) := ⟨ExB.keep⟩
theorem ExB.refl (a : Addr) (h : HD) : ExB a h h := ⟨fun _ _ _ e => e, fun _ ds e => ⟨ds, e⟩⟩
theorem ExB.trans {a : Addr} {h h1 h2 : HD} (x : ExB a h h1) (y : ExB a h1 h2) : ExB a h h2 := ⟨fun b o n e => y.keep b o n (x.keep b o n e), fun d ds e => by
  obtain ⟨d1, e1⟩ := x.head d ds e
  exact y.head d d1 e1⟩
theorem Ex.b {a : Addr} {h h' : HD} (x : Ex h h') : ExB a h h' := ⟨fun b o _ e => x b o e, fun _ ds e => ⟨ds, x _ _ e⟩⟩
theorem ExB.setN {a : Addr} {h : HD} {o u : OB} (e : h a = some u) (n : ∀ ds, u ≠ .lst ds) : ExB a h (updD h a o) := ⟨fun b v z e => by rw [updD_ne z]; exact e, fun d ds e2 => absurd (Option.some.inj (e.symm.trans e2)) (n _)⟩
theorem ExB.setH {a : Addr} {h : HD} {d : D} {ds ds' : List D} (e : h a = some (.lst (d :: ds))) : ExB a h (updD h a (.lst (d :: ds'))) := ⟨fun b v z e => by rw [updD_ne z]; exact e, fun d2 ds2 e2 => by
  have := e.symm.trans e2
  cases this
  exact ⟨ds', updD_same⟩⟩

def isI : D → Bool
  | .int _ => true
  | _ => false
def inW (x : D) (lo hi : Int) : Bool := match x with
  | .int i => decide (lo ≤ i) && decide (i ≤ hi)
  | _ => false
def szd (x : D) (lo hi : Int) : Bool := match x with
  | .tup xs => decide (lo ≤ (xs.length : Int)) && decide ((xs.length : Int) ≤ hi)
  | _ => false
def sp_is_integer : SpD := fun ds h Q _ => ∃ x z, ds = [x] ∧ kd h x = some z ∧ Q (.bl (isI x)) h
def sp_is_within : SpD := fun ds h Q _ => ∃ x lo hi z, ds = [x, .int lo, .int hi] ∧ kd h x = some z ∧ Q (.bl (inW x lo hi)) h
def sp_is_sized : SpD := fun ds h Q _ => ∃ x lo hi z, ds = [x, .int lo, .int hi] ∧ kd h x = some z ∧ Q (.bl (szd x lo hi)) h
def sp_is_pair : SpD := fun ds h Q _ => ∃ x z, ds = [x] ∧ kd h x = some z ∧ Q (.bl (szd x 2 2)) h
def sp_is_triple : SpD := fun ds h Q _ => ∃ x z, ds = [x] ∧ kd h x = some z ∧ Q (.bl (szd x 3 3)) h
def gcdI (a b : Int) : Int := (Int.gcd a b : Nat)
def sp_divisor : SpD := fun ds h Q _ => ∃ a b, ds = [.int a, .int b] ∧ Q (.int (gcdI a b)) h
/-- in lowest terms -/
def redI (t b : Int) : Int × Int := (t / gcdI t b, b / gcdI t b)
def prD2 (p : Int × Int) : D := .tup [.int p.1, .int p.2]
def sp_lowest : SpD := fun ds h Q _ => ∃ t b, ds = [.int t, .int b] ∧ 0 < b ∧ b.natAbs.log2 < 9000 ∧ Q (prD2 (redI t b)) h
def plusI (x y : Int × Int) : Int × Int := redI (x.1 * y.2 + y.1 * x.2) (x.2 * y.2)
def timesI (x y : Int × Int) : Int × Int := redI (x.1 * y.1) (x.2 * y.2)
/-- a fraction of few bits -/
def fewB (n : Nat) (x : Int × Int) : Prop := 0 < x.2 ∧ x.1.natAbs < 2 ^ n ∧ x.2.natAbs < 2 ^ n
def sp_plus : SpD := fun ds h Q _ => ∃ x y, ds = [prD2 x, prD2 y] ∧ fewB 4000 x ∧ fewB 4000 y ∧ Q (prD2 (plusI x y)) h
def sp_times : SpD := fun ds h Q _ => ∃ x y, ds = [prD2 x, prD2 y] ∧ fewB 4000 x ∧ fewB 4000 y ∧ Q (prD2 (timesI x y)) h
def sumI (xs : List (Int × Int)) : Int × Int := xs.foldl plusI (0, 1)
/-- all on the way are of few bits -/
def sumOk : Int × Int → List (Int × Int) → Prop
  | a, [] => True
  | a, x :: xs => fewB 4000 a ∧ fewB 4000 x ∧ sumOk (plusI a x) xs
def sp_total : SpD := fun ds h Q _ => ∃ a xs, ds = [.ref a] ∧ h a = some (.lst (xs.map prD2)) ∧ sumOk (0, 1) xs ∧ Q (prD2 (sumI xs)) h
def isFr (x : D) : Bool := match x with
  | .tup [.int t, .int b] => decide (0 < b) && decide (gcdI t b = 1)
  | _ => false
/-- a pair's parts are of known kinds -/
def kdP (h : HD) (x : D) : Prop := (∃ z, kd h x = some z) ∧ ∀ a b, x = .tup [a, b] → (∃ z, kd h a = some z) ∧ ∃ z, kd h b = some z
def sp_is_fraction : SpD := fun ds h Q _ => ∃ x, ds = [x] ∧ kdP h x ∧ Q (.bl (isFr x)) h
def isSh (x : D) : Bool := isFr x && match x with
  | .tup [.int t, .int b] => decide (0 < t) && decide (t ≤ b)
  | _ => false
def sp_is_share : SpD := fun ds h Q _ => ∃ x, ds = [x] ∧ kdP h x ∧ Q (.bl (isSh x)) h
def isCh (x : D) : Bool := isFr x && match x with
  | .tup [.int t, .int b] => decide (0 ≤ t) && decide (t ≤ b)
  | _ => false
def sp_is_chance : SpD := fun ds h Q _ => ∃ x, ds = [x] ∧ kdP h x ∧ Q (.bl (isCh x)) h
/-- all of them shares that add up to one -/
def sp_are_shares : SpD := fun ds h Q _ => ∃ a xs, ds = [.ref a] ∧ h a = some (.lst (xs.map prD2)) ∧ xs.length ≤ 1000 ∧ sumOk (0, 1) xs ∧ ∀ h', Ex h h' → Q (.bl (xs.all (fun x => isSh (prD2 x)) && decide (sumI xs = (1, 1)))) h'

/-! ### the drawing -/
/-- the hand at a; at most b draws were made -/
def Hand (h : HD) (a : Addr) (b : Nat) : Prop := ∃ (c : Addr) (ns : List Int) (p g st n : Int), h a = some (.lst [.ref c, .int p, .int g, .int st, .int n]) ∧ h c = some (.lst (ns.map D.int)) ∧ a ≠ c ∧ (∀ x ∈ ns, 0 ≤ x) ∧ 0 ≤ p ∧ p ≤ (ns.length : Int) ∧ 0 ≤ g ∧ 0 ≤ st ∧ st < 2147483648 ∧ 0 ≤ n ∧ n ≤ (b : Int)
theorem Hand.ex {h h' : HD} {a : Addr} {b : Nat} (H : Hand h a b) (x : Ex h h') : Hand h' a b := by
  obtain ⟨c, ns, p, g, st, n, e1, e2, r⟩ := H
  exact ⟨c, ns, p, g, st, n, x _ _ e1, x _ _ e2, r⟩
theorem Hand.le {h : HD} {a : Addr} {b c : Nat} (H : Hand h a b) (x : b ≤ c) : Hand h a c := by
  obtain ⟨c2, ns, p, g, st, n, e1, e2, r1, r2, r3, r4, r5, r6, r7, r8, r9⟩ := H
  exact ⟨c2, ns, p, g, st, n, e1, e2, r1, r2, r3, r4, r5, r6, r7, r8, by omega⟩
theorem Hand.ne {h : HD} {a : Addr} {b : Nat} (H : Hand h a b) : h a ≠ none := by
  obtain ⟨c, ns, p, g, st, n, e1, _⟩ := H
  rw [e1]; simp
def sp_l_hand : SpD := fun ds h Q _ => ∃ ns : List Int, ds = [.fl (ns.map D.int)] ∧ ns.length ≤ 63 ∧ ∀ h' a, Ex h h' → h a = none → Hand h' a 0 → Q (.ref a) h'
/-- a digit below m -/
def sp_l_draw : SpD := fun ds h Q _ => ∃ a b m, ds = [.ref a, .int m] ∧ Hand h a b ∧ b ≤ 10 ^ 15 ∧ 0 < m ∧ m.natAbs.log2 < 9000 ∧ ∀ h' i, ExB a h h' → Hand h' a (b + 1) → 0 ≤ i → i < m → Q (.int i) h'
/-- one of the things of a list or a tuple -/
def sp_l_any : SpD := fun ds h Q _ => ∃ a b x xs, ds = [.ref a, x] ∧ Hand h a b ∧ b ≤ 10 ^ 15 ∧ xs ≠ [] ∧ xs.length ≤ 1000 ∧ (x = .tup xs ∨ ∃ p, x = .ref p ∧ p ≠ a ∧ h p = some (.lst xs)) ∧ ∀ h' y, ExB a h h' → Hand h' a (b + 1) → y ∈ xs → Q y h'
/-- repr(x) == repr(y) -/
def sp_l_is : SpD := fun ds h Q _ => ∃ x y p q, ds = [x, y] ∧ den h x p ∧ den h y q ∧ p.showable = true ∧ q.showable = true ∧ p.shown.length ≤ sizeLine ∧ q.shown.length ≤ sizeLine ∧ p.depth ≤ 100 ∧ q.depth ≤ 100 ∧ Q (.bl (decide (p.shown = q.shown))) h
def sp_l_low : SpD := fun ds h Q _ => ∃ t b, ds = [.int t, .int b] ∧ 0 < b ∧ b.natAbs.log2 < 9000 ∧ Q (prD2 (redI t b)) h
end PD

-- PdT
set_option Elab.async false
set_option linter.all false
set_option maxRecDepth 100000
set_option maxHeartbeats 4000000
/-! printed by gen.py: the walks of the defs -/
namespace PD
open PySem PySem.Spec PyProof.Rows L2 PD

def t_is_integer (P : Program) (w : World) (K : PySem.W.Frag) (W : En → XD) : CS := (cRet (cAndV (cCall (cIsi K) (cCons (cVar 0) (cCons (cC (.ty "int")) cNil))) (cNotV (cCall (cIsi K) (cCons (cVar 0) (cCons (cC (.ty "bool")) cNil))))))
def t_is_within (P : Program) (w : World) (K : PySem.W.Frag) (W : En → XD) : CS := (cRet (cAndV (cFn sp_is_integer (fun _ => noX) (cCons (cVar 0) cNil)) (cChain cLe cLe (cVar 1) (cVar 0) (cVar 2))))
def t_is_sized (P : Program) (w : World) (K : PySem.W.Frag) (W : En → XD) : CS := (cRet (cAndV (cCall (cIsi K) (cCons (cVar 0) (cCons (cC (.ty "tuple")) cNil))) (cChain cLe cLe (cVar 1) (cCall (cLenA P w) (cCons (cVar 0) cNil)) (cVar 2))))
def t_is_pair (P : Program) (w : World) (K : PySem.W.Frag) (W : En → XD) : CS := (cRet (cAndV (cCall (cIsi K) (cCons (cVar 0) (cCons (cC (.ty "tuple")) cNil))) (cOp cEq (cCall (cLenA P w) (cCons (cVar 0) cNil)) (cC (.int 2)))))
def t_is_triple (P : Program) (w : World) (K : PySem.W.Frag) (W : En → XD) : CS := (cRet (cAndV (cCall (cIsi K) (cCons (cVar 0) (cCons (cC (.ty "tuple")) cNil))) (cOp cEq (cCall (cLenA P w) (cCons (cVar 0) cNil)) (cC (.int 3)))))
def t_divisor (P : Program) (w : World) (K : PySem.W.Frag) (W : En → XD) : CS := (cSeq (cPar 0 1 (cCons (cCall cAbs (cCons (cVar 0) cNil)) (cCons (cCall cAbs (cCons (cVar 1) cNil)) cNil))) (cSeq (cWhile (cT (cOp cNe (cVar 1) (cC (.int 0)))) (cPar 0 1 (cCons (cVar 1) (cCons (cOp cMod (cVar 0) (cVar 1)) cNil)))) (cRet (cVar 0))))
def t_lowest (P : Program) (w : World) (K : PySem.W.Frag) (W : En → XD) : CS := (cSeq (cSet 2 (cIf (cT (cOp cGt (cVar 1) (cC (.int 0)))) (cFn sp_divisor (fun _ => noX) (cCons (cVar 0) (cCons (cVar 1) cNil))) (cUn cNeg (cFn sp_divisor (fun _ => noX) (cCons (cVar 0) (cCons (cVar 1) cNil)))))) (cRet (cTup (cCons (cOp cFdiv (cVar 0) (cVar 2)) (cCons (cOp cFdiv (cVar 1) (cVar 2)) cNil)))))
def t_plus (P : Program) (w : World) (K : PySem.W.Frag) (W : En → XD) : CS := (cRet (cFn sp_lowest (fun _ => noX) (cCons (cOp cAdd (cOp cMul (cOp (cIxA P w) (cVar 0) (cC (.int 0))) (cOp (cIxA P w) (cVar 1) (cC (.int 1)))) (cOp cMul (cOp (cIxA P w) (cVar 1) (cC (.int 0))) (cOp (cIxA P w) (cVar 0) (cC (.int 1))))) (cCons (cOp cMul (cOp (cIxA P w) (cVar 0) (cC (.int 1))) (cOp (cIxA P w) (cVar 1) (cC (.int 1)))) cNil))))
def t_total (P : Program) (w : World) (K : PySem.W.Frag) (W : En → XD) : CS := (cSeq (cSet 1 (cC (.tup [(.int 0), (.int 1)]))) (cSeq (cFor (cSrcA P w (cVar 0)) (cName 2) (cSet 1 (cFn sp_plus (fun _ => noX) (cCons (cVar 1) (cCons (cVar 2) cNil))))) (cRet (cVar 1))))
def t_is_fraction (P : Program) (w : World) (K : PySem.W.Frag) (W : En → XD) : CS := (cSeq (cIfS (cOr (cNot (cT (cFn sp_is_pair (fun _ => noX) (cCons (cVar 0) cNil)))) (cOr (cNot (cT (cFn sp_is_integer (fun _ => noX) (cCons (cOp (cIxA P w) (cVar 0) (cC (.int 0))) cNil)))) (cNot (cT (cFn sp_is_integer (fun _ => noX) (cCons (cOp (cIxA P w) (cVar 0) (cC (.int 1))) cNil)))))) (cRet (cC (.bl false))) cNext) (cRet (cAndV (cOp cGt (cOp (cIxA P w) (cVar 0) (cC (.int 1))) (cC (.int 0))) (cOp cEq (cFn sp_divisor (fun _ => noX) (cCons (cOp (cIxA P w) (cVar 0) (cC (.int 0))) (cCons (cOp (cIxA P w) (cVar 0) (cC (.int 1))) cNil))) (cC (.int 1))))))
def t_is_share (P : Program) (w : World) (K : PySem.W.Frag) (W : En → XD) : CS := (cRet (cAndV (cFn sp_is_fraction (fun _ => noX) (cCons (cVar 0) cNil)) (cChain cLt cLe (cC (.int 0)) (cOp (cIxA P w) (cVar 0) (cC (.int 0))) (cOp (cIxA P w) (cVar 0) (cC (.int 1))))))
def t_are_shares (P : Program) (w : World) (K : PySem.W.Frag) (W : En → XD) : CS := (cRet (cAndV (cCall (cBools fun bs => bs.all id) (cCons (cLc (cSrcA P w (cVar 0)) (.one 1) cYes (cFn sp_is_share (fun _ => noX) (cCons (cVar 1) cNil)) [1]) cNil)) (cOp cEq (cFn sp_total (fun _ => noX) (cCons (cVar 0) cNil)) (cC (.tup [(.int 1), (.int 1)])))))
def t_l_hand (P : Program) (w : World) (K : PySem.W.Frag) (W : En → XD) : CS := (cSeq (cSet 1 (cLc (cSrcA P w (cSl cSlc (cVar 0) cNoP (cPart (cC (.int 63))))) (.one 2) cYes (cCall cAbs (cCons (cCall cInt (cCons (cVar 2) cNil)) cNil)) [2])) (cRet (cLst (cCons (cVar 1) (cCons (cC (.int 0)) (cCons (cC (.int 0)) (cCons (cOp cAdd (cC (.int 1)) (cCall (cLenA P w) (cCons (cVar 1) cNil))) (cCons (cC (.int 0)) cNil))))))))
def t_l_draw (P : Program) (w : World) (K : PySem.W.Frag) (W : En → XD) : CS := (cCut (cIfS (cAnd (cT (cOp cEq (cOp (cIxA P w) (cVar 0) (cC (.int 2))) (cC (.int 0)))) (cT (cOp cLt (cOp (cIxA P w) (cVar 0) (cC (.int 1))) (cCall (cLenA P w) (cCons (cOp (cIxA P w) (cVar 0) (cC (.int 0))) cNil))))) (cSeq (cSet 3 (cOp (cIxA P w) (cOp (cIxA P w) (cVar 0) (cC (.int 0))) (cOp (cIxA P w) (cVar 0) (cC (.int 1))))) (cSeq (cAsg (cOp cAdd (cOp (cIxA P w) (cVar 0) (cC (.int 1))) (cC (.int 1))) (cItm (cVar 0) (cC (.int 1)) (cSetA P w))) (cSeq (cAsg (cOp cMod (cCall cInt (cCons (cOp cAdd (cOp cAdd (cOp cMul (cOp (cIxA P w) (cVar 0) (cC (.int 3))) (cC (.int 69621))) (cVar 3)) (cC (.int 11))) cNil)) (cC (.int 2147483629))) (cItm (cVar 0) (cC (.int 3)) (cSetA P w))) (cIfS (cT (cOp cGe (cVar 3) (cOp cPow (cC (.int 10)) (cC (.int 18))))) (cAsg (cVar 3) (cItm (cVar 0) (cC (.int 2)) (cSetA P w))) cNext)))) cNext) (cSeq (cIfS (cT (cOp cGt (cOp (cIxA P w) (cVar 0) (cC (.int 2))) (cC (.int 0)))) (cSeq (cSet 4 (cOp cMod (cCall cInt (cCons (cOp (cIxA P w) (cVar 0) (cC (.int 2))) cNil)) (cVar 1))) (cSeq (cAsg (cOp cFdiv (cOp (cIxA P w) (cVar 0) (cC (.int 2))) (cVar 1)) (cItm (cVar 0) (cC (.int 2)) (cSetA P w))) (cRet (cVar 4)))) cNext) (cSeq (cAsg (cOp cAdd (cOp (cIxA P w) (cVar 0) (cC (.int 4))) (cC (.int 1))) (cItm (cVar 0) (cC (.int 4)) (cSetA P w))) (cSeq (cSet 2 (cOp cMod (cCall cInt (cCons (cOp cMul (cCall cInt (cCons (cOp cAdd (cOp (cIxA P w) (cVar 0) (cC (.int 3))) (cOp cMul (cC (.int 7919)) (cOp (cIxA P w) (cVar 0) (cC (.int 4))))) cNil)) (cC (.int 48271))) cNil)) (cC (.int 2147483647)))) (cSeq (cSet 2 (cOp cMod (cCall cInt (cCons (cOp cMul (cVar 2) (cOp cAdd (cOp cFdiv (cVar 2) (cC (.int 1009))) (cC (.int 69621)))) cNil)) (cC (.int 2147483647)))) (cSeq (cSet 2 (cOp cMod (cCall cInt (cCons (cOp cMul (cVar 2) (cOp cAdd (cOp cFdiv (cVar 2) (cC (.int 2003))) (cC (.int 40692)))) cNil)) (cC (.int 2147483399)))) (cRet (cOp cMod (cCall cInt (cCons (cOp cFdiv (cVar 2) (cC (.int 16))) cNil)) (cVar 1)))))))))
def t_l_any (P : Program) (w : World) (K : PySem.W.Frag) (W : En → XD) : CS := (cRet (cOp (cIxA P w) (cVar 1) (cFn sp_l_draw (fun _ => noX) (cCons (cVar 0) (cCons (cCall (cLenA P w) (cCons (cVar 1) cNil)) cNil)))))
def t_l_is (P : Program) (w : World) (K : PySem.W.Frag) (W : En → XD) : CS := (cRet (cOp cEqS (cCall cRepr (cCons (cVar 0) cNil)) (cCall cRepr (cCons (cVar 1) cNil))))
def t_l_low (P : Program) (w : World) (K : PySem.W.Frag) (W : En → XD) : CS := (cSeq (cPar 2 3 (cCons (cCall cAbs (cCons (cVar 0) cNil)) (cCons (cVar 1) cNil))) (cSeq (cWhile (cT (cOp cGt (cVar 3) (cC (.int 0)))) (cPar 2 3 (cCons (cVar 3) (cCons (cOp cMod (cCall cInt (cCons (cVar 2) cNil)) (cVar 3)) cNil)))) (cRet (cTup (cCons (cOp cFdiv (cVar 0) (cVar 2)) (cCons (cOp cFdiv (cVar 1) (cVar 2)) cNil))))))
def t_l_plus (P : Program) (w : World) (K : PySem.W.Frag) (W : En → XD) : CS := (cRet (cFn sp_l_low (fun _ => noX) (cCons (cOp cAdd (cOp cMul (cOp (cIxA P w) (cVar 0) (cC (.int 0))) (cOp (cIxA P w) (cVar 1) (cC (.int 1)))) (cOp cMul (cOp (cIxA P w) (cVar 1) (cC (.int 0))) (cOp (cIxA P w) (cVar 0) (cC (.int 1))))) (cCons (cOp cMul (cOp (cIxA P w) (cVar 0) (cC (.int 1))) (cOp (cIxA P w) (cVar 1) (cC (.int 1)))) cNil))))
def t_l_sum (P : Program) (w : World) (K : PySem.W.Frag) (W : En → XD) : CS := (cSeq (cSet 1 (cTup (cCons (cC (.int 0)) (cCons (cC (.int 1)) cNil)))) (cSeq (cFor (cSrcA P w (cVar 0)) (cName 2) (cSet 1 (cFn sp_plus (fun _ => noX) (cCons (cVar 1) (cCons (cVar 2) cNil))))) (cRet (cVar 1))))
end PD

-- PdP
set_option Elab.async false
set_option linter.all false
set_option maxRecDepth 100000
set_option maxHeartbeats 4000000
/-! PdP: the plain laws of the shared defs. -/
namespace PD
open PySem PySem.Spec PyProof.Rows L2
section
variable {P : Program} {w : World} {K : PySem.W.Frag} {W : En → XD} {h : HD} {Q : DK} {Z : DE}
theorem kd_isI {x : D} {z : Kd} (e : kd h x = some z) : (z.isa .int && !z.isa .bl) = isI x := by
  cases x with
  | non => cases e; rfl
  | bl b => cases e; rfl
  | int i => cases e; rfl
  | str s => cases e; rfl
  | tup ds => cases e; rfl
  | fl ds => cases e; rfl
  | ty n => cases e
  | ref a =>
    have e : (match h a with
      | some (.lst _) => some Kd.lst
      | some (.dK _) => some Kd.dct
      | some (.dT _) => some Kd.dct
      | _ => none) = some z := e
    split at e <;> cases e <;> rfl
theorem p_is_integer (ds : List D) (h : HD) (Q : DK) (E : XD) (hs : sp_is_integer ds h Q E) : t_is_integer P w K W { nx := fun _ h' => Q .non h', rt := Q } (startD [("thing" : Str)] ds) h := by
  obtain ⟨x, z, rfl, hk, q⟩ := hs
  have e := kd_isI hk
  refine .inl ⟨z, .int, hk, rfl, ?_⟩
  show if z.isa .int = true then _ else _
  cases hz : z.isa .int with
  | false =>
    rw [hz, Bool.false_and] at e
    rw [← e] at q
    exact q
  | true =>
    rw [hz, Bool.true_and] at e
    rw [← e] at q
    exact .inl ⟨z, .bl, hk, rfl, q⟩
theorem ifB {c : Bool} {A B : Prop} (t : c = true → A) (f : c = false → B) : if c = true then A else B := by
  cases c with
  | true => exact (if_pos rfl).symm ▸ t rfl
  | false => exact (if_neg (show ¬ (false = true) by decide)).symm ▸ f rfl
theorem p_is_within (ds : List D) (h : HD) (Q : DK) (E : XD) (hs : sp_is_within ds h Q E) : t_is_within P w K W { nx := fun _ h' => Q .non h', rt := Q } (startD [("thing" : Str), ("least" : Str), ("most" : Str)] ds) h := by
  obtain ⟨x, lo, hi, z, rfl, hk, q⟩ := hs
  refine ⟨x, z, rfl, hk, ?_⟩
  show if isI x = true then _ else _
  cases x with
  | int i =>
    change Q (.bl (decide (lo ≤ i) && decide (i ≤ hi))) h at q
    refine ifB (fun _ => ⟨trivial, ifB (c := decide (lo ≤ i)) (fun c => ?_) (fun c => ?_)⟩) (fun c => by cases c)
    · rw [c] at q; exact ⟨trivial, q⟩
    · rw [c] at q; exact q
  | _ => exact q
theorem kd_isT {x : D} {z : Kd} (e : kd h x = some z) : (∃ xs, x = .tup xs ∧ z = .tup) ∨ ((∀ lo hi, szd x lo hi = false) ∧ z.isa .tup = false) := by
  cases x with
  | non => cases e; exact .inr ⟨fun _ _ => rfl, rfl⟩
  | bl b => cases e; exact .inr ⟨fun _ _ => rfl, rfl⟩
  | int i => cases e; exact .inr ⟨fun _ _ => rfl, rfl⟩
  | str s => cases e; exact .inr ⟨fun _ _ => rfl, rfl⟩
  | tup ds => cases e; exact .inl ⟨ds, rfl, rfl⟩
  | fl ds => cases e; exact .inr ⟨fun _ _ => rfl, rfl⟩
  | ty n => cases e
  | ref a =>
    have e : (match h a with
      | some (.lst _) => some Kd.lst
      | some (.dK _) => some Kd.dct
      | some (.dT _) => some Kd.dct
      | _ => none) = some z := e
    refine .inr ⟨fun _ _ => rfl, ?_⟩
    split at e <;> cases e <;> rfl
theorem p_is_sized (ds : List D) (h : HD) (Q : DK) (E : XD) (hs : sp_is_sized ds h Q E) : t_is_sized P w K W { nx := fun _ h' => Q .non h', rt := Q } (startD [("thing" : Str), ("least" : Str), ("most" : Str)] ds) h := by
  obtain ⟨x, lo, hi, z, rfl, hk, q⟩ := hs
  refine .inl ⟨z, .tup, hk, rfl, ?_⟩
  rcases kd_isT hk with ⟨xs, rfl, rfl⟩ | ⟨n, zf⟩
  · change Q (.bl (decide (lo ≤ (xs.length : Int)) && decide ((xs.length : Int) ≤ hi))) h at q
    refine ifB (fun _ => .inl ⟨trivial, ifB (c := decide (lo ≤ (xs.length : Int))) (fun c => ?_) (fun c => ?_)⟩) (fun c => by cases c)
    · rw [c] at q; exact ⟨trivial, q⟩
    · rw [c] at q; exact q
  · rw [n] at q
    exact ifB (c := z.isa .tup) (fun c => by rw [zf] at c; cases c) fun _ => q
theorem shp_int (i : Int) : shp (.int i) := ⟨rfl, rfl⟩
theorem shp_bl (i : Bool) : shp (.bl i) := ⟨rfl, rfl⟩
theorem shp_non : shp .non := ⟨rfl, rfl⟩
theorem eqD_int (i j : Int) : eqD (.int i) (.int j) = decide (i = j) := by
  simp only [eqD, toP, PyData.eqv]
  exact Bool.eq_iff_iff.mpr (by simp)
theorem szd_eq (xs : List D) (n : Nat) : szd (.tup xs) n n = decide ((xs.length : Int) = (n : Int)) := by
  show (decide ((n : Int) ≤ (xs.length : Int)) && decide ((xs.length : Int) ≤ (n : Int))) = _
  by_cases e : (xs.length : Int) = n
  · rw [e]; simp
  · rw [decide_eq_false e, ← Bool.not_eq_true, Bool.and_eq_true, decide_eq_true_eq, decide_eq_true_eq]
    omega
theorem p_is_pair (ds : List D) (h : HD) (Q : DK) (E : XD) (hs : sp_is_pair ds h Q E) : t_is_pair P w K W { nx := fun _ h' => Q .non h', rt := Q } (startD [("thing" : Str)] ds) h := by
  obtain ⟨x, z, rfl, hk, q⟩ := hs
  refine .inl ⟨z, .tup, hk, rfl, ?_⟩
  rcases kd_isT hk with ⟨xs, rfl, rfl⟩ | ⟨n, zf⟩
  · rw [show szd (.tup xs) 2 2 = decide ((xs.length : Int) = 2) from szd_eq xs 2, ← eqD_int] at q
    exact ifB (fun _ => .inl ⟨shp_int _, shp_int _, q⟩) (fun c => by cases c)
  · rw [n] at q
    exact ifB (c := z.isa .tup) (fun c => by rw [zf] at c; cases c) fun _ => q
theorem p_is_triple (ds : List D) (h : HD) (Q : DK) (E : XD) (hs : sp_is_triple ds h Q E) : t_is_triple P w K W { nx := fun _ h' => Q .non h', rt := Q } (startD [("thing" : Str)] ds) h := by
  obtain ⟨x, z, rfl, hk, q⟩ := hs
  refine .inl ⟨z, .tup, hk, rfl, ?_⟩
  rcases kd_isT hk with ⟨xs, rfl, rfl⟩ | ⟨n, zf⟩
  · rw [show szd (.tup xs) 3 3 = decide ((xs.length : Int) = 3) from szd_eq xs 3, ← eqD_int] at q
    exact ifB (fun _ => .inl ⟨shp_int _, shp_int _, q⟩) (fun c => by cases c)
  · rw [n] at q
    exact ifB (c := z.isa .tup) (fun c => by rw [zf] at c; cases c) fun _ => q

/-! ### fractions -/
theorem abs_nat (i : Int) : (if i < 0 then -i else i) = ((i.natAbs : Nat) : Int) := by
  split <;> omega
theorem gcd_run (c : CT) (b : CS) (ix : Nat → Nat → En) (Z : DE) (h : HD) (hc : ∀ (x y : Nat) (Q : Bool → HD → Prop), Q (decide (y ≠ 0)) h → c (ix x y) h Q) (hb : ∀ (x y : Nat) (Y : DE), y ≠ 0 → Y.nx (ix y (x % y)) h → b Y (ix x y) h) :
    ∀ (n x y : Nat), y < n → Z.nx (ix (Nat.gcd x y) 0) h → cWh c b Z n (ix x y) h
  | 0, _, _, e, _ => by omega
  | n + 1, x, y, e, q => by
    refine hc x y _ ?_
    refine ifB (fun e1 => ?_) (fun e1 => ?_)
    · have ny : y ≠ 0 := of_decide_eq_true e1
      refine hb x y _ ny (gcd_run c b ix Z h hc hb n y (x % y) (by have := Nat.mod_lt x (Nat.pos_of_ne_zero ny); omega) ?_)
      rw [Nat.gcd_comm x y, Nat.gcd_rec] at q
      rw [Nat.gcd_comm]
      exact q
    · have ny : y = 0 := by
        have := of_decide_eq_false e1
        omega
      subst ny
      rw [Nat.gcd_zero_right] at q
      exact q
theorem nat_mod (x y : Nat) : ((x : Nat) : Int) % ((y : Nat) : Int) = ((x % y : Nat) : Int) := by omega
theorem p_divisor (ds : List D) (h : HD) (Q : DK) (E : XD) (hs : sp_divisor ds h Q E) : t_divisor P w K W { nx := fun _ h' => Q .non h', rt := Q } (startD [("one" : Str), ("other" : Str)] ds) h := by
  obtain ⟨a, b, rfl, q⟩ := hs
  have e1 := abs_nat a
  have e2 := abs_nat b
  show cWhile _ _ _ [some (.int (if a < 0 then -a else a)), some (.int (if b < 0 then -b else b))] h
  rw [e1, e2]
  refine ⟨b.natAbs + 1, gcd_run _ _ (fun x y => [some (.int (x : Nat)), some (.int (y : Nat))]) _ h (fun x y Q1 q1 => ?_) (fun x y Y ny q1 => ?_) _ _ _ (Nat.lt_succ_self _) ?_⟩
  · refine ⟨shp_int _, shp_int _, ?_⟩
    show Q1 (!eqD (.int (y : Nat)) (.int 0)) h
    rw [eqD_int]
    have : (!decide (((y : Nat) : Int) = 0)) = decide (y ≠ 0) := by
      by_cases z : y = 0
      · subst z; rfl
      · have : ¬ ((y : Nat) : Int) = 0 := by omega
        rw [decide_eq_false this, decide_eq_true z]; rfl
    rw [this]
    exact q1
  · refine ⟨by show (0 : Int) < (y : Nat); omega, ?_⟩
    show Y.nx [some (.int (y : Nat)), some (.int (((x : Nat) : Int) % ((y : Nat) : Int)))] h
    rw [nat_mod]
    exact q1
  · exact q
theorem gcdI_pos {t b : Int} (hb : 0 < b) : 0 < gcdI t b := by
  unfold gcdI
  have : 0 < Int.gcd t b := Int.gcd_pos_of_ne_zero_right t (by omega)
  omega
theorem gcdI_le {t b : Int} (hb : 0 < b) : gcdI t b ≤ b := by
  unfold gcdI
  exact Int.le_of_dvd hb (Int.gcd_dvd_right ..)
theorem log_le {a b : Int} (h0 : 0 < a) (h : a ≤ b) (hb : b.natAbs.log2 < 9000) : a.natAbs.log2 < 9000 := by
  have h1 : a.natAbs ≠ 0 := by omega
  have h2 : b.natAbs ≠ 0 := by omega
  rw [Nat.log2_lt h1]
  rw [Nat.log2_lt h2] at hb
  omega
theorem p_lowest (ds : List D) (h : HD) (Q : DK) (E : XD) (hs : sp_lowest ds h Q E) : t_lowest P w K W { nx := fun _ h' => Q .non h', rt := Q } (startD [("top" : Str), ("bottom" : Str), ("common" : Str)] ds) h := by
  obtain ⟨t, b, rfl, hb, hl, q⟩ := hs
  have d : CDivW t (gcdI t b) := ⟨gcdI_pos hb, log_le (gcdI_pos hb) (gcdI_le hb) hl⟩
  have d2 : CDivW b (gcdI t b) := d
  refine ⟨trivial, ifB (c := decide ((0 : Int) < b)) (fun _ => ?_) (fun c => absurd hb (of_decide_eq_false c))⟩
  refine ⟨t, b, rfl, ?_⟩
  exact ⟨d, d2, by show 2 ≤ sizeLine; decide, q⟩
theorem few_log {n : Nat} {a : Int} (h : a.natAbs < 2 ^ n) (hn : 0 < n) : a.natAbs.log2 < n := by
  by_cases z : a.natAbs = 0
  · rw [z]; simpa using hn
  · exact (Nat.log2_lt z).mpr h
theorem few_mul {x y : Int} (hx : x.natAbs < 2 ^ 4000) (hy : y.natAbs < 2 ^ 4000) : CMulW x y := by
  have h1 := few_log hx (by decide)
  have h2 := few_log hy (by decide)
  show x.natAbs.log2 + y.natAbs.log2 < 1000000
  omega
theorem few_mul2 {x y : Int} (hx : x.natAbs < 2 ^ 4000) (hy : y.natAbs < 2 ^ 4000) (px : 0 < x) (py : 0 < y) : 0 < x * y ∧ (x * y).natAbs.log2 < 9000 := by
  have p := Int.mul_pos px py
  refine ⟨p, ?_⟩
  have h : (x * y).natAbs < 2 ^ 4000 * 2 ^ 4000 := by
    rw [Int.natAbs_mul]
    exact Nat.mul_lt_mul_of_lt_of_le hx (Nat.le_of_lt hy) (Nat.two_pow_pos _)
  rw [← Nat.pow_add] at h
  have := few_log (n := 4000 + 4000) h (by decide)
  omega
theorem p_plus (ds : List D) (h : HD) (Q : DK) (E : XD) (hs : sp_plus ds h Q E) : t_plus P w K W { nx := fun _ h' => Q .non h', rt := Q } (startD [("one" : Str), ("other" : Str)] ds) h := by
  obtain ⟨x, y, rfl, ⟨px, x1, x2⟩, ⟨py, y1, y2⟩, q⟩ := hs
  obtain ⟨p, l⟩ := few_mul2 x2 y2 px py
  exact .inl ⟨_, rfl, .inl ⟨_, rfl, few_mul x1 y2, .inl ⟨_, rfl, .inl ⟨_, rfl, few_mul y1 x2, .inl ⟨_, rfl, .inl ⟨_, rfl, few_mul x2 y2, _, _, rfl, p, l, q⟩⟩⟩⟩⟩⟩
theorem p_l_plus (ds : List D) (h : HD) (Q : DK) (E : XD) (hs : sp_plus ds h Q E) : t_l_plus P w K W { nx := fun _ h' => Q .non h', rt := Q } (startD [("_law_one" : Str), ("_law_other" : Str)] ds) h := by
  obtain ⟨x, y, rfl, ⟨px, x1, x2⟩, ⟨py, y1, y2⟩, q⟩ := hs
  obtain ⟨p, l⟩ := few_mul2 x2 y2 px py
  exact .inl ⟨_, rfl, .inl ⟨_, rfl, few_mul x1 y2, .inl ⟨_, rfl, .inl ⟨_, rfl, few_mul y1 x2, .inl ⟨_, rfl, .inl ⟨_, rfl, few_mul x2 y2, _, _, rfl, p, l, q⟩⟩⟩⟩⟩⟩
theorem sum_loop (hl : HD → Prop) (a o : Option D) (Z : DE) (h : HD) (hok : hl h) : ∀ (xs : List (Int × Int)) (acc : Int × Int) (o : Option D), sumOk acc xs → (∀ o, Z.nx [a, some (prD2 (xs.foldl plusI acc)), o] h) →
    cLoop hl (cName 2) (cSet 1 (cFn sp_plus (fun _ => noX) (cCons (cVar 1) (cCons (cVar 2) cNil)))) Z (xs.map prD2) [a, some (prD2 acc), o] h
  | [], acc, o, _, q => ⟨hok, q o⟩
  | x :: xs, acc, o, ⟨h1, h2, h3⟩, q => ⟨hok, acc, x, rfl, h1, h2, sum_loop hl a o Z h hok xs (plusI acc x) (some (prD2 x)) h3 q⟩
theorem p_total (ds : List D) (h : HD) (Q : DK) (E : XD) (hs : sp_total ds h Q E) : t_total P w K W { nx := fun _ h' => Q .non h', rt := Q } (startD [("fractions" : Str), ("found" : Str), ("one" : Str)] ds) h := by
  obtain ⟨a, xs, rfl, e, ok, q⟩ := hs
  exact .inl ⟨_, e, sum_loop _ _ none _ h e xs (0, 1) none ok fun o => q⟩
theorem p_l_sum (ds : List D) (h : HD) (Q : DK) (E : XD) (hs : sp_total ds h Q E) : t_l_sum P w K W { nx := fun _ h' => Q .non h', rt := Q } (startD [("_law_some" : Str), ("_law_found" : Str), ("_law_one" : Str)] ds) h := by
  obtain ⟨a, xs, rfl, e, ok, q⟩ := hs
  exact ⟨by show 2 ≤ sizeLine; decide, .inl ⟨_, e, sum_loop _ _ none _ h e xs (0, 1) none ok fun o => q⟩⟩
theorem p_l_low (ds : List D) (h : HD) (Q : DK) (E : XD) (hs : sp_l_low ds h Q E) : t_l_low P w K W { nx := fun _ h' => Q .non h', rt := Q } (startD [("_law_top" : Str), ("_law_bottom" : Str), ("_law_one" : Str), ("_law_other" : Str)] ds) h := by
  obtain ⟨t, b, rfl, hb, hl, q⟩ := hs
  have e1 := abs_nat t
  have e2 : b = ((b.natAbs : Nat) : Int) := by omega
  have d : CDivW t (gcdI t b) := ⟨gcdI_pos hb, log_le (gcdI_pos hb) (gcdI_le hb) hl⟩
  have d2 : CDivW b (gcdI t b) := d
  show cSeq (cWhile _ _) _ _ [some (.int t), some (.int b), some (.int (if t < 0 then -t else t)), some (.int b)] h
  have go : ∀ c : Int, c = ((b.natAbs : Nat) : Int) → t_l_low P w K W { nx := fun _ h' => Q .non h', rt := Q } (startD [("_law_top" : Str), ("_law_bottom" : Str), ("_law_one" : Str), ("_law_other" : Str)] [.int t, .int b]) h := fun c ec => by
    refine ⟨b.natAbs + 1, ?_⟩
    have z := gcd_run (cT (cOp cGt (cVar 3) (cC (.int 0)))) (cPar 2 3 (cCons (cVar 3) (cCons (cOp cMod (cCall cInt (cCons (cVar 2) cNil)) (cVar 3)) cNil))) (fun x y => [some (.int t), some (.int b), some (.int (x : Nat)), some (.int (y : Nat))])
      { nx := (cRet (cTup (cCons (cOp cFdiv (cVar 0) (cVar 2)) (cCons (cOp cFdiv (cVar 1) (cVar 2)) cNil)))) { nx := fun _ h' => Q .non h', rt := Q }, rt := Q } h (fun x y Q1 q1 => ?_) (fun x y Y ny q1 => ?_) (b.natAbs + 1) t.natAbs b.natAbs (Nat.lt_succ_self _) ?_
    · rw [← e1, ← e2] at z
      exact z
    · refine ⟨trivial, ?_⟩
      have : decide ((0 : Int) < (y : Nat)) = decide (y ≠ 0) := by
        by_cases z : y = 0
        · subst z; rfl
        · rw [decide_eq_true z, decide_eq_true (by omega)]
      show Q1 (decide ((0 : Int) < (y : Nat))) h
      rw [this]
      exact q1
    · refine ⟨by show (0 : Int) < (y : Nat); omega, ?_⟩
      show Y.nx [some (.int t), some (.int b), some (.int (y : Nat)), some (.int (((x : Nat) : Int) % ((y : Nat) : Int)))] h
      rw [nat_mod]
      exact q1
    · exact ⟨d, d2, by show 2 ≤ sizeLine; decide, q⟩
  exact go b e2
end
end PD

-- PdQ
set_option Elab.async false
set_option linter.all false
set_option maxRecDepth 100000
set_option maxHeartbeats 4000000
/-! PdQ: the plain laws of the drawing. -/
namespace PD
open PySem PySem.Spec PyProof.Rows L2
section
variable {P : Program} {w : World} {K : PySem.W.Frag} {W : En → XD} {h : HD} {Q : DK} {Z : DE}
theorem ifT {c : Bool} {A B : Prop} (e : c = true) (t : A) : if c = true then A else B := ifB (fun _ => t) fun f => by rw [e] at f; cases f
theorem ifF {c : Bool} {A B : Prop} (e : c = false) (t : B) : if c = true then A else B := ifB (fun f => by rw [e] at f; cases f) fun _ => t
theorem few_small {i : Int} (h0 : 0 ≤ i) (n : Nat) (h : i < ((2 ^ n : Nat) : Int)) (hn : 0 < n) : i.natAbs.log2 < n := few_log (by omega) hn
theorem p64 : ((2 ^ 64 : Nat) : Int) = 18446744073709551616 := by decide
theorem p80 : ((2 ^ 80 : Nat) : Int) = 1208925819614629174706176 := by decide
theorem p31 : ((2 ^ 31 : Nat) : Int) = 2147483648 := by decide
theorem p10 : ((2 ^ 10 : Nat) : Int) = 1024 := by decide
theorem small_mul {i j : Int} (n m : Nat) (h0 : 0 ≤ i) (h : i < ((2 ^ n : Nat) : Int)) (j0 : 0 ≤ j) (g : j < ((2 ^ m : Nat) : Int)) (hn : 0 < n ∧ 0 < m ∧ n + m < 1000000) : CMulW i j := by
  have h1 := few_small h0 n h hn.1
  have h2 := few_small j0 m g hn.2.1
  show i.natAbs.log2 + j.natAbs.log2 < 1000000
  omega
theorem divw {i j : Int} (h : 0 < j) (g : j < ((2 ^ 64 : Nat) : Int)) : CDivW i j := by
  refine ⟨h, ?_⟩
  have := few_small (Int.le_of_lt h) 64 g (by decide)
  omega
theorem modR (x : Int) : 0 ≤ x % 2147483647 ∧ x % 2147483647 < 2147483647 := ⟨Int.emod_nonneg _ (by decide), Int.emod_lt_of_pos _ (by decide)⟩
theorem m1009 (x : Int) : CMulW (x % 2147483647) (x % 2147483647 / 1009 + 69621) := by
  obtain ⟨h1, h2⟩ := modR x
  generalize x % 2147483647 = y at h1 h2
  have := p31
  exact small_mul 31 31 h1 (by omega) (by omega) (by omega) (by decide)
theorem m2003 (x : Int) : CMulW (x % 2147483647) (x % 2147483647 / 2003 + 40692) := by
  obtain ⟨h1, h2⟩ := modR x
  generalize x % 2147483647 = y at h1 h2
  have := p31
  exact small_mul 31 31 h1 (by omega) (by omega) (by omega) (by decide)
theorem p_l_draw (ds : List D) (h : HD) (Q : DK) (E : XD) (hs : sp_l_draw ds h Q E) : t_l_draw P w K W { nx := fun _ h' => Q .non h', rt := Q } (startD [("_law_hand_here" : Str), ("_law_many" : Str), ("_law_number_here" : Str), ("_law_cell" : Str), ("_law_digit" : Str)] ds) h := by
  obtain ⟨a, b, m, rfl, H, hb, hm, hl, q⟩ := hs
  obtain ⟨c, ns, p, g, st, n, e1, e2, nac, pos, p0, p1, g0, s0, s1, n0, n1⟩ := H
  refine ⟨fun ρ h' => ∃ (p g st : Int) (o : Option D), ρ = [some (.ref a), some (.int m), none, o, none] ∧ ExB a h h' ∧ h' a = some (.lst [.ref c, .int p, .int g, .int st, .int n]) ∧ h' c = some (.lst (ns.map D.int)) ∧ 0 ≤ p ∧ p ≤ (ns.length : Int) ∧ 0 ≤ g ∧ 0 ≤ st ∧ st < 2147483648, ?_, ?_⟩
  · have stay : ∃ (p' g' st' : Int) (o : Option D), [some (.ref a), some (.int m), none, none, none] = [some (D.ref a), some (.int m), none, o, none] ∧ ExB a h h ∧ h a = some (.lst [.ref c, .int p', .int g', .int st', .int n]) ∧ h c = some (.lst (ns.map D.int)) ∧ 0 ≤ p' ∧ p' ≤ (ns.length : Int) ∧ 0 ≤ g' ∧ 0 ≤ st' ∧ st' < 2147483648 :=
      ⟨p, g, st, none, rfl, .refl a h, e1, e2, p0, p1, g0, s0, s1⟩
    refine .inl ⟨_, _, e1, rfl, shp_int _, shp_int _, ifB (fun _ => ?_) (fun _ => ifF rfl stay)⟩
    refine .inl ⟨_, _, e1, rfl, .inl ⟨_, _, e1, rfl, .inl (.inl ⟨_, e2, ifB (fun c1 => ?_) (fun _ => stay)⟩)⟩⟩
    have lt : p < ((ns.map D.int).length : Int) := of_decide_eq_true c1
    rw [List.length_map] at lt
    have lk : p.toNat < ns.length := by omega
    have at_ : atI (ns.map D.int) p = some (.int ns[p.toNat]) := by
      have := atI_nat (xs := ns.map D.int) (j := p.toNat) (v := D.int ns[p.toNat]) (by rw [List.getElem?_map, List.getElem?_eq_getElem lk]; rfl)
      rwa [Int.toNat_of_nonneg p0] at this
    have cz : 0 ≤ ns[p.toNat] := pos _ (List.getElem_mem lk)
    refine .inl ⟨_, _, e1, rfl, .inl ⟨_, _, e1, rfl, .inl ⟨_, _, e2, at_, ?_⟩⟩⟩
    -- the place moves on
    refine .inl ⟨_, _, e1, rfl, .inl ⟨_, _, e1, rfl, ?_⟩⟩
    generalize hx : ns[p.toNat] = x at cz
    have f1 : updD h a (.lst [.ref c, .int (p + 1), .int g, .int st, .int n]) a = some (.lst [.ref c, .int (p + 1), .int g, .int st, .int n]) := updD_same
    have b1 : ExB a h (updD h a (.lst [.ref c, .int (p + 1), .int g, .int st, .int n])) := .setH e1
    refine .inl ⟨_, _, f1, rfl, small_mul 31 20 s0 s1 (by decide) (by decide) (by decide), by show (0 : Int) < 2147483629; decide, ?_⟩
    refine .inl ⟨_, _, f1, rfl, ?_⟩
    have t0 : 0 ≤ ((st * 69621 + x + 11) % 2147483629) := by omega
    have t1 : ((st * 69621 + x + 11) % 2147483629) < 2147483648 := by omega
    have f2 : updD (updD h a (.lst [.ref c, .int (p + 1), .int g, .int st, .int n])) a (.lst [.ref c, .int (p + 1), .int g, .int ((st * 69621 + x + 11) % 2147483629), .int n]) a = some (.lst [.ref c, .int (p + 1), .int g, .int ((st * 69621 + x + 11) % 2147483629), .int n]) := updD_same
    have b2 : ExB a h (updD (updD h a (.lst [.ref c, .int (p + 1), .int g, .int st, .int n])) a (.lst [.ref c, .int (p + 1), .int g, .int ((st * 69621 + x + 11) % 2147483629), .int n])) := b1.trans (.setH f1)
    refine ⟨⟨by decide, by decide, by decide⟩, trivial, ifB (fun _ => ?_) (fun _ => ?_)⟩
    · refine .inl ⟨_, _, f2, rfl, p + 1, x, ((st * 69621 + x + 11) % 2147483629), _, rfl, b2.trans (.setH f2), updD_same, ?_, by omega, by omega, cz, t0, t1⟩
      exact (b2.trans (.setH f2)).keep c _ (Ne.symm nac) e2
    · exact ⟨p + 1, g, ((st * 69621 + x + 11) % 2147483629), _, rfl, b2, f2, b2 c _ (Ne.symm nac) e2, by omega, by omega, g0, t0, t1⟩
  · rintro ρ h1 ⟨p, g, st, o, rfl, x1, e1, e2, p0, p1, g0, s0, s1⟩
    refine .inl ⟨_, _, e1, rfl, trivial, ifB (fun c1 => ?_) (fun c1 => ?_)⟩
    · have gp : 0 < g := of_decide_eq_true c1
      refine .inl ⟨_, _, e1, rfl, hm, .inl ⟨_, _, e1, rfl, ⟨hm, hl⟩, .inl ⟨_, _, e1, rfl, ?_⟩⟩⟩
      have y := x1.trans (ExB.setH (h := h1) (ds' := [.int p, .int (g / m), .int st, .int n]) e1)
      refine q _ (g % m) y ⟨c, ns, p, g / m, st, n, updD_same, ?_, nac, pos, p0, p1, Int.ediv_nonneg g0 (Int.le_of_lt hm), s0, s1, n0, by omega⟩ (Int.emod_nonneg _ (by omega)) (Int.emod_lt_of_pos _ hm)
      exact (ExB.setH e1).keep c _ (Ne.symm nac) e2
    · refine .inl ⟨_, _, e1, rfl, .inl ⟨_, _, e1, rfl, ?_⟩⟩
      have f1 : updD h1 a (.lst [.ref c, .int p, .int g, .int st, .int (n + 1)]) a = some (.lst [.ref c, .int p, .int g, .int st, .int (n + 1)]) := updD_same
      have y := x1.trans (ExB.setH (h := h1) (ds' := [.int p, .int g, .int st, .int (n + 1)]) e1)
      have nb : n + 1 < ((2 ^ 64 : Nat) : Int) := by
        have := p64
        have h15 : (10 : Nat) ^ 15 = 1000000000000000 := by decide
        omega
      have m1 : (0 : Int) < 2147483647 := by decide
      refine .inl ⟨_, _, f1, rfl, .inl ⟨_, _, f1, rfl, small_mul 13 64 (by decide) (by decide) (by omega) nb (by decide), ?_⟩⟩
      have b80 : st + 7919 * (n + 1) < ((2 ^ 80 : Nat) : Int) := by
        have := p64
        have := p80
        omega
      refine ⟨small_mul 80 16 (by omega) b80 (by decide) (by decide) (by decide), m1, ?_⟩
      refine ⟨divw (by decide) (by decide), m1009 _, m1, divw (by decide) (by decide), m2003 _, by show (0 : Int) < 2147483399; decide, divw (by decide) (by decide), hm, ?_⟩
      refine q _ _ y ⟨c, ns, p, g, st, n + 1, updD_same, ?_, nac, pos, p0, p1, g0, s0, s1, by omega, by omega⟩ (Int.emod_nonneg _ (by omega)) (Int.emod_lt_of_pos _ hm)
      exact (ExB.setH e1).keep c _ (Ne.symm nac) e2
theorem p_l_any (ds : List D) (h : HD) (Q : DK) (E : XD) (hs : sp_l_any ds h Q E) : t_l_any P w K W { nx := fun _ h' => Q .non h', rt := Q } (startD [("_law_hand_here" : Str), ("_law_things" : Str)] ds) h := by
  obtain ⟨a, b, x, xs, rfl, H, hb, ne, hl, hx, q⟩ := hs
  have lp : 0 < xs.length := List.length_pos_iff.mpr ne
  have draw : sp_l_draw [.ref a, .int xs.length] h (fun y h2 => (cIxA P w) x y h2 Q) noX := by
    refine ⟨a, b, xs.length, rfl, H, hb, by omega, ?_, fun h' i y Hh i0 i1 => ?_⟩
    · have := p10
      have := few_small (i := (xs.length : Int)) (by omega) 10 (by omega) (by decide)
      omega
    · have il : i.toNat < xs.length := by omega
      have at_ : atI xs i = some xs[i.toNat] := by
        have := atI_nat (xs := xs) (j := i.toNat) (v := xs[i.toNat]) (List.getElem?_eq_getElem il)
        rwa [Int.toNat_of_nonneg i0] at this
      have fin := q h' xs[i.toNat] y Hh (List.getElem_mem il)
      rcases hx with rfl | ⟨p, rfl, pa, e⟩
      · exact .inl ⟨_, at_, fin⟩
      · exact .inl ⟨_, _, y p _ pa e, at_, fin⟩
  rcases hx with rfl | ⟨p, rfl, pa, e⟩
  · exact .inl draw
  · exact .inl (.inl ⟨_, e, draw⟩)
theorem p_l_is (ds : List D) (h : HD) (Q : DK) (E : XD) (hs : sp_l_is ds h Q E) : t_l_is P w K W { nx := fun _ h' => Q .non h', rt := Q } (startD [("_law_told_here" : Str), ("_law_due_here" : Str)] ds) h := by
  obtain ⟨x, y, p, q, rfl, d1, d2, s1, s2, l1, l2, z1, z2, k⟩ := hs
  exact ⟨p, d1, s1, l1, z1, q, d2, s2, l2, z2, k⟩
theorem cut63 (ns : List Int) (h : ns.length ≤ 63) : cutD (ns.map D.int) none (some 63) = ns.map D.int := by
  unfold cutD
  have e1 : HT.sIx (ns.map D.int).length 0 none = 0 := rfl
  have e2 : HT.sIx (ns.map D.int).length (ns.map D.int).length (some 63) = min 63 (ns.map D.int).length := rfl
  rw [e1, e2, List.drop_zero, List.take_of_length_le (by rw [List.length_map]; omega)]
theorem cVar_eq {ρ : En} {i : Nat} {d : D} {k : DK} (e : ρ[i]? = some (some d)) : cVar i ρ h k = k d h := by
  unfold cVar
  rw [e]
theorem abs_loop (ok : HD → Prop) (Q : DK) (ρ : En) (h : HD) (hok : ok h) (r0 : ρ.length = 3) : ∀ (ns : List Int) (acc : List Int), (∀ p, h p = none → Q (.ref p) (updD h p (.lst ((acc ++ ns.map fun n => ((n.natAbs : Nat) : Int)).map D.int)))) →
    cLcGo ok (.one 2) cYes (cCall cAbs (cCons (cCall cInt (cCons (cVar 2) cNil)) cNil)) ρ Q (ns.map D.int) (acc.map D.int) h
  | [], acc, q => ⟨hok, fun p np => by have := q p np; simpa using this⟩
  | n :: ns, acc, q => by
    refine ⟨hok, ?_⟩
    have e : (ρ.set 2 (some (D.int n)))[2]? = some (some (.int n)) := List.getElem?_set_self (by omega)
    show cVar 2 (ρ.set 2 (some (D.int n))) h _
    rw [cVar_eq e]
    show cLcGo ok _ _ _ _ _ _ (acc.map D.int ++ [.int (if n < 0 then -n else n)]) h
    rw [abs_nat]
    have := abs_loop ok Q ρ h hok r0 ns (acc ++ [((n.natAbs : Nat) : Int)]) (fun p np => by have := q p np; simpa using this)
    simpa using this
theorem p_l_hand (ds : List D) (h : HD) (Q : DK) (E : XD) (hs : sp_l_hand ds h Q E) : t_l_hand P w K W { nx := fun _ h' => Q .non h', rt := Q } (startD [("_law_script" : Str), ("_law_cells" : Str), ("_law_cell" : Str)] ds) h := by
  obtain ⟨ns, rfl, hl, q⟩ := hs
  refine .inl fun p np => ?_
  rw [cut63 ns hl]
  refine ⟨_, updD_same, ?_, ?_⟩
  · show (ns.map D.int).length ≤ sizeLine
    rw [List.length_map, sizeLine_eq]; omega
  refine abs_loop _ _ _ _ updD_same rfl ns [] fun p2 np2 => ?_
  have ne2 : p2 ≠ p := fun z => by rw [z, updD_same] at np2; cases np2
  refine .inl (.inl ⟨_, updD_same, ?_⟩)
  refine ⟨by show 5 ≤ sizeLine; decide, fun p3 np3 => ?_⟩
  have x1 : Ex h (updD h p (.lst (ns.map D.int))) := .new np
  have x2 := x1.new' (o := .lst (([] ++ ns.map fun n : Int => ((n.natAbs : Nat) : Int)).map D.int)) np2
  have x3 := x2.new' (o := .lst [.ref p2, .int 0, .int 0, .int (1 + ((([] ++ ns.map fun n : Int => ((n.natAbs : Nat) : Int)).map D.int).length : Int)), .int 0]) np3
  refine q _ p3 x3 ?_ ⟨p2, [] ++ ns.map fun n : Int => ((n.natAbs : Nat) : Int), 0, 0, _, 0, updD_same, ?_, ?_, ?_, Int.le_refl _, by omega, Int.le_refl _, by omega, ?_, Int.le_refl _, by omega⟩
  · cases z : h p3 with
    | none => rfl
    | some o => rw [x2 _ _ z] at np3; cases np3
  · have ne3 : p2 ≠ p3 := fun z => by rw [← z, updD_same] at np3; cases np3
    rw [updD_ne ne3]; exact updD_same
  · intro z; rw [z, updD_same] at np3; cases np3
  · intro x hx
    rw [List.nil_append, List.mem_map] at hx
    obtain ⟨n, _, rfl⟩ := hx
    omega
  · simp only [List.nil_append, List.length_map]
    omega
end
end PD

-- PdR
set_option Elab.async false
set_option linter.all false
set_option maxRecDepth 100000
set_option maxHeartbeats 4000000
/-! PdR: the plain laws of fractions and shares. -/
namespace PD
open PySem PySem.Spec PyProof.Rows L2
section
variable {P : Program} {w : World} {K : PySem.W.Frag} {W : En → XD} {h : HD} {Q : DK} {Z : DE}
theorem isFr_no {xs : List D} (n : xs.length ≠ 2) : isFr (.tup xs) = false := by
  unfold isFr
  split
  · rename_i e
    cases e
    exact absurd rfl n
  · rfl
theorem two_or (x : D) : (∃ a b, x = .tup [a, b]) ∨ (szd x 2 2 = false ∧ isFr x = false) := by
  cases x with
  | tup xs =>
    match xs with
    | [] => exact .inr ⟨rfl, isFr_no (by decide)⟩
    | [_] => exact .inr ⟨rfl, isFr_no (by simp)⟩
    | [a, b] => exact .inl ⟨a, b, rfl⟩
    | a :: b :: c :: r =>
      refine .inr ⟨?_, isFr_no (by simp)⟩
      rw [show szd (.tup (a :: b :: c :: r)) 2 2 = decide (((a :: b :: c :: r).length : Int) = 2) from szd_eq _ 2, decide_eq_false_iff_not]
      simp only [List.length_cons]
      omega
  | _ => exact .inr ⟨rfl, rfl⟩
theorem isI_or (x : D) : (∃ i, x = .int i) ∨ isI x = false := by
  cases x with
  | int i => exact .inl ⟨i, rfl⟩
  | _ => exact .inr rfl
theorem isFr_l {a b : D} (h : isI a = false) : isFr (.tup [a, b]) = false := by
  cases a with
  | int i => cases h
  | _ => rfl
theorem isFr_r {a b : D} (h : isI b = false) : isFr (.tup [a, b]) = false := by
  cases b with
  | int i => cases h
  | _ => cases a <;> rfl
theorem p_is_fraction (ds : List D) (h : HD) (Q : DK) (E : XD) (hs : sp_is_fraction ds h Q E) : t_is_fraction P w K W { nx := fun _ h' => Q .non h', rt := Q } (startD [("thing" : Str)] ds) h := by
  obtain ⟨x, rfl, ⟨⟨z, hk⟩, hp⟩, q⟩ := hs
  refine ⟨x, z, rfl, hk, ?_⟩
  rcases two_or x with ⟨a, b, rfl⟩ | ⟨h1, h2⟩
  · obtain ⟨⟨za, ka⟩, zb, kb⟩ := hp a b rfl
    refine ifF (c := !szd (.tup [a, b]) 2 2) rfl ?_
    refine .inl ⟨a, rfl, a, za, rfl, ka, ?_⟩
    rcases isI_or a with ⟨i, rfl⟩ | ha
    · refine ifF (c := !isI (.int i)) rfl ?_
      refine .inl ⟨b, rfl, b, zb, rfl, kb, ?_⟩
      rcases isI_or b with ⟨j, rfl⟩ | hb
      · refine ifF (c := !isI (.int j)) rfl ?_
        change Q (.bl (decide (0 < j) && decide (gcdI i j = 1))) h at q
        refine .inl ⟨_, rfl, trivial, ?_⟩
        refine ifB (c := decide ((0 : Int) < j)) (fun c => ?_) (fun c => ?_)
        · rw [c] at q
          refine .inl ⟨_, rfl, .inl ⟨_, rfl, i, j, rfl, shp_int _, shp_int _, ?_⟩⟩
          rw [eqD_int]
          exact q
        · rw [c] at q; exact q
      · refine ifT (c := !isI b) (by rw [hb]; rfl) ?_
        rw [isFr_r hb] at q
        exact q
    · refine ifT (c := !isI a) (by rw [ha]; rfl) ?_
      rw [isFr_l ha] at q
      exact ifT rfl q
  · refine ifT (c := !szd x 2 2) (by rw [h1]; rfl) ?_
    rw [h2] at q
    exact ifT rfl q
theorem fr_two {x : D} (e : isFr x = true) : ∃ i j, x = .tup [.int i, .int j] ∧ 0 < j ∧ gcdI i j = 1 := by
  rcases two_or x with ⟨a, b, rfl⟩ | ⟨h1, h2⟩
  · rcases isI_or a with ⟨i, rfl⟩ | ha
    · rcases isI_or b with ⟨j, rfl⟩ | hb
      · have e' : (decide (0 < j) && decide (gcdI i j = 1)) = true := e
        rw [Bool.and_eq_true, decide_eq_true_eq, decide_eq_true_eq] at e'
        exact ⟨i, j, rfl, e'⟩
      · rw [isFr_r hb] at e; cases e
    · rw [isFr_l ha] at e; cases e
  · rw [h2] at e; cases e
theorem p_is_share (ds : List D) (h : HD) (Q : DK) (E : XD) (hs : sp_is_share ds h Q E) : t_is_share P w K W { nx := fun _ h' => Q .non h', rt := Q } (startD [("thing" : Str)] ds) h := by
  obtain ⟨x, rfl, hk, q⟩ := hs
  refine ⟨x, rfl, hk, ifB (c := isFr x) (fun c => ?_) (fun c => ?_)⟩
  · obtain ⟨i, j, rfl, _, _⟩ := fr_two c
    have e : isSh (.tup [.int i, .int j]) = (decide (0 < i) && decide (i ≤ j)) := by
      show (isFr (.tup [.int i, .int j]) && (decide (0 < i) && decide (i ≤ j))) = _
      rw [c, Bool.true_and]
    rw [e] at q
    refine .inl ⟨_, rfl, ifB (c := decide ((0 : Int) < i)) (fun c2 => ?_) (fun c2 => ?_)⟩
    · rw [c2] at q; exact .inl ⟨_, rfl, trivial, q⟩
    · rw [c2] at q; exact q
  · have e : isSh x = false := by unfold isSh; rw [c, Bool.false_and]
    rw [e] at q
    exact q
/-- a comprehension over pairs of numbers that tells flags -/
theorem flags_loop (ok : HD → Prop) (te : CE) (f : Int × Int → Bool) (i : Nat) (Q : DK) (ρ : En) (h : HD) (hok : ok h) (r0 : i < ρ.length) (ht : ∀ (x : Int × Int) (k : DK), k (.bl (f x)) h → te (ρ.set i (some (prD2 x))) h k) : ∀ (xs : List (Int × Int)) (acc : List Bool), (∀ p, h p = none → Q (.ref p) (updD h p (.lst ((acc ++ xs.map f).map D.bl)))) →
    cLcGo ok (.one i) cYes te ρ Q (xs.map prD2) (acc.map D.bl) h
  | [], acc, q => ⟨hok, fun p np => by have := q p np; simpa using this⟩
  | x :: xs, acc, q => by
    refine ⟨hok, ?_⟩
    refine ht x _ ?_
    have := flags_loop ok te f i Q ρ h hok r0 ht xs (acc ++ [f x]) (fun p np => by have := q p np; simpa using this)
    simpa using this
theorem prD2_kd (h : HD) (x : Int × Int) : kdP h (prD2 x) := ⟨⟨.tup, rfl⟩, fun a b e => by
  have e' : ([.int x.1, .int x.2] : List D) = [a, b] := D.tup.inj e
  injection e' with e1 e2
  injection e2 with e2 _
  subst e1 e2
  exact ⟨⟨.int, rfl⟩, .int, rfl⟩⟩
theorem eqD_pr (x : Int × Int) (i j : Int) : eqD (prD2 x) (.tup [.int i, .int j]) = decide (x = (i, j)) := by
  obtain ⟨a, b⟩ := x
  simp only [eqD, toP, toPs, prD2, PyData.eqv, PyData.eqvAll]
  exact Bool.eq_iff_iff.mpr (by simp)
theorem shp_pr (x : Int × Int) : shp (prD2 x) := ⟨rfl, rfl⟩
theorem p_are_shares (ds : List D) (h : HD) (Q : DK) (E : XD) (hs : sp_are_shares ds h Q E) : t_are_shares P w K W { nx := fun _ h' => Q .non h', rt := Q } (startD [("things" : Str), ("one" : Str)] ds) h := by
  obtain ⟨a, xs, rfl, e, hl, ok, q⟩ := hs
  refine .inl ⟨_, e, ?_, ?_⟩
  · show (xs.map prD2).length ≤ sizeLine
    rw [List.length_map, sizeLine_eq]; omega
  refine flags_loop _ _ (fun x => isSh (prD2 x)) 1 _ _ h e (by show 1 < 2; decide) (fun x k q1 => ⟨prD2 x, rfl, prD2_kd h x, q1⟩) xs [] fun p np => ?_
  have x1 : Ex h (updD h p (.lst (([] ++ xs.map fun x => isSh (prD2 x)).map D.bl))) := .new np
  have e2 := x1 a _ e
  refine ⟨[] ++ xs.map fun x => isSh (prD2 x), updD_same, ?_⟩
  have q2 := q _ x1
  have ea : (([] ++ xs.map fun x => isSh (prD2 x)).all id) = xs.all fun x => isSh (prD2 x) := by
    rw [List.nil_append, List.all_map]; rfl
  refine ifB (c := ([] ++ xs.map fun x => isSh (prD2 x)).all id) (fun c => ?_) (fun c => ?_)
  · rw [ea] at c
    rw [c, Bool.true_and] at q2
    refine ⟨a, xs, rfl, e2, ok, shp_pr _, shp_pr (1, 1), ?_⟩
    rw [eqD_pr]
    exact q2
  · rw [ea] at c
    rw [c, Bool.false_and] at q2
    exact q2
end
end PD

-- PdS
set_option Elab.async false
set_option linter.all false
set_option maxRecDepth 100000
set_option maxHeartbeats 4000000
/-! PdS: data of few signs: what repr and == ask of it. -/
namespace PD
open PySem PySem.Spec PyProof.Rows L2
/-- the text of x has at most L signs; x is at most d deep -/
structure Sm (L d : Nat) (x : D) : Prop where
  rf : PD.rf x = true
  sh : (toP x).showable = true
  len : (toP x).shown.length ≤ L
  dep : (toP x).depth ≤ d
  lay : (toP x).canLay0 = true
theorem Sm.le {L M d e : Nat} {x : D} (s : Sm L d x) (h : L ≤ M) (g : d ≤ e) : Sm M e x := ⟨s.rf, s.sh, Nat.le_trans s.len h, Nat.le_trans s.dep g, s.lay⟩
theorem Sm.shp {L d : Nat} {x : D} (s : Sm L d x) (h : d ≤ 64) : PD.shp x := ⟨s.rf, by
  show ((toP x).canLay0 && decide ((toP x).depth ≤ 64)) = true
  rw [s.lay, decide_eq_true (Nat.le_trans s.dep h)]; rfl⟩
theorem sm_int {i : Int} (h : i.natAbs < 10 ^ 31) : Sm 32 0 (.int i) := by
  refine ⟨rfl, ?_, ?_, Nat.le_refl _, rfl⟩
  · show decide (i.natAbs.log2 < 1920) = true
    have h2 : i.natAbs < 2 ^ 110 := Nat.lt_trans h (by decide)
    have := few_log h2 (by decide)
    exact decide_eq_true (by omega)
  · show (Str.ofString (toString i)).length ≤ 32
    rw [PySem.ofString_length]
    exact int_text_length_le10 (by decide) h
theorem sm_non : Sm 32 0 .non := ⟨rfl, rfl, by decide +kernel, Nat.le_refl _, rfl⟩
theorem sm_bl (b : Bool) : Sm 32 0 (.bl b) := ⟨rfl, rfl, by cases b <;> decide +kernel, Nat.le_refl _, rfl⟩
theorem sms {L d : Nat} : ∀ {xs : List D}, (∀ x ∈ xs, Sm L d x) → rfs xs = true ∧ PyData.showableAll (toPs xs) = true ∧ ((PyData.shownAll (toPs xs)).map (·.length)).sum + 2 * (PyData.shownAll (toPs xs)).length ≤ (L + 2) * xs.length ∧ PyData.depthAll (toPs xs) ≤ d ∧ PyData.canLayAll0 (toPs xs) = true
  | [], _ => ⟨rfl, rfl, Nat.le_refl _, Nat.zero_le _, rfl⟩
  | x :: xs, h => by
    have s := h x (List.mem_cons_self ..)
    obtain ⟨a, b, c, e, f⟩ := sms (xs := xs) fun y hy => h y (List.mem_cons_of_mem _ hy)
    refine ⟨?_, ?_, ?_, ?_, ?_⟩
    · show (PD.rf x && rfs xs) = true
      rw [s.rf, a]; rfl
    · show ((toP x).showable && PyData.showableAll (toPs xs)) = true
      rw [s.sh, b]; rfl
    · show (((toP x).shown :: PyData.shownAll (toPs xs)).map (·.length)).sum + 2 * ((toP x).shown :: PyData.shownAll (toPs xs)).length ≤ (L + 2) * (xs.length + 1)
      rw [List.map_cons, List.sum_cons, List.length_cons, Nat.mul_add, Nat.mul_add]
      have := s.len
      omega
    · show max (toP x).depth (PyData.depthAll (toPs xs)) ≤ d
      have := s.dep
      omega
    · show ((toP x).canLay0 && PyData.canLayAll0 (toPs xs)) = true
      rw [s.lay, f]; rfl
theorem sm_tup {L d : Nat} {xs : List D} (h : ∀ x ∈ xs, Sm L d x) : Sm ((L + 2) * xs.length + 3) (d + 1) (.tup xs) := by
  obtain ⟨a, b, c, e, f⟩ := sms h
  refine ⟨a, b, ?_, by show PyData.depthAll (toPs xs) + 1 ≤ d + 1; omega, f⟩
  show (tupleText (PyData.shownAll (toPs xs))).length ≤ _
  have := tupleText_len_le (PyData.shownAll (toPs xs))
  omega
theorem sm_tupN {L d n : Nat} {xs : List D} (hn : xs.length ≤ n) (h : ∀ x ∈ xs, Sm L d x) : Sm ((L + 2) * n + 3) (d + 1) (.tup xs) :=
  (sm_tup h).le (Nat.add_le_add_right (Nat.mul_le_mul_left _ hn) 3) (Nat.le_refl _)
theorem is_facts {L d : Nat} {x : D} {h : HD} (s : Sm L d x) (hL : L ≤ 10000000) (hd : d ≤ 100) : den h x (toP x) ∧ (toP x).showable = true ∧ (toP x).shown.length ≤ sizeLine ∧ (toP x).depth ≤ 100 :=
  ⟨.inl ⟨s.rf, rfl⟩, s.sh, Nat.le_trans s.len (by rw [sizeLine_eq]; omega), Nat.le_trans s.dep hd⟩
/-- two like things are found like -/
theorem is_same {L d : Nat} {x : D} {h : HD} {Q : DK} (s : Sm L d x) (hL : L ≤ 10000000) (hd : d ≤ 100) (q : Q (.bl true) h) : sp_l_is [x, x] h Q noX := by
  have z : L ≤ sizeLine := by rw [sizeLine_eq]; omega
  refine ⟨x, x, toP x, toP x, rfl, .inl ⟨s.rf, rfl⟩, .inl ⟨s.rf, rfl⟩, s.sh, s.sh, Nat.le_trans s.len z, Nat.le_trans s.len z, Nat.le_trans s.dep hd, Nat.le_trans s.dep hd, ?_⟩
  rw [decide_eq_true rfl]; exact q
/-- two lists of like things are found like -/
theorem is_sameL {L d : Nat} {xs : List D} {p p' : Addr} {h : HD} {Q : DK} (e : h p = some (.lst xs)) (e' : h p' = some (.lst xs)) (s : ∀ x ∈ xs, Sm L d x) (hL : (L + 2) * xs.length + 3 ≤ 10000000) (hd : d + 1 ≤ 100) (q : Q (.bl true) h) : sp_l_is [.ref p, .ref p'] h Q noX := by
  obtain ⟨a, b, c, e1, f⟩ := sms s
  have l : (PyData.list (toPs xs)).shown.length ≤ sizeLine := by
    show (listText (PyData.shownAll (toPs xs))).length ≤ _
    have := listText_len_le (PyData.shownAll (toPs xs))
    rw [sizeLine_eq]; omega
  have dd : (PyData.list (toPs xs)).depth ≤ 100 := by
    show PyData.depthAll (toPs xs) + 1 ≤ 100
    omega
  refine ⟨.ref p, .ref p', .list (toPs xs), .list (toPs xs), rfl, .inr ⟨p, xs, rfl, e, a, rfl⟩, .inr ⟨p', xs, rfl, e', a, rfl⟩, b, b, l, l, dd, dd, ?_⟩
  rw [decide_eq_true rfl]; exact q
theorem eqD_self (x : D) : eqD x x = true := PySem.SeqAt.eqv_refl_plain _ (plain_toP x)
end PD

-- PdU
set_option Elab.async false
set_option linter.all false
set_option maxRecDepth 100000
set_option maxHeartbeats 4000000
/-! PdU: what the ends of the laws look up of the text, as Bools. -/
namespace PD
open PySem PySem.Spec PyProof.Rows L2
theorem gf_no {P : Program} {w : World} {K : PySem.W.Frag} {mg : Str → Option Value} {base : Heap} {k : Nat} {f : Addr} {fd : FuncData} {ps : List Str} {sp : SpD} (n : ∀ ds h Q E, ¬ sp ds h Q E) : GF P w K mg base k f fd ps sp :=
  ⟨fun ds h Q E q => absurd q (n _ _ _ _), fun A outer s H args us vs Q E hr hg he hb hv ⟨ds, h, Q', E', a, b, c, d, e⟩ => absurd c (n _ _ _ _)⟩
theorem band {a b : Bool} (h : (a && b) = true) : a = true ∧ b = true := Bool.and_eq_true_iff.mp h
def oexB (K : PySem.W.Frag) (C : Addr) : Bool := (match K.lookup C with
  | some ⟨.type "type", _, .cls cd, sl⟩ => (match cd.mro, sl.toList with
    | .ref C' :: bm, [_, _, _, _, some (.builtin n), _] => C' == C && n == "ValueError.__new__" && !cd.hasDel && cd.hasDict && PySem.HandSPX.refsVE bm
    | _, _ => false)
  | _ => false) && (decide (PySem.W.findIn K (.ref C) "__setattr__" = some (some (.builtin "object.__setattr__"))) && (decide (PySem.W.subIn K (.ref C) (.type "BaseException") = some true) && (decide (PySem.W.typeIn K (.ref C) = some (.type "type")) && PySem.W.keepIn K (.ref C))))
theorem oexB_ok {K : PySem.W.Frag} {C : Addr} (h : oexB K C = true) : OexC K C := by
  obtain ⟨q, h⟩ := band h
  obtain ⟨h1, h⟩ := band h
  obtain ⟨h2, h⟩ := band h
  obtain ⟨h3, h4⟩ := band h
  refine ⟨?_, of_decide_eq_true h1, of_decide_eq_true h2, of_decide_eq_true h3, h4⟩
  split at q
  · rename_i dd cd sl ho
    split at q
    · rename_i C' bm k0 k1 k2 k3 n k5 hm hs
      simp only [Bool.and_eq_true, beq_iff_eq, Bool.not_eq_true'] at q
      obtain ⟨⟨⟨⟨rfl, rfl⟩, hdel⟩, hd⟩, ht⟩ := q
      obtain ⟨nm, bs, mro, ns, qn, hd', sn, sub, ab, col, del⟩ := cd
      dsimp only at hm hdel hd
      subst hm hdel hd
      have hsl : sl = #[k0, k1, k2, k3, some (.builtin "ValueError.__new__"), k5] := by
        obtain ⟨l⟩ := sl
        simp only at hs
        rw [hs]
      subst hsl
      exact ⟨nm, qn, ns, bs, bm, sn, sub, ab, col, dd, k0, k1, k2, k3, k5, ho, ht⟩
    · cases q
  · cases q
def exciB (K : PySem.W.Frag) (C : Addr) : Bool := (PySem.W.clsIn K C).isSome && (decide (PySem.W.findIn K (.ref C) "__getattribute__" = some (some (.builtin "BaseException.__getattribute__"))) && (decide (PySem.W.findIn K (.ref C) "__getattr__" = some none) && (decide (PySem.W.subIn K (.ref C) (.type "BaseException") = some true) &&
  (decide (PySem.W.findIn K (.ref C) "__class__" = some (some (.builtin "object.__class__"))) && (decide (PySem.W.specialIn K (.builtin "object.__class__") "__get__" = some (some (.builtin "getset_descriptor.__get__"))) && (decide (PySem.W.takesIn K (.builtin "object.__class__") = some true) && decide (PySem.W.mroIn K C (.type "object") = some true)))))))
theorem exciB_ok {K : PySem.W.Frag} {C : Addr} (h : exciB K C = true) : ExcI K C := by
  obtain ⟨h1, h⟩ := band h
  obtain ⟨h2, h⟩ := band h
  obtain ⟨h3, h⟩ := band h
  obtain ⟨h4, h⟩ := band h
  obtain ⟨h5, h⟩ := band h
  obtain ⟨h6, h⟩ := band h
  obtain ⟨h7, h8⟩ := band h
  exact ⟨h1, of_decide_eq_true h2, of_decide_eq_true h3, of_decide_eq_true h4, of_decide_eq_true h5, of_decide_eq_true h6, of_decide_eq_true h7, of_decide_eq_true h8⟩
def isicB (K : PySem.W.Frag) (C : Addr) : Bool := decide (PySem.W.findIn K (.ref C) "__class__" = some (some (.builtin "object.__class__"))) && (decide (PySem.W.specialIn K (.builtin "object.__class__") "__get__" = some (some (.builtin "getset_descriptor.__get__"))) && (decide (PySem.W.takesIn K (.builtin "object.__class__") = some true) && decide (PySem.W.mroIn K C (.type "object") = some true)))
theorem isicB_ok {K : PySem.W.Frag} {C : Addr} (c : Cls K C) (h : isicB K C = true) : IsiC K C := by
  obtain ⟨h5, h⟩ := band h
  obtain ⟨h6, h⟩ := band h
  obtain ⟨h7, h8⟩ := band h
  exact ⟨c, of_decide_eq_true h5, of_decide_eq_true h6, of_decide_eq_true h7, of_decide_eq_true h8⟩
/-- one of the Bools that are told -/
theorem all_at {bs : List Bool} (h : bs.all id = true) (i : Nat) {b : Bool} (e : bs[i]? = some b) : b = true := List.all_eq_true.mp h b (List.mem_of_getElem? e)
theorem isFn_ty {K : PySem.W.Frag} {v : Value} (h : PySem.W.isFn K v = true) : PySem.W.typeIn K v = some (.type "function") := by
  unfold PySem.W.isFn at h
  exact eq_of_beq h
/-- an own error class with an __init__ that keeps its argument -/
theorem de_of {P : Program} {w : World} {K : PySem.W.Frag} {mg : Str → Option Value} {base : Heap} {x f pn qual : Str} {C : Addr} {st : Stmt} {fd : FuncData} {N : List Str} {p1 p2 p3 pos : Pos} (T : OexC K C) (hno : PySem.W.findIn K (.ref C) f = some none) (M : Meth K C "__init__" (He.ma K C "__init__")) (m : mg x = some (.ref C))
    (b : Binds K fd [("self" : Str), pn] []) (F : Fun K "__init__" qual st (He.ma K C "__init__") fd) (S : FnScope N [("self" : Str), pn] (defScope st)) (hN : N = [("self" : Str), pn]) (hb : defBody st = [.Assign [.Attribute (.Name "self" p1) f p2] (.Name pn p3) pos]) (v0 : Vis (defScope st) "self") (v1 : Vis (defScope st) pn)
    (d1 : (pn == ("__debug__" : Str)) = false) (c1 : (pn == ("__classdict__" : Str)) = false) : De K P w mg base x C f pn :=
  ⟨_, fd, T, hno, M.at_, isFn_ty M.fn, m, b, fn_init F S hN hb v0 v1 d1 c1⟩
end PD

-- PdV
set_option Elab.async false
set_option linter.all false
set_option maxRecDepth 100000
set_option maxHeartbeats 4000000
/-! PdV: list comprehensions whose element may raise out of the def (the core follows HandS.Comp's lc_core over KE.GoesComp's comprehension_at). -/
namespace PD
open PySem PySem.Spec PyProof.Rows L2
/-- a comprehension's block; what it raises goes on in the def -/
abbrev blkR (X : Cx) (s : Shared) (H : Hp) (scope : Scope) (ce : Env) (fp : List Addr) : Cx :=
  { X.blk s H scope ce fp with xe := notedBy (model X.prog X.w) X.A ce (CompFails (model X.prog X.w) X.A X.xe ce) }
theorem inv_blkR {X : Cx} {s0 : Shared} {H0 : Hp} {scope : Scope} {ce : Env} {fp : List Addr} {pins : List (Addr × Obj)} {σ : L2.St} {H : Hp} {s : Shared} (I : Inv (X.blk s0 H0 scope ce fp) pins σ H s) : Inv (blkR X s0 H0 scope ce fp) pins σ H s := by
  obtain ⟨⟨a1, a2, a3, a4, a5, a6, a7, a8, a9, a10, a11, a12, a13, a14, a15, a16, a17, a18⟩, b, c, d, e, f, g, i, j, k, l⟩ := I
  exact ⟨⟨a1, a2, a3, a4, a5, a6, a7, a8, a9, a10, a11, a12, a13, a14, a15, a16, a17, a18⟩, b, c, d, e, f, g, i, j, k, l⟩
/-- noted by another frame -/
theorem looks_off {M : Model} {A : Around} {E : Value → Shared → Prop} {s : Shared} {Z : Obj → Prop} {base : Heap} {env : Env} {outer : List Env} {L e : Addr} {fl : Value} {Q : Unit → Shared → Prop} (hZ : HandSPX.Steady Z) (hfr : A.frames = some (env :: outer)) (hf : env.frame = some L)
    (hkb : base.StaysIn s.heap) (hen : base.get? e = none) (hl : s.heap.FunFrames base (env :: outer)) (ht : HandSPX.TracedZ s.heap base e Z fl) (nf : (fl == rawInt L) = false)
    (hQ : ∀ h', HandSPX.HeldZ base (env :: outer) e Z L h' → s.heap.UpToSlots h' → Q () { s with heap := h' }) : wpAny M A (noteFrame (.ref e) env) Q E s := by
  obtain ⟨oe, vs, T, oT, ts, he, hz, hd, h1, hnT, hTe, hT, hdT, h3⟩ := ht
  unfold noteFrame
  simp only [hf]
  refine wpAny_bind (wpAny_field he hd h1 ?_)
  rw [if_pos (show (Value.ref T != Value.none) = true from by simp)]
  refine wpAny_bind (wpAny_field hT hdT h3 ?_)
  rw [if_neg (by rw [nf]; decide)]
  refine wpAny_bind (wpAny_setField hT hdT (Array.getElem?_eq_some_iff.mp h3).1 ?_)
  have other : ∀ b, b ≠ T → (s.heap.update T (Obj.mapFields (·.setIfInBounds 3 Value.none))).get? b = s.heap.get? b := fun b hb => Heap.get?_update_other _ _ (Ne.symm hb)
  have noRecord : ∀ b o, s.heap.get? b = some o → (∀ vs, o.data ≠ .fields vs) → b ≠ T := fun b o hb hnf q => by
    rw [q, hT] at hb; injection hb with hb; subst hb; exact hnf ts hdT
  refine HandSPX.wpAny_entryZ hZ hfr (hl.of_keeps fun b o hb hnf => ⟨o, (other b (noRecord b o hb hnf)).trans hb, rfl⟩) hf ((other e (Ne.symm hTe)).trans he)
    (fun b o hbo => (other b fun q => by rw [q, hnT] at hbo; cases hbo).trans (hkb b o hbo)) hen hd (Array.getElem?_eq_some_iff.mp h1).1 hz fun h' hN => ?_
  obtain ⟨x1, x2, x3, x4⟩ := hN
  exact hQ h' ⟨x1, hen, x2, x3⟩ fun b o hb hnf => x4 b o ((other b (noRecord b o hb hnf)).trans hb) hnf
/-- a sky, noted by the frame L that is not L' -/
theorem sky_noted {M : Model} {A : Around} {E : Value → Shared → Prop} {s : Shared} {Z : Obj → Prop} {B : Heap} {env : Env} {outer : List Env} {L L' a : Addr} {Q : Unit → Shared → Prop} (hZ : HandSPX.Steady Z) (hfr : A.frames = some (env :: outer)) (hf : env.frame = some L) (ne : L' ≠ L)
    (x : Sky B (env :: outer) a Z L' s.heap) (hQ : ∀ h', HandSPX.HeldZ B (env :: outer) a Z L h' → s.heap.UpToSlots h' → Q () { s with heap := h' }) : wpAny M A (noteFrame (.ref a) env) Q E s := by
  rcases x with ⟨hB, hn, hl, oe, vs, he, hz, hd, h1⟩ | fl | ⟨k1, k2, k3, k4⟩
  · exact HandSPX.look_newZ hZ hfr hl hf he hB hn hd h1 hz hQ
  · exact HandSPX.looks_onZ hZ hfr hf fl hQ
  · refine looks_off hZ hfr hf k1 k2 k3 k4 ?_ hQ
    cases q : (rawInt L' == rawInt L) with
    | false => rfl
    | true =>
      have z := eq_of_beq q
      unfold rawInt at z
      injection z with z
      exact absurd (Int.ofNat.inj z) ne
section
variable {X : Cx} {B0 : Bs} {pins : List (Addr × Obj)} {σ : L2.St} {H3 : Hp} {s3 : Shared}
/-- what an element lets out goes on in the def -/
theorem tk_blk {scope : Scope} {ce : Env} {fp : List Addr} {E0 : XD} (hs : X.stack = X.env :: X.outer) (hf : X.env.frame = some X.env.locals) (I3 : Inv X pins σ H3 s3) (hL : ce.locals = s3.heap.objs.size) (hcf : ce.frame = X.env.frame)
    (f3 : ∀ b ∈ fp, FpOk X pins H3 b) (tk : TkD X B0 fun _ => E0) : TkD (blkR X s3 H3 scope ce fp) B0 fun _ => E0 := by
  rintro u s' ⟨a, B, sI, pinsI, σI, H, cls, d, rfl, I, nb, up, sky, na, os, ag, ρ, h, fs, sl, rb, xr, w⟩
  have hfr : X.A.frames = some (X.env :: X.outer) := by rw [I3.ok.frames, hs]
  have lt : X.env.locals < s3.heap.objs.size := I3.lt
  have neL : ce.locals ≠ X.env.locals := by rw [hL]; exact Nat.ne_of_gt lt
  show wpAny (model X.prog X.w) X.A (noteFrame (.ref a) ce) _ _ s'
  rw [noteFrame_env _ hcf]
  have sky : Sky B X.stack a (Zc cls d) ce.locals s'.heap := sky
  rw [hs] at sky
  refine sky_noted Zc.steady hfr hf neL sky fun h1 hd up1 => ?_
  obtain ⟨m, hn, _⟩ := I.loc
  have hn : sI.heap.Ns ce.locals m := hn
  have hn1 : h1.Ns ce.locals m := (up.trans up1).ns hn
  refine ⟨m, hn1, fun h' m' hn' sb => ?_⟩
  obtain ⟨k1, k2, k3, oe, vs, T, oT, ts, he, hz, hdt, hv1, hnT, hTe, hT, hdT, ht3⟩ := hd
  obtain ⟨oC, es, ep, hoC, hdC, _⟩ := hn1
  obtain ⟨oC', es', ep', hoC', hdC', _⟩ := id hn'
  have aC : a ≠ ce.locals := fun z => by rw [z] at he; rw [hoC] at he; cases he; rw [hdC] at hdt; cases hdt
  have TC : T ≠ ce.locals := fun z => by rw [z] at hT; rw [hoC] at hT; cases hT; rw [hdC] at hdT; cases hdT
  have he' : h'.get? a = some oe := (sb.2 a aC).trans he
  have hT' : h'.get? T = some oT := (sb.2 T TC).trans hT
  -- neither the exception nor its traceback stands in the state without it
  have out : ∀ b o, h1.get? b = some o → (∃ vs, o.data = .fields vs) → B.get? b = none → sI.heap.get? b = none := fun b o e ⟨vs, ev⟩ nB => by
    cases q : sI.heap.get? b with
    | none => rfl
    | some o2 =>
      by_cases hb : b ∈ frs X.stack
      · rw [hs] at hb
        obtain ⟨_, o3, e3, n3⟩ := k3.mem hb
        rw [e] at e3; cases e3
        exact absurd ev (n3 vs)
      · rw [nb b o2 q hb] at nB; cases nB
  have outa := out a oe he ⟨vs, hdt⟩ k2
  have outT := out T oT hT ⟨ts, hdT⟩ hnT
  -- the state without it, the block's names as they are let go
  obtain ⟨oI, esI, epI, hoI, hdI, _⟩ := hn
  have nfr : oC'.isFreed = false := Obj.isFreed_of_dict hdC'
  let hm := sI.heap.update ce.locals (fun _ => oC')
  have hmC : hm.get? ce.locals = some oC' := Heap.get?_update_self _ hoI nfr
  have hmo : ∀ b, b ≠ ce.locals → hm.get? b = sI.heap.get? b := fun b hb => Heap.get?_update_other _ _ (Ne.symm hb)
  have hfrs : ce.locals ∉ frs X.stack := fun hb => by
    rcases List.mem_cons.mp (I3.stkSub _ hb) with z | z
    · exact neL z
    · exact I3.nofs (by rw [hL]; exact Nat.le_refl _) z
  -- the ground
  let B' := PySem.W.hideAll hm (frs X.stack)
  have gB : ∀ b o, B'.get? b = some o → hm.get? b = some o ∧ b ∉ frs X.stack := fun b o e => ⟨PySem.W.of_hideAll _ e, fun hb => by
    have := PySem.W.hideAll_none (h := hm) _ hb
    rw [show B'.get? b = none from this] at e; cases e⟩
  have st' : B'.StaysIn h' := fun b o e => by
    obtain ⟨e1, nb1⟩ := gB b o e
    by_cases hb : b = ce.locals
    · rw [hb] at e1 ⊢
      rw [hmC] at e1; cases e1
      exact hoC'
    · rw [hmo b hb] at e1
      exact (sb.2 b hb).trans (k1 b o (nb b o e1 nb1))
  have Bn : ∀ b, sI.heap.get? b = none → b ≠ ce.locals → B'.get? b = none := fun b e nc => by
    cases q : B'.get? b with
    | none => rfl
    | some o =>
      have := (gB b o q).1
      rw [hmo b nc, e] at this; cases this
  have ff' : h'.FunFrames B' (X.env :: X.outer) := funFrames_none (Heap.FunFrames.sameBut sb hn' k3) fun L hL => by
    exact PySem.W.hideAll_none (h := hm) _ (by rw [hs]; exact hL)
  have tr' : HandSPX.TracedZ h' B' a (Zc cls d) (rawInt X.env.locals) := ⟨oe, vs, T, oT, ts, he', hz, hdt, hv1, Bn T outT TC, hTe, hT', hdT, ht3⟩
  unfold PySem.passOn
  refine wpAny_bind (wpAny_field he' hdt hv1 ?_)
  rw [if_neg (show ¬ ((Value.ref T == Value.none) = true) from by simp)]
  rw [hcf, hf]
  refine wpAny_bind (HandSPX.setFlight_anyZ st' ff' tr' fun h2 g1 g2 g3 g4 => ?_)
  refine wpAny_throw ?_
  -- in the def's air
  have I6 : Inv X pins σ H sI := I3.call' (ch := fp) I.os I.base I.hok I.bare fun b hb => ⟨(f3 b hb).2.2.2.1, (f3 b hb).2.1, (f3 b hb).2.2.2.2.1, (f3 b hb).2.2.2.2.2⟩
  have nC : H ce.locals = none := I.free
  obtain ⟨c0, c1, c2, c3, c4, c5⟩ : FpOk X pins H ce.locals := I3.fpOk (by rw [hL]; exact Nat.le_refl _) nC
  have I7 : Inv X pins σ H { sI with heap := hm, toks := sI.toks } := I6.turned (it := ce.locals) (fun b o hb e => (hmo b hb).trans e) c0 c1 c3 c4 c5
  refine tk (.ref a) _ ⟨a, B', { sI with heap := hm, toks := sI.toks }, pins, σ, H, cls, d, rfl, I7, fun b o e hb => PySem.W.hideAll_get _ e hb, fun b o e hnf => ?_, ?_, na, os, ag, List.replicate σ.length none, h, fs, ⟨List.length_replicate, fun i d e => ?_⟩, rb, xr, w⟩
  · by_cases hb : b = ce.locals
    · subst hb
      have e : hm.get? ce.locals = some o := e
      rw [hmC] at e; cases e
      exact g4 _ _ hoC' hnf
    · have e : hm.get? b = some o := e
      rw [hmo b hb] at e
      obtain ⟨sl1, e1⟩ := (up.trans up1) b o e hnf
      exact let ⟨sl2, e2⟩ := g4 b _ ((sb.2 b hb).trans e1) hnf
        ⟨sl2, e2⟩
  · rw [hs]
    exact .inr (.inr ⟨g1, Bn a outa aC, g2, g3⟩)
  · rw [List.getElem?_replicate] at e
    split at e <;> cases e
end
section
variable {X : Cx} {B0 : Bs}
theorem lcR_core {pins : List (Addr × Obj)} {s : Shared} {σ : L2.St} {H : Hp} {Q : VK} {elt tg iter : Expr} {ifs : List Expr} {scope : Scope} {own : List (Str × Nat)} {pos pos' : Pos} {wi : TI} {g : TG} {tt : TT} {te : TE} {use : Option (Value → Sem Unit)} {Qf : Value → Shared → Prop} {E0 : XD}
    (hst : X.stack = X.env :: X.outer) (hfr : X.env.frame = some X.env.locals) (tk : TkD X B0 fun _ => E0) (hc : X.calm = true) (hN : X.N.Nodup) (I : Inv X pins σ H s) (hi : PI X tg iter wi) (ok : BlkOk X.N X.env.scope scope own)
    (hg : ∀ (s : Shared) (H : Hp) (C : Addr) (cl : List (Str × Addr)) (fp : List Addr), PG (blkR X s H scope (compEnvC scope cl C X.env) fp) tg g) (ht : ∀ (s : Shared) (H : Hp) (C : Addr) (cl : List (Str × Addr)) (fp : List Addr), PTs (blkR X s H scope (compEnvC scope cl C X.env) fp) ifs tt)
    (he : ∀ (s : Shared) (H : Hp) (C : Addr) (cl : List (Str × Addr)) (fp : List Addr), TkD (blkR X s H scope (compEnvC scope cl C X.env) fp) B0 (fun _ => E0) → PE (blkR X s H scope (compEnvC scope cl C X.env) fp) elt te) (hs : ∀ x, foldedSetIterable iter X.env x = pure x)
    (h : tLc wi g tt te (own.map (·.2)) σ H Q)
    (hRR : ∀ D ce s' m H', Inv X pins σ H' s' → Q (.ref D) H' → s'.heap.Ns ce.locals m → FpOk X pins H' ce.locals → compEnds (model X.prog X.w) X.A X.xe use Qf (.ref D) ce (.ok .next) s') :
    wpAny (model X.prog X.w) X.A (comprehension (.ListComp elt [⟨tg, iter, ifs, 0⟩] scope pos) scope X.env pos' (newList []) false (eval iter X.env) use) Qf X.xe s := by
  have hfree : ∀ y ∈ scope.names, y.2 = .free → ∃ c, X.env.cells.lookup y.1 = some c := fun y hy e => by
    rcases ok.free y hy e with k | k
    · exact I.ok.has _ (.inl k)
    · exact I.ok.has _ (.inr k)
  refine comprehension_at (use := use) rfl hs (closure_ok hfree) ok.kind (fun y hy e => by rw [ok.uniq y hy, e])
    (thn (hi.run pins s σ H _ I h) fun xv s1 hx => thn hx fun itv s2 h2 => ?_)
  obtain ⟨it, fp, tn, J, H2, e, I2, T, st2, f2, q⟩ := h2
  subst e
  refine wpAny_newObj_type (newEnv_comp ?_) (by show 0 ≤ sizeLine; decide)
  generalize hD : s2.heap.objs.size = D
  have hDn : H2 D = none := I2.hok.fresh (Nat.le_of_eq hD)
  obtain ⟨W, ⟨m0, w0⟩, turn⟩ := q D hDn
  generalize hs3 : ({ s2 with heap := s2.heap.push { cls := .type "list", data := .seq ([] : List Value).toArray } } : Shared) = s3
  have I3 : Inv X pins σ (upd H2 D (.lst [])) s3 := by
    rw [← hs3]
    refine I2.laid (t' := s2.toks) (fun b o e => Heap.get?_push_of_some _ e) (Nat.le_of_eq hD) ⟨Nat.zero_le _, [], 0, .nil, ?_⟩
    rw [← hD]
    exact Heap.get?_push_size _ rfl
  have h3 : s3.heap = s2.heap.push { cls := .type "list", data := .seq ([] : List Value).toArray } := by rw [← hs3]
  have sz : ∀ b ∈ fp, b < s2.heap.objs.size := fun b hb => by
    obtain ⟨o, e, _⟩ := T.obj _ _ st2 b hb
    exact Heap.lt_size e
  have f3 : ∀ b ∈ fp, FpOk X pins (upd H2 D (.lst [])) b ∧ b < s3.heap.objs.size := fun b hb => by
    have hlt := sz b hb
    refine ⟨⟨?_, (f2 b hb).2⟩, by rw [h3, Heap.size_push]; exact Nat.lt_succ_of_lt hlt⟩
    rw [upd_ne (by rw [← hD]; exact Nat.ne_of_lt hlt)]
    exact (f2 b hb).1
  have st3 : tn 0 s3.heap := T.keep _ _ _ st2 fun b _ o e => by rw [h3]; exact Heap.get?_push_of_some _ e
  have I4 := inv_blkR (block_start I3 ok hN f3)
  have pg := hg s3 (upd H2 D (.lst [])) s3.heap.objs.size (cellsFrom (s3.heap.objs.size + 1) scope.names (cloFrom X.env.cells scope.names [])) fp
  have pt := ht s3 (upd H2 D (.lst [])) s3.heap.objs.size (cellsFrom (s3.heap.objs.size + 1) scope.names (cloFrom X.env.cells scope.names [])) fp
  have pe := he s3 (upd H2 D (.lst [])) s3.heap.objs.size (cellsFrom (s3.heap.objs.size + 1) scope.names (cloFrom X.env.cells scope.names [])) fp (tk_blk hst hfr I3 rfl rfl (fun b hb => (f3 b hb).1) tk)
  show codeAny _ _ (.compStart (.ListComp elt [⟨tg, iter, ifs, 0⟩] scope pos) 0 (.ref it) (.ref D) (compEnvC scope (cellsFrom (s3.heap.objs.size + 1) scope.names (cloFrom X.env.cells scope.names [])) s3.heap.objs.size X.env)) (compEnds (model X.prog X.w) X.A X.xe use Qf (.ref D) (compEnvC scope (cellsFrom (s3.heap.objs.size + 1) scope.names (cloFrom X.env.cells scope.names [])) s3.heap.objs.size X.env)) { s3 with heap := pushCells (s3.heap.push { cls := .type "dict", data := .dict #[] }) scope.names }
  have nfp : ∀ b ∈ fp, (upd H2 D (.lst [])) b = none := fun b hb => (f3 b hb).1.1
  generalize hce : compEnvC scope (cellsFrom (s3.heap.objs.size + 1) scope.names (cloFrom X.env.cells scope.names [])) s3.heap.objs.size X.env = ce at I4 pg pt pe ⊢
  have cL : ce.locals = s3.heap.objs.size := by subst hce; rfl
  generalize hH3 : upd H2 D (.lst []) = H3 at I3 I4 pg pt pe w0 nfp f3
  generalize hs4 : ({ s3 with heap := pushCells (s3.heap.push { cls := .type "dict", data := .dict #[] }) scope.names } : Shared) = s4 at I4 ⊢
  have st4 : tn 0 s4.heap := T.keep _ _ _ st3 fun b _ o e => by rw [← hs4]; exact pushCells_keeps _ _ _ _ (Heap.get?_push_of_some _ e)
  have stat : ∀ {σ' : L2.St} {H' : Hp} {s' : Shared}, Inv (blkR X s3 H3 scope ce fp) [] σ' H' s' → (∀ b ∈ fp, H' b = none) → ∀ b ∈ fp, FpOk (blkR X s3 H3 scope ce fp) [] H' b := fun {σ' H' s'} I' hn b hb =>
    ⟨hn b hb, (I'.ok.exf b hb).1, I'.ok.exfs b hb, .inl hb, fun x c e => (I'.ok.exf b hb).2 x c e, fun p hp => absurd (show p ∈ ([] : List (Addr × Obj)) ++ [] from hp) (by simp)⟩
  have loop : codeAny (model X.prog X.w) X.A (.compLoop (.ListComp elt [⟨tg, iter, ifs, 0⟩] scope pos) 0 (.ref it) (.ref D) ce) (compEnds (model X.prog X.w) X.A X.xe use Qf (.ref D) ce) s4 := by
    refine compLoop_any (fun n s' => ∃ i H', Inv (blkR X s3 H3 scope ce fp) [] (wipe σ (own.map (·.2))) H' s' ∧ tn i s'.heap ∧ (∀ b ∈ fp, H' b = none) ∧ W i n H') ?_ m0 ⟨0, H3, I4, st4, nfp, w0⟩
    have err : ∀ (e : Value) (s' : Shared), (blkR X s3 H3 scope ce fp).xe e s' → notedBy (model X.prog X.w) X.A ce (fun e s' => compEnds (model X.prog X.w) X.A X.xe use Qf (.ref D) ce (.error e) s') e s' := fun e s' x => by
      cases use <;> exact x
    rintro n s5 ⟨i, H5, I5, st5, n5, w5⟩
    rcases turn i n H5 w5 with ⟨stop, qq⟩ | ⟨go, Nx, hNx, step⟩
    · have td := T.done (blkR X s3 H3 scope ce fp) rfl rfl rfl hc i [] s5 _ H5 (fun _ _ => False) I5 (stat I5 n5) st5 stop
      refine thnF td fun r s6 ⟨hr, I6⟩ => ?_
      subst hr
      have I7 : Inv X pins σ H5 s6 := I3.call' (ch := fp) I6.os I6.base I6.hok I6.bare fun b hb => ⟨(f3 b hb).1.2.2.2.1, (f3 b hb).1.2.1, (f3 b hb).1.2.2.2.2.1, (f3 b hb).1.2.2.2.2.2⟩
      have nC : H5 ce.locals = none := I6.free
      obtain ⟨m, hn, _⟩ := I6.loc
      have hn : s6.heap.Ns ce.locals m := hn
      exact hRR D ce s6 m H5 I7 qq hn (I3.fpOk (by rw [cL]; exact Nat.le_refl _) nC)
    · have ti := T.item (blkR X s3 H3 scope ce fp) rfl rfl rfl hc i [] s5 _ H5 (fun _ _ => False) I5 (stat I5 n5) st5 go
      refine thnF ti fun r s6 ⟨u, hr, h6⟩ => ?_
      subst hr
      refine thnF h6 fun _ s7 ⟨x, H7, I7, r7, y7, st7, n7⟩ => ?_
      have I7' := I7.pinned (stat I7 n7) (T.obj _ _ st7)
      refine wpAny_mono (pg.run _ s7 _ H7 x u _ I7' r7 (step x H7 y7)) (fun _ s8 ⟨σ8, H8, I8, hw8, q8⟩ => ?_) err
      refine wpAny_mono (pt.run _ s8 σ8 H8 _ I8 q8) (fun b s9 ⟨H9, I9, q9⟩ => ?_) err
      have fin : ∀ {s' : Shared} {H' : Hp}, Inv (blkR X s3 H3 scope ce fp) ([] ++ pinsAt fp s7.heap) σ8 H' s' → Nx H' → ∃ m, m < n ∧ ∃ i H', Inv (blkR X s3 H3 scope ce fp) [] (wipe σ (own.map (·.2))) H' s' ∧ tn i s'.heap ∧ (∀ b ∈ fp, H' b = none) ∧ W i m H' := fun {s' H'} I' nx => by
        obtain ⟨m', hm, w'⟩ := hNx H' nx
        have pin' : ∀ b ∈ fp, ∀ o, s7.heap.get? b = some o → s'.heap.get? b = some o ∧ H' b = none := fun b hb o e =>
          let z := I'.pin (b, o) (List.mem_append_right _ (List.mem_append_right _ (mem_pinsAt hb e)))
          ⟨z.1, z.2.1⟩
        have hl : (wipe σ (own.map (·.2))).length = σ8.length := by rw [← hw8, wipe_length]
        refine ⟨m', hm, i + 1, H', (I'.unpinned (pins := [])).weak hl (fun j v e => ?_), T.keep _ _ _ st7 fun b hb o e => (pin' b hb o e).1, fun b hb => ?_, w'⟩
        · rw [← hw8] at e
          exact (wipe_some e).1
        · obtain ⟨o, e, _⟩ := T.obj _ _ st7 b hb
          exact (pin' b hb o e).2
      cases b with
      | false =>
        simp only [Bool.false_eq_true, if_false] at q9 ⊢
        exact fin I9 q9
      | true =>
        simp only [if_true] at q9 ⊢
        refine wpAny_mono (pe.run _ s9 σ8 H9 _ I9 q9) (fun z s10 ⟨yv, H10, I10, r10, acc, hD10, hz10, nx⟩ => ?_) err
        exact app_ok (X := blkR X s3 H3 scope ce fp) I10 hD10 hz10 r10 fun s11 I11 => fin I11 nx
  exact codeAny_compStart_list loop (T.self X.A 0 _ _ _ st4 loop)
theorem qe_lcR {elt tgE iter : Expr} {ifs : List Expr} {scope : Scope} {own : List (Str × Nat)} {pos : Pos} {t : CI} {tg : TgS} {tt : CT} {te : CE} {E0 : XD} (hst : X.stack = X.env :: X.outer) (hfr : X.env.frame = some X.env.locals) (tk : TkD X B0 fun _ => E0) (hc : X.calm = true) (hN : X.N.Nodup) (hi : QI X B0 tgE iter t) (ok : BlkOk X.N X.env.scope scope own)
    (sub : ∀ i ∈ tg.slots, i ∈ own.map (·.2))
    (hg : ∀ (s : Shared) (H : Hp) (C : Addr) (cl : List (Str × Addr)) (fp : List Addr), PG (blkR X s H scope (compEnvC scope cl C X.env) fp) tgE (tg.g X.K))
    (ht : ∀ (s : Shared) (H : Hp) (C : Addr) (cl : List (Str × Addr)) (fp : List Addr), QTs (blkR X s H scope (compEnvC scope cl C X.env) fp) B0 ifs tt)
    (he : ∀ (s : Shared) (H : Hp) (C : Addr) (cl : List (Str × Addr)) (fp : List Addr), TkD (blkR X s H scope (compEnvC scope cl C X.env) fp) B0 (fun _ => E0) → QE (blkR X s H scope (compEnvC scope cl C X.env) fp) B0 elt te) (hs : ∀ x, foldedSetIterable iter X.env x = pure x := by intro _; rfl) :
    QE X B0 (.ListComp elt [⟨tgE, iter, ifs, 0⟩] scope pos) (cLc t tg tt te (own.map (·.2))) := by
  refine ⟨fun pins s σ H Q I h => ?_⟩
  have h := low_lc (K := X.K) sub h
  rw [eval_ListComp]
  refine lcR_core (tt := lowT X.K B0 tt) (te := lowE X.K B0 te) hst hfr tk hc hN I hi ok hg ht he hs h fun D ce s' m H' I' q hn f => ⟨m, hn, fun h'' sb => ?_⟩
  obtain ⟨f0, f1, f2, f3, f4, f5⟩ := f
  exact ⟨.ref D, H', I'.turned (t' := s'.toks) (fun b o hb e => (sb.2 b hb).trans e) f0 f1 f3 f4 f5, rfl, q⟩
end
end PD

-- PdW
set_option Elab.async false
set_option linter.all false
set_option maxRecDepth 100000
set_option maxHeartbeats 4000000
/-! PdW: list comprehensions of two clauses; further methods. -/
namespace PD
open PySem PySem.Spec PyProof.Rows L2
/-! ### two clauses -/
/-- the second clause's turns -/
def cLcIn (ok : HD → Prop) (tg : TgS) (tt : CT) (te : CE) (ρ : En) (Nx : List D → HD → Prop) : List D → List D → HD → Prop
  | [], acc, h => ok h ∧ Nx acc h
  | x :: xs, acc, h => ok h ∧ tg.bind ρ x fun ρ1 => tt ρ1 h fun b h1 => if b = true then te ρ1 h1 fun y h2 => acc.length < sizeLine ∧ cLcIn ok tg tt te ρ Nx xs (acc ++ [y]) h2 else cLcIn ok tg tt te ρ Nx xs acc h1
/-- the first clause's turns -/
def cLcOut (ok : HD → Prop) (tg : TgS) (tt : CT) (t1 : CI) (tg1 : TgS) (tt1 : CT) (te : CE) (vs1 : List Nat) (ρ : En) (Q : DK) : List D → List D → HD → Prop
  | [], acc, h => ok h ∧ ∀ p, h p = none → Q (.ref p) (updD h p (.lst acc))
  | x :: xs, acc, h => ok h ∧ tg.bind ρ x fun ρ1 => tt ρ1 h fun b h1 => if b = true then t1 ρ1 h1 fun S h2 => cLcIn S.ok tg1 tt1 te (wipeD ρ1 vs1) (cLcOut ok tg tt t1 tg1 tt1 te vs1 ρ Q xs) S.items acc h2 else cLcOut ok tg tt t1 tg1 tt1 te vs1 ρ Q xs acc h1
def cLc2 (t : CI) (tg : TgS) (tt : CT) (t1 : CI) (tg1 : TgS) (tt1 : CT) (te : CE) (vs vs1 : List Nat) : CE := fun ρ h Q => t ρ h fun S h1 => cLcOut S.ok tg tt t1 tg1 tt1 te vs1 (wipeD ρ vs) Q S.items [] h1
theorem nil_keep {K : PySem.W.Frag} {H H' : Hp} {h h' : HD} {L : Addr} {vs : List V} (s : Stp K H h H' h') (e : H L = some (.lst vs)) (n : h L = none) : H' L = some (.lst vs) ∧ h' L = none := by
  refine ⟨s.hd L _ e n rfl, ?_⟩
  cases z : h' L with
  | none => rfl
  | some u =>
    rcases s.nf L (by rw [z]; simp) with y | y
    · exact absurd n y
    · rw [e] at y; cases y
theorem stp_app {K : PySem.W.Frag} {H1 H5 : Hp} {h1 h5 : HD} {L : Addr} {vs ws : List V} (s : Stp K H1 h1 H5 h5) (nL : H1 L = none) (eL : H5 L = some (.lst vs)) (hL : h5 L = none) : Stp K H1 h1 (upd H5 L (.lst ws)) h5 := by
  have kp : Kep H5 (upd H5 L (.lst ws)) := fun a u eu iu => by
    by_cases z : a = L
    · rw [z, eL] at eu; cases eu; cases iu
    · rw [upd_ne z]; exact eu
  refine ⟨s.ts.trans kp, fun a z => ?_, s.nf, fun a o eo => ?_, fun a o eo na it => ?_⟩
  · by_cases y : a = L
    · rw [y, upd_same]; simp
    · rw [upd_ne y]; exact s.dm a z
  · have nz : a ≠ L := fun y => by rw [y, hL] at eo; cases eo
    exact (s.rh a o eo).keep kp (upd_ne nz)
  · by_cases y : a = L
    · rw [y, nL] at eo; cases eo
    · rw [upd_ne y]; exact s.hd a o eo na it
theorem kep_app {H5 : Hp} {L : Addr} {vs ws : List V} (eL : H5 L = some (.lst vs)) : Kep H5 (upd H5 L (.lst ws)) := fun a u eu iu => by
  by_cases z : a = L
  · rw [z, eL] at eu; cases eu; cases iu
  · rw [upd_ne z]; exact eu
theorem low_lc2 {K : PySem.W.Frag} {B : Bs} {t t1 : CI} {tg tg1 : TgS} {tt tt1 : CT} {te : CE} {vs vs1 : List Nat} {σ : L2.St} {H : Hp} {Q : VK} (sub : ∀ i ∈ tg.slots, i ∈ vs) (sub1 : ∀ i ∈ tg1.slots, i ∈ vs1) (w : lowE K B (cLc2 t tg tt t1 tg1 tt1 te vs vs1) σ H Q) :
    tLc2 (lowI K B t) (tg.g K) (lowT K B tt) (lowI K B t1) (tg1.g K) (lowT K B tt1) (lowE K B te) vs vs1 σ H Q := by
  obtain ⟨ρ, h, Q', sl, rh, ht, k⟩ := w
  refine ⟨ρ, h, _, sl, rh, ht, fun S J H1 h1 isok s1 q1 L nL => ?_⟩
  have sL : Stp K H1 h1 (upd H1 L (.lst [])) h1 := .hid s1.rh nL (s1.rh.none nL)
  refine ⟨fun i m H2 => ∃ h2 vacc acc, H2 L = some (.lst vacc) ∧ RDs K H2 vacc acc ∧ h2 L = none ∧ Stp K H1 h1 H2 h2 ∧ i + m = S.items.length ∧ cLcOut S.ok tg tt t1 tg1 tt1 te vs1 (wipeD ρ vs) Q' (S.items.drop i) acc h2,
    ⟨S.items.length, h1, [], [], upd_same, rfl, s1.rh.none nL, sL, Nat.zero_add _, q1⟩, ?_⟩
  rintro i m H2 ⟨h2, vacc, acc, eL, ra, hL, s2, e, q2⟩
  cases m with
  | zero =>
    have e' : S.items.length = i := by omega
    rw [List.drop_eq_nil_of_le (by omega)] at q2
    refine .inl ⟨(isok i H2 h2 s2.ts s2.rh q2.1).1 e', ?_⟩
    have st : Stp K H1 h1 H2 (updD h2 L (.lst acc)) := by
      have s3 := s2
      refine ⟨s3.ts, s3.dm, fun a q => ?_, fun a o eo => ?_, s3.hd⟩
      · by_cases z : a = L
        · exact .inr (by rw [z]; exact nL)
        · rw [updD_ne z] at q; exact s3.nf a q
      · by_cases z : a = L
        · subst z
          rw [updD_same] at eo
          cases eo
          exact ⟨vacc, eL, ra⟩
        · rw [updD_ne z] at eo; exact s3.rh a o eo
    exact k _ (.ref L) H2 _ rfl (s1.trans st) (q2.2 L hL)
  | succ m =>
    have lt : i < S.items.length := by omega
    rw [List.drop_eq_getElem_cons lt] at q2
    have isk := (isok i H2 h2 s2.ts s2.rh q2.1).2 S.items[i] (List.getElem?_eq_getElem lt)
    refine .inr ⟨isk.1, fun H3 => ∃ h2 vacc acc, H3 L = some (.lst vacc) ∧ RDs K H3 vacc acc ∧ h2 L = none ∧ Stp K H1 h1 H3 h2 ∧ cLcOut S.ok tg tt t1 tg1 tt1 te vs1 (wipeD ρ vs) Q' (S.items.drop (i + 1)) acc h2, fun H3 n3 => ?_, fun x H3 y => ?_⟩
    · obtain ⟨h3, va, ac, a1, a2, a3, a4, a6⟩ := n3
      exact ⟨m, Nat.lt_succ_self _, h3, va, ac, a1, a2, a3, a4, by omega, a6⟩
    · obtain ⟨rx, s3⟩ := isk.2 x H3 y
      have sl3 : Sl K (wipe σ vs) H3 (wipeD ρ vs) := (sl.wipe vs).mono ((s1.ts.trans s2.ts).trans s3.ts)
      refine tg.run sl3 rx q2.2 sub fun σ' ρ' we sl' b => ⟨by rw [we, wipe_wipe], ?_⟩
      refine ⟨ρ', h2, _, sl', ((rh.trans s1).trans s2).trans s3, b, fun kb H4 h4 s4 q4 => ?_⟩
      have s34 := s3.trans s4
      obtain ⟨eL4, hL4⟩ := nil_keep s34 eL hL
      cases kb with
      | false =>
        simp only [Bool.false_eq_true, if_false] at q4 ⊢
        exact ⟨h4, vacc, acc, eL4, ra.mono s34.ts, hL4, s2.trans s34, q4⟩
      | true =>
        simp only [if_true] at q4 ⊢
        refine ⟨ρ', h4, _, sl'.mono s4.ts, (((rh.trans s1).trans s2).trans s3).trans s4, q4, fun S1 J1 H5 h5 isok1 s5 q5 => ?_⟩
        have s25 := (s2.trans s34).trans s5
        obtain ⟨eL5, hL5⟩ := nil_keep s5 eL4 hL4
        have ra5 := ra.mono (s34.ts.trans s5.ts)
        have sl5 := sl'.mono (s4.ts.trans s5.ts)
        refine ⟨fun j k H6 => ∃ h6 va ac, H6 L = some (.lst va) ∧ RDs K H6 va ac ∧ h6 L = none ∧ Stp K H1 h1 H6 h6 ∧ Kep H5 H6 ∧ j + k = S1.items.length ∧ cLcIn S1.ok tg1 tt1 te (wipeD ρ' vs1) (cLcOut S.ok tg tt t1 tg1 tt1 te vs1 (wipeD ρ vs) Q' (S.items.drop (i + 1))) (S1.items.drop j) ac h6,
          ⟨S1.items.length, h5, vacc, acc, eL5, ra5, hL5, s25, fun _ _ e _ => e, Nat.zero_add _, q5⟩, ?_⟩
        rintro j k6 H6 ⟨h6, va, ac, eL6, ra6, hL6, s6, kp6, e6, q6⟩
        cases k6 with
        | zero =>
          have e6' : S1.items.length = j := by omega
          rw [List.drop_eq_nil_of_le (show S1.items.length ≤ j by omega)] at q6
          exact .inl ⟨(isok1 j H6 h6 kp6 s6.rh q6.1).1 e6', h6, va, ac, eL6, ra6, hL6, s6, q6.2⟩
        | succ k6 =>
          have lt1 : j < S1.items.length := by omega
          rw [List.drop_eq_getElem_cons lt1] at q6
          have isk1 := (isok1 j H6 h6 kp6 s6.rh q6.1).2 S1.items[j] (List.getElem?_eq_getElem lt1)
          refine .inr ⟨isk1.1, fun H7 => ∃ h7 va ac, H7 L = some (.lst va) ∧ RDs K H7 va ac ∧ h7 L = none ∧ Stp K H1 h1 H7 h7 ∧ Kep H5 H7 ∧ cLcIn S1.ok tg1 tt1 te (wipeD ρ' vs1) (cLcOut S.ok tg tt t1 tg1 tt1 te vs1 (wipeD ρ vs) Q' (S.items.drop (i + 1))) (S1.items.drop (j + 1)) ac h7, fun H7 n7 => ?_, fun x1 H7 y1 => ?_⟩
          · obtain ⟨h7, va7, ac7, a1, a2, a3, a4, a5, a6⟩ := n7
            exact ⟨k6, Nat.lt_succ_self _, h7, va7, ac7, a1, a2, a3, a4, a5, by omega, a6⟩
          · obtain ⟨rx1, s7⟩ := isk1.2 x1 H7 y1
            have sl7 : Sl K (wipe σ' vs1) H7 (wipeD ρ' vs1) := (sl5.wipe vs1).mono (kp6.trans s7.ts)
            refine tg1.run sl7 rx1 q6.2 sub1 fun σ2 ρ2 we2 sl2 b2 => ⟨by rw [we2, wipe_wipe], ?_⟩
            refine ⟨ρ2, h6, _, sl2, ((rh.trans s1).trans s6).trans s7, b2, fun kb2 H8 h8 s8 q8 => ?_⟩
            have s78 := s7.trans s8
            obtain ⟨eL8, hL8⟩ := nil_keep s78 eL6 hL6
            cases kb2 with
            | false =>
              simp only [Bool.false_eq_true, if_false] at q8 ⊢
              exact ⟨h8, va, ac, eL8, ra6.mono s78.ts, hL8, s6.trans s78, kp6.trans s78.ts, q8⟩
            | true =>
              simp only [if_true] at q8 ⊢
              refine ⟨ρ2, h8, _, sl2.mono s8.ts, (((rh.trans s1).trans s6).trans s7).trans s8, q8, fun v d H9 h9 rv s9 q9 => ?_⟩
              obtain ⟨eL9, hL9⟩ := nil_keep s9 eL8 hL8
              have s69 := (s6.trans s78).trans s9
              have kp := kep_app (ws := va ++ [v]) eL9
              refine ⟨va, eL9, by rw [ra6.length]; exact q9.1, h9, va ++ [v], ac ++ [d], upd_same, ?_, hL9, stp_app s69 nL eL9 hL9, ((kp6.trans s78.ts).trans s9.ts).trans kp, q9.2⟩
              exact ((ra6.mono (s78.ts.trans s9.ts)).append (ds := ac) (es := [d]) (ws := [v]) ⟨v, [], rfl, rv, rfl⟩).mono kp
section
variable {X : Cx} {B : Bs}
theorem qe_lc2 {elt tgE iter tgE1 iter1 : Expr} {ifs ifs1 : List Expr} {scope : Scope} {own : List (Str × Nat)} {vs1 : List Nat} {pos : Pos} {t t1 : CI} {tg tg1 : TgS} {tt tt1 : CT} {te : CE} (hc : X.calm = true) (hN : X.N.Nodup) (hi : QI X B tgE iter t) (ok : BlkOk X.N X.env.scope scope own)
    (hv : ∀ i ∈ vs1, i ∈ own.map (·.2)) (sub : ∀ i ∈ tg.slots, i ∈ own.map (·.2)) (sub1 : ∀ i ∈ tg1.slots, i ∈ vs1)
    (hg : ∀ (s : Shared) (H : Hp) (C : Addr) (cl : List (Str × Addr)) (fp : List Addr), PG (X.blk s H scope (compEnvC scope cl C X.env) fp) tgE (tg.g X.K))
    (ht : ∀ (s : Shared) (H : Hp) (C : Addr) (cl : List (Str × Addr)) (fp : List Addr), QTs (X.blk s H scope (compEnvC scope cl C X.env) fp) B ifs tt)
    (hi1 : ∀ (s : Shared) (H : Hp) (C : Addr) (cl : List (Str × Addr)) (fp : List Addr), QI (X.blk s H scope (compEnvC scope cl C X.env) fp) B tgE1 iter1 t1)
    (hg1 : ∀ (s : Shared) (H : Hp) (C : Addr) (cl : List (Str × Addr)) (fp : List Addr), PG (X.blk s H scope (compEnvC scope cl C X.env) fp) tgE1 (tg1.g X.K))
    (ht1 : ∀ (s : Shared) (H : Hp) (C : Addr) (cl : List (Str × Addr)) (fp : List Addr), QTs (X.blk s H scope (compEnvC scope cl C X.env) fp) B ifs1 tt1)
    (he : ∀ (s : Shared) (H : Hp) (C : Addr) (cl : List (Str × Addr)) (fp : List Addr), QE (X.blk s H scope (compEnvC scope cl C X.env) fp) B elt te) (hs : ∀ x, foldedSetIterable iter X.env x = pure x := by intro _; rfl) (hs1 : ∀ env x, foldedSetIterable iter1 env x = pure x := by intro _ _; rfl) :
    QE X B (.ListComp elt [⟨tgE, iter, ifs, 0⟩, ⟨tgE1, iter1, ifs1, 0⟩] scope pos) (cLc2 t tg tt t1 tg1 tt1 te (own.map (·.2)) vs1) :=
  PE.imp (pe_lc2 (wi1 := lowI X.K B t1) (g1 := tg1.g X.K) (tt := lowT X.K B tt) (tt1 := lowT X.K B tt1) (te := lowE X.K B te) hc hN hi ok hv hg ht hi1 hg1 ht1 he hs hs1) fun σ H Q w => low_lc2 sub sub1 w
end

/-! ### flat data: in, index -/
def vF : D → V
  | .bl b => .bl b
  | .int i => .int i
  | .str x => .str x
  | _ => .non
def flD : D → Bool
  | .non => true
  | .bl _ => true
  | .int _ => true
  | .str _ => true
  | _ => false
/-- == of flat data -/
def eqF (x y : D) : Bool := eqV (vF x) (vF y)
theorem RD.fl {K : PySem.W.Frag} {H : Hp} {v : V} {d : D} (r : RD K H v d) (f : flD d = true) : v = vF d ∧ flatV v = true := by
  cases d with
  | non => cases (show v = V.non from r); exact ⟨rfl, rfl⟩
  | bl b => cases (show v = V.bl b from r); exact ⟨rfl, rfl⟩
  | int b => cases (show v = V.int b from r); exact ⟨rfl, rfl⟩
  | str b => cases (show v = V.str b from r); exact ⟨rfl, rfl⟩
  | _ => cases f
theorem RDs.fl {K : PySem.W.Frag} {H : Hp} : ∀ {ds : List D} {vs : List V}, RDs K H vs ds → ds.all flD = true → vs = ds.map vF ∧ vs.all flatV = true
  | [], _, r, _ => by cases r; exact ⟨rfl, rfl⟩
  | d :: ds, _, r, f => by
    obtain ⟨v, vs, rfl, r1, r2⟩ := r
    rw [List.all_cons, Bool.and_eq_true] at f
    obtain ⟨e1, f1⟩ := RD.fl r1 f.1
    obtain ⟨e2, f2⟩ := RDs.fl r2 f.2
    exact ⟨by rw [e1, e2]; rfl, by rw [List.all_cons, f1, f2]; rfl⟩
/-- x in y, y a tuple or a list of flat things -/
def cIn (neg : Bool) : C2 := fun x y h Q => ∃ ds, flD x = true ∧ ds.all flD = true ∧ (y = .tup ds ∨ ∃ a, y = .ref a ∧ h a = some (.lst ds)) ∧ Q (.bl (neg != ds.any fun z => eqF z x)) h
section
variable {X : Cx}
theorem inV_fl {ds : List D} {x : D} : inV (vF x) (ds.map vF) = ds.any fun z => eqF z x := by
  show ((ds.map vF).any fun y => eqV y (vF x)) = _
  rw [List.any_map]; rfl
theorem od_in : OpD X (compareOp .In) (cIn false) := by
  intro pins s σ H x y v u Q I rv ru w
  obtain ⟨dx, dy, h, Q', rx, ry, rh, ⟨ds, f1, f2, e, q⟩, k⟩ := w
  obtain ⟨rfl, g1⟩ := rx.fl f1
  have fin : ∀ vs, RDs X.K H vs ds → vs.all flatV = true ∧ Q (.bl (inV (vF dx) vs)) H := fun vs rs => by
    obtain ⟨rfl, g2⟩ := RDs.fl rs f2
    refine ⟨g2, ?_⟩
    rw [inV_fl]
    have q : Q' (.bl (false != ds.any fun z => eqF z dx)) h := q
    rw [Bool.false_bne] at q
    exact k _ (.bl _) H h rfl (.refl rh) q
  rcases e with rfl | ⟨a, rfl, ea⟩
  · obtain ⟨a, vs, rfl, sq, rs⟩ := ry
    obtain ⟨g2, q2⟩ := fin vs rs
    exact op_in_seq pins s σ H _ _ v u Q I rv ru ⟨a, vs, rfl, .inr sq, g1, g2, q2⟩
  · cases (show y = V.ref a from ry)
    obtain ⟨vs, eh, rs⟩ := rh a _ ea
    obtain ⟨g2, q2⟩ := fin vs rs
    exact op_in_seq pins s σ H _ _ v u Q I rv ru ⟨a, vs, rfl, .inl (.of eh), g1, g2, q2⟩
theorem od_notin : OpD X (compareOp .NotIn) (cIn true) := by
  intro pins s σ H x y v u Q I rv ru w
  obtain ⟨dx, dy, h, Q', rx, ry, rh, ⟨ds, f1, f2, e, q⟩, k⟩ := w
  obtain ⟨rfl, g1⟩ := rx.fl f1
  have fin : ∀ vs, RDs X.K H vs ds → vs.all flatV = true ∧ Q (.bl (!inV (vF dx) vs)) H := fun vs rs => by
    obtain ⟨rfl, g2⟩ := RDs.fl rs f2
    refine ⟨g2, ?_⟩
    rw [inV_fl]
    have q : Q' (.bl (true != ds.any fun z => eqF z dx)) h := q
    rw [Bool.true_bne] at q
    exact k _ (.bl _) H h rfl (.refl rh) q
  rcases e with rfl | ⟨a, rfl, ea⟩
  · obtain ⟨a, vs, rfl, sq, rs⟩ := ry
    obtain ⟨g2, q2⟩ := fin vs rs
    exact op_notIn_seq pins s σ H _ _ v u Q I rv ru ⟨a, vs, rfl, .inr sq, g1, g2, q2⟩
  · cases (show y = V.ref a from ry)
    obtain ⟨vs, eh, rs⟩ := rh a _ ea
    obtain ⟨g2, q2⟩ := fin vs rs
    exact op_notIn_seq pins s σ H _ _ v u Q I rv ru ⟨a, vs, rfl, .inl (.of eh), g1, g2, q2⟩
/-- xs.index(y) of flat things: the first place -/
def cIndex : CMt := fun x xs h Q => match x, xs with
  | .ref a, [y] => ∃ ds j z, h a = some (.lst ds) ∧ flD y = true ∧ ds.all flD = true ∧ ds[j]? = some z ∧ eqF z y = true ∧ (∀ m z', m < j → ds[m]? = some z' → eqF z' y = false) ∧ Q (.int (j : Nat)) h
  | _, _ => False
theorem md_index : MtD X "list.index" cIndex := by
  intro pins s σ H x xs v us Q I rx rv w
  obtain ⟨dx, ds, h, Q', r1, r2, rh, hr, k⟩ := w
  match dx, ds, hr with
  | .ref a, [y], hr =>
    cases (show x = V.ref a from r1)
    obtain ⟨u, rfl, ru⟩ := r2.one
    obtain ⟨es, j, z, e, f1, f2, ej, ez, no, q⟩ := hr
    obtain ⟨vs, ea, ra⟩ := rh a _ e
    obtain ⟨rfl, g1⟩ := ru.fl f1
    obtain ⟨rfl, g2⟩ := RDs.fl ra f2
    refine mt_index pins s σ H _ _ v us Q I rx rv ⟨a, es.map vF, vF y, j, vF z, rfl, rfl, .of ea, g1, g2, by rw [List.getElem?_map, ej]; rfl, ez, fun m z' hm e' => ?_, k _ (.int (j : Nat)) H h rfl (.refl rh) q⟩
    rw [List.getElem?_map] at e'
    cases e2 : es[m]? with
    | none => rw [e2] at e'; cases e'
    | some z2 =>
      rw [e2] at e'
      cases e'
      exact no m z2 hm e2
/-- l.extend(b), b a list -/
def cExt : CMt := fun x xs h Q => match x, xs with
  | .ref a, [.ref b] => ∃ ds es, h a = some (.lst ds) ∧ h b = some (.lst es) ∧ ds.length + es.length ≤ sizeLine ∧ Q .non (updD h a (.lst (ds ++ es)))
  | _, _ => False
theorem md_extend : MtD X "list.extend" cExt := by
  intro pins s σ H x xs v us Q I rx rv w
  obtain ⟨dx, ds, h, Q', r1, r2, rh, hr, k⟩ := w
  match dx, ds, hr with
  | .ref a, [.ref b], hr =>
    cases (show x = V.ref a from r1)
    obtain ⟨u, rfl, ru⟩ := r2.one
    cases (show u = V.ref b from ru)
    obtain ⟨xs, ys, e, e2, hz, q⟩ := hr
    obtain ⟨vs, ea, ra⟩ := rh a _ e
    obtain ⟨ws, eb, rb⟩ := rh b _ e2
    have s1 := Stp.mut (o' := .lst (vs ++ ws)) rh ea rfl (by rw [e]; simp) (mut_lst ea (ra.append rb))
    exact mt_extend pins s σ H _ _ v us Q I rx rv ⟨a, b, vs, ws, rfl, rfl, ea, eb, by rw [ra.length, rb.length]; exact hz, k _ .non _ _ rfl s1 q⟩
end

/-! ### methods by name -/
/-- the method m of the class at C keeps sp, within k levels -/
structure Mt (P : Program) (w : World) (K : PySem.W.Frag) (mg : Str → Option Value) (base : Heap) (C : Addr) (m : Str) (k : Nat) (ps : List Str) (sp : SpD) : Prop where
  ex : ∃ f fd, Cls K C ∧ Meth K C m f ∧ Binds K fd ps [] ∧ GF P w K mg base k f fd ps sp
theorem Mt.mono {P : Program} {w : World} {K : PySem.W.Frag} {mg : Str → Option Value} {base : Heap} {C : Addr} {m : Str} {j k : Nat} {ps : List Str} {sp : SpD} (d : Mt P w K mg base C m j ps sp) (h : j ≤ k) : Mt P w K mg base C m k ps sp := by
  obtain ⟨f, fd, a, b, c, F⟩ := d.ex
  exact ⟨f, fd, a, b, c, F.mono h⟩
section
variable {X : Cx} {B : Bs} {k : Nat} {ps : List Str} {sp : SpD} {C : Addr} {m : Str} {apos pos : Pos} {o e : Expr} {es : List Expr} {ta : CE} {t : CA}
theorem qe_mt {W : En → XD} {pl : Sem Bool} (D : Mt X.prog X.w X.K X.mg X.base C m k ps sp) (hr : Room k X.A) (hgd : X.A.guards = some []) (tk : TkD X B W) (ho : QE X B o ta) (ha : QA X B (e :: es) t)
    (hst : starEach (e :: es) X.env = (false, eval e X.env) :: starEach es X.env := by rfl) (hpl : (backTo pos (starEach es X.env)).any (·.1) = false := by rfl)
    (ht : eval (.Call (.Attribute o m apos) (e :: es) [] pos) X.env = (do let ov ← eval o X.env; standAt apos.atName; let (f, first) ← holding [ov] (getMethod ov m pl); callWith pos f first (backTo pos (starEach (e :: es) X.env)) (backToKw pos (keywordEach [] X.env))) := by rfl) :
    QE X B (.Call (.Attribute o m apos) (e :: es) [] pos) (cMeth C m sp W ta t) := by
  obtain ⟨f, fd, a, b, c, F⟩ := D.ex
  exact qe_meth ho a b F hr hgd c tk ha hst hpl ht
theorem qe_mt0 {W : En → XD} {pl : Sem Bool} (D : Mt X.prog X.w X.K X.mg X.base C m k ps sp) (hr : Room k X.A) (hgd : X.A.guards = some []) (tk : TkD X B W) (ho : QE X B o ta)
    (ht : eval (.Call (.Attribute o m apos) [] [] pos) X.env = (do let ov ← eval o X.env; standAt apos.atName; let (f, first) ← holding [ov] (getMethod ov m pl); callWith pos f first (backTo pos (starEach [] X.env)) (backToKw pos (keywordEach [] X.env))) := by rfl) :
    QE X B (.Call (.Attribute o m apos) [] [] pos) (cMeth C m sp W ta cNil) := by
  obtain ⟨f, fd, a, b, c, F⟩ := D.ex
  exact qe_meth0 ho a b F hr hgd c tk ht
end
end PD

-- PdX
set_option Elab.async false
set_option linter.all false
set_option maxRecDepth 100000
set_option maxHeartbeats 4000000
/-! PdX: fractions as rational numbers. -/
namespace PD
open PySem PySem.Spec PyProof.Rows L2
/-- the number of a fraction -/
def val (x : Int × Int) : Rat := Rat.divInt x.1 x.2
/-- in lowest terms, bottom above 0 -/
def nrm (x : Int × Int) : Prop := 0 < x.2 ∧ gcdI x.1 x.2 = 1
theorem gcdI_dvd (t b : Int) : gcdI t b ∣ t ∧ gcdI t b ∣ b := ⟨Int.gcd_dvd_left .., Int.gcd_dvd_right ..⟩
theorem red_parts {t b : Int} (hb : 0 < b) : (redI t b).1 * gcdI t b = t ∧ (redI t b).2 * gcdI t b = b ∧ 0 < (redI t b).2 := by
  have g0 := gcdI_pos (t := t) hb
  have h1 : t / gcdI t b * gcdI t b = t := Int.ediv_mul_cancel (gcdI_dvd t b).1
  have h2 : b / gcdI t b * gcdI t b = b := Int.ediv_mul_cancel (gcdI_dvd t b).2
  refine ⟨h1, h2, ?_⟩
  show 0 < b / gcdI t b
  exact Int.ediv_pos_of_pos_of_dvd hb (Int.le_of_lt g0) (gcdI_dvd t b).2
theorem val_red {t b : Int} (hb : 0 < b) : val (redI t b) = val (t, b) := by
  obtain ⟨h1, h2, h3⟩ := red_parts (t := t) hb
  show Rat.divInt (redI t b).1 (redI t b).2 = Rat.divInt t b
  conv => rhs; rw [← h1]; rw [show b = (redI t b).2 * gcdI t b from h2.symm]
  have : Rat.divInt ((redI t b).1 * gcdI t b) ((redI t b).2 * gcdI t b) = Rat.divInt (redI t b).1 (redI t b).2 := Rat.divInt_mul_right (by have := gcdI_pos (t := t) hb; omega)
  simp only [h1, h2] at this ⊢
  rw [← this]
theorem nrm_red {t b : Int} (hb : 0 < b) : nrm (redI t b) := by
  refine ⟨(red_parts hb).2.2, ?_⟩
  show ((Int.gcd (t / gcdI t b) (b / gcdI t b) : Nat) : Int) = 1
  have g0 := gcdI_pos (t := t) hb
  have : Int.gcd (t / gcdI t b) (b / gcdI t b) = 1 := by
    have z : 0 < Int.gcd t b := Int.gcd_pos_of_ne_zero_right t (by omega)
    show Int.gcd (t / ((Int.gcd t b : Nat) : Int)) (b / ((Int.gcd t b : Nat) : Int)) = 1
    exact Int.gcd_ediv_gcd_ediv_gcd z
  rw [this]; rfl
theorem nrm_inj {x y : Int × Int} (hx : nrm x) (hy : nrm y) (e : val x = val y) : x = y := by
  obtain ⟨a, b⟩ := x
  obtain ⟨c, d⟩ := y
  obtain ⟨b0, gx⟩ := hx
  obtain ⟨d0, gy⟩ := hy
  have e : a * d = c * b := (Rat.divInt_eq_divInt_iff (by show b ≠ 0; exact Int.ne_of_gt b0) (by show d ≠ 0; exact Int.ne_of_gt d0)).mp e
  have gx : ((Int.gcd a b : Nat) : Int) = 1 := gx
  have gy : ((Int.gcd c d : Nat) : Int) = 1 := gy
  have gx' : Int.gcd b a = 1 := by rw [Int.gcd_comm]; exact Int.ofNat.inj gx
  have gy' : Int.gcd d c = 1 := by rw [Int.gcd_comm]; exact Int.ofNat.inj gy
  have h1 : b ∣ d := by
    have : b ∣ a * d := ⟨c, by rw [e, Int.mul_comm]⟩
    have := Int.dvd_gcd_mul_iff_dvd_mul.mpr this
    rw [gx'] at this
    simpa using this
  have h2 : d ∣ b := by
    have : d ∣ c * b := ⟨a, by rw [← e, Int.mul_comm]⟩
    have := Int.dvd_gcd_mul_iff_dvd_mul.mpr this
    rw [gy'] at this
    simpa using this
  have hbd : b = d := Int.dvd_antisymm (Int.le_of_lt b0) (Int.le_of_lt d0) h1 h2
  subst hbd
  have : a = c := Int.eq_of_mul_eq_mul_right (Int.ne_of_gt b0) e
  rw [this]
theorem val_plus {x y : Int × Int} (hx : 0 < x.2) (hy : 0 < y.2) : val (plusI x y) = val x + val y ∧ nrm (plusI x y) := by
  have p := Int.mul_pos hx hy
  refine ⟨?_, nrm_red p⟩
  rw [plusI, val_red p]
  exact (Rat.divInt_add_divInt x.1 y.1 (Int.ne_of_gt hx) (Int.ne_of_gt hy)).symm
theorem val_times {x y : Int × Int} (hx : 0 < x.2) (hy : 0 < y.2) : val (timesI x y) = val x * val y ∧ nrm (timesI x y) := by
  have p := Int.mul_pos hx hy
  refine ⟨?_, nrm_red p⟩
  rw [timesI, val_red p]
  exact (Rat.divInt_mul_divInt x.1 y.1).symm
theorem nrm01 : nrm (0, 1) := ⟨by decide, by decide⟩
theorem nrm11 : nrm (1, 1) := ⟨by decide, by decide⟩
theorem val01 : val (0, 1) = 0 := by decide
theorem val11 : val (1, 1) = 1 := by decide
theorem val_fold : ∀ (xs : List (Int × Int)) (a : Int × Int), nrm a → (∀ x ∈ xs, 0 < x.2) → val (xs.foldl plusI a) = val a + (xs.map val).sum ∧ nrm (xs.foldl plusI a)
  | [], a, ha, _ => ⟨by rw [List.foldl_nil, List.map_nil, List.sum_nil, Rat.add_zero], ha⟩
  | x :: xs, a, ha, h => by
    have p := val_plus ha.1 (h x (List.mem_cons_self ..))
    obtain ⟨e, n⟩ := val_fold xs (plusI a x) p.2 fun y hy => h y (List.mem_cons_of_mem _ hy)
    refine ⟨?_, n⟩
    rw [List.foldl_cons, e, p.1, List.map_cons, List.sum_cons, Rat.add_assoc]
theorem val_sum {xs : List (Int × Int)} (h : ∀ x ∈ xs, 0 < x.2) : val (sumI xs) = (xs.map val).sum ∧ nrm (sumI xs) := by
  obtain ⟨e, n⟩ := val_fold xs (0, 1) nrm01 h
  refine ⟨?_, n⟩
  show val (xs.foldl plusI (0, 1)) = _
  rw [e, val01, Rat.zero_add]
theorem val_frac {t b : Int} (hb : 0 < b) : val (t, b) = (t : Rat) / (b : Rat) := by
  show Rat.divInt t b = _
  rw [Rat.divInt_eq_div]
theorem sum_div (b : Rat) : ∀ xs : List Int, (xs.map fun x : Int => (x : Rat) / b).sum = ((xs.sum : Int) : Rat) / b
  | [] => by
    show (0 : Rat) = ((0 : Int) : Rat) / b
    rw [Rat.div_def]; simp
  | x :: xs => by
    rw [List.map_cons, List.sum_cons, sum_div b xs, List.sum_cons, Rat.intCast_add]
    grind
/-- shares of counts of a whole -/
theorem shares_one {xs : List Int} (h : ∀ x ∈ xs, 1 ≤ x) (ne : xs ≠ []) : sumI (xs.map fun x => redI x xs.sum) = (1, 1) ∧ ∀ x ∈ xs, isSh (prD2 (redI x xs.sum)) = true := by
  have le : ∀ (ys : List Int), (∀ x ∈ ys, 1 ≤ x) → ∀ x ∈ ys, x ≤ ys.sum ∧ 0 ≤ ys.sum := fun ys => by
    induction ys with
    | nil => exact fun _ x hx => (by cases hx)
    | cons y ys ih =>
      intro h x hx
      have h0 : 0 ≤ ys.sum := by
        cases ys with
        | nil => exact Int.le_refl _
        | cons z zs => exact (ih (fun w hw => h w (List.mem_cons_of_mem _ hw)) z (List.mem_cons_self ..)).2
      have h1 := h y (List.mem_cons_self ..)
      rw [List.sum_cons]
      rcases List.mem_cons.mp hx with rfl | hx
      · omega
      · have := (ih (fun w hw => h w (List.mem_cons_of_mem _ hw)) x hx).1
        omega
  obtain ⟨x0, hx0⟩ := List.exists_mem_of_ne_nil xs ne
  have p : 0 < xs.sum := by
    have := (le xs h x0 hx0).1
    have := h x0 hx0
    omega
  constructor
  · obtain ⟨e, n⟩ := val_sum (xs := xs.map fun x => redI x xs.sum) fun y hy => by
      obtain ⟨x, _, rfl⟩ := List.mem_map.mp hy
      exact (red_parts p).2.2
    refine nrm_inj n nrm11 ?_
    rw [e, val11, List.map_map]
    have : (xs.map (val ∘ fun x => redI x xs.sum)) = xs.map fun x : Int => (x : Rat) / ((xs.sum : Int) : Rat) := List.map_congr_left fun x _ => by
      show val (redI x xs.sum) = _
      rw [val_red p, val_frac p]
    rw [this, sum_div, Rat.div_def, Rat.mul_inv_cancel]
    exact fun z => by
      have := Rat.intCast_inj.mp (show ((xs.sum : Int) : Rat) = ((0 : Int) : Rat) from z)
      omega
  · intro x hx
    have nr := nrm_red (t := x) p
    obtain ⟨h1, h2, h3⟩ := red_parts (t := x) p
    have g0 := gcdI_pos (t := x) p
    have x1 := h x hx
    have x2 := (le xs h x hx).1
    have a0 : 0 < (redI x xs.sum).1 := by
      rcases Int.lt_or_le 0 (redI x xs.sum).1 with q | q
      · exact q
      · have : (redI x xs.sum).1 * gcdI x xs.sum ≤ 0 := Int.mul_nonpos_of_nonpos_of_nonneg q (Int.le_of_lt g0)
        omega
    have a1 : (redI x xs.sum).1 ≤ (redI x xs.sum).2 := by
      rcases Int.lt_or_le (redI x xs.sum).2 (redI x xs.sum).1 with q | q
      · have := Int.mul_lt_mul_of_pos_right q g0
        omega
      · exact q
    show ((decide (0 < (redI x xs.sum).2) && decide (gcdI (redI x xs.sum).1 (redI x xs.sum).2 = 1)) && (decide (0 < (redI x xs.sum).1) && decide ((redI x xs.sum).1 ≤ (redI x xs.sum).2))) = true
    rw [decide_eq_true nr.1, decide_eq_true nr.2, decide_eq_true a0, decide_eq_true a1]; rfl
end PD

-- PmS
set_option Elab.async false
set_option linter.all false
set_option maxRecDepth 100000
set_option maxHeartbeats 4000000
/-! PmS: what the defs about machines do, by data (shared by the laws over machines). -/
namespace PM
open PySem PySem.Spec PyProof.Rows L2 PD

/-! ### data of known kinds, of small numbers -/
mutual
/-- all parts are of known kinds; none is the thing at a; all numbers are at most N -/
def Kn (a : Addr) (N : Int) (h : HD) : D → Prop
  | .non => True
  | .bl _ => True
  | .int i => -N ≤ i ∧ i ≤ N
  | .str _ => True
  | .tup xs => KnA a N h xs
  | .fl _ => True
  | .ref b => b ≠ a ∧ ((∃ xs, h b = some (.lst xs)) ∨ ∃ kvs, h b = some (.dK kvs))
  | .ty _ => False
def KnA (a : Addr) (N : Int) (h : HD) : List D → Prop
  | [] => True
  | x :: xs => Kn a N h x ∧ KnA a N h xs
end
theorem KnA.all {a : Addr} {N : Int} {h : HD} : ∀ {xs : List D}, KnA a N h xs ↔ ∀ x ∈ xs, Kn a N h x
  | [] => ⟨fun _ x hx => (by cases hx), fun _ => trivial⟩
  | y :: ys => by
    show Kn a N h y ∧ KnA a N h ys ↔ _
    rw [KnA.all, List.forall_mem_cons]
theorem Kn.kd {a : Addr} {N : Int} {h : HD} {x : D} (k : Kn a N h x) : ∃ z, PD.kd h x = some z := by
  cases x with
  | non => exact ⟨_, rfl⟩
  | bl b => exact ⟨_, rfl⟩
  | int i => exact ⟨_, rfl⟩
  | str s => exact ⟨_, rfl⟩
  | tup xs => exact ⟨_, rfl⟩
  | fl xs => exact ⟨_, rfl⟩
  | ty n => exact k.elim
  | ref b =>
    obtain ⟨_, ⟨xs, e⟩ | ⟨kvs, e⟩⟩ := k
    · exact ⟨.lst, by show (match h b with | some (.lst _) => some Kd.lst | some (.dK _) => some Kd.dct | some (.dT _) => some Kd.dct | _ => none) = _; rw [e]⟩
    · exact ⟨.dct, by show (match h b with | some (.lst _) => some Kd.lst | some (.dK _) => some Kd.dct | some (.dT _) => some Kd.dct | _ => none) = _; rw [e]⟩
mutual
theorem Kn.ex {a : Addr} {N : Int} {h h' : HD} (x : ExB a h h') : ∀ {d : D}, Kn a N h d → Kn a N h' d
  | .non, _ => trivial
  | .bl _, _ => trivial
  | .int _, k => k
  | .str _, _ => trivial
  | .tup xs, k => KnA.ex x (xs := xs) k
  | .fl _, _ => trivial
  | .ref b, k => by
    obtain ⟨n, ⟨xs, e⟩ | ⟨kvs, e⟩⟩ := k
    · exact ⟨n, .inl ⟨xs, x b _ n e⟩⟩
    · exact ⟨n, .inr ⟨kvs, x b _ n e⟩⟩
  | .ty _, k => k
theorem KnA.ex {a : Addr} {N : Int} {h h' : HD} (x : ExB a h h') : ∀ {xs : List D}, KnA a N h xs → KnA a N h' xs
  | [], _ => trivial
  | d :: xs, k => ⟨Kn.ex x k.1, KnA.ex x k.2⟩
end
mutual
theorem Kn.le {a : Addr} {N M : Int} {h : HD} (x : N ≤ M) : ∀ {d : D}, Kn a N h d → Kn a M h d
  | .non, _ => trivial
  | .bl _, _ => trivial
  | .int _, k => ⟨by have := k.1; omega, by have := k.2; omega⟩
  | .str _, _ => trivial
  | .tup xs, k => KnA.le x (xs := xs) k
  | .fl _, _ => trivial
  | .ref b, k => k
  | .ty _, k => k
theorem KnA.le {a : Addr} {N M : Int} {h : HD} (x : N ≤ M) : ∀ {xs : List D}, KnA a N h xs → KnA a M h xs
  | [], _ => trivial
  | d :: xs, k => ⟨Kn.le x k.1, KnA.le x k.2⟩
end

/-! ### the judge -/
def lenT : D → Nat
  | .tup xs => xs.length
  | _ => 0
def areRows (x : D) : Bool := match x with
  | .tup rs => szd x 1 6 && (rs.all fun r => szd r 1 4) && rs.all fun r => decide (lenT r = lenT (rs.headD .non))
  | _ => false
def isStep (wo st : Int) (x : D) : Bool := match x with
  | .tup [a, b, c] => inW a 0 (wo - 1) && (isSh b && inW c 0 (st - 1))
  | _ => false
def pairOf (x : D) : Int × Int := match x with
  | .tup [.int a, _, .int c] => (a, c)
  | _ => (0, 0)
def shOf (x : D) : Int × Int := match x with
  | .tup [_, .tup [.int t, .int b], _] => (t, b)
  | _ => (0, 1)
def areSteps (wo st : Int) (x : D) : Bool := match x with
  | .tup xs => szd x 1 12 && (xs.all (isStep wo st)) && (decide ((xs.map pairOf).Nodup) && decide (sumI (xs.map shOf) = (1, 1)))
  | _ => false
def partD (s q w : Int) : D := .tup [.str "row", .int s, .int q, .int w]
/-- the first world whose steps are none -/
def worldBad (wo st : Int) (s q : Int) : Nat → List D → Option D
  | _, [] => none
  | i, x :: xs => if areSteps wo st x = true then worldBad wo st s q (i + 1) xs else some (partD s q i)
def questBad (nw wo st : Int) (s : Int) : Nat → List D → Option D
  | _, [] => none
  | i, x :: xs => match x with
    | .tup ys => if decide ((ys.length : Int) = nw) = true then (match worldBad wo st s i 0 ys with
      | some p => some p
      | none => questBad nw wo st s (i + 1) xs) else some (partD s i (-1))
    | _ => some (partD s i (-1))
def rowBad (nw wo st : Int) : Nat → List D → Option D
  | _, [] => none
  | i, x :: xs => match x with
    | .tup ys => (match questBad nw wo st i 0 ys with
      | some p => some p
      | none => rowBad nw wo st (i + 1) xs)
    | _ => rowBad nw wo st (i + 1) xs
/-- the first part that is none -/
def due (nw wo rows : D) : Option D := match nw, wo with
  | .int n, .int m => if inW nw 1 5 = true then (if inW wo 1 6 = true then (if areRows rows = true then (match rows with
      | .tup rs => rowBad n m rs.length 0 rs
      | _ => none) else some (.tup [.str "rows"])) else some (.tup [.str "words"])) else some (.tup [.str "worlds"])
  | .int n, _ => if inW nw 1 5 = true then some (.tup [.str "words"]) else some (.tup [.str "worlds"])
  | _, _ => some (.tup [.str "worlds"])
def optD : Option D → D
  | some d => d
  | none => .non

/-! ### contracts -/
abbrev N30 : Int := 1000000000000000000000000000000
def sp_are_rows : SpD := fun ds h Q _ => ∃ a x, ds = [x] ∧ Kn a N30 h x ∧ ∀ h', Ex h h' → Q (.bl (areRows x)) h'
def sp_is_step : SpD := fun ds h Q _ => ∃ a wo st x, ds = [.int wo, .int st, x] ∧ Kn a N30 h x ∧ Q (.bl (isStep wo st x)) h
def sp_are_steps : SpD := fun ds h Q _ => ∃ a wo st x, ds = [.int wo, .int st, x] ∧ Kn a N30 h x ∧ ∀ h', Ex h h' → Q (.bl (areSteps wo st x)) h'
section
variable (K : PySem.W.Frag)
def xPart (E : XD) (p : D) (h : HD) : Prop := E (.ref (He.ga K "BadMachine")) (some [("part", p)]) h
def sp_check_rows : SpD := fun ds h Q E => ∃ a nw wo rs, ds = [.int nw, .int wo, .tup rs] ∧ areRows (.tup rs) = true ∧ Kn a N30 h (.tup rs) ∧ ∀ h', Ex h h' → (match rowBad nw wo rs.length 0 rs with
  | some p => xPart K E p h'
  | none => Q .non h')
def fldsM (nw wo rows : D) : List (Str × D) := [("worlds", nw), ("words", wo), ("rows", rows)]
def sp_Machine_init : SpD := fun ds h Q E => ∃ a x C dx nw wo rows, ds = [.ref x, nw, wo, rows] ∧ C = He.ga K "Machine" ∧ h x = some (.ins C dx []) ∧ Kn a N30 h nw ∧ Kn a N30 h wo ∧ Kn a N30 h rows ∧ ∀ h', ExB x h h' → (match due nw wo rows with
  | some p => h' x = some (.ins C dx []) → xPart K E p h'
  | none => h' x = some (.ins C dx (fldsM nw wo rows)) → Q .non h')
/-- a machine of these parts stands at x -/
def isM (h : HD) (x : Addr) (nw wo rows : D) : Prop := ∃ dx, h x = some (.ins (He.ga K "Machine") dx (fldsM nw wo rows))
def sp_Machine_eq : SpD := fun ds h Q _ => (∃ x y nw wo rows nw' wo' rows', ds = [.ref x, .ref y] ∧ isM K h x nw wo rows ∧ isM K h y nw' wo' rows' ∧ shp (.tup [nw, wo, rows]) ∧ shp (.tup [nw', wo', rows']) ∧ Q (.bl (eqD (.tup [nw, wo, rows]) (.tup [nw', wo', rows']))) h) ∨
  ∃ x y z nw wo rows, ds = [.ref x, y] ∧ isM K h x nw wo rows ∧ kd h y = some z ∧ (z = .int ∨ z = .tup) ∧ Q (.bl false) h
end
/-! the drawing: from b draws to at most b + c; numbers at most N -/
def drawn (a : Addr) (b c : Nat) (N : Int) (h : HD) (Q : DK) : Prop := ∀ h' x, ExB a h h' → Hand h' a (b + c) → Kn a N h' x → Q x h'

/-- a step of a drawn row -/
def ShOk (x : D) : Prop := ∃ u t b g : Int, x = .tup [.int u, .tup [.int t, .int b], .int g] ∧ 0 < t ∧ t ≤ b ∧ b ∣ 60
/-- steps as they should be -/
def StepsV (wo st : Int) (x : D) : Prop := ∃ ss, x = .tup ss ∧ areSteps wo st x = true ∧ ∀ s ∈ ss, ShOk s
/-- a question's steps, one for each world -/
def QuestV (nw wo st : Int) (x : D) : Prop := ∃ zs, x = .tup zs ∧ (zs.length : Int) = nw ∧ ∀ z ∈ zs, StepsV wo st z
def RowV (nw wo qs st : Int) (x : D) : Prop := ∃ ys, x = .tup ys ∧ (ys.length : Int) = qs ∧ ∀ y ∈ ys, QuestV nw wo st y
/-- rows as they should be -/
def RowsV (nw wo qs st : Int) (x : D) : Prop := ∃ rs, x = .tup rs ∧ (rs.length : Int) = st ∧ ∀ r ∈ rs, RowV nw wo qs st r
def sp_l_steps : SpD := fun ds h Q _ => ∃ a b wo st, ds = [.ref a, .int wo, .int st] ∧ Hand h a b ∧ b ≤ 10 ^ 14 ∧ 0 < wo ∧ wo ≤ 6 ∧ 0 < st ∧ st ≤ 6 ∧ ∀ h' x, ExB a h h' → Hand h' a (b + 11) → Kn a 100 h' x → StepsV wo st x → Q x h'
def sp_l_rows : SpD := fun ds h Q _ => ∃ a b nw wo qs st, ds = [.ref a, .int nw, .int wo, .int qs, .int st] ∧ Hand h a b ∧ b ≤ 10 ^ 12 ∧ 0 < nw ∧ nw ≤ 5 ∧ 0 < wo ∧ wo ≤ 6 ∧ 0 < qs ∧ qs ≤ 4 ∧ 0 < st ∧ st ≤ 6 ∧ ∀ h' x, ExB a h h' → Hand h' a (b + 10000) → Kn a 100 h' x → RowsV nw wo qs st x → Q x h'
end PM

-- PmT
set_option Elab.async false
set_option linter.all false
set_option maxRecDepth 100000
set_option maxHeartbeats 4000000
/-! printed by gen.py: the walks of the defs -/
namespace PM
open PySem PySem.Spec PyProof.Rows L2 PD 

abbrev N_are_rows : List Str := [("thing" : Str), ("row" : Str)]
def t_are_rows (P : Program) (w : World) (K : PySem.W.Frag) (W : En → XD) : CS := (cSeq (cIfS (cOr (cNot (cT (cFn sp_is_sized (fun _ => noX) (cCons (cVar 0) (cCons (cC (.int 1)) (cCons (cC (.int 6)) cNil)))))) (cNot (cT (cCall (cBools fun bs => bs.all id) (cCons (cLc (cSrcA P w (cVar 0)) (.one 1) cYes (cFn sp_is_sized (fun _ => noX) (cCons (cVar 1) (cCons (cC (.int 1)) (cCons (cC (.int 4)) cNil)))) [1]) cNil))))) (cRet (cC (.bl false))) cNext) (cRet (cCall (cBools fun bs => bs.all id) (cCons (cLc (cSrcA P w (cVar 0)) (.one 1) cYes (cOp cEq (cCall (cLenA P w) (cCons (cVar 1) cNil)) (cCall (cLenA P w) (cCons (cOp (cIxA P w) (cVar 0) (cC (.int 0))) cNil))) [1]) cNil))))
abbrev N_is_step : List Str := [("words" : Str), ("standings" : Str), ("thing" : Str)]
def t_is_step (P : Program) (w : World) (K : PySem.W.Frag) (W : En → XD) : CS := (cSeq (cIfS (cOr (cNot (cT (cFn sp_is_triple (fun _ => noX) (cCons (cVar 2) cNil)))) (cNot (cT (cFn sp_is_within (fun _ => noX) (cCons (cOp (cIxA P w) (cVar 2) (cC (.int 0))) (cCons (cC (.int 0)) (cCons (cOp cSub (cVar 0) (cC (.int 1))) cNil))))))) (cRet (cC (.bl false))) cNext) (cRet (cAndV (cFn sp_is_share (fun _ => noX) (cCons (cOp (cIxA P w) (cVar 2) (cC (.int 1))) cNil)) (cFn sp_is_within (fun _ => noX) (cCons (cOp (cIxA P w) (cVar 2) (cC (.int 2))) (cCons (cC (.int 0)) (cCons (cOp cSub (cVar 1) (cC (.int 1))) cNil)))))))
abbrev N_are_steps : List Str := [("words" : Str), ("standings" : Str), ("thing" : Str), ("pairs" : Str), ("word" : Str), ("share" : Str), ("standing" : Str), ("step" : Str)]
def t_are_steps (P : Program) (w : World) (K : PySem.W.Frag) (W : En → XD) : CS := (cSeq (cIfS (cOr (cNot (cT (cFn sp_is_sized (fun _ => noX) (cCons (cVar 2) (cCons (cC (.int 1)) (cCons (cC (.int 12)) cNil)))))) (cNot (cT (cCall (cBools fun bs => bs.all id) (cCons (cLc (cSrcA P w (cVar 2)) (.one 7) cYes (cFn sp_is_step (fun _ => noX) (cCons (cVar 0) (cCons (cVar 1) (cCons (cVar 7) cNil)))) [7]) cNil))))) (cRet (cC (.bl false))) cNext) (cSeq (cSet 3 (cDc P w (cSrcA P w (cVar 2)) (.many [4, 5, 6]) cYes (cTup (cCons (cVar 4) (cCons (cVar 6) cNil))) (cC (.bl true)) [4, 5, 6])) (cRet (cAndV (cOp cEq (cCall (cLenA P w) (cCons (cVar 3) cNil)) (cCall (cLenA P w) (cCons (cVar 2) cNil))) (cFn sp_are_shares (fun _ => noX) (cCons (cLc (cSrcA P w (cVar 2)) (.many [4, 5, 6]) cYes (cVar 5) [4, 5, 6]) cNil))))))
abbrev N_check_rows : List Str := [("worlds" : Str), ("words" : Str), ("rows" : Str), ("standing" : Str), ("row" : Str), ("number" : Str), ("question" : Str), ("world" : Str), ("steps" : Str)]
def b_check_rows_3 (P : Program) (w : World) (K : PySem.W.Frag) (W : En → XD) : CS := (cIfS (cNot (cT (cFn sp_are_steps (fun _ => noX) (cCons (cVar 1) (cCons (cCall (cLenA P w) (cCons (cVar 2) cNil)) (cCons (cVar 8) cNil)))))) (fun _ ρ h => (cTup (cCons (cC (.str "row")) (cCons (cVar 3) (cCons (cVar 5) (cCons (cVar 7) cNil))))) ρ h fun y h1 => W ρ (.ref (He.ga K "BadMachine")) (some [("part", y)]) h1) cNext)
def b_check_rows_2 (P : Program) (w : World) (K : PySem.W.Frag) (W : En → XD) : CS := (cSeq (cIfS (cNot (cT (cFn sp_is_sized (fun _ => noX) (cCons (cVar 6) (cCons (cVar 0) (cCons (cVar 0) cNil)))))) (fun _ ρ h => (cTup (cCons (cC (.str "row")) (cCons (cVar 3) (cCons (cVar 5) (cCons (cUn cNeg (cC (.int 1))) cNil))))) ρ h fun y h1 => W ρ (.ref (He.ga K "BadMachine")) (some [("part", y)]) h1) cNext) (cFor (cEnum (cCons (cVar 6) cNil)) (cGTup 2 (cGCons (cName 7) (cGCons (cName 8) cGNil))) (b_check_rows_3 P w K W)))
def b_check_rows_1 (P : Program) (w : World) (K : PySem.W.Frag) (W : En → XD) : CS := (cFor (cEnum (cCons (cVar 4) cNil)) (cGTup 2 (cGCons (cName 5) (cGCons (cName 6) cGNil))) (b_check_rows_2 P w K W))
def t_check_rows (P : Program) (w : World) (K : PySem.W.Frag) (W : En → XD) : CS := (cFor (cEnum (cCons (cVar 2) cNil)) (cGTup 2 (cGCons (cName 3) (cGCons (cName 4) cGNil))) (b_check_rows_1 P w K W))
abbrev N_Machine_init : List Str := [("self" : Str), ("worlds" : Str), ("words" : Str), ("rows" : Str)]
def t_Machine_init (P : Program) (w : World) (K : PySem.W.Frag) (W : En → XD) : CS := (cSeq (cIfS (cNot (cT (cFn sp_is_within (fun _ => noX) (cCons (cVar 1) (cCons (cC (.int 1)) (cCons (cC (.int 5)) cNil)))))) (fun _ ρ h => (cTup (cCons (cC (.str "worlds")) cNil)) ρ h fun y h1 => W ρ (.ref (He.ga K "BadMachine")) (some [("part", y)]) h1) cNext) (cSeq (cIfS (cNot (cT (cFn sp_is_within (fun _ => noX) (cCons (cVar 2) (cCons (cC (.int 1)) (cCons (cC (.int 6)) cNil)))))) (fun _ ρ h => (cTup (cCons (cC (.str "words")) cNil)) ρ h fun y h1 => W ρ (.ref (He.ga K "BadMachine")) (some [("part", y)]) h1) cNext) (cSeq (cIfS (cNot (cT (cFn sp_are_rows (fun _ => noX) (cCons (cVar 3) cNil)))) (fun _ ρ h => (cTup (cCons (cC (.str "rows")) cNil)) ρ h fun y h1 => W ρ (.ref (He.ga K "BadMachine")) (some [("part", y)]) h1) cNext) (cSeq (cDrop (cFn (sp_check_rows K) W (cCons (cVar 1) (cCons (cVar 2) (cCons (cVar 3) cNil))))) (cSeq (cFldS K (cVar 0) (cVar 1) "worlds") (cSeq (cFldS K (cVar 0) (cVar 2) "words") (cFldS K (cVar 0) (cVar 3) "rows")))))))
abbrev N_Machine_eq : List Str := [("self" : Str), ("other" : Str)]
def t_Machine_eq (P : Program) (w : World) (K : PySem.W.Frag) (W : En → XD) : CS := (cSeq (cIfS (cNot (cT (cCall (cIsi K) (cCons (cVar 1) (cCons (cC (.ref (He.ga K "Machine"))) cNil))))) (cRet (cC (.bl false))) cNext) (cRet (cOp cEq (cTup (cCons (cFld K (cVar 0) "worlds") (cCons (cFld K (cVar 0) "words") (cCons (cFld K (cVar 0) "rows") cNil)))) (cTup (cCons (cFld K (cVar 1) "worlds") (cCons (cFld K (cVar 1) "words") (cCons (cFld K (cVar 1) "rows") cNil)))))))
abbrev N_l_steps : List Str := [("_law_hand_here" : Str), ("_law_words" : Str), ("_law_standings" : Str), ("_law_word" : Str), ("_law_turn" : Str), ("_law_whole" : Str), ("_law_pairs" : Str), ("_law_counts" : Str), ("_law_pair" : Str), ("_law_standing" : Str)]
def b_l_steps_1 (P : Program) (w : World) (K : PySem.W.Frag) (W : En → XD) : CS := (cSet 6 (cOp cAdd (cVar 6) (cLc (cRng1 (cCons (cVar 2) cNil)) (.one 9) cYes (cTup (cCons (cVar 3) (cCons (cVar 9) cNil))) [9])))
def b_l_steps_2 (P : Program) (w : World) (K : PySem.W.Frag) (W : En → XD) : CS := (cSeq (cSet 8 (cFn sp_l_any (fun _ => noX) (cCons (cVar 0) (cCons (cVar 6) cNil)))) (cAsg (cOp cAdd (cDGet2 P w (cVar 7) (cVar 8) (cC (.int 0))) (cC (.int 1))) (cItm (cVar 7) (cVar 8) (cSetA P w))))
def t_l_steps (P : Program) (w : World) (K : PySem.W.Frag) (W : En → XD) : CS := (cSeq (cAsg (cTup (cCons (cLst cNil) (cCons (cDNew P w) cNil))) (cGTup 2 (cGCons (cName 6) (cGCons (cName 7) cGNil)))) (cSeq (cFor (cRng1 (cCons (cVar 1) cNil)) (cName 3) (b_l_steps_1 P w K W)) (cSeq (cFor (cRng1 (cCons (cOp cAdd (cC (.int 1)) (cFn sp_l_draw (fun _ => noX) (cCons (cVar 0) (cCons (cC (.int 5)) cNil)))) cNil)) (cName 4) (b_l_steps_2 P w K W)) (cSeq (cSet 5 (cCall cSum (cCons (cLc (cSrcA P w (cVar 7)) (.one 8) cYes (cOp (cIxA P w) (cVar 7) (cVar 8)) [8]) cNil))) (cRet (cCall cTuple (cCons (cLc (cSrcA P w (cVar 7)) (.one 8) cYes (cTup (cCons (cOp (cIxA P w) (cVar 8) (cC (.int 0))) (cCons (cFn sp_l_low (fun _ => noX) (cCons (cOp (cIxA P w) (cVar 7) (cVar 8)) (cCons (cVar 5) cNil))) (cCons (cOp (cIxA P w) (cVar 8) (cC (.int 1))) cNil)))) [8]) cNil)))))))
abbrev N_l_rows : List Str := [("_law_hand_here" : Str), ("_law_worlds" : Str), ("_law_words" : Str), ("_law_asked" : Str), ("_law_standings" : Str), ("_law_rows_here" : Str), ("_law_standing" : Str), ("_law_row" : Str), ("_law_question" : Str), ("_law_steps_here" : Str), ("_law_world" : Str)]
def b_l_rows_2 (P : Program) (w : World) (K : PySem.W.Frag) (W : En → XD) : CS := (cSeq (cSet 9 (cLc (cRng1 (cCons (cVar 1) cNil)) (.one 10) cYes (cFn sp_l_steps (fun _ => noX) (cCons (cVar 0) (cCons (cVar 2) (cCons (cVar 4) cNil)))) [10])) (cDrop (cLm (cVar 7) (cCons (cIf (cT (cOp cEq (cFn sp_l_draw (fun _ => noX) (cCons (cVar 0) (cCons (cC (.int 3)) cNil))) (cC (.int 0)))) (cOp cMul (cTup (cCons (cOp (cIxA P w) (cVar 9) (cC (.int 0))) cNil)) (cVar 1)) (cCall cTuple (cCons (cVar 9) cNil))) cNil) cApp)))
def b_l_rows_1 (P : Program) (w : World) (K : PySem.W.Frag) (W : En → XD) : CS := (cSeq (cSet 7 (cLst cNil)) (cSeq (cFor (cRng1 (cCons (cVar 3) cNil)) (cName 8) (b_l_rows_2 P w K W)) (cDrop (cLm (cVar 5) (cCons (cCall cTuple (cCons (cVar 7) cNil)) cNil) cApp))))
def t_l_rows (P : Program) (w : World) (K : PySem.W.Frag) (W : En → XD) : CS := (cSeq (cSet 5 (cLst cNil)) (cSeq (cFor (cRng1 (cCons (cVar 4) cNil)) (cName 6) (b_l_rows_1 P w K W)) (cRet (cCall cTuple (cCons (cVar 5) cNil)))))
end PM

-- PmJ
set_option Elab.async false
set_option linter.all false
set_option maxRecDepth 100000
set_option maxHeartbeats 4000000
/-! PmJ: the plain laws of the judge, the program's and the law's. -/
namespace PM
open PySem PySem.Spec PyProof.Rows L2 PD
section
variable {P : Program} {w : World} {K : PySem.W.Frag} {W : En → XD} {h : HD} {Q : DK} {Z : DE}
/-- a comprehension whose items tell g, nothing else happening -/
theorem map_loop {ok : HD → Prop} {tg : TgS} {te : CE} {ρ : En} {h : HD} {Q : DK} (g : D → D) (hok : ok h) : ∀ (xs acc : List D) (ht : ∀ x ∈ xs, ∀ k : DK, k (g x) h → tg.bind ρ x fun ρ1 => te ρ1 h k), (∀ p, h p = none → Q (.ref p) (updD h p (.lst (acc ++ xs.map g)))) → cLcGo ok tg cYes te ρ Q xs acc h
  | [], acc, _, q => ⟨hok, fun p np => by have := q p np; simpa using this⟩
  | x :: xs, acc, ht, q => by
    refine ⟨hok, ?_⟩
    have ih := map_loop g hok xs (acc ++ [g x]) (fun y hy => ht y (List.mem_cons_of_mem _ hy)) (fun p np => by have := q p np; simpa using this)
    exact ht x List.mem_cons_self _ ih
theorem map_bl {xs : List D} {f : D → Bool} : ([] ++ xs.map fun x => D.bl (f x)) = (xs.map f).map D.bl := by simp
theorem all_id {xs : List D} {f : D → Bool} : (xs.map f).all id = xs.all f := by rw [List.all_map]; rfl
theorem any_id {xs : List D} {f : D → Bool} : (xs.map f).any id = xs.any f := by rw [List.any_map]; rfl
theorem Kn.kdP {a : Addr} {N : Int} {x : D} (k : Kn a N h x) : PD.kdP h x := ⟨k.kd, fun u v e => by
  subst e
  exact ⟨Kn.kd k.1, Kn.kd k.2.1⟩⟩
theorem three_or (x : D) : (∃ a b c, x = .tup [a, b, c]) ∨ (szd x 3 3 = false ∧ ∀ wo st, isStep wo st x = false) := by
  have no : ∀ xs : List D, xs.length ≠ 3 → szd (.tup xs) 3 3 = false ∧ ∀ wo st, isStep wo st (.tup xs) = false := fun xs n => by
    refine ⟨?_, fun wo st => ?_⟩
    · rw [show szd (.tup xs) 3 3 = decide ((xs.length : Int) = 3) from szd_eq _ 3, decide_eq_false_iff_not]
      omega
    · unfold isStep
      split
      · rename_i e; cases e; exact absurd rfl n
      · rfl
  cases x with
  | tup xs =>
    match xs with
    | [] => exact .inr (no _ (by decide))
    | [_] => exact .inr (no _ (by simp))
    | [_, _] => exact .inr (no _ (by simp))
    | [a, b, c] => exact .inl ⟨a, b, c, rfl⟩
    | a :: b :: c :: d :: r => exact .inr (no _ (by simp))
  | _ => exact .inr ⟨rfl, fun _ _ => rfl⟩
theorem p_is_step (ds : List D) (h : HD) (Q : DK) (E : XD) (hs : sp_is_step ds h Q E) : t_is_step P w K W { nx := fun _ h' => Q .non h', rt := Q } (startD N_is_step ds) h := by
  obtain ⟨a, wo, st, x, rfl, hk, q⟩ := hs
  obtain ⟨z, kz⟩ := hk.kd
  refine ⟨x, z, rfl, kz, ?_⟩
  rcases three_or x with ⟨u, v, y, rfl⟩ | ⟨h1, h2⟩
  · obtain ⟨k1, k2, k3, _⟩ := hk
    obtain ⟨z1, kz1⟩ := k1.kd
    obtain ⟨z3, kz3⟩ := k3.kd
    change Q (.bl (inW u 0 (wo - 1) && (isSh v && inW y 0 (st - 1)))) h at q
    refine ifF (c := !szd (.tup [u, v, y]) 3 3) rfl ?_
    refine .inl ⟨u, rfl, u, 0, wo - 1, z1, rfl, kz1, ?_⟩
    refine ifB (c := !inW u 0 (wo - 1)) (fun c => ?_) (fun c => ?_)
    · have c' : inW u 0 (wo - 1) = false := by simpa using c
      rw [c', Bool.false_and] at q
      exact q
    · have c' : inW u 0 (wo - 1) = true := by simpa using c
      rw [c', Bool.true_and] at q
      refine .inl ⟨v, rfl, v, rfl, k2.kdP, ifB (c := isSh v) (fun c2 => ?_) (fun c2 => ?_)⟩
      · rw [c2, Bool.true_and] at q
        exact .inl ⟨y, rfl, y, 0, st - 1, z3, rfl, kz3, q⟩
      · rw [c2, Bool.false_and] at q
        exact q
  · refine ifT (c := !szd x 3 3) (by rw [h1]; rfl) ?_
    rw [h2] at q
    exact ifT rfl q
theorem lenA {r : D} (hr : szd r 1 4 = true) : ∃ xs, r = .tup xs := by
  cases r with
  | tup xs => exact ⟨xs, rfl⟩
  | _ => cases hr
theorem p_are_rows (ds : List D) (h : HD) (Q : DK) (E : XD) (hs : sp_are_rows ds h Q E) : t_are_rows P w K W { nx := fun _ h' => Q .non h', rt := Q } (startD N_are_rows ds) h := by
  obtain ⟨a, x, rfl, hk, q⟩ := hs
  obtain ⟨z, kz⟩ := hk.kd
  refine ⟨x, 1, 6, z, rfl, kz, ?_⟩
  refine ifB (c := !szd x 1 6) (fun c => ?_) (fun c => ?_)
  · have c' : szd x 1 6 = false := by simpa using c
    refine ifT rfl ?_
    have e : areRows x = false := by
      unfold areRows
      split
      · rw [c']; rfl
      · rfl
    have := q h (.refl h)
    rw [e] at this
    exact this
  · have c' : szd x 1 6 = true := by simpa using c
    cases x with
    | tup rs =>
      have ls : rs.length ≤ 6 := by
        have : (decide ((1 : Int) ≤ (rs.length : Int)) && decide ((rs.length : Int) ≤ 6)) = true := c'
        simp at this
        omega
      have l1 : 1 ≤ rs.length := by
        have : (decide ((1 : Int) ≤ (rs.length : Int)) && decide ((rs.length : Int) ≤ 6)) = true := c'
        simp at this
        omega
      have q' : ∀ h', Ex h h' → Q (.bl ((rs.all fun r => szd r 1 4) && rs.all fun r => decide (lenT r = lenT (rs.headD .non)))) h' := fun h' xx => by
        have := q h' xx
        have e : areRows (.tup rs) = ((rs.all fun r => szd r 1 4) && rs.all fun r => decide (lenT r = lenT (rs.headD .non))) := by
          show (szd (.tup rs) 1 6 && (rs.all fun r => szd r 1 4) && rs.all fun r => decide (lenT r = lenT (rs.headD .non))) = _
          rw [c', Bool.true_and]
        rw [e] at this
        exact this
      have hz : rs.length ≤ sizeLine := by rw [sizeLine_eq]; omega
      refine .inl ⟨hz, map_loop (fun r => D.bl (szd r 1 4)) trivial rs [] (fun r hr k kk => ?_) fun p np => ?_⟩
      · obtain ⟨zr, kr⟩ := (KnA.all.mp hk r hr).kd
        exact ⟨r, 1, 4, zr, rfl, kr, kk⟩
      · have x1 : Ex h (updD h p (.lst ([] ++ rs.map fun r => D.bl (szd r 1 4)))) := .new np
        refine ⟨rs.map fun r => szd r 1 4, by rw [updD_same, map_bl], ?_⟩
        refine ifB (c := !((rs.map fun r => szd r 1 4).all id)) (fun c => ?_) (fun c => ?_)
        · have c2 : (rs.all fun r => szd r 1 4) = false := by rw [← all_id]; simpa using c
          have := q' _ x1
          rw [c2, Bool.false_and] at this
          exact this
        · have c2 : (rs.all fun r => szd r 1 4) = true := by rw [← all_id]; simpa using c
          refine .inl ⟨hz, map_loop (fun r => D.bl (decide (lenT r = lenT (rs.headD .non)))) trivial rs [] (fun r hr k kk => ?_) fun p2 np2 => ?_⟩
          · obtain ⟨ys, rfl⟩ := lenA (List.all_eq_true.mp c2 r hr)
            match rs, l1, c2 with
            | r0 :: rt, _, c2 =>
              obtain ⟨y0, rfl⟩ := lenA (List.all_eq_true.mp c2 r0 List.mem_cons_self)
              refine .inl (.inl ⟨.tup y0, atI_nat (j := 0) rfl, .inl ⟨shp_int _, shp_int _, ?_⟩⟩)
              rw [eqD_int]
              have : decide ((ys.length : Int) = (y0.length : Int)) = decide (lenT (.tup ys) = lenT (List.headD (.tup y0 :: rt) .non)) := by
                show decide ((ys.length : Int) = (y0.length : Int)) = decide (ys.length = y0.length)
                exact decide_eq_decide.mpr (by omega)
              rw [this]
              exact kk
          · have x2 := x1.new' (o := .lst ([] ++ rs.map fun r => D.bl (decide (lenT r = lenT (rs.headD .non))))) np2
            refine ⟨rs.map fun r => decide (lenT r = lenT (rs.headD .non)), by rw [updD_same, map_bl], ?_⟩
            have := q' _ x2
            rw [c2, Bool.true_and] at this
            rw [show (fun bs : List Bool => bs.all id) (rs.map fun r => decide (lenT r = lenT (rs.headD .non))) = _ from all_id]
            exact this
    | _ => cases c'
/-! ### sums of few bits -/
theorem n30 : (1000000000000000000000000000000 : Int) < ((2 ^ 100 : Nat) : Int) := by decide
theorem div_pos_le {x g : Int} (hg : 0 < g) (hx : 0 ≤ x) : 0 ≤ x / g ∧ x / g ≤ x := ⟨Int.ediv_nonneg hx (Int.le_of_lt hg), by
  have := Int.ediv_le_self g hx
  exact this⟩
theorem plus_few {n : Nat} {a x : Int × Int} (a0 : 0 ≤ a.1) (a1 : 0 < a.2) (a2 : a.1 < ((2 ^ n : Nat) : Int)) (a3 : a.2 < ((2 ^ n : Nat) : Int)) (x0 : 0 ≤ x.1) (x1 : 0 < x.2) (x2 : x.1 < ((2 ^ 100 : Nat) : Int)) (x3 : x.2 < ((2 ^ 100 : Nat) : Int)) :
    0 ≤ (plusI a x).1 ∧ 0 < (plusI a x).2 ∧ (plusI a x).1 < ((2 ^ (n + 101) : Nat) : Int) ∧ (plusI a x).2 < ((2 ^ (n + 101) : Nat) : Int) := by
  have pb : 0 < a.2 * x.2 := Int.mul_pos a1 x1
  have g0 := gcdI_pos (t := a.1 * x.2 + x.1 * a.2) pb
  have gd : gcdI (a.1 * x.2 + x.1 * a.2) (a.2 * x.2) ∣ a.2 * x.2 := Int.gcd_dvd_right ..
  have mul : ∀ {u v : Int}, 0 ≤ u → u < ((2 ^ n : Nat) : Int) → 0 ≤ v → v < ((2 ^ 100 : Nat) : Int) → u * v < ((2 ^ (n + 100) : Nat) : Int) := fun {u v} u0 u1 v0 v1 => by
    rw [Nat.pow_add, Int.natCast_mul]
    have h1 : u * v ≤ u * ((2 ^ 100 : Nat) : Int) := Int.mul_le_mul_of_nonneg_left (Int.le_of_lt v1) u0
    have h2 : u * ((2 ^ 100 : Nat) : Int) < ((2 ^ n : Nat) : Int) * ((2 ^ 100 : Nat) : Int) := Int.mul_lt_mul_of_pos_right u1 (by omega)
    omega
  have m1 := mul a0 a2 (Int.le_of_lt x1) x3
  have m2 := mul (Int.le_of_lt a1) a3 x0 x2
  have m3 := mul (Int.le_of_lt a1) a3 (Int.le_of_lt x1) x3
  have e : ((2 ^ (n + 101) : Nat) : Int) = 2 * ((2 ^ (n + 100) : Nat) : Int) := by
    rw [show n + 101 = (n + 100) + 1 from rfl, Nat.pow_succ]; omega
  rw [Int.mul_comm a.2 x.1] at m2
  have t0 : 0 ≤ a.1 * x.2 + x.1 * a.2 := Int.add_nonneg (Int.mul_nonneg a0 (Int.le_of_lt x1)) (Int.mul_nonneg x0 (Int.le_of_lt a1))
  obtain ⟨d1, d2⟩ := div_pos_le g0 t0
  obtain ⟨d3, d4⟩ := div_pos_le g0 (Int.le_of_lt pb)
  refine ⟨d1, ?_, ?_, ?_⟩
  · exact Int.ediv_pos_of_pos_of_dvd pb (Int.le_of_lt g0) gd
  · show (a.1 * x.2 + x.1 * a.2) / _ < _
    omega
  · show (a.2 * x.2) / _ < _
    omega
theorem few_of {n : Nat} {x : Int × Int} (hn : n ≤ 4000) (x0 : 0 ≤ x.1) (x1 : 0 < x.2) (x2 : x.1 < ((2 ^ n : Nat) : Int)) (x3 : x.2 < ((2 ^ n : Nat) : Int)) : fewB 4000 x := by
  have : 2 ^ n ≤ 2 ^ 4000 := Nat.pow_le_pow_right (by decide) hn
  generalize 2 ^ n = u at this x2 x3
  generalize hv : 2 ^ 4000 = v at this
  refine ⟨x1, ?_, ?_⟩
  · rw [hv]; omega
  · rw [hv]; omega
theorem sum_few : ∀ (xs : List (Int × Int)) (n : Nat) (a : Int × Int), 0 ≤ a.1 → 0 < a.2 → a.1 < ((2 ^ n : Nat) : Int) → a.2 < ((2 ^ n : Nat) : Int) → n + 101 * xs.length ≤ 4000 → (∀ x ∈ xs, 0 ≤ x.1 ∧ 0 < x.2 ∧ x.1 < ((2 ^ 100 : Nat) : Int) ∧ x.2 < ((2 ^ 100 : Nat) : Int)) → sumOk a xs
  | [], _, _, _, _, _, _, _, _ => trivial
  | x :: xs, n, a, a0, a1, a2, a3, hn, hx => by
    rw [List.length_cons] at hn
    obtain ⟨x0, x1, x2, x3⟩ := hx x List.mem_cons_self
    obtain ⟨p0, p1, p2, p3⟩ := plus_few a0 a1 a2 a3 x0 x1 x2 x3
    exact ⟨few_of (by omega) a0 a1 a2 a3, few_of (n := 100) (by omega) x0 x1 x2 x3, sum_few xs (n + 101) _ p0 p1 p2 p3 (by omega) fun y hy => hx y (List.mem_cons_of_mem _ hy)⟩
/-! ### steps -/
def stD (u t b g : Int) : D := .tup [.int u, .tup [.int t, .int b], .int g]
theorem inW_int {x : D} {lo hi : Int} (h : inW x lo hi = true) : ∃ i, x = .int i ∧ lo ≤ i ∧ i ≤ hi := by
  cases x with
  | int i =>
    have h' : (decide (lo ≤ i) && decide (i ≤ hi)) = true := h
    simp at h'
    exact ⟨i, rfl, h'⟩
  | _ => cases h
theorem isSh_shape {x : D} (h : isSh x = true) : ∃ t b, x = .tup [.int t, .int b] ∧ 0 < t ∧ t ≤ b := by
  have h1 : isFr x = true := by
    cases c : isFr x with
    | true => rfl
    | false => unfold isSh at h; rw [c, Bool.false_and] at h; cases h
  obtain ⟨i, j, rfl, _, _⟩ := fr_two h1
  have h2 : (isFr (.tup [.int i, .int j]) && (decide (0 < i) && decide (i ≤ j))) = true := h
  rw [h1, Bool.true_and] at h2
  simp at h2
  exact ⟨i, j, rfl, h2⟩
theorem step_shape {wo st : Int} {x : D} (h : isStep wo st x = true) : ∃ u t b g, x = stD u t b g ∧ 0 < t ∧ t ≤ b := by
  rcases three_or x with ⟨a, v, y, rfl⟩ | ⟨_, n⟩
  · have h' : (inW a 0 (wo - 1) && (isSh v && inW y 0 (st - 1))) = true := h
    rw [Bool.and_eq_true, Bool.and_eq_true] at h'
    obtain ⟨h1, h2, h3⟩ := h'
    obtain ⟨u, rfl, _⟩ := inW_int h1
    obtain ⟨t, b, rfl, ht⟩ := isSh_shape h2
    obtain ⟨g, rfl, _⟩ := inW_int h3
    exact ⟨u, t, b, g, rfl, ht⟩
  · rw [n] at h; cases h
def kyD (p : Int × Int) : D := .tup [.int p.1, .int p.2]
theorem keq_ky (p q : Int × Int) : keq (kyD p) (kyD q) = decide (p = q) := by
  rw [keq_dec]
  refine decide_eq_decide.mpr ⟨fun e => ?_, fun e => by rw [e]⟩
  have e' : NestedKey.tup [.num p.1, .num p.2] = .tup [.num q.1, .num q.2] := e
  injection e' with e1
  injection e1 with e2 e3
  injection e2 with e2
  injection e3 with e3 _
  injection e3 with e3
  exact Prod.ext e2 e3
def addP (ps : List (Int × Int)) (p : Int × Int) : List (Int × Int) := if p ∈ ps then ps else ps ++ [p]
theorem any_ky (kvs : List (D × D)) (ps : List (Int × Int)) (p : Int × Int) (e : kvs.map (·.1) = ps.map kyD) : (kvs.any fun q => keq q.1 (kyD p)) = decide (p ∈ ps) := by
  have h1 : (kvs.any fun q => keq q.1 (kyD p)) = (kvs.map (·.1)).any fun k => keq k (kyD p) := by rw [List.any_map]; rfl
  rw [h1, e, List.any_map]
  have h2 : ((fun k => keq k (kyD p)) ∘ kyD) = fun q => decide (q = p) := funext fun q => keq_ky q p
  rw [h2]
  refine Bool.eq_iff_iff.mpr ?_
  simp
theorem put_keys (kvs : List (D × D)) (ps : List (Int × Int)) (p : Int × Int) (v : D) (e : kvs.map (·.1) = ps.map kyD) : (putK' kvs (kyD p) v).map (·.1) = (addP ps p).map kyD := by
  unfold putK' addP
  rw [any_ky kvs ps p e]
  by_cases m : p ∈ ps
  · rw [if_pos m, if_pos (decide_eq_true m), List.map_map, ← e]
    refine List.map_congr_left fun q _ => ?_
    show (if keq q.1 (kyD p) = true then (q.1, v) else q).1 = q.1
    split <;> rfl
  · rw [if_neg m, if_neg (by simp [m]), List.map_append, List.map_append, e]
    rfl
theorem addP_len : ∀ (qs ps : List (Int × Int)), ps.Nodup → ((qs.foldl addP ps).length = ps.length + qs.length ↔ (ps ++ qs).Nodup) ∧ (qs.foldl addP ps).length ≤ ps.length + qs.length
  | [], ps, n => by simp [n]
  | q :: qs, ps, n => by
    rw [List.foldl_cons, show addP ps q = if q ∈ ps then ps else ps ++ [q] from rfl]
    by_cases m : q ∈ ps
    · rw [if_pos m]
      obtain ⟨_, h2⟩ := addP_len qs ps n
      refine ⟨⟨fun e => ?_, fun e => ?_⟩, ?_⟩
      · rw [List.length_cons] at e; omega
      · have := (List.nodup_append.mp e).2.2 q m q List.mem_cons_self
        exact absurd rfl this
      · rw [List.length_cons]; omega
    · rw [if_neg m]
      have n' : (ps ++ [q]).Nodup := by
        rw [List.nodup_append]
        exact ⟨n, by simp, fun a ha b hb => by simp at hb; subst hb; exact fun z => m (z ▸ ha)⟩
      obtain ⟨h1, h2⟩ := addP_len qs (ps ++ [q]) n'
      rw [List.length_append, List.length_singleton] at h1 h2
      rw [List.length_cons]
      rw [List.append_assoc, List.singleton_append] at h1
      exact ⟨⟨fun e => h1.mp (by omega), fun e => by have := h1.mpr e; omega⟩, by omega⟩
theorem dc_loop {a b c o : Option D} {L : Addr} : ∀ (xs : List D) (ps : List (Int × Int)) (kvs : List (D × D)) (h : HD), (∀ x ∈ xs, ∃ u t bb g, x = stD u t bb g) → h L = some (.dN P w kvs) → kvs.map (·.1) = ps.map kyD → kvs.length + xs.length ≤ 1000 →
    (∀ h' kvs', ExB L h h' → h' L = some (.dN P w kvs') → kvs'.length = ((xs.map pairOf).foldl addP ps).length → Q (.ref L) h') →
    cDcGo P w (fun _ => True) (.many [4, 5, 6]) cYes (cTup (cCons (cVar 4) (cCons (cVar 6) cNil))) (cC (.bl true)) [a, b, c, o, none, none, none, none] L Q xs h
  | [], ps, kvs, h, _, e, ek, hl, q => ⟨trivial, q h kvs (.refl L h) e (by
    have : (kvs.map (·.1)).length = (ps.map kyD).length := by rw [ek]
    simpa using this)⟩
  | x :: xs, ps, kvs, h, hx, e, ek, hl, q => by
    obtain ⟨u, t, bb, g, rfl⟩ := hx x List.mem_cons_self
    rw [List.length_cons] at hl
    have ek' := put_keys kvs ps (u, g) (.bl true) ek
    have hl' : (putK' kvs (kyD (u, g)) (.bl true)).length ≤ kvs.length + 1 := by
      unfold putK'
      split
      · rw [List.length_map]; omega
      · rw [List.length_append]; simp
    refine ⟨trivial, rfl, by show 2 ≤ sizeLine; decide, kvs, .inl e, rfl, by show 1 ≤ 8; decide, by rw [sizeLine_eq]; omega, ?_⟩
    refine dc_loop xs (addP ps (u, g)) _ _ (fun y hy => hx y (List.mem_cons_of_mem _ hy)) updD_same ek' (by show (putK' kvs (kyD (u, g)) (.bl true)).length + xs.length ≤ 1000; omega) fun h' kvs' x1 e' l' => ?_
    exact q h' kvs' ((ExB.setN e (fun _ z => by cases z)).trans x1) e' l'
theorem len12 {xs : List D} (c : szd (.tup xs) 1 12 = true) : 1 ≤ xs.length ∧ xs.length ≤ 12 := by
  have : (decide ((1 : Int) ≤ (xs.length : Int)) && decide ((xs.length : Int) ≤ 12)) = true := c
  simp at this
  omega
theorem sh_bound {a : Addr} {xs : List D} {wo st : Int} (hk : KnA a N30 h xs) (c : xs.all (isStep wo st) = true) : ∀ x ∈ xs.map shOf, 0 ≤ x.1 ∧ 0 < x.2 ∧ x.1 < ((2 ^ 100 : Nat) : Int) ∧ x.2 < ((2 ^ 100 : Nat) : Int) := fun x hx => by
  obtain ⟨y, hy, rfl⟩ := List.mem_map.mp hx
  obtain ⟨u, t, b, g, rfl, t0, tb⟩ := step_shape (List.all_eq_true.mp c y hy)
  obtain ⟨_, ⟨⟨_, h2⟩, ⟨_, h3⟩, _⟩, _⟩ := (KnA.all.mp hk _ hy)
  have := n30
  show 0 ≤ t ∧ 0 < b ∧ t < _ ∧ b < _
  have e : N30 = 1000000000000000000000000000000 := rfl
  rw [e] at h2 h3
  omega
theorem p_are_steps (ds : List D) (h : HD) (Q : DK) (E : XD) (hs : sp_are_steps ds h Q E) : t_are_steps P w K W { nx := fun _ h' => Q .non h', rt := Q } (startD N_are_steps ds) h := by
  obtain ⟨a, wo, st, x, rfl, hk, q⟩ := hs
  obtain ⟨z, kz⟩ := hk.kd
  refine ⟨x, 1, 12, z, rfl, kz, ?_⟩
  refine ifB (c := !szd x 1 12) (fun c => ?_) (fun c => ?_)
  · have c' : szd x 1 12 = false := by simpa using c
    refine ifT rfl ?_
    have e : areSteps wo st x = false := by
      unfold areSteps
      split
      · rw [c', Bool.false_and, Bool.false_and]
      · rfl
    have := q h (.refl h)
    rw [e] at this
    exact this
  · have c' : szd x 1 12 = true := by simpa using c
    cases x with
    | tup xs =>
      obtain ⟨l1, l2⟩ := len12 c'
      have hz : xs.length ≤ sizeLine := by rw [sizeLine_eq]; omega
      have q' : ∀ h', Ex h h' → Q (.bl ((xs.all (isStep wo st)) && (decide ((xs.map pairOf).Nodup) && decide (sumI (xs.map shOf) = (1, 1))))) h' := fun h' xx => by
        have := q h' xx
        rw [show areSteps wo st (.tup xs) = ((xs.all (isStep wo st)) && (decide ((xs.map pairOf).Nodup) && decide (sumI (xs.map shOf) = (1, 1)))) by
          show (szd (.tup xs) 1 12 && (xs.all (isStep wo st)) && (decide ((xs.map pairOf).Nodup) && decide (sumI (xs.map shOf) = (1, 1)))) = _
          rw [c', Bool.true_and]] at this
        exact this
      refine .inl ⟨hz, map_loop (fun r => D.bl (isStep wo st r)) trivial xs [] (fun r hr k kk => ⟨a, wo, st, r, rfl, KnA.all.mp hk r hr, kk⟩) fun p np => ?_⟩
      have x1 : Ex h (updD h p (.lst ([] ++ xs.map fun r => D.bl (isStep wo st r)))) := .new np
      refine ⟨xs.map (isStep wo st), by rw [updD_same, map_bl], ?_⟩
      refine ifB (c := !((xs.map (isStep wo st)).all id)) (fun c => ?_) (fun c => ?_)
      · have c2 : xs.all (isStep wo st) = false := by rw [← all_id]; simpa using c
        have := q' _ x1
        rw [c2, Bool.false_and] at this
        exact this
      · have c2 : xs.all (isStep wo st) = true := by rw [← all_id]; simpa using c
        have shp_ : ∀ x ∈ xs, ∃ u t b g, x = stD u t b g := fun x hx => by
          obtain ⟨u, t, b, g, e, _⟩ := step_shape (List.all_eq_true.mp c2 x hx)
          exact ⟨u, t, b, g, e⟩
        refine .inl fun L nL => ?_
        refine dc_loop xs [] [] _ shp_ updD_same rfl (by simp; omega) fun h2 kvs xb e2 lk => ?_
        have x2 : Ex h h2 := fun b o e => by
          have e1 := x1 b o e
          have nb : b ≠ L := fun z => by rw [z] at e1; rw [e1] at nL; cases nL
          exact xb b o nb (by rw [updD_ne nb]; exact e1)
        obtain ⟨al, _⟩ := addP_len (xs.map pairOf) [] List.nodup_nil
        rw [List.nil_append, List.length_nil, Nat.zero_add, List.length_map] at al
        refine .inr ⟨L, kvs, rfl, .inl e2, .inl ⟨shp_int _, shp_int _, ?_⟩⟩
        rw [eqD_int]
        have ed : decide (((kvs.length : Nat) : Int) = ((xs.length : Nat) : Int)) = decide ((xs.map pairOf).Nodup) := by
          refine decide_eq_decide.mpr ?_
          rw [← al, ← lk]
          omega
        rw [ed]
        refine ifB (c := decide ((xs.map pairOf).Nodup)) (fun c => ?_) (fun c => ?_)
        · refine .inl ⟨hz, map_loop (fun r => prD2 (shOf r)) trivial xs [] (fun r hr k kk => ?_) fun p2 np2 => ?_⟩
          · obtain ⟨u, t, b, g, rfl⟩ := shp_ r hr
            exact ⟨rfl, kk⟩
          · have x3 := x2.new' (o := .lst ([] ++ xs.map fun r => prD2 (shOf r))) np2
            have el : ([] ++ xs.map fun r => prD2 (shOf r)) = (xs.map shOf).map prD2 := by simp
            refine ⟨p2, xs.map shOf, rfl, by rw [updD_same, el], by rw [List.length_map]; omega, ?_, fun h4 x4 => ?_⟩
            · exact sum_few _ 1 (0, 1) (by decide) (by decide) (by decide) (by decide) (by rw [List.length_map]; omega) (sh_bound hk c2)
            · have := q' _ (x3.trans x4)
              rw [c2, c, Bool.true_and, Bool.true_and] at this
              have ea : ((xs.map shOf).all fun x => isSh (prD2 x)) = true := by
                rw [List.all_map, List.all_eq_true]
                intro y hy
                obtain ⟨a', v, y', e3⟩ : ∃ a v y', y = .tup [a, v, y'] := by
                  obtain ⟨u, t, b, g, rfl⟩ := shp_ y hy
                  exact ⟨_, _, _, rfl⟩
                have hst := List.all_eq_true.mp c2 y hy
                obtain ⟨u, t, b, g, rfl⟩ := shp_ y hy
                have h' : (inW (.int u) 0 (wo - 1) && (isSh (.tup [.int t, .int b]) && inW (.int g) 0 (st - 1))) = true := hst
                rw [Bool.and_eq_true, Bool.and_eq_true] at h'
                exact h'.2.1
              rw [ea, Bool.true_and]
              exact this
        · have := q' _ x2
          rw [c2, c, Bool.true_and, Bool.false_and] at this
          exact this
    | _ => cases c'
end
end PM

-- PmK
set_option Elab.async false
set_option linter.all false
set_option maxRecDepth 100000
set_option maxHeartbeats 4000000
/-! PmK: the plain laws of the judge, on. -/
namespace PM
open PySem PySem.Spec PyProof.Rows L2 PD
section
variable {P : Program} {w : World} {K : PySem.W.Frag} {W : En → XD} {h : HD} {Q : DK} {Z : DE} {E : XD}
abbrev enF (i : Nat) (ys : List D) : List D := (ys.zipIdx i).map fun p => D.tup [.int (p.2 : Nat), p.1]
theorem enF_cons (i : Nat) (y : D) (ys : List D) : enF i (y :: ys) = .tup [.int (i : Nat), y] :: enF (i + 1) ys := rfl
theorem cr3 {a : Addr} {nw wo : Int} {rs : List D} {row qn : Option D} {s q : Int} : ∀ (ys : List D) (i : Nat) (o7 o8 : Option D) (h : HD), KnA a N30 h ys → (worldBad wo (rs.length : Nat) s q i ys = none → ∀ o7 o8 h', Ex h h' → Z.nx [some (.int nw), some (.int wo), some (.tup rs), some (.int s), row, some (.int q), qn, o7, o8] h') →
    (∀ p, worldBad wo (rs.length : Nat) s q i ys = some p → ∀ h', Ex h h' → xPart K E p h') →
    cLoop (fun _ => True) (cGTup 2 (cGCons (cName 7) (cGCons (cName 8) cGNil))) (b_check_rows_3 P w K fun _ => E) Z (enF i ys) [some (.int nw), some (.int wo), some (.tup rs), some (.int s), row, some (.int q), qn, o7, o8] h
  | [], i, o7, o8, h, _, q1, _ => ⟨trivial, q1 rfl o7 o8 h (.refl h)⟩
  | y :: ys, i, o7, o8, h, hk, q1, q2 => by
    refine ⟨trivial, rfl, rfl, ?_⟩
    refine .inl ⟨a, wo, (rs.length : Nat), y, rfl, hk.1, fun h1 x1 => ?_⟩
    unfold worldBad at q1 q2
    refine ifB (c := !areSteps wo (rs.length : Nat) y) (fun c => ?_) (fun c => ?_)
    · have c' : areSteps wo (rs.length : Nat) y = false := by simpa using c
      rw [if_neg (by rw [c']; decide)] at q2
      exact ⟨by show 4 ≤ sizeLine; decide, q2 _ rfl h1 x1⟩
    · have c' : areSteps wo (rs.length : Nat) y = true := by simpa using c
      rw [if_pos c'] at q1 q2
      exact cr3 ys (i + 1) _ _ h1 (KnA.ex x1.b hk.2) (fun e o7 o8 h' x' => q1 e o7 o8 h' (x1.trans x')) fun p e h' x' => q2 p e h' (x1.trans x')
def tupN (x : D) (n : Int) : Bool := match x with
  | .tup ys => decide ((ys.length : Int) = n)
  | _ => false
theorem szd_tup {x : D} {n : Int} : szd x n n = tupN x n := by
  cases x with
  | tup xs =>
    show (decide (n ≤ (xs.length : Int)) && decide ((xs.length : Int) ≤ n)) = decide ((xs.length : Int) = n)
    by_cases e : (xs.length : Int) = n
    · rw [e]; simp
    · rw [decide_eq_false e, ← Bool.not_eq_true, Bool.and_eq_true, decide_eq_true_eq, decide_eq_true_eq]; omega
  | _ => rfl
theorem cr2 {a : Addr} {nw wo : Int} {rs : List D} {row : Option D} {s : Int} : ∀ (ys : List D) (i : Nat) (o5 o6 o7 o8 : Option D) (h : HD), KnA a N30 h ys → (questBad nw wo (rs.length : Nat) s i ys = none → ∀ o5 o6 o7 o8 h', Ex h h' → Z.nx [some (.int nw), some (.int wo), some (.tup rs), some (.int s), row, o5, o6, o7, o8] h') →
    (∀ p, questBad nw wo (rs.length : Nat) s i ys = some p → ∀ h', Ex h h' → xPart K E p h') →
    cLoop (fun _ => True) (cGTup 2 (cGCons (cName 5) (cGCons (cName 6) cGNil))) (b_check_rows_2 P w K fun _ => E) Z (enF i ys) [some (.int nw), some (.int wo), some (.tup rs), some (.int s), row, o5, o6, o7, o8] h
  | [], i, o5, o6, o7, o8, h, _, q1, _ => ⟨trivial, q1 rfl o5 o6 o7 o8 h (.refl h)⟩
  | y :: ys, i, o5, o6, o7, o8, h, hk, q1, q2 => by
    refine ⟨trivial, rfl, rfl, ?_⟩
    obtain ⟨z, kz⟩ := hk.1.kd
    refine ⟨y, nw, nw, z, rfl, kz, ?_⟩
    rw [szd_tup]
    have bad : tupN y nw = false → questBad nw wo (rs.length : Nat) s i (y :: ys) = some (partD s i (-1)) := fun c => by
      unfold questBad
      cases y with
      | tup zs => exact if_neg (by rw [show decide ((zs.length : Int) = nw) = false from c]; decide)
      | _ => rfl
    refine ifB (c := !tupN y nw) (fun c => ?_) (fun c => ?_)
    · exact ⟨by show 4 ≤ sizeLine; decide, q2 _ (bad (by simpa using c)) h (.refl h)⟩
    · have c' : tupN y nw = true := by simpa using c
      cases y with
      | tup zs =>
        have e1 : questBad nw wo (rs.length : Nat) s i (.tup zs :: ys) = (match worldBad wo (rs.length : Nat) s i 0 zs with
          | some p => some p
          | none => questBad nw wo (rs.length : Nat) s (i + 1) ys) := if_pos c'
        rw [e1] at q1 q2
        have go : cLoop (fun _ => True) (cGTup 2 (cGCons (cName 7) (cGCons (cName 8) cGNil))) (b_check_rows_3 P w K fun _ => E) { Z with nx := cLoop (fun _ => True) (cGTup 2 (cGCons (cName 5) (cGCons (cName 6) cGNil))) (b_check_rows_2 P w K fun _ => E) Z (enF (i + 1) ys), ct := cLoop (fun _ => True) (cGTup 2 (cGCons (cName 5) (cGCons (cName 6) cGNil))) (b_check_rows_2 P w K fun _ => E) Z (enF (i + 1) ys), bk := Z.nx } (enF 0 zs) [some (.int nw), some (.int wo), some (.tup rs), some (.int s), row, some (.int (i : Nat)), some (.tup zs), o7, o8] h := by
          refine cr3 (a := a) zs 0 o7 o8 h hk.1 (fun e o7 o8 h' x' => ?_) fun p e h' x' => ?_
          · rw [e] at q1 q2
            exact cr2 ys (i + 1) _ _ o7 o8 h' (KnA.ex x'.b hk.2) (fun e2 o5 o6 o7 o8 h2 x2 => q1 e2 o5 o6 o7 o8 h2 (x'.trans x2)) fun p e2 h2 x2 => q2 p e2 h2 (x'.trans x2)
          · rw [e] at q2
            exact q2 p rfl h' x'
        exact go
      | _ => cases c'
theorem rows_tup {rs : List D} (c : areRows (.tup rs) = true) : ∀ r ∈ rs, ∃ ys, r = .tup ys ∧ ys.length ≤ 4 ∧ ys.length = lenT (rs.headD .non) := fun r hr => by
  have c' : (szd (.tup rs) 1 6 && (rs.all fun r => szd r 1 4) && rs.all fun r => decide (lenT r = lenT (rs.headD .non))) = true := c
  rw [Bool.and_eq_true, Bool.and_eq_true] at c'
  have h1 := List.all_eq_true.mp c'.1.2 r hr
  have h2 := of_decide_eq_true (List.all_eq_true.mp c'.2 r hr)
  obtain ⟨ys, rfl⟩ := lenA h1
  have h3 : (decide ((1 : Int) ≤ (ys.length : Int)) && decide ((ys.length : Int) ≤ 4)) = true := h1
  simp at h3
  exact ⟨ys, rfl, by omega, h2⟩
theorem cr1 {a : Addr} {nw wo : Int} {rs : List D} : ∀ (ys : List D) (i : Nat) (o3 o4 o5 o6 o7 o8 : Option D) (h : HD), (∀ r ∈ ys, ∃ zs, r = .tup zs) → KnA a N30 h ys → (rowBad nw wo (rs.length : Nat) i ys = none → ∀ ρ h', Ex h h' → Z.nx ρ h') →
    (∀ p, rowBad nw wo (rs.length : Nat) i ys = some p → ∀ h', Ex h h' → xPart K E p h') →
    cLoop (fun _ => True) (cGTup 2 (cGCons (cName 3) (cGCons (cName 4) cGNil))) (b_check_rows_1 P w K fun _ => E) Z (enF i ys) [some (.int nw), some (.int wo), some (.tup rs), o3, o4, o5, o6, o7, o8] h
  | [], i, o3, o4, o5, o6, o7, o8, h, _, _, q1, _ => ⟨trivial, q1 rfl _ h (.refl h)⟩
  | y :: ys, i, o3, o4, o5, o6, o7, o8, h, ht, hk, q1, q2 => by
    refine ⟨trivial, rfl, rfl, ?_⟩
    obtain ⟨zs, rfl⟩ := ht y List.mem_cons_self
    have e1 : rowBad nw wo (rs.length : Nat) i (.tup zs :: ys) = (match questBad nw wo (rs.length : Nat) i 0 zs with
      | some p => some p
      | none => rowBad nw wo (rs.length : Nat) (i + 1) ys) := rfl
    rw [e1] at q1 q2
    refine cr2 (a := a) zs 0 o5 o6 o7 o8 h hk.1 (fun e o5 o6 o7 o8 h' x' => ?_) fun p e h' x' => ?_
    · rw [e] at q1 q2
      exact cr1 ys (i + 1) _ _ o5 o6 o7 o8 h' (fun r hr => ht r (List.mem_cons_of_mem _ hr)) (KnA.ex x'.b hk.2) (fun e2 ρ h2 x2 => q1 e2 ρ h2 (x'.trans x2)) fun p e2 h2 x2 => q2 p e2 h2 (x'.trans x2)
    · rw [e] at q2
      exact q2 p rfl h' x'
theorem p_check_rows (ds : List D) (h : HD) (Q : DK) (E : XD) (hs : sp_check_rows K ds h Q E) : t_check_rows P w K (fun _ => E) { nx := fun _ h' => Q .non h', rt := Q } (startD N_check_rows ds) h := by
  obtain ⟨a, nw, wo, rs, rfl, c, hk, q⟩ := hs
  refine cr1 (a := a) rs 0 none none none none none none h (fun r hr => ?_) hk (fun e ρ h' x => ?_) fun p e h' x => ?_
  · obtain ⟨ys, e, _⟩ := rows_tup c r hr
    exact ⟨ys, e⟩
  · have := q h' x
    rw [e] at this
    exact this
  · have := q h' x
    rw [e] at this
    exact this
end
end PM

-- PmL
set_option Elab.async false
set_option linter.all false
set_option maxRecDepth 100000
set_option maxHeartbeats 4000000
/-! PmL: the plain laws of the class and of the try. -/
namespace PM
open PySem PySem.Spec PyProof.Rows L2 PD
section
variable {P : Program} {w : World} {K : PySem.W.Frag} {W : En → XD} {h : HD} {Q : DK} {Z : DE} {E : XD}
theorem due_w {nw wo rows : D} (c : inW nw 1 5 = false) : due nw wo rows = some (.tup [.str "worlds"]) := by
  cases nw with
  | int n => cases wo <;> exact if_neg (by rw [c]; decide)
  | _ => cases wo <;> rfl
theorem due_o {nw wo rows : D} (c : inW nw 1 5 = true) (c2 : inW wo 1 6 = false) : due nw wo rows = some (.tup [.str "words"]) := by
  obtain ⟨n, rfl, _⟩ := inW_int c
  cases wo with
  | int m => exact (if_pos c).trans (if_neg (by rw [c2]; decide))
  | _ => exact if_pos c
theorem due_r {nw wo rows : D} (c : inW nw 1 5 = true) (c2 : inW wo 1 6 = true) (c3 : areRows rows = false) : due nw wo rows = some (.tup [.str "rows"]) := by
  obtain ⟨n, rfl, _⟩ := inW_int c
  obtain ⟨m, rfl, _⟩ := inW_int c2
  exact (if_pos c).trans ((if_pos c2).trans (if_neg (by rw [c3]; decide)))
theorem due_k {n m : Int} {rs : List D} (c : inW (.int n) 1 5 = true) (c2 : inW (.int m) 1 6 = true) (c3 : areRows (.tup rs) = true) : due (.int n) (.int m) (.tup rs) = rowBad n m rs.length 0 rs :=
  (if_pos c).trans ((if_pos c2).trans (if_pos c3))
theorem rows_is {x : D} (c : areRows x = true) : ∃ rs, x = .tup rs := by
  cases x with
  | tup rs => exact ⟨rs, rfl⟩
  | _ => cases c
theorem p_Machine_init (hC : Cls K (He.ga K "Machine")) (h1 : NoAttr K (He.ga K "Machine") "worlds") (h2 : NoAttr K (He.ga K "Machine") "words") (h3 : NoAttr K (He.ga K "Machine") "rows")
    (ds : List D) (h : HD) (Q : DK) (E : XD) (hs : sp_Machine_init K ds h Q E) : t_Machine_init P w K (fun _ => E) { nx := fun _ h' => Q .non h', rt := Q } (startD N_Machine_init ds) h := by
  obtain ⟨a, x, C, dx, nw, wo, rows, rfl, rfl, hx, k1, k2, k3, q⟩ := hs
  obtain ⟨z1, kz1⟩ := k1.kd
  obtain ⟨z2, kz2⟩ := k2.kd
  refine ⟨nw, 1, 5, z1, rfl, kz1, ifB (c := !inW nw 1 5) (fun c => ?_) (fun c => ?_)⟩
  · have c' : inW nw 1 5 = false := by simpa using c
    have := q h (.refl x h)
    rw [due_w c'] at this
    exact ⟨by show 1 ≤ sizeLine; decide, this hx⟩
  have c1 : inW nw 1 5 = true := by simpa using c
  refine ⟨wo, 1, 6, z2, rfl, kz2, ifB (c := !inW wo 1 6) (fun c => ?_) (fun c => ?_)⟩
  · have c' : inW wo 1 6 = false := by simpa using c
    have := q h (.refl x h)
    rw [due_o c1 c'] at this
    exact ⟨by show 1 ≤ sizeLine; decide, this hx⟩
  have c2 : inW wo 1 6 = true := by simpa using c
  refine ⟨a, rows, rfl, k3, fun h' x1 => ifB (c := !areRows rows) (fun c => ?_) (fun c => ?_)⟩
  · have c' : areRows rows = false := by simpa using c
    have := q h' x1.b
    rw [due_r c1 c2 c'] at this
    exact ⟨by show 1 ≤ sizeLine; decide, this (x1 _ _ hx)⟩
  have c3 : areRows rows = true := by simpa using c
  obtain ⟨rs, rfl⟩ := rows_is c3
  obtain ⟨n, rfl, _⟩ := inW_int c1
  obtain ⟨m, rfl, _⟩ := inW_int c2
  refine ⟨a, n, m, rs, rfl, c3, Kn.ex x1.b k3, fun h2' x2 => ?_⟩
  have x12 := x1.trans x2
  have hx2 := x12 _ _ hx
  have dk := due_k (n := n) (m := m) c1 c2 c3
  cases hb : rowBad n m rs.length 0 rs with
  | some p =>
    have := q h2' x12.b
    rw [dk, hb] at this
    exact this hx2
  | none =>
    refine ⟨_, dx, [], hx2, hC, h1, by decide, ?_⟩
    refine ⟨_, dx, [("worlds", .int n)], updD_same, hC, h2, by show 1 < 1000; decide, ?_⟩
    refine ⟨_, dx, [("worlds", .int n), ("words", .int m)], updD_same, hC, h3, by show 2 < 1000; decide, ?_⟩
    have := q _ ((x12.b.trans (ExB.setN hx2 (fun _ z => by cases z) (a := x) (o := .ins (He.ga K "Machine") dx [("worlds", .int n)]))).trans ((ExB.setN updD_same (fun _ z => by cases z) (a := x) (o := .ins (He.ga K "Machine") dx [("worlds", .int n), ("words", .int m)])).trans (ExB.setN updD_same (fun _ z => by cases z) (a := x) (o := .ins (He.ga K "Machine") dx (fldsM (.int n) (.int m) (.tup rs))))))
    rw [dk, hb] at this
    exact this updD_same
theorem isM_fld {h : HD} {x : Addr} {nw wo rows : D} (hC : Cls K (He.ga K "Machine")) (h1 : NoAttr K (He.ga K "Machine") "worlds") (h2 : NoAttr K (He.ga K "Machine") "words") (h3 : NoAttr K (He.ga K "Machine") "rows") (m : isM K h x nw wo rows) {t : CE} {ρ : En} (ht : ∀ k : DK, k (.ref x) h → t ρ h k) (Q : DK) (q : Q (.tup [nw, wo, rows]) h) :
    cTup (cCons (cFld K t "worlds") (cCons (cFld K t "words") (cCons (cFld K t "rows") cNil))) ρ h Q := by
  obtain ⟨dx, e⟩ := m
  refine ht _ ⟨_, dx, _, _, e, hC, h1, rfl, ?_⟩
  refine ht _ ⟨_, dx, _, _, e, hC, h2, rfl, ?_⟩
  exact ht _ ⟨_, dx, _, _, e, hC, h3, rfl, by show 3 ≤ sizeLine; decide, q⟩
theorem p_Machine_eq (hC : Cls K (He.ga K "Machine")) (h1 : NoAttr K (He.ga K "Machine") "worlds") (h2 : NoAttr K (He.ga K "Machine") "words") (h3 : NoAttr K (He.ga K "Machine") "rows") (hI : IsiC K (He.ga K "Machine")) (hk : PySem.W.kitOne K (.ref (He.ga K "Machine")) (.ref (He.ga K "Machine")) = some true)
    (hk2 : ∀ z : Kd, z = .int ∨ z = .tup → PySem.W.kitOne K (.type z.name) (.ref (He.ga K "Machine")) = some false)
    (ds : List D) (h : HD) (Q : DK) (E : XD) (hs : sp_Machine_eq K ds h Q E) : t_Machine_eq P w K (fun _ => noX) { nx := fun _ h' => Q .non h', rt := Q } (startD N_Machine_eq ds) h := by
  rcases hs with ⟨x, y, nw, wo, rows, nw', wo', rows', rfl, m, m', s, s', q⟩ | ⟨x, y, z, nw, wo, rows, rfl, m, hz, zk, q⟩
  · obtain ⟨dy, ey⟩ := id m'
    refine .inr ⟨y, _, dy, _, true, rfl, ey, hI, hk, ifF (c := !true) rfl ?_⟩
    show cOp cEq (cTup (cCons (cFld K (cVar 0) "worlds") (cCons (cFld K (cVar 0) "words") (cCons (cFld K (cVar 0) "rows") cNil)))) (cTup (cCons (cFld K (cVar 1) "worlds") (cCons (cFld K (cVar 1) "words") (cCons (cFld K (cVar 1) "rows") cNil)))) [some (.ref x), some (.ref y)] h Q
    unfold cOp
    refine isM_fld hC h1 h2 h3 m (t := cVar 0) (ρ := [some (.ref x), some (.ref y)]) (fun k kk => kk) _ ?_
    refine isM_fld hC h1 h2 h3 m' (t := cVar 1) (ρ := [some (.ref x), some (.ref y)]) (fun k kk => kk) _ ?_
    exact ⟨s, s', q⟩
  · exact .inl ⟨z, false, hz, hk2 z zk, ifT (c := !false) rfl q⟩
end
end PM

-- PmO
set_option Elab.async false
set_option linter.all false
set_option maxRecDepth 100000
set_option maxHeartbeats 4000000
/-! PmO: small things that the plain laws lean on. -/
namespace PM
open PySem PySem.Spec PyProof.Rows L2 PD
section
variable {P : Program} {w : World} {K : PySem.W.Frag} {W : En → XD} {h : HD} {Q : DK} {Z : DE} {E : XD}

def rgF : Nat → Nat → List D
  | _, 0 => []
  | i, n + 1 => .int (i : Nat) :: rgF (i + 1) n

theorem rgF_eq : ∀ n i : Nat, (List.range' i n).map (fun j => D.int (j : Nat)) = rgF i n
  | 0, _ => rfl
  | n + 1, i => by rw [List.range'_succ, List.map_cons, rgF_eq n (i + 1)]; rfl

theorem rgD_eq (n : Nat) : rgD 0 n = rgF 0 n := by
  unfold rgD
  rw [← rgF_eq n 0, List.range_eq_range']
  exact List.map_congr_left fun j _ => by rw [Int.zero_add]

theorem drop_get {xs : List D} {i n : Nat} (e : i + (n + 1) = xs.length) : ∃ x, xs[i]? = some x ∧ xs.drop i = x :: xs.drop (i + 1) ∧ atI xs (i : Nat) = some x := by
  have hi : i < xs.length := by omega
  exact ⟨xs[i], List.getElem?_eq_getElem hi, List.drop_eq_getElem_cons hi, atI_nat (List.getElem?_eq_getElem hi)⟩

theorem ne_fresh {h : HD} {a p : Addr} (ha : h a ≠ none) (np : h p = none) : p ≠ a := fun z => ha (z ▸ np)

theorem Kn.fresh {a p : Addr} {N : Int} {h : HD} (np : h p = none) (ha : h a ≠ none) (xs : List D) : Kn a N (updD h p (.lst xs)) (.ref p) := ⟨ne_fresh ha np, .inl ⟨xs, updD_same⟩⟩

theorem upd_some {h : HD} {a p : Addr} {o : OB} (np : h p = none) (ha : h a ≠ none) : updD h p o a ≠ none := by
  rw [updD_ne (Ne.symm (ne_fresh ha np))]; exact ha

theorem ExB.hand {a : Addr} {b : Nat} {h h' : HD} (H : Hand h a b) (x : Ex h h') : Hand h' a b := H.ex x

theorem draw_ok {a : Addr} {b : Nat} {m : Int} {h : HD} {Q : DK} (H : Hand h a b) (hb : b ≤ 10 ^ 15) (m0 : 0 < m) (m1 : m < 1000) (q : ∀ h' i, ExB a h h' → Hand h' a (b + 1) → 0 ≤ i → i < m → Q (.int i) h') : sp_l_draw [.ref a, .int m] h Q noX :=
  ⟨a, b, m, rfl, H, hb, m0, by
    have := few_small (i := m) (by omega) 10 (by have := p10; omega) (by decide)
    omega, q⟩

theorem any_lst {a p : Addr} {b : Nat} {xs : List D} {h : HD} {Q : DK} (H : Hand h a b) (hb : b ≤ 10 ^ 15) (np : h p = none) (ne : xs ≠ []) (hl : xs.length ≤ 1000) (q : ∀ h' y, ExB a h h' → Hand h' a (b + 1) → y ∈ xs → Q y h') : sp_l_any [.ref a, .ref p] (updD h p (.lst xs)) Q noX := by
  have x1 : Ex h (updD h p (.lst xs)) := .new np
  exact ⟨a, b, .ref p, xs, rfl, H.ex x1, hb, ne, hl, .inr ⟨p, rfl, ne_fresh H.ne np, updD_same⟩, fun h' y x2 H2 hy => q h' y (x1.b.trans x2) H2 hy⟩

theorem rgF_len : ∀ n i : Nat, (rgF i n).length = n
  | 0, _ => rfl
  | n + 1, i => by show (rgF (i + 1) n).length + 1 = n + 1; rw [rgF_len n]

theorem rgF_mem {x : D} : ∀ {n i : Nat}, x ∈ rgF i n → ∃ j : Nat, x = .int (j : Nat) ∧ i ≤ j ∧ j < i + n
  | 0, _, h => by cases h
  | n + 1, i, h => by
    rcases List.mem_cons.mp h with rfl | h
    · exact ⟨i, rfl, by omega, by omega⟩
    · obtain ⟨j, e, a, b⟩ := rgF_mem h
      exact ⟨j, e, by omega, by omega⟩

theorem put_len {kvs : List (D × D)} {y z : D} : (putK' kvs y z).length ≤ kvs.length + 1 ∧ putK' kvs y z ≠ [] := by
  unfold putK'
  split
  · rename_i e
    refine ⟨by simp, fun z => ?_⟩
    have : kvs = [] := by simpa using z
    rw [this] at e
    cases e
  · exact ⟨by simp, by simp⟩

theorem valD_mem {kvs : List (D × D)} {y d : D} (e : valD kvs y = some d) : ∃ p ∈ kvs, p.2 = d := by
  unfold valD at e
  cases q : kvs.find? fun p => keq p.1 y with
  | none => rw [q] at e; cases e
  | some p =>
    rw [q] at e
    exact ⟨p, List.mem_of_find?_eq_some q, by simpa using e⟩

theorem sum_bd : ∀ (ns : List Int) (M : Int), (∀ x ∈ ns, 1 ≤ x ∧ x ≤ M) → (ns.length : Int) ≤ ns.sum ∧ ns.sum ≤ M * (ns.length : Int)
  | [], M, _ => by simp
  | x :: xs, M, h => by
    have ih := sum_bd xs M fun y hy => h y (List.mem_cons_of_mem _ hy)
    have hx := h x List.mem_cons_self
    rw [List.sum_cons, List.length_cons]
    push_cast
    rw [Int.mul_add]
    omega

theorem red_bd {v b M : Int} (v0 : 0 ≤ v) (v1 : v ≤ M) (b0 : 0 ≤ b) (b1 : b ≤ M) : 0 ≤ (redI v b).1 ∧ (redI v b).1 ≤ M ∧ 0 ≤ (redI v b).2 ∧ (redI v b).2 ≤ M := by
  have g0 : 0 ≤ gcdI v b := Int.natCast_nonneg _
  have q1 := Int.ediv_le_self (gcdI v b) v0
  have q2 := Int.ediv_le_self (gcdI v b) b0
  exact ⟨Int.ediv_nonneg v0 g0, by show v / gcdI v b ≤ M; omega, Int.ediv_nonneg b0 g0, by show b / gcdI v b ≤ M; omega⟩

theorem _root_.PD.ExB.upd {a p : Addr} {h h' : HD} {o : OB} (np : h p = none) (x : ExB a h h') : ExB a h (updD h' p o) := ⟨fun b u n e => by
  rw [updD_ne (fun z => by rw [z, np] at e; cases e)]; exact x b u n e, fun d ds e => by
  rw [updD_ne (fun z => by rw [z, np] at e; cases e)]; exact x.head d ds e⟩

/-- a thing that did not stand when the hand did is not of the hand -/
theorem _root_.PD.Hand.put {a p : Addr} {b b' : Nat} {h h' : HD} {o : OB} (H : Hand h a b) (np : h p = none) (x : ExB a h h') (H' : Hand h' a b') : Hand (updD h' p o) a b' := by
  obtain ⟨c, ns, i, g, st, n, e1, e2, r⟩ := H
  obtain ⟨c', ns', i', g', st', n', e1', e2', r'⟩ := H'
  obtain ⟨ds, e3⟩ := x.head _ _ e1
  have : c' = c := by
    have z := e1'.symm.trans e3
    cases z
    rfl
  subst this
  refine ⟨c', ns', i', g', st', n', ?_, ?_, r'⟩
  · rw [updD_ne (fun z => by rw [z, np] at e1; cases e1)]; exact e1'
  · rw [updD_ne (fun z => by rw [z, np] at e2; cases e2)]; exact e2'

theorem _root_.PD.Hand.upd {a p : Addr} {b : Nat} {h : HD} {o : OB} (H : Hand h a b) (ho : ∀ xs, h p ≠ some (.lst xs)) : Hand (updD h p o) a b := by
  obtain ⟨c, ns, i, g, st, n, e1, e2, r⟩ := H
  refine ⟨c, ns, i, g, st, n, ?_, ?_, r⟩
  · rw [updD_ne (fun z => ho _ (z ▸ e1))]; exact e1
  · rw [updD_ne (fun z => ho _ (z ▸ e2))]; exact e2

theorem _root_.PD.isDN.nl {P : Program} {w : World} {h : HD} {p : Addr} {kvs : List (D × D)} (e : isDN P w h p kvs) : ∀ xs, h p ≠ some (.lst xs) := by
  intro xs
  rcases e with e | ⟨o, ys, e⟩ <;> rw [e] <;> simp

theorem _root_.PD.isDN.exb {P : Program} {w : World} {h h' : HD} {a p : Addr} {kvs : List (D × D)} (e : isDN P w h p kvs) (n : p ≠ a) (x : ExB a h h') : isDN P w h' p kvs := by
  rcases e with e | ⟨o, ys, e⟩
  · exact .inl (x p _ n e)
  · exact .inr ⟨o, ys, x p _ n e⟩

theorem sIx_nat (n d i : Nat) : HT.sIx n d (some ((i : Nat) : Int)) = min i n := by
  unfold HT.sIx
  simp
  try omega

theorem cut_lo (xs : List D) (i : Nat) : PD.cutD xs none (some ((i : Nat) : Int)) = xs.take i := by
  unfold PD.cutD
  rw [sIx_nat, show HT.sIx xs.length 0 none = 0 from rfl, List.drop_zero, Nat.sub_zero]
  by_cases c : i ≤ xs.length
  · rw [Nat.min_eq_left c]
  · rw [Nat.min_eq_right (by omega), List.take_length, List.take_of_length_le (by omega)]

theorem cut_hi (xs : List D) (i : Nat) : PD.cutD xs (some ((i : Nat) : Int)) none = xs.drop i := by
  unfold PD.cutD
  rw [sIx_nat, show HT.sIx xs.length xs.length none = xs.length from rfl]
  by_cases c : i ≤ xs.length
  · rw [Nat.min_eq_left c, List.take_of_length_le (by rw [List.length_drop]; omega)]
  · rw [Nat.min_eq_right (by omega), List.drop_length, List.take_nil, List.drop_eq_nil_of_le (by omega)]

theorem getD_get {xs : List D} {i : Nat} (hi : i < xs.length) : xs.getD i .non = xs[i] := by
  simp [List.getD, List.getElem?_eq_getElem hi]

theorem KnA.app {a : Addr} {N : Int} {h : HD} {xs ys : List D} (k : KnA a N h xs) (l : KnA a N h ys) : KnA a N h (xs ++ ys) := KnA.all.mpr fun x hx => by
  rcases List.mem_append.mp hx with hx | hx
  · exact KnA.all.mp k x hx
  · exact KnA.all.mp l x hx

theorem KnA.rep {a : Addr} {N : Int} {h : HD} {xs : List D} {n : Nat} (k : KnA a N h xs) : KnA a N h (List.replicate n xs).flatten := KnA.all.mpr fun x hx => by
  obtain ⟨l, hl, hx⟩ := List.mem_flatten.mp hx
  rw [(List.mem_replicate.mp hl).2] at hx
  exact KnA.all.mp k x hx

mutual
/-- a list was changed -/
theorem Kn.upd {a p : Addr} {N : Int} {h : HD} {ys zs : List D} (e : h p = some (.lst ys)) : ∀ {d : D}, Kn a N h d → Kn a N (updD h p (.lst zs)) d
  | .non, _ => trivial
  | .bl _, _ => trivial
  | .int _, k => k
  | .str _, _ => trivial
  | .tup xs, k => KnA.upd e (xs := xs) k
  | .fl _, _ => trivial
  | .ref b, k => by
    obtain ⟨n, q⟩ := k
    by_cases z : b = p
    · rw [z] at n ⊢
      exact ⟨n, .inl ⟨zs, updD_same⟩⟩
    · exact ⟨n, by rw [updD_ne z]; exact q⟩
  | .ty _, k => k
theorem KnA.upd {a p : Addr} {N : Int} {h : HD} {ys zs : List D} (e : h p = some (.lst ys)) : ∀ {xs : List D}, KnA a N h xs → KnA a N (updD h p (.lst zs)) xs
  | [], _ => trivial
  | d :: xs, k => ⟨Kn.upd e k.1, KnA.upd e k.2⟩
end

theorem lz {n : Nat} (h : Nat.ble n 1000 = true) : n ≤ sizeLine := Nat.le_trans (Nat.le_of_ble_eq_true h) (by decide)

theorem any_kn {a p : Addr} {b : Nat} {N : Int} {xs : List D} {h : HD} {Q : DK} (H : Hand h a b) (hb : b ≤ 10 ^ 15) (np : h p = none) (ne : xs ≠ []) (hl : xs.length ≤ 1000) (k : KnA a N h xs) (q : ∀ h' y, ExB a h h' → Hand h' a (b + 1) → Kn a N h' y → Q y h') : sp_l_any [.ref a, .ref p] (updD h p (.lst xs)) Q noX :=
  any_lst H hb np ne hl fun h' y x H' hy => q h' y x H' (Kn.ex x (KnA.all.mp k y hy))

theorem rep1 {x : D} {n : Nat} : (List.replicate n [x]).flatten = List.replicate n x := List.flatten_replicate_singleton

theorem KnA.cut {a : Addr} {N : Int} {h : HD} {xs : List D} {lo hi : Option Int} (k : KnA a N h xs) : KnA a N h (PD.cutD xs lo hi) := KnA.all.mpr fun x hx => KnA.all.mp k x (List.mem_of_mem_drop (List.mem_of_mem_take hx))

theorem cut_len {xs : List D} {lo hi : Option Int} : (PD.cutD xs lo hi).length ≤ xs.length := by
  unfold PD.cutD
  rw [List.length_take, List.length_drop]
  omega

theorem KnA.repl {a : Addr} {N : Int} {h : HD} {x : D} {n : Nat} (k : Kn a N h x) : KnA a N h (List.replicate n x) := KnA.all.mpr fun y hy => by
  rw [(List.mem_replicate.mp hy).2]; exact k

theorem getD_rep {x : D} {n i : Nat} (h : i < n) : (List.replicate n x).getD i .non = x := by
  rw [getD_get (by rw [List.length_replicate]; exact h), List.getElem_replicate]

theorem lg {m : Int} (h0 : 0 ≤ m) (h1 : m ≤ 100) : m.natAbs.log2 < 9000 := by
  have := few_small (i := m) h0 10 (by have := p10; omega) (by decide)
  omega

theorem red_iff {p q : Int} (hp : 0 < p) (hq : 0 < q) : redI p q = (p, q) ↔ gcdI p q = 1 := by
  have g0 := gcdI_pos (t := p) hq
  constructor
  · intro e
    have e1 : p / gcdI p q = p := congrArg Prod.fst e
    have e2 : gcdI p q * (p / gcdI p q) ≤ p := Int.mul_ediv_self_le (by omega)
    rw [e1] at e2
    have : gcdI p q ≤ 1 := Int.le_of_mul_le_mul_right (by omega) hp
    omega
  · intro e
    unfold redI
    rw [e, Int.ediv_one, Int.ediv_one]

theorem rgD_len (n : Nat) : (rgD 0 n).length = n := by rw [rgD_eq, rgF_len]

theorem nat_get {xs : List D} {j : Int} (h0 : 0 ≤ j) (h1 : j < (xs.length : Int)) : ∃ (i : Nat) (x : D), j = (i : Nat) ∧ i < xs.length ∧ x ∈ xs ∧ xs.getD i .non = x ∧ atI xs (i : Nat) = some x := by
  obtain ⟨i, rfl⟩ := Int.eq_ofNat_of_zero_le h0
  have hi : i < xs.length := by omega
  exact ⟨i, xs[i], rfl, hi, List.getElem_mem hi, getD_get hi, atI_nat (List.getElem?_eq_getElem hi)⟩

end
end PM

-- PmP
set_option Elab.async false
set_option linter.all false
set_option maxRecDepth 100000
set_option maxHeartbeats 4000000
/-! PmP: the drawing of the steps of a row, as they should be. -/
namespace PM
open PySem PySem.Spec PyProof.Rows L2 PD
/-- a word and a standing -/
def kp (wo st : Int) (x : D) : Prop := ∃ i j : Int, x = .tup [.int i, .int j] ∧ 0 ≤ i ∧ i < wo ∧ 0 ≤ j ∧ j < st
theorem kp.ky {wo st : Int} {x : D} (k : kp wo st x) : kyT x = true ∧ (nk x).depth ≤ 8 := by
  obtain ⟨i, j, rfl, _⟩ := k
  exact ⟨rfl, by show (NestedKey.tup [.num i, .num j]).depth ≤ 8; simp [NestedKey.depth, NestedKey.depthAll]⟩
def vI : D → Int
  | .int i => i
  | _ => 0
/-- counts by pairs, no pair twice -/
structure KV (wo st : Int) (kvs : List (D × D)) : Prop where
  all : ∀ p ∈ kvs, kp wo st p.1 ∧ ∃ v : Int, p.2 = .int v ∧ 1 ≤ v
  nod : (kvs.map fun p => nk p.1).Nodup
def sV (kvs : List (D × D)) : Int := (kvs.map fun p => vI p.2).sum
theorem keq_self (x : D) : keq x x = true := keq_iff.mpr rfl
/-- what stands there counts one more -/
theorem sV_more (y : D) : ∀ (kvs : List (D × D)), (kvs.map fun p => nk p.1).Nodup → ∀ v : Int, (kvs.any fun p => keq p.1 y) = true → valD kvs y = some (.int v) → sV (kvs.map fun p => if keq p.1 y = true then (p.1, D.int (v + 1)) else p) = sV kvs + 1
  | [], _, _, e, _ => by cases e
  | p :: kvs, nd, v, e, ev => by
    rw [List.map_cons, List.nodup_cons] at nd
    cases q : keq p.1 y with
    | true =>
      have ev' : (some p).map (·.2) = some (D.int v) := by
        have : valD (p :: kvs) y = ((p :: kvs).find? fun z => keq z.1 y).map (·.2) := rfl
        rw [List.find?_cons, q] at this
        rw [← this]; exact ev
      have pv : p.2 = .int v := by simpa using ev'
      have rest : (kvs.map fun z => if keq z.1 y = true then (z.1, D.int (v + 1)) else z) = kvs := by
        conv => rhs; rw [← List.map_id kvs]
        refine List.map_congr_left fun z hz => ?_
        have : ¬ keq z.1 y = true := fun w => nd.1 (List.mem_map.mpr ⟨z, hz, by rw [keq_iff.mp w, keq_iff.mp q]⟩)
        rw [if_neg this]; rfl
      rw [List.map_cons, rest, if_pos q]
      show vI (.int (v + 1)) + (kvs.map fun p => vI p.2).sum = vI p.2 + (kvs.map fun p => vI p.2).sum + 1
      rw [pv]
      show v + 1 + _ = v + _ + 1
      omega
    | false =>
      have e' : (kvs.any fun p => keq p.1 y) = true := by
        rw [List.any_cons, q, Bool.false_or] at e; exact e
      have ev' : valD kvs y = some (.int v) := by
        have : valD (p :: kvs) y = ((p :: kvs).find? fun z => keq z.1 y).map (·.2) := rfl
        rw [List.find?_cons, q] at this
        rw [this] at ev; exact ev
      have ih := sV_more y kvs nd.2 v e' ev'
      rw [List.map_cons, if_neg (by rw [q]; decide)]
      show vI p.2 + sV _ = vI p.2 + sV kvs + 1
      rw [ih]; omega
theorem KV.put {wo st : Int} {kvs : List (D × D)} {y : D} (k : KV wo st kvs) (hy : kp wo st y) : ∃ v : Int, (valD kvs y).getD (.int 0) = .int v ∧ 0 ≤ v ∧ KV wo st (putK' kvs y (.int (v + 1))) ∧ sV (putK' kvs y (.int (v + 1))) = sV kvs + 1 := by
  cases c : kvs.any fun p => keq p.1 y with
  | true =>
    cases e : valD kvs y with
    | none =>
      unfold valD at e
      have e2 : (kvs.find? fun q => keq q.1 y) = none := by simpa using e
      obtain ⟨p, hp, hk⟩ := List.any_eq_true.mp c
      exact absurd hk (by have := List.find?_eq_none.mp e2 p hp; simpa using this)
    | some d =>
      obtain ⟨q, hq, rfl⟩ := valD_mem e
      obtain ⟨_, v, e2, a⟩ := k.all q hq
      rw [e2] at e
      refine ⟨v, by rw [e2]; rfl, by omega, ?_, ?_⟩
      · unfold putK'
        rw [if_pos c]
        refine ⟨fun p hp => ?_, ?_⟩
        · obtain ⟨r, hr, rfl⟩ := List.mem_map.mp hp
          split
          · exact ⟨(k.all r hr).1, v + 1, rfl, by omega⟩
          · exact k.all r hr
        · rw [List.map_map]
          have : (kvs.map ((fun p : D × D => nk p.1) ∘ fun p => if keq p.1 y = true then (p.1, D.int (v + 1)) else p)) = kvs.map fun p => nk p.1 := List.map_congr_left fun p _ => by
            show nk (if keq p.1 y = true then (p.1, D.int (v + 1)) else p).1 = nk p.1
            split <;> rfl
          rw [this]; exact k.nod
      · unfold putK'
        rw [if_pos c]
        exact sV_more y kvs k.nod v c e
  | false =>
    have no : valD kvs y = none := by
      unfold valD
      have : (kvs.find? fun q => keq q.1 y) = none := List.find?_eq_none.mpr fun p hp z => by
        have : (kvs.any fun p => keq p.1 y) = true := List.any_eq_true.mpr ⟨p, hp, z⟩
        rw [c] at this; cases this
      rw [this]; rfl
    refine ⟨0, by rw [no]; rfl, Int.le_refl _, ?_, ?_⟩
    · unfold putK'
      rw [if_neg (by rw [c]; decide)]
      refine ⟨fun p hp => ?_, ?_⟩
      · rcases List.mem_append.mp hp with hp | hp
        · exact k.all p hp
        · rw [List.mem_singleton] at hp
          subst hp
          exact ⟨hy, 1, rfl, Int.le_refl _⟩
      · rw [List.map_append, List.nodup_append]
        refine ⟨k.nod, by simp, fun z hz z' hz' e => ?_⟩
        obtain ⟨p, hp, rfl⟩ := List.mem_map.mp hz
        have hz' : z' = nk y := by simpa using hz'
        have : (kvs.any fun p => keq p.1 y) = true := List.any_eq_true.mpr ⟨p, hp, keq_iff.mpr (by rw [e, hz'])⟩
        rw [c] at this; cases this
    · unfold putK'
      rw [if_neg (by rw [c]; decide)]
      show ((kvs ++ [(y, D.int (0 + 1))]).map fun p => vI p.2).sum = sV kvs + 1
      rw [List.map_append, List.sum_append]
      show sV kvs + (vI (.int (0 + 1)) + 0) = _
      show sV kvs + (0 + 1 + 0) = _
      omega
def vN (kvs : List (D × D)) (x : D) : Int := match valD kvs x with
  | some (.int i) => i
  | _ => 0
/-- each pair's own count is found -/
theorem val_own : ∀ {kvs : List (D × D)}, (kvs.map fun p => nk p.1).Nodup → ∀ p ∈ kvs, valD kvs p.1 = some p.2
  | [], _, p, hp => by cases hp
  | q :: kvs, nd, p, hp => by
    rw [List.map_cons, List.nodup_cons] at nd
    have un : valD (q :: kvs) p.1 = ((q :: kvs).find? fun z => keq z.1 p.1).map (·.2) := rfl
    rcases List.mem_cons.mp hp with rfl | hp
    · rw [un, List.find?_cons, keq_self]; rfl
    · have : keq q.1 p.1 = false := by
        cases z : keq q.1 p.1 with
        | false => rfl
        | true => exact absurd (List.mem_map.mpr ⟨p, hp, (keq_iff.mp z).symm⟩) nd.1
      rw [un, List.find?_cons, this]
      exact val_own nd.2 p hp
theorem KV.at {wo st : Int} {kvs : List (D × D)} {x : D} (k : KV wo st kvs) (hx : x ∈ kvs.map (·.1)) : kp wo st x ∧ valD kvs x = some (.int (vN kvs x)) ∧ 1 ≤ vN kvs x := by
  obtain ⟨p, hp, rfl⟩ := List.mem_map.mp hx
  obtain ⟨a, v, e, l⟩ := k.all p hp
  have o := val_own k.nod p hp
  rw [e] at o
  have ev : vN kvs p.1 = v := by unfold vN; rw [o]
  rw [ev]
  exact ⟨a, o, l⟩
theorem KV.sum {wo st : Int} {kvs : List (D × D)} (k : KV wo st kvs) : ((kvs.map (·.1)).map (vN kvs)).sum = sV kvs := by
  unfold sV
  rw [List.map_map]
  congr 1
  refine List.map_congr_left fun p hp => ?_
  show vN kvs p.1 = vI p.2
  have o := val_own k.nod p hp
  obtain ⟨_, v, e, _⟩ := k.all p hp
  unfold vN
  rw [o, e]; rfl
theorem sum_pos : ∀ L : List Int, (∀ x ∈ L, 1 ≤ x) → L ≠ [] → 0 < L.sum
  | [], _, n => absurd rfl n
  | y :: L, h, _ => by
    have y1 := h y (List.mem_cons_self ..)
    rw [List.sum_cons]
    by_cases z : L = []
    · subst z; simp; omega
    · have := sum_pos L (fun x hx => h x (List.mem_cons_of_mem _ hx)) z
      omega
theorem nodup_of_map {α β : Type} (f : α → β) : ∀ {L : List α}, (L.map f).Nodup → L.Nodup
  | [], _ => List.nodup_nil
  | x :: L, h => by
    rw [List.map_cons, List.nodup_cons] at h
    exact List.nodup_cons.mpr ⟨fun hx => h.1 (List.mem_map.mpr ⟨x, hx, rfl⟩), nodup_of_map f h.2⟩
/-- the step of a pair -/
def stepD (kvs : List (D × D)) (V : Int) (x : D) : D := match x with
  | .tup [i, j] => .tup [i, prD2 (redI (vN kvs x) V), j]
  | _ => .non
theorem dvd60 {V : Int} (h0 : 0 < V) (h5 : V ≤ 6) : V ∣ 60 := by
  have : V = 1 ∨ V = 2 ∨ V = 3 ∨ V = 4 ∨ V = 5 ∨ V = 6 := by omega
  rcases this with rfl | rfl | rfl | rfl | rfl | rfl <;> decide
theorem red_dvd {t b : Int} (hb : 0 < b) : (redI t b).2 ∣ b := ⟨gcdI t b, (red_parts hb).2.1.symm⟩
theorem shOf_step {kvs : List (D × D)} {V : Int} {wo st : Int} {x : D} (k : kp wo st x) : shOf (stepD kvs V x) = redI (vN kvs x) V ∧ pairOf (stepD kvs V x) = pairOf (stepD kvs V x) := by
  obtain ⟨i, j, rfl, _⟩ := k
  exact ⟨rfl, rfl⟩
theorem pair_nodup {wo st : Int} {kvs : List (D × D)} (V : Int) (k : KV wo st kvs) : (((kvs.map (·.1)).map (stepD kvs V)).map pairOf).Nodup := by
  have f : ∀ p ∈ kvs, nk p.1 = .tup [.num (pairOf (stepD kvs V p.1)).1, .num (pairOf (stepD kvs V p.1)).2] := fun p hp => by
    obtain ⟨⟨i, j, e, _⟩, _⟩ := k.all p hp
    rw [e]; rfl
  have nd := k.nod
  rw [show (kvs.map fun p => nk p.1) = (kvs.map fun p => pairOf (stepD kvs V p.1)).map (fun q : Int × Int => NestedKey.tup [.num q.1, .num q.2]) by
    rw [List.map_map]; exact List.map_congr_left f] at nd
  have := nodup_of_map _ nd
  rw [List.map_map, List.map_map]
  exact this
/-- the steps that are made of counts -/
theorem steps_valid {wo st : Int} {kvs : List (D × D)} (k : KV wo st kvs) (ne : kvs ≠ []) (l : kvs.length ≤ 5) (s5 : sV kvs ≤ 5) : StepsV wo st (.tup ((kvs.map (·.1)).map (stepD kvs (sV kvs)))) := by
  have hne : (kvs.map (·.1)).map (vN kvs) ≠ [] := by simpa using ne
  have h1 : ∀ x ∈ (kvs.map (·.1)).map (vN kvs), 1 ≤ x := fun x hx => by
    obtain ⟨y, hy, rfl⟩ := List.mem_map.mp hx
    exact (k.at hy).2.2
  obtain ⟨so, sh⟩ := shares_one h1 hne
  rw [k.sum] at so sh
  have lp : 0 < kvs.length := List.length_pos_iff.mpr ne
  have pos : 0 < sV kvs := by
    rw [← k.sum]
    exact sum_pos _ h1 hne
  have ok : ∀ s ∈ (kvs.map (·.1)).map (stepD kvs (sV kvs)), isStep wo st s = true ∧ ShOk s := fun s hs => by
    obtain ⟨x, hx, rfl⟩ := List.mem_map.mp hs
    obtain ⟨⟨i, j, rfl, i0, i1, j0, j1⟩, _, v1⟩ := k.at hx
    have z := sh _ (List.mem_map.mpr ⟨_, hx, rfl⟩)
    obtain ⟨t, b, et, t0, tb⟩ := isSh_shape z
    have et : prD2 (redI (vN kvs (.tup [.int i, .int j])) (sV kvs)) = .tup [.int t, .int b] := et
    refine ⟨?_, i, t, b, j, by show D.tup [.int i, prD2 _, .int j] = _; rw [et], t0, tb, ?_⟩
    · show (inW (.int i) 0 (wo - 1) && (isSh (prD2 _) && inW (.int j) 0 (st - 1))) = true
      rw [z]
      show ((decide ((0 : Int) ≤ i) && decide (i ≤ wo - 1)) && (true && (decide ((0 : Int) ≤ j) && decide (j ≤ st - 1)))) = true
      rw [decide_eq_true i0, decide_eq_true j0, decide_eq_true (show i ≤ wo - 1 by omega), decide_eq_true (show j ≤ st - 1 by omega)]; rfl
    · have e2 : (redI (vN kvs (.tup [.int i, .int j])) (sV kvs)).2 = b := by
        injection et with et
        injection et with _ et
        injection et with et _
        injection et
      rw [← e2]
      exact Int.dvd_trans (red_dvd pos) (dvd60 pos (by omega))
  refine ⟨_, rfl, ?_, fun s hs => (ok s hs).2⟩
  show (szd (.tup ((kvs.map (·.1)).map (stepD kvs (sV kvs)))) 1 12 && ((kvs.map (·.1)).map (stepD kvs (sV kvs))).all (isStep wo st) && (decide ((((kvs.map (·.1)).map (stepD kvs (sV kvs))).map pairOf).Nodup) && decide (sumI (((kvs.map (·.1)).map (stepD kvs (sV kvs))).map shOf) = (1, 1)))) = true
  have e1 : szd (.tup ((kvs.map (·.1)).map (stepD kvs (sV kvs)))) 1 12 = true := by
    show (decide ((1 : Int) ≤ (((kvs.map (·.1)).map (stepD kvs (sV kvs))).length : Int)) && decide ((((kvs.map (·.1)).map (stepD kvs (sV kvs))).length : Int) ≤ 12)) = true
    have : (((kvs.map (·.1)).map (stepD kvs (sV kvs))).length) = kvs.length := by simp
    rw [this, decide_eq_true (by omega), decide_eq_true (by omega)]; rfl
  have e2 : ((kvs.map (·.1)).map (stepD kvs (sV kvs))).all (isStep wo st) = true := List.all_eq_true.mpr fun s hs => (ok s hs).1
  have e3 : (((kvs.map (·.1)).map (stepD kvs (sV kvs))).map shOf) = ((kvs.map (·.1)).map (vN kvs)).map fun x => redI x (sV kvs) := by
    simp only [List.map_map]
    exact List.map_congr_left fun x hx => (shOf_step (V := sV kvs) (k.at (List.mem_map.mpr ⟨x, hx, rfl⟩)).1).1
  rw [e1, e2, decide_eq_true (pair_nodup _ k), e3, so]; rfl
section
variable {P : Program} {w : World} {K : PySem.W.Frag} {W : En → XD} {h : HD} {Q : DK} {Z : DE} {E : XD}
theorem steps_pairs {a d : Addr} {wo st : Int} (s0 : 0 < st) (s6 : st ≤ 7) : ∀ (n i : Nat) (p : Addr) (xs : List D) (o3 : Option D) (h : HD), h a ≠ none → p ≠ a → h p = some (.lst xs) → (∀ x ∈ xs, kp wo st x) → xs.length ≤ 7 * i → i + n ≤ 7 → ((i + n : Nat) : Int) ≤ wo → (0 < n ∨ xs ≠ []) →
    (∀ p xs o3 h', Ex h h' → p ≠ a → h' p = some (.lst xs) → (∀ x ∈ xs, kp wo st x) → xs.length ≤ 49 → xs ≠ [] → Z.nx [some (.ref a), some (.int wo), some (.int st), o3, none, none, some (.ref p), some (.ref d), none, none] h') →
    cLoop (fun _ => True) (cName 3) (b_l_steps_1 P w K W) Z (rgF i n) [some (.ref a), some (.int wo), some (.int st), o3, none, none, some (.ref p), some (.ref d), none, none] h
  | 0, i, p, xs, o3, h, ha, np, e, k, l, b, bw, ne, q => ⟨trivial, q p xs o3 h (.refl h) np e k (by omega) (ne.elim (fun z => absurd z (Nat.lt_irrefl 0)) id)⟩
  | n + 1, i, p, xs, o3, h, ha, np, e, k, l, b, bw, ne, q => by
    have ln : (rgD 0 st.toNat).length ≤ sizeLine := by rw [rgD_eq, rgF_len, sizeLine_eq]; omega
    refine ⟨trivial, by omega, by omega, ln, map_loop (fun x => D.tup [.int (i : Nat), x]) trivial _ [] (fun x hx k kk => ⟨by show 2 ≤ sizeLine; decide, kk⟩) fun r nr => ?_⟩
    have x1 : Ex h (updD h r (.lst ([] ++ (rgD 0 st.toNat).map fun x => D.tup [.int (i : Nat), x]))) := .new nr
    have er : ([] ++ (rgD 0 st.toNat).map fun x => D.tup [.int (i : Nat), x]) = (rgF 0 st.toNat).map fun x => D.tup [.int (i : Nat), x] := by rw [rgD_eq, List.nil_append]
    have lr : ((rgF 0 st.toNat).map fun x => D.tup [.int (i : Nat), x]).length = st.toNat := by rw [List.length_map, rgF_len]
    rw [er] at x1
    rw [er]
    refine ⟨xs, _, x1 _ _ e, updD_same, by rw [lr, sizeLine_eq]; omega, fun s ns => ?_⟩
    have x2 := x1.new' (o := .lst (xs ++ (rgF 0 st.toNat).map fun x => D.tup [.int (i : Nat), x])) ns
    have hh : ∀ x ∈ xs ++ (rgF 0 st.toNat).map (fun x => D.tup [.int (i : Nat), x]), kp wo st x := fun x hx => by
      rcases List.mem_append.mp hx with hx | hx
      · exact k x hx
      · obtain ⟨y, hy, rfl⟩ := List.mem_map.mp hx
        obtain ⟨j, rfl, _, j2⟩ := rgF_mem hy
        exact ⟨_, _, rfl, by omega, by omega, by omega, by omega⟩
    refine steps_pairs s0 s6 n (i + 1) s _ _ _ (upd_some ns (upd_some nr ha)) (ne_fresh (upd_some nr ha) ns) updD_same hh (by rw [List.length_append, lr]; omega) (by omega) (by omega) (.inr fun z => ?_) fun p xs o3 h' x' => q p xs o3 h' (x2.trans x')
    have := congrArg List.length z
    rw [List.length_append, lr] at this
    simp at this
    omega
theorem steps_turns {a d p : Addr} {wo st : Int} {ps : List D} {o3 : Option D} (na : d ≠ a) (pa : p ≠ a) (pd : p ≠ d) (pk : ∀ x ∈ ps, kp wo st x) (pl : ps.length ≤ 49) (pn : ps ≠ []) : ∀ (n : Nat) (i b : Nat) (kvs : List (D × D)) (o4 o8 : Option D) (h : HD), Hand h a b → b + n ≤ 10 ^ 15 → h p = some (.lst ps) → isDN P w h d kvs → KV wo st kvs → sV kvs = (i : Nat) → kvs.length ≤ i → i + n ≤ 5 → (0 < n ∨ kvs ≠ []) →
    (∀ kvs o4 o8 h', (∀ g, g d = none → ExB a g h → ExB a g h') → Hand h' a (b + n) → isDN P w h' d kvs → KV wo st kvs → sV kvs ≤ 5 → kvs.length ≤ 5 → kvs ≠ [] → Z.nx [some (.ref a), some (.int wo), some (.int st), o3, o4, none, some (.ref p), some (.ref d), o8, none] h') →
    cLoop (fun _ => True) (cName 4) (b_l_steps_2 P w K W) Z (rgF i n) [some (.ref a), some (.int wo), some (.int st), o3, o4, none, some (.ref p), some (.ref d), o8, none] h
  | 0, i, b, kvs, o4, o8, h, H, hb, ep, ed, kv, sm, l, bd, ne, q => ⟨trivial, q kvs o4 o8 h (fun _ _ x => x) H ed kv (by omega) (by omega) (ne.elim (fun z => absurd z (Nat.lt_irrefl 0)) id)⟩
  | n + 1, i, b, kvs, o4, o8, h, H, hb, ep, ed, kv, sm, l, bd, ne, q => by
    refine ⟨trivial, a, b, .ref p, ps, rfl, H, by omega, pn, by omega, .inr ⟨p, rfl, pa, ep⟩, fun h1 y x1 H1 hy => ?_⟩
    have ky := pk y hy
    have ed1 := ed.exb na x1
    obtain ⟨v, ev, v0, kv', sm'⟩ := kv.put ky
    refine ⟨kvs, ed1, kvs, ed1, ky.ky.1, ky.ky.2, ?_⟩
    rw [ev]
    refine .inr ⟨kvs, ed1, ky.ky.1, ky.ky.2, by rw [sizeLine_eq]; omega, ?_⟩
    have pu := put_len (kvs := kvs) (y := y) (z := .int (v + 1))
    have ep2 : updD h1 d (.dN P w (putK' kvs y (.int (v + 1)))) p = some (.lst ps) := by rw [updD_ne pd]; exact x1 p _ pa ep
    refine steps_turns na pa pd pk pl pn n (i + 1) (b + 1) _ _ _ _ (H1.upd ed1.nl) (by omega) ep2 (.inl updD_same) kv' (by rw [sm', sm]; push_cast; rfl) (by omega) (by omega) (.inr pu.2) fun kvs o4 o8 h' g H' e' k' l' n' => q kvs o4 o8 h' (fun u nu x => g u nu ((x.trans x1).upd nu)) (H'.le (by omega)) e' k' l' n'
theorem p_l_steps (ds : List D) (h : HD) (Q : DK) (E : XD) (hs : sp_l_steps ds h Q E) : t_l_steps P w K W { nx := fun _ h' => Q .non h', rt := Q } (startD N_l_steps ds) h := by
  obtain ⟨a, b, wo, st, rfl, H, hb, w0, w6, s0, s6, q⟩ := hs
  have h15 : (10 : Nat) ^ 15 = 1000000000000000 := by decide
  have h12 : (10 : Nat) ^ 12 = 1000000000000 := by decide
  have h13 : (10 : Nat) ^ 13 = 10000000000000 := by decide
  have h14 : (10 : Nat) ^ 14 = 100000000000000 := by decide
  refine ⟨by show 0 ≤ sizeLine; decide, fun p np d nd => ⟨by show 2 ≤ sizeLine; decide, rfl, ?_⟩⟩
  have ha := H.ne
  have x1 : Ex h (updD h p (.lst [])) := .new np
  have x2 := x1.new' (o := .dN P w []) nd
  have n1 : p ≠ a := ne_fresh ha np
  have n2 : d ≠ a := ne_fresh (upd_some np ha) nd
  have nd0 : h d = none := by
    by_cases z : d = p
    · rw [z, updD_same] at nd; cases nd
    · rw [updD_ne z] at nd; exact nd
  have ep : updD (updD h p (.lst [])) d (.dN P w []) p = some (.lst []) := (Ex.new nd) _ _ updD_same
  refine ⟨rfl, by show -(2 ^ 62) ≤ wo; omega, by show wo < 2 ^ 62; omega, ?_⟩
  rw [rgD_eq]
  refine steps_pairs s0 (by omega) wo.toNat 0 p [] none _ (upd_some nd (upd_some np ha)) n1 ep (fun x hx => by cases hx) (Nat.zero_le _) (by omega) (by omega) (.inl (by omega)) fun p1 ps o3 h1 y1 pa e1 k1 l1 ne1 => ?_
  have ed : h1 d = some (.dN P w []) := y1 _ _ updD_same
  have pd : p1 ≠ d := fun z => by rw [z, ed] at e1; cases e1
  have H1 := (H.ex x2).ex y1
  refine ⟨a, b, 5, rfl, H1, by omega, by decide, by decide, fun h2 t x3 H2 t0 t1 => ?_⟩
  refine ⟨by omega, by omega, ?_⟩
  rw [rgD_eq]
  refine steps_turns n2 pa pd k1 l1 ne1 (1 + t).toNat 0 (b + 1) [] none none h2 H2 (by omega) (x3 _ _ pa e1) (.inl (x3 _ _ n2 ed)) ⟨fun p hp => (by cases hp), List.nodup_nil⟩ rfl (Nat.zero_le _) (by omega) (.inl (by omega)) fun kvs o4 o8 h3 g H3 e3 k3 s5 l3 n3 => ?_
  have x4 : ExB a h h3 := g h nd0 ((x2.trans y1).b.trans x3)
  have lk : (kvs.map (·.1)).length ≤ sizeLine := by rw [List.length_map, sizeLine_eq]; omega
  have sv := steps_valid k3 n3 l3 s5
  have sp : 0 < sV kvs := by
    rw [← k3.sum]
    refine sum_pos _ (fun x hx => ?_) (by simpa using n3)
    obtain ⟨y, hy, rfl⟩ := List.mem_map.mp hx
    exact (k3.at hy).2.2
  refine .inr ⟨kvs, e3, fun o xs => ⟨lk, map_loop (fun x => D.int (vN kvs x)) updD_same _ [] (fun x hx k kk => ?_) fun r nr => ?_⟩⟩
  · obtain ⟨kx, vx, _⟩ := k3.at hx
    exact .inr ⟨kvs, _, .inr ⟨o, xs, updD_same⟩, kx.ky.1, kx.ky.2, vx, kk⟩
  have l0 : 0 < kvs.length := List.length_pos_iff.mpr n3
  refine ⟨(kvs.map (·.1)).map (vN kvs), by rw [updD_same]; simp, ?_⟩
  rw [k3.sum]
  generalize hV : sV kvs = V at s5 sv sp
  have e4 : isDN P w (updD (updD h3 d (.lkN P w o xs kvs)) r (.lst ([] ++ (kvs.map (·.1)).map fun x => D.int (vN kvs x)))) d kvs := .inr ⟨o, xs, (Ex.new nr) _ _ updD_same⟩
  refine .inr ⟨kvs, e4, fun o' xs' => ⟨lk, map_loop (stepD kvs V) updD_same _ [] (fun x hx k kk => ?_) fun r2 nr2 => ?_⟩⟩
  · obtain ⟨kx, vx, v1⟩ := k3.at hx
    obtain ⟨i, j, rfl, _⟩ := id kx
    have lv : V.natAbs.log2 < 9000 := by
      have := few_small (i := V) (by omega) 10 (by have := p10; omega) (by decide)
      omega
    exact .inl ⟨_, atI_nat (j := 0) rfl, .inr ⟨kvs, _, .inr ⟨o', xs', updD_same⟩, kx.ky.1, kx.ky.2, vx, ⟨_, V, rfl, by omega, lv, .inl ⟨_, atI_nat (j := 1) rfl, by show 3 ≤ sizeLine; decide, kk⟩⟩⟩⟩
  refine ⟨_, updD_same, ?_⟩
  rw [List.nil_append]
  have xf : ExB a h (updD (updD (updD (updD h3 d (.lkN P w o xs kvs)) r (.lst ([] ++ (kvs.map (·.1)).map fun x => D.int (vN kvs x)))) d (.lkN P w o' xs' kvs)) r2 (.lst ((kvs.map (·.1)).map (stepD kvs V)))) := by
    have z1 : ExB a h (updD h3 d (.lkN P w o xs kvs)) := x4.upd nd0
    have z2 := z1.trans (Ex.new (o := .lst ([] ++ (kvs.map (·.1)).map fun x => D.int (vN kvs x))) nr).b
    have z3 := z2.upd (o := .lkN P w o' xs' kvs) nd0
    exact z3.trans (Ex.new nr2).b
  have Hf : Hand (updD (updD (updD (updD h3 d (.lkN P w o xs kvs)) r (.lst ([] ++ (kvs.map (·.1)).map fun x => D.int (vN kvs x)))) d (.lkN P w o' xs' kvs)) r2 (.lst ((kvs.map (·.1)).map (stepD kvs V)))) a (b + 1 + (1 + t).toNat) :=
    Hand.ex (Hand.upd (Hand.ex (Hand.upd H3 e3.nl) (Ex.new nr)) e4.nl) (Ex.new nr2)
  refine q _ _ xf (Hf.le (by omega)) ?_ sv
  obtain ⟨ss, e, as, hh⟩ := sv
  injection e with e
  rw [e]
  have sa : ss.all (isStep wo st) = true := by
    have as' : (szd (.tup ((kvs.map (·.1)).map (stepD kvs V))) 1 12 && (((kvs.map (·.1)).map (stepD kvs V)).all (isStep wo st)) && (decide ((((kvs.map (·.1)).map (stepD kvs V)).map pairOf).Nodup) && decide (sumI (((kvs.map (·.1)).map (stepD kvs V)).map shOf) = (1, 1)))) = true := as
    rw [Bool.and_eq_true, Bool.and_eq_true] at as'
    rw [← e]; exact as'.1.2
  refine KnA.all.mpr fun y hy => ?_
  obtain ⟨u, t, bb, g, rfl, t0, tb, d60⟩ := hh y hy
  have b60 : bb ≤ 60 := Int.le_of_dvd (by decide) d60
  have st' := List.all_eq_true.mp sa _ hy
  have st' : ((decide ((0 : Int) ≤ u) && decide (u ≤ wo - 1)) && (isSh (.tup [.int t, .int bb]) && (decide ((0 : Int) ≤ g) && decide (g ≤ st - 1)))) = true := st'
  simp only [Bool.and_eq_true, decide_eq_true_eq] at st'
  exact ⟨⟨by omega, by omega⟩, ⟨⟨by omega, by omega⟩, ⟨by omega, by omega⟩, trivial⟩, ⟨by omega, by omega⟩, trivial⟩
end
end PM

-- PmR
set_option Elab.async false
set_option linter.all false
set_option maxRecDepth 100000
set_option maxHeartbeats 4000000
/-! PmR: the drawing of rows, as they should be. -/
namespace PM
open PySem PySem.Spec PyProof.Rows L2 PD
theorem all_app {xs : List D} {y : D} {p : D → Prop} (h : ∀ x ∈ xs, p x) (hy : p y) : ∀ x ∈ xs ++ [y], p x := fun x hx => by
  rcases List.mem_append.mp hx with hx | hx
  · exact h x hx
  · rw [List.mem_singleton] at hx
    rw [hx]; exact hy
section
variable {P : Program} {w : World} {K : PySem.W.Frag} {W : En → XD} {h : HD} {Q : DK} {Z : DE} {E : XD}
theorem rows_comp {a : Addr} {nw wo st : Int} {o3 o5 o6 o7 o8 o9 : Option D} (w0 : 0 < wo) (w6 : wo ≤ 6) (s0 : 0 < st) (s6 : st ≤ 6) : ∀ (n i b : Nat) (acc : List D) (h : HD), Hand h a b → b + 11 * n ≤ 10 ^ 14 → KnA a 100 h acc → (∀ x ∈ acc, StepsV wo st x) →
    (∀ p acc' h', ExB a h h' → Hand h' a (b + 11 * n) → KnA a 100 h' acc' → (∀ x ∈ acc', StepsV wo st x) → acc'.length = acc.length + n → h' p = none → Q (.ref p) (updD h' p (.lst acc'))) →
    cLcGo (fun _ => True) (.one 10) cYes (cFn sp_l_steps (fun _ => noX) (cCons (cVar 0) (cCons (cVar 2) (cCons (cVar 4) cNil)))) [some (.ref a), some (.int nw), some (.int wo), o3, some (.int st), o5, o6, o7, o8, o9, none] Q (rgF i n) acc h
  | 0, i, b, acc, h, H, hb, k, v, q => ⟨trivial, fun p np => q p acc h (.refl a h) H k v rfl np⟩
  | n + 1, i, b, acc, h, H, hb, k, v, q => ⟨trivial, a, b, wo, st, rfl, H, by omega, w0, w6, s0, s6, fun h1 y x1 H1 kx vx =>
      rows_comp w0 w6 s0 s6 n (i + 1) (b + 11) (acc ++ [y]) h1 H1 (by omega) ((KnA.ex x1 k).app ⟨kx, trivial⟩) (all_app v vx) fun p acc' h' x' H' k' v' l' np => q p acc' h' (x1.trans x') (H'.le (by omega)) k' v' (by rw [l', List.length_append]; simp; omega) np⟩
theorem rows_in {a r7 : Addr} {h1 : HD} {b1 : Nat} {nw wo qs st : Int} {o5 o6 : Option D} (J : Hand h1 a b1) (n7 : h1 r7 = none) (v0 : 0 < nw) (v5 : nw ≤ 5) (w0 : 0 < wo) (w6 : wo ≤ 6) (s0 : 0 < st) (s6 : st ≤ 6) : ∀ (n i b : Nat) (xs : List D) (o8 o9 : Option D) (h : HD), Hand h a b → b + 60 * n ≤ 10 ^ 13 → ExB a h1 h → h r7 = some (.lst xs) → KnA a 100 h xs → (∀ x ∈ xs, QuestV nw wo st x) → xs.length = i → i + n ≤ 4 →
    (∀ xs o8 o9 h', ExB a h1 h' → Hand h' a (b + 60 * n) → h' r7 = some (.lst xs) → KnA a 100 h' xs → (∀ x ∈ xs, QuestV nw wo st x) → xs.length = i + n → Z.nx [some (.ref a), some (.int nw), some (.int wo), some (.int qs), some (.int st), o5, o6, some (.ref r7), o8, o9, none] h') →
    cLoop (fun _ => True) (cName 8) (b_l_rows_2 P w K W) Z (rgF i n) [some (.ref a), some (.int nw), some (.int wo), some (.int qs), some (.int st), o5, o6, some (.ref r7), o8, o9, none] h
  | 0, i, b, xs, o8, o9, h, H, hb, x, e, k, v, l, bd, q => ⟨trivial, q xs o8 o9 h x H e k v l⟩
  | n + 1, i, b, xs, o8, o9, h, H, hb, x, e, k, v, l, bd, q => by
    have na : r7 ≠ a := ne_fresh J.ne n7
    have ln : (rgD 0 nw.toNat).length ≤ sizeLine := by rw [rgD_eq, rgF_len, sizeLine_eq]; omega
    have h12 : (10 : Nat) ^ 12 = 1000000000000 := by decide
    have h13 : (10 : Nat) ^ 13 = 10000000000000 := by decide
    have h14 : (10 : Nat) ^ 14 = 100000000000000 := by decide
    have h15 : (10 : Nat) ^ 15 = 1000000000000000 := by decide
    have fin : ∀ (y : D) (o9 : Option D) (h' : HD), ExB a h h' → Hand h' a (b + 60) → Kn a 100 h' y → QuestV nw wo st y → ∃ ds, h' r7 = some (.lst ds) ∧ ds.length < sizeLine ∧ cLoop (fun _ => True) (cName 8) (b_l_rows_2 P w K W) Z (rgF (i + 1) n) [some (.ref a), some (.int nw), some (.int wo), some (.int qs), some (.int st), o5, o6, some (.ref r7), some (.int (i : Nat)), o9, none] (updD h' r7 (.lst (ds ++ [y]))) := fun y o9 h' x' H' ky vy => by
      have e' := x' _ _ na e
      refine ⟨xs, e', by rw [sizeLine_eq]; omega, ?_⟩
      have X : ExB a h1 (updD h' r7 (.lst (xs ++ [y]))) := (x.trans x').upd n7
      have kk : KnA a 100 h' (xs ++ [y]) := (KnA.ex x' k).app ⟨ky, trivial⟩
      exact rows_in J n7 v0 v5 w0 w6 s0 s6 n (i + 1) (b + 60) (xs ++ [y]) _ _ _ (J.put n7 (x.trans x') H') (by omega) X updD_same (KnA.upd e' kk) (all_app v vy) (by simp; omega) (by omega) fun xs o8 o9 h' a1 a2 a3 a4 a5 a6 => q xs o8 o9 h' a1 (a2.le (by omega)) a3 a4 a5 (by omega)
    refine ⟨trivial, by omega, by omega, ln, ?_⟩
    show cLcGo (fun _ => True) (.one 10) cYes (cFn sp_l_steps (fun _ => noX) (cCons (cVar 0) (cCons (cVar 2) (cCons (cVar 4) cNil)))) [some (.ref a), some (.int nw), some (.int wo), some (.int qs), some (.int st), o5, o6, some (.ref r7), some (.int (i : Nat)), o9, none] _ (rgD 0 nw.toNat) [] h
    rw [rgD_eq]
    refine rows_comp w0 w6 s0 s6 nw.toNat 0 b [] h H (by omega) trivial (fun x hx => by cases hx) fun p acc h2 x2 H2 k2 vc l2 np => ?_
    have x3 : ExB a h (updD h2 p (.lst acc)) := x2.trans (Ex.new np).b
    have H3 := H2.ex (Ex.new (o := .lst acc) np)
    have pa : p ≠ a := ne_fresh H2.ne np
    have l2' : acc.length = nw.toNat := by simpa using l2
    refine ⟨⟨r7, xs, rfl, x3 _ _ na e⟩, a, b + 11 * nw.toNat, 3, rfl, H3, by omega, by decide, by decide, fun h4 j x4 H4 j0 j1 => ?_⟩
    have ea : h4 p = some (.lst acc) := x4 _ _ pa updD_same
    have ka : KnA a 100 h4 acc := KnA.ex ((Ex.new np).b.trans x4) k2
    refine ⟨shp_int _, shp_int _, ifB (fun _ => ?_) (fun _ => ?_)⟩
    · obtain ⟨d, ed, _, ad⟩ := drop_get (xs := acc) (i := 0) (n := acc.length - 1) (by omega)
      refine .inl ⟨acc, d, ea, ad, by show 1 ≤ sizeLine; decide, by omega, by omega, by show 1 ≤ 1000; decide, ?_⟩
      refine fin _ _ h4 (x3.trans x4) (H4.le (by omega)) (KnA.rep (xs := [d]) ⟨KnA.all.mp ka d (List.mem_of_getElem? ed), trivial⟩) ⟨_, rfl, ?_, fun z hz => ?_⟩
      · rw [rep1, List.length_replicate]; omega
      · rw [rep1] at hz
        rw [(List.mem_replicate.mp hz).2]
        exact vc d (List.mem_of_getElem? ed)
    · refine ⟨acc, ea, ?_⟩
      exact fin _ _ h4 (x3.trans x4) (H4.le (by omega)) ka ⟨acc, rfl, by omega, vc⟩
theorem rows_out {a r5 : Addr} {h1 : HD} {b1 : Nat} {nw wo qs st : Int} (J : Hand h1 a b1) (n5 : h1 r5 = none) (v0 : 0 < nw) (v5 : nw ≤ 5) (w0 : 0 < wo) (w6 : wo ≤ 6) (q0 : 0 < qs) (q4 : qs ≤ 4) (s0 : 0 < st) (s6 : st ≤ 6) : ∀ (n i b : Nat) (xs : List D) (o6 o7 o8 o9 : Option D) (h : HD), Hand h a b → b + 240 * n ≤ 10 ^ 13 → ExB a h1 h → h r5 = some (.lst xs) → KnA a 100 h xs → (∀ x ∈ xs, RowV nw wo qs st x) → xs.length = i → i + n ≤ 6 →
    (∀ xs ρ h', ExB a h1 h' → Hand h' a (b + 240 * n) → h' r5 = some (.lst xs) → KnA a 100 h' xs → (∀ x ∈ xs, RowV nw wo qs st x) → xs.length = i + n → ρ[5]? = some (some (.ref r5)) → Z.nx ρ h') →
    cLoop (fun _ => True) (cName 6) (b_l_rows_1 P w K W) Z (rgF i n) [some (.ref a), some (.int nw), some (.int wo), some (.int qs), some (.int st), some (.ref r5), o6, o7, o8, o9, none] h
  | 0, i, b, xs, o6, o7, o8, o9, h, H, hb, x, e, k, v, l, bd, q => ⟨trivial, q xs _ h x H e k v l rfl⟩
  | n + 1, i, b, xs, o6, o7, o8, o9, h, H, hb, x, e, k, v, l, bd, q => by
    have na : r5 ≠ a := ne_fresh J.ne n5
    have h12 : (10 : Nat) ^ 12 = 1000000000000 := by decide
    have h13 : (10 : Nat) ^ 13 = 10000000000000 := by decide
    have h14 : (10 : Nat) ^ 14 = 100000000000000 := by decide
    refine ⟨trivial, by show 0 ≤ sizeLine; decide, fun r7 n7 => ⟨by omega, by omega, ?_⟩⟩
    rw [rgD_eq]
    have H2 := H.ex (Ex.new (o := .lst []) n7)
    refine rows_in H n7 v0 v5 w0 w6 s0 s6 qs.toNat 0 b [] _ _ _ H2 (by omega) (Ex.new n7).b updD_same trivial (fun x hx => by cases hx) rfl (by omega) fun ys o8 o9 h3 x3 H3 e3 k3 v3 l3 => ?_
    have e5 := x3 _ _ na e
    refine ⟨⟨r5, xs, rfl, e5⟩, ys, e3, xs, e5, by rw [sizeLine_eq]; omega, ?_⟩
    have X : ExB a h1 (updD h3 r5 (.lst (xs ++ [.tup ys]))) := (x.trans x3).upd n5
    have kk : KnA a 100 h3 (xs ++ [.tup ys]) := (KnA.ex x3 k).app ⟨k3, trivial⟩
    exact rows_out J n5 v0 v5 w0 w6 q0 q4 s0 s6 n (i + 1) (b + 240) (xs ++ [.tup ys]) _ _ _ _ _ (J.put n5 (x.trans x3) (H3.le (by omega))) (by omega) X updD_same (KnA.upd e5 kk) (all_app v ⟨ys, rfl, by omega, v3⟩) (by simp; omega) (by omega) fun xs ρ h' a1 a2 a3 a4 a5 a6 a7 => q xs ρ h' a1 (a2.le (by omega)) a3 a4 a5 (by omega) a7
theorem p_l_rows (ds : List D) (h : HD) (Q : DK) (E : XD) (hs : sp_l_rows ds h Q E) : t_l_rows P w K W { nx := fun _ h' => Q .non h', rt := Q } (startD N_l_rows ds) h := by
  obtain ⟨a, b, nw, wo, qs, st, rfl, H, hb, v0, v5, w0, w6, q0, q4, s0, s6, q⟩ := hs
  have h12 : (10 : Nat) ^ 12 = 1000000000000 := by decide
  have h13 : (10 : Nat) ^ 13 = 10000000000000 := by decide
  refine ⟨by show 0 ≤ sizeLine; decide, fun r5 n5 => ⟨by omega, by omega, ?_⟩⟩
  rw [rgD_eq]
  have H2 := H.ex (Ex.new (o := .lst []) n5)
  refine rows_out H n5 v0 v5 w0 w6 q0 q4 s0 s6 st.toNat 0 b [] _ _ _ _ _ H2 (by omega) (Ex.new n5).b updD_same trivial (fun x hx => by cases hx) rfl (by omega) fun xs ρ h3 x3 H3 e3 k3 v3 l3 eρ => ?_
  show cVar 5 ρ h3 _
  unfold cVar
  rw [eρ]
  exact ⟨xs, e3, q h3 (.tup xs) x3 (H3.le (by omega)) k3 ⟨xs, rfl, by omega, v3⟩⟩
end
/-! ### right rows make a machine -/
theorem worldBad_ok {wo st s q : Int} : ∀ {xs : List D} {i : Nat}, (∀ x ∈ xs, areSteps wo st x = true) → worldBad wo st s q i xs = none
  | [], _, _ => rfl
  | y :: ys, i, h => by
    unfold worldBad
    rw [if_pos (h y (List.mem_cons_self ..))]
    exact worldBad_ok fun x hx => h x (List.mem_cons_of_mem _ hx)
theorem questBad_ok {nw wo st s : Int} : ∀ {xs : List D} {i : Nat}, (∀ x ∈ xs, QuestV nw wo st x) → questBad nw wo st s i xs = none
  | [], _, _ => rfl
  | y :: ys, i, h => by
    obtain ⟨zs, rfl, lz, vz⟩ := h y (List.mem_cons_self ..)
    have e : questBad nw wo st s i (.tup zs :: ys) = if decide ((zs.length : Int) = nw) = true then (match worldBad wo st s i 0 zs with
      | some p => some p
      | none => questBad nw wo st s (i + 1) ys) else some (partD s i (-1)) := rfl
    rw [e, if_pos (decide_eq_true lz), worldBad_ok fun x hx => by
      obtain ⟨ss, rfl, as, _⟩ := vz x hx
      exact as]
    exact questBad_ok fun x hx => h x (List.mem_cons_of_mem _ hx)
theorem rowBad_ok {nw wo qs st : Int} : ∀ {xs : List D} {i : Nat}, (∀ x ∈ xs, RowV nw wo qs st x) → rowBad nw wo st i xs = none
  | [], _, _ => rfl
  | y :: ys, i, h => by
    obtain ⟨zs, rfl, lz, vz⟩ := h y (List.mem_cons_self ..)
    have e : rowBad nw wo st i (.tup zs :: ys) = (match questBad nw wo st i 0 zs with
      | some p => some p
      | none => rowBad nw wo st (i + 1) ys) := rfl
    rw [e, questBad_ok vz]
    exact rowBad_ok fun x hx => h x (List.mem_cons_of_mem _ hx)
theorem rows_due {nw wo qs st : Int} {x : D} (n1 : 1 ≤ nw) (n5 : nw ≤ 5) (w1 : 1 ≤ wo) (w6 : wo ≤ 6) (q1 : 1 ≤ qs) (q4 : qs ≤ 4) (s1 : 1 ≤ st) (s6 : st ≤ 6) (v : RowsV nw wo qs st x) : due (.int nw) (.int wo) x = none := by
  obtain ⟨rs, rfl, lr, vr⟩ := v
  have c1 : inW (.int nw) 1 5 = true := by
    show (decide ((1 : Int) ≤ nw) && decide (nw ≤ 5)) = true
    rw [decide_eq_true n1, decide_eq_true n5]; rfl
  have c2 : inW (.int wo) 1 6 = true := by
    show (decide ((1 : Int) ≤ wo) && decide (wo ≤ 6)) = true
    rw [decide_eq_true w1, decide_eq_true w6]; rfl
  have lt : ∀ r ∈ rs, lenT r = qs.toNat ∧ szd r 1 4 = true := fun r hr => by
    obtain ⟨ys, rfl, ly, _⟩ := vr r hr
    refine ⟨by show ys.length = _; omega, ?_⟩
    show (decide ((1 : Int) ≤ (ys.length : Int)) && decide ((ys.length : Int) ≤ 4)) = true
    rw [decide_eq_true (by omega), decide_eq_true (by omega)]; rfl
  have hd : lenT (rs.headD .non) = qs.toNat := by
    cases rs with
    | nil => exact absurd lr (by show ¬ ((0 : Nat) : Int) = st; omega)
    | cons r rs => exact (lt r (List.mem_cons_self ..)).1
  have c3 : areRows (.tup rs) = true := by
    show (szd (.tup rs) 1 6 && (rs.all fun r => szd r 1 4) && rs.all fun r => decide (lenT r = lenT (rs.headD .non))) = true
    have e1 : szd (.tup rs) 1 6 = true := by
      show (decide ((1 : Int) ≤ (rs.length : Int)) && decide ((rs.length : Int) ≤ 6)) = true
      rw [decide_eq_true (by omega), decide_eq_true (by omega)]; rfl
    have e2 : (rs.all fun r => szd r 1 4) = true := List.all_eq_true.mpr fun r hr => (lt r hr).2
    have e3 : (rs.all fun r => decide (lenT r = lenT (rs.headD .non))) = true := List.all_eq_true.mpr fun r hr => decide_eq_true (by rw [(lt r hr).1, hd])
    rw [e1, e2, e3]; rfl
  rw [due_k c1 c2 c3, lr]
  exact rowBad_ok vr
end PM

-- PsS
set_option Elab.async false
set_option linter.all false
set_option maxRecDepth 100000
set_option maxHeartbeats 4000000
/-! PsS: spreads over the standings of a machine. -/
namespace PM
open PySem PySem.Spec PyProof.Rows L2 PD
abbrev Fr := Int × Int
/-- a fraction whose bottom divides N, of at most M -/
def fB (N M : Int) (x : Fr) : Prop := nrm x ∧ x.2 ∣ N ∧ 0 ≤ x.1 ∧ x.1 ≤ M * x.2
theorem fB.le {N M M' : Int} {x : Fr} (f : fB N M x) (h : M ≤ M') : fB N M' x := ⟨f.1, f.2.1, f.2.2.1, Int.le_trans f.2.2.2 (Int.mul_le_mul_of_nonneg_right h (Int.le_of_lt f.1.1))⟩
theorem fB0 {N M : Int} (hM : 0 ≤ M) : fB N M (0, 1) := ⟨nrm01, ⟨N, by rw [Int.one_mul]⟩, Int.le_refl _, by show 0 ≤ M * 1; omega⟩
/-- what is told by its number over N -/
theorem fB_of {N M s : Int} {z : Fr} (hN : 0 < N) (hz : nrm z) (e : val z = Rat.divInt s N) (s0 : 0 ≤ s) (s1 : s ≤ M * N) : fB N M z := by
  obtain ⟨a, b⟩ := z
  obtain ⟨b0, g⟩ := hz
  have b0 : 0 < b := b0
  have e : a * N = s * b := (Rat.divInt_eq_divInt_iff (by exact Int.ne_of_gt b0) (Int.ne_of_gt hN)).mp e
  have g : Int.gcd b a = 1 := by rw [Int.gcd_comm]; exact Int.ofNat.inj g
  refine ⟨⟨b0, by show gcdI a b = 1; unfold gcdI; rw [Int.gcd_comm, g]; rfl⟩, ?_, ?_, ?_⟩
  · have : b ∣ a * N := ⟨s, by rw [e, Int.mul_comm]⟩
    have := Int.dvd_gcd_mul_iff_dvd_mul.mpr this
    rw [g] at this
    simpa using this
  · show 0 ≤ a
    rcases Int.lt_or_le a 0 with q | q
    · have h1 := Int.mul_neg_of_neg_of_pos q hN
      have h2 := Int.mul_nonneg s0 (Int.le_of_lt b0)
      omega
    · exact q
  · show a ≤ M * b
    have h1 : s * b ≤ M * N * b := Int.mul_le_mul_of_nonneg_right s1 (Int.le_of_lt b0)
    have h2 : a * N ≤ M * b * N := by rw [e, Int.mul_assoc, Int.mul_comm b N, ← Int.mul_assoc]; exact h1
    exact Int.le_of_mul_le_mul_right h2 hN
theorem fB.num {N M : Int} {x : Fr} (f : fB N M x) (hN : 0 < N) : ∃ s : Int, val x = Rat.divInt s N ∧ 0 ≤ s ∧ s ≤ M * N := by
  obtain ⟨a, b⟩ := x
  obtain ⟨⟨b0, _⟩, ⟨k, e⟩, a0, a1⟩ := f
  have b0 : 0 < b := b0
  have e : N = b * k := e
  have a0 : 0 ≤ a := a0
  have a1 : a ≤ M * b := a1
  have k0 : 0 < k := by
    rcases Int.lt_or_le 0 k with q | q
    · exact q
    · have := Int.mul_nonpos_of_nonneg_of_nonpos (Int.le_of_lt b0) q
      omega
  refine ⟨a * k, ?_, Int.mul_nonneg a0 (Int.le_of_lt k0), ?_⟩
  · show Rat.divInt a b = Rat.divInt (a * k) N
    rw [e]
    exact (Rat.divInt_mul_right (Int.ne_of_gt k0)).symm
  · rw [e, ← Int.mul_assoc]
    exact Int.mul_le_mul_of_nonneg_right a1 (Int.le_of_lt k0)
theorem fB_plus {N M M' : Int} {x y : Fr} (hN : 0 < N) (f : fB N M x) (g : fB N M' y) : fB N (M + M') (plusI x y) := by
  obtain ⟨s, e, s0, s1⟩ := f.num hN
  obtain ⟨t, e', t0, t1⟩ := g.num hN
  obtain ⟨v, n⟩ := val_plus f.1.1 g.1.1
  refine fB_of (s := s + t) hN n ?_ (by omega) (by rw [Int.add_mul]; omega)
  rw [v, e, e', Rat.divInt_add_divInt _ _ (Int.ne_of_gt hN) (Int.ne_of_gt hN), ← Int.add_mul]
  exact Rat.divInt_mul_right (Int.ne_of_gt hN)
theorem fB_times {N N' M M' : Int} {x y : Fr} (hN : 0 < N) (hN' : 0 < N') (f : fB N M x) (g : fB N' M' y) (m0 : 0 ≤ M) : fB (N * N') (M * M') (timesI x y) := by
  obtain ⟨s, e, s0, s1⟩ := f.num hN
  obtain ⟨t, e', t0, t1⟩ := g.num hN'
  obtain ⟨v, n⟩ := val_times f.1.1 g.1.1
  refine fB_of (s := s * t) (Int.mul_pos hN hN') n ?_ (Int.mul_nonneg s0 t0) ?_
  · rw [v, e, e', Rat.divInt_mul_divInt]
  · have h1 : s * t ≤ (M * N) * (M' * N') := Int.mul_le_mul s1 t1 t0 (Int.mul_nonneg m0 (Int.le_of_lt hN))
    have : M * M' * (N * N') = (M * N) * (M' * N') := by rw [Int.mul_assoc, Int.mul_assoc, ← Int.mul_assoc M' N N', Int.mul_comm M' N, Int.mul_assoc]
    rw [this]; exact h1
theorem fB.few {N M : Int} {x : Fr} (f : fB N M x) (hN : 0 < N) (n1 : N ≤ 2 ^ 900) (m0 : 0 ≤ M) (m1 : M ≤ 2 ^ 900) : fewB 4000 x := by
  obtain ⟨a, b⟩ := x
  obtain ⟨⟨b0, _⟩, d, a0, a1⟩ := f
  have b0 : 0 < b := b0
  have bN : b ≤ N := Int.le_of_dvd hN d
  have a0 : 0 ≤ a := a0
  have a1 : a ≤ M * b := a1
  have h2 : M * b ≤ 2 ^ 900 * 2 ^ 900 := Int.mul_le_mul m1 (by omega) (Int.le_of_lt b0) (by decide)
  have e : (2 : Int) ^ 900 * 2 ^ 900 < ((2 ^ 4000 : Nat) : Int) := by decide +kernel
  have e2 : (2 : Int) ^ 900 < ((2 ^ 4000 : Nat) : Int) := by decide +kernel
  have c1 : b < ((2 ^ 4000 : Nat) : Int) := Int.lt_of_le_of_lt (Int.le_trans bN n1) e2
  have c2 : a < ((2 ^ 4000 : Nat) : Int) := Int.lt_of_le_of_lt (Int.le_trans a1 h2) e
  show 0 < b ∧ a.natAbs < 2 ^ 4000 ∧ b.natAbs < 2 ^ 4000
  generalize (2 ^ 4000 : Nat) = T at c1 c2 ⊢
  omega

/-! ### what stands behind a question that is answered by a word -/
def stW : D → Int
  | .tup [.int u, _, _] => u
  | _ => 0
def stG : D → Int
  | .tup [_, _, .int g] => g
  | _ => 0
def tupL' : D → List D
  | .tup xs => xs
  | _ => []
def behIn (ch : Fr) (word : Int) (f : List Fr) (s : D) : List Fr := if stW s = word then f.set (stG s).toNat (plusI (f.getD (stG s).toNat (0, 1)) (timesI ch (shOf s))) else f
/-- the steps of a standing, a question, a world -/
def at3 (rows : List D) (s q w : Nat) : List D := tupL' ((tupL' ((tupL' (rows.getD s .non)).getD q .non)).getD w .non)
def behF (rows : List D) (w q : Nat) (word : Int) : Nat → List Fr → List Fr → List Fr
  | _, [], f => f
  | s, ch :: r, f => behF rows w q word (s + 1) r (if ch = (0, 1) then f else (at3 rows s q w).foldl (behIn ch word) f)
def beh (rows : List D) (w q : Nat) (word : Int) (sp : List Fr) : List Fr := behF rows w q word 0 sp (List.replicate rows.length (0, 1))
/-- the same for all worlds -/
def lat (rows : List D) (q : Nat) (word : Int) : Nat → List (List Fr) → List (List Fr)
  | _, [] => []
  | w, sp :: r => beh rows w q word sp :: lat rows q word (w + 1) r
def sprD (sp : List Fr) : D := .tup (sp.map prD2)
/-- a spread over so many standings -/
def Lv (N M : Int) (st : Nat) (sp : List Fr) : Prop := sp.length = st ∧ ∀ x ∈ sp, fB N M x
theorem rows_at {nw wo qs st : Int} {rows : List D} (v : RowsV nw wo qs st (.tup rows)) {s q w : Nat} (hs : s < rows.length) (hq : (q : Int) < qs) (hw : (w : Int) < nw) :
    ∃ ys zs, rows[s]? = some (.tup ys) ∧ ys[q]? = some (.tup zs) ∧ zs[w]? = some (.tup (at3 rows s q w)) ∧ StepsV wo st (.tup (at3 rows s q w)) := by
  obtain ⟨rs, e, lr, vr⟩ := v
  cases e
  have e1 := List.getElem?_eq_getElem hs
  obtain ⟨ys, ey, ly, vy⟩ := vr _ (List.getElem_mem hs)
  have hq' : q < ys.length := by omega
  have e2 := List.getElem?_eq_getElem hq'
  obtain ⟨zs, ez, lz, vz⟩ := vy _ (List.getElem_mem hq')
  have hw' : w < zs.length := by omega
  have e3 := List.getElem?_eq_getElem hw'
  have sv := vz _ (List.getElem_mem hw')
  obtain ⟨ss, es, _⟩ := id sv
  have ea : at3 rows s q w = ss := by
    unfold at3
    have g1 : rows.getD s .non = .tup ys := by rw [List.getD_eq_getElem?_getD, e1, ← ey]; rfl
    have g2 : ys.getD q .non = .tup zs := by rw [List.getD_eq_getElem?_getD, e2, ← ez]; rfl
    have g3 : zs.getD w .non = .tup ss := by rw [List.getD_eq_getElem?_getD, e3, ← es]; rfl
    rw [g1]
    show tupL' ((tupL' (ys.getD q .non)).getD w .non) = ss
    rw [g2]
    show tupL' (zs.getD w .non) = ss
    rw [g3]; rfl
  refine ⟨ys, zs, by rw [e1, ey], by rw [e2, ez], by rw [e3, es, ea], ?_⟩
  rw [ea, ← es]; exact sv
/-- a step by its parts -/
theorem step_parts {wo st : Int} {ss : List D} (v : StepsV wo st (.tup ss)) : ss.length ≤ 12 ∧ ∀ s ∈ ss, ∃ u t b g : Int, s = .tup [.int u, .tup [.int t, .int b], .int g] ∧ 0 ≤ u ∧ u < wo ∧ 0 ≤ g ∧ g < st ∧ fB 60 1 (t, b) ∧ 0 < t := by
  obtain ⟨ss', e, as, hh⟩ := v
  cases e
  have as' : (szd (.tup ss) 1 12 && (ss.all (isStep wo st)) && (decide ((ss.map pairOf).Nodup) && decide (sumI (ss.map shOf) = (1, 1)))) = true := as
  rw [Bool.and_eq_true, Bool.and_eq_true] at as'
  refine ⟨(len12 as'.1.1).2, fun s hs => ?_⟩
  obtain ⟨u, t, b, g, rfl, t0, tb, d⟩ := hh s hs
  have st' := List.all_eq_true.mp as'.1.2 _ hs
  have st' : ((decide ((0 : Int) ≤ u) && decide (u ≤ wo - 1)) && (((decide (0 < b) && decide (gcdI t b = 1)) && (decide (0 < t) && decide (t ≤ b))) && (decide ((0 : Int) ≤ g) && decide (g ≤ st - 1)))) = true := st'
  simp only [Bool.and_eq_true, decide_eq_true_eq] at st'
  exact ⟨u, t, b, g, rfl, by omega, by omega, by omega, by omega, ⟨⟨by show 0 < b; omega, st'.2.1.1.2⟩, d, by show 0 ≤ t; omega, by show t ≤ 1 * b; omega⟩, t0⟩
theorem getD_mem {f : List Fr} {i : Nat} {p : Fr → Prop} (h : ∀ x ∈ f, p x) (h0 : p (0, 1)) : p (f.getD i (0, 1)) := by
  rw [List.getD_eq_getElem?_getD]
  cases e : f[i]? with
  | none => exact h0
  | some x => exact h x (List.mem_of_getElem? e)
theorem behIn_ok {N M C : Int} {ch : Fr} {word : Int} {f : List Fr} {wo st : Int} {s : D} (hN : 0 < N) (m0 : 0 ≤ M) (c0 : 0 ≤ C) (hc : fB N M ch) (hs : ∃ u t b g : Int, s = .tup [.int u, .tup [.int t, .int b], .int g] ∧ 0 ≤ u ∧ u < wo ∧ 0 ≤ g ∧ g < st ∧ fB 60 1 (t, b) ∧ 0 < t) (hf : ∀ x ∈ f, fB (N * 60) C x) :
    (behIn ch word f s).length = f.length ∧ ∀ x ∈ behIn ch word f s, fB (N * 60) (C + M) x := by
  obtain ⟨u, t, b, g, rfl, _, _, _, _, fs, _⟩ := hs
  have hN' : 0 < N * 60 := by omega
  have up : ∀ x ∈ f, fB (N * 60) (C + M) x := fun x hx => (hf x hx).le (by omega)
  unfold behIn
  split
  · refine ⟨List.length_set, fun x hx => ?_⟩
    rcases List.mem_or_eq_of_mem_set hx with hx | rfl
    · exact up x hx
    · have := fB_times hN (by decide) hc fs m0
      rw [Int.mul_one] at this
      exact fB_plus hN' (getD_mem hf (fB0 c0)) this
  · exact ⟨rfl, up⟩
theorem behIn_fold {N M : Int} {ch : Fr} {word : Int} {wo st : Int} (hN : 0 < N) (m0 : 0 ≤ M) (hc : fB N M ch) : ∀ (ss : List D) (C : Int) (f : List Fr), 0 ≤ C → (∀ s ∈ ss, ∃ u t b g : Int, s = .tup [.int u, .tup [.int t, .int b], .int g] ∧ 0 ≤ u ∧ u < wo ∧ 0 ≤ g ∧ g < st ∧ fB 60 1 (t, b) ∧ 0 < t) → (∀ x ∈ f, fB (N * 60) C x) →
    (ss.foldl (behIn ch word) f).length = f.length ∧ ∀ x ∈ ss.foldl (behIn ch word) f, fB (N * 60) (C + ss.length * M) x
  | [], C, f, c0, _, hf => ⟨rfl, fun x hx => (hf x hx).le (by simp)⟩
  | s :: ss, C, f, c0, hs, hf => by
    obtain ⟨l1, h1⟩ := behIn_ok (word := word) hN m0 c0 hc (hs s (List.mem_cons_self ..)) hf
    obtain ⟨l2, h2⟩ := behIn_fold hN m0 hc ss (C + M) _ (by omega) (fun z hz => hs z (List.mem_cons_of_mem _ hz)) h1
    refine ⟨by rw [List.foldl_cons, l2, l1], fun x hx => (h2 x hx).le ?_⟩
    rw [List.length_cons]; push_cast
    rw [Int.add_mul]; omega
theorem behF_ok {N M : Int} {rows : List D} {w q : Nat} {word nw wo qs st : Int} (hN : 0 < N) (m0 : 0 ≤ M) (v : RowsV nw wo qs st (.tup rows)) (hq : (q : Int) < qs) (hw : (w : Int) < nw) : ∀ (sp : List Fr) (s : Nat) (C : Int) (f : List Fr), s + sp.length = rows.length → 0 ≤ C → (∀ x ∈ sp, fB N M x) → (∀ x ∈ f, fB (N * 60) C x) →
    (behF rows w q word s sp f).length = f.length ∧ ∀ x ∈ behF rows w q word s sp f, fB (N * 60) (C + 12 * sp.length * M) x
  | [], s, C, f, _, c0, _, hf => ⟨rfl, fun x hx => (hf x hx).le (by simp)⟩
  | ch :: sp, s, C, f, l, c0, hs, hf => by
    rw [List.length_cons] at l
    have step : ∃ g, g = (if ch = (0, 1) then f else (at3 rows s q w).foldl (behIn ch word) f) ∧ g.length = f.length ∧ ∀ x ∈ g, fB (N * 60) (C + 12 * M) x := by
      refine ⟨_, rfl, ?_⟩
      split
      · exact ⟨rfl, fun x hx => (hf x hx).le (by omega)⟩
      · obtain ⟨_, _, _, _, _, sv⟩ := rows_at v (show s < rows.length by omega) hq hw
        obtain ⟨l12, sh⟩ := step_parts sv
        obtain ⟨a, b⟩ := behIn_fold (word := word) hN m0 (hs ch (List.mem_cons_self ..)) (at3 rows s q w) C f c0 sh hf
        refine ⟨a, fun x hx => (b x hx).le ?_⟩
        have : ((at3 rows s q w).length : Int) * M ≤ 12 * M := Int.mul_le_mul_of_nonneg_right (by omega) m0
        omega
    obtain ⟨g, eg, lg, hg⟩ := step
    show (behF rows w q word (s + 1) sp (if ch = (0, 1) then f else (at3 rows s q w).foldl (behIn ch word) f)).length = _ ∧ ∀ x ∈ behF rows w q word (s + 1) sp (if ch = (0, 1) then f else (at3 rows s q w).foldl (behIn ch word) f), _
    rw [← eg]
    obtain ⟨a, b⟩ := behF_ok hN m0 v hq hw sp (s + 1) (C + 12 * M) g (by omega) (by omega) (fun x hx => hs x (List.mem_cons_of_mem _ hx)) hg
    refine ⟨by rw [a, lg], fun x hx => (b x hx).le ?_⟩
    rw [List.length_cons]; push_cast
    rw [Int.mul_add, Int.add_mul]
    omega
theorem beh_ok {N M : Int} {rows : List D} {w q : Nat} {word nw wo qs st : Int} {sp : List Fr} (hN : 0 < N) (m0 : 0 ≤ M) (v : RowsV nw wo qs st (.tup rows)) (s6 : rows.length ≤ 6) (hq : (q : Int) < qs) (hw : (w : Int) < nw) (hs : Lv N M rows.length sp) : Lv (N * 60) (72 * M) rows.length (beh rows w q word sp) := by
  obtain ⟨a, b⟩ := behF_ok (word := word) hN m0 v hq hw sp 0 0 (List.replicate rows.length (0, 1)) (by rw [hs.1]; omega) (Int.le_refl _) hs.2 fun x hx => by
    rw [(List.mem_replicate.mp hx).2]
    exact fB0 (Int.le_refl _)
  refine ⟨by unfold beh; rw [a, List.length_replicate], fun x hx => (b x hx).le ?_⟩
  rw [hs.1]
  have : 12 * (rows.length : Int) * M ≤ 72 * M := Int.mul_le_mul_of_nonneg_right (by omega) m0
  omega
/-- room for the sums -/
def Bd (N M : Int) : Prop := 0 < N ∧ N ≤ 2 ^ 800 ∧ 0 ≤ M ∧ M ≤ 2 ^ 800
section
variable (K : PySem.W.Frag)
def sp_many_asked : SpD := fun ds h Q _ => ∃ x nw wo ys rs, ds = [.ref x] ∧ isM K h x nw wo (.tup (.tup ys :: rs)) ∧ Q (.int ys.length) h
def sp_first_spread : SpD := fun ds h Q _ => ∃ x nw wo rows, ds = [.ref x] ∧ isM K h x nw wo (.tup rows) ∧ 1 ≤ rows.length ∧ rows.length ≤ 100 ∧ Q (sprD ((1, 1) :: List.replicate (rows.length - 1) (0, 1))) h
def sp_spread_behind : SpD := fun ds h Q _ => ∃ x nw wo qs st rows sp word N M, ∃ w q : Nat, ds = [.ref x, .int (w : Nat), sprD sp, .int (q : Nat), .int word] ∧ isM K h x (.int nw) (.int wo) (.tup rows) ∧ RowsV nw wo qs st (.tup rows) ∧ rows.length ≤ 6 ∧ (w : Int) < nw ∧ (q : Int) < qs ∧ Lv N M rows.length sp ∧ Bd N M ∧ ∀ h', Ex h h' → Q (sprD (beh rows w q word sp)) h'
def sp_spreads_behind : SpD := fun ds h Q _ => ∃ x nw wo qs st rows sps word N M, ∃ q : Nat, ds = [.ref x, .tup (sps.map sprD), .int (q : Nat), .int word] ∧ isM K h x (.int nw) (.int wo) (.tup rows) ∧ RowsV nw wo qs st (.tup rows) ∧ rows.length ≤ 6 ∧ (sps.length : Int) = nw ∧ nw ≤ 5 ∧ (q : Int) < qs ∧ (∀ sp ∈ sps, Lv N M rows.length sp) ∧ Bd N M ∧ ∀ h', Ex h h' → Q (.tup ((lat rows q word 0 sps).map sprD)) h'
end
def sp_l_behind : SpD := fun ds h Q _ => ∃ nw wo qs st rows sp word N M, ∃ w q : Nat, ds = [.tup rows, .int (w : Nat), sprD sp, .int (q : Nat), .int word] ∧ RowsV nw wo qs st (.tup rows) ∧ rows.length ≤ 6 ∧ (w : Int) < nw ∧ (q : Int) < qs ∧ Lv N M rows.length sp ∧ Bd N M ∧ ∀ h', Ex h h' → Q (sprD (beh rows w q word sp)) h'
def sp_l_first : SpD := fun ds h Q _ => ∃ rows, ds = [.tup rows] ∧ 1 ≤ rows.length ∧ rows.length ≤ 100 ∧ Q (sprD ((1, 1) :: List.replicate (rows.length - 1) (0, 1))) h
end PM

-- PsT
set_option Elab.async false
set_option linter.all false
set_option maxRecDepth 100000
set_option maxHeartbeats 4000000
/-! printed by gen.py: the walks of the defs -/
namespace PM
open PySem PySem.Spec PyProof.Rows L2 PD 

abbrev N_times : List Str := [("one" : Str), ("other" : Str)]
def t_times (P : Program) (w : World) (K : PySem.W.Frag) (W : En → XD) : CS := (cRet (cFn sp_lowest (fun _ => noX) (cCons (cOp cMul (cOp (cIxA P w) (cVar 0) (cC (.int 0))) (cOp (cIxA P w) (cVar 1) (cC (.int 0)))) (cCons (cOp cMul (cOp (cIxA P w) (cVar 0) (cC (.int 1))) (cOp (cIxA P w) (cVar 1) (cC (.int 1)))) cNil))))
abbrev N_l_times : List Str := [("_law_one" : Str), ("_law_other" : Str)]
def t_l_times (P : Program) (w : World) (K : PySem.W.Frag) (W : En → XD) : CS := (cRet (cFn sp_l_low (fun _ => noX) (cCons (cOp cMul (cOp (cIxA P w) (cVar 0) (cC (.int 0))) (cOp (cIxA P w) (cVar 1) (cC (.int 0)))) (cCons (cOp cMul (cOp (cIxA P w) (cVar 0) (cC (.int 1))) (cOp (cIxA P w) (cVar 1) (cC (.int 1)))) cNil))))
abbrev N_many_asked : List Str := [("machine" : Str)]
def t_many_asked (P : Program) (w : World) (K : PySem.W.Frag) (W : En → XD) : CS := (cRet (cCall (cLenA P w) (cCons (cOp (cIxA P w) (cFld K (cVar 0) "rows") (cC (.int 0))) cNil)))
abbrev N_first_spread : List Str := [("machine" : Str)]
def t_first_spread (P : Program) (w : World) (K : PySem.W.Frag) (W : En → XD) : CS := (cRet (cOp cAdd (cTup (cCons (cC (.tup [(.int 1), (.int 1)])) cNil)) (cOp cMul (cTup (cCons (cC (.tup [(.int 0), (.int 1)])) cNil)) (cOp cSub (cCall (cLenA P w) (cCons (cFld K (cVar 0) "rows") cNil)) (cC (.int 1))))))
abbrev N_spread_behind : List Str := [("machine" : Str), ("world" : Str), ("spread" : Str), ("question" : Str), ("word" : Str), ("found" : Str), ("standing" : Str), ("chance" : Str), ("told" : Str), ("share" : Str), ("goal" : Str)]
def b_spread_behind_2 (P : Program) (w : World) (K : PySem.W.Frag) (W : En → XD) : CS := (cIfS (cT (cOp cEq (cVar 8) (cVar 4))) (cAsg (cFn sp_plus (fun _ => noX) (cCons (cOp (cIxA P w) (cVar 5) (cVar 10)) (cCons (cFn sp_times (fun _ => noX) (cCons (cVar 7) (cCons (cVar 9) cNil))) cNil))) (cItm (cVar 5) (cVar 10) (cSetA P w))) cNext)
def b_spread_behind_1 (P : Program) (w : World) (K : PySem.W.Frag) (W : En → XD) : CS := (cIfS (cT (cOp cNe (cVar 7) (cC (.tup [(.int 0), (.int 1)])))) (cFor (cSrcA P w (cOp (cIxA P w) (cOp (cIxA P w) (cOp (cIxA P w) (cFld K (cVar 0) "rows") (cVar 6)) (cVar 3)) (cVar 1))) (cGTup 3 (cGCons (cName 8) (cGCons (cName 9) (cGCons (cName 10) cGNil)))) (b_spread_behind_2 P w K W)) cNext)
def t_spread_behind (P : Program) (w : World) (K : PySem.W.Frag) (W : En → XD) : CS := (cSeq (cSet 5 (cOp cMul (cLst (cCons (cC (.tup [(.int 0), (.int 1)])) cNil)) (cCall (cLenA P w) (cCons (cFld K (cVar 0) "rows") cNil)))) (cSeq (cFor (cEnum (cCons (cVar 2) cNil)) (cGTup 2 (cGCons (cName 6) (cGCons (cName 7) cGNil))) (b_spread_behind_1 P w K W)) (cRet (cCall cTuple (cCons (cVar 5) cNil)))))
abbrev N_spreads_behind : List Str := [("machine" : Str), ("spreads" : Str), ("question" : Str), ("word" : Str), ("world" : Str), ("one" : Str)]
def t_spreads_behind (P : Program) (w : World) (K : PySem.W.Frag) (W : En → XD) : CS := (cRet (cCall cTuple (cCons (cLc (cEnum (cCons (cVar 1) cNil)) (.many [4, 5]) cYes (cFn (sp_spread_behind K) (fun _ => noX) (cCons (cVar 0) (cCons (cVar 4) (cCons (cVar 5) (cCons (cVar 2) (cCons (cVar 3) cNil)))))) [4, 5]) cNil)))
abbrev N_l_behind : List Str := [("_law_rows_here" : Str), ("_law_world" : Str), ("_law_spread" : Str), ("_law_question" : Str), ("_law_word" : Str), ("_law_found" : Str), ("_law_standing" : Str), ("_law_chance" : Str), ("_law_told_here" : Str), ("_law_share" : Str), ("_law_goal" : Str)]
def b_l_behind_2 (P : Program) (w : World) (K : PySem.W.Frag) (W : En → XD) : CS := (cIfS (cT (cOp cEq (cVar 8) (cVar 4))) (cAsg (cFn sp_plus (fun _ => noX) (cCons (cOp (cIxA P w) (cVar 5) (cVar 10)) (cCons (cFn sp_times (fun _ => noX) (cCons (cVar 7) (cCons (cVar 9) cNil))) cNil))) (cItm (cVar 5) (cVar 10) (cSetA P w))) cNext)
def b_l_behind_1 (P : Program) (w : World) (K : PySem.W.Frag) (W : En → XD) : CS := (cFor (cSrcA P w (cIf (cT (cOp cGt (cOp (cIxA P w) (cVar 7) (cC (.int 0))) (cC (.int 0)))) (cOp (cIxA P w) (cOp (cIxA P w) (cOp (cIxA P w) (cVar 0) (cVar 6)) (cVar 3)) (cVar 1)) (cTup cNil))) (cGTup 3 (cGCons (cName 8) (cGCons (cName 9) (cGCons (cName 10) cGNil)))) (b_l_behind_2 P w K W))
def t_l_behind (P : Program) (w : World) (K : PySem.W.Frag) (W : En → XD) : CS := (cSeq (cSet 5 (cOp cMul (cLst (cCons (cTup (cCons (cC (.int 0)) (cCons (cC (.int 1)) cNil))) cNil)) (cCall (cLenA P w) (cCons (cVar 0) cNil)))) (cSeq (cFor (cEnum (cCons (cVar 2) cNil)) (cGTup 2 (cGCons (cName 6) (cGCons (cName 7) cGNil))) (b_l_behind_1 P w K W)) (cRet (cCall cTuple (cCons (cVar 5) cNil)))))
abbrev N_l_first : List Str := [("_law_rows_here" : Str)]
def t_l_first (P : Program) (w : World) (K : PySem.W.Frag) (W : En → XD) : CS := (cRet (cOp cAdd (cTup (cCons (cTup (cCons (cC (.int 1)) (cCons (cC (.int 1)) cNil))) cNil)) (cOp cMul (cTup (cCons (cTup (cCons (cC (.int 0)) (cCons (cC (.int 1)) cNil))) cNil)) (cOp cSub (cCall (cLenA P w) (cCons (cVar 0) cNil)) (cC (.int 1))))))
end PM

-- PsJ
set_option Elab.async false
set_option linter.all false
set_option maxRecDepth 100000
set_option maxHeartbeats 4000000
/-! PsJ: the plain laws of spreads. -/
namespace PM
open PySem PySem.Spec PyProof.Rows L2 PD
/-- all but the thing at p is kept -/
def ExP (p : Addr) (h h' : HD) : Prop := ∀ b o, b ≠ p → h b = some o → h' b = some o
theorem ExP.refl (p : Addr) (h : HD) : ExP p h h := fun _ _ _ e => e
theorem ExP.trans {p : Addr} {h h1 h2 : HD} (a : ExP p h h1) (b : ExP p h1 h2) : ExP p h h2 := fun x o n e => b x o n (a x o n e)
theorem ExP.upd (p : Addr) (h : HD) (o : OB) : ExP p h (updD h p o) := fun b u n e => by rw [updD_ne n]; exact e
theorem Ex.ofP {p : Addr} {h h1 h2 : HD} (x : Ex h h1) (n : h p = none) (y : ExP p h1 h2) : Ex h h2 := fun b o e => y b o (fun z => by rw [z, n] at e; cases e) (x b o e)
theorem Ex.p {p : Addr} {h h1 : HD} (x : Ex h h1) : ExP p h h1 := fun b o _ e => x b o e
section
variable {P : Program} {w : World} {K : PySem.W.Frag} {W : En → XD} {h : HD} {Q : DK} {Z : DE} {E : XD}
theorem p_times (ds : List D) (h : HD) (Q : DK) (E : XD) (hs : sp_times ds h Q E) : t_times P w K W { nx := fun _ h' => Q .non h', rt := Q } (startD N_times ds) h := by
  obtain ⟨x, y, rfl, ⟨px, x1, x2⟩, ⟨py, y1, y2⟩, q⟩ := hs
  obtain ⟨p, l⟩ := few_mul2 x2 y2 px py
  exact .inl ⟨_, rfl, .inl ⟨_, rfl, few_mul x1 y1, .inl ⟨_, rfl, .inl ⟨_, rfl, few_mul x2 y2, _, _, rfl, p, l, q⟩⟩⟩⟩
theorem p_l_times (ds : List D) (h : HD) (Q : DK) (E : XD) (hs : sp_times ds h Q E) : t_l_times P w K W { nx := fun _ h' => Q .non h', rt := Q } (startD N_l_times ds) h := by
  obtain ⟨x, y, rfl, ⟨px, x1, x2⟩, ⟨py, y1, y2⟩, q⟩ := hs
  obtain ⟨p, l⟩ := few_mul2 x2 y2 px py
  exact .inl ⟨_, rfl, .inl ⟨_, rfl, few_mul x1 y1, .inl ⟨_, rfl, .inl ⟨_, rfl, few_mul x2 y2, _, _, rfl, p, l, q⟩⟩⟩⟩
theorem p_many_asked (hC : Cls K (He.ga K "Machine")) (h3 : NoAttr K (He.ga K "Machine") "rows") (ds : List D) (h : HD) (Q : DK) (E : XD) (hs : sp_many_asked K ds h Q E) : t_many_asked P w K W { nx := fun _ h' => Q .non h', rt := Q } (startD N_many_asked ds) h := by
  obtain ⟨x, nw, wo, ys, rs, rfl, ⟨dx, e⟩, q⟩ := hs
  exact ⟨_, dx, _, _, e, hC, h3, rfl, .inl ⟨.tup ys, atI_nat (j := 0) rfl, .inl q⟩⟩
theorem first_eq {n : Nat} (h : 1 ≤ n) : [prD2 (1, 1)] ++ (List.replicate ((n : Int) - 1).toNat [prD2 (0, 1)]).flatten = ((1, 1) :: List.replicate (n - 1) (0, 1)).map prD2 := by
  rw [List.flatten_replicate_singleton, List.map_cons, List.map_replicate, show ((n : Int) - 1).toNat = n - 1 by omega]; rfl
theorem p_first_spread (hC : Cls K (He.ga K "Machine")) (h3 : NoAttr K (He.ga K "Machine") "rows") (ds : List D) (h : HD) (Q : DK) (E : XD) (hs : sp_first_spread K ds h Q E) : t_first_spread P w K W { nx := fun _ h' => Q .non h', rt := Q } (startD N_first_spread ds) h := by
  obtain ⟨x, nw, wo, rows, rfl, ⟨dx, e⟩, l1, l2, q⟩ := hs
  refine ⟨lz rfl, lz rfl, _, dx, _, _, e, hC, h3, rfl, .inl ⟨by omega, by omega, by show 1 ≤ 1000; decide, ?_, ?_⟩⟩
  · show 1 + (List.replicate ((rows.length : Int) - 1).toNat [prD2 (0, 1)]).flatten.length ≤ sizeLine
    rw [List.flatten_replicate_singleton, List.length_replicate, sizeLine_eq]; omega
  · show Q (.tup ([prD2 (1, 1)] ++ (List.replicate ((rows.length : Int) - 1).toNat [prD2 (0, 1)]).flatten)) h
    rw [first_eq l1]; exact q
theorem p_l_first (ds : List D) (h : HD) (Q : DK) (E : XD) (hs : sp_l_first ds h Q E) : t_l_first P w K W { nx := fun _ h' => Q .non h', rt := Q } (startD N_l_first ds) h := by
  obtain ⟨rows, rfl, l1, l2, q⟩ := hs
  refine ⟨lz rfl, lz rfl, lz rfl, lz rfl, .inl ⟨by omega, by omega, by show 1 ≤ 1000; decide, ?_, ?_⟩⟩
  · show 1 + (List.replicate ((rows.length : Int) - 1).toNat [prD2 (0, 1)]).flatten.length ≤ sizeLine
    rw [List.flatten_replicate_singleton, List.length_replicate, sizeLine_eq]; omega
  · show Q (.tup ([prD2 (1, 1)] ++ (List.replicate ((rows.length : Int) - 1).toNat [prD2 (0, 1)]).flatten)) h
    rw [first_eq l1]; exact q
theorem ixN_nat {n j : Nat} (hj : j < n) : ixN n (j : Int) = some j := by
  unfold ixN
  rw [if_pos (by omega), if_pos (by omega)]
  simp
abbrev gBeh : CG := cGTup 3 (cGCons (cName 8) (cGCons (cName 9) (cGCons (cName 10) cGNil)))
/-- the steps of one standing -/
theorem beh_in {p : Addr} {o0 o1 o2 o3 o6 : Option D} {word N M wo st : Int} {ch : Fr} (hN : 0 < N) (n1 : N * 60 ≤ 2 ^ 900) (m0 : 0 ≤ M) (hc : fB N M ch) : ∀ (ss : List D) (C : Int) (f : List Fr) (o8 o9 o10 : Option D) (h : HD), h p = some (.lst (f.map prD2)) → 0 ≤ C → C + ss.length * M + M ≤ 2 ^ 900 → st ≤ (f.length : Int) →
    (∀ s ∈ ss, ∃ u t b g : Int, s = .tup [.int u, .tup [.int t, .int b], .int g] ∧ 0 ≤ u ∧ u < wo ∧ 0 ≤ g ∧ g < st ∧ fB 60 1 (t, b) ∧ 0 < t) → (∀ x ∈ f, fB (N * 60) C x) →
    (∀ o8 o9 o10 h', ExP p h h' → h' p = some (.lst ((ss.foldl (behIn ch word) f).map prD2)) → Z.nx [o0, o1, o2, o3, some (.int word), some (.ref p), o6, some (prD2 ch), o8, o9, o10] h') →
    cLoop (fun _ => True) gBeh (b_spread_behind_2 P w K W) Z ss [o0, o1, o2, o3, some (.int word), some (.ref p), o6, some (prD2 ch), o8, o9, o10] h
  | [], C, f, o8, o9, o10, h, e, c0, c1, ls, hs, hf, q => ⟨trivial, q _ _ _ h (.refl p h) e⟩
  | s :: ss, C, f, o8, o9, o10, h, e, c0, c1, ls, hs, hf, q => by
    have hs1 := hs s (List.mem_cons_self ..)
    obtain ⟨l2, h2⟩ := behIn_ok (word := word) hN m0 c0 hc hs1 hf
    rw [List.length_cons] at c1; push_cast at c1
    rw [Int.add_mul, Int.one_mul] at c1
    have sm0 : 0 ≤ (ss.length : Int) * M := Int.mul_nonneg (Int.natCast_nonneg _) m0
    obtain ⟨u, t, b, g, rfl, u0, u1, g0, g1, fs, t0⟩ := hs1
    have hN60 : 0 < N * 60 := by omega
    have n2 : N ≤ 2 ^ 900 := by omega
    refine ⟨trivial, rfl, rfl, ?_⟩
    refine ⟨shp_int _, shp_int _, ?_⟩
    show if eqD (.int u) (.int word) = true then _ else _
    rw [eqD_int]
    refine ifB (fun c => ?_) (fun c => ?_)
    · have cu : u = word := of_decide_eq_true c
      obtain ⟨gn, rfl⟩ := Int.eq_ofNat_of_zero_le g0
      have gl : gn < f.length := by omega
      have ge : f.getD gn (0, 1) = f[gn] := by rw [List.getD_eq_getElem?_getD, List.getElem?_eq_getElem gl]; rfl
      have at_ : atI (f.map prD2) ((gn : Nat) : Int) = some (prD2 (f.getD gn (0, 1))) := atI_nat (by rw [List.getElem?_map, List.getElem?_eq_getElem gl, ge]; rfl)
      have fg : fB (N * 60) C (f.getD gn (0, 1)) := getD_mem hf (fB0 c0)
      have ft := fB_times hN (show (0 : Int) < 60 by decide) hc fs m0
      rw [Int.mul_one] at ft
      have e2 : behIn ch word f (.tup [.int u, .tup [.int t, .int b], .int ((gn : Nat) : Int)]) = f.set gn (plusI (f.getD gn (0, 1)) (timesI ch (t, b))) := by
        unfold behIn
        rw [if_pos (show stW (.tup [.int u, .tup [.int t, .int b], .int ((gn : Nat) : Int)]) = word from cu)]; rfl
      rw [e2] at h2 l2
      refine .inl ⟨f.map prD2, prD2 (f.getD gn (0, 1)), e, at_, ch, (t, b), rfl, hc.few hN n2 m0 (by omega), fs.few (by decide) (by decide +kernel) (by decide) (by decide +kernel), _, _, rfl, fg.few hN60 n1 c0 (by omega), ft.few hN60 n1 m0 (by omega), .inl ⟨f.map prD2, gn, e, ?_, ?_⟩⟩
      · have := ixN_nat (n := (f.map prD2).length) (j := gn) (by rw [List.length_map]; exact gl)
        exact this
      · have es : (f.map prD2).set gn (prD2 (plusI (f.getD gn (0, 1)) (timesI ch (t, b)))) = (f.set gn (plusI (f.getD gn (0, 1)) (timesI ch (t, b)))).map prD2 := by rw [List.map_set]
        rw [es]
        refine beh_in hN n1 m0 hc ss (C + M) _ _ _ _ _ updD_same (by omega) (by omega) (by rw [List.length_set]; exact ls) (fun z hz => hs z (List.mem_cons_of_mem _ hz)) h2 fun o8 o9 o10 h' x' e' => q o8 o9 o10 h' ((ExP.upd p h _).trans x') ?_
        rw [List.foldl_cons, e2]; exact e'
    · have cu : ¬ u = word := of_decide_eq_false c
      have e2 : behIn ch word f (.tup [.int u, .tup [.int t, .int b], .int g]) = f := by
        unfold behIn
        rw [if_neg (show ¬ stW (.tup [.int u, .tup [.int t, .int b], .int g]) = word from cu)]
      rw [e2] at h2
      refine beh_in hN n1 m0 hc ss (C + M) f _ _ _ h e (by omega) (by omega) ls (fun z hz => hs z (List.mem_cons_of_mem _ hz)) h2 fun o8 o9 o10 h' x' e' => q o8 o9 o10 h' x' ?_
      rw [List.foldl_cons, e2]; exact e'
theorem nrm_zero {x : Fr} (n : nrm x) : x = (0, 1) ↔ x.1 = 0 := by
  obtain ⟨a, b⟩ := x
  refine ⟨fun e => by cases e; rfl, fun e => ?_⟩
  have e : a = 0 := e
  subst e
  obtain ⟨b0, g⟩ := n
  have g : ((Int.gcd 0 b : Nat) : Int) = 1 := g
  have b0 : 0 < b := b0
  rw [Int.gcd_zero_left] at g
  have : b = 1 := by omega
  rw [this]
abbrev gEn : CG := cGTup 2 (cGCons (cName 6) (cGCons (cName 7) cGNil))
/-- all standings; body: what is done with one -/
theorem beh_out {body : CS} {p : Addr} {o0 o1 o2 o3 : Option D} {rows : List D} {w' q' : Nat} {word N M nw wo qs st : Int} (hN : 0 < N) (n1 : N * 60 ≤ 2 ^ 900) (m0 : 0 ≤ M) (v : RowsV nw wo qs st (.tup rows)) (hq : (q' : Int) < qs) (hw : (w' : Int) < nw) {h0 : HD}
    (hb : ∀ (Y : DE) (s : Nat) (ch : Fr) (f : List Fr) (C : Int) (o8 o9 o10 : Option D) (h : HD), ExP p h0 h → s < rows.length → fB N M ch → h p = some (.lst (f.map prD2)) → 0 ≤ C → C + 13 * M ≤ 2 ^ 900 → f.length = rows.length → (∀ x ∈ f, fB (N * 60) C x) →
      (∀ o8 o9 o10 h', ExP p h h' → h' p = some (.lst ((if ch = (0, 1) then f else (at3 rows s q' w').foldl (behIn ch word) f).map prD2)) → Y.nx [o0, o1, o2, o3, some (.int word), some (.ref p), some (.int (s : Nat)), some (prD2 ch), o8, o9, o10] h') →
      body Y [o0, o1, o2, o3, some (.int word), some (.ref p), some (.int (s : Nat)), some (prD2 ch), o8, o9, o10] h) :
    ∀ (sp : List Fr) (s : Nat) (C : Int) (f : List Fr) (o6 o7 o8 o9 o10 : Option D) (h : HD), ExP p h0 h → s + sp.length = rows.length → (∀ x ∈ sp, fB N M x) → h p = some (.lst (f.map prD2)) → 0 ≤ C → C + 12 * sp.length * M + 13 * M ≤ 2 ^ 900 → f.length = rows.length → (∀ x ∈ f, fB (N * 60) C x) →
      (∀ o6 o7 o8 o9 o10 h', ExP p h h' → h' p = some (.lst ((behF rows w' q' word s sp f).map prD2)) → Z.nx [o0, o1, o2, o3, some (.int word), some (.ref p), o6, o7, o8, o9, o10] h') →
      cLoop (fun _ => True) gEn body Z (enF s (sp.map prD2)) [o0, o1, o2, o3, some (.int word), some (.ref p), o6, o7, o8, o9, o10] h
  | [], s, C, f, o6, o7, o8, o9, o10, h, x0, l, hs, e, c0, c1, lf, hf, q => ⟨trivial, q _ _ _ _ _ h (.refl p h) e⟩
  | ch :: sp, s, C, f, o6, o7, o8, o9, o10, h, x0, l, hs, e, c0, c1, lf, hf, q => by
    rw [List.length_cons] at l c1
    push_cast at c1
    rw [Int.mul_add, Int.add_mul] at c1
    have hc := hs ch (List.mem_cons_self ..)
    have sm0 : 0 ≤ 12 * (sp.length : Int) * M := Int.mul_nonneg (by omega) m0
    rw [List.map_cons, enF_cons]
    refine ⟨trivial, rfl, rfl, ?_⟩
    refine hb _ s ch f C _ _ _ h x0 (by omega) hc e c0 (by omega) lf hf fun o8 o9 o10 h' x' e' => ?_
    have step : (if ch = (0, 1) then f else (at3 rows s q' w').foldl (behIn ch word) f).length = f.length ∧ ∀ x ∈ (if ch = (0, 1) then f else (at3 rows s q' w').foldl (behIn ch word) f), fB (N * 60) (C + 12 * M) x := by
      split
      · exact ⟨rfl, fun x hx => (hf x hx).le (by omega)⟩
      · obtain ⟨_, _, _, _, _, sv⟩ := rows_at v (show s < rows.length by omega) hq hw
        obtain ⟨l12, sh⟩ := step_parts sv
        obtain ⟨a, b⟩ := behIn_fold (word := word) hN m0 hc (at3 rows s q' w') C f c0 sh hf
        refine ⟨a, fun x hx => (b x hx).le ?_⟩
        have : ((at3 rows s q' w').length : Int) * M ≤ 12 * M := Int.mul_le_mul_of_nonneg_right (by omega) m0
        omega
    exact beh_out hN n1 m0 v hq hw hb sp (s + 1) (C + 12 * M) _ _ _ _ _ _ h' (x0.trans x') (by omega) (fun x hx => hs x (List.mem_cons_of_mem _ hx)) e' (by omega) (by omega) (by rw [step.1, lf]) step.2 fun o6 o7 o8 o9 o10 h2 x2 e2 => q o6 o7 o8 o9 o10 h2 (x'.trans x2) e2
theorem bd_few {N M : Int} (b : Bd N M) (n : Int) (h0 : 0 ≤ n) (h : n ≤ 1000) : N * 60 ≤ 2 ^ 900 ∧ n * M ≤ 2 ^ 900 := by
  obtain ⟨_, n1, m0, m1⟩ := b
  have e : (2 : Int) ^ 800 * 60 ≤ 2 ^ 900 := by decide +kernel
  have e2 : (1000 : Int) * 2 ^ 800 ≤ 2 ^ 900 := by decide +kernel
  have h1 : N * 60 ≤ 2 ^ 800 * 60 := Int.mul_le_mul_of_nonneg_right n1 (by decide)
  have h2 : n * M ≤ 1000 * 2 ^ 800 := Int.mul_le_mul h m1 m0 (by decide)
  exact ⟨Int.le_trans h1 e, Int.le_trans h2 e2⟩
theorem p_spread_behind (hC : Cls K (He.ga K "Machine")) (h3 : NoAttr K (He.ga K "Machine") "rows") (ds : List D) (h : HD) (Q : DK) (E : XD) (hs : sp_spread_behind K ds h Q E) : t_spread_behind P w K W { nx := fun _ h' => Q .non h', rt := Q } (startD N_spread_behind ds) h := by
  obtain ⟨x, nw, wo, qs, st, rows, sp, word, N, M, w', q', rfl, m, v, s6, hw, hq, lv, bd, q⟩ := hs
  obtain ⟨hN, n8, m0, m8⟩ := id bd
  have bf := bd_few bd 100 (by decide) (by decide)
  obtain ⟨dx, ex⟩ := id m
  refine ⟨lz rfl, fun p0 np0 => ?_⟩
  have x0 : Ex h (updD h p0 (.lst [prD2 (0, 1)])) := .new np0
  refine ⟨_, dx, _, _, x0 _ _ ex, hC, h3, rfl, .inl ⟨_, updD_same, by omega, by omega, by show 1 ≤ 1000; decide, fun p np => ?_⟩⟩
  have np : updD h p0 (.lst [prD2 (0, 1)]) p = none := np
  have ef : (List.replicate ((rows.length : Nat) : Int).toNat [prD2 (0, 1)]).flatten = (List.replicate rows.length ((0, 1) : Fr)).map prD2 := by rw [List.flatten_replicate_singleton, List.map_replicate]; rfl
  show cSeq _ _ _ [some (.ref x), some (.int (w' : Nat)), some (sprD sp), some (.int (q' : Nat)), some (.int word), some (.ref p), none, none, none, none, none] (updD (updD h p0 (.lst [prD2 (0, 1)])) p (.lst (List.replicate ((rows.length : Nat) : Int).toNat [prD2 (0, 1)]).flatten))
  rw [ef]
  have x1 := x0.new' (o := .lst ((List.replicate rows.length ((0, 1) : Fr)).map prD2)) np
  have nph : h p = none := by
    cases z : h p with
    | none => rfl
    | some o => rw [x0 _ _ z] at np; cases np
  have v12 : 12 * (sp.length : Int) * M + 13 * M ≤ 100 * M := by
    have := lv.1
    have : (12 * (sp.length : Int) + 13) * M ≤ 100 * M := Int.mul_le_mul_of_nonneg_right (by omega) m0
    rw [Int.add_mul] at this; exact this
  refine beh_out (h0 := updD (updD h p0 (.lst [prD2 (0, 1)])) p (.lst ((List.replicate rows.length ((0, 1) : Fr)).map prD2))) hN bf.1 m0 v hq hw (fun Y s ch f C o8 o9 o10 h' x' sl hc e c0 c1 lf hf k => ?_) sp 0 0 (List.replicate rows.length (0, 1)) none none none none none _ (.refl _ _) (by rw [lv.1]; omega) lv.2 updD_same (Int.le_refl _) (by omega) List.length_replicate (fun x hx => by rw [(List.mem_replicate.mp hx).2]; exact fB0 (Int.le_refl _)) fun o6 o7 o8 o9 o10 h' x' e' => ?_
  · have exx : isM K h' x (.int nw) (.int wo) (.tup rows) := ⟨dx, x' _ _ (fun z => by rw [z, nph] at ex; cases ex) (x1 _ _ ex)⟩
    obtain ⟨dx', ex'⟩ := exx
    refine ⟨shp_pr _, shp_pr (0, 1), ?_⟩
    show if (!eqD (prD2 ch) (.tup [.int 0, .int 1])) = true then _ else _
    rw [eqD_pr]
    by_cases cz : ch = (0, 1)
    · rw [decide_eq_true cz]
      refine ifF rfl (k _ _ _ h' (.refl p h') ?_)
      rw [if_pos cz]; exact e
    · rw [decide_eq_false cz]
      refine ifT rfl ?_
      obtain ⟨ys, zs, a1, a2, a3, sv⟩ := rows_at v sl hq hw
      obtain ⟨l12, sh⟩ := step_parts sv
      obtain ⟨rs, er, lr, _⟩ := id v
      cases er
      refine .inl ⟨_, dx', _, _, ex', hC, h3, rfl, .inl ⟨_, atI_nat a1, .inl ⟨_, atI_nat a2, .inl ⟨_, atI_nat a3, ?_⟩⟩⟩⟩
      have lm : ((at3 rows s q' w').length : Int) * M ≤ 12 * M := Int.mul_le_mul_of_nonneg_right (by omega) m0
      refine beh_in hN bf.1 m0 hc (at3 rows s q' w') C f _ _ _ h' e c0 (by omega) (by omega) sh hf fun o8 o9 o10 h2 x2 e2 => k _ _ _ h2 x2 ?_
      rw [if_neg cz]; exact e2
  · refine ⟨_, e', ?_⟩
    exact q h' (Ex.ofP x1 nph x')
theorem p_l_behind (ds : List D) (h : HD) (Q : DK) (E : XD) (hs : sp_l_behind ds h Q E) : t_l_behind P w K W { nx := fun _ h' => Q .non h', rt := Q } (startD N_l_behind ds) h := by
  obtain ⟨nw, wo, qs, st, rows, sp, word, N, M, w', q', rfl, v, s6, hw, hq, lv, bd, q⟩ := hs
  obtain ⟨hN, n8, m0, m8⟩ := id bd
  have bf := bd_few bd 100 (by decide) (by decide)
  refine ⟨lz rfl, lz rfl, fun p0 np0 => ?_⟩
  have x0 : Ex h (updD h p0 (.lst [prD2 (0, 1)])) := .new np0
  refine .inl ⟨_, updD_same, by omega, by omega, by show 1 ≤ 1000; decide, fun p np => ?_⟩
  have np : updD h p0 (.lst [prD2 (0, 1)]) p = none := np
  have ef : (List.replicate ((rows.length : Nat) : Int).toNat [prD2 (0, 1)]).flatten = (List.replicate rows.length ((0, 1) : Fr)).map prD2 := by rw [List.flatten_replicate_singleton, List.map_replicate]; rfl
  show cSeq _ _ _ [some (.tup rows), some (.int (w' : Nat)), some (sprD sp), some (.int (q' : Nat)), some (.int word), some (.ref p), none, none, none, none, none] (updD (updD h p0 (.lst [prD2 (0, 1)])) p (.lst (List.replicate ((rows.length : Nat) : Int).toNat [prD2 (0, 1)]).flatten))
  rw [ef]
  have x1 := x0.new' (o := .lst ((List.replicate rows.length ((0, 1) : Fr)).map prD2)) np
  have nph : h p = none := by
    cases z : h p with
    | none => rfl
    | some o => rw [x0 _ _ z] at np; cases np
  have v12 : 12 * (sp.length : Int) * M + 13 * M ≤ 100 * M := by
    have := lv.1
    have : (12 * (sp.length : Int) + 13) * M ≤ 100 * M := Int.mul_le_mul_of_nonneg_right (by omega) m0
    rw [Int.add_mul] at this; exact this
  refine beh_out (h0 := updD (updD h p0 (.lst [prD2 (0, 1)])) p (.lst ((List.replicate rows.length ((0, 1) : Fr)).map prD2))) hN bf.1 m0 v hq hw (fun Y s ch f C o8 o9 o10 h' x' sl hc e c0 c1 lf hf k => ?_) sp 0 0 (List.replicate rows.length (0, 1)) none none none none none _ (.refl _ _) (by rw [lv.1]; omega) lv.2 updD_same (Int.le_refl _) (by omega) List.length_replicate (fun x hx => by rw [(List.mem_replicate.mp hx).2]; exact fB0 (Int.le_refl _)) fun o6 o7 o8 o9 o10 h' x' e' => ?_
  · have nz := nrm_zero hc.1
    have c0' : 0 ≤ ch.1 := hc.2.2.1
    refine .inl (.inl ⟨.int ch.1, atI_nat (j := 0) rfl, trivial, ?_⟩)
    by_cases cz : ch = (0, 1)
    · refine ifF (c := decide ((0 : Int) < ch.1)) (decide_eq_false (by have := nz.mp cz; omega)) ?_
      refine ⟨lz rfl, ?_⟩
      refine ⟨trivial, k _ _ _ h' (.refl p h') ?_⟩
      rw [if_pos cz]; exact e
    · refine ifT (c := decide ((0 : Int) < ch.1)) (decide_eq_true (by have := mt nz.mpr cz; omega)) ?_
      obtain ⟨ys, zs, a1, a2, a3, sv⟩ := rows_at v sl hq hw
      obtain ⟨l12, sh⟩ := step_parts sv
      obtain ⟨rs, er, lr, _⟩ := id v
      cases er
      refine .inl ⟨_, atI_nat a1, .inl ⟨_, atI_nat a2, .inl ⟨_, atI_nat a3, ?_⟩⟩⟩
      have lm : ((at3 rows s q' w').length : Int) * M ≤ 12 * M := Int.mul_le_mul_of_nonneg_right (by omega) m0
      refine beh_in (K := K) (W := W) hN bf.1 m0 hc (at3 rows s q' w') C f _ _ _ h' e c0 (by omega) (by omega) sh hf fun o8 o9 o10 h2 x2 e2 => k _ _ _ h2 x2 ?_
      rw [if_neg cz]; exact e2
  · refine ⟨_, e', ?_⟩
    exact q h' (Ex.ofP x1 nph x')
theorem p_spreads_behind (ds : List D) (h : HD) (Q : DK) (E : XD) (hs : sp_spreads_behind K ds h Q E) : t_spreads_behind P w K W { nx := fun _ h' => Q .non h', rt := Q } (startD N_spreads_behind ds) h := by
  obtain ⟨x, nw, wo, qs, st, rows, sps, word, N, M, q', rfl, m, v, s6, ln, n5, hq, lv, bd, q⟩ := hs
  have go : ∀ (r : List (List Fr)) (i : Nat) (acc : List (List Fr)) (h' : HD), Ex h h' → i + r.length = sps.length → (∀ sp ∈ r, Lv N M rows.length sp) → (∀ h2 p, Ex h h2 → h2 p = none → Ex h (updD h2 p (.lst ((acc ++ lat rows q' word i r).map sprD))) → Q (.tup ((acc ++ lat rows q' word i r).map sprD)) (updD h2 p (.lst ((acc ++ lat rows q' word i r).map sprD)))) →
      cLcGo (fun _ => True) (.many [4, 5]) cYes (cFn (sp_spread_behind K) (fun _ => noX) (cCons (cVar 0) (cCons (cVar 4) (cCons (cVar 5) (cCons (cVar 2) (cCons (cVar 3) cNil)))))) [some (.ref x), some (.tup (sps.map sprD)), some (.int (q' : Nat)), some (.int word), none, none] (fun d h1 => cTuple [d] h1 Q) (enF i (r.map sprD)) (acc.map sprD) h' := fun r => by
    induction r with
    | nil => exact fun i acc h' x' _ _ k => ⟨trivial, fun p np => ⟨_, updD_same, by have := k h' p x' np (x'.new' np); simpa [lat] using this⟩⟩
    | cons sp r ih =>
      intro i acc h' x' l hv k
      rw [List.length_cons] at l
      rw [List.map_cons, enF_cons]
      obtain ⟨dx, ex⟩ := id m
      refine ⟨trivial, rfl, x, nw, wo, qs, st, rows, sp, word, N, M, i, q', rfl, ⟨dx, x' _ _ ex⟩, v, s6, by omega, hq, hv sp (List.mem_cons_self ..), bd, fun h2 x2 => ?_⟩
      have := ih (i + 1) (acc ++ [beh rows i q' word sp]) h2 (x'.trans x2) (by omega) (fun z hz => hv z (List.mem_cons_of_mem _ hz)) fun h3 p x3 np x4 => by
        have := k h3 p x3 np
        rw [show acc ++ lat rows q' word i (sp :: r) = acc ++ [beh rows i q' word sp] ++ lat rows q' word (i + 1) r by rw [List.append_assoc]; rfl] at this
        exact this x4
      simpa using this
  refine ⟨by show (enD (sps.map sprD)).length ≤ sizeLine; rw [enD_len, List.length_map, sizeLine_eq]; omega, ?_⟩
  exact go sps 0 [] h (.refl h) (by omega) lv fun h2 p x2 np x4 => q _ x4
end
end PM

-- PhS
set_option Elab.async false
set_option linter.all false
set_option maxRecDepth 100000
set_option maxHeartbeats 4000000
/-! PhS: trees of houses, counted. -/
namespace PM
open PySem PySem.Spec PyProof.Rows L2 PD
/-- a tree at most n rounds deep: a tuple of questions, tuples of answers, triples whose last is a tree -/
def Tre : Nat → D → Prop
  | 0, _ => False
  | n + 1, x => ∃ qs, x = .tup qs ∧ qs.length ≤ 100 ∧ ∀ q ∈ qs, ∃ as, q = .tup as ∧ as.length ≤ 1000 ∧ ∀ a ∈ as, ∃ w c t, a = .tup [w, c, t] ∧ Tre n t
def tupL : D → List D
  | .tup xs => xs
  | _ => []
def ansT (a : D) : D := match a with
  | .tup [_, _, t] => t
  | _ => .non
/-- the answers of a tree -/
def cntD : Nat → D → Int
  | 0, _ => 0
  | n + 1, x => ((tupL x).map fun q => ((tupL q).map fun a => 1 + cntD n (ansT a)).sum).sum
/-- the numbers that most_rounds compares -/
def deepL (f : D → Int) (x : D) : List Int := (tupL x).flatMap fun q => (tupL q).map fun a => 1 + f (ansT a)
def sp_count_answers : Nat → SpD
  | 0 => fun _ _ _ _ => False
  | n + 1 => fun ds h Q _ => ∃ x, ds = [x] ∧ Tre (n + 1) x ∧ ∀ h', Ex h h' → Q (.int (cntD (n + 1) x)) h'
def sp_most_rounds : Nat → SpD
  | 0 => fun _ _ _ _ => False
  | n + 1 => fun ds h Q _ => ∃ x, ds = [x] ∧ Tre (n + 1) x ∧ ∀ h' (m : Int), Ex h h' → 0 ≤ m → m ≤ (n : Nat) → Q (.int m) h'
end PM

-- PhT
set_option Elab.async false
set_option linter.all false
set_option maxRecDepth 100000
set_option maxHeartbeats 4000000
/-! printed by gen.py: the walks of the defs -/
namespace PM
open PySem PySem.Spec PyProof.Rows L2 PD 

abbrev N_count_answers : List Str := [("node" : Str), ("question" : Str), ("answer" : Str)]
def t_count_answers (P : Program) (w : World) (K : PySem.W.Frag) (n : Nat) (W : En → XD) : CS := (cRet (cCall cSum (cCons (cLc2 (cSrcA P w (cVar 0)) (.one 1) cYes (cSrcA P w (cVar 1)) (.one 2) cYes (cOp cAdd (cC (.int 1)) (cFn (sp_count_answers n) (fun _ => noX) (cCons (cOp (cIxA P w) (cVar 2) (cC (.int 2))) cNil))) [1, 2] [2]) cNil)))
abbrev N_most_rounds : List Str := [("node" : Str), ("question" : Str), ("answer" : Str)]
def t_most_rounds (P : Program) (w : World) (K : PySem.W.Frag) (n : Nat) (W : En → XD) : CS := (cRet (cCall cMax (cCons (cOp cAdd (cLst (cCons (cC (.int 0)) cNil)) (cLc2 (cSrcA P w (cVar 0)) (.one 1) cYes (cSrcA P w (cVar 1)) (.one 2) cYes (cOp cAdd (cC (.int 1)) (cFn (sp_most_rounds n) (fun _ => noX) (cCons (cOp (cIxA P w) (cVar 2) (cC (.int 2))) cNil))) [1, 2] [2])) cNil)))
end PM

-- PhJ
set_option Elab.async false
set_option linter.all false
set_option maxRecDepth 100000
set_option maxHeartbeats 4000000
/-! PhJ: the plain laws of counting. -/
namespace PM
open PySem PySem.Spec PyProof.Rows L2 PD
section
variable {P : Program} {w : World} {K : PySem.W.Frag} {W : En → XD} {h : HD} {Q : DK} {Z : DE} {E : XD}
/-- what is told of all answers of a tree -/
theorem cnt_out {te : CE} {x : D} {Q : DK} {g : D → Int} {h0 : HD} {al : D → Prop} (ht : ∀ (q a : D) (h' : HD) (k : DK), al a → Ex h0 h' → (∀ h2, Ex h' h2 → k (.int (g a)) h2) → te [some x, some q, some a] h' k) : ∀ (qs : List D) (acc : List Int) (h : HD), Ex h0 h → acc.length + 1000 * qs.length ≤ 1000000 → (∀ q ∈ qs, ∃ as, q = .tup as ∧ as.length ≤ 1000 ∧ ∀ a ∈ as, al a) →
    (∀ h' p, Ex h h' → h' p = none → Q (.ref p) (updD h' p (.lst ((acc ++ qs.flatMap fun q => (tupL q).map g).map D.int)))) → cLcOut (fun _ => True) (.one 1) cYes (cSrcA P w (cVar 1)) (.one 2) cYes te [2] [some x, none, none] Q qs (acc.map D.int) h
  | [], acc, h, x0, hl, v, k => ⟨trivial, fun p np => by have := k h p (.refl h) np; simpa using this⟩
  | q :: qs, acc, h, x0, hl, v, k => by
    rw [List.length_cons] at hl
    obtain ⟨as, rfl, la, va⟩ := v q (List.mem_cons_self ..)
    refine ⟨trivial, .inl ?_⟩
    have inn : ∀ (bs : List D) (acc' : List Int) (h' : HD), (∀ a ∈ bs, al a) → Ex h0 h' → Ex h h' → acc'.length + bs.length + 1000 * qs.length ≤ 1000000 → (∀ h2, Ex h' h2 → cLcOut (fun _ => True) (.one 1) cYes (cSrcA P w (cVar 1)) (.one 2) cYes te [2] [some x, none, none] Q qs ((acc' ++ bs.map g).map D.int) h2) →
        cLcIn (fun _ => True) (.one 2) cYes te [some x, some (.tup as), none] (cLcOut (fun _ => True) (.one 1) cYes (cSrcA P w (cVar 1)) (.one 2) cYes te [2] [some x, none, none] Q qs) bs (acc'.map D.int) h' := fun bs => by
      induction bs with
      | nil => exact fun acc' h' _ _ _ _ kk => ⟨trivial, by have := kk h' (.refl h'); simpa using this⟩
      | cons b bs ih =>
        intro acc' h' hb x1 x2 l2 kk
        rw [List.length_cons] at l2
        refine ⟨trivial, ht (.tup as) b h' _ (hb b (List.mem_cons_self ..)) x1 fun h2 x3 => ⟨by rw [List.length_map, sizeLine_eq]; omega, ?_⟩⟩
        have := ih (acc' ++ [g b]) h2 (fun a ha => hb a (List.mem_cons_of_mem _ ha)) (x1.trans x3) (x2.trans x3) (by rw [List.length_append, List.length_singleton]; omega) fun h3 x4 => by have := kk h3 (x3.trans x4); simpa using this
        simpa using this
    refine inn as acc h va x0 (.refl h) (by omega) fun h2 x2 => ?_
    refine cnt_out ht qs (acc ++ as.map g) h2 (x0.trans x2) (by rw [List.length_append, List.length_map]; omega) (fun q hq => v q (List.mem_cons_of_mem _ hq)) fun h' p x' np => ?_
    have := k h' p (x2.trans x') np
    rw [List.flatMap_cons] at this
    have e : acc ++ (List.map g (tupL (D.tup as)) ++ List.flatMap (fun q => List.map g (tupL q)) qs) = acc ++ as.map g ++ List.flatMap (fun q => List.map g (tupL q)) qs := by rw [List.append_assoc]; rfl
    rw [e] at this
    exact this
theorem sum_flat (f : D → List Int) : ∀ qs : List D, (qs.flatMap f).sum = (qs.map fun q => (f q).sum).sum
  | [] => rfl
  | q :: qs => by rw [List.flatMap_cons, List.sum_append, sum_flat f qs, List.map_cons, List.sum_cons]
theorem tre_al {n : Nat} {x : D} (t : Tre (n + 1) x) : ∃ qs, x = .tup qs ∧ qs.length ≤ 100 ∧ ∀ q ∈ qs, ∃ as, q = .tup as ∧ as.length ≤ 1000 ∧ ∀ a ∈ as, ∃ w c t, a = .tup [w, c, t] ∧ Tre n t := t
theorem p_count_answers (n : Nat) (ds : List D) (h : HD) (Q : DK) (E : XD) (hs : sp_count_answers (n + 1) ds h Q E) : t_count_answers P w K n W { nx := fun _ h' => Q .non h', rt := Q } (startD N_count_answers ds) h := by
  obtain ⟨x, rfl, t, q⟩ := hs
  obtain ⟨qs, rfl, lq, v⟩ := tre_al t
  refine .inl ?_
  refine cnt_out (g := fun a => 1 + cntD n (ansT a)) (h0 := h) (al := fun a => ∃ w c t, a = .tup [w, c, t] ∧ Tre n t) (fun q a h' k al x' kk => ?_) qs [] h (.refl h) (by show 0 + _ ≤ _; omega) v fun h' p x' np => ?_
  · obtain ⟨w', c, t', rfl, tt⟩ := al
    refine .inl ⟨t', atI_nat (j := 2) rfl, ?_⟩
    cases n with
    | zero => exact tt.elim
    | succ n => exact ⟨t', rfl, tt, fun h2 x2 => kk h2 x2⟩
  · refine ⟨_, by rw [updD_same], ?_⟩
    have := q _ (x'.new' (o := .lst (([] ++ qs.flatMap fun q => (tupL q).map fun a => 1 + cntD n (ansT a)).map D.int)) np)
    have e : (([] : List Int) ++ qs.flatMap fun q => (tupL q).map fun a => 1 + cntD n (ansT a)).sum = cntD (n + 1) (.tup qs) := by
      rw [List.nil_append]
      exact sum_flat _ qs
    rw [e]
    exact this
theorem most_out {te : CE} {x : D} {Q : DK} {n : Nat} {h0 : HD} {al : D → Prop} (ht : ∀ (q a : D) (h' : HD) (k : DK), al a → Ex h0 h' → (∀ h2 (m : Int), Ex h' h2 → 0 ≤ m → m ≤ (n : Nat) → k (.int m) h2) → te [some x, some q, some a] h' k) : ∀ (qs : List D) (acc : List Int) (h : HD), Ex h0 h → acc.length + 1000 * qs.length ≤ 1000000 → (∀ m ∈ acc, m ≤ (n : Nat)) → (∀ q ∈ qs, ∃ as, q = .tup as ∧ as.length ≤ 1000 ∧ ∀ a ∈ as, al a) →
    (∀ (h' : HD) (p : Addr) (L : List Int), Ex h h' → h' p = none → (∀ m ∈ L, m ≤ (n : Nat)) → L.length ≤ 1000000 → Q (.ref p) (updD h' p (.lst (L.map D.int)))) → cLcOut (fun _ => True) (.one 1) cYes (cSrcA P w (cVar 1)) (.one 2) cYes te [2] [some x, none, none] Q qs (acc.map D.int) h
  | [], acc, h, x0, hl, ha, v, k => ⟨trivial, fun p np => k h p acc (.refl h) np ha (by rw [List.length_nil] at hl; omega)⟩
  | q :: qs, acc, h, x0, hl, ha, v, k => by
    rw [List.length_cons] at hl
    obtain ⟨as, rfl, la, va⟩ := v q (List.mem_cons_self ..)
    refine ⟨trivial, .inl ?_⟩
    have inn : ∀ (bs : List D) (acc' : List Int) (h' : HD), (∀ a ∈ bs, al a) → Ex h0 h' → Ex h h' → acc'.length + bs.length + 1000 * qs.length ≤ 1000000 → (∀ m ∈ acc', m ≤ (n : Nat)) → (∀ (h2 : HD) (acc2 : List Int), Ex h' h2 → acc2.length + 1000 * qs.length ≤ 1000000 → (∀ m ∈ acc2, m ≤ (n : Nat)) → cLcOut (fun _ => True) (.one 1) cYes (cSrcA P w (cVar 1)) (.one 2) cYes te [2] [some x, none, none] Q qs (acc2.map D.int) h2) →
        cLcIn (fun _ => True) (.one 2) cYes te [some x, some (.tup as), none] (cLcOut (fun _ => True) (.one 1) cYes (cSrcA P w (cVar 1)) (.one 2) cYes te [2] [some x, none, none] Q qs) bs (acc'.map D.int) h' := fun bs => by
      induction bs with
      | nil => exact fun acc' h' _ _ _ l2 m2 kk => ⟨trivial, kk h' acc' (.refl h') (by rw [List.length_nil] at l2; omega) m2⟩
      | cons b bs ih =>
        intro acc' h' hb x1 x2 l2 m2 kk
        rw [List.length_cons] at l2
        refine ⟨trivial, ht (.tup as) b h' _ (hb b (List.mem_cons_self ..)) x1 fun h2 m x3 m0 m1 => ⟨by rw [List.length_map, sizeLine_eq]; omega, ?_⟩⟩
        have := ih (acc' ++ [m]) h2 (fun a ha => hb a (List.mem_cons_of_mem _ ha)) (x1.trans x3) (x2.trans x3) (by rw [List.length_append, List.length_singleton]; omega) (fun z hz => by
          rcases List.mem_append.mp hz with hz | hz
          · exact m2 z hz
          · rw [List.mem_singleton] at hz; rw [hz]; exact m1) fun h3 acc2 x4 => kk h3 acc2 (x3.trans x4)
        simpa using this
    exact inn as acc h va x0 (.refl h) (by omega) ha fun h2 acc2 x2 l2 m2 => most_out ht qs acc2 h2 (x0.trans x2) (by omega) m2 (fun q hq => v q (List.mem_cons_of_mem _ hq)) fun h' p L x' => k h' p L (x2.trans x')
theorem p_most_rounds (n : Nat) (ds : List D) (h : HD) (Q : DK) (E : XD) (hs : sp_most_rounds (n + 1) ds h Q E) : t_most_rounds P w K n W { nx := fun _ h' => Q .non h', rt := Q } (startD N_most_rounds ds) h := by
  obtain ⟨x, rfl, t, q⟩ := hs
  obtain ⟨qs, rfl, lq, v⟩ := tre_al t
  refine ⟨by show 1 ≤ sizeLine; decide, fun p0 np0 => ?_⟩
  have x0 : Ex h (updD h p0 (.lst [.int 0])) := .new np0
  refine .inl ?_
  refine most_out (n := n) (h0 := h) (fun q a h' k al x' kk => ?_) qs [] _ x0 (by show 0 + _ ≤ _; omega) (fun z hz => by cases hz) v fun h' p L x' np hL lL => ?_
  · obtain ⟨w', c, t', rfl, tt⟩ := al
    refine .inl ⟨t', atI_nat (j := 2) rfl, ?_⟩
    cases n with
    | zero => exact tt.elim
    | succ n => exact ⟨t', rfl, tt, fun h2 m x2 m0 m1 => kk h2 (1 + m) x2 (by omega) (by omega)⟩
  · have e0 : h' p0 = some (.lst [.int 0]) := x' _ _ updD_same
    have x1 := x'.new' (o := .lst (L.map D.int)) np
    refine ⟨[.int 0], L.map D.int, (Ex.new np) _ _ e0, updD_same, by rw [List.length_map, sizeLine_eq]; show 1 + _ ≤ _; omega, fun p2 np2 => ?_⟩
    refine ⟨0 :: L, by rw [updD_same]; rfl, by simp, fun m hm hle => ?_⟩
    have x2 := x1.new' (o := .lst ([.int 0] ++ L.map D.int)) np2
    have m0 := hle 0 (List.mem_cons_self ..)
    refine q _ m (x0.trans x2) m0 ?_
    rcases List.mem_cons.mp hm with rfl | hm
    · omega
    · exact (hL m hm)
end
end PM

-- PsU
set_option Elab.async false
set_option linter.all false
set_option maxRecDepth 100000
set_option maxHeartbeats 4000000
/-! PsU: sums of spreads; things of classes asked for their kind; houses that are made. -/
namespace PM
open PySem PySem.Spec PyProof.Rows L2 PD
/-- a tuple of fractions added -/
def sp_totalT : SpD := fun ds h Q _ => ∃ xs, ds = [.tup (xs.map prD2)] ∧ sumOk (0, 1) xs ∧ Q (prD2 (sumI xs)) h
theorem sum_fB {N M : Int} (hN : 0 < N) (n1 : N ≤ 2 ^ 900) (m0 : 0 ≤ M) : ∀ (xs : List Fr) (a : Fr) (C : Int), fB N C a → 0 ≤ C → C + xs.length * M ≤ 2 ^ 900 → (∀ x ∈ xs, fB N M x) → sumOk a xs ∧ fB N (C + xs.length * M) (xs.foldl plusI a)
  | [], a, C, ha, c0, c1, _ => ⟨trivial, ha.le (by simp)⟩
  | x :: xs, a, C, ha, c0, c1, h => by
    rw [List.length_cons] at c1 ⊢
    push_cast at c1 ⊢
    rw [Int.add_mul, Int.one_mul] at c1 ⊢
    have sm0 : 0 ≤ (xs.length : Int) * M := Int.mul_nonneg (Int.natCast_nonneg _) m0
    have hx := h x (List.mem_cons_self ..)
    obtain ⟨s, f⟩ := sum_fB hN n1 m0 xs (plusI a x) (C + M) (fB_plus hN ha hx) (by omega) (by omega) fun y hy => h y (List.mem_cons_of_mem _ hy)
    exact ⟨⟨ha.few hN n1 c0 (by omega), hx.few hN n1 m0 (by omega), s⟩, f.le (by omega)⟩
theorem sum_ok {N M : Int} {xs : List Fr} (b : Bd N M) (l : xs.length ≤ 100) (h : ∀ x ∈ xs, fB N M x) : sumOk (0, 1) xs ∧ fB N (100 * M) (sumI xs) := by
  obtain ⟨hN, n1, m0, m1⟩ := id b
  have bf := bd_few b 100 (by decide) (by decide)
  have le : (xs.length : Int) * M ≤ 100 * M := Int.mul_le_mul_of_nonneg_right (by omega) m0
  have e : (2 : Int) ^ 800 ≤ 2 ^ 900 := by decide +kernel
  obtain ⟨s, f⟩ := sum_fB hN (Int.le_trans n1 e) m0 xs (0, 1) 0 (fB0 (Int.le_refl _)) (Int.le_refl _) (by rw [Int.zero_add]; exact Int.le_trans le bf.2) h
  exact ⟨s, f.le (by omega)⟩
section
variable (K : PySem.W.Frag)
/-- also of a thing of a class -/
def isIns (ds : List D) (h : HD) (Q : DK) : Prop := ∃ a C dx fs, ds.head? = some (.ref a) ∧ h a = some (.ins C dx fs) ∧ IsiC K C ∧ PySem.W.kitOne K (.ref C) (.type "int") = some false ∧ Q (.bl false) h
def sp_is_integerX : SpD := fun ds h Q E => ds.length = 1 ∧ (sp_is_integer ds h Q E ∨ isIns K ds h Q)
def sp_is_withinX : SpD := fun ds h Q E => ds.length = 3 ∧ (sp_is_within ds h Q E ∨ ((∃ x lo hi, ds = [x, .int lo, .int hi]) ∧ isIns K ds h Q))
def sp_check_number : SpD := fun ds h Q E => ∃ x lo hi, ds = [x, .int lo, .int hi] ∧ ((∃ i, x = .int i ∧ lo ≤ i ∧ i ≤ hi ∧ Q .non h) ∨ (inW x lo hi = false ∧ ((∃ z, kd h x = some z) ∨ ∃ a C dx fs, x = .ref a ∧ h a = some (.ins C dx fs) ∧ IsiC K C ∧ PySem.W.kitOne K (.ref C) (.type "int") = some false) ∧ E (.ref (He.ga K "NoNumber")) none h))
def fldsH (nw tree : D) : List (Str × D) := [("worlds", nw), ("tree", tree)]
def isH (h : HD) (x : Addr) (nw tree : D) : Prop := ∃ dx, h x = some (.ins (He.ga K "RawHouse") dx (fldsH nw tree))
def sp_RawHouse_init : SpD := fun ds h Q _ => ∃ x dx nw tree, ds = [.ref x, nw, tree] ∧ h x = some (.ins (He.ga K "RawHouse") dx []) ∧ ∀ h', ExP x h h' → h' x = some (.ins (He.ga K "RawHouse") dx (fldsH nw tree)) → Q .non h'
/-- a house of few answers is made -/
def sp_made : SpD := fun ds h Q _ => ∃ nw tree, ds = [nw, tree] ∧ Tre 13 tree ∧ cntD 13 tree ≤ 3000 ∧ ∀ h' x, Ex h h' → h x = none → isH K h' x nw tree → Q (.ref x) h'
end
end PM

-- K65S
set_option Elab.async false
set_option linter.all false
set_option maxRecDepth 100000
set_option maxHeartbeats 4000000
/-! K65S: what the defs of k65 do. -/
namespace K65
open PySem PySem.Spec PyProof.Rows L2 PD PM
/-- a right machine stands at x -/
structure Mac (K : PySem.W.Frag) (h : HD) (x : Addr) (nw wo qs st : Int) (rows : List D) : Prop where
  m : isM K h x (.int nw) (.int wo) (.tup rows)
  v : RowsV nw wo qs st (.tup rows)
  n1 : 1 ≤ nw
  n5 : nw ≤ 5
  w1 : 1 ≤ wo
  w6 : wo ≤ 6
  q1 : 1 ≤ qs
  q4 : qs ≤ 4
  s1 : 1 ≤ st
  s6 : st ≤ 6
/-- an answer, if its word comes -/
def answ (rows : List D) (q : Nat) (sps : List (List Fr)) (sub : List (List Fr) → D) (word : Nat) : Option D :=
  if ((lat rows q word 0 sps).map sumI).any (fun x => decide (x ≠ (0, 1))) = true then some (.tup [.tup [.int (word : Nat)], .tup (((lat rows q word 0 sps).map sumI).map prD2), sub (lat rows q word 0 sps)]) else none
def questS (rows : List D) (wo : Nat) (q : Nat) (sps : List (List Fr)) (sub : List (List Fr) → D) : D := .tup ((List.range wo).filterMap (answ rows q sps sub))
def nodeS (rows : List D) (wo qs : Nat) : Nat → List (List Fr) → D
  | 0, _ => .tup []
  | n + 1, sps => .tup ((List.range qs).map fun q => questS rows wo q sps (nodeS rows wo qs n))
def cntA (rows : List D) (q : Nat) (sps : List (List Fr)) (sub : List (List Fr) → Int) (word : Nat) : Int :=
  if ((lat rows q word 0 sps).map sumI).any (fun x => decide (x ≠ (0, 1))) = true then 1 + sub (lat rows q word 0 sps) else 0
def cntQ (rows : List D) (wo : Nat) (q : Nat) (sps : List (List Fr)) (sub : List (List Fr) → Int) : Int := ((List.range wo).map (cntA rows q sps sub)).sum
def cntN (rows : List D) (wo qs : Nat) : Nat → List (List Fr) → Int
  | 0, _ => 0
  | n + 1, sps => ((List.range qs).map fun q => cntQ rows wo q sps (cntN rows wo qs n)).sum
section
variable (K : PySem.W.Frag)
def fldsR (m : Addr) (r k : D) : List (Str × D) := [("machine", .ref m), ("rounds", r), ("many", k)]
def isR (h : HD) (x dx m : Addr) (r : D) (k : Int) : Prop := h x = some (.ins (He.ga K "Rounds") dx (fldsR m r (.int k)))
def sp_Rounds_init : SpD := fun ds h Q _ => ∃ x dx m r, ds = [.ref x, .ref m, r] ∧ h x = some (.ins (He.ga K "Rounds") dx []) ∧ ∀ h', ExP x h h' → isR K h' x dx m r 0 → Q .non h'
def Sps (rows : List D) (nw : Int) (N M : Int) (sps : List (List Fr)) : Prop := (sps.length : Int) = nw ∧ ∀ sp ∈ sps, Lv N M rows.length sp
/-- c more answers are counted, or too many -/
def counted (x dx m : Addr) (r : D) (k c : Int) (d : D) (h : HD) (Q : DK) (E : XD) : Prop :=
  (k + c ≤ 3000 → ∀ h', ExP x h h' → isR K h' x dx m r (k + c) → Q d h') ∧ (3000 < k + c → ∀ h', ExP x h h' → E (.ref (He.ga K "TooLarge")) none h')
def sp_Rounds_node (n : Nat) : SpD := fun ds h Q E => ∃ x dx m r k nw wo qs st rows sps N M, ds = [.ref x, .tup (sps.map sprD), .int (n : Nat)] ∧ isR K h x dx m r k ∧ Mac K h m nw wo qs st rows ∧ Sps rows nw N M sps ∧ Bd (N * 60 ^ n) (M * 7200 ^ n) ∧ 0 < N ∧ 0 ≤ M ∧ 0 ≤ k ∧ k ≤ 3000 ∧ counted K x dx m r k (cntN rows wo.toNat qs.toNat n sps) (nodeS rows wo.toNat qs.toNat n sps) h Q E
def sp_Rounds_question : Nat → SpD
  | 0 => fun _ _ _ _ => False
  | n + 1 => fun ds h Q E => ∃ x dx m r k nw wo qs st rows sps N M, ∃ q : Nat, ds = [.ref x, .tup (sps.map sprD), .int (q : Nat), .int ((n + 1 : Nat) : Int)] ∧ isR K h x dx m r k ∧ Mac K h m nw wo qs st rows ∧ Sps rows nw N M sps ∧ Bd (N * 60 ^ (n + 1)) (M * 7200 ^ (n + 1)) ∧ 0 < N ∧ 0 ≤ M ∧ 0 ≤ k ∧ k ≤ 3000 ∧ (q : Int) < qs ∧ counted K x dx m r k (cntQ rows wo.toNat q sps (cntN rows wo.toNat qs.toNat n)) (questS rows wo.toNat q sps (nodeS rows wo.toNat qs.toNat n)) h Q E
/-- the first spreads -/
def begS (rows : List D) (nw : Int) : List (List Fr) := List.replicate nw.toNat ((1, 1) :: List.replicate (rows.length - 1) (0, 1))
def sp_first_rounds : SpD := fun ds h Q E => ∃ m x nw wo qs st rows, ds = [.ref m, x] ∧ Mac K h m nw wo qs st rows ∧
  ((∃ n : Nat, x = .int (n : Nat) ∧ n ≤ 4 ∧ (cntN rows wo.toNat qs.toNat n (begS rows nw) ≤ 3000 → ∀ h' p, Ex h h' → isH K h' p (.int nw) (nodeS rows wo.toNat qs.toNat n (begS rows nw)) → Q (.ref p) h') ∧ (3000 < cntN rows wo.toNat qs.toNat n (begS rows nw) → ∀ h', Ex h h' → E (.ref (He.ga K "TooLarge")) none h')) ∨
   (inW x 0 4 = false ∧ ((∃ z, kd h x = some z) ∨ x = .ref m) ∧ E (.ref (He.ga K "NoNumber")) none h))
def sp_l_told : SpD := fun ds h Q _ => ∃ m x nw wo qs st rows, ds = [.ref m, x] ∧ Mac K h m nw wo qs st rows ∧
  ((∃ n : Nat, x = .int (n : Nat) ∧ n ≤ 4 ∧ (cntN rows wo.toNat qs.toNat n (begS rows nw) ≤ 3000 → ∀ h' p, Ex h h' → h' p = some (.lst [.int nw, nodeS rows wo.toNat qs.toNat n (begS rows nw)]) → Q (.ref p) h') ∧ (3000 < cntN rows wo.toNat qs.toNat n (begS rows nw) → ∀ h', Ex h h' → Q (.str "large") h')) ∨
   (inW x 0 4 = false ∧ ((∃ z, kd h x = some z) ∨ x = .ref m) ∧ ∀ h', Ex h h' → Q (.str "number") h'))
end
def sp_l_node (n : Nat) : SpD := fun ds h Q _ => ∃ p nw wo qs st rows sps N M, ds = [.tup [.tup rows, .int nw, .int wo], .ref p, .int (n : Nat)] ∧ h p = some (.lst (sps.map sprD)) ∧ RowsV nw wo qs st (.tup rows) ∧ 1 ≤ nw ∧ nw ≤ 5 ∧ 1 ≤ wo ∧ wo ≤ 6 ∧ 1 ≤ qs ∧ qs ≤ 4 ∧ 1 ≤ st ∧ st ≤ 6 ∧ Sps rows nw N M sps ∧ Bd (N * 60 ^ n) (M * 7200 ^ n) ∧ 0 < N ∧ 0 ≤ M ∧ ∀ h', Ex h h' → Q (nodeS rows wo.toNat qs.toNat n sps) h'
def sp_l_nodeP : Nat → SpD
  | 0 => fun _ _ _ _ => False
  | n + 1 => sp_l_node n
def sp_l_nodeE : SpD := fun ds h Q E => ∃ n, n ≤ 4 ∧ sp_l_node n ds h Q E
def sp_Rounds_nodeE (K : PySem.W.Frag) : SpD := fun ds h Q E => ∃ n, n ≤ 4 ∧ sp_Rounds_node K n ds h Q E
/-- all words come, in each question -/
def greatD (nw wo qs : Nat) : D := .tup [.tup (List.replicate qs (.tup (List.replicate nw (.tup ((List.range wo).map fun i => .tup [.int (i : Nat), .tup [.int 1, .int (wo : Nat)], .int 0])))))]
def sp_l_great : SpD := fun ds h Q _ => ∃ a nw wo qs, ds = [.ref a, .int nw, .int wo, .int qs] ∧ 1 ≤ nw ∧ nw ≤ 5 ∧ 1 ≤ wo ∧ wo ≤ 6 ∧ 1 ≤ qs ∧ qs ≤ 4 ∧ ∀ h', Ex h h' → Q (greatD nw.toNat wo.toNat qs.toNat) h'
def sp_law : SpD := fun ds h Q _ => ∃ ns : List Int, ds = [.fl (ns.map D.int)] ∧ ns.length ≤ 63 ∧ h = (fun _ => none) ∧ ∀ h', Q (.bl true) h'
end K65

-- K65A
set_option Elab.async false
set_option linter.all false
set_option maxRecDepth 100000
set_option maxHeartbeats 4000000
/-! printed by gen.py: the walks of the defs -/
namespace K65
open PySem PySem.Spec PyProof.Rows L2 PD PM

/-! ### is_integer -/
abbrev s_is_integer : Stmt := atS PySem.Challenge.pw_tellsless_k65_whole_first_rounds_of_mach 7
abbrev N_is_integer : List Str := [("thing" : Str)]
theorem sc_is_integer : FnScope N_is_integer [("thing" : Str)] (defScope s_is_integer) := ⟨rfl, rfl, rfl, by decide +kernel, rfl, by decide +kernel, by decide +kernel⟩
theorem w_is_integer {P : Program} {w : World} {K : PySem.W.Frag} {mg : Str → Option Value} {base : Heap} {f : Addr} {fd : FuncData} (L : Lib mg) 
    (F : Fun K "is_integer" "is_integer" s_is_integer f fd) (ln : ∀ ds h Q E, sp_is_integer ds h Q E → ds.length = 1)
    (pl : ∀ ds h Q E', sp_is_integer ds h Q E' → t_is_integer P w K (fun _ => noX) { nx := fun _ h' => Q .non h', rt := Q } (startD N_is_integer ds) h) : GF P w K mg base 1 f fd [("thing" : Str)] sp_is_integer := by
  refine gf_of (k := 0) F sc_is_integer ln fun cdv A outer s H E ds h Q E' hr hg kx hs => ?_
  · have ru := room_u hr
    exact ⟨t_is_integer P w K (fun _ => noX), (qss_one (qs_ret (qe_and (qe_callB cd_isi rfl (L.n "isinstance") b_isinstance (qa_cons (qv 0) (qa_cons (qe_ty (L.n "int") b_int) qa_nil))) (qe_one (qe_not (qe_callB cd_isi rfl (L.n "isinstance") b_isinstance (qa_cons (qv 0) (qa_cons (qe_ty (L.n "bool") b_bool) qa_nil)))))))), pl ds h Q E' hs⟩
/-! ### is_within -/
abbrev s_is_within : Stmt := atS PySem.Challenge.pw_tellsless_k65_whole_first_rounds_of_mach 8
abbrev N_is_within : List Str := [("thing" : Str), ("least" : Str), ("most" : Str)]
theorem sc_is_within : FnScope N_is_within [("thing" : Str), ("least" : Str), ("most" : Str)] (defScope s_is_within) := ⟨rfl, rfl, rfl, by decide +kernel, rfl, by decide +kernel, by decide +kernel⟩
theorem w_is_within {P : Program} {w : World} {K : PySem.W.Frag} {mg : Str → Option Value} {base : Heap} {f : Addr} {fd : FuncData} (L : Lib mg) (D_is_integer : Dn P w K mg base "is_integer" 1 [("thing" : Str)] sp_is_integer)
    (F : Fun K "is_within" "is_within" s_is_within f fd) (ln : ∀ ds h Q E, sp_is_within ds h Q E → ds.length = 3)
    (pl : ∀ ds h Q E', sp_is_within ds h Q E' → t_is_within P w K (fun _ => noX) { nx := fun _ h' => Q .non h', rt := Q } (startD N_is_within ds) h) : GF P w K mg base 2 f fd [("thing" : Str), ("least" : Str), ("most" : Str)] sp_is_within := by
  refine gf_of (k := 1) F sc_is_within ln fun cdv A outer s H E ds h Q E' hr hg kx hs => ?_
  · have ru := room_u hr
    exact ⟨t_is_within P w K (fun _ => noX), (qss_one (qs_ret (qe_and (qe_fn D_is_integer (hr.mono (by omega)) hg TkD.none (qa_cons (qv 0) qa_nil)) (qe_one (qe_chain od_le od_le (qv 1) (qv 0) (qv 2)))))), pl ds h Q E' hs⟩
/-! ### is_sized -/
abbrev s_is_sized : Stmt := atS PySem.Challenge.pw_tellsless_k65_whole_first_rounds_of_mach 9
abbrev N_is_sized : List Str := [("thing" : Str), ("least" : Str), ("most" : Str)]
theorem sc_is_sized : FnScope N_is_sized [("thing" : Str), ("least" : Str), ("most" : Str)] (defScope s_is_sized) := ⟨rfl, rfl, rfl, by decide +kernel, rfl, by decide +kernel, by decide +kernel⟩
theorem w_is_sized {P : Program} {w : World} {K : PySem.W.Frag} {mg : Str → Option Value} {base : Heap} {f : Addr} {fd : FuncData} (L : Lib mg) 
    (F : Fun K "is_sized" "is_sized" s_is_sized f fd) (ln : ∀ ds h Q E, sp_is_sized ds h Q E → ds.length = 3)
    (pl : ∀ ds h Q E', sp_is_sized ds h Q E' → t_is_sized P w K (fun _ => noX) { nx := fun _ h' => Q .non h', rt := Q } (startD N_is_sized ds) h) : GF P w K mg base 1 f fd [("thing" : Str), ("least" : Str), ("most" : Str)] sp_is_sized := by
  refine gf_of (k := 0) F sc_is_sized ln fun cdv A outer s H E ds h Q E' hr hg kx hs => ?_
  · have ru := room_u hr
    exact ⟨t_is_sized P w K (fun _ => noX), (qss_one (qs_ret (qe_and (qe_callB cd_isi rfl (L.n "isinstance") b_isinstance (qa_cons (qv 0) (qa_cons (qe_ty (L.n "tuple") b_tuple) qa_nil))) (qe_one (qe_chain od_le od_le (qv 1) (qe_callB cd_lenA rfl (L.n "len") b_len (qa_cons (qv 0) qa_nil)) (qv 2)))))), pl ds h Q E' hs⟩
/-! ### is_pair -/
abbrev s_is_pair : Stmt := atS PySem.Challenge.pw_tellsless_k65_whole_first_rounds_of_mach 10
abbrev N_is_pair : List Str := [("thing" : Str)]
theorem sc_is_pair : FnScope N_is_pair [("thing" : Str)] (defScope s_is_pair) := ⟨rfl, rfl, rfl, by decide +kernel, rfl, by decide +kernel, by decide +kernel⟩
theorem w_is_pair {P : Program} {w : World} {K : PySem.W.Frag} {mg : Str → Option Value} {base : Heap} {f : Addr} {fd : FuncData} (L : Lib mg) 
    (F : Fun K "is_pair" "is_pair" s_is_pair f fd) (ln : ∀ ds h Q E, sp_is_pair ds h Q E → ds.length = 1)
    (pl : ∀ ds h Q E', sp_is_pair ds h Q E' → t_is_pair P w K (fun _ => noX) { nx := fun _ h' => Q .non h', rt := Q } (startD N_is_pair ds) h) : GF P w K mg base 1 f fd [("thing" : Str)] sp_is_pair := by
  refine gf_of (k := 0) F sc_is_pair ln fun cdv A outer s H E ds h Q E' hr hg kx hs => ?_
  · have ru := room_u hr
    exact ⟨t_is_pair P w K (fun _ => noX), (qss_one (qs_ret (qe_and (qe_callB cd_isi rfl (L.n "isinstance") b_isinstance (qa_cons (qv 0) (qa_cons (qe_ty (L.n "tuple") b_tuple) qa_nil))) (qe_one (qe_cmp (od_eq (uu ru)) (qe_callB cd_lenA rfl (L.n "len") b_len (qa_cons (qv 0) qa_nil)) qe_int))))), pl ds h Q E' hs⟩
/-! ### is_triple -/
abbrev s_is_triple : Stmt := atS PySem.Challenge.pw_tellsless_k65_whole_first_rounds_of_mach 11
abbrev N_is_triple : List Str := [("thing" : Str)]
theorem sc_is_triple : FnScope N_is_triple [("thing" : Str)] (defScope s_is_triple) := ⟨rfl, rfl, rfl, by decide +kernel, rfl, by decide +kernel, by decide +kernel⟩
theorem w_is_triple {P : Program} {w : World} {K : PySem.W.Frag} {mg : Str → Option Value} {base : Heap} {f : Addr} {fd : FuncData} (L : Lib mg) 
    (F : Fun K "is_triple" "is_triple" s_is_triple f fd) (ln : ∀ ds h Q E, sp_is_triple ds h Q E → ds.length = 1)
    (pl : ∀ ds h Q E', sp_is_triple ds h Q E' → t_is_triple P w K (fun _ => noX) { nx := fun _ h' => Q .non h', rt := Q } (startD N_is_triple ds) h) : GF P w K mg base 1 f fd [("thing" : Str)] sp_is_triple := by
  refine gf_of (k := 0) F sc_is_triple ln fun cdv A outer s H E ds h Q E' hr hg kx hs => ?_
  · have ru := room_u hr
    exact ⟨t_is_triple P w K (fun _ => noX), (qss_one (qs_ret (qe_and (qe_callB cd_isi rfl (L.n "isinstance") b_isinstance (qa_cons (qv 0) (qa_cons (qe_ty (L.n "tuple") b_tuple) qa_nil))) (qe_one (qe_cmp (od_eq (uu ru)) (qe_callB cd_lenA rfl (L.n "len") b_len (qa_cons (qv 0) qa_nil)) qe_int))))), pl ds h Q E' hs⟩
/-! ### divisor -/
abbrev s_divisor : Stmt := atS PySem.Challenge.pw_tellsless_k65_whole_first_rounds_of_mach 17
abbrev N_divisor : List Str := [("one" : Str), ("other" : Str)]
theorem sc_divisor : FnScope N_divisor [("one" : Str), ("other" : Str)] (defScope s_divisor) := ⟨rfl, rfl, rfl, by decide +kernel, rfl, by decide +kernel, by decide +kernel⟩
theorem w_divisor {P : Program} {w : World} {K : PySem.W.Frag} {mg : Str → Option Value} {base : Heap} {f : Addr} {fd : FuncData} (L : Lib mg) 
    (F : Fun K "divisor" "divisor" s_divisor f fd) (ln : ∀ ds h Q E, sp_divisor ds h Q E → ds.length = 2)
    (pl : ∀ ds h Q E', sp_divisor ds h Q E' → t_divisor P w K (fun _ => noX) { nx := fun _ h' => Q .non h', rt := Q } (startD N_divisor ds) h) : GF P w K mg base 1 f fd [("one" : Str), ("other" : Str)] sp_divisor := by
  refine gf_of (k := 0) F sc_divisor ln fun cdv A outer s H E ds h Q E' hr hg kx hs => ?_
  · have ru := room_u hr
    exact ⟨t_divisor P w K (fun _ => noX), (qss_cons (qs_par rfl sc_divisor.nd rfl rfl (by decide) rfl rfl (qa_cons (qe_callB cd_abs rfl (L.n "abs") b_abs (qa_cons (qv 0) qa_nil)) (qa_cons (qe_callB cd_abs rfl (L.n "abs") b_abs (qa_cons (qv 1) qa_nil)) qa_nil)) (by rfl)) (qss_cons (qs_while (passes_of rfl) (qt_cmp (od_ne (uu ru)) (qv 1) qe_int) (qss_one (qs_par rfl sc_divisor.nd rfl rfl (by decide) rfl rfl (qa_cons (qv 1) (qa_cons (qe_op od_mod (qv 0) (qv 1)) qa_nil)) (by rfl)))) (qss_one (qs_ret (qv 0))))), pl ds h Q E' hs⟩
/-! ### lowest -/
abbrev s_lowest : Stmt := atS PySem.Challenge.pw_tellsless_k65_whole_first_rounds_of_mach 18
abbrev N_lowest : List Str := [("top" : Str), ("bottom" : Str), ("common" : Str)]
theorem sc_lowest : FnScope N_lowest [("top" : Str), ("bottom" : Str)] (defScope s_lowest) := ⟨rfl, rfl, rfl, by decide +kernel, rfl, by decide +kernel, by decide +kernel⟩
theorem w_lowest {P : Program} {w : World} {K : PySem.W.Frag} {mg : Str → Option Value} {base : Heap} {f : Addr} {fd : FuncData} (L : Lib mg) (D_divisor : Dn P w K mg base "divisor" 1 [("one" : Str), ("other" : Str)] sp_divisor)
    (F : Fun K "lowest" "lowest" s_lowest f fd) (ln : ∀ ds h Q E, sp_lowest ds h Q E → ds.length = 2)
    (pl : ∀ ds h Q E', sp_lowest ds h Q E' → t_lowest P w K (fun _ => noX) { nx := fun _ h' => Q .non h', rt := Q } (startD N_lowest ds) h) : GF P w K mg base 2 f fd [("top" : Str), ("bottom" : Str)] sp_lowest := by
  refine gf_of (k := 1) F sc_lowest ln fun cdv A outer s H E ds h Q E' hr hg kx hs => ?_
  · have ru := room_u hr
    exact ⟨t_lowest P w K (fun _ => noX), (qss_cons (qs_set sc_lowest.nd rfl (by first | exact .inl rfl | exact .inr rfl) (qe_if (qt_cmp od_gt (qv 1) qe_int) (qe_fn D_divisor (hr.mono (by omega)) hg TkD.none (qa_cons (qv 0) (qa_cons (qv 1) qa_nil))) (qe_un ud_neg (qe_fn D_divisor (hr.mono (by omega)) hg TkD.none (qa_cons (qv 0) (qa_cons (qv 1) qa_nil)))))) (qss_one (qs_ret (qe_tup (qa_cons (qe_op od_fdiv (qv 0) (qv 2)) (qa_cons (qe_op od_fdiv (qv 1) (qv 2)) qa_nil)))))), pl ds h Q E' hs⟩
/-! ### plus -/
abbrev s_plus : Stmt := atS PySem.Challenge.pw_tellsless_k65_whole_first_rounds_of_mach 19
abbrev N_plus : List Str := [("one" : Str), ("other" : Str)]
theorem sc_plus : FnScope N_plus [("one" : Str), ("other" : Str)] (defScope s_plus) := ⟨rfl, rfl, rfl, by decide +kernel, rfl, by decide +kernel, by decide +kernel⟩
theorem w_plus {P : Program} {w : World} {K : PySem.W.Frag} {mg : Str → Option Value} {base : Heap} {f : Addr} {fd : FuncData} (L : Lib mg) (D_lowest : Dn P w K mg base "lowest" 2 [("top" : Str), ("bottom" : Str)] sp_lowest)
    (F : Fun K "plus" "plus" s_plus f fd) (ln : ∀ ds h Q E, sp_plus ds h Q E → ds.length = 2)
    (pl : ∀ ds h Q E', sp_plus ds h Q E' → t_plus P w K (fun _ => noX) { nx := fun _ h' => Q .non h', rt := Q } (startD N_plus ds) h) : GF P w K mg base 3 f fd [("one" : Str), ("other" : Str)] sp_plus := by
  refine gf_of (k := 2) F sc_plus ln fun cdv A outer s H E ds h Q E' hr hg kx hs => ?_
  · have ru := room_u hr
    exact ⟨t_plus P w K (fun _ => noX), (qss_one (qs_ret (qe_fn D_lowest (hr.mono (by omega)) hg TkD.none (qa_cons (qe_op od_add (qe_op od_mul (qe_ix (xd_any (uu ru)) (qv 0) qe_int (fun _ _ => rfl)) (qe_ix (xd_any (uu ru)) (qv 1) qe_int (fun _ _ => rfl))) (qe_op od_mul (qe_ix (xd_any (uu ru)) (qv 1) qe_int (fun _ _ => rfl)) (qe_ix (xd_any (uu ru)) (qv 0) qe_int (fun _ _ => rfl)))) (qa_cons (qe_op od_mul (qe_ix (xd_any (uu ru)) (qv 0) qe_int (fun _ _ => rfl)) (qe_ix (xd_any (uu ru)) (qv 1) qe_int (fun _ _ => rfl))) qa_nil))))), pl ds h Q E' hs⟩
/-! ### total -/
abbrev s_total : Stmt := atS PySem.Challenge.pw_tellsless_k65_whole_first_rounds_of_mach 21
abbrev N_total : List Str := [("fractions" : Str), ("found" : Str), ("one" : Str)]
theorem sc_total : FnScope N_total [("fractions" : Str)] (defScope s_total) := ⟨rfl, rfl, rfl, by decide +kernel, rfl, by decide +kernel, by decide +kernel⟩
theorem w_total {P : Program} {w : World} {K : PySem.W.Frag} {mg : Str → Option Value} {base : Heap} {f : Addr} {fd : FuncData} (L : Lib mg) (D_plus : Dn P w K mg base "plus" 3 [("one" : Str), ("other" : Str)] sp_plus) (g_NOUGHT : GD K mg "NOUGHT" (.tup [(.int 0), (.int 1)]))
    (F : Fun K "total" "total" s_total f fd) (ln : ∀ ds h Q E, sp_total ds h Q E → ds.length = 1)
    (pl : ∀ ds h Q E', sp_total ds h Q E' → t_total P w K (fun _ => noX) { nx := fun _ h' => Q .non h', rt := Q } (startD N_total ds) h) : GF P w K mg base 4 f fd [("fractions" : Str)] sp_total := by
  refine gf_of (k := 3) F sc_total ln fun cdv A outer s H E ds h Q E' hr hg kx hs => ?_
  · have ru := room_u hr
    exact ⟨t_total P w K (fun _ => noX), (qss_cons (qs_set sc_total.nd rfl (by first | exact .inl rfl | exact .inr rfl) (qe_gd g_NOUGHT)) (qss_cons (qs_for (passes_of rfl) rfl (qi_any (qv 0)) (qg_name sc_total.nd rfl (by first | exact .inl rfl | exact .inr rfl)) (qss_one (qs_set sc_total.nd rfl (by first | exact .inl rfl | exact .inr rfl) (qe_fn D_plus (hr.mono (by omega)) hg TkD.none (qa_cons (qv 1) (qa_cons (qv 2) qa_nil)))))) (qss_one (qs_ret (qv 1))))), pl ds h Q E' hs⟩
/-! ### is_fraction -/
abbrev s_is_fraction : Stmt := atS PySem.Challenge.pw_tellsless_k65_whole_first_rounds_of_mach 22
abbrev N_is_fraction : List Str := [("thing" : Str)]
theorem sc_is_fraction : FnScope N_is_fraction [("thing" : Str)] (defScope s_is_fraction) := ⟨rfl, rfl, rfl, by decide +kernel, rfl, by decide +kernel, by decide +kernel⟩
theorem w_is_fraction {P : Program} {w : World} {K : PySem.W.Frag} {mg : Str → Option Value} {base : Heap} {f : Addr} {fd : FuncData} (L : Lib mg) (D_is_integer : Dn P w K mg base "is_integer" 1 [("thing" : Str)] sp_is_integer) (D_is_pair : Dn P w K mg base "is_pair" 1 [("thing" : Str)] sp_is_pair) (D_divisor : Dn P w K mg base "divisor" 1 [("one" : Str), ("other" : Str)] sp_divisor)
    (F : Fun K "is_fraction" "is_fraction" s_is_fraction f fd) (ln : ∀ ds h Q E, sp_is_fraction ds h Q E → ds.length = 1)
    (pl : ∀ ds h Q E', sp_is_fraction ds h Q E' → t_is_fraction P w K (fun _ => noX) { nx := fun _ h' => Q .non h', rt := Q } (startD N_is_fraction ds) h) : GF P w K mg base 2 f fd [("thing" : Str)] sp_is_fraction := by
  refine gf_of (k := 1) F sc_is_fraction ln fun cdv A outer s H E ds h Q E' hr hg kx hs => ?_
  · have ru := room_u hr
    exact ⟨t_is_fraction P w K (fun _ => noX), (qss_cons (qs_if (QW.t (qw_or (qt_not (qt_val (qe_fn D_is_pair (hr.mono (by omega)) hg TkD.none (qa_cons (qv 0) qa_nil)))) (qw_or (qt_not (qt_val (qe_fn D_is_integer (hr.mono (by omega)) hg TkD.none (qa_cons (qe_ix (xd_any (uu ru)) (qv 0) qe_int (fun _ _ => rfl)) qa_nil)))) (qw_or1 (qt_not (qt_val (qe_fn D_is_integer (hr.mono (by omega)) hg TkD.none (qa_cons (qe_ix (xd_any (uu ru)) (qv 0) qe_int (fun _ _ => rfl)) qa_nil)))))))) (qss_one (qs_ret qe_bl)) qss_nil) (qss_one (qs_ret (qe_and (qe_cmp od_gt (qe_ix (xd_any (uu ru)) (qv 0) qe_int (fun _ _ => rfl)) qe_int) (qe_one (qe_cmp (od_eq (uu ru)) (qe_fn D_divisor (hr.mono (by omega)) hg TkD.none (qa_cons (qe_ix (xd_any (uu ru)) (qv 0) qe_int (fun _ _ => rfl)) (qa_cons (qe_ix (xd_any (uu ru)) (qv 0) qe_int (fun _ _ => rfl)) qa_nil))) qe_int)))))), pl ds h Q E' hs⟩
/-! ### is_share -/
abbrev s_is_share : Stmt := atS PySem.Challenge.pw_tellsless_k65_whole_first_rounds_of_mach 24
abbrev N_is_share : List Str := [("thing" : Str)]
theorem sc_is_share : FnScope N_is_share [("thing" : Str)] (defScope s_is_share) := ⟨rfl, rfl, rfl, by decide +kernel, rfl, by decide +kernel, by decide +kernel⟩
theorem w_is_share {P : Program} {w : World} {K : PySem.W.Frag} {mg : Str → Option Value} {base : Heap} {f : Addr} {fd : FuncData} (L : Lib mg) (D_is_fraction : Dn P w K mg base "is_fraction" 2 [("thing" : Str)] sp_is_fraction)
    (F : Fun K "is_share" "is_share" s_is_share f fd) (ln : ∀ ds h Q E, sp_is_share ds h Q E → ds.length = 1)
    (pl : ∀ ds h Q E', sp_is_share ds h Q E' → t_is_share P w K (fun _ => noX) { nx := fun _ h' => Q .non h', rt := Q } (startD N_is_share ds) h) : GF P w K mg base 3 f fd [("thing" : Str)] sp_is_share := by
  refine gf_of (k := 2) F sc_is_share ln fun cdv A outer s H E ds h Q E' hr hg kx hs => ?_
  · have ru := room_u hr
    exact ⟨t_is_share P w K (fun _ => noX), (qss_one (qs_ret (qe_and (qe_fn D_is_fraction (hr.mono (by omega)) hg TkD.none (qa_cons (qv 0) qa_nil)) (qe_one (qe_chain (od_lt (u0 ru)) od_le qe_int (qe_ix (xd_any (uu ru)) (qv 0) qe_int (fun _ _ => rfl)) (qe_ix (xd_any (uu ru)) (qv 0) qe_int (fun _ _ => rfl))))))), pl ds h Q E' hs⟩
/-! ### are_shares -/
abbrev s_are_shares : Stmt := atS PySem.Challenge.pw_tellsless_k65_whole_first_rounds_of_mach 25
abbrev N_are_shares : List Str := [("things" : Str), ("one" : Str)]
theorem sc_are_shares : FnScope N_are_shares [("things" : Str)] (defScope s_are_shares) := ⟨rfl, rfl, rfl, by decide +kernel, rfl, by decide +kernel, by decide +kernel⟩
theorem w_are_shares {P : Program} {w : World} {K : PySem.W.Frag} {mg : Str → Option Value} {base : Heap} {f : Addr} {fd : FuncData} (L : Lib mg) (D_total : Dn P w K mg base "total" 4 [("fractions" : Str)] sp_total) (D_is_share : Dn P w K mg base "is_share" 3 [("thing" : Str)] sp_is_share) (g_ONE : GD K mg "ONE" (.tup [(.int 1), (.int 1)]))
    (F : Fun K "are_shares" "are_shares" s_are_shares f fd) (ln : ∀ ds h Q E, sp_are_shares ds h Q E → ds.length = 1)
    (pl : ∀ ds h Q E', sp_are_shares ds h Q E' → t_are_shares P w K (fun _ => noX) { nx := fun _ h' => Q .non h', rt := Q } (startD N_are_shares ds) h) : GF P w K mg base 5 f fd [("things" : Str)] sp_are_shares := by
  refine gf_of (k := 4) F sc_are_shares ln fun cdv A outer s H E ds h Q E' hr hg kx hs => ?_
  · have ru := room_u hr
    exact ⟨t_are_shares P w K (fun _ => noX), (qss_one (qs_ret (qe_and (qe_callB (cd_all rfl) rfl (L.n "all") b_all (qa_cons (qe_lc (own := [("one", 1)]) rfl sc_are_shares.nd (qi_any (qv 0)) (show BlkOk N_are_shares (defScope s_are_shares) _ [("one", 1)] from ⟨rfl, by decide +kernel, by decide +kernel, by decide +kernel, by decide +kernel⟩) (by decide) (fun _ _ _ _ _ => (tg_one sc_are_shares.nd rfl (.inl rfl) (K := _))) (fun _ _ _ _ _ => qts_nil) (fun _ _ _ _ _ => (qe_fn D_is_share (hr.mono (by omega)) hg TkD.none (qa_cons (qv 1) qa_nil)))) qa_nil)) (qe_one (qe_cmp (od_eq (uu ru)) (qe_fn D_total (hr.mono (by omega)) hg TkD.none (qa_cons (qv 0) qa_nil)) (qe_gd g_ONE)))))), pl ds h Q E' hs⟩
/-! ### _law_hand -/
abbrev s_l_hand : Stmt := atS PySem.Challenge.pw_tellsless_k65_whole_first_rounds_of_mach 64
abbrev N_l_hand : List Str := [("_law_script" : Str), ("_law_cells" : Str), ("_law_cell" : Str)]
theorem sc_l_hand : FnScope N_l_hand [("_law_script" : Str)] (defScope s_l_hand) := ⟨rfl, rfl, rfl, by decide +kernel, rfl, by decide +kernel, by decide +kernel⟩
theorem w_l_hand {P : Program} {w : World} {K : PySem.W.Frag} {mg : Str → Option Value} {base : Heap} {f : Addr} {fd : FuncData} (L : Lib mg) 
    (F : Fun K "_law_hand" "_law_hand" s_l_hand f fd) (ln : ∀ ds h Q E, sp_l_hand ds h Q E → ds.length = 1)
    (pl : ∀ ds h Q E', sp_l_hand ds h Q E' → t_l_hand P w K (fun _ => noX) { nx := fun _ h' => Q .non h', rt := Q } (startD N_l_hand ds) h) : GF P w K mg base 1 f fd [("_law_script" : Str)] sp_l_hand := by
  refine gf_of (k := 0) F sc_l_hand ln fun cdv A outer s H E ds h Q E' hr hg kx hs => ?_
  · have ru := room_u hr
    exact ⟨t_l_hand P w K (fun _ => noX), (qss_cons (qs_setLc (own := [("_law_cell", 2)]) rfl sc_l_hand.nd rfl rfl (sw_true rfl rfl rfl rfl) (qi_any (qe_slice (qv 0) qo_none (qo_some qe_int))) (show BlkOk N_l_hand (defScope s_l_hand) _ [("_law_cell", 2)] from ⟨rfl, by decide +kernel, by decide +kernel, by decide +kernel, by decide +kernel⟩) (by decide) (fun _ _ _ _ _ => (tg_one sc_l_hand.nd rfl (.inl rfl) (K := _))) (fun _ _ _ _ _ => qts_nil) (fun _ _ _ _ _ => (qe_callB cd_abs rfl (L.n "abs") b_abs (qa_cons (qe_callTy cd_int rfl (L.n "int") b_int (qa_cons (qv 2) qa_nil)) qa_nil)))) (qss_one (qs_ret (qe_lst (qa_cons (qv 1) (qa_cons qe_int (qa_cons qe_int (qa_cons (qe_op od_add qe_int (qe_callB cd_lenA rfl (L.n "len") b_len (qa_cons (qv 1) qa_nil))) (qa_cons qe_int qa_nil))))))))), pl ds h Q E' hs⟩
/-! ### _law_draw -/
abbrev s_l_draw : Stmt := atS PySem.Challenge.pw_tellsless_k65_whole_first_rounds_of_mach 65
abbrev N_l_draw : List Str := [("_law_hand_here" : Str), ("_law_many" : Str), ("_law_number" : Str), ("_law_cell" : Str), ("_law_digit" : Str)]
theorem sc_l_draw : FnScope N_l_draw [("_law_hand_here" : Str), ("_law_many" : Str)] (defScope s_l_draw) := ⟨rfl, rfl, rfl, by decide +kernel, rfl, by decide +kernel, by decide +kernel⟩
theorem w_l_draw {P : Program} {w : World} {K : PySem.W.Frag} {mg : Str → Option Value} {base : Heap} {f : Addr} {fd : FuncData} (L : Lib mg) 
    (F : Fun K "_law_draw" "_law_draw" s_l_draw f fd) (ln : ∀ ds h Q E, sp_l_draw ds h Q E → ds.length = 2)
    (pl : ∀ ds h Q E', sp_l_draw ds h Q E' → t_l_draw P w K (fun _ => noX) { nx := fun _ h' => Q .non h', rt := Q } (startD N_l_draw ds) h) : GF P w K mg base 1 f fd [("_law_hand_here" : Str), ("_law_many" : Str)] sp_l_draw := by
  refine gf_of (k := 0) F sc_l_draw ln fun cdv A outer s H E ds h Q E' hr hg kx hs => ?_
  · have ru := room_u hr
    exact ⟨t_l_draw P w K (fun _ => noX), (qss_cut (qs_if (QW.t (qw_and (qt_cmp (od_eq (uu ru)) (qe_ix (xd_any (uu ru)) (qv 0) qe_int (fun _ _ => rfl)) qe_int) (qw_and1 (qt_cmp (od_lt (u0 ru)) (qe_ix (xd_any (uu ru)) (qv 0) qe_int (fun _ _ => rfl)) (qe_callB cd_lenA rfl (L.n "len") b_len (qa_cons (qe_ix (xd_any (uu ru)) (qv 0) qe_int (fun _ _ => rfl)) qa_nil)))))) (qss_cons (qs_set sc_l_draw.nd rfl (by first | exact .inl rfl | exact .inr rfl) (qe_ix (xd_any (uu ru)) (qe_ix (xd_any (uu ru)) (qv 0) qe_int (fun _ _ => rfl)) (qe_ix (xd_any (uu ru)) (qv 0) qe_int (fun _ _ => rfl)) (fun _ _ => rfl))) (qss_cons (qs_asg (qe_op od_add (qe_ix (xd_any (uu ru)) (qv 0) qe_int (fun _ _ => rfl)) qe_int) (qg_sub (qv 0) qe_int (sd_any (uu ru)))) (qss_cons (qs_asg (qe_op od_mod (qe_callTy cd_int rfl (L.n "int") b_int (qa_cons (qe_op od_add (qe_op od_add (qe_op od_mul (qe_ix (xd_any (uu ru)) (qv 0) qe_int (fun _ _ => rfl)) qe_int) (qv 3)) qe_int) qa_nil)) qe_int) (qg_sub (qv 0) qe_int (sd_any (uu ru)))) (qss_one (qs_if (qt_cmp od_ge (qv 3) (qe_op od_pow qe_int qe_int)) (qss_one (qs_asg (qv 3) (qg_sub (qv 0) qe_int (sd_any (uu ru))))) qss_nil))))) qss_nil) (qss_cons (qs_if (qt_cmp od_gt (qe_ix (xd_any (uu ru)) (qv 0) qe_int (fun _ _ => rfl)) qe_int) (qss_cons (qs_set sc_l_draw.nd rfl (by first | exact .inl rfl | exact .inr rfl) (qe_op od_mod (qe_callTy cd_int rfl (L.n "int") b_int (qa_cons (qe_ix (xd_any (uu ru)) (qv 0) qe_int (fun _ _ => rfl)) qa_nil)) (qv 1))) (qss_cons (qs_asg (qe_op od_fdiv (qe_ix (xd_any (uu ru)) (qv 0) qe_int (fun _ _ => rfl)) (qv 1)) (qg_sub (qv 0) qe_int (sd_any (uu ru)))) (qss_one (qs_ret (qv 4))))) qss_nil) (qss_cons (qs_asg (qe_op od_add (qe_ix (xd_any (uu ru)) (qv 0) qe_int (fun _ _ => rfl)) qe_int) (qg_sub (qv 0) qe_int (sd_any (uu ru)))) (qss_cons (qs_set sc_l_draw.nd rfl (by first | exact .inl rfl | exact .inr rfl) (qe_op od_mod (qe_callTy cd_int rfl (L.n "int") b_int (qa_cons (qe_op od_mul (qe_callTy cd_int rfl (L.n "int") b_int (qa_cons (qe_op od_add (qe_ix (xd_any (uu ru)) (qv 0) qe_int (fun _ _ => rfl)) (qe_op od_mul qe_int (qe_ix (xd_any (uu ru)) (qv 0) qe_int (fun _ _ => rfl)))) qa_nil)) qe_int) qa_nil)) qe_int)) (qss_cons (qs_set sc_l_draw.nd rfl (by first | exact .inl rfl | exact .inr rfl) (qe_op od_mod (qe_callTy cd_int rfl (L.n "int") b_int (qa_cons (qe_op od_mul (qv 2) (qe_op od_add (qe_op od_fdiv (qv 2) qe_int) qe_int)) qa_nil)) qe_int)) (qss_cons (qs_set sc_l_draw.nd rfl (by first | exact .inl rfl | exact .inr rfl) (qe_op od_mod (qe_callTy cd_int rfl (L.n "int") b_int (qa_cons (qe_op od_mul (qv 2) (qe_op od_add (qe_op od_fdiv (qv 2) qe_int) qe_int)) qa_nil)) qe_int)) (qss_one (qs_ret (qe_op od_mod (qe_callTy cd_int rfl (L.n "int") b_int (qa_cons (qe_op od_fdiv (qv 2) qe_int) qa_nil)) (qv 1)))))))))), pl ds h Q E' hs⟩
/-! ### _law_any -/
abbrev s_l_any : Stmt := atS PySem.Challenge.pw_tellsless_k65_whole_first_rounds_of_mach 66
abbrev N_l_any : List Str := [("_law_hand_here" : Str), ("_law_things" : Str)]
theorem sc_l_any : FnScope N_l_any [("_law_hand_here" : Str), ("_law_things" : Str)] (defScope s_l_any) := ⟨rfl, rfl, rfl, by decide +kernel, rfl, by decide +kernel, by decide +kernel⟩
theorem w_l_any {P : Program} {w : World} {K : PySem.W.Frag} {mg : Str → Option Value} {base : Heap} {f : Addr} {fd : FuncData} (L : Lib mg) (D__law_draw : Dn P w K mg base "_law_draw" 1 [("_law_hand_here" : Str), ("_law_many" : Str)] sp_l_draw)
    (F : Fun K "_law_any" "_law_any" s_l_any f fd) (ln : ∀ ds h Q E, sp_l_any ds h Q E → ds.length = 2)
    (pl : ∀ ds h Q E', sp_l_any ds h Q E' → t_l_any P w K (fun _ => noX) { nx := fun _ h' => Q .non h', rt := Q } (startD N_l_any ds) h) : GF P w K mg base 2 f fd [("_law_hand_here" : Str), ("_law_things" : Str)] sp_l_any := by
  refine gf_of (k := 1) F sc_l_any ln fun cdv A outer s H E ds h Q E' hr hg kx hs => ?_
  · have ru := room_u hr
    exact ⟨t_l_any P w K (fun _ => noX), (qss_one (qs_ret (qe_ix (xd_any (uu ru)) (qv 1) (qe_fn D__law_draw (hr.mono (by omega)) hg TkD.none (qa_cons (qv 0) (qa_cons (qe_callB cd_lenA rfl (L.n "len") b_len (qa_cons (qv 1) qa_nil)) qa_nil))) (fun _ _ => rfl)))), pl ds h Q E' hs⟩
/-! ### _law_is -/
abbrev s_l_is : Stmt := atS PySem.Challenge.pw_tellsless_k65_whole_first_rounds_of_mach 67
abbrev N_l_is : List Str := [("_law_told_here" : Str), ("_law_due" : Str)]
theorem sc_l_is : FnScope N_l_is [("_law_told_here" : Str), ("_law_due" : Str)] (defScope s_l_is) := ⟨rfl, rfl, rfl, by decide +kernel, rfl, by decide +kernel, by decide +kernel⟩
theorem w_l_is {P : Program} {w : World} {K : PySem.W.Frag} {mg : Str → Option Value} {base : Heap} {f : Addr} {fd : FuncData} (L : Lib mg) 
    (F : Fun K "_law_is" "_law_is" s_l_is f fd) (ln : ∀ ds h Q E, sp_l_is ds h Q E → ds.length = 2)
    (pl : ∀ ds h Q E', sp_l_is ds h Q E' → t_l_is P w K (fun _ => noX) { nx := fun _ h' => Q .non h', rt := Q } (startD N_l_is ds) h) : GF P w K mg base 1 f fd [("_law_told_here" : Str), ("_law_due" : Str)] sp_l_is := by
  refine gf_of (k := 0) F sc_l_is ln fun cdv A outer s H E ds h Q E' hr hg kx hs => ?_
  · have ru := room_u hr
    exact ⟨t_l_is P w K (fun _ => noX), (qss_one (qs_ret (qe_cmp od_eqS (qe_callB (cd_repr hg (uu ru)) rfl (L.n "repr") b_repr (qa_cons (qv 0) qa_nil)) (qe_callB (cd_repr hg (uu ru)) rfl (L.n "repr") b_repr (qa_cons (qv 1) qa_nil))))), pl ds h Q E' hs⟩
/-! ### _law_low -/
abbrev s_l_low : Stmt := atS PySem.Challenge.pw_tellsless_k65_whole_first_rounds_of_mach 68
abbrev N_l_low : List Str := [("_law_top" : Str), ("_law_bottom" : Str), ("_law_one" : Str), ("_law_other" : Str)]
theorem sc_l_low : FnScope N_l_low [("_law_top" : Str), ("_law_bottom" : Str)] (defScope s_l_low) := ⟨rfl, rfl, rfl, by decide +kernel, rfl, by decide +kernel, by decide +kernel⟩
theorem w_l_low {P : Program} {w : World} {K : PySem.W.Frag} {mg : Str → Option Value} {base : Heap} {f : Addr} {fd : FuncData} (L : Lib mg) 
    (F : Fun K "_law_low" "_law_low" s_l_low f fd) (ln : ∀ ds h Q E, sp_l_low ds h Q E → ds.length = 2)
    (pl : ∀ ds h Q E', sp_l_low ds h Q E' → t_l_low P w K (fun _ => noX) { nx := fun _ h' => Q .non h', rt := Q } (startD N_l_low ds) h) : GF P w K mg base 1 f fd [("_law_top" : Str), ("_law_bottom" : Str)] sp_l_low := by
  refine gf_of (k := 0) F sc_l_low ln fun cdv A outer s H E ds h Q E' hr hg kx hs => ?_
  · have ru := room_u hr
    exact ⟨t_l_low P w K (fun _ => noX), (qss_cons (qs_par rfl sc_l_low.nd rfl rfl (by decide) rfl rfl (qa_cons (qe_callB cd_abs rfl (L.n "abs") b_abs (qa_cons (qv 0) qa_nil)) (qa_cons (qv 1) qa_nil)) (by rfl)) (qss_cons (qs_while (passes_of rfl) (qt_cmp od_gt (qv 3) qe_int) (qss_one (qs_par rfl sc_l_low.nd rfl rfl (by decide) rfl rfl (qa_cons (qv 3) (qa_cons (qe_op od_mod (qe_callTy cd_int rfl (L.n "int") b_int (qa_cons (qv 2) qa_nil)) (qv 3)) qa_nil)) (by rfl)))) (qss_one (qs_ret (qe_tup (qa_cons (qe_op od_fdiv (qv 0) (qv 2)) (qa_cons (qe_op od_fdiv (qv 1) (qv 2)) qa_nil))))))), pl ds h Q E' hs⟩
/-! ### _law_plus -/
abbrev s_l_plus : Stmt := atS PySem.Challenge.pw_tellsless_k65_whole_first_rounds_of_mach 69
abbrev N_l_plus : List Str := [("_law_one" : Str), ("_law_other" : Str)]
theorem sc_l_plus : FnScope N_l_plus [("_law_one" : Str), ("_law_other" : Str)] (defScope s_l_plus) := ⟨rfl, rfl, rfl, by decide +kernel, rfl, by decide +kernel, by decide +kernel⟩
theorem w_l_plus {P : Program} {w : World} {K : PySem.W.Frag} {mg : Str → Option Value} {base : Heap} {f : Addr} {fd : FuncData} (L : Lib mg) (D__law_low : Dn P w K mg base "_law_low" 1 [("_law_top" : Str), ("_law_bottom" : Str)] sp_l_low)
    (F : Fun K "_law_plus" "_law_plus" s_l_plus f fd) (ln : ∀ ds h Q E, sp_plus ds h Q E → ds.length = 2)
    (pl : ∀ ds h Q E', sp_plus ds h Q E' → t_l_plus P w K (fun _ => noX) { nx := fun _ h' => Q .non h', rt := Q } (startD N_l_plus ds) h) : GF P w K mg base 2 f fd [("_law_one" : Str), ("_law_other" : Str)] sp_plus := by
  refine gf_of (k := 1) F sc_l_plus ln fun cdv A outer s H E ds h Q E' hr hg kx hs => ?_
  · have ru := room_u hr
    exact ⟨t_l_plus P w K (fun _ => noX), (qss_one (qs_ret (qe_fn D__law_low (hr.mono (by omega)) hg TkD.none (qa_cons (qe_op od_add (qe_op od_mul (qe_ix (xd_any (uu ru)) (qv 0) qe_int (fun _ _ => rfl)) (qe_ix (xd_any (uu ru)) (qv 1) qe_int (fun _ _ => rfl))) (qe_op od_mul (qe_ix (xd_any (uu ru)) (qv 1) qe_int (fun _ _ => rfl)) (qe_ix (xd_any (uu ru)) (qv 0) qe_int (fun _ _ => rfl)))) (qa_cons (qe_op od_mul (qe_ix (xd_any (uu ru)) (qv 0) qe_int (fun _ _ => rfl)) (qe_ix (xd_any (uu ru)) (qv 1) qe_int (fun _ _ => rfl))) qa_nil))))), pl ds h Q E' hs⟩
/-! ### _law_sum -/
abbrev s_l_sum : Stmt := atS PySem.Challenge.pw_tellsless_k65_whole_first_rounds_of_mach 71
abbrev N_l_sum : List Str := [("_law_some" : Str), ("_law_found" : Str), ("_law_one" : Str)]
theorem sc_l_sum : FnScope N_l_sum [("_law_some" : Str)] (defScope s_l_sum) := ⟨rfl, rfl, rfl, by decide +kernel, rfl, by decide +kernel, by decide +kernel⟩
theorem w_l_sum {P : Program} {w : World} {K : PySem.W.Frag} {mg : Str → Option Value} {base : Heap} {f : Addr} {fd : FuncData} (L : Lib mg) (D__law_plus : Dn P w K mg base "_law_plus" 2 [("_law_one" : Str), ("_law_other" : Str)] sp_plus)
    (F : Fun K "_law_sum" "_law_sum" s_l_sum f fd) (ln : ∀ ds h Q E, sp_total ds h Q E → ds.length = 1)
    (pl : ∀ ds h Q E', sp_total ds h Q E' → t_l_sum P w K (fun _ => noX) { nx := fun _ h' => Q .non h', rt := Q } (startD N_l_sum ds) h) : GF P w K mg base 3 f fd [("_law_some" : Str)] sp_total := by
  refine gf_of (k := 2) F sc_l_sum ln fun cdv A outer s H E ds h Q E' hr hg kx hs => ?_
  · have ru := room_u hr
    exact ⟨t_l_sum P w K (fun _ => noX), (qss_cons (qs_set sc_l_sum.nd rfl (by first | exact .inl rfl | exact .inr rfl) (qe_tup (qa_cons qe_int (qa_cons qe_int qa_nil)))) (qss_cons (qs_for (passes_of rfl) rfl (qi_any (qv 0)) (qg_name sc_l_sum.nd rfl (by first | exact .inl rfl | exact .inr rfl)) (qss_one (qs_set sc_l_sum.nd rfl (by first | exact .inl rfl | exact .inr rfl) (qe_fn D__law_plus (hr.mono (by omega)) hg TkD.none (qa_cons (qv 1) (qa_cons (qv 2) qa_nil)))))) (qss_one (qs_ret (qv 1))))), pl ds h Q E' hs⟩
end K65

-- K65B
set_option Elab.async false
set_option linter.all false
set_option maxRecDepth 100000
set_option maxHeartbeats 4000000
/-! printed by gen.py: the walks of the defs -/
namespace K65
open PySem PySem.Spec PyProof.Rows L2 PD PM

/-! ### are_rows -/
abbrev s_are_rows : Stmt := atS PySem.Challenge.pw_tellsless_k65_whole_first_rounds_of_mach 52
abbrev N_are_rows : List Str := [("thing" : Str), ("row" : Str)]
theorem sc_are_rows : FnScope N_are_rows [("thing" : Str)] (defScope s_are_rows) := ⟨rfl, rfl, rfl, by decide +kernel, rfl, by decide +kernel, by decide +kernel⟩
theorem w_are_rows {P : Program} {w : World} {K : PySem.W.Frag} {mg : Str → Option Value} {base : Heap} {f : Addr} {fd : FuncData} (L : Lib mg) (D_is_sized : Dn P w K mg base "is_sized" 1 [("thing" : Str), ("least" : Str), ("most" : Str)] sp_is_sized) (g_MOST_ASKED : GD K mg "MOST_ASKED" (.int 4)) (g_MOST_STANDINGS : GD K mg "MOST_STANDINGS" (.int 6))
    (F : Fun K "are_rows" "are_rows" s_are_rows f fd) (ln : ∀ ds h Q E, sp_are_rows ds h Q E → ds.length = 1)
    (pl : ∀ ds h Q E', sp_are_rows ds h Q E' → t_are_rows P w K (fun _ => noX) { nx := fun _ h' => Q .non h', rt := Q } (startD N_are_rows ds) h) : GF P w K mg base 3 f fd [("thing" : Str)] sp_are_rows := by
  refine gf_of (k := 2) F sc_are_rows ln fun cdv A outer s H E ds h Q E' hr hg kx hs => ?_
  · have ru := room_u hr
    exact ⟨t_are_rows P w K (fun _ => noX), (qss_cons (qs_if (QW.t (qw_or (qt_not (qt_val (qe_fn D_is_sized (hr.mono (by omega)) hg TkD.none (qa_cons (qv 0) (qa_cons qe_int (qa_cons (qe_gd g_MOST_STANDINGS) qa_nil)))))) (qw_or1 (qt_not (qt_val (qe_callB (cd_all rfl) rfl (L.n "all") b_all (qa_cons (qe_lc (own := [("row", 1)]) rfl sc_are_rows.nd (qi_any (qv 0)) (show BlkOk N_are_rows (defScope s_are_rows) _ [("row", 1)] from ⟨rfl, by decide +kernel, by decide +kernel, by decide +kernel, by decide +kernel⟩) (by decide) (fun _ _ _ _ _ => (tg_one sc_are_rows.nd rfl (.inl rfl) (K := _))) (fun _ _ _ _ _ => qts_nil) (fun _ _ _ _ _ => (qe_fn D_is_sized (hr.mono (by omega)) hg TkD.none (qa_cons (qv 1) (qa_cons qe_int (qa_cons (qe_gd g_MOST_ASKED) qa_nil)))))) qa_nil))))))) (qss_one (qs_ret qe_bl)) qss_nil) (qss_one (qs_ret (qe_callB (cd_all rfl) rfl (L.n "all") b_all (qa_cons (qe_lc (own := [("row", 1)]) rfl sc_are_rows.nd (qi_any (qv 0)) (show BlkOk N_are_rows (defScope s_are_rows) _ [("row", 1)] from ⟨rfl, by decide +kernel, by decide +kernel, by decide +kernel, by decide +kernel⟩) (by decide) (fun _ _ _ _ _ => (tg_one sc_are_rows.nd rfl (.inl rfl) (K := _))) (fun _ _ _ _ _ => qts_nil) (fun _ _ _ _ _ => (qe_cmp (od_eq (uu ru)) (qe_callB cd_lenA rfl (L.n "len") b_len (qa_cons (qv 1) qa_nil)) (qe_callB cd_lenA rfl (L.n "len") b_len (qa_cons (qe_ix (xd_any (uu ru)) (qv 0) qe_int (fun _ _ => rfl)) qa_nil))))) qa_nil))))), pl ds h Q E' hs⟩
/-! ### is_step -/
abbrev s_is_step : Stmt := atS PySem.Challenge.pw_tellsless_k65_whole_first_rounds_of_mach 53
abbrev N_is_step : List Str := [("words" : Str), ("standings" : Str), ("thing" : Str)]
theorem sc_is_step : FnScope N_is_step [("words" : Str), ("standings" : Str), ("thing" : Str)] (defScope s_is_step) := ⟨rfl, rfl, rfl, by decide +kernel, rfl, by decide +kernel, by decide +kernel⟩
theorem w_is_step {P : Program} {w : World} {K : PySem.W.Frag} {mg : Str → Option Value} {base : Heap} {f : Addr} {fd : FuncData} (L : Lib mg) (D_is_within : Dn P w K mg base "is_within" 2 [("thing" : Str), ("least" : Str), ("most" : Str)] sp_is_within) (D_is_triple : Dn P w K mg base "is_triple" 1 [("thing" : Str)] sp_is_triple) (D_is_share : Dn P w K mg base "is_share" 3 [("thing" : Str)] sp_is_share)
    (F : Fun K "is_step" "is_step" s_is_step f fd) (ln : ∀ ds h Q E, sp_is_step ds h Q E → ds.length = 3)
    (pl : ∀ ds h Q E', sp_is_step ds h Q E' → t_is_step P w K (fun _ => noX) { nx := fun _ h' => Q .non h', rt := Q } (startD N_is_step ds) h) : GF P w K mg base 4 f fd [("words" : Str), ("standings" : Str), ("thing" : Str)] sp_is_step := by
  refine gf_of (k := 3) F sc_is_step ln fun cdv A outer s H E ds h Q E' hr hg kx hs => ?_
  · have ru := room_u hr
    exact ⟨t_is_step P w K (fun _ => noX), (qss_cons (qs_if (QW.t (qw_or (qt_not (qt_val (qe_fn D_is_triple (hr.mono (by omega)) hg TkD.none (qa_cons (qv 2) qa_nil)))) (qw_or1 (qt_not (qt_val (qe_fn D_is_within (hr.mono (by omega)) hg TkD.none (qa_cons (qe_ix (xd_any (uu ru)) (qv 2) qe_int (fun _ _ => rfl)) (qa_cons qe_int (qa_cons (qe_op od_sub (qv 0) qe_int) qa_nil))))))))) (qss_one (qs_ret qe_bl)) qss_nil) (qss_one (qs_ret (qe_and (qe_fn D_is_share (hr.mono (by omega)) hg TkD.none (qa_cons (qe_ix (xd_any (uu ru)) (qv 2) qe_int (fun _ _ => rfl)) qa_nil)) (qe_one (qe_fn D_is_within (hr.mono (by omega)) hg TkD.none (qa_cons (qe_ix (xd_any (uu ru)) (qv 2) qe_int (fun _ _ => rfl)) (qa_cons qe_int (qa_cons (qe_op od_sub (qv 1) qe_int) qa_nil))))))))), pl ds h Q E' hs⟩
/-! ### are_steps -/
abbrev s_are_steps : Stmt := atS PySem.Challenge.pw_tellsless_k65_whole_first_rounds_of_mach 54
abbrev N_are_steps : List Str := [("words" : Str), ("standings" : Str), ("thing" : Str), ("pairs" : Str), ("word" : Str), ("share" : Str), ("standing" : Str), ("step" : Str)]
theorem sc_are_steps : FnScope N_are_steps [("words" : Str), ("standings" : Str), ("thing" : Str)] (defScope s_are_steps) := ⟨rfl, rfl, rfl, by decide +kernel, rfl, by decide +kernel, by decide +kernel⟩
theorem w_are_steps {P : Program} {w : World} {K : PySem.W.Frag} {mg : Str → Option Value} {base : Heap} {f : Addr} {fd : FuncData} (L : Lib mg) (D_is_step : Dn P w K mg base "is_step" 4 [("words" : Str), ("standings" : Str), ("thing" : Str)] sp_is_step) (D_is_sized : Dn P w K mg base "is_sized" 1 [("thing" : Str), ("least" : Str), ("most" : Str)] sp_is_sized) (D_are_shares : Dn P w K mg base "are_shares" 5 [("things" : Str)] sp_are_shares) (g_MOST_TRIPLES : GD K mg "MOST_TRIPLES" (.int 12))
    (F : Fun K "are_steps" "are_steps" s_are_steps f fd) (ln : ∀ ds h Q E, sp_are_steps ds h Q E → ds.length = 3)
    (pl : ∀ ds h Q E', sp_are_steps ds h Q E' → t_are_steps P w K (fun _ => noX) { nx := fun _ h' => Q .non h', rt := Q } (startD N_are_steps ds) h) : GF P w K mg base 6 f fd [("words" : Str), ("standings" : Str), ("thing" : Str)] sp_are_steps := by
  refine gf_of (k := 5) F sc_are_steps ln fun cdv A outer s H E ds h Q E' hr hg kx hs => ?_
  · have ru := room_u hr
    exact ⟨t_are_steps P w K (fun _ => noX), (qss_cons (qs_if (QW.t (qw_or (qt_not (qt_val (qe_fn D_is_sized (hr.mono (by omega)) hg TkD.none (qa_cons (qv 2) (qa_cons qe_int (qa_cons (qe_gd g_MOST_TRIPLES) qa_nil)))))) (qw_or1 (qt_not (qt_val (qe_callB (cd_all rfl) rfl (L.n "all") b_all (qa_cons (qe_lc (own := [("step", 7)]) rfl sc_are_steps.nd (qi_any (qv 2)) (show BlkOk N_are_steps (defScope s_are_steps) _ [("step", 7)] from ⟨rfl, by decide +kernel, by decide +kernel, by decide +kernel, by decide +kernel⟩) (by decide) (fun _ _ _ _ _ => (tg_one sc_are_steps.nd rfl (.inl rfl) (K := _))) (fun _ _ _ _ _ => qts_nil) (fun _ _ _ _ _ => (qe_fn D_is_step (hr.mono (by omega)) hg TkD.none (qa_cons (qv 0) (qa_cons (qv 1) (qa_cons (qv 7) qa_nil)))))) qa_nil))))))) (qss_one (qs_ret qe_bl)) qss_nil) (qss_cons (qs_setDc (own := [("word", 4), ("share", 5), ("standing", 6)]) (uu ru) rfl sc_are_steps.nd rfl rfl (sw_trueD rfl rfl rfl rfl) (qi_any (qv 2)) (show BlkOk N_are_steps (defScope s_are_steps) _ [("word", 4), ("share", 5), ("standing", 6)] from ⟨rfl, by decide +kernel, by decide +kernel, by decide +kernel, by decide +kernel⟩) (by decide) (fun _ _ _ _ _ => (tg_many rfl (tg_cons sc_are_steps.nd rfl (.inl rfl) (tg_cons sc_are_steps.nd rfl (.inl rfl) (tg_cons sc_are_steps.nd rfl (.inl rfl) tg_nil))))) (fun _ _ _ _ _ => qts_nil) (fun _ _ _ _ _ => (qe_tup (qa_cons (qv 4) (qa_cons (qv 6) qa_nil)))) (fun _ _ _ _ _ => qe_bl)) (qss_one (qs_ret (qe_and (qe_cmp (od_eq (uu ru)) (qe_callB cd_lenA rfl (L.n "len") b_len (qa_cons (qv 3) qa_nil)) (qe_callB cd_lenA rfl (L.n "len") b_len (qa_cons (qv 2) qa_nil))) (qe_one (qe_fn D_are_shares (hr.mono (by omega)) hg TkD.none (qa_cons (qe_lc (own := [("word", 4), ("share", 5), ("standing", 6)]) rfl sc_are_steps.nd (qi_any (qv 2)) (show BlkOk N_are_steps (defScope s_are_steps) _ [("word", 4), ("share", 5), ("standing", 6)] from ⟨rfl, by decide +kernel, by decide +kernel, by decide +kernel, by decide +kernel⟩) (by decide) (fun _ _ _ _ _ => (tg_many rfl (tg_cons sc_are_steps.nd rfl (.inl rfl) (tg_cons sc_are_steps.nd rfl (.inl rfl) (tg_cons sc_are_steps.nd rfl (.inl rfl) tg_nil))))) (fun _ _ _ _ _ => qts_nil) (fun _ _ _ _ _ => (qv 5))) qa_nil)))))))), pl ds h Q E' hs⟩
/-! ### check_rows -/
abbrev s_check_rows : Stmt := atS PySem.Challenge.pw_tellsless_k65_whole_first_rounds_of_mach 55
abbrev N_check_rows : List Str := [("worlds" : Str), ("words" : Str), ("rows" : Str), ("standing" : Str), ("row" : Str), ("number" : Str), ("question" : Str), ("world" : Str), ("steps" : Str)]
theorem sc_check_rows : FnScope N_check_rows [("worlds" : Str), ("words" : Str), ("rows" : Str)] (defScope s_check_rows) := ⟨rfl, rfl, rfl, by decide +kernel, rfl, by decide +kernel, by decide +kernel⟩
theorem w_check_rows {P : Program} {w : World} {K : PySem.W.Frag} {mg : Str → Option Value} {base : Heap} {f : Addr} {fd : FuncData} (L : Lib mg) (D_is_sized : Dn P w K mg base "is_sized" 1 [("thing" : Str), ("least" : Str), ("most" : Str)] sp_is_sized) (D_are_steps : Dn P w K mg base "are_steps" 6 [("words" : Str), ("standings" : Str), ("thing" : Str)] sp_are_steps) (E_BadMachine : De K P w mg base "BadMachine" (He.ga K "BadMachine") "part" "part")
    (F : Fun K "check_rows" "check_rows" s_check_rows f fd) (ln : ∀ ds h Q E, (sp_check_rows K) ds h Q E → ds.length = 3)
    (pl : ∀ ds h Q E', (sp_check_rows K) ds h Q E' → t_check_rows P w K (fun _ => E') { nx := fun _ h' => Q .non h', rt := Q } (startD N_check_rows ds) h) : GF P w K mg base 7 f fd [("worlds" : Str), ("words" : Str), ("rows" : Str)] (sp_check_rows K) := by
  refine gf_of (k := 6) F sc_check_rows ln fun cdv A outer s H E ds h Q E' hr hg kx hs => ?_
  · have ru := room_u hr
    have tk : TkD (bodyX P w K mg base N_check_rows "check_rows" (defScope s_check_rows) f cdv A outer s H E) (H, h) fun _ => E' := TkD.body kx
    exact ⟨t_check_rows P w K (fun _ => E'), (qss_one (qs_for (passes_of rfl) rfl (qi_enum rfl (L.n "enumerate") (qa_cons (qv 2) qa_nil)) (qg_tup rfl (qgs_cons (qg_name sc_check_rows.nd rfl (by first | exact .inl rfl | exact .inr rfl)) (qgs_cons (qg_name sc_check_rows.nd rfl (by first | exact .inl rfl | exact .inr rfl)) qgs_nil))) (qss_one (qs_for (passes_of rfl) rfl (qi_enum rfl (L.n "enumerate") (qa_cons (qv 4) qa_nil)) (qg_tup rfl (qgs_cons (qg_name sc_check_rows.nd rfl (by first | exact .inl rfl | exact .inr rfl)) (qgs_cons (qg_name sc_check_rows.nd rfl (by first | exact .inl rfl | exact .inr rfl)) qgs_nil))) (qss_cons (qs_if (qt_not (qt_val (qe_fn D_is_sized (hr.mono (by omega)) hg TkD.none (qa_cons (qv 6) (qa_cons (qv 0) (qa_cons (qv 0) qa_nil)))))) (qss_one (qs_raise rfl tk (qm_x E_BadMachine (hr.mono (by omega)) (qe_tup (qa_cons qe_str (qa_cons (qv 3) (qa_cons (qv 5) (qa_cons (qe_un ud_neg qe_int) qa_nil)))))))) qss_nil) (qss_one (qs_for (passes_of rfl) rfl (qi_enum rfl (L.n "enumerate") (qa_cons (qv 6) qa_nil)) (qg_tup rfl (qgs_cons (qg_name sc_check_rows.nd rfl (by first | exact .inl rfl | exact .inr rfl)) (qgs_cons (qg_name sc_check_rows.nd rfl (by first | exact .inl rfl | exact .inr rfl)) qgs_nil))) (qss_one (qs_if (qt_not (qt_val (qe_fn D_are_steps (hr.mono (by omega)) hg TkD.none (qa_cons (qv 1) (qa_cons (qe_callB cd_lenA rfl (L.n "len") b_len (qa_cons (qv 2) qa_nil)) (qa_cons (qv 8) qa_nil)))))) (qss_one (qs_raise rfl tk (qm_x E_BadMachine (hr.mono (by omega)) (qe_tup (qa_cons qe_str (qa_cons (qv 3) (qa_cons (qv 5) (qa_cons (qv 7) qa_nil)))))))) qss_nil))))))))), pl ds h Q E' hs⟩
/-! ### Machine.__init__ -/
abbrev s_Machine_init : Stmt := inCls (atS PySem.Challenge.pw_tellsless_k65_whole_first_rounds_of_mach 56) 0
abbrev N_Machine_init : List Str := [("self" : Str), ("worlds" : Str), ("words" : Str), ("rows" : Str)]
theorem sc_Machine_init : FnScope N_Machine_init [("self" : Str), ("worlds" : Str), ("words" : Str), ("rows" : Str)] (defScope s_Machine_init) := ⟨rfl, rfl, rfl, by decide +kernel, rfl, by decide +kernel, by decide +kernel⟩
theorem w_Machine_init {P : Program} {w : World} {K : PySem.W.Frag} {mg : Str → Option Value} {base : Heap} {f : Addr} {fd : FuncData} (L : Lib mg) (D_is_within : Dn P w K mg base "is_within" 2 [("thing" : Str), ("least" : Str), ("most" : Str)] sp_is_within) (D_are_rows : Dn P w K mg base "are_rows" 3 [("thing" : Str)] sp_are_rows) (D_check_rows : Dn P w K mg base "check_rows" 7 [("worlds" : Str), ("words" : Str), ("rows" : Str)] (sp_check_rows K)) (g_MOST_WORLDS : GD K mg "MOST_WORLDS" (.int 5)) (g_MOST_WORDS : GD K mg "MOST_WORDS" (.int 6)) (E_BadMachine : De K P w mg base "BadMachine" (He.ga K "BadMachine") "part" "part")
    (F : Fun K "__init__" "Machine.__init__" s_Machine_init f fd) (ln : ∀ ds h Q E, (sp_Machine_init K) ds h Q E → ds.length = 4)
    (pl : ∀ ds h Q E', (sp_Machine_init K) ds h Q E' → t_Machine_init P w K (fun _ => E') { nx := fun _ h' => Q .non h', rt := Q } (startD N_Machine_init ds) h) : GF P w K mg base 8 f fd [("self" : Str), ("worlds" : Str), ("words" : Str), ("rows" : Str)] (sp_Machine_init K) := by
  refine gf_of (k := 7) F sc_Machine_init ln fun cdv A outer s H E ds h Q E' hr hg kx hs => ?_
  · have ru := room_u hr
    have tk : TkD (bodyX P w K mg base N_Machine_init "Machine.__init__" (defScope s_Machine_init) f cdv A outer s H E) (H, h) fun _ => E' := TkD.body kx
    exact ⟨t_Machine_init P w K (fun _ => E'), (qss_cons (qs_if (qt_not (qt_val (qe_fn D_is_within (hr.mono (by omega)) hg TkD.none (qa_cons (qv 1) (qa_cons qe_int (qa_cons (qe_gd g_MOST_WORLDS) qa_nil)))))) (qss_one (qs_raise rfl tk (qm_x E_BadMachine (hr.mono (by omega)) (qe_tup (qa_cons qe_str qa_nil))))) qss_nil) (qss_cons (qs_if (qt_not (qt_val (qe_fn D_is_within (hr.mono (by omega)) hg TkD.none (qa_cons (qv 2) (qa_cons qe_int (qa_cons (qe_gd g_MOST_WORDS) qa_nil)))))) (qss_one (qs_raise rfl tk (qm_x E_BadMachine (hr.mono (by omega)) (qe_tup (qa_cons qe_str qa_nil))))) qss_nil) (qss_cons (qs_if (qt_not (qt_val (qe_fn D_are_rows (hr.mono (by omega)) hg TkD.none (qa_cons (qv 3) qa_nil)))) (qss_one (qs_raise rfl tk (qm_x E_BadMachine (hr.mono (by omega)) (qe_tup (qa_cons qe_str qa_nil))))) qss_nil) (qss_cons (qs_expr (qe_fn D_check_rows (hr.mono (by omega)) hg tk (qa_cons (qv 1) (qa_cons (qv 2) (qa_cons (qv 3) qa_nil))))) (qss_cons (qs_fld (qv 0) (qv 1)) (qss_cons (qs_fld (qv 0) (qv 2)) (qss_one (qs_fld (qv 0) (qv 3))))))))), pl ds h Q E' hs⟩
/-! ### Machine.__eq__ -/
abbrev s_Machine_eq : Stmt := inCls (atS PySem.Challenge.pw_tellsless_k65_whole_first_rounds_of_mach 56) 1
abbrev N_Machine_eq : List Str := [("self" : Str), ("other" : Str)]
theorem sc_Machine_eq : FnScope N_Machine_eq [("self" : Str), ("other" : Str)] (defScope s_Machine_eq) := ⟨rfl, rfl, rfl, by decide +kernel, rfl, by decide +kernel, by decide +kernel⟩
theorem w_Machine_eq {P : Program} {w : World} {K : PySem.W.Frag} {mg : Str → Option Value} {base : Heap} {f : Addr} {fd : FuncData} (L : Lib mg) (g_Machine : GD K mg "Machine" (.ref (He.ga K "Machine")))
    (F : Fun K "__eq__" "Machine.__eq__" s_Machine_eq f fd) (ln : ∀ ds h Q E, (sp_Machine_eq K) ds h Q E → ds.length = 2)
    (pl : ∀ ds h Q E', (sp_Machine_eq K) ds h Q E' → t_Machine_eq P w K (fun _ => noX) { nx := fun _ h' => Q .non h', rt := Q } (startD N_Machine_eq ds) h) : GF P w K mg base 1 f fd [("self" : Str), ("other" : Str)] (sp_Machine_eq K) := by
  refine gf_of (k := 0) F sc_Machine_eq ln fun cdv A outer s H E ds h Q E' hr hg kx hs => ?_
  · have ru := room_u hr
    exact ⟨t_Machine_eq P w K (fun _ => noX), (qss_cons (qs_if (qt_not (qt_val (qe_callB cd_isi rfl (L.n "isinstance") b_isinstance (qa_cons (qv 1) (qa_cons (qe_gd g_Machine) qa_nil))))) (qss_one (qs_ret qe_bl)) qss_nil) (qss_one (qs_ret (qe_cmp (od_eq (uu ru)) (qe_tup (qa_cons (qe_fld (qv 0) rfl) (qa_cons (qe_fld (qv 0) rfl) (qa_cons (qe_fld (qv 0) rfl) qa_nil)))) (qe_tup (qa_cons (qe_fld (qv 1) rfl) (qa_cons (qe_fld (qv 1) rfl) (qa_cons (qe_fld (qv 1) rfl) qa_nil)))))))), pl ds h Q E' hs⟩
/-! ### _law_steps -/
abbrev s_l_steps : Stmt := atS PySem.Challenge.pw_tellsless_k65_whole_first_rounds_of_mach 72
abbrev N_l_steps : List Str := [("_law_hand_here" : Str), ("_law_words" : Str), ("_law_standings" : Str), ("_law_word" : Str), ("_law_turn" : Str), ("_law_whole" : Str), ("_law_pairs" : Str), ("_law_counts" : Str), ("_law_pair" : Str), ("_law_standing" : Str)]
theorem sc_l_steps : FnScope N_l_steps [("_law_hand_here" : Str), ("_law_words" : Str), ("_law_standings" : Str)] (defScope s_l_steps) := ⟨rfl, rfl, rfl, by decide +kernel, rfl, by decide +kernel, by decide +kernel⟩
theorem w_l_steps {P : Program} {w : World} {K : PySem.W.Frag} {mg : Str → Option Value} {base : Heap} {f : Addr} {fd : FuncData} (L : Lib mg) (D__law_draw : Dn P w K mg base "_law_draw" 1 [("_law_hand_here" : Str), ("_law_many" : Str)] sp_l_draw) (D__law_any : Dn P w K mg base "_law_any" 2 [("_law_hand_here" : Str), ("_law_things" : Str)] sp_l_any) (D__law_low : Dn P w K mg base "_law_low" 1 [("_law_top" : Str), ("_law_bottom" : Str)] sp_l_low)
    (F : Fun K "_law_steps" "_law_steps" s_l_steps f fd) (ln : ∀ ds h Q E, sp_l_steps ds h Q E → ds.length = 3)
    (pl : ∀ ds h Q E', sp_l_steps ds h Q E' → t_l_steps P w K (fun _ => noX) { nx := fun _ h' => Q .non h', rt := Q } (startD N_l_steps ds) h) : GF P w K mg base 3 f fd [("_law_hand_here" : Str), ("_law_words" : Str), ("_law_standings" : Str)] sp_l_steps := by
  refine gf_of (k := 2) F sc_l_steps ln fun cdv A outer s H E ds h Q E' hr hg kx hs => ?_
  · have ru := room_u hr
    exact ⟨t_l_steps P w K (fun _ => noX), (qss_cons (qs_asg (qe_tup (qa_cons (qe_lst qa_nil) (qa_cons qe_dnewN qa_nil))) (qg_tup rfl (qgs_cons (qg_name sc_l_steps.nd rfl (by first | exact .inl rfl | exact .inr rfl)) (qgs_cons (qg_name sc_l_steps.nd rfl (by first | exact .inl rfl | exact .inr rfl)) qgs_nil)))) (qss_cons (qs_for (passes_of rfl) rfl (qi_range1 rfl (L.n "range") (qa_cons (qv 1) qa_nil)) (qg_name sc_l_steps.nd rfl (by first | exact .inl rfl | exact .inr rfl)) (qss_one (qs_set sc_l_steps.nd rfl (by first | exact .inl rfl | exact .inr rfl) (qe_op od_add (qv 6) (qe_lc (own := [("_law_standing", 9)]) rfl sc_l_steps.nd (qi_range1 rfl (L.n "range") (qa_cons (qv 2) qa_nil)) (show BlkOk N_l_steps (defScope s_l_steps) _ [("_law_standing", 9)] from ⟨rfl, by decide +kernel, by decide +kernel, by decide +kernel, by decide +kernel⟩) (by decide) (fun _ _ _ _ _ => (tg_one sc_l_steps.nd rfl (.inl rfl) (K := _))) (fun _ _ _ _ _ => qts_nil) (fun _ _ _ _ _ => (qe_tup (qa_cons (qv 3) (qa_cons (qv 9) qa_nil))))))))) (qss_cons (qs_for (passes_of rfl) rfl (qi_range1 rfl (L.n "range") (qa_cons (qe_op od_add qe_int (qe_fn D__law_draw (hr.mono (by omega)) hg TkD.none (qa_cons (qv 0) (qa_cons qe_int qa_nil)))) qa_nil)) (qg_name sc_l_steps.nd rfl (by first | exact .inl rfl | exact .inr rfl)) (qss_cons (qs_set sc_l_steps.nd rfl (by first | exact .inl rfl | exact .inr rfl) (qe_fn D__law_any (hr.mono (by omega)) hg TkD.none (qa_cons (qv 0) (qa_cons (qv 6) qa_nil)))) (qss_one (qs_asg (qe_op od_add (qe_dget2 (uu ru) (qv 7) (qv 8) qe_int ⟨rfl, rfl, rfl, rfl⟩) qe_int) (qg_sub (qv 7) (qv 8) (sd_any (uu ru))))))) (qss_cons (qs_set sc_l_steps.nd rfl (by first | exact .inl rfl | exact .inr rfl) (qe_callB (cd_sum rfl) rfl (L.n "sum") b_sum (qa_cons (qe_lc (own := [("_law_pair", 8)]) rfl sc_l_steps.nd (qi_any (qv 7)) (show BlkOk N_l_steps (defScope s_l_steps) _ [("_law_pair", 8)] from ⟨rfl, by decide +kernel, by decide +kernel, by decide +kernel, by decide +kernel⟩) (by decide) (fun _ _ _ _ _ => (tg_one sc_l_steps.nd rfl (.inl rfl) (K := _))) (fun _ _ _ _ _ => qts_nil) (fun _ _ _ _ _ => (qe_ix (xd_any (uu ru)) (qv 7) (qv 8) (fun _ _ => rfl)))) qa_nil))) (qss_one (qs_ret (qe_callTy cd_tuple rfl (L.n "tuple") b_tuple (qa_cons (qe_lc (own := [("_law_pair", 8)]) rfl sc_l_steps.nd (qi_any (qv 7)) (show BlkOk N_l_steps (defScope s_l_steps) _ [("_law_pair", 8)] from ⟨rfl, by decide +kernel, by decide +kernel, by decide +kernel, by decide +kernel⟩) (by decide) (fun _ _ _ _ _ => (tg_one sc_l_steps.nd rfl (.inl rfl) (K := _))) (fun _ _ _ _ _ => qts_nil) (fun _ _ _ _ _ => (qe_tup (qa_cons (qe_ix (xd_any (uu ru)) (qv 8) qe_int (fun _ _ => rfl)) (qa_cons (qe_fn D__law_low (hr.mono (by omega)) hg TkD.none (qa_cons (qe_ix (xd_any (uu ru)) (qv 7) (qv 8) (fun _ _ => rfl)) (qa_cons (qv 5) qa_nil))) (qa_cons (qe_ix (xd_any (uu ru)) (qv 8) qe_int (fun _ _ => rfl)) qa_nil)))))) qa_nil)))))))), pl ds h Q E' hs⟩
/-! ### _law_rows -/
abbrev s_l_rows : Stmt := atS PySem.Challenge.pw_tellsless_k65_whole_first_rounds_of_mach 73
abbrev N_l_rows : List Str := [("_law_hand_here" : Str), ("_law_worlds" : Str), ("_law_words" : Str), ("_law_asked" : Str), ("_law_standings" : Str), ("_law_rows_here" : Str), ("_law_standing" : Str), ("_law_row" : Str), ("_law_question" : Str), ("_law_steps_here" : Str), ("_law_world" : Str)]
theorem sc_l_rows : FnScope N_l_rows [("_law_hand_here" : Str), ("_law_worlds" : Str), ("_law_words" : Str), ("_law_asked" : Str), ("_law_standings" : Str)] (defScope s_l_rows) := ⟨rfl, rfl, rfl, by decide +kernel, rfl, by decide +kernel, by decide +kernel⟩
theorem w_l_rows {P : Program} {w : World} {K : PySem.W.Frag} {mg : Str → Option Value} {base : Heap} {f : Addr} {fd : FuncData} (L : Lib mg) (D__law_steps : Dn P w K mg base "_law_steps" 3 [("_law_hand_here" : Str), ("_law_words" : Str), ("_law_standings" : Str)] sp_l_steps) (D__law_draw : Dn P w K mg base "_law_draw" 1 [("_law_hand_here" : Str), ("_law_many" : Str)] sp_l_draw)
    (F : Fun K "_law_rows" "_law_rows" s_l_rows f fd) (ln : ∀ ds h Q E, sp_l_rows ds h Q E → ds.length = 5)
    (pl : ∀ ds h Q E', sp_l_rows ds h Q E' → t_l_rows P w K (fun _ => noX) { nx := fun _ h' => Q .non h', rt := Q } (startD N_l_rows ds) h) : GF P w K mg base 4 f fd [("_law_hand_here" : Str), ("_law_worlds" : Str), ("_law_words" : Str), ("_law_asked" : Str), ("_law_standings" : Str)] sp_l_rows := by
  refine gf_of (k := 3) F sc_l_rows ln fun cdv A outer s H E ds h Q E' hr hg kx hs => ?_
  · have ru := room_u hr
    exact ⟨t_l_rows P w K (fun _ => noX), (qss_cons (qs_set sc_l_rows.nd rfl (by first | exact .inl rfl | exact .inr rfl) (qe_lst qa_nil)) (qss_cons (qs_for (passes_of rfl) rfl (qi_range1 rfl (L.n "range") (qa_cons (qv 4) qa_nil)) (qg_name sc_l_rows.nd rfl (by first | exact .inl rfl | exact .inr rfl)) (qss_cons (qs_set sc_l_rows.nd rfl (by first | exact .inl rfl | exact .inr rfl) (qe_lst qa_nil)) (qss_cons (qs_for (passes_of rfl) rfl (qi_range1 rfl (L.n "range") (qa_cons (qv 3) qa_nil)) (qg_name sc_l_rows.nd rfl (by first | exact .inl rfl | exact .inr rfl)) (qss_cons (qs_setLc (own := [("_law_world", 10)]) rfl sc_l_rows.nd rfl rfl (sw_true rfl rfl rfl rfl) (qi_range1 rfl (L.n "range") (qa_cons (qv 1) qa_nil)) (show BlkOk N_l_rows (defScope s_l_rows) _ [("_law_world", 10)] from ⟨rfl, by decide +kernel, by decide +kernel, by decide +kernel, by decide +kernel⟩) (by decide) (fun _ _ _ _ _ => (tg_one sc_l_rows.nd rfl (.inl rfl) (K := _))) (fun _ _ _ _ _ => qts_nil) (fun _ _ _ _ _ => (qe_fn D__law_steps (hr.mono (by omega)) hg TkD.none (qa_cons (qv 0) (qa_cons (qv 2) (qa_cons (qv 4) qa_nil)))))) (qss_one (qs_expr (qe_lm PySem.F.slot_list_append PySem.F.type_list_append md_append (qv 7) (qa_cons (qe_if (qt_cmp (od_eq (uu ru)) (qe_fn D__law_draw (hr.mono (by omega)) hg TkD.none (qa_cons (qv 0) (qa_cons qe_int qa_nil))) qe_int) (qe_op od_mul (qe_tup (qa_cons (qe_ix (xd_any (uu ru)) (qv 9) qe_int (fun _ _ => rfl)) qa_nil)) (qv 1)) (qe_callTy cd_tuple rfl (L.n "tuple") b_tuple (qa_cons (qv 9) qa_nil))) qa_nil)))))) (qss_one (qs_expr (qe_lm PySem.F.slot_list_append PySem.F.type_list_append md_append (qv 5) (qa_cons (qe_callTy cd_tuple rfl (L.n "tuple") b_tuple (qa_cons (qv 7) qa_nil)) qa_nil))))))) (qss_one (qs_ret (qe_callTy cd_tuple rfl (L.n "tuple") b_tuple (qa_cons (qv 5) qa_nil)))))), pl ds h Q E' hs⟩
/-! ### times -/
abbrev s_times : Stmt := atS PySem.Challenge.pw_tellsless_k65_whole_first_rounds_of_mach 20
abbrev N_times : List Str := [("one" : Str), ("other" : Str)]
theorem sc_times : FnScope N_times [("one" : Str), ("other" : Str)] (defScope s_times) := ⟨rfl, rfl, rfl, by decide +kernel, rfl, by decide +kernel, by decide +kernel⟩
theorem w_times {P : Program} {w : World} {K : PySem.W.Frag} {mg : Str → Option Value} {base : Heap} {f : Addr} {fd : FuncData} (L : Lib mg) (D_lowest : Dn P w K mg base "lowest" 2 [("top" : Str), ("bottom" : Str)] sp_lowest)
    (F : Fun K "times" "times" s_times f fd) (ln : ∀ ds h Q E, sp_times ds h Q E → ds.length = 2)
    (pl : ∀ ds h Q E', sp_times ds h Q E' → t_times P w K (fun _ => noX) { nx := fun _ h' => Q .non h', rt := Q } (startD N_times ds) h) : GF P w K mg base 3 f fd [("one" : Str), ("other" : Str)] sp_times := by
  refine gf_of (k := 2) F sc_times ln fun cdv A outer s H E ds h Q E' hr hg kx hs => ?_
  · have ru := room_u hr
    exact ⟨t_times P w K (fun _ => noX), (qss_one (qs_ret (qe_fn D_lowest (hr.mono (by omega)) hg TkD.none (qa_cons (qe_op od_mul (qe_ix (xd_any (uu ru)) (qv 0) qe_int (fun _ _ => rfl)) (qe_ix (xd_any (uu ru)) (qv 1) qe_int (fun _ _ => rfl))) (qa_cons (qe_op od_mul (qe_ix (xd_any (uu ru)) (qv 0) qe_int (fun _ _ => rfl)) (qe_ix (xd_any (uu ru)) (qv 1) qe_int (fun _ _ => rfl))) qa_nil))))), pl ds h Q E' hs⟩
/-! ### _law_times -/
abbrev s_l_times : Stmt := atS PySem.Challenge.pw_tellsless_k65_whole_first_rounds_of_mach 70
abbrev N_l_times : List Str := [("_law_one" : Str), ("_law_other" : Str)]
theorem sc_l_times : FnScope N_l_times [("_law_one" : Str), ("_law_other" : Str)] (defScope s_l_times) := ⟨rfl, rfl, rfl, by decide +kernel, rfl, by decide +kernel, by decide +kernel⟩
theorem w_l_times {P : Program} {w : World} {K : PySem.W.Frag} {mg : Str → Option Value} {base : Heap} {f : Addr} {fd : FuncData} (L : Lib mg) (D__law_low : Dn P w K mg base "_law_low" 1 [("_law_top" : Str), ("_law_bottom" : Str)] sp_l_low)
    (F : Fun K "_law_times" "_law_times" s_l_times f fd) (ln : ∀ ds h Q E, sp_times ds h Q E → ds.length = 2)
    (pl : ∀ ds h Q E', sp_times ds h Q E' → t_l_times P w K (fun _ => noX) { nx := fun _ h' => Q .non h', rt := Q } (startD N_l_times ds) h) : GF P w K mg base 2 f fd [("_law_one" : Str), ("_law_other" : Str)] sp_times := by
  refine gf_of (k := 1) F sc_l_times ln fun cdv A outer s H E ds h Q E' hr hg kx hs => ?_
  · have ru := room_u hr
    exact ⟨t_l_times P w K (fun _ => noX), (qss_one (qs_ret (qe_fn D__law_low (hr.mono (by omega)) hg TkD.none (qa_cons (qe_op od_mul (qe_ix (xd_any (uu ru)) (qv 0) qe_int (fun _ _ => rfl)) (qe_ix (xd_any (uu ru)) (qv 1) qe_int (fun _ _ => rfl))) (qa_cons (qe_op od_mul (qe_ix (xd_any (uu ru)) (qv 0) qe_int (fun _ _ => rfl)) (qe_ix (xd_any (uu ru)) (qv 1) qe_int (fun _ _ => rfl))) qa_nil))))), pl ds h Q E' hs⟩
/-! ### many_asked -/
abbrev s_many_asked : Stmt := atS PySem.Challenge.pw_tellsless_k65_whole_first_rounds_of_mach 57
abbrev N_many_asked : List Str := [("machine" : Str)]
theorem sc_many_asked : FnScope N_many_asked [("machine" : Str)] (defScope s_many_asked) := ⟨rfl, rfl, rfl, by decide +kernel, rfl, by decide +kernel, by decide +kernel⟩
theorem w_many_asked {P : Program} {w : World} {K : PySem.W.Frag} {mg : Str → Option Value} {base : Heap} {f : Addr} {fd : FuncData} (L : Lib mg) 
    (F : Fun K "many_asked" "many_asked" s_many_asked f fd) (ln : ∀ ds h Q E, (sp_many_asked K) ds h Q E → ds.length = 1)
    (pl : ∀ ds h Q E', (sp_many_asked K) ds h Q E' → t_many_asked P w K (fun _ => noX) { nx := fun _ h' => Q .non h', rt := Q } (startD N_many_asked ds) h) : GF P w K mg base 1 f fd [("machine" : Str)] (sp_many_asked K) := by
  refine gf_of (k := 0) F sc_many_asked ln fun cdv A outer s H E ds h Q E' hr hg kx hs => ?_
  · have ru := room_u hr
    exact ⟨t_many_asked P w K (fun _ => noX), (qss_one (qs_ret (qe_callB cd_lenA rfl (L.n "len") b_len (qa_cons (qe_ix (xd_any (uu ru)) (qe_fld (qv 0) rfl) qe_int (fun _ _ => rfl)) qa_nil)))), pl ds h Q E' hs⟩
/-! ### first_spread -/
abbrev s_first_spread : Stmt := atS PySem.Challenge.pw_tellsless_k65_whole_first_rounds_of_mach 58
abbrev N_first_spread : List Str := [("machine" : Str)]
theorem sc_first_spread : FnScope N_first_spread [("machine" : Str)] (defScope s_first_spread) := ⟨rfl, rfl, rfl, by decide +kernel, rfl, by decide +kernel, by decide +kernel⟩
theorem w_first_spread {P : Program} {w : World} {K : PySem.W.Frag} {mg : Str → Option Value} {base : Heap} {f : Addr} {fd : FuncData} (L : Lib mg) (g_ONE : GD K mg "ONE" (.tup [(.int 1), (.int 1)])) (g_NOUGHT : GD K mg "NOUGHT" (.tup [(.int 0), (.int 1)]))
    (F : Fun K "first_spread" "first_spread" s_first_spread f fd) (ln : ∀ ds h Q E, (sp_first_spread K) ds h Q E → ds.length = 1)
    (pl : ∀ ds h Q E', (sp_first_spread K) ds h Q E' → t_first_spread P w K (fun _ => noX) { nx := fun _ h' => Q .non h', rt := Q } (startD N_first_spread ds) h) : GF P w K mg base 1 f fd [("machine" : Str)] (sp_first_spread K) := by
  refine gf_of (k := 0) F sc_first_spread ln fun cdv A outer s H E ds h Q E' hr hg kx hs => ?_
  · have ru := room_u hr
    exact ⟨t_first_spread P w K (fun _ => noX), (qss_one (qs_ret (qe_op od_add (qe_tup (qa_cons (qe_gd g_ONE) qa_nil)) (qe_op od_mul (qe_tup (qa_cons (qe_gd g_NOUGHT) qa_nil)) (qe_op od_sub (qe_callB cd_lenA rfl (L.n "len") b_len (qa_cons (qe_fld (qv 0) rfl) qa_nil)) qe_int))))), pl ds h Q E' hs⟩
/-! ### spread_behind -/
abbrev s_spread_behind : Stmt := atS PySem.Challenge.pw_tellsless_k65_whole_first_rounds_of_mach 59
abbrev N_spread_behind : List Str := [("machine" : Str), ("world" : Str), ("spread" : Str), ("question" : Str), ("word" : Str), ("found" : Str), ("standing" : Str), ("chance" : Str), ("told" : Str), ("share" : Str), ("goal" : Str)]
theorem sc_spread_behind : FnScope N_spread_behind [("machine" : Str), ("world" : Str), ("spread" : Str), ("question" : Str), ("word" : Str)] (defScope s_spread_behind) := ⟨rfl, rfl, rfl, by decide +kernel, rfl, by decide +kernel, by decide +kernel⟩
theorem w_spread_behind {P : Program} {w : World} {K : PySem.W.Frag} {mg : Str → Option Value} {base : Heap} {f : Addr} {fd : FuncData} (L : Lib mg) (D_times : Dn P w K mg base "times" 3 [("one" : Str), ("other" : Str)] sp_times) (D_plus : Dn P w K mg base "plus" 3 [("one" : Str), ("other" : Str)] sp_plus) (g_NOUGHT : GD K mg "NOUGHT" (.tup [(.int 0), (.int 1)]))
    (F : Fun K "spread_behind" "spread_behind" s_spread_behind f fd) (ln : ∀ ds h Q E, (sp_spread_behind K) ds h Q E → ds.length = 5)
    (pl : ∀ ds h Q E', (sp_spread_behind K) ds h Q E' → t_spread_behind P w K (fun _ => noX) { nx := fun _ h' => Q .non h', rt := Q } (startD N_spread_behind ds) h) : GF P w K mg base 4 f fd [("machine" : Str), ("world" : Str), ("spread" : Str), ("question" : Str), ("word" : Str)] (sp_spread_behind K) := by
  refine gf_of (k := 3) F sc_spread_behind ln fun cdv A outer s H E ds h Q E' hr hg kx hs => ?_
  · have ru := room_u hr
    exact ⟨t_spread_behind P w K (fun _ => noX), (qss_cons (qs_set sc_spread_behind.nd rfl (by first | exact .inl rfl | exact .inr rfl) (qe_op od_mul (qe_lst (qa_cons (qe_gd g_NOUGHT) qa_nil)) (qe_callB cd_lenA rfl (L.n "len") b_len (qa_cons (qe_fld (qv 0) rfl) qa_nil)))) (qss_cons (qs_for (passes_of rfl) rfl (qi_enum rfl (L.n "enumerate") (qa_cons (qv 2) qa_nil)) (qg_tup rfl (qgs_cons (qg_name sc_spread_behind.nd rfl (by first | exact .inl rfl | exact .inr rfl)) (qgs_cons (qg_name sc_spread_behind.nd rfl (by first | exact .inl rfl | exact .inr rfl)) qgs_nil))) (qss_one (qs_if (qt_cmp (od_ne (uu ru)) (qv 7) (qe_gd g_NOUGHT)) (qss_one (qs_for (passes_of rfl) rfl (qi_any (qe_ix (xd_any (uu ru)) (qe_ix (xd_any (uu ru)) (qe_ix (xd_any (uu ru)) (qe_fld (qv 0) rfl) (qv 6) (fun _ _ => rfl)) (qv 3) (fun _ _ => rfl)) (qv 1) (fun _ _ => rfl))) (qg_tup rfl (qgs_cons (qg_name sc_spread_behind.nd rfl (by first | exact .inl rfl | exact .inr rfl)) (qgs_cons (qg_name sc_spread_behind.nd rfl (by first | exact .inl rfl | exact .inr rfl)) (qgs_cons (qg_name sc_spread_behind.nd rfl (by first | exact .inl rfl | exact .inr rfl)) qgs_nil)))) (qss_one (qs_if (qt_cmp (od_eq (uu ru)) (qv 8) (qv 4)) (qss_one (qs_asg (qe_fn D_plus (hr.mono (by omega)) hg TkD.none (qa_cons (qe_ix (xd_any (uu ru)) (qv 5) (qv 10) (fun _ _ => rfl)) (qa_cons (qe_fn D_times (hr.mono (by omega)) hg TkD.none (qa_cons (qv 7) (qa_cons (qv 9) qa_nil))) qa_nil))) (qg_sub (qv 5) (qv 10) (sd_any (uu ru))))) qss_nil)))) qss_nil))) (qss_one (qs_ret (qe_callTy cd_tuple rfl (L.n "tuple") b_tuple (qa_cons (qv 5) qa_nil)))))), pl ds h Q E' hs⟩
/-! ### spreads_behind -/
abbrev s_spreads_behind : Stmt := atS PySem.Challenge.pw_tellsless_k65_whole_first_rounds_of_mach 60
abbrev N_spreads_behind : List Str := [("machine" : Str), ("spreads" : Str), ("question" : Str), ("word" : Str), ("world" : Str), ("one" : Str)]
theorem sc_spreads_behind : FnScope N_spreads_behind [("machine" : Str), ("spreads" : Str), ("question" : Str), ("word" : Str)] (defScope s_spreads_behind) := ⟨rfl, rfl, rfl, by decide +kernel, rfl, by decide +kernel, by decide +kernel⟩
theorem w_spreads_behind {P : Program} {w : World} {K : PySem.W.Frag} {mg : Str → Option Value} {base : Heap} {f : Addr} {fd : FuncData} (L : Lib mg) (D_spread_behind : Dn P w K mg base "spread_behind" 4 [("machine" : Str), ("world" : Str), ("spread" : Str), ("question" : Str), ("word" : Str)] (sp_spread_behind K))
    (F : Fun K "spreads_behind" "spreads_behind" s_spreads_behind f fd) (ln : ∀ ds h Q E, (sp_spreads_behind K) ds h Q E → ds.length = 4)
    (pl : ∀ ds h Q E', (sp_spreads_behind K) ds h Q E' → t_spreads_behind P w K (fun _ => noX) { nx := fun _ h' => Q .non h', rt := Q } (startD N_spreads_behind ds) h) : GF P w K mg base 5 f fd [("machine" : Str), ("spreads" : Str), ("question" : Str), ("word" : Str)] (sp_spreads_behind K) := by
  refine gf_of (k := 4) F sc_spreads_behind ln fun cdv A outer s H E ds h Q E' hr hg kx hs => ?_
  · have ru := room_u hr
    exact ⟨t_spreads_behind P w K (fun _ => noX), (qss_one (qs_ret (qe_callTy cd_tuple rfl (L.n "tuple") b_tuple (qa_cons (qe_lc (own := [("world", 4), ("one", 5)]) rfl sc_spreads_behind.nd (qi_enum rfl (L.n "enumerate") (qa_cons (qv 1) qa_nil)) (show BlkOk N_spreads_behind (defScope s_spreads_behind) _ [("world", 4), ("one", 5)] from ⟨rfl, by decide +kernel, by decide +kernel, by decide +kernel, by decide +kernel⟩) (by decide) (fun _ _ _ _ _ => (tg_many rfl (tg_cons sc_spreads_behind.nd rfl (.inl rfl) (tg_cons sc_spreads_behind.nd rfl (.inl rfl) tg_nil)))) (fun _ _ _ _ _ => qts_nil) (fun _ _ _ _ _ => (qe_fn D_spread_behind (hr.mono (by omega)) hg TkD.none (qa_cons (qv 0) (qa_cons (qv 4) (qa_cons (qv 5) (qa_cons (qv 2) (qa_cons (qv 3) qa_nil)))))))) qa_nil)))), pl ds h Q E' hs⟩
/-! ### _law_behind -/
abbrev s_l_behind : Stmt := atS PySem.Challenge.pw_tellsless_k65_whole_first_rounds_of_mach 74
abbrev N_l_behind : List Str := [("_law_rows_here" : Str), ("_law_world" : Str), ("_law_spread" : Str), ("_law_question" : Str), ("_law_word" : Str), ("_law_found" : Str), ("_law_standing" : Str), ("_law_chance" : Str), ("_law_told_here" : Str), ("_law_share" : Str), ("_law_goal" : Str)]
theorem sc_l_behind : FnScope N_l_behind [("_law_rows_here" : Str), ("_law_world" : Str), ("_law_spread" : Str), ("_law_question" : Str), ("_law_word" : Str)] (defScope s_l_behind) := ⟨rfl, rfl, rfl, by decide +kernel, rfl, by decide +kernel, by decide +kernel⟩
theorem w_l_behind {P : Program} {w : World} {K : PySem.W.Frag} {mg : Str → Option Value} {base : Heap} {f : Addr} {fd : FuncData} (L : Lib mg) (D__law_times : Dn P w K mg base "_law_times" 2 [("_law_one" : Str), ("_law_other" : Str)] sp_times) (D__law_plus : Dn P w K mg base "_law_plus" 2 [("_law_one" : Str), ("_law_other" : Str)] sp_plus)
    (F : Fun K "_law_behind" "_law_behind" s_l_behind f fd) (ln : ∀ ds h Q E, sp_l_behind ds h Q E → ds.length = 5)
    (pl : ∀ ds h Q E', sp_l_behind ds h Q E' → t_l_behind P w K (fun _ => noX) { nx := fun _ h' => Q .non h', rt := Q } (startD N_l_behind ds) h) : GF P w K mg base 3 f fd [("_law_rows_here" : Str), ("_law_world" : Str), ("_law_spread" : Str), ("_law_question" : Str), ("_law_word" : Str)] sp_l_behind := by
  refine gf_of (k := 2) F sc_l_behind ln fun cdv A outer s H E ds h Q E' hr hg kx hs => ?_
  · have ru := room_u hr
    exact ⟨t_l_behind P w K (fun _ => noX), (qss_cons (qs_set sc_l_behind.nd rfl (by first | exact .inl rfl | exact .inr rfl) (qe_op od_mul (qe_lst (qa_cons (qe_tup (qa_cons qe_int (qa_cons qe_int qa_nil))) qa_nil)) (qe_callB cd_lenA rfl (L.n "len") b_len (qa_cons (qv 0) qa_nil)))) (qss_cons (qs_for (passes_of rfl) rfl (qi_enum rfl (L.n "enumerate") (qa_cons (qv 2) qa_nil)) (qg_tup rfl (qgs_cons (qg_name sc_l_behind.nd rfl (by first | exact .inl rfl | exact .inr rfl)) (qgs_cons (qg_name sc_l_behind.nd rfl (by first | exact .inl rfl | exact .inr rfl)) qgs_nil))) (qss_one (qs_for (passes_of rfl) rfl (qi_any (qe_if (qt_cmp od_gt (qe_ix (xd_any (uu ru)) (qv 7) qe_int (fun _ _ => rfl)) qe_int) (qe_ix (xd_any (uu ru)) (qe_ix (xd_any (uu ru)) (qe_ix (xd_any (uu ru)) (qv 0) (qv 6) (fun _ _ => rfl)) (qv 3) (fun _ _ => rfl)) (qv 1) (fun _ _ => rfl)) (qe_tup qa_nil))) (qg_tup rfl (qgs_cons (qg_name sc_l_behind.nd rfl (by first | exact .inl rfl | exact .inr rfl)) (qgs_cons (qg_name sc_l_behind.nd rfl (by first | exact .inl rfl | exact .inr rfl)) (qgs_cons (qg_name sc_l_behind.nd rfl (by first | exact .inl rfl | exact .inr rfl)) qgs_nil)))) (qss_one (qs_if (qt_cmp (od_eq (uu ru)) (qv 8) (qv 4)) (qss_one (qs_asg (qe_fn D__law_plus (hr.mono (by omega)) hg TkD.none (qa_cons (qe_ix (xd_any (uu ru)) (qv 5) (qv 10) (fun _ _ => rfl)) (qa_cons (qe_fn D__law_times (hr.mono (by omega)) hg TkD.none (qa_cons (qv 7) (qa_cons (qv 9) qa_nil))) qa_nil))) (qg_sub (qv 5) (qv 10) (sd_any (uu ru))))) qss_nil))))) (qss_one (qs_ret (qe_callTy cd_tuple rfl (L.n "tuple") b_tuple (qa_cons (qv 5) qa_nil)))))), pl ds h Q E' hs⟩
/-! ### _law_first -/
abbrev s_l_first : Stmt := atS PySem.Challenge.pw_tellsless_k65_whole_first_rounds_of_mach 75
abbrev N_l_first : List Str := [("_law_rows_here" : Str)]
theorem sc_l_first : FnScope N_l_first [("_law_rows_here" : Str)] (defScope s_l_first) := ⟨rfl, rfl, rfl, by decide +kernel, rfl, by decide +kernel, by decide +kernel⟩
theorem w_l_first {P : Program} {w : World} {K : PySem.W.Frag} {mg : Str → Option Value} {base : Heap} {f : Addr} {fd : FuncData} (L : Lib mg) 
    (F : Fun K "_law_first" "_law_first" s_l_first f fd) (ln : ∀ ds h Q E, sp_l_first ds h Q E → ds.length = 1)
    (pl : ∀ ds h Q E', sp_l_first ds h Q E' → t_l_first P w K (fun _ => noX) { nx := fun _ h' => Q .non h', rt := Q } (startD N_l_first ds) h) : GF P w K mg base 1 f fd [("_law_rows_here" : Str)] sp_l_first := by
  refine gf_of (k := 0) F sc_l_first ln fun cdv A outer s H E ds h Q E' hr hg kx hs => ?_
  · have ru := room_u hr
    exact ⟨t_l_first P w K (fun _ => noX), (qss_one (qs_ret (qe_op od_add (qe_tup (qa_cons (qe_tup (qa_cons qe_int (qa_cons qe_int qa_nil))) qa_nil)) (qe_op od_mul (qe_tup (qa_cons (qe_tup (qa_cons qe_int (qa_cons qe_int qa_nil))) qa_nil)) (qe_op od_sub (qe_callB cd_lenA rfl (L.n "len") b_len (qa_cons (qv 0) qa_nil)) qe_int))))), pl ds h Q E' hs⟩
/-! ### count_answers -/
abbrev s_count_answers : Stmt := atS PySem.Challenge.pw_tellsless_k65_whole_first_rounds_of_mach 41
abbrev N_count_answers : List Str := [("node" : Str), ("question" : Str), ("answer" : Str)]
theorem sc_count_answers : FnScope N_count_answers [("node" : Str)] (defScope s_count_answers) := ⟨rfl, rfl, rfl, by decide +kernel, rfl, by decide +kernel, by decide +kernel⟩
theorem w_count_answers {P : Program} {w : World} {K : PySem.W.Frag} {mg : Str → Option Value} {base : Heap} {f : Addr} {fd : FuncData} {n : Nat} (L : Lib mg) (D_count_answers : Dn P w K mg base "count_answers" n [("node" : Str)] (sp_count_answers n))
    (F : Fun K "count_answers" "count_answers" s_count_answers f fd) (ln : ∀ ds h Q E, (sp_count_answers (n + 1)) ds h Q E → ds.length = 1)
    (pl : ∀ ds h Q E', (sp_count_answers (n + 1)) ds h Q E' → t_count_answers P w K n (fun _ => noX) { nx := fun _ h' => Q .non h', rt := Q } (startD N_count_answers ds) h) : GF P w K mg base (n + 1) f fd [("node" : Str)] (sp_count_answers (n + 1)) := by
  refine gf_of (k := n) F sc_count_answers ln fun cdv A outer s H E ds h Q E' hr hg kx hs => ?_
  · have ru := room_u hr
    exact ⟨t_count_answers P w K n (fun _ => noX), (qss_one (qs_ret (qe_callB (cd_sum rfl) rfl (L.n "sum") b_sum (qa_cons (qe_lc2 (own := [("question", 1), ("answer", 2)]) (vs1 := [2]) rfl sc_count_answers.nd (qi_any (qv 0)) (show BlkOk N_count_answers (defScope s_count_answers) _ [("question", 1), ("answer", 2)] from ⟨rfl, by decide +kernel, by decide +kernel, by decide +kernel, by decide +kernel⟩) (by decide) (by decide) (by decide) (fun _ _ _ _ _ => (tg_one sc_count_answers.nd rfl (.inl rfl) (K := _))) (fun _ _ _ _ _ => qts_nil) (fun _ _ _ _ _ => (qi_any (qv 1))) (fun _ _ _ _ _ => (tg_one sc_count_answers.nd rfl (.inl rfl) (K := _))) (fun _ _ _ _ _ => qts_nil) (fun _ _ _ _ _ => (qe_op od_add qe_int (qe_fn D_count_answers hr hg TkD.none (qa_cons (qe_ix (xd_any (uu ru)) (qv 2) qe_int (fun _ _ => rfl)) qa_nil))))) qa_nil)))), pl ds h Q E' hs⟩
/-! ### most_rounds -/
abbrev s_most_rounds : Stmt := atS PySem.Challenge.pw_tellsless_k65_whole_first_rounds_of_mach 42
abbrev N_most_rounds : List Str := [("node" : Str), ("question" : Str), ("answer" : Str)]
theorem sc_most_rounds : FnScope N_most_rounds [("node" : Str)] (defScope s_most_rounds) := ⟨rfl, rfl, rfl, by decide +kernel, rfl, by decide +kernel, by decide +kernel⟩
theorem w_most_rounds {P : Program} {w : World} {K : PySem.W.Frag} {mg : Str → Option Value} {base : Heap} {f : Addr} {fd : FuncData} {n : Nat} (L : Lib mg) (D_most_rounds : Dn P w K mg base "most_rounds" n [("node" : Str)] (sp_most_rounds n))
    (F : Fun K "most_rounds" "most_rounds" s_most_rounds f fd) (ln : ∀ ds h Q E, (sp_most_rounds (n + 1)) ds h Q E → ds.length = 1)
    (pl : ∀ ds h Q E', (sp_most_rounds (n + 1)) ds h Q E' → t_most_rounds P w K n (fun _ => noX) { nx := fun _ h' => Q .non h', rt := Q } (startD N_most_rounds ds) h) : GF P w K mg base (n + 1) f fd [("node" : Str)] (sp_most_rounds (n + 1)) := by
  refine gf_of (k := n) F sc_most_rounds ln fun cdv A outer s H E ds h Q E' hr hg kx hs => ?_
  · have ru := room_u hr
    exact ⟨t_most_rounds P w K n (fun _ => noX), (qss_one (qs_ret (qe_callB (cd_max rfl) rfl (L.n "max") b_max (qa_cons (qe_op od_add (qe_lst (qa_cons qe_int qa_nil)) (qe_lc2 (own := [("question", 1), ("answer", 2)]) (vs1 := [2]) rfl sc_most_rounds.nd (qi_any (qv 0)) (show BlkOk N_most_rounds (defScope s_most_rounds) _ [("question", 1), ("answer", 2)] from ⟨rfl, by decide +kernel, by decide +kernel, by decide +kernel, by decide +kernel⟩) (by decide) (by decide) (by decide) (fun _ _ _ _ _ => (tg_one sc_most_rounds.nd rfl (.inl rfl) (K := _))) (fun _ _ _ _ _ => qts_nil) (fun _ _ _ _ _ => (qi_any (qv 1))) (fun _ _ _ _ _ => (tg_one sc_most_rounds.nd rfl (.inl rfl) (K := _))) (fun _ _ _ _ _ => qts_nil) (fun _ _ _ _ _ => (qe_op od_add qe_int (qe_fn D_most_rounds hr hg TkD.none (qa_cons (qe_ix (xd_any (uu ru)) (qv 2) qe_int (fun _ _ => rfl)) qa_nil)))))) qa_nil)))), pl ds h Q E' hs⟩
end K65

-- K65C
set_option Elab.async false
set_option linter.all false
set_option maxRecDepth 100000
set_option maxHeartbeats 4000000
/-! printed by gen.py: the walks of the defs -/
namespace K65
open PySem PySem.Spec PyProof.Rows L2 PD PM

/-! ### is_integer -/
abbrev s_is_integerX : Stmt := atS PySem.Challenge.pw_tellsless_k65_whole_first_rounds_of_mach 7
abbrev N_is_integerX : List Str := [("thing" : Str)]
theorem sc_is_integerX : FnScope N_is_integerX [("thing" : Str)] (defScope s_is_integerX) := ⟨rfl, rfl, rfl, by decide +kernel, rfl, by decide +kernel, by decide +kernel⟩
def t_is_integerX (P : Program) (w : World) (K : PySem.W.Frag) (W : En → XD) : CS := (cRet (cAndV (cCall (cIsi K) (cCons (cVar 0) (cCons (cC (.ty "int")) cNil))) (cNotV (cCall (cIsi K) (cCons (cVar 0) (cCons (cC (.ty "bool")) cNil))))))
theorem w_is_integerX {P : Program} {w : World} {K : PySem.W.Frag} {mg : Str → Option Value} {base : Heap} {f : Addr} {fd : FuncData} (L : Lib mg) 
    (F : Fun K "is_integer" "is_integer" s_is_integerX f fd) (ln : ∀ ds h Q E, (sp_is_integerX K) ds h Q E → ds.length = 1)
    (pl : ∀ ds h Q E', (sp_is_integerX K) ds h Q E' → t_is_integerX P w K (fun _ => noX) { nx := fun _ h' => Q .non h', rt := Q } (startD N_is_integerX ds) h) : GF P w K mg base 1 f fd [("thing" : Str)] (sp_is_integerX K) := by
  refine gf_of (k := 0) F sc_is_integerX ln fun cdv A outer s H E ds h Q E' hr hg kx hs => ?_
  · have ru := room_u hr
    exact ⟨t_is_integerX P w K (fun _ => noX), (qss_one (qs_ret (qe_and (qe_callB cd_isi rfl (L.n "isinstance") b_isinstance (qa_cons (qv 0) (qa_cons (qe_ty (L.n "int") b_int) qa_nil))) (qe_one (qe_not (qe_callB cd_isi rfl (L.n "isinstance") b_isinstance (qa_cons (qv 0) (qa_cons (qe_ty (L.n "bool") b_bool) qa_nil)))))))), pl ds h Q E' hs⟩
/-! ### is_within -/
abbrev s_is_withinX : Stmt := atS PySem.Challenge.pw_tellsless_k65_whole_first_rounds_of_mach 8
abbrev N_is_withinX : List Str := [("thing" : Str), ("least" : Str), ("most" : Str)]
theorem sc_is_withinX : FnScope N_is_withinX [("thing" : Str), ("least" : Str), ("most" : Str)] (defScope s_is_withinX) := ⟨rfl, rfl, rfl, by decide +kernel, rfl, by decide +kernel, by decide +kernel⟩
def t_is_withinX (P : Program) (w : World) (K : PySem.W.Frag) (W : En → XD) : CS := (cRet (cAndV (cFn (sp_is_integerX K) (fun _ => noX) (cCons (cVar 0) cNil)) (cChain cLe cLe (cVar 1) (cVar 0) (cVar 2))))
theorem w_is_withinX {P : Program} {w : World} {K : PySem.W.Frag} {mg : Str → Option Value} {base : Heap} {f : Addr} {fd : FuncData} (L : Lib mg) (D_is_integerX : Dn P w K mg base "is_integer" 1 [("thing" : Str)] (sp_is_integerX K))
    (F : Fun K "is_within" "is_within" s_is_withinX f fd) (ln : ∀ ds h Q E, (sp_is_withinX K) ds h Q E → ds.length = 3)
    (pl : ∀ ds h Q E', (sp_is_withinX K) ds h Q E' → t_is_withinX P w K (fun _ => noX) { nx := fun _ h' => Q .non h', rt := Q } (startD N_is_withinX ds) h) : GF P w K mg base 2 f fd [("thing" : Str), ("least" : Str), ("most" : Str)] (sp_is_withinX K) := by
  refine gf_of (k := 1) F sc_is_withinX ln fun cdv A outer s H E ds h Q E' hr hg kx hs => ?_
  · have ru := room_u hr
    exact ⟨t_is_withinX P w K (fun _ => noX), (qss_one (qs_ret (qe_and (qe_fn D_is_integerX (hr.mono (by omega)) hg TkD.none (qa_cons (qv 0) qa_nil)) (qe_one (qe_chain od_le od_le (qv 1) (qv 0) (qv 2)))))), pl ds h Q E' hs⟩
/-! ### check_number -/
abbrev s_check_number : Stmt := atS PySem.Challenge.pw_tellsless_k65_whole_first_rounds_of_mach 13
abbrev N_check_number : List Str := [("thing" : Str), ("least" : Str), ("most" : Str)]
theorem sc_check_number : FnScope N_check_number [("thing" : Str), ("least" : Str), ("most" : Str)] (defScope s_check_number) := ⟨rfl, rfl, rfl, by decide +kernel, rfl, by decide +kernel, by decide +kernel⟩
def t_check_number (P : Program) (w : World) (K : PySem.W.Frag) (W : En → XD) : CS := (cIfS (cNot (cT (cFn (sp_is_withinX K) (fun _ => noX) (cCons (cVar 0) (cCons (cVar 1) (cCons (cVar 2) cNil)))))) (fun _ ρ h => W ρ (.ref (He.ga K "NoNumber")) none h) cNext)
theorem w_check_number {P : Program} {w : World} {K : PySem.W.Frag} {mg : Str → Option Value} {base : Heap} {f : Addr} {fd : FuncData} (L : Lib mg) (D_is_withinX : Dn P w K mg base "is_within" 2 [("thing" : Str), ("least" : Str), ("most" : Str)] (sp_is_withinX K)) (E_NoNumber : D0 K mg "NoNumber" (He.ga K "NoNumber"))
    (F : Fun K "check_number" "check_number" s_check_number f fd) (ln : ∀ ds h Q E, (sp_check_number K) ds h Q E → ds.length = 3)
    (pl : ∀ ds h Q E', (sp_check_number K) ds h Q E' → t_check_number P w K (fun _ => E') { nx := fun _ h' => Q .non h', rt := Q } (startD N_check_number ds) h) : GF P w K mg base 3 f fd [("thing" : Str), ("least" : Str), ("most" : Str)] (sp_check_number K) := by
  refine gf_of (k := 2) F sc_check_number ln fun cdv A outer s H E ds h Q E' hr hg kx hs => ?_
  · have ru := room_u hr
    have tk : TkD (bodyX P w K mg base N_check_number "check_number" (defScope s_check_number) f cdv A outer s H E) (H, h) fun _ => E' := TkD.body kx
    exact ⟨t_check_number P w K (fun _ => E'), (qss_one (qs_if (qt_not (qt_val (qe_fn D_is_withinX (hr.mono (by omega)) hg TkD.none (qa_cons (qv 0) (qa_cons (qv 1) (qa_cons (qv 2) qa_nil)))))) (qss_one (qs_raise rfl tk (qm_0 E_NoNumber))) qss_nil)), pl ds h Q E' hs⟩
/-! ### total -/
abbrev s_totalT : Stmt := atS PySem.Challenge.pw_tellsless_k65_whole_first_rounds_of_mach 21
abbrev N_totalT : List Str := [("fractions" : Str), ("found" : Str), ("one" : Str)]
theorem sc_totalT : FnScope N_totalT [("fractions" : Str)] (defScope s_totalT) := ⟨rfl, rfl, rfl, by decide +kernel, rfl, by decide +kernel, by decide +kernel⟩
def b_totalT_1 (P : Program) (w : World) (K : PySem.W.Frag) (W : En → XD) : CS := (cSet 1 (cFn sp_plus (fun _ => noX) (cCons (cVar 1) (cCons (cVar 2) cNil))))
def t_totalT (P : Program) (w : World) (K : PySem.W.Frag) (W : En → XD) : CS := (cSeq (cSet 1 (cC (.tup [(.int 0), (.int 1)]))) (cSeq (cFor (cSrcA P w (cVar 0)) (cName 2) (b_totalT_1 P w K W)) (cRet (cVar 1))))
theorem w_totalT {P : Program} {w : World} {K : PySem.W.Frag} {mg : Str → Option Value} {base : Heap} {f : Addr} {fd : FuncData} (L : Lib mg) (D_plus : Dn P w K mg base "plus" 3 [("one" : Str), ("other" : Str)] sp_plus) (g_NOUGHT : GD K mg "NOUGHT" (.tup [(.int 0), (.int 1)]))
    (F : Fun K "total" "total" s_totalT f fd) (ln : ∀ ds h Q E, sp_totalT ds h Q E → ds.length = 1)
    (pl : ∀ ds h Q E', sp_totalT ds h Q E' → t_totalT P w K (fun _ => noX) { nx := fun _ h' => Q .non h', rt := Q } (startD N_totalT ds) h) : GF P w K mg base 4 f fd [("fractions" : Str)] sp_totalT := by
  refine gf_of (k := 3) F sc_totalT ln fun cdv A outer s H E ds h Q E' hr hg kx hs => ?_
  · have ru := room_u hr
    exact ⟨t_totalT P w K (fun _ => noX), (qss_cons (qs_set sc_totalT.nd rfl (by first | exact .inl rfl | exact .inr rfl) (qe_gd g_NOUGHT)) (qss_cons (qs_for (passes_of rfl) rfl (qi_any (qv 0)) (qg_name sc_totalT.nd rfl (by first | exact .inl rfl | exact .inr rfl)) (qss_one (qs_set sc_totalT.nd rfl (by first | exact .inl rfl | exact .inr rfl) (qe_fn D_plus (hr.mono (by omega)) hg TkD.none (qa_cons (qv 1) (qa_cons (qv 2) qa_nil)))))) (qss_one (qs_ret (qv 1))))), pl ds h Q E' hs⟩
/-! ### _law_sum -/
abbrev s_l_sumT : Stmt := atS PySem.Challenge.pw_tellsless_k65_whole_first_rounds_of_mach 71
abbrev N_l_sumT : List Str := [("_law_some" : Str), ("_law_found" : Str), ("_law_one" : Str)]
theorem sc_l_sumT : FnScope N_l_sumT [("_law_some" : Str)] (defScope s_l_sumT) := ⟨rfl, rfl, rfl, by decide +kernel, rfl, by decide +kernel, by decide +kernel⟩
def b_l_sumT_1 (P : Program) (w : World) (K : PySem.W.Frag) (W : En → XD) : CS := (cSet 1 (cFn sp_plus (fun _ => noX) (cCons (cVar 1) (cCons (cVar 2) cNil))))
def t_l_sumT (P : Program) (w : World) (K : PySem.W.Frag) (W : En → XD) : CS := (cSeq (cSet 1 (cTup (cCons (cC (.int 0)) (cCons (cC (.int 1)) cNil)))) (cSeq (cFor (cSrcA P w (cVar 0)) (cName 2) (b_l_sumT_1 P w K W)) (cRet (cVar 1))))
theorem w_l_sumT {P : Program} {w : World} {K : PySem.W.Frag} {mg : Str → Option Value} {base : Heap} {f : Addr} {fd : FuncData} (L : Lib mg) (D__law_plus : Dn P w K mg base "_law_plus" 2 [("_law_one" : Str), ("_law_other" : Str)] sp_plus)
    (F : Fun K "_law_sum" "_law_sum" s_l_sumT f fd) (ln : ∀ ds h Q E, sp_totalT ds h Q E → ds.length = 1)
    (pl : ∀ ds h Q E', sp_totalT ds h Q E' → t_l_sumT P w K (fun _ => noX) { nx := fun _ h' => Q .non h', rt := Q } (startD N_l_sumT ds) h) : GF P w K mg base 3 f fd [("_law_some" : Str)] sp_totalT := by
  refine gf_of (k := 2) F sc_l_sumT ln fun cdv A outer s H E ds h Q E' hr hg kx hs => ?_
  · have ru := room_u hr
    exact ⟨t_l_sumT P w K (fun _ => noX), (qss_cons (qs_set sc_l_sumT.nd rfl (by first | exact .inl rfl | exact .inr rfl) (qe_tup (qa_cons qe_int (qa_cons qe_int qa_nil)))) (qss_cons (qs_for (passes_of rfl) rfl (qi_any (qv 0)) (qg_name sc_l_sumT.nd rfl (by first | exact .inl rfl | exact .inr rfl)) (qss_one (qs_set sc_l_sumT.nd rfl (by first | exact .inl rfl | exact .inr rfl) (qe_fn D__law_plus (hr.mono (by omega)) hg TkD.none (qa_cons (qv 1) (qa_cons (qv 2) qa_nil)))))) (qss_one (qs_ret (qv 1))))), pl ds h Q E' hs⟩
/-! ### RawHouse.__init__ -/
abbrev s_RawHouse_init : Stmt := inCls (atS PySem.Challenge.pw_tellsless_k65_whole_first_rounds_of_mach 44) 0
abbrev N_RawHouse_init : List Str := [("self" : Str), ("worlds" : Str), ("tree" : Str)]
theorem sc_RawHouse_init : FnScope N_RawHouse_init [("self" : Str), ("worlds" : Str), ("tree" : Str)] (defScope s_RawHouse_init) := ⟨rfl, rfl, rfl, by decide +kernel, rfl, by decide +kernel, by decide +kernel⟩
def t_RawHouse_init (P : Program) (w : World) (K : PySem.W.Frag) (W : En → XD) : CS := (cSeq (cFldS K (cVar 0) (cVar 1) "worlds") (cFldS K (cVar 0) (cVar 2) "tree"))
theorem w_RawHouse_init {P : Program} {w : World} {K : PySem.W.Frag} {mg : Str → Option Value} {base : Heap} {f : Addr} {fd : FuncData} (L : Lib mg) 
    (F : Fun K "__init__" "RawHouse.__init__" s_RawHouse_init f fd) (ln : ∀ ds h Q E, (sp_RawHouse_init K) ds h Q E → ds.length = 3)
    (pl : ∀ ds h Q E', (sp_RawHouse_init K) ds h Q E' → t_RawHouse_init P w K (fun _ => noX) { nx := fun _ h' => Q .non h', rt := Q } (startD N_RawHouse_init ds) h) : GF P w K mg base 1 f fd [("self" : Str), ("worlds" : Str), ("tree" : Str)] (sp_RawHouse_init K) := by
  refine gf_of (k := 0) F sc_RawHouse_init ln fun cdv A outer s H E ds h Q E' hr hg kx hs => ?_
  · have ru := room_u hr
    exact ⟨t_RawHouse_init P w K (fun _ => noX), (qss_cons (qs_fld (qv 0) (qv 1)) (qss_one (qs_fld (qv 0) (qv 2)))), pl ds h Q E' hs⟩
/-! ### made -/
abbrev s_made : Stmt := atS PySem.Challenge.pw_tellsless_k65_whole_first_rounds_of_mach 45
abbrev N_made : List Str := [("worlds" : Str), ("tree" : Str)]
theorem sc_made : FnScope N_made [("worlds" : Str), ("tree" : Str)] (defScope s_made) := ⟨rfl, rfl, rfl, by decide +kernel, rfl, by decide +kernel, by decide +kernel⟩
def t_made (P : Program) (w : World) (K : PySem.W.Frag) (W : En → XD) : CS := (cSeq (cIfS (cOr (cT (cOp cGt (cFn (sp_most_rounds 13) (fun _ => noX) (cCons (cVar 1) cNil)) (cC (.int 12)))) (cT (cOp cGt (cFn (sp_count_answers 13) (fun _ => noX) (cCons (cVar 1) cNil)) (cC (.int 3000))))) (fun _ ρ h => W ρ (.ref (He.ga K "TooLarge")) none h) cNext) (cRet (cMake (He.ga K "RawHouse") (sp_RawHouse_init K) (fun _ => noX) (cCons (cVar 0) (cCons (cVar 1) cNil)))))
theorem w_made {P : Program} {w : World} {K : PySem.W.Frag} {mg : Str → Option Value} {base : Heap} {f : Addr} {fd : FuncData} (L : Lib mg) (D_count_answers : Dn P w K mg base "count_answers" 14 [("node" : Str)] (sp_count_answers 13)) (D_most_rounds : Dn P w K mg base "most_rounds" 14 [("node" : Str)] (sp_most_rounds 13)) (D_RawHouse : Dm P w K mg base "RawHouse" (He.ga K "RawHouse") 1 [("self" : Str), ("worlds" : Str), ("tree" : Str)] (sp_RawHouse_init K)) (g_MADE_IN_ALL : GD K mg "MADE_IN_ALL" (.int 3000)) (g_MADE_ROUNDS : GD K mg "MADE_ROUNDS" (.int 12)) (E_TooLarge : D0 K mg "TooLarge" (He.ga K "TooLarge"))
    (F : Fun K "made" "made" s_made f fd) (ln : ∀ ds h Q E, (sp_made K) ds h Q E → ds.length = 2)
    (pl : ∀ ds h Q E', (sp_made K) ds h Q E' → t_made P w K (fun _ => E') { nx := fun _ h' => Q .non h', rt := Q } (startD N_made ds) h) : GF P w K mg base 15 f fd [("worlds" : Str), ("tree" : Str)] (sp_made K) := by
  refine gf_of (k := 14) F sc_made ln fun cdv A outer s H E ds h Q E' hr hg kx hs => ?_
  · have ru := room_u hr
    have tk : TkD (bodyX P w K mg base N_made "made" (defScope s_made) f cdv A outer s H E) (H, h) fun _ => E' := TkD.body kx
    exact ⟨t_made P w K (fun _ => E'), (qss_cons (qs_if (QW.t (qw_or (qt_cmp od_gt (qe_fn D_most_rounds (hr.mono (by omega)) hg TkD.none (qa_cons (qv 1) qa_nil)) (qe_gd g_MADE_ROUNDS)) (qw_or1 (qt_cmp od_gt (qe_fn D_count_answers (hr.mono (by omega)) hg TkD.none (qa_cons (qv 1) qa_nil)) (qe_gd g_MADE_IN_ALL))))) (qss_one (qs_raise rfl tk (qm_0 E_TooLarge))) qss_nil) (qss_one (qs_ret (qe_mk D_RawHouse (hr.mono (by omega)) hg TkD.none (qa_cons (qv 0) (qa_cons (qv 1) qa_nil)))))), pl ds h Q E' hs⟩
/-! ### Rounds.__init__ -/
abbrev s_Rounds_init : Stmt := inCls (atS PySem.Challenge.pw_tellsless_k65_whole_first_rounds_of_mach 61) 0
abbrev N_Rounds_init : List Str := [("self" : Str), ("machine" : Str), ("rounds" : Str)]
theorem sc_Rounds_init : FnScope N_Rounds_init [("self" : Str), ("machine" : Str), ("rounds" : Str)] (defScope s_Rounds_init) := ⟨rfl, rfl, rfl, by decide +kernel, rfl, by decide +kernel, by decide +kernel⟩
def t_Rounds_init (P : Program) (w : World) (K : PySem.W.Frag) (W : En → XD) : CS := (cSeq (cFldS K (cVar 0) (cVar 1) "machine") (cSeq (cFldS K (cVar 0) (cVar 2) "rounds") (cFldS K (cVar 0) (cC (.int 0)) "many")))
theorem w_Rounds_init {P : Program} {w : World} {K : PySem.W.Frag} {mg : Str → Option Value} {base : Heap} {f : Addr} {fd : FuncData} (L : Lib mg) 
    (F : Fun K "__init__" "Rounds.__init__" s_Rounds_init f fd) (ln : ∀ ds h Q E, (sp_Rounds_init K) ds h Q E → ds.length = 3)
    (pl : ∀ ds h Q E', (sp_Rounds_init K) ds h Q E' → t_Rounds_init P w K (fun _ => noX) { nx := fun _ h' => Q .non h', rt := Q } (startD N_Rounds_init ds) h) : GF P w K mg base 1 f fd [("self" : Str), ("machine" : Str), ("rounds" : Str)] (sp_Rounds_init K) := by
  refine gf_of (k := 0) F sc_Rounds_init ln fun cdv A outer s H E ds h Q E' hr hg kx hs => ?_
  · have ru := room_u hr
    exact ⟨t_Rounds_init P w K (fun _ => noX), (qss_cons (qs_fld (qv 0) (qv 1)) (qss_cons (qs_fld (qv 0) (qv 2)) (qss_one (qs_fld (qv 0) qe_int)))), pl ds h Q E' hs⟩
/-! ### Rounds.question -/
abbrev s_Rounds_question : Stmt := inCls (atS PySem.Challenge.pw_tellsless_k65_whole_first_rounds_of_mach 61) 1
abbrev N_Rounds_question : List Str := [("self" : Str), ("spreads" : Str), ("number" : Str), ("left" : Str), ("found" : Str), ("word" : Str), ("later" : Str), ("weights" : Str), ("spread" : Str), ("weight" : Str)]
theorem sc_Rounds_question : FnScope N_Rounds_question [("self" : Str), ("spreads" : Str), ("number" : Str), ("left" : Str)] (defScope s_Rounds_question) := ⟨rfl, rfl, rfl, by decide +kernel, rfl, by decide +kernel, by decide +kernel⟩
def b_Rounds_question_1 (P : Program) (w : World) (K : PySem.W.Frag) (n : Nat) (W : En → XD) : CS := (cSeq (cSet 6 (cFn (sp_spreads_behind K) (fun _ => noX) (cCons (cFld K (cVar 0) "machine") (cCons (cVar 1) (cCons (cVar 2) (cCons (cVar 5) cNil)))))) (cSeq (cSet 7 (cCall cTuple (cCons (cLc (cSrcA P w (cVar 6)) (.one 8) cYes (cFn sp_totalT (fun _ => noX) (cCons (cVar 8) cNil)) [8]) cNil))) (cIfS (cT (cCall (cBools fun bs => bs.any id) (cCons (cLc (cSrcA P w (cVar 7)) (.one 9) cYes (cOp cNe (cVar 9) (cC (.tup [(.int 0), (.int 1)]))) [9]) cNil))) (cSeq (cFldA K (cVar 0) (cC (.int 1)) (cInI fun i j => i + j) "many") (cSeq (cIfS (cT (cOp cGt (cFld K (cVar 0) "many") (cC (.int 3000)))) (fun _ ρ h => W ρ (.ref (He.ga K "TooLarge")) none h) cNext) (cDrop (cLm (cVar 4) (cCons (cTup (cCons (cTup (cCons (cVar 5) cNil)) (cCons (cVar 7) (cCons (cMeth (He.ga K "Rounds") "node" (sp_Rounds_node K n) W (cVar 0) (cCons (cVar 6) (cCons (cOp cSub (cVar 3) (cC (.int 1))) cNil))) cNil)))) cNil) cApp)))) cNext)))
def t_Rounds_question (P : Program) (w : World) (K : PySem.W.Frag) (n : Nat) (W : En → XD) : CS := (cSeq (cSet 4 (cLst cNil)) (cSeq (cFor (cRng1 (cCons (cFld K (cFld K (cVar 0) "machine") "words") cNil)) (cName 5) (b_Rounds_question_1 P w K n W)) (cRet (cCall cTuple (cCons (cVar 4) cNil)))))
theorem w_Rounds_question {P : Program} {w : World} {K : PySem.W.Frag} {mg : Str → Option Value} {base : Heap} {f : Addr} {fd : FuncData} {n : Nat} (L : Lib mg) (D_spreads_behind : Dn P w K mg base "spreads_behind" 5 [("machine" : Str), ("spreads" : Str), ("question" : Str), ("word" : Str)] (sp_spreads_behind K)) (D_totalT : Dn P w K mg base "total" 4 [("fractions" : Str)] sp_totalT) (D_Rounds_node : Mt P w K mg base (He.ga K "Rounds") "node" (2 * n + 11) [("self" : Str), ("spreads" : Str), ("left" : Str)] (sp_Rounds_node K n)) (g_NOUGHT : GD K mg "NOUGHT" (.tup [(.int 0), (.int 1)])) (g_MADE_IN_ALL : GD K mg "MADE_IN_ALL" (.int 3000)) (E_TooLarge : D0 K mg "TooLarge" (He.ga K "TooLarge"))
    (F : Fun K "question" "Rounds.question" s_Rounds_question f fd) (ln : ∀ ds h Q E, (sp_Rounds_question K (n + 1)) ds h Q E → ds.length = 4)
    (pl : ∀ ds h Q E', (sp_Rounds_question K (n + 1)) ds h Q E' → t_Rounds_question P w K n (fun _ => E') { nx := fun _ h' => Q .non h', rt := Q } (startD N_Rounds_question ds) h) : GF P w K mg base (2 * n + 12) f fd [("self" : Str), ("spreads" : Str), ("number" : Str), ("left" : Str)] (sp_Rounds_question K (n + 1)) := by
  refine gf_of (k := (2 * n + 11)) F sc_Rounds_question ln fun cdv A outer s H E ds h Q E' hr hg kx hs => ?_
  · have ru := room_u hr
    have tk : TkD (bodyX P w K mg base N_Rounds_question "Rounds.question" (defScope s_Rounds_question) f cdv A outer s H E) (H, h) fun _ => E' := TkD.body kx
    exact ⟨t_Rounds_question P w K n (fun _ => E'), (qss_cons (qs_set sc_Rounds_question.nd rfl (by first | exact .inl rfl | exact .inr rfl) (qe_lst qa_nil)) (qss_cons (qs_for (passes_of rfl) rfl (qi_range1 rfl (L.n "range") (qa_cons (qe_fld (qe_fld (qv 0) rfl) rfl) qa_nil)) (qg_name sc_Rounds_question.nd rfl (by first | exact .inl rfl | exact .inr rfl)) (qss_cons (qs_set sc_Rounds_question.nd rfl (by first | exact .inl rfl | exact .inr rfl) (qe_fn D_spreads_behind (hr.mono (by omega)) hg TkD.none (qa_cons (qe_fld (qv 0) rfl) (qa_cons (qv 1) (qa_cons (qv 2) (qa_cons (qv 5) qa_nil)))))) (qss_cons (qs_set sc_Rounds_question.nd rfl (by first | exact .inl rfl | exact .inr rfl) (qe_callTy cd_tuple rfl (L.n "tuple") b_tuple (qa_cons (qe_lc (own := [("spread", 8)]) rfl sc_Rounds_question.nd (qi_any (qv 6)) (show BlkOk N_Rounds_question (defScope s_Rounds_question) _ [("spread", 8)] from ⟨rfl, by decide +kernel, by decide +kernel, by decide +kernel, by decide +kernel⟩) (by decide) (fun _ _ _ _ _ => (tg_one sc_Rounds_question.nd rfl (.inl rfl) (K := _))) (fun _ _ _ _ _ => qts_nil) (fun _ _ _ _ _ => (qe_fn D_totalT (hr.mono (by omega)) hg TkD.none (qa_cons (qv 8) qa_nil)))) qa_nil))) (qss_one (qs_if (qt_val (qe_callB (cd_any rfl) rfl (L.n "any") b_any (qa_cons (qe_lc (own := [("weight", 9)]) rfl sc_Rounds_question.nd (qi_any (qv 7)) (show BlkOk N_Rounds_question (defScope s_Rounds_question) _ [("weight", 9)] from ⟨rfl, by decide +kernel, by decide +kernel, by decide +kernel, by decide +kernel⟩) (by decide) (fun _ _ _ _ _ => (tg_one sc_Rounds_question.nd rfl (.inl rfl) (K := _))) (fun _ _ _ _ _ => qts_nil) (fun _ _ _ _ _ => (qe_cmp (od_ne (uu ru)) (qv 9) (qe_gd g_NOUGHT)))) qa_nil))) (qss_cons (qs_fldaug (qv 0) qe_int ind_add) (qss_cons (qs_if (qt_cmp od_gt (qe_fld (qv 0) rfl) (qe_gd g_MADE_IN_ALL)) (qss_one (qs_raise rfl tk (qm_0 E_TooLarge))) qss_nil) (qss_one (qs_expr (qe_lm PySem.F.slot_list_append PySem.F.type_list_append md_append (qv 4) (qa_cons (qe_tup (qa_cons (qe_tup (qa_cons (qv 5) qa_nil)) (qa_cons (qv 7) (qa_cons (qe_mt D_Rounds_node hr hg tk (qv 0) (qa_cons (qv 6) (qa_cons (qe_op od_sub (qv 3) qe_int) qa_nil))) qa_nil)))) qa_nil)))))) qss_nil))))) (qss_one (qs_ret (qe_callTy cd_tuple rfl (L.n "tuple") b_tuple (qa_cons (qv 4) qa_nil)))))), pl ds h Q E' hs⟩
/-! ### Rounds.node -/
abbrev s_Rounds_node : Stmt := inCls (atS PySem.Challenge.pw_tellsless_k65_whole_first_rounds_of_mach 61) 2
abbrev N_Rounds_node : List Str := [("self" : Str), ("spreads" : Str), ("left" : Str), ("number" : Str)]
theorem sc_Rounds_node : FnScope N_Rounds_node [("self" : Str), ("spreads" : Str), ("left" : Str)] (defScope s_Rounds_node) := ⟨rfl, rfl, rfl, by decide +kernel, rfl, by decide +kernel, by decide +kernel⟩
def t_Rounds_node (P : Program) (w : World) (K : PySem.W.Frag) (n : Nat) (W : En → XD) : CS := (cSeq (cIfS (cT (cOp cEq (cVar 2) (cC (.int 0)))) (cRet (cTup cNil)) cNext) (cRet (cCall cTuple (cCons (cLc (cRng1 (cCons (cFn (sp_many_asked K) (fun _ => noX) (cCons (cFld K (cVar 0) "machine") cNil)) cNil)) (.one 3) cYes (cMeth (He.ga K "Rounds") "question" (sp_Rounds_question K n) W (cVar 0) (cCons (cVar 1) (cCons (cVar 3) (cCons (cVar 2) cNil)))) [3]) cNil))))
theorem w_Rounds_node {P : Program} {w : World} {K : PySem.W.Frag} {mg : Str → Option Value} {base : Heap} {f : Addr} {fd : FuncData} {n : Nat} (L : Lib mg) (D_many_asked : Dn P w K mg base "many_asked" 1 [("machine" : Str)] (sp_many_asked K)) (D_Rounds_question : Mt P w K mg base (He.ga K "Rounds") "question" (2 * n + 10) [("self" : Str), ("spreads" : Str), ("number" : Str), ("left" : Str)] (sp_Rounds_question K n))
    (F : Fun K "node" "Rounds.node" s_Rounds_node f fd) (ln : ∀ ds h Q E, (sp_Rounds_node K n) ds h Q E → ds.length = 3)
    (pl : ∀ ds h Q E', (sp_Rounds_node K n) ds h Q E' → t_Rounds_node P w K n (fun _ => E') { nx := fun _ h' => Q .non h', rt := Q } (startD N_Rounds_node ds) h) : GF P w K mg base (2 * n + 11) f fd [("self" : Str), ("spreads" : Str), ("left" : Str)] (sp_Rounds_node K n) := by
  refine gf_of (k := (2 * n + 10)) F sc_Rounds_node ln fun cdv A outer s H E ds h Q E' hr hg kx hs => ?_
  · have ru := room_u hr
    have tk : TkD (bodyX P w K mg base N_Rounds_node "Rounds.node" (defScope s_Rounds_node) f cdv A outer s H E) (H, h) fun _ => E' := TkD.body kx
    exact ⟨t_Rounds_node P w K n (fun _ => E'), (qss_cons (qs_if (qt_cmp (od_eq (uu ru)) (qv 2) qe_int) (qss_one (qs_ret (qe_tup qa_nil))) qss_nil) (qss_one (qs_ret (qe_callTy cd_tuple rfl (L.n "tuple") b_tuple (qa_cons (qe_lcR (own := [("number", 3)]) rfl rfl tk rfl sc_Rounds_node.nd (qi_range1 rfl (L.n "range") (qa_cons (qe_fn D_many_asked (hr.mono (by omega)) hg TkD.none (qa_cons (qe_fld (qv 0) rfl) qa_nil)) qa_nil)) (show BlkOk N_Rounds_node (defScope s_Rounds_node) _ [("number", 3)] from ⟨rfl, by decide +kernel, by decide +kernel, by decide +kernel, by decide +kernel⟩) (by decide) (fun _ _ _ _ _ => (tg_one sc_Rounds_node.nd rfl (.inl rfl) (K := _))) (fun _ _ _ _ _ => qts_nil) (fun _ _ _ _ _ tkb => (qe_mt D_Rounds_question hr hg tkb (qv 0) (qa_cons (qv 1) (qa_cons (qv 3) (qa_cons (qv 2) qa_nil)))))) qa_nil))))), pl ds h Q E' hs⟩
/-! ### first_rounds -/
abbrev s_first_rounds : Stmt := atS PySem.Challenge.pw_tellsless_k65_whole_first_rounds_of_mach 62
abbrev N_first_rounds : List Str := [("machine" : Str), ("rounds" : Str), ("begin" : Str)]
theorem sc_first_rounds : FnScope N_first_rounds [("machine" : Str), ("rounds" : Str)] (defScope s_first_rounds) := ⟨rfl, rfl, rfl, by decide +kernel, rfl, by decide +kernel, by decide +kernel⟩
def t_first_rounds (P : Program) (w : World) (K : PySem.W.Frag) (W : En → XD) : CS := (cSeq (cDrop (cFn (sp_check_number K) W (cCons (cVar 1) (cCons (cC (.int 0)) (cCons (cC (.int 4)) cNil))))) (cSeq (cSet 2 (cOp cMul (cTup (cCons (cFn (sp_first_spread K) (fun _ => noX) (cCons (cVar 0) cNil)) cNil)) (cFld K (cVar 0) "worlds"))) (cRet (cFn (sp_made K) W (cCons (cFld K (cVar 0) "worlds") (cCons (cMeth (He.ga K "Rounds") "node" (sp_Rounds_nodeE K) W (cMake (He.ga K "Rounds") (sp_Rounds_init K) (fun _ => noX) (cCons (cVar 0) (cCons (cVar 1) cNil))) (cCons (cVar 2) (cCons (cVar 1) cNil))) cNil))))))
theorem w_first_rounds {P : Program} {w : World} {K : PySem.W.Frag} {mg : Str → Option Value} {base : Heap} {f : Addr} {fd : FuncData} (L : Lib mg) (D_check_number : Dn P w K mg base "check_number" 3 [("thing" : Str), ("least" : Str), ("most" : Str)] (sp_check_number K)) (D_first_spread : Dn P w K mg base "first_spread" 1 [("machine" : Str)] (sp_first_spread K)) (D_made : Dn P w K mg base "made" 15 [("worlds" : Str), ("tree" : Str)] (sp_made K)) (D_Rounds : Dm P w K mg base "Rounds" (He.ga K "Rounds") 1 [("self" : Str), ("machine" : Str), ("rounds" : Str)] (sp_Rounds_init K)) (D_Rounds_node : Mt P w K mg base (He.ga K "Rounds") "node" 19 [("self" : Str), ("spreads" : Str), ("left" : Str)] (sp_Rounds_nodeE K)) (g_MOST_FIRST : GD K mg "MOST_FIRST" (.int 4))
    (F : Fun K "first_rounds" "first_rounds" s_first_rounds f fd) (ln : ∀ ds h Q E, (sp_first_rounds K) ds h Q E → ds.length = 2)
    (pl : ∀ ds h Q E', (sp_first_rounds K) ds h Q E' → t_first_rounds P w K (fun _ => E') { nx := fun _ h' => Q .non h', rt := Q } (startD N_first_rounds ds) h) : GF P w K mg base 21 f fd [("machine" : Str), ("rounds" : Str)] (sp_first_rounds K) := by
  refine gf_of (k := 20) F sc_first_rounds ln fun cdv A outer s H E ds h Q E' hr hg kx hs => ?_
  · have ru := room_u hr
    have tk : TkD (bodyX P w K mg base N_first_rounds "first_rounds" (defScope s_first_rounds) f cdv A outer s H E) (H, h) fun _ => E' := TkD.body kx
    exact ⟨t_first_rounds P w K (fun _ => E'), (qss_cons (qs_expr (qe_fn D_check_number (hr.mono (by omega)) hg tk (qa_cons (qv 1) (qa_cons qe_int (qa_cons (qe_gd g_MOST_FIRST) qa_nil))))) (qss_cons (qs_set sc_first_rounds.nd rfl (by first | exact .inl rfl | exact .inr rfl) (qe_op od_mul (qe_tup (qa_cons (qe_fn D_first_spread (hr.mono (by omega)) hg TkD.none (qa_cons (qv 0) qa_nil)) qa_nil)) (qe_fld (qv 0) rfl))) (qss_one (qs_ret (qe_fn D_made (hr.mono (by omega)) hg tk (qa_cons (qe_fld (qv 0) rfl) (qa_cons (qe_mt D_Rounds_node (hr.mono (by omega)) hg tk (qe_mk D_Rounds (hr.mono (by omega)) hg TkD.none (qa_cons (qv 0) (qa_cons (qv 1) qa_nil))) (qa_cons (qv 2) (qa_cons (qv 1) qa_nil))) qa_nil))))))), pl ds h Q E' hs⟩
/-! ### _law_node -/
abbrev s_l_node : Stmt := atS PySem.Challenge.pw_tellsless_k65_whole_first_rounds_of_mach 76
abbrev N_l_node : List Str := [("_law_parts" : Str), ("_law_spreads" : Str), ("_law_left" : Str), ("_law_found" : Str), ("_law_question" : Str), ("_law_rows_here" : Str), ("_law_worlds" : Str), ("_law_words" : Str), ("_law_answers" : Str), ("_law_word" : Str), ("_law_later" : Str), ("_law_weights" : Str), ("_law_world" : Str), ("_law_spread" : Str), ("_law_weight" : Str)]
theorem sc_l_node : FnScope N_l_node [("_law_parts" : Str), ("_law_spreads" : Str), ("_law_left" : Str)] (defScope s_l_node) := ⟨rfl, rfl, rfl, by decide +kernel, rfl, by decide +kernel, by decide +kernel⟩
def b_l_node_2 (P : Program) (w : World) (K : PySem.W.Frag) (n : Nat) (W : En → XD) : CS := (cSeq (cSet 10 (cLc (cRng1 (cCons (cVar 6) cNil)) (.one 12) cYes (cFn sp_l_behind (fun _ => noX) (cCons (cVar 5) (cCons (cVar 12) (cCons (cOp (cIxA P w) (cVar 1) (cVar 12)) (cCons (cVar 4) (cCons (cVar 9) cNil)))))) [12])) (cSeq (cSet 11 (cCall cTuple (cCons (cLc (cSrcA P w (cVar 10)) (.one 13) cYes (cFn sp_totalT (fun _ => noX) (cCons (cVar 13) cNil)) [13]) cNil))) (cIfS (cT (cCall (cBools fun bs => bs.any id) (cCons (cLc (cSrcA P w (cVar 11)) (.one 14) cYes (cOp cGt (cOp (cIxA P w) (cVar 14) (cC (.int 0))) (cC (.int 0))) [14]) cNil))) (cDrop (cLm (cVar 8) (cCons (cTup (cCons (cTup (cCons (cVar 9) cNil)) (cCons (cVar 11) (cCons (cFn (sp_l_nodeP n) (fun _ => noX) (cCons (cVar 0) (cCons (cVar 10) (cCons (cOp cSub (cVar 2) (cC (.int 1))) cNil)))) cNil)))) cNil) cApp)) cNext)))
def b_l_node_1 (P : Program) (w : World) (K : PySem.W.Frag) (n : Nat) (W : En → XD) : CS := (cSeq (cSet 8 (cLst cNil)) (cSeq (cFor (cRng1 (cCons (cVar 7) cNil)) (cName 9) (b_l_node_2 P w K n W)) (cDrop (cLm (cVar 3) (cCons (cCall cTuple (cCons (cVar 8) cNil)) cNil) cApp))))
def t_l_node (P : Program) (w : World) (K : PySem.W.Frag) (n : Nat) (W : En → XD) : CS := (cSeq (cAsg (cVar 0) (cGTup 3 (cGCons (cName 5) (cGCons (cName 6) (cGCons (cName 7) cGNil))))) (cSeq (cSet 3 (cLst cNil)) (cSeq (cFor (cRng1 (cCons (cIf (cT (cOp cGt (cVar 2) (cC (.int 0)))) (cCall (cLenA P w) (cCons (cOp (cIxA P w) (cVar 5) (cC (.int 0))) cNil)) (cC (.int 0))) cNil)) (cName 4) (b_l_node_1 P w K n W)) (cRet (cCall cTuple (cCons (cVar 3) cNil))))))
theorem w_l_node {P : Program} {w : World} {K : PySem.W.Frag} {mg : Str → Option Value} {base : Heap} {f : Addr} {fd : FuncData} {n : Nat} (L : Lib mg) (D__law_behind : Dn P w K mg base "_law_behind" 3 [("_law_rows_here" : Str), ("_law_world" : Str), ("_law_spread" : Str), ("_law_question" : Str), ("_law_word" : Str)] sp_l_behind) (D__law_sumT : Dn P w K mg base "_law_sum" 3 [("_law_some" : Str)] sp_totalT) (D__law_node : Dn P w K mg base "_law_node" (n + 4) [("_law_parts" : Str), ("_law_spreads" : Str), ("_law_left" : Str)] (sp_l_nodeP n))
    (F : Fun K "_law_node" "_law_node" s_l_node f fd) (ln : ∀ ds h Q E, (sp_l_node n) ds h Q E → ds.length = 3)
    (pl : ∀ ds h Q E', (sp_l_node n) ds h Q E' → t_l_node P w K n (fun _ => noX) { nx := fun _ h' => Q .non h', rt := Q } (startD N_l_node ds) h) : GF P w K mg base (n + 5) f fd [("_law_parts" : Str), ("_law_spreads" : Str), ("_law_left" : Str)] (sp_l_node n) := by
  refine gf_of (k := (n + 4)) F sc_l_node ln fun cdv A outer s H E ds h Q E' hr hg kx hs => ?_
  · have ru := room_u hr
    exact ⟨t_l_node P w K n (fun _ => noX), (qss_cons (qs_asg (qv 0) (qg_tup rfl (qgs_cons (qg_name sc_l_node.nd rfl (by first | exact .inl rfl | exact .inr rfl)) (qgs_cons (qg_name sc_l_node.nd rfl (by first | exact .inl rfl | exact .inr rfl)) (qgs_cons (qg_name sc_l_node.nd rfl (by first | exact .inl rfl | exact .inr rfl)) qgs_nil))))) (qss_cons (qs_set sc_l_node.nd rfl (by first | exact .inl rfl | exact .inr rfl) (qe_lst qa_nil)) (qss_cons (qs_for (passes_of rfl) rfl (qi_range1 rfl (L.n "range") (qa_cons (qe_if (qt_cmp od_gt (qv 2) qe_int) (qe_callB cd_lenA rfl (L.n "len") b_len (qa_cons (qe_ix (xd_any (uu ru)) (qv 5) qe_int (fun _ _ => rfl)) qa_nil)) qe_int) qa_nil)) (qg_name sc_l_node.nd rfl (by first | exact .inl rfl | exact .inr rfl)) (qss_cons (qs_set sc_l_node.nd rfl (by first | exact .inl rfl | exact .inr rfl) (qe_lst qa_nil)) (qss_cons (qs_for (passes_of rfl) rfl (qi_range1 rfl (L.n "range") (qa_cons (qv 7) qa_nil)) (qg_name sc_l_node.nd rfl (by first | exact .inl rfl | exact .inr rfl)) (qss_cons (qs_setLc (own := [("_law_world", 12)]) rfl sc_l_node.nd rfl rfl (sw_true rfl rfl rfl rfl) (qi_range1 rfl (L.n "range") (qa_cons (qv 6) qa_nil)) (show BlkOk N_l_node (defScope s_l_node) _ [("_law_world", 12)] from ⟨rfl, by decide +kernel, by decide +kernel, by decide +kernel, by decide +kernel⟩) (by decide) (fun _ _ _ _ _ => (tg_one sc_l_node.nd rfl (.inl rfl) (K := _))) (fun _ _ _ _ _ => qts_nil) (fun _ _ _ _ _ => (qe_fn D__law_behind (hr.mono (by omega)) hg TkD.none (qa_cons (qv 5) (qa_cons (qv 12) (qa_cons (qe_ix (xd_any (uu ru)) (qv 1) (qv 12) (fun _ _ => rfl)) (qa_cons (qv 4) (qa_cons (qv 9) qa_nil)))))))) (qss_cons (qs_set sc_l_node.nd rfl (by first | exact .inl rfl | exact .inr rfl) (qe_callTy cd_tuple rfl (L.n "tuple") b_tuple (qa_cons (qe_lc (own := [("_law_spread", 13)]) rfl sc_l_node.nd (qi_any (qv 10)) (show BlkOk N_l_node (defScope s_l_node) _ [("_law_spread", 13)] from ⟨rfl, by decide +kernel, by decide +kernel, by decide +kernel, by decide +kernel⟩) (by decide) (fun _ _ _ _ _ => (tg_one sc_l_node.nd rfl (.inl rfl) (K := _))) (fun _ _ _ _ _ => qts_nil) (fun _ _ _ _ _ => (qe_fn D__law_sumT (hr.mono (by omega)) hg TkD.none (qa_cons (qv 13) qa_nil)))) qa_nil))) (qss_one (qs_if (qt_val (qe_callB (cd_any rfl) rfl (L.n "any") b_any (qa_cons (qe_lc (own := [("_law_weight", 14)]) rfl sc_l_node.nd (qi_any (qv 11)) (show BlkOk N_l_node (defScope s_l_node) _ [("_law_weight", 14)] from ⟨rfl, by decide +kernel, by decide +kernel, by decide +kernel, by decide +kernel⟩) (by decide) (fun _ _ _ _ _ => (tg_one sc_l_node.nd rfl (.inl rfl) (K := _))) (fun _ _ _ _ _ => qts_nil) (fun _ _ _ _ _ => (qe_cmp od_gt (qe_ix (xd_any (uu ru)) (qv 14) qe_int (fun _ _ => rfl)) qe_int))) qa_nil))) (qss_one (qs_expr (qe_lm PySem.F.slot_list_append PySem.F.type_list_append md_append (qv 8) (qa_cons (qe_tup (qa_cons (qe_tup (qa_cons (qv 9) qa_nil)) (qa_cons (qv 11) (qa_cons (qe_fn D__law_node hr hg TkD.none (qa_cons (qv 0) (qa_cons (qv 10) (qa_cons (qe_op od_sub (qv 2) qe_int) qa_nil)))) qa_nil)))) qa_nil)))) qss_nil))))) (qss_one (qs_expr (qe_lm PySem.F.slot_list_append PySem.F.type_list_append md_append (qv 3) (qa_cons (qe_callTy cd_tuple rfl (L.n "tuple") b_tuple (qa_cons (qv 8) qa_nil)) qa_nil))))))) (qss_one (qs_ret (qe_callTy cd_tuple rfl (L.n "tuple") b_tuple (qa_cons (qv 3) qa_nil))))))), pl ds h Q E' hs⟩
/-! ### _law_great -/
abbrev s_l_great : Stmt := atS PySem.Challenge.pw_tellsless_k65_whole_first_rounds_of_mach 77
abbrev N_l_great : List Str := [("_law_hand_here" : Str), ("_law_worlds" : Str), ("_law_words" : Str), ("_law_asked" : Str), ("_law_steps_here" : Str), ("_law_word" : Str)]
theorem sc_l_great : FnScope N_l_great [("_law_hand_here" : Str), ("_law_worlds" : Str), ("_law_words" : Str), ("_law_asked" : Str)] (defScope s_l_great) := ⟨rfl, rfl, rfl, by decide +kernel, rfl, by decide +kernel, by decide +kernel⟩
def t_l_great (P : Program) (w : World) (K : PySem.W.Frag) (W : En → XD) : CS := (cSeq (cSet 4 (cCall cTuple (cCons (cLc (cRng1 (cCons (cVar 2) cNil)) (.one 5) cYes (cTup (cCons (cVar 5) (cCons (cTup (cCons (cC (.int 1)) (cCons (cVar 2) cNil))) (cCons (cC (.int 0)) cNil)))) [5]) cNil))) (cRet (cTup (cCons (cOp cMul (cTup (cCons (cOp cMul (cTup (cCons (cVar 4) cNil)) (cVar 1)) cNil)) (cVar 3)) cNil))))
theorem w_l_great {P : Program} {w : World} {K : PySem.W.Frag} {mg : Str → Option Value} {base : Heap} {f : Addr} {fd : FuncData} (L : Lib mg) 
    (F : Fun K "_law_great" "_law_great" s_l_great f fd) (ln : ∀ ds h Q E, sp_l_great ds h Q E → ds.length = 4)
    (pl : ∀ ds h Q E', sp_l_great ds h Q E' → t_l_great P w K (fun _ => noX) { nx := fun _ h' => Q .non h', rt := Q } (startD N_l_great ds) h) : GF P w K mg base 3 f fd [("_law_hand_here" : Str), ("_law_worlds" : Str), ("_law_words" : Str), ("_law_asked" : Str)] sp_l_great := by
  refine gf_of (k := 2) F sc_l_great ln fun cdv A outer s H E ds h Q E' hr hg kx hs => ?_
  · have ru := room_u hr
    exact ⟨t_l_great P w K (fun _ => noX), (qss_cons (qs_set sc_l_great.nd rfl (by first | exact .inl rfl | exact .inr rfl) (qe_callTy cd_tuple rfl (L.n "tuple") b_tuple (qa_cons (qe_lc (own := [("_law_word", 5)]) rfl sc_l_great.nd (qi_range1 rfl (L.n "range") (qa_cons (qv 2) qa_nil)) (show BlkOk N_l_great (defScope s_l_great) _ [("_law_word", 5)] from ⟨rfl, by decide +kernel, by decide +kernel, by decide +kernel, by decide +kernel⟩) (by decide) (fun _ _ _ _ _ => (tg_one sc_l_great.nd rfl (.inl rfl) (K := _))) (fun _ _ _ _ _ => qts_nil) (fun _ _ _ _ _ => (qe_tup (qa_cons (qv 5) (qa_cons (qe_tup (qa_cons qe_int (qa_cons (qv 2) qa_nil))) (qa_cons qe_int qa_nil)))))) qa_nil))) (qss_one (qs_ret (qe_tup (qa_cons (qe_op od_mul (qe_tup (qa_cons (qe_op od_mul (qe_tup (qa_cons (qv 4) qa_nil)) (qv 1)) qa_nil)) (qv 3)) qa_nil))))), pl ds h Q E' hs⟩
/-! ### _law_told -/
abbrev s_l_told : Stmt := atS PySem.Challenge.pw_tellsless_k65_whole_first_rounds_of_mach 78
abbrev N_l_told : List Str := [("_law_machine" : Str), ("_law_rounds" : Str), ("e" : Str), ("_law_house" : Str), ("_law_flags" : Str)]
theorem sc_l_told : FnScope N_l_told [("_law_machine" : Str), ("_law_rounds" : Str)] (defScope s_l_told) := ⟨rfl, rfl, rfl, by decide +kernel, rfl, by decide +kernel, by decide +kernel⟩
def t_l_told (P : Program) (w : World) (K : PySem.W.Frag) (W : En → XD) : CS := (cTryAs K (.ref (He.ga K "HouseError")) 2 (fun W => (cSeq (cSet 3 (cFn (sp_first_rounds K) W (cCons (cVar 0) (cCons (cVar 1) cNil)))) (cRet (cIf (cT (cCall (cIsi K) (cCons (cVar 3) (cCons (cC (.ref (He.ga K "House"))) cNil)))) (cLst (cCons (cFld K (cVar 3) "worlds") (cCons (cFld K (cVar 3) "tree") cNil))) (cC (.str "none")))))) (fun a cls fs => (cSeq (cSet 4 (cLst (cCons (cCall (cIsE K a cls) (cCons (cVar 2) (cCons (cC (.ref (He.ga K "NoNumber"))) cNil))) (cCons (cCall (cIsE K a cls) (cCons (cVar 2) (cCons (cC (.ref (He.ga K "TooLarge"))) cNil))) cNil)))) (cRet (cIf (cT (cOp cEq (cLm (cVar 4) (cCons (cC (.bl true)) cNil) cCount) (cC (.int 1)))) (cOp (cIxA P w) (cTup (cCons (cC (.str "number")) (cCons (cC (.str "large")) cNil))) (cLm (cVar 4) (cCons (cC (.bl true)) cNil) cIndex)) (cC (.str "other")))))) (fun _ => noX))
theorem w_l_told {P : Program} {w : World} {K : PySem.W.Frag} {mg : Str → Option Value} {base : Heap} {f : Addr} {fd : FuncData} (L : Lib mg) (D_first_rounds : Dn P w K mg base "first_rounds" 21 [("machine" : Str), ("rounds" : Str)] (sp_first_rounds K)) (g_House : GD K mg "House" (.ref (He.ga K "House"))) (g_TooLarge : GD K mg "TooLarge" (.ref (He.ga K "TooLarge"))) (g_NoNumber : GD K mg "NoNumber" (.ref (He.ga K "NoNumber"))) (m_HouseError : mg "HouseError" = some (.ref (He.ga K "HouseError")))
    (F : Fun K "_law_told" "_law_told" s_l_told f fd) (ln : ∀ ds h Q E, (sp_l_told K) ds h Q E → ds.length = 2)
    (pl : ∀ ds h Q E', (sp_l_told K) ds h Q E' → t_l_told P w K (fun _ => noX) { nx := fun _ h' => Q .non h', rt := Q } (startD N_l_told ds) h) : GF P w K mg base 23 f fd [("_law_machine" : Str), ("_law_rounds" : Str)] (sp_l_told K) := by
  refine gf_of (k := 22) F sc_l_told ln fun cdv A outer s H E ds h Q E' hr hg kx hs => ?_
  · have ru := room_u hr
    have N_HouseError : Names (bodyX P w K mg base N_l_told "_law_told" (defScope s_l_told) f cdv A outer s H E) "HouseError" (.ref (He.ga K "HouseError")) := ⟨rfl, rfl, .inl m_HouseError⟩
    exact ⟨t_l_told P w K (fun _ => noX), (qss_one (qs_try_as rfl rfl sc_l_told.nd rfl rfl N_HouseError TkD.none (fun W B' pn xe tk po => (qss_cons (qs_set sc_l_told.nd rfl (by first | exact .inl rfl | exact .inr rfl) (qe_fn D_first_rounds (hr.mono (by omega)) hg tk (qa_cons (qv 0) (qa_cons (qv 1) qa_nil)))) (qss_one (qs_ret (qe_if (qt_val (qe_callB cd_isi rfl (L.n "isinstance") b_isinstance (qa_cons (qv 3) (qa_cons (qe_gd g_House) qa_nil)))) (qe_lst (qa_cons (qe_fld (qv 3) rfl) (qa_cons (qe_fld (qv 3) rfl) qa_nil))) qe_str))))) (fun B' a oe cls d fs pn xr hz hv => (qss_cons (qs_set sc_l_told.nd rfl (by first | exact .inl rfl | exact .inr rfl) (qe_lst (qa_cons (qe_isE xr hz hv rfl (L.n "isinstance") (qa_cons (qv 2) (qa_cons (qe_gd g_NoNumber) qa_nil))) (qa_cons (qe_isE xr hz hv rfl (L.n "isinstance") (qa_cons (qv 2) (qa_cons (qe_gd g_TooLarge) qa_nil))) qa_nil)))) (qss_one (qs_ret (qe_if (qt_cmp (od_eq (uu ru)) (qe_lm PySem.F.slot_list_count PySem.F.type_list_count (md_count (uu ru)) (qv 4) (qa_cons qe_bl qa_nil)) qe_int) (qe_ix (xd_any (uu ru)) (qe_tup (qa_cons qe_str (qa_cons qe_str qa_nil))) (qe_lm PySem.F.slot_list_index PySem.F.type_list_index md_index (qv 4) (qa_cons qe_bl qa_nil)) (fun _ _ => rfl)) qe_str))))))), pl ds h Q E' hs⟩
/-! ### law -/
abbrev s_law : Stmt := atS PySem.Challenge.pw_tellsless_k65_whole_first_rounds_of_mach 79
abbrev N_law : List Str := [("_law_script" : Str), ("_law_hand_here" : Str), ("_law_rows_here" : Str), ("_law_machine" : Str), ("_law_number" : Str), ("_law_odd" : Str), ("_law_great_here" : Str), ("_law_worlds" : Str), ("_law_words" : Str), ("_law_asked" : Str), ("_law_rounds" : Str), ("_law_answers" : Str), ("_law_tree" : Str), ("_law_many" : Str), ("_law_turn" : Str)]
theorem sc_law : FnScope N_law [("_law_script" : Str)] (defScope s_law) := ⟨rfl, rfl, rfl, by decide +kernel, rfl, by decide +kernel, by decide +kernel⟩
def b_law_1 (P : Program) (w : World) (K : PySem.W.Frag) (W : En → XD) : CS := (cSeq (cDrop (cLm (cVar 10) (cCons (cCall (cLenA P w) (cCons (cVar 10) cNil)) cNil) cApp)) (cSet 11 (cOp cMul (cOp cMul (cVar 11) (cVar 8)) (cVar 9))))
def b_law_2 (P : Program) (w : World) (K : PySem.W.Frag) (W : En → XD) : CS := (cSeq (cSet 12 (cFn sp_l_nodeE (fun _ => noX) (cCons (cTup (cCons (cVar 2) (cCons (cVar 7) (cCons (cVar 8) cNil)))) (cCons (cOp cMul (cLst (cCons (cFn sp_l_first (fun _ => noX) (cCons (cVar 2) cNil)) cNil)) (cVar 7)) (cCons (cVar 4) cNil))))) (cIfS (cNot (cT (cFn sp_l_is (fun _ => noX) (cCons (cFn (sp_l_told K) (fun _ => noX) (cCons (cVar 3) (cCons (cVar 4) cNil))) (cCons (cLst (cCons (cVar 7) (cCons (cVar 12) cNil))) cNil))))) (cRet (cC (.bl false))) cNext))
def b_law_3 (P : Program) (w : World) (K : PySem.W.Frag) (W : En → XD) : CS := (cSeq (cSet 11 (cOp cMul (cOp cMul (cVar 11) (cVar 8)) (cVar 9))) (cDrop (cLm (cVar 13) (cCons (cOp cAdd (cOp (cIxA P w) (cVar 13) (cUn cNeg (cC (.int 1)))) (cVar 11)) cNil) cApp)))
def t_law (P : Program) (w : World) (K : PySem.W.Frag) (W : En → XD) : CS := (cSeq (cSet 1 (cFn sp_l_hand (fun _ => noX) (cCons (cVar 0) cNil))) (cSeq (cPar3 7 8 9 (cCons (cOp cAdd (cC (.int 1)) (cFn sp_l_draw (fun _ => noX) (cCons (cVar 1) (cCons (cC (.int 3)) cNil)))) (cCons (cOp cAdd (cC (.int 1)) (cFn sp_l_draw (fun _ => noX) (cCons (cVar 1) (cCons (cC (.int 4)) cNil)))) (cCons (cOp cAdd (cC (.int 1)) (cFn sp_l_draw (fun _ => noX) (cCons (cVar 1) (cCons (cC (.int 3)) cNil)))) cNil)))) (cSeq (cSet 2 (cFn sp_l_rows (fun _ => noX) (cCons (cVar 1) (cCons (cVar 7) (cCons (cVar 8) (cCons (cVar 9) (cCons (cOp cAdd (cC (.int 1)) (cFn sp_l_draw (fun _ => noX) (cCons (cVar 1) (cCons (cC (.int 4)) cNil)))) cNil))))))) (cSeq (cSet 3 (cMake (He.ga K "Machine") (sp_Machine_init K) (fun _ => noX) (cCons (cVar 7) (cCons (cVar 8) (cCons (cVar 2) cNil))))) (cSeq (cPar 10 11 (cCons (cLst (cCons (cC (.int 0)) cNil)) (cCons (cOp cMul (cVar 8) (cVar 9)) cNil))) (cSeq (cWhile (cAnd (cT (cOp cLt (cCall (cLenA P w) (cCons (cVar 10) cNil)) (cC (.int 5)))) (cT (cOp cLt (cVar 11) (cC (.int 70))))) (b_law_1 P w K W)) (cSeq (cFor (cSrcA P w (cLst (cCons (cC (.int 0)) (cCons (cFn sp_l_any (fun _ => noX) (cCons (cVar 1) (cCons (cVar 10) cNil))) (cCons (cOp (cIxA P w) (cVar 10) (cUn cNeg (cC (.int 1)))) cNil))))) (cName 4) (b_law_2 P w K W)) (cSeq (cSet 5 (cLst (cCons (cC (.int 5)) (cCons (cUn cNeg (cC (.int 1))) (cCons (cC (.bl true)) (cCons (cC (.bl false)) (cCons (cC .non) (cCons (cC (.str "1")) (cCons (cTup (cCons (cC (.int 1)) cNil)) (cCons (cLst cNil) (cCons (cOp cPow (cC (.int 10)) (cC (.int 29))) (cCons cDNewK (cCons (cVar 3) cNil))))))))))))) (cSeq (cIfS (cT (cCall (cBools fun bs => bs.any id) (cCons (cLc (cRng1 (cCons (cC (.int 4)) cNil)) (.one 14) cYes (cOp cNe (cFn (sp_l_told K) (fun _ => noX) (cCons (cVar 3) (cCons (cFn sp_l_any (fun _ => noX) (cCons (cVar 1) (cCons (cVar 5) cNil))) cNil))) (cC (.str "number"))) [14]) cNil))) (cRet (cC (.bl false))) cNext) (cSeq (cIfS (cT (cOp cGt (cFn sp_l_draw (fun _ => noX) (cCons (cVar 1) (cCons (cC (.int 4)) cNil))) (cC (.int 0)))) (cRet (cC (.bl true))) cNext) (cSeq (cPar 8 9 (cCons (cOp cAdd (cC (.int 4)) (cFn sp_l_draw (fun _ => noX) (cCons (cVar 1) (cCons (cC (.int 3)) cNil)))) (cCons (cOp cAdd (cC (.int 2)) (cFn sp_l_draw (fun _ => noX) (cCons (cVar 1) (cCons (cC (.int 3)) cNil)))) cNil))) (cSeq (cSet 6 (cMake (He.ga K "Machine") (sp_Machine_init K) (fun _ => noX) (cCons (cVar 7) (cCons (cVar 8) (cCons (cFn sp_l_great (fun _ => noX) (cCons (cVar 1) (cCons (cVar 7) (cCons (cVar 8) (cCons (cVar 9) cNil))))) cNil))))) (cSeq (cAsg (cTup (cCons (cC (.int 1)) (cCons (cLst (cCons (cC (.int 0)) cNil)) cNil))) (cGTup 2 (cGCons (cName 11) (cGCons (cName 13) cGNil)))) (cSeq (cFor (cRng1 (cCons (cC (.int 4)) cNil)) (cName 4) (b_law_3 P w K W)) (cRet (cCall (cBools fun bs => bs.all id) (cCons (cLc (cSrcA P w (cTup (cCons (cC (.int 4)) (cCons (cC (.int 3)) cNil)))) (.one 4) (cT (cOp cGt (cOp (cIxA P w) (cVar 13) (cVar 4)) (cC (.int 3000)))) (cOp cEqS (cFn (sp_l_told K) (fun _ => noX) (cCons (cVar 6) (cCons (cVar 4) cNil))) (cC (.str "large"))) [4]) cNil)))))))))))))))))
theorem w_law {P : Program} {w : World} {K : PySem.W.Frag} {mg : Str → Option Value} {base : Heap} {f : Addr} {fd : FuncData} (L : Lib mg) (D__law_hand : Dn P w K mg base "_law_hand" 1 [("_law_script" : Str)] sp_l_hand) (D__law_draw : Dn P w K mg base "_law_draw" 1 [("_law_hand_here" : Str), ("_law_many" : Str)] sp_l_draw) (D__law_rows : Dn P w K mg base "_law_rows" 4 [("_law_hand_here" : Str), ("_law_worlds" : Str), ("_law_words" : Str), ("_law_asked" : Str), ("_law_standings" : Str)] sp_l_rows) (D__law_any : Dn P w K mg base "_law_any" 2 [("_law_hand_here" : Str), ("_law_things" : Str)] sp_l_any) (D__law_first : Dn P w K mg base "_law_first" 1 [("_law_rows_here" : Str)] sp_l_first) (D__law_node : Dn P w K mg base "_law_node" (4 + 5) [("_law_parts" : Str), ("_law_spreads" : Str), ("_law_left" : Str)] sp_l_nodeE) (D__law_told : Dn P w K mg base "_law_told" 23 [("_law_machine" : Str), ("_law_rounds" : Str)] (sp_l_told K)) (D__law_is : Dn P w K mg base "_law_is" 1 [("_law_told_here" : Str), ("_law_due" : Str)] sp_l_is) (D__law_great : Dn P w K mg base "_law_great" 3 [("_law_hand_here" : Str), ("_law_worlds" : Str), ("_law_words" : Str), ("_law_asked" : Str)] sp_l_great) (D_Machine : Dm P w K mg base "Machine" (He.ga K "Machine") 8 [("self" : Str), ("worlds" : Str), ("words" : Str), ("rows" : Str)] (sp_Machine_init K))
    (F : Fun K "law" "law" s_law f fd) (ln : ∀ ds h Q E, sp_law ds h Q E → ds.length = 1)
    (pl : ∀ ds h Q E', sp_law ds h Q E' → t_law P w K (fun _ => noX) { nx := fun _ h' => Q .non h', rt := Q } (startD N_law ds) h) : GF P w K mg base 30 f fd [("_law_script" : Str)] sp_law := by
  refine gf_of (k := 29) F sc_law ln fun cdv A outer s H E ds h Q E' hr hg kx hs => ?_
  · have ru := room_u hr
    exact ⟨t_law P w K (fun _ => noX), (qss_cons (qs_set sc_law.nd rfl (by first | exact .inl rfl | exact .inr rfl) (qe_fn D__law_hand (hr.mono (by omega)) hg TkD.none (qa_cons (qv 0) qa_nil))) (qss_cons (qs_par3 rfl sc_law.nd rfl rfl rfl (by decide) (by decide) (by decide) rfl rfl rfl (qa_cons (qe_op od_add qe_int (qe_fn D__law_draw (hr.mono (by omega)) hg TkD.none (qa_cons (qv 1) (qa_cons qe_int qa_nil)))) (qa_cons (qe_op od_add qe_int (qe_fn D__law_draw (hr.mono (by omega)) hg TkD.none (qa_cons (qv 1) (qa_cons qe_int qa_nil)))) (qa_cons (qe_op od_add qe_int (qe_fn D__law_draw (hr.mono (by omega)) hg TkD.none (qa_cons (qv 1) (qa_cons qe_int qa_nil)))) qa_nil))) (by rfl)) (qss_cons (qs_set sc_law.nd rfl (by first | exact .inl rfl | exact .inr rfl) (qe_fn D__law_rows (hr.mono (by omega)) hg TkD.none (qa_cons (qv 1) (qa_cons (qv 7) (qa_cons (qv 8) (qa_cons (qv 9) (qa_cons (qe_op od_add qe_int (qe_fn D__law_draw (hr.mono (by omega)) hg TkD.none (qa_cons (qv 1) (qa_cons qe_int qa_nil)))) qa_nil))))))) (qss_cons (qs_set sc_law.nd rfl (by first | exact .inl rfl | exact .inr rfl) (qe_mk D_Machine (hr.mono (by omega)) hg TkD.none (qa_cons (qv 7) (qa_cons (qv 8) (qa_cons (qv 2) qa_nil))))) (qss_cons (qs_par rfl sc_law.nd rfl rfl (by decide) rfl rfl (qa_cons (qe_lst (qa_cons qe_int qa_nil)) (qa_cons (qe_op od_mul (qv 8) (qv 9)) qa_nil)) (by rfl)) (qss_cons (qs_while (passes_of rfl) (QW.t (qw_and (qt_cmp (od_lt (u0 ru)) (qe_callB cd_lenA rfl (L.n "len") b_len (qa_cons (qv 10) qa_nil)) qe_int) (qw_and1 (qt_cmp (od_lt (u0 ru)) (qv 11) qe_int)))) (qss_cons (qs_expr (qe_lm PySem.F.slot_list_append PySem.F.type_list_append md_append (qv 10) (qa_cons (qe_callB cd_lenA rfl (L.n "len") b_len (qa_cons (qv 10) qa_nil)) qa_nil))) (qss_one (qs_set sc_law.nd rfl (by first | exact .inl rfl | exact .inr rfl) (qe_op od_mul (qe_op od_mul (qv 11) (qv 8)) (qv 9)))))) (qss_cons (qs_for (passes_of rfl) rfl (qi_any (qe_lst (qa_cons qe_int (qa_cons (qe_fn D__law_any (hr.mono (by omega)) hg TkD.none (qa_cons (qv 1) (qa_cons (qv 10) qa_nil))) (qa_cons (qe_ix (xd_any (uu ru)) (qv 10) (qe_un ud_neg qe_int) (fun _ _ => rfl)) qa_nil))))) (qg_name sc_law.nd rfl (by first | exact .inl rfl | exact .inr rfl)) (qss_cons (qs_set sc_law.nd rfl (by first | exact .inl rfl | exact .inr rfl) (qe_fn D__law_node (hr.mono (by omega)) hg TkD.none (qa_cons (qe_tup (qa_cons (qv 2) (qa_cons (qv 7) (qa_cons (qv 8) qa_nil)))) (qa_cons (qe_op od_mul (qe_lst (qa_cons (qe_fn D__law_first (hr.mono (by omega)) hg TkD.none (qa_cons (qv 2) qa_nil)) qa_nil)) (qv 7)) (qa_cons (qv 4) qa_nil))))) (qss_one (qs_if (qt_not (qt_val (qe_fn D__law_is (hr.mono (by omega)) hg TkD.none (qa_cons (qe_fn D__law_told (hr.mono (by omega)) hg TkD.none (qa_cons (qv 3) (qa_cons (qv 4) qa_nil))) (qa_cons (qe_lst (qa_cons (qv 7) (qa_cons (qv 12) qa_nil))) qa_nil))))) (qss_one (qs_ret qe_bl)) qss_nil)))) (qss_cons (qs_set sc_law.nd rfl (by first | exact .inl rfl | exact .inr rfl) (qe_lst (qa_cons qe_int (qa_cons (qe_un ud_neg qe_int) (qa_cons qe_bl (qa_cons qe_bl (qa_cons qe_non (qa_cons qe_str (qa_cons (qe_tup (qa_cons qe_int qa_nil)) (qa_cons (qe_lst qa_nil) (qa_cons (qe_op od_pow qe_int qe_int) (qa_cons qe_dnewK (qa_cons (qv 3) qa_nil))))))))))))) (qss_cons (qs_if (qt_val (qe_callB (cd_any rfl) rfl (L.n "any") b_any (qa_cons (qe_lc (own := [("_law_turn", 14)]) rfl sc_law.nd (qi_range1 rfl (L.n "range") (qa_cons qe_int qa_nil)) (show BlkOk N_law (defScope s_law) _ [("_law_turn", 14)] from ⟨rfl, by decide +kernel, by decide +kernel, by decide +kernel, by decide +kernel⟩) (by decide) (fun _ _ _ _ _ => (tg_one sc_law.nd rfl (.inl rfl) (K := _))) (fun _ _ _ _ _ => qts_nil) (fun _ _ _ _ _ => (qe_cmp (od_ne (uu ru)) (qe_fn D__law_told (hr.mono (by omega)) hg TkD.none (qa_cons (qv 3) (qa_cons (qe_fn D__law_any (hr.mono (by omega)) hg TkD.none (qa_cons (qv 1) (qa_cons (qv 5) qa_nil))) qa_nil))) qe_str))) qa_nil))) (qss_one (qs_ret qe_bl)) qss_nil) (qss_cons (qs_if (qt_cmp od_gt (qe_fn D__law_draw (hr.mono (by omega)) hg TkD.none (qa_cons (qv 1) (qa_cons qe_int qa_nil))) qe_int) (qss_one (qs_ret qe_bl)) qss_nil) (qss_cons (qs_par rfl sc_law.nd rfl rfl (by decide) rfl rfl (qa_cons (qe_op od_add qe_int (qe_fn D__law_draw (hr.mono (by omega)) hg TkD.none (qa_cons (qv 1) (qa_cons qe_int qa_nil)))) (qa_cons (qe_op od_add qe_int (qe_fn D__law_draw (hr.mono (by omega)) hg TkD.none (qa_cons (qv 1) (qa_cons qe_int qa_nil)))) qa_nil)) (by rfl)) (qss_cons (qs_set sc_law.nd rfl (by first | exact .inl rfl | exact .inr rfl) (qe_mk D_Machine (hr.mono (by omega)) hg TkD.none (qa_cons (qv 7) (qa_cons (qv 8) (qa_cons (qe_fn D__law_great (hr.mono (by omega)) hg TkD.none (qa_cons (qv 1) (qa_cons (qv 7) (qa_cons (qv 8) (qa_cons (qv 9) qa_nil))))) qa_nil))))) (qss_cons (qs_asg (qe_tup (qa_cons qe_int (qa_cons (qe_lst (qa_cons qe_int qa_nil)) qa_nil))) (qg_tup rfl (qgs_cons (qg_name sc_law.nd rfl (by first | exact .inl rfl | exact .inr rfl)) (qgs_cons (qg_name sc_law.nd rfl (by first | exact .inl rfl | exact .inr rfl)) qgs_nil)))) (qss_cons (qs_for (passes_of rfl) rfl (qi_range1 rfl (L.n "range") (qa_cons qe_int qa_nil)) (qg_name sc_law.nd rfl (by first | exact .inl rfl | exact .inr rfl)) (qss_cons (qs_set sc_law.nd rfl (by first | exact .inl rfl | exact .inr rfl) (qe_op od_mul (qe_op od_mul (qv 11) (qv 8)) (qv 9))) (qss_one (qs_expr (qe_lm PySem.F.slot_list_append PySem.F.type_list_append md_append (qv 13) (qa_cons (qe_op od_add (qe_ix (xd_any (uu ru)) (qv 13) (qe_un ud_neg qe_int) (fun _ _ => rfl)) (qv 11)) qa_nil)))))) (qss_one (qs_ret (qe_callB (cd_all rfl) rfl (L.n "all") b_all (qa_cons (qe_lc (own := [("_law_number", 4)]) rfl sc_law.nd (qi_any (qe_tup (qa_cons qe_int (qa_cons qe_int qa_nil)))) (show BlkOk N_law (defScope s_law) _ [("_law_number", 4)] from ⟨rfl, by decide +kernel, by decide +kernel, by decide +kernel, by decide +kernel⟩) (by decide) (fun _ _ _ _ _ => (tg_one sc_law.nd rfl (.inl rfl) (K := _))) (fun _ _ _ _ _ => (qts_one (qt_cmp od_gt (qe_ix (xd_any (uu ru)) (qv 13) (qv 4) (fun _ _ => rfl)) qe_int))) (fun _ _ _ _ _ => (qe_cmp od_eqS (qe_fn D__law_told (hr.mono (by omega)) hg TkD.none (qa_cons (qv 6) (qa_cons (qv 4) qa_nil))) qe_str))) qa_nil)))))))))))))))))), pl ds h Q E' hs⟩
end K65

-- K65J
set_option Elab.async false
set_option linter.all false
set_option maxRecDepth 100000
set_option maxHeartbeats 4000000
/-! K65J: plain laws of k65: numbers, houses, objects. -/
namespace K65
open PySem PySem.Spec PyProof.Rows L2 PD PM
section
variable {P : Program} {w : World} {K : PySem.W.Frag} {W : En → XD} {h : HD} {Q : DK} {Z : DE} {E : XD}
theorem p_is_integerX (ds : List D) (h : HD) (Q : DK) (E : XD) (hs : sp_is_integerX K ds h Q E) : t_is_integerX P w K W { nx := fun _ h' => Q .non h', rt := Q } (startD N_is_integerX ds) h := by
  obtain ⟨l, hs | ⟨a, C, dx, fs, e, ea, hi, hk, q⟩⟩ := hs
  · exact p_is_integer (P := P) (w := w) (W := W) ds h Q E hs
  · match ds, l, e with
    | [x], _, e =>
      cases e
      exact .inr ⟨a, C, dx, fs, false, rfl, ea, hi, hk, q⟩
theorem p_is_withinX (ds : List D) (h : HD) (Q : DK) (E : XD) (hs : sp_is_withinX K ds h Q E) : t_is_withinX P w K W { nx := fun _ h' => Q .non h', rt := Q } (startD N_is_withinX ds) h := by
  obtain ⟨l, ⟨x, lo, hi, z, rfl, hk, q⟩ | ⟨⟨x, lo, hi, rfl⟩, a, C, dx, fs, e, ea, hI, hk, q⟩⟩ := hs
  · refine ⟨rfl, .inl ⟨x, z, rfl, hk, ?_⟩⟩
    show if isI x = true then _ else _
    cases x with
    | int i =>
      change Q (.bl (decide (lo ≤ i) && decide (i ≤ hi))) h at q
      refine ifB (fun _ => ⟨trivial, ifB (c := decide (lo ≤ i)) (fun c => ?_) (fun c => ?_)⟩) (fun c => by cases c)
      · rw [c] at q; exact ⟨trivial, q⟩
      · rw [c] at q; exact q
    | _ => exact q
  · cases e
    exact ⟨rfl, .inr ⟨a, C, dx, fs, rfl, ea, hI, hk, q⟩⟩
theorem p_check_number (ds : List D) (h : HD) (Q : DK) (E : XD) (hs : sp_check_number K ds h Q E) : t_check_number P w K (fun _ => E) { nx := fun _ h' => Q .non h', rt := Q } (startD N_check_number ds) h := by
  obtain ⟨x, lo, hi, rfl, ⟨i, rfl, l, u, q⟩ | ⟨nw, kx, q⟩⟩ := hs
  · refine ⟨rfl, .inl ⟨.int i, lo, hi, .int, rfl, rfl, ?_⟩⟩
    refine ifF (c := !(decide (lo ≤ i) && decide (i ≤ hi))) ?_ q
    rw [decide_eq_true l, decide_eq_true u]; rfl
  · rcases kx with ⟨z, kx⟩ | ⟨a, C, dx, fs, rfl, ea, hI, hk⟩
    · refine ⟨rfl, .inl ⟨x, lo, hi, z, rfl, kx, ?_⟩⟩
      refine ifT (c := !inW x lo hi) (by rw [nw]; rfl) q
    · exact ⟨rfl, .inr ⟨⟨_, lo, hi, rfl⟩, a, C, dx, fs, rfl, ea, hI, hk, q⟩⟩
theorem p_totalT (ds : List D) (h : HD) (Q : DK) (E : XD) (hs : sp_totalT ds h Q E) : t_totalT P w K W { nx := fun _ h' => Q .non h', rt := Q } (startD N_totalT ds) h := by
  obtain ⟨xs, rfl, ok, q⟩ := hs
  exact .inl (sum_loop _ _ none _ h trivial xs (0, 1) none ok fun o => q)
theorem p_l_sumT (ds : List D) (h : HD) (Q : DK) (E : XD) (hs : sp_totalT ds h Q E) : t_l_sumT P w K W { nx := fun _ h' => Q .non h', rt := Q } (startD N_l_sumT ds) h := by
  obtain ⟨xs, rfl, ok, q⟩ := hs
  exact ⟨lz rfl, .inl (sum_loop _ _ none _ h trivial xs (0, 1) none ok fun o => q)⟩
theorem p_RawHouse_init (hC : Cls K (He.ga K "RawHouse")) (h1 : NoAttr K (He.ga K "RawHouse") "worlds") (h2 : NoAttr K (He.ga K "RawHouse") "tree") (ds : List D) (h : HD) (Q : DK) (E : XD) (hs : sp_RawHouse_init K ds h Q E) : t_RawHouse_init P w K W { nx := fun _ h' => Q .non h', rt := Q } (startD N_RawHouse_init ds) h := by
  obtain ⟨x, dx, nw, tree, rfl, e, q⟩ := hs
  refine ⟨_, dx, [], e, hC, h1, by decide, ?_⟩
  refine ⟨_, dx, _, updD_same, hC, h2, by show 1 < 1000; decide, ?_⟩
  exact q _ ((ExP.upd x h _).trans (ExP.upd x _ _)) updD_same
theorem p_made (ds : List D) (h : HD) (Q : DK) (E : XD) (hs : sp_made K ds h Q E) : t_made P w K (fun _ => E) { nx := fun _ h' => Q .non h', rt := Q } (startD N_made ds) h := by
  obtain ⟨nw, tree, rfl, t, c, q⟩ := hs
  refine ⟨tree, rfl, t, fun h1 m x1 m0 m1 => ⟨trivial, ifF (c := decide ((12 : Int) < m)) (decide_eq_false (by have : m ≤ 12 := m1; omega)) ?_⟩⟩
  refine ⟨tree, rfl, t, fun h2 x2 => ⟨trivial, ifF (c := decide ((3000 : Int) < cntD 13 tree)) (decide_eq_false (by omega)) ?_⟩⟩
  intro x dx nx nd ne
  refine ⟨x, dx, nw, tree, rfl, updD_same, fun h' xp e => ⟨rfl, ?_⟩⟩
  have x12 := x1.trans x2
  have nh : h x = none := by
    cases z : h x with
    | none => rfl
    | some o => rw [x12 _ _ z] at nx; cases nx
  exact q h' x (Ex.ofP (x12.new' nx) nh xp) nh ⟨dx, e⟩
theorem p_Rounds_init (hC : Cls K (He.ga K "Rounds")) (h1 : NoAttr K (He.ga K "Rounds") "machine") (h2 : NoAttr K (He.ga K "Rounds") "rounds") (h3 : NoAttr K (He.ga K "Rounds") "many") (ds : List D) (h : HD) (Q : DK) (E : XD) (hs : sp_Rounds_init K ds h Q E) : t_Rounds_init P w K W { nx := fun _ h' => Q .non h', rt := Q } (startD N_Rounds_init ds) h := by
  obtain ⟨x, dx, m, r, rfl, e, q⟩ := hs
  refine ⟨_, dx, [], e, hC, h1, by decide, ?_⟩
  refine ⟨_, dx, _, updD_same, hC, h2, by show 1 < 1000; decide, ?_⟩
  refine ⟨_, dx, _, updD_same, hC, h3, by show 2 < 1000; decide, ?_⟩
  exact q _ (((ExP.upd x h _).trans (ExP.upd x _ _)).trans (ExP.upd x _ _)) updD_same
theorem p_l_great (ds : List D) (h : HD) (Q : DK) (E : XD) (hs : sp_l_great ds h Q E) : t_l_great P w K W { nx := fun _ h' => Q .non h', rt := Q } (startD N_l_great ds) h := by
  obtain ⟨a, nw, wo, qs, rfl, n1, n5, w1, w6, q1, q4, q⟩ := hs
  refine ⟨by omega, by omega, by rw [rgD_len, sizeLine_eq]; omega, ?_⟩
  refine map_loop (fun x => D.tup [x, .tup [.int 1, .int wo], .int 0]) trivial _ [] (fun x hx k kk => ⟨lz rfl, lz rfl, kk⟩) fun p np => ⟨_, updD_same, ?_⟩
  have e1 : ([] ++ (rgD 0 wo.toNat).map fun x => D.tup [x, .tup [.int 1, .int wo], .int 0]) = (List.range wo.toNat).map fun (i : Nat) => D.tup [.int (i : Nat), .tup [.int 1, .int (wo.toNat : Nat)], .int 0] := by
    rw [List.nil_append]
    unfold rgD
    rw [List.map_map]
    refine List.map_congr_left fun i _ => ?_
    show D.tup [.int (0 + (i : Nat)), .tup [.int 1, .int wo], .int 0] = _
    rw [Int.zero_add, show ((wo.toNat : Nat) : Int) = wo by omega]
  rw [e1]
  refine ⟨lz rfl, by omega, by omega, by show 1 ≤ 1000; decide, lz rfl, by omega, by omega, by show 1 ≤ 1000; decide, lz rfl, ?_⟩
  rw [rep1, rep1]
  exact q _ (Ex.new np)
/-! ### the trees that are made -/
theorem lat_len {rows : List D} {q : Nat} {word : Int} : ∀ (sps : List (List Fr)) (i : Nat), (lat rows q word i sps).length = sps.length
  | [], _ => rfl
  | sp :: r, i => by show (lat rows q word (i + 1) r).length + 1 = _; rw [lat_len r]; rfl
theorem lat_ok {N M : Int} {rows : List D} {q : Nat} {word nw wo qs st : Int} (hN : 0 < N) (m0 : 0 ≤ M) (v : RowsV nw wo qs st (.tup rows)) (s6 : rows.length ≤ 6) (hq : (q : Int) < qs) : ∀ (sps : List (List Fr)) (i : Nat), ((i + sps.length : Nat) : Int) ≤ nw → (∀ sp ∈ sps, Lv N M rows.length sp) → ∀ sp ∈ lat rows q word i sps, Lv (N * 60) (72 * M) rows.length sp
  | [], _, _, _, sp, hsp => by cases hsp
  | s :: r, i, l, hs, sp, hsp => by
    rw [List.length_cons] at l
    rcases List.mem_cons.mp hsp with rfl | hsp
    · exact beh_ok hN m0 v s6 hq (by omega) (hs s (List.mem_cons_self ..))
    · exact lat_ok hN m0 v s6 hq r (i + 1) (by omega) (fun z hz => hs z (List.mem_cons_of_mem _ hz)) sp hsp
theorem tre_le : ∀ {n m : Nat} {x : D}, n ≤ m → Tre n x → Tre m x
  | 0, _, _, _, t => t.elim
  | n + 1, 0, _, l, _ => absurd l (by omega)
  | n + 1, m + 1, x, l, t => by
    obtain ⟨qs, rfl, lq, v⟩ := t
    refine ⟨qs, rfl, lq, fun q hq => ?_⟩
    obtain ⟨as, rfl, la, va⟩ := v q hq
    refine ⟨as, rfl, la, fun a ha => ?_⟩
    obtain ⟨w', c, t', rfl, tt⟩ := va a ha
    exact ⟨w', c, t', rfl, tre_le (by omega) tt⟩
theorem node_tre {rows : List D} {wo qs : Nat} (w6 : wo ≤ 6) (q4 : qs ≤ 4) : ∀ (n : Nat) (sps : List (List Fr)), Tre (n + 1) (nodeS rows wo qs n sps)
  | 0, _ => ⟨[], rfl, by simp, fun q hq => (by cases hq)⟩
  | n + 1, sps => by
    refine ⟨_, rfl, by rw [List.length_map, List.length_range]; omega, fun q hq => ?_⟩
    obtain ⟨i, _, rfl⟩ := List.mem_map.mp hq
    refine ⟨_, rfl, by have := List.length_filterMap_le (answ rows i sps (nodeS rows wo qs n)) (List.range wo); rw [List.length_range] at this; omega, fun a ha => ?_⟩
    obtain ⟨word, _, e⟩ := List.mem_filterMap.mp ha
    unfold answ at e
    split at e
    · cases e
      exact ⟨_, _, _, rfl, node_tre w6 q4 n _⟩
    · cases e
theorem quest_cnt {rows : List D} {q : Nat} {sps : List (List Fr)} {sub : List (List Fr) → D} {c : List (List Fr) → Int} {m : Nat} (hc : ∀ s, cntD m (sub s) = c s) : ∀ ws : List Nat, (((ws.filterMap (answ rows q sps sub)).map fun a => 1 + cntD m (ansT a)).sum) = (ws.map (cntA rows q sps c)).sum
  | [] => rfl
  | w :: ws => by
    rw [List.map_cons, List.sum_cons, ← quest_cnt hc ws, List.filterMap_cons]
    unfold cntA answ
    split
    · rename_i e
      split at e
      · cases e
      · rename_i e2
        rw [if_neg e2, Int.zero_add]
    · rename_i e
      split at e
      · rename_i e2
        cases e
        rw [if_pos e2, List.map_cons, List.sum_cons]
        show 1 + cntD m (sub _) + _ = _
        rw [hc]
      · cases e
theorem node_cnt {rows : List D} {wo qs : Nat} : ∀ (n m : Nat) (sps : List (List Fr)), n < m → cntD m (nodeS rows wo qs n sps) = cntN rows wo qs n sps
  | 0, 0, _, l => absurd l (by omega)
  | 0, m + 1, sps, _ => rfl
  | n + 1, 0, _, l => absurd l (by omega)
  | n + 1, m + 1, sps, l => by
    show ((tupL (.tup ((List.range qs).map fun q => questS rows wo q sps (nodeS rows wo qs n)))).map fun q => ((tupL q).map fun a => 1 + cntD m (ansT a)).sum).sum = ((List.range qs).map fun q => cntQ rows wo q sps (cntN rows wo qs n)).sum
    show (((List.range qs).map fun q => questS rows wo q sps (nodeS rows wo qs n)).map fun q => ((tupL q).map fun a => 1 + cntD m (ansT a)).sum).sum = _
    rw [List.map_map]
    congr 1
    refine List.map_congr_left fun q _ => ?_
    show ((tupL (questS rows wo q sps (nodeS rows wo qs n))).map fun a => 1 + cntD m (ansT a)).sum = _
    exact quest_cnt (fun s => node_cnt n m s (by omega)) _
theorem sum_nonneg : ∀ L : List Int, (∀ x ∈ L, 0 ≤ x) → 0 ≤ L.sum
  | [], _ => Int.le_refl _
  | z :: L, h => by
    have a := h z (List.mem_cons_self ..)
    have b := sum_nonneg L fun x hx => h x (List.mem_cons_of_mem _ hx)
    rw [List.sum_cons]; omega
theorem cntA_nonneg {rows : List D} {q : Nat} {sps : List (List Fr)} {sub : List (List Fr) → Int} (hs : ∀ s, 0 ≤ sub s) (word : Nat) : 0 ≤ cntA rows q sps sub word := by
  unfold cntA
  split
  · have := hs (lat rows q word 0 sps); omega
  · exact Int.le_refl _
theorem cntQ_nonneg {rows : List D} {wo q : Nat} {sps : List (List Fr)} {sub : List (List Fr) → Int} (hs : ∀ s, 0 ≤ sub s) : 0 ≤ cntQ rows wo q sps sub :=
  sum_nonneg _ fun x hx => by
    obtain ⟨word, _, rfl⟩ := List.mem_map.mp hx
    exact cntA_nonneg hs word
theorem cnt_nonneg {rows : List D} {wo qs : Nat} : ∀ (n : Nat) (sps : List (List Fr)), 0 ≤ cntN rows wo qs n sps
  | 0, _ => Int.le_refl _
  | n + 1, sps => sum_nonneg _ fun x hx => by
    obtain ⟨q, _, rfl⟩ := List.mem_map.mp hx
    exact cntQ_nonneg (cnt_nonneg n)
end
end K65

-- K65K
set_option Elab.async false
set_option linter.all false
set_option maxRecDepth 100000
set_option maxHeartbeats 4000000
/-! K65K: the plain laws of the rounds. -/
namespace K65
open PySem PySem.Spec PyProof.Rows L2 PD PM
section
variable {P : Program} {w : World} {K : PySem.W.Frag} {W : En → XD} {h : HD} {Q : DK} {Z : DE} {E : XD}
/-- a comprehension over spreads that tells their sums -/
theorem tot_loop {N M : Int} {st : Nat} (ok : HD → Prop) (te : CE) (i : Nat) (Q : DK) (ρ : En) (h : HD) (hok : ok h) (ht : ∀ (sp : List Fr) (k : DK), Lv N M st sp → k (prD2 (sumI sp)) h → te (ρ.set i (some (sprD sp))) h k) : ∀ (sps : List (List Fr)) (acc : List Fr), (∀ sp ∈ sps, Lv N M st sp) → (∀ p, h p = none → Q (.ref p) (updD h p (.lst ((acc ++ sps.map sumI).map prD2)))) →
    cLcGo ok (.one i) cYes te ρ Q (sps.map sprD) (acc.map prD2) h
  | [], acc, _, q => ⟨hok, fun p np => by have := q p np; simpa using this⟩
  | x :: xs, acc, hl, q => by
    refine ⟨hok, ?_⟩
    refine ht x _ (hl x (List.mem_cons_self ..)) ?_
    have := tot_loop ok te i Q ρ h hok ht xs (acc ++ [sumI x]) (fun y hy => hl y (List.mem_cons_of_mem _ hy)) (fun p np => by have := q p np; simpa using this)
    simpa using this
theorem bd_0 {N M : Int} {n : Nat} (hN : 0 < N) (m0 : 0 ≤ M) (b : Bd (N * 60 ^ n) (M * 7200 ^ n)) : Bd N M := by
  obtain ⟨_, b1, _, b2⟩ := b
  have e1 : (0 : Int) < 60 ^ n := Int.pow_pos (by decide)
  have e2 : (0 : Int) < 7200 ^ n := Int.pow_pos (by decide)
  have e1 : (1 : Int) ≤ 60 ^ n := by omega
  have e2 : (1 : Int) ≤ 7200 ^ n := by omega
  have h1 : N * 1 ≤ N * 60 ^ n := Int.mul_le_mul_of_nonneg_left e1 (Int.le_of_lt hN)
  have h2 : M * 1 ≤ M * 7200 ^ n := Int.mul_le_mul_of_nonneg_left e2 m0
  exact ⟨hN, by omega, m0, by omega⟩
theorem bd_s {N M : Int} {n : Nat} (hN : 0 < N) (m0 : 0 ≤ M) (b : Bd (N * 60 ^ (n + 1)) (M * 7200 ^ (n + 1))) : Bd (N * 60 * 60 ^ n) (72 * M * 7200 ^ n) := by
  obtain ⟨b0, b1, b3, b2⟩ := b
  have p1 : (0 : Int) < 60 ^ n := Int.pow_pos (by decide)
  have p2 : (0 : Int) < 7200 ^ n := Int.pow_pos (by decide)
  have e1 : N * 60 ^ (n + 1) = N * 60 * 60 ^ n := by rw [Int.pow_succ, Int.mul_comm (60 ^ n) 60, Int.mul_assoc]
  have e2 : M * 7200 ^ (n + 1) = M * 7200 * 7200 ^ n := by rw [Int.pow_succ, Int.mul_comm (7200 ^ n) 7200, Int.mul_assoc]
  have h2 : 72 * M * 7200 ^ n ≤ M * 7200 * 7200 ^ n := Int.mul_le_mul_of_nonneg_right (by omega) (Int.le_of_lt p2)
  refine ⟨by rw [← e1]; exact b0, by rw [← e1]; exact b1, Int.mul_nonneg (by omega) (Int.le_of_lt p2), ?_⟩
  rw [e2] at b2
  exact Int.le_trans h2 b2
theorem bd_1 {N M : Int} {n : Nat} (hN : 0 < N) (m0 : 0 ≤ M) (b : Bd (N * 60 ^ (n + 1)) (M * 7200 ^ (n + 1))) : Bd (N * 60) (72 * M) := bd_0 (by omega) (by omega) (bd_s hN m0 b)
theorem mac_len {m : Addr} {nw wo qs st : Int} {rows : List D} (mc : Mac K h m nw wo qs st rows) : (rows.length : Int) = st := by
  obtain ⟨rs, e, l, _⟩ := mc.v
  cases e; exact l
theorem mac_ex {h' : HD} {m p : Addr} {nw wo qs st : Int} {rows : List D} (mc : Mac K h m nw wo qs st rows) (x : ExP p h h') (n : m ≠ p) : Mac K h' m nw wo qs st rows := by
  obtain ⟨⟨dx, e⟩, a, b, c, d, f, g, i, j, k⟩ := mc
  exact ⟨⟨dx, x _ _ n e⟩, a, b, c, d, f, g, i, j, k⟩
theorem mac_exx {h' : HD} {m : Addr} {nw wo qs st : Int} {rows : List D} (mc : Mac K h m nw wo qs st rows) (x : Ex h h') : Mac K h' m nw wo qs st rows := by
  obtain ⟨⟨dx, e⟩, a, b, c, d, f, g, i, j, k⟩ := mc
  exact ⟨⟨dx, x _ _ e⟩, a, b, c, d, f, g, i, j, k⟩
theorem isR_ne {x dx m : Addr} {r : D} {k : Int} {nw wo qs st : Int} {rows : List D} {m' : Addr} {r' : isR K h x dx m' r k} (mc : Mac K h m nw wo qs st rows) : m ≠ x := by
  rintro rfl
  obtain ⟨dx', e⟩ := mc.m
  unfold isR at r'
  rw [e] at r'
  injection r' with r'
  injection r' with _ _ e3
  injection e3 with e4
  injection e4 with e5
  exact absurd e5 (by decide)
theorem any_dec {xs : List Fr} : ([] ++ xs.map fun x => decide (x ≠ (0, 1))).any id = xs.any fun x => decide (x ≠ (0, 1)) := by
  rw [List.nil_append, List.any_map]; rfl
theorem qu_loop {n : Nat} {x dx m p : Addr} {r : D} {nw wo qs st N M : Int} {rows : List D} {sps : List (List Fr)} {q : Nat} {h0 : HD}
    (hR : Cls K (He.ga K "Rounds")) (r1 : NoAttr K (He.ga K "Rounds") "machine") (r3 : NoAttr K (He.ga K "Rounds") "many")
    (mx : m ≠ x) (px : p ≠ x) (np0 : h0 p = none) (mc : Mac K h0 m nw wo qs st rows) (sp : Sps rows nw N M sps) (hN : 0 < N) (m0 : 0 ≤ M) (bd : Bd (N * 60 ^ (n + 1)) (M * 7200 ^ (n + 1))) (hq : (q : Int) < qs) :
    ∀ (j i : Nat) (acc : List D) (k : Int) (o5 o6 o7 : Option D) (h : HD), ExP x h0 h → i + j ≤ wo.toNat → acc.length ≤ i → h p = some (.lst acc) → isR K h x dx m r k → 0 ≤ k → k ≤ 3000 →
    (k + ((List.range' i j).map (cntA rows q sps (cntN rows wo.toNat qs.toNat n))).sum ≤ 3000 → ∀ o5 o6 o7 h', ExP x h0 h' → h' p = some (.lst (acc ++ (List.range' i j).filterMap (answ rows q sps (nodeS rows wo.toNat qs.toNat n)))) → isR K h' x dx m r (k + ((List.range' i j).map (cntA rows q sps (cntN rows wo.toNat qs.toNat n))).sum) → Z.nx [some (.ref x), some (.tup (sps.map sprD)), some (.int (q : Nat)), some (.int ((n + 1 : Nat) : Int)), some (.ref p), o5, o6, o7, none, none] h') →
    (3000 < k + ((List.range' i j).map (cntA rows q sps (cntN rows wo.toNat qs.toNat n))).sum → ∀ h', ExP x h0 h' → E (.ref (He.ga K "TooLarge")) none h') →
    cLoop (fun _ => True) (cName 5) (b_Rounds_question_1 P w K n (fun _ => E)) Z (rgF i j) [some (.ref x), some (.tup (sps.map sprD)), some (.int (q : Nat)), some (.int ((n + 1 : Nat) : Int)), some (.ref p), o5, o6, o7, none, none] h
  | 0, i, acc, k, o5, o6, o7, h, x0, hl, la, ep, er, k0, k1, kn, kx => by
    refine ⟨trivial, kn (by rw [List.range'_zero, List.map_nil, List.sum_nil]; omega) _ _ _ h x0 ?_ ?_⟩
    · rw [List.range'_zero, List.filterMap_nil, List.append_nil]; exact ep
    · rw [List.range'_zero, List.map_nil, List.sum_nil, Int.add_zero]; exact er
  | j + 1, i, acc, k, o5, o6, o7, h, x0, hl, la, ep, er, k0, k1, kn, kx => by
    rw [List.range'_succ, List.map_cons, List.sum_cons] at kn kx
    rw [List.filterMap_cons] at kn
    have mc1 := mac_ex mc x0 mx
    have ln := mac_len mc
    have s6 : rows.length ≤ 6 := by have := mc.s6; omega
    have wl := mc.w6
    have lo : ∀ sp ∈ lat rows q (i : Nat) 0 sps, Lv (N * 60) (72 * M) rows.length sp := lat_ok hN m0 mc.v s6 hq sps 0 (by rw [Nat.zero_add, sp.1]; exact Int.le_refl _) sp.2
    have b1 := bd_1 hN m0 bd
    have ns : 0 ≤ ((List.range' (i + 1) j).map (cntA rows q sps (cntN rows wo.toNat qs.toNat n))).sum := sum_nonneg _ fun y hy => by
      obtain ⟨u, _, rfl⟩ := List.mem_map.mp hy
      exact cntA_nonneg (cnt_nonneg n) u
    refine ⟨trivial, ?_⟩
    refine ⟨_, dx, _, _, er, hR, r1, rfl, ?_⟩
    refine ⟨m, nw, wo, qs, st, rows, sps, (i : Nat), N, M, q, rfl, mc1.m, mc.v, s6, sp.1, mc.n5, hq, sp.2, bd_0 hN m0 bd, fun h1 x1 => ?_⟩
    show cSeq _ _ _ [some (.ref x), some (.tup (sps.map sprD)), some (.int (q : Nat)), some (.int ((n + 1 : Nat) : Int)), some (.ref p), some (.int (i : Nat)), some (.tup ((lat rows q (i : Nat) 0 sps).map sprD)), o7, none, none] h1
    have l5 : (lat rows q (i : Nat) 0 sps).length ≤ 5 := by rw [lat_len]; have := sp.1; have := mc.n5; omega
    refine .inl ⟨by show (List.map sprD _).length ≤ sizeLine; rw [List.length_map, sizeLine_eq]; omega, ?_⟩
    refine tot_loop (N := N * 60) (M := 72 * M) (st := rows.length) _ _ 8 _ _ h1 trivial (fun s kk lv z => ⟨s, rfl, (sum_ok b1 (by rw [lv.1]; omega) lv.2).1, z⟩) _ [] lo fun p2 np2 => ⟨_, updD_same, ?_⟩
    rw [List.nil_append]
    dsimp only [List.set]
    refine .inl ⟨by show (List.map prD2 _).length ≤ sizeLine; rw [List.length_map, List.length_map, sizeLine_eq]; omega, ?_⟩
    refine flags_loop _ _ (fun x => decide (x ≠ (0, 1))) 9 _ _ _ trivial (by show 9 < 10; decide) (fun y kk z => ?_) _ [] fun p3 np3 => ⟨_, updD_same, ?_⟩
    · refine ⟨shp_pr _, shp_pr (0, 1), ?_⟩
      show kk (.bl (!eqD (prD2 y) (.tup [.int 0, .int 1]))) _
      rw [eqD_pr]
      have : (!decide (y = (0, 1))) = decide (y ≠ (0, 1)) := by rw [decide_not]
      rw [this]; exact z
    · dsimp only
      have x3 := (x1.new' (o := .lst (((lat rows q (i : Nat) 0 sps).map sumI).map prD2)) np2).new' (o := .lst (([] ++ ((lat rows q (i : Nat) 0 sps).map sumI).map fun x => decide (x ≠ (0, 1))).map D.bl)) np3
      generalize hg : updD (updD h1 p2 (.lst (((lat rows q (i : Nat) 0 sps).map sumI).map prD2))) p3 (.lst (([] ++ ((lat rows q (i : Nat) 0 sps).map sumI).map fun x => decide (x ≠ (0, 1))).map D.bl)) = h3 at x3 ⊢
      skip
      have er3 : isR K h3 x dx m r k := x3 _ _ er
      have ep3 := x3 _ _ ep
      refine ifB (fun c => ?_) (fun c => ?_)
      · rw [any_dec] at c
        have ea : answ rows q sps (nodeS rows wo.toNat qs.toNat n) i = some (.tup [.tup [.int (i : Nat)], .tup (((lat rows q i 0 sps).map sumI).map prD2), nodeS rows wo.toNat qs.toNat n (lat rows q i 0 sps)]) := by unfold answ; rw [if_pos c]
        have ec : cntA rows q sps (cntN rows wo.toNat qs.toNat n) i = 1 + cntN rows wo.toNat qs.toNat n (lat rows q i 0 sps) := by unfold cntA; rw [if_pos c]
        rw [ea] at kn
        rw [ec] at kn kx
        have cn := cnt_nonneg (rows := rows) (wo := wo.toNat) (qs := qs.toNat) n (lat rows q i 0 sps)
        refine ⟨_, dx, _, _, er3, hR, r3, rfl, dx, _, er3, by show 3 < 1000; decide, ?_⟩
        have x4 : ExP x h3 (updD h3 x (.ins (He.ga K "Rounds") dx (fldsR m r (.int (k + 1))))) := ExP.upd x h3 _
        have er4 : isR K (updD h3 x (.ins (He.ga K "Rounds") dx (fldsR m r (.int (k + 1))))) x dx m r (k + 1) := updD_same
        show cSeq _ _ _ _ (updD h3 x (.ins (He.ga K "Rounds") dx (fldsR m r (.int (k + 1)))))
        generalize hg4 : updD h3 x (.ins (He.ga K "Rounds") dx (fldsR m r (.int (k + 1)))) = h4 at x4 er4 ⊢
        have x04 : ExP x h0 h4 := (x0.trans (Ex.p x3)).trans x4
        refine ⟨_, dx, _, _, er4, hR, r3, rfl, trivial, ?_⟩
        show if decide ((3000 : Int) < k + 1) = true then _ else _
        refine ifB (fun c2 => ?_) (fun c2 => ?_)
        · have c2 : 3000 < k + 1 := of_decide_eq_true c2
          exact kx (by omega) h4 x04
        · have c2 : ¬ 3000 < k + 1 := of_decide_eq_false c2
          have ep4 := x4 _ _ px ep3
          refine ⟨⟨p, _, rfl, ep4⟩, lz rfl, dx, _, er4, rfl, ?_⟩
          have en : ((n + 1 : Nat) : Int) - 1 = ((n : Nat) : Int) := by omega
          show sp_Rounds_node K n [.ref x, .tup ((lat rows q (i : Nat) 0 sps).map sprD), .int (((n + 1 : Nat) : Int) - 1)] h4 _ E
          rw [en]
          refine ⟨x, dx, m, r, k + 1, nw, wo, qs, st, rows, _, N * 60, 72 * M, rfl, er4, mac_ex mc x04 mx, ⟨by rw [lat_len]; exact sp.1, lo⟩, bd_s hN m0 bd, by omega, by omega, by omega, by omega, fun le h5 x5 r5 => ?_, fun gt h5 x5 => kx (by omega) h5 (x04.trans x5)⟩
          have ep5 := x5 _ _ px ep4
          refine ⟨lz rfl, acc, ep5, by rw [sizeLine_eq]; omega, ?_⟩
          have pn : p ≠ x := px
          have x6 : ExP x h0 (updD h5 p (.lst (acc ++ [.tup [.tup [.int (i : Nat)], .tup (((lat rows q i 0 sps).map sumI).map prD2), nodeS rows wo.toNat qs.toNat n (lat rows q i 0 sps)]]))) := fun b o nb eb => by
            rw [updD_ne (show b ≠ p from fun z => by rw [z, np0] at eb; cases eb)]
            exact (x04.trans x5) b o nb eb
          refine qu_loop hR r1 r3 mx px np0 mc sp hN m0 bd hq j (i + 1) _ (k + 1 + cntN rows wo.toNat qs.toNat n (lat rows q i 0 sps)) _ _ _ _ x6 (by omega) (by rw [List.length_append, List.length_singleton]; omega) updD_same (by show updD _ _ _ _ = _; rw [updD_ne (Ne.symm px)]; exact r5) (by omega) (by omega) (fun le2 o5 o6 o7 h' x' e' r' => ?_) fun gt2 h' x' => kx (by omega) h' x'
          refine kn (by omega) o5 o6 o7 h' x' ?_ ?_
          · rw [List.append_assoc] at e'; exact e'
          · rw [show k + (1 + cntN rows wo.toNat qs.toNat n (lat rows q i 0 sps) + (List.map (cntA rows q sps (cntN rows wo.toNat qs.toNat n)) (List.range' (i + 1) j)).sum) = k + 1 + cntN rows wo.toNat qs.toNat n (lat rows q i 0 sps) + (List.map (cntA rows q sps (cntN rows wo.toNat qs.toNat n)) (List.range' (i + 1) j)).sum by omega]
            exact r'
      · rw [any_dec] at c
        have c : ¬ (((lat rows q (i : Nat) 0 sps).map sumI).any fun x => decide (x ≠ (0, 1))) = true := by rw [c]; decide
        have ea : answ rows q sps (nodeS rows wo.toNat qs.toNat n) i = none := by unfold answ; rw [if_neg c]
        have ec : cntA rows q sps (cntN rows wo.toNat qs.toNat n) i = 0 := by unfold cntA; rw [if_neg c]
        rw [ea] at kn
        rw [ec, Int.zero_add] at kn kx
        exact qu_loop hR r1 r3 mx px np0 mc sp hN m0 bd hq j (i + 1) acc k _ _ _ h3 (x0.trans (Ex.p x3)) (by omega) (by omega) ep3 er3 k0 k1 kn kx
theorem p_Rounds_question (n : Nat) (hR : Cls K (He.ga K "Rounds")) (r1 : NoAttr K (He.ga K "Rounds") "machine") (r3 : NoAttr K (He.ga K "Rounds") "many") (hM : Cls K (He.ga K "Machine")) (hw : NoAttr K (He.ga K "Machine") "words") (ds : List D) (h : HD) (Q : DK) (E : XD) (hs : sp_Rounds_question K (n + 1) ds h Q E) : t_Rounds_question P w K n (fun _ => E) { nx := fun _ h' => Q .non h', rt := Q } (startD N_Rounds_question ds) h := by
  obtain ⟨x, dx, m, r, k, nw, wo, qs, st, rows, sps, N, M, q, rfl, er, mc, sp, bd, hN, m0, k0, k1, hq, cn, cx⟩ := hs
  have mx : m ≠ x := isR_ne (r' := er) mc
  refine ⟨lz rfl, fun p np => ?_⟩
  have x0 : Ex h (updD h p (.lst [])) := .new np
  have px : p ≠ x := fun z => by
    have er' : h x = _ := er
    rw [← z, np] at er'; cases er'
  obtain ⟨dm, em⟩ := mc.m
  have w6 := mc.w6
  have w1 := mc.w1
  refine ⟨_, dx, _, _, x0 _ _ er, hR, r1, rfl, ?_⟩
  refine ⟨_, dm, _, _, x0 _ _ em, hM, hw, rfl, by omega, by omega, ?_⟩
  rw [rgD_eq]
  show cLoop _ _ _ _ _ [some (.ref x), some (.tup (sps.map sprD)), some (.int (q : Nat)), some (.int ((n + 1 : Nat) : Int)), some (.ref p), none, none, none, none, none] (updD h p (.lst []))
  unfold questS cntQ at cn
  unfold cntQ at cx
  rw [List.range_eq_range'] at cn cx
  refine qu_loop hR r1 r3 mx px np mc sp hN m0 bd hq wo.toNat 0 [] k none none none _ (Ex.p x0) (by omega) (Nat.le_refl _) updD_same (x0 _ _ er) k0 k1 (fun le o5 o6 o7 h' x' e' r' => ?_) cx
  exact ⟨_, e', cn le h' x' r'⟩
theorem mac_first {m : Addr} {nw wo qs st : Int} {rows : List D} (mc : Mac K h m nw wo qs st rows) : ∃ ys rs, rows = .tup ys :: rs ∧ (ys.length : Int) = qs := by
  obtain ⟨rs, e, l, v⟩ := mc.v
  cases e
  have s1 := mc.s1
  cases rows with
  | nil => rw [List.length_nil] at l; omega
  | cons y r =>
    obtain ⟨ys, rfl, ly, _⟩ := v y (List.mem_cons_self ..)
    exact ⟨ys, r, rfl, ly⟩
theorem nd_loop {n : Nat} {x dx m : Addr} {r : D} {nw wo qs st N M : Int} {rows : List D} {sps : List (List Fr)} {h0 : HD} {Q : DK}
    (mx : m ≠ x) (mc : Mac K h0 m nw wo qs st rows) (sp : Sps rows nw N M sps) (hN : 0 < N) (m0 : 0 ≤ M) (bd : Bd (N * 60 ^ (n + 1)) (M * 7200 ^ (n + 1))) :
    ∀ (j i : Nat) (acc : List D) (k : Int) (h : HD), ExP x h0 h → i + j ≤ qs.toNat → isR K h x dx m r k → 0 ≤ k → k ≤ 3000 →
    (k + ((List.range' i j).map fun q => cntQ rows wo.toNat q sps (cntN rows wo.toNat qs.toNat n)).sum ≤ 3000 → ∀ h' p, ExP x h0 h' → h' p = none → isR K h' x dx m r (k + ((List.range' i j).map fun q => cntQ rows wo.toNat q sps (cntN rows wo.toNat qs.toNat n)).sum) → Q (.ref p) (updD h' p (.lst (acc ++ (List.range' i j).map fun q => questS rows wo.toNat q sps (nodeS rows wo.toNat qs.toNat n))))) →
    (3000 < k + ((List.range' i j).map fun q => cntQ rows wo.toNat q sps (cntN rows wo.toNat qs.toNat n)).sum → ∀ h', ExP x h0 h' → E (.ref (He.ga K "TooLarge")) none h') →
    cLcGo (fun _ => True) (.one 3) cYes (cMeth (He.ga K "Rounds") "question" (sp_Rounds_question K (n + 1)) (fun _ => E) (cVar 0) (cCons (cVar 1) (cCons (cVar 3) (cCons (cVar 2) cNil)))) [some (.ref x), some (.tup (sps.map sprD)), some (.int ((n + 1 : Nat) : Int)), none] Q (rgF i j) acc h
  | 0, i, acc, k, h, x0, hl, er, k0, k1, kn, kx => by
    rw [List.range'_zero, List.map_nil, List.sum_nil, Int.add_zero] at kn
    exact ⟨trivial, fun p np => by have := kn k1 h p x0 np er; simpa using this⟩
  | j + 1, i, acc, k, h, x0, hl, er, k0, k1, kn, kx => by
    rw [List.range'_succ, List.map_cons, List.sum_cons] at kn kx
    rw [List.map_cons] at kn
    have ns : 0 ≤ ((List.range' (i + 1) j).map fun q => cntQ rows wo.toNat q sps (cntN rows wo.toNat qs.toNat n)).sum := sum_nonneg _ fun y hy => by
      obtain ⟨u, _, rfl⟩ := List.mem_map.mp hy
      exact cntQ_nonneg (cnt_nonneg n)
    have nq : 0 ≤ cntQ rows wo.toNat i sps (cntN rows wo.toNat qs.toNat n) := cntQ_nonneg (cnt_nonneg n)
    refine ⟨trivial, ?_⟩
    refine ⟨dx, _, er, rfl, ?_⟩
    refine ⟨x, dx, m, r, k, nw, wo, qs, st, rows, sps, N, M, i, rfl, er, mac_ex mc x0 mx, sp, bd, hN, m0, k0, k1, by omega, fun le h5 x5 r5 => ?_, fun gt h5 x5 => kx (by omega) h5 (x0.trans x5)⟩
    refine nd_loop mx mc sp hN m0 bd j (i + 1) _ _ _ (x0.trans x5) (by omega) r5 (by omega) le (fun le2 h' p x' np r' => ?_) fun gt2 h' x' => kx (by omega) h' x'
    have := kn (by omega) h' p x' np (by rw [← Int.add_assoc]; exact r')
    rw [List.append_assoc]
    exact this
theorem p_Rounds_node (n : Nat) (hR : Cls K (He.ga K "Rounds")) (r1 : NoAttr K (He.ga K "Rounds") "machine") (ds : List D) (h : HD) (Q : DK) (E : XD) (hs : sp_Rounds_node K n ds h Q E) : t_Rounds_node P w K n (fun _ => E) { nx := fun _ h' => Q .non h', rt := Q } (startD N_Rounds_node ds) h := by
  obtain ⟨x, dx, m, r, k, nw, wo, qs, st, rows, sps, N, M, rfl, er, mc, sp, bd, hN, m0, k0, k1, cn, cx⟩ := hs
  have mx : m ≠ x := isR_ne (r' := er) mc
  refine ⟨shp_int _, shp_int _, ?_⟩
  show if eqD (.int (n : Nat)) (.int 0) = true then _ else _
  rw [eqD_int]
  cases n with
  | zero =>
    refine ifT rfl ⟨lz rfl, ?_⟩
    refine cn (by show k + 0 ≤ 3000; omega) h (.refl x h) ?_
    show isR K h x dx m r (k + 0)
    rw [Int.add_zero]; exact er
  | succ n =>
    refine ifF (decide_eq_false (by omega)) ?_
    obtain ⟨ys, rs, er0, ly⟩ := mac_first mc
    have q1 := mc.q1
    have q4 := mc.q4
    obtain ⟨dm, em⟩ := mc.m
    refine ⟨_, dx, _, _, er, hR, r1, rfl, m, .int nw, .int wo, ys, rs, rfl, ⟨dm, by rw [er0] at em; exact em⟩, by omega, by omega, ?_⟩
    rw [show ((ys.length : Nat) : Int).toNat = qs.toNat by omega, rgD_eq]
    refine ⟨by rw [rgF_len, sizeLine_eq]; omega, ?_⟩
    unfold nodeS cntN at cn
    unfold cntN at cx
    rw [List.range_eq_range'] at cn cx
    refine nd_loop mx mc sp hN m0 bd qs.toNat 0 [] k h (.refl x h) (by omega) er k0 k1 (fun le h' p x' np r' => ?_) cx
    refine ⟨_, updD_same, cn le _ (fun b o nb eb => ?_) ?_⟩
    · rw [updD_ne (fun z => by have := x' b o nb eb; rw [z, np] at this; cases this)]; exact x' b o nb eb
    · show updD _ _ _ _ = _
      rw [updD_ne (fun z => by have e := r'; unfold isR at e; rw [z, np] at e; cases e)]
      exact r'
end
end K65

-- K65L
set_option Elab.async false
set_option linter.all false
set_option maxRecDepth 100000
set_option maxHeartbeats 4000000
/-! K65L: the plain laws of first_rounds and of what is told of it. -/
namespace K65
open PySem PySem.Spec PyProof.Rows L2 PD PM
section
variable {P : Program} {w : World} {K : PySem.W.Frag} {W : En → XD} {h : HD} {Q : DK} {Z : DE} {E : XD}
theorem bd4 : ∀ n : Nat, n ≤ 4 → Bd (1 * 60 ^ n) (1 * 7200 ^ n)
  | 0, _ => ⟨by decide, by decide +kernel, by decide, by decide +kernel⟩
  | 1, _ => ⟨by decide, by decide +kernel, by decide, by decide +kernel⟩
  | 2, _ => ⟨by decide, by decide +kernel, by decide, by decide +kernel⟩
  | 3, _ => ⟨by decide, by decide +kernel, by decide, by decide +kernel⟩
  | 4, _ => ⟨by decide, by decide +kernel, by decide, by decide +kernel⟩
  | n + 5, l => absurd l (by omega)
theorem beg_ok {rows : List D} {nw st : Int} (n1 : 0 ≤ nw) (s1 : 1 ≤ rows.length) : Sps rows nw 1 1 (begS rows nw) := by
  refine ⟨by unfold begS; rw [List.length_replicate]; omega, fun sp hs => ?_⟩
  rw [(List.mem_replicate.mp hs).2]
  refine ⟨by rw [List.length_cons, List.length_replicate]; omega, fun x hx => ?_⟩
  rcases List.mem_cons.mp hx with rfl | hx
  · exact ⟨⟨by decide, by decide⟩, ⟨1, rfl⟩, by decide, by decide⟩
  · rw [(List.mem_replicate.mp hx).2]
    exact fB0 (by decide)
theorem beg_eq {rows : List D} {nw : Int} : (List.replicate nw.toNat [sprD ((1, 1) :: List.replicate (rows.length - 1) (0, 1))]).flatten = (begS rows nw).map sprD := by
  rw [List.flatten_replicate_singleton]
  unfold begS
  rw [List.map_replicate]
theorem p_first_rounds (hM : Cls K (He.ga K "Machine")) (hw : NoAttr K (He.ga K "Machine") "worlds") (hI : IsiC K (He.ga K "Machine")) (hk : PySem.W.kitOne K (.ref (He.ga K "Machine")) (.type "int") = some false)
    (ds : List D) (h : HD) (Q : DK) (E : XD) (hs : sp_first_rounds K ds h Q E) : t_first_rounds P w K (fun _ => E) { nx := fun _ h' => Q .non h', rt := Q } (startD N_first_rounds ds) h := by
  obtain ⟨m, x, nw, wo, qs, st, rows, rfl, mc, ⟨n, rfl, n4, cn, cx⟩ | ⟨ni, kx, q⟩⟩ := hs
  · obtain ⟨dm, em⟩ := mc.m
    have ln := mac_len mc
    have s1 := mc.s1
    have s6 := mc.s6
    have n1 := mc.n1
    have n5 := mc.n5
    refine ⟨_, 0, 4, rfl, .inl ⟨(n : Nat), rfl, by omega, by omega, ?_⟩⟩
    refine ⟨m, .int nw, .int wo, rows, rfl, ⟨dm, em⟩, by omega, by omega, lz rfl, _, dm, _, _, em, hM, hw, rfl, by omega, by omega, by show 1 ≤ 1000; decide, ?_⟩
    rw [beg_eq]
    refine ⟨_, dm, _, _, em, hM, hw, rfl, fun x dx nx nd ne => ?_⟩
    have x0 : Ex h (updD h x (.ins (He.ga K "Rounds") dx [])) := .new nx
    refine ⟨x, dx, m, .int (n : Nat), rfl, updD_same, fun h1 x1 e1 => ⟨rfl, dx, _, e1, rfl, n, n4, ?_⟩⟩
    have x01 : Ex h h1 := Ex.ofP x0 nx x1
    have rl : 1 ≤ rows.length := by omega
    refine ⟨x, dx, m, .int (n : Nat), 0, nw, wo, qs, st, rows, begS rows nw, 1, 1, rfl, e1, mac_exx mc x01, beg_ok (st := st) (by omega) rl, bd4 n n4, by decide, by decide, by decide, by decide, fun le h2 x2 r2 => ?_, fun gt h2 x2 => cx (by omega) h2 (Ex.ofP x01 nx x2)⟩
    have w6 := mc.w6
    have q4 := mc.q4
    have x02 : Ex h h2 := Ex.ofP x01 nx x2
    exact ⟨.int nw, _, rfl, tre_le (by omega) (node_tre (by omega) (by omega) n _), by rw [node_cnt n 13 _ (by omega)]; omega, fun h3 y x3 ny hh => cn (by omega) h3 y (x02.trans x3) hh⟩
  · refine ⟨x, 0, 4, rfl, .inr ⟨ni, ?_, q⟩⟩
    rcases kx with z | rfl
    · exact .inl z
    · obtain ⟨dm, em⟩ := mc.m
      exact .inr ⟨m, _, dm, _, rfl, em, hI, hk⟩
theorem p_l_told (hR : Cls K (He.ga K "RawHouse")) (h1 : NoAttr K (He.ga K "RawHouse") "worlds") (h2 : NoAttr K (He.ga K "RawHouse") "tree") (hI : IsiC K (He.ga K "RawHouse")) (hk : PySem.W.kitOne K (.ref (He.ga K "RawHouse")) (.ref (He.ga K "House")) = some true)
    (eT : ExcI K (He.ga K "TooLarge")) (eN : ExcI K (He.ga K "NoNumber"))
    (mT : PySem.W.exmOne K (.ref (He.ga K "TooLarge")) (.ref (He.ga K "HouseError")) = some true) (mN : PySem.W.exmOne K (.ref (He.ga K "NoNumber")) (.ref (He.ga K "HouseError")) = some true)
    (kTT : PySem.W.kitOne K (.ref (He.ga K "TooLarge")) (.ref (He.ga K "TooLarge")) = some true) (kTN : PySem.W.kitOne K (.ref (He.ga K "TooLarge")) (.ref (He.ga K "NoNumber")) = some false)
    (kNT : PySem.W.kitOne K (.ref (He.ga K "NoNumber")) (.ref (He.ga K "TooLarge")) = some false) (kNN : PySem.W.kitOne K (.ref (He.ga K "NoNumber")) (.ref (He.ga K "NoNumber")) = some true)
    (ds : List D) (h : HD) (Q : DK) (E : XD) (hs : sp_l_told K ds h Q E) : t_l_told P w K (fun _ => noX) { nx := fun _ h' => Q .non h', rt := Q } (startD N_l_told ds) h := by
  obtain ⟨m, x, nw, wo, qs, st, rows, rfl, mc, ⟨n, rfl, n4, cn, cx⟩ | ⟨ni, kx, q⟩⟩ := hs
  · refine ⟨m, _, nw, wo, qs, st, rows, rfl, mc, .inl ⟨n, rfl, n4, fun le h' p x' hh => ?_, fun gt h' x' => ?_⟩⟩
    · obtain ⟨dx, e⟩ := hh
      refine .inr ⟨p, _, dx, _, true, rfl, e, hI, hk, ifT (c := true) rfl ?_⟩
      refine ⟨_, dx, _, _, e, hR, h1, rfl, _, dx, _, _, e, hR, h2, rfl, lz rfl, fun p2 np2 => ?_⟩
      exact cn le _ p2 (x'.new' np2) updD_same
    · refine ⟨true, mT, fun _ a na => ?_, fun z => by cases z⟩
      refine ⟨_, _, false, rfl, eT, rfl, kTN, _, _, true, rfl, eT, rfl, kTT, lz rfl, fun p np => ?_⟩
      refine ⟨⟨p, _, rfl, updD_same⟩, _, updD_same, rfl, ⟨rfl, rfl⟩, shp_int _, shp_int _, ?_⟩
      refine ifT (by rfl) ⟨lz rfl, ⟨p, _, rfl, updD_same⟩, _, 1, .bl true, updD_same, rfl, rfl, rfl, rfl, fun j z hj hz => ?_, .inl ⟨.str "large", atI_nat (j := 1) rfl, ?_⟩⟩
      · obtain rfl : j = 0 := by omega
        cases hz; rfl
      · exact cx gt _ (x'.new' np)
  · refine ⟨m, x, nw, wo, qs, st, rows, rfl, mc, .inr ⟨ni, kx, ?_⟩⟩
    refine ⟨true, mN, fun _ a na => ?_, fun z => by cases z⟩
    refine ⟨_, _, true, rfl, eN, rfl, kNN, _, _, false, rfl, eN, rfl, kNT, lz rfl, fun p np => ?_⟩
    refine ⟨⟨p, _, rfl, updD_same⟩, _, updD_same, rfl, ⟨rfl, rfl⟩, shp_int _, shp_int _, ?_⟩
    refine ifT (by rfl) ⟨lz rfl, ⟨p, _, rfl, updD_same⟩, _, 0, .bl true, updD_same, rfl, rfl, rfl, rfl, fun j z hj hz => absurd hj (by omega), .inl ⟨.str "number", atI_nat (j := 0) rfl, ?_⟩⟩
    exact q _ (.new np)
end
end K65

-- K65M
set_option Elab.async false
set_option linter.all false
set_option maxRecDepth 100000
set_option maxHeartbeats 4000000
/-! K65M: the law's own node. -/
namespace K65
open PySem PySem.Spec PyProof.Rows L2 PD PM
section
variable {P : Program} {w : World} {K : PySem.W.Frag} {W : En → XD} {h : HD} {Q : DK} {Z : DE} {E : XD}
abbrev ptsD (rows : List D) (nw wo : Int) : D := .tup [.tup rows, .int nw, .int wo]
/-- what stands behind, in all worlds -/
theorem wl_loop {nw wo qs st N M : Int} {rows : List D} {sps : List (List Fr)} {q i : Nat} {p1 : Addr} {hs : HD} {Q : DK} {o0 o2 o3 o6 o7 o8 o10 o11 o13 o14 : Option D}
    (v : RowsV nw wo qs st (.tup rows)) (s6 : rows.length ≤ 6) (sp : Sps rows nw N M sps) (bd : Bd N M) (hq : (q : Int) < qs) (e1 : hs p1 = some (.lst (sps.map sprD))) :
    ∀ (r pre acc : List (List Fr)) (h : HD), Ex hs h → pre ++ r = sps → (∀ h' p, Ex hs h' → h' p = none → Q (.ref p) (updD h' p (.lst ((acc ++ lat rows q (i : Nat) pre.length r).map sprD)))) →
    cLcGo (fun _ => True) (.one 12) cYes (cFn sp_l_behind (fun _ => noX) (cCons (cVar 5) (cCons (cVar 12) (cCons (cOp (cIxA P w) (cVar 1) (cVar 12)) (cCons (cVar 4) (cCons (cVar 9) cNil)))))) [o0, some (.ref p1), o2, o3, some (.int (q : Nat)), some (.tup rows), o6, o7, o8, some (.int (i : Nat)), o10, o11, none, o13, o14] Q (rgF pre.length r.length) (acc.map sprD) h
  | [], pre, acc, h, x, e, k => ⟨trivial, fun p np => by have := k h p x np; simpa [lat] using this⟩
  | s :: r, pre, acc, h, x, e, k => by
    have ln : (sps.length : Int) = nw := sp.1
    have l2 : sps.length = pre.length + (r.length + 1) := by rw [← e, List.length_append, List.length_cons]
    refine ⟨trivial, ?_⟩
    refine .inl ⟨_, sprD s, x _ _ e1, atI_nat ?_, ?_⟩
    · rw [List.getElem?_map, ← e, List.getElem?_append_right (Nat.le_refl _), Nat.sub_self]; rfl
    refine ⟨nw, wo, qs, st, rows, s, (i : Nat), N, M, pre.length, q, rfl, v, s6, by omega, hq, sp.2 s (by rw [← e]; exact List.mem_append_right _ (List.mem_cons_self ..)), bd, fun h1 x1 => ?_⟩
    have := wl_loop (o0 := o0) (o2 := o2) (o3 := o3) (o6 := o6) (o7 := o7) (o8 := o8) (o10 := o10) (o11 := o11) (o13 := o13) (o14 := o14) v s6 sp bd hq e1 r (pre ++ [s]) (acc ++ [beh rows pre.length q (i : Nat) s]) h1 (x.trans x1) (by rw [← e, List.append_assoc]; rfl) fun h' p x' np => by
      have := k h' p x' np
      rw [List.length_append, List.length_singleton, List.append_assoc]
      exact this
    rw [List.length_append, List.length_singleton] at this
    simpa using this
theorem any_pos {xs : List Fr} (hx : ∀ x ∈ xs, nrm x ∧ 0 ≤ x.1) : ([] ++ xs.map fun (x : Fr) => decide ((0 : Int) < x.1)).any id = xs.any fun x => decide (x ≠ (0, 1)) := by
  rw [List.nil_append, List.any_map]
  induction xs with
  | nil => rfl
  | cons x xs ih =>
    rw [List.any_cons, List.any_cons, ih fun y hy => hx y (List.mem_cons_of_mem _ hy)]
    have h := hx x (List.mem_cons_self ..)
    have nz := nrm_zero h.1
    have e : decide ((0 : Int) < x.1) = decide (x ≠ (0, 1)) := by
      refine decide_eq_decide.mpr ⟨fun g z => ?_, fun g => ?_⟩
      · have := nz.mp z; omega
      · have := mt nz.mpr g; omega
    show (decide ((0 : Int) < x.1) || _) = _
    rw [e]
/-- the words of a question -/
theorem wd_loop {n : Nat} {p1 p3 p8 : Addr} {nw wo qs st N M : Int} {rows : List D} {sps : List (List Fr)} {q : Nat} {h0 : HD} {accq : List D}
    (v : RowsV nw wo qs st (.tup rows)) (n1 : 1 ≤ nw) (n5 : nw ≤ 5) (w1 : 1 ≤ wo) (w6 : wo ≤ 6) (q1 : 1 ≤ qs) (q4 : qs ≤ 4) (s1 : 1 ≤ st) (t6 : st ≤ 6) (sp : Sps rows nw N M sps) (hN : 0 < N) (m0 : 0 ≤ M) (bd : Bd (N * 60 ^ (n + 1)) (M * 7200 ^ (n + 1))) (hq : (q : Int) < qs) (e1 : h0 p1 = some (.lst (sps.map sprD))) (np8 : h0 p8 = none) (p38 : p3 ≠ p8) :
    ∀ (j i : Nat) (acc : List D) (o9 o10 o11 : Option D) (h : HD), Ex h0 h → i + j ≤ wo.toNat → acc.length ≤ i → h p8 = some (.lst acc) → h p3 = some (.lst accq) →
    (∀ o9 o10 o11 h', Ex h0 h' → h' p8 = some (.lst (acc ++ (List.range' i j).filterMap (answ rows q sps (nodeS rows wo.toNat qs.toNat n)))) → h' p3 = some (.lst accq) → Z.nx [some (ptsD rows nw wo), some (.ref p1), some (.int ((n + 1 : Nat) : Int)), some (.ref p3), some (.int (q : Nat)), some (.tup rows), some (.int nw), some (.int wo), some (.ref p8), o9, o10, o11, none, none, none] h') →
    cLoop (fun _ => True) (cName 9) (b_l_node_2 P w K (n + 1) W) Z (rgF i j) [some (ptsD rows nw wo), some (.ref p1), some (.int ((n + 1 : Nat) : Int)), some (.ref p3), some (.int (q : Nat)), some (.tup rows), some (.int nw), some (.int wo), some (.ref p8), o9, o10, o11, none, none, none] h
  | 0, i, acc, o9, o10, o11, h, x0, hl, la, ep, e3, kn => by
    refine ⟨trivial, kn _ _ _ h x0 ?_ e3⟩
    rw [List.range'_zero, List.filterMap_nil, List.append_nil]; exact ep
  | j + 1, i, acc, o9, o10, o11, h, x0, hl, la, ep, e3, kn => by
    rw [List.range'_succ, List.filterMap_cons] at kn
    have ln : (rows.length : Int) = st := by
      obtain ⟨rs, e, l, _⟩ := id v
      cases e; exact l
    have s6 : rows.length ≤ 6 := by omega
    have lo : ∀ sp ∈ lat rows q (i : Nat) 0 sps, Lv (N * 60) (72 * M) rows.length sp := lat_ok hN m0 v s6 hq sps 0 (by rw [Nat.zero_add, sp.1]; exact Int.le_refl _) sp.2
    have b1 := bd_1 hN m0 bd
    have l5 : (lat rows q (i : Nat) 0 sps).length ≤ 5 := by rw [lat_len]; have := sp.1; omega
    refine ⟨trivial, by omega, by omega, by rw [rgD_len, sizeLine_eq]; omega, ?_⟩
    have es : nw.toNat = sps.length := by have := sp.1; omega
    rw [rgD_eq, es]
    refine wl_loop (P := P) (w := w) (hs := h) v s6 sp (bd_0 hN m0 bd) hq (x0 _ _ e1) sps [] [] h (.refl h) rfl fun h1 p10 x1 np10 => ?_
    rw [List.nil_append]
    have x2 : Ex h (updD h1 p10 (.lst ((lat rows q (i : Nat) 0 sps).map sprD))) := x1.new' np10
    show cSeq _ _ _ [some (ptsD rows nw wo), some (.ref p1), some (.int ((n + 1 : Nat) : Int)), some (.ref p3), some (.int (q : Nat)), some (.tup rows), some (.int nw), some (.int wo), some (.ref p8), some (.int (i : Nat)), some (.ref p10), o11, none, none, none] (updD h1 p10 (.lst ((lat rows q (i : Nat) 0 sps).map sprD)))
    generalize hg : updD h1 p10 (.lst ((lat rows q (i : Nat) 0 sps).map sprD)) = h2 at x2 ⊢
    have e10 : h2 p10 = some (.lst ((lat rows q (i : Nat) 0 sps).map sprD)) := by rw [← hg]; exact updD_same
    refine .inl ⟨_, e10, by show (List.map sprD _).length ≤ sizeLine; rw [List.length_map, sizeLine_eq]; omega, ?_⟩
    refine tot_loop (N := N * 60) (M := 72 * M) (st := rows.length) _ _ 13 _ _ h2 e10 (fun s kk lv z => ⟨s, rfl, (sum_ok b1 (by rw [lv.1]; omega) lv.2).1, z⟩) _ [] lo fun p11 np11 => ⟨_, updD_same, ?_⟩
    rw [List.nil_append]
    dsimp only [List.set]
    have hp : ∀ x ∈ (lat rows q (i : Nat) 0 sps).map sumI, nrm x ∧ 0 ≤ x.1 := fun x hx => by
      obtain ⟨z, hz, rfl⟩ := List.mem_map.mp hx
      have := (sum_ok b1 (by rw [(lo z hz).1]; omega) (lo z hz).2).2
      exact ⟨this.1, this.2.2.1⟩
    refine .inl ⟨by show (List.map prD2 _).length ≤ sizeLine; rw [List.length_map, List.length_map, sizeLine_eq]; omega, ?_⟩
    refine flags_loop _ _ (fun (x : Fr) => decide ((0 : Int) < x.1)) 14 _ _ _ trivial (by show 14 < 15; decide) (fun y kk z => .inl ⟨.int y.1, atI_nat (j := 0) rfl, trivial, z⟩) _ [] fun p14 np14 => ⟨_, updD_same, ?_⟩
    have x3 : Ex h2 (updD (updD h2 p11 (.lst (((lat rows q (i : Nat) 0 sps).map sumI).map prD2))) p14 (.lst (([] ++ ((lat rows q (i : Nat) 0 sps).map sumI).map fun (x : Fr) => decide ((0 : Int) < x.1)).map D.bl))) := (Ex.new np11).new' np14
    dsimp only
    generalize hg3 : updD (updD h2 p11 (.lst (((lat rows q (i : Nat) 0 sps).map sumI).map prD2))) p14 (.lst (([] ++ ((lat rows q (i : Nat) 0 sps).map sumI).map fun (x : Fr) => decide ((0 : Int) < x.1)).map D.bl)) = h3 at x3 ⊢
    have x03 : Ex h h3 := x2.trans x3
    refine ifB (fun c => ?_) (fun c => ?_)
    · rw [any_pos hp] at c
      have ea : answ rows q sps (nodeS rows wo.toNat qs.toNat n) i = some (.tup [.tup [.int (i : Nat)], .tup (((lat rows q i 0 sps).map sumI).map prD2), nodeS rows wo.toNat qs.toNat n (lat rows q i 0 sps)]) := by unfold answ; rw [if_pos c]
      rw [ea] at kn
      refine ⟨⟨p8, _, rfl, x03 _ _ ep⟩, lz rfl, ?_⟩
      have en : ((n + 1 : Nat) : Int) - 1 = ((n : Nat) : Int) := by omega
      refine ⟨p10, nw, wo, qs, st, rows, lat rows q (i : Nat) 0 sps, N * 60, 72 * M, by show [_, _, D.int (((n + 1 : Nat) : Int) - 1)] = _; rw [en], x3 _ _ e10, v, n1, n5, w1, w6, q1, q4, s1, t6, ⟨by rw [lat_len]; exact sp.1, lo⟩, bd_s hN m0 bd, by omega, by omega, fun h5 x5 => ?_⟩
      have x05 : Ex h h5 := x03.trans x5
      refine ⟨lz rfl, acc, x05 _ _ ep, by rw [sizeLine_eq]; omega, ?_⟩
      have x6 : Ex h0 (updD h5 p8 (.lst (acc ++ [.tup [.tup [.int (i : Nat)], .tup (((lat rows q i 0 sps).map sumI).map prD2), nodeS rows wo.toNat qs.toNat n (lat rows q i 0 sps)]]))) := fun b o eb => by
        rw [updD_ne (show b ≠ p8 from fun z => by rw [z, np8] at eb; cases eb)]
        exact (x0.trans x05) b o eb
      refine wd_loop v n1 n5 w1 w6 q1 q4 s1 t6 sp hN m0 bd hq e1 np8 p38 j (i + 1) _ _ _ _ _ x6 (by omega) (by rw [List.length_append, List.length_singleton]; omega) updD_same (by rw [updD_ne p38]; exact x05 _ _ e3) fun o9 o10 o11 h' x' e' e3' => ?_
      refine kn o9 o10 o11 h' x' ?_ e3'
      rw [List.append_assoc] at e'; exact e'
    · rw [any_pos hp] at c
      have c : ¬ (((lat rows q (i : Nat) 0 sps).map sumI).any fun x => decide (x ≠ (0, 1))) = true := by rw [c]; decide
      have ea : answ rows q sps (nodeS rows wo.toNat qs.toNat n) i = none := by unfold answ; rw [if_neg c]
      rw [ea] at kn
      exact wd_loop v n1 n5 w1 w6 q1 q4 s1 t6 sp hN m0 bd hq e1 np8 p38 j (i + 1) acc _ _ _ h3 (x0.trans x03) (by omega) (by omega) (x03 _ _ ep) (x03 _ _ e3) kn
/-- the questions of a node -/
theorem qn_loop {n : Nat} {p1 p3 : Addr} {nw wo qs st N M : Int} {rows : List D} {sps : List (List Fr)} {h0 : HD}
    (v : RowsV nw wo qs st (.tup rows)) (n1 : 1 ≤ nw) (n5 : nw ≤ 5) (w1 : 1 ≤ wo) (w6 : wo ≤ 6) (q1 : 1 ≤ qs) (q4 : qs ≤ 4) (s1 : 1 ≤ st) (t6 : st ≤ 6) (sp : Sps rows nw N M sps) (hN : 0 < N) (m0 : 0 ≤ M) (bd : Bd (N * 60 ^ (n + 1)) (M * 7200 ^ (n + 1))) (e1 : h0 p1 = some (.lst (sps.map sprD))) (np3 : h0 p3 = none) :
    ∀ (j i : Nat) (acc : List D) (o4 o8 o9 o10 o11 : Option D) (h : HD), Ex h0 h → i + j ≤ qs.toNat → acc.length ≤ i → h p3 = some (.lst acc) →
    (∀ ρ h', Ex h0 h' → h' p3 = some (.lst (acc ++ (List.range' i j).map fun q => questS rows wo.toNat q sps (nodeS rows wo.toNat qs.toNat n))) → ρ[3]? = some (some (.ref p3)) → Z.nx ρ h') →
    cLoop (fun _ => True) (cName 4) (b_l_node_1 P w K (n + 1) W) Z (rgF i j) [some (ptsD rows nw wo), some (.ref p1), some (.int ((n + 1 : Nat) : Int)), some (.ref p3), o4, some (.tup rows), some (.int nw), some (.int wo), o8, o9, o10, o11, none, none, none] h
  | 0, i, acc, o4, o8, o9, o10, o11, h, x0, hl, la, e3, kn => by
    refine ⟨trivial, kn _ h x0 ?_ rfl⟩
    rw [List.range'_zero, List.map_nil, List.append_nil]; exact e3
  | j + 1, i, acc, o4, o8, o9, o10, o11, h, x0, hl, la, e3, kn => by
    rw [List.range'_succ, List.map_cons] at kn
    refine ⟨trivial, lz rfl, fun p8 np8 => ⟨by omega, by omega, ?_⟩⟩
    rw [rgD_eq]
    have p38 : p3 ≠ p8 := fun z => by rw [z, np8] at e3; cases e3
    show cLoop _ _ _ _ _ [some (ptsD rows nw wo), some (.ref p1), some (.int ((n + 1 : Nat) : Int)), some (.ref p3), some (.int (i : Nat)), some (.tup rows), some (.int nw), some (.int wo), some (.ref p8), o9, o10, o11, none, none, none] (updD h p8 (.lst []))
    refine wd_loop (h0 := h) (q := i) v n1 n5 w1 w6 q1 q4 s1 t6 sp hN m0 bd (by omega) (x0 _ _ e1) np8 p38 wo.toNat 0 [] o9 o10 o11 _ (.new np8) (by omega) (Nat.le_refl _) updD_same ((Ex.new np8) _ _ e3) fun o9 o10 o11 h1 x1 e8 e3' => ?_
    refine ⟨⟨p3, _, rfl, e3'⟩, _, e8, acc, e3', by rw [sizeLine_eq]; omega, ?_⟩
    rw [← List.range_eq_range']
    have x6 : Ex h0 (updD h1 p3 (.lst (acc ++ [questS rows wo.toNat i sps (nodeS rows wo.toNat qs.toNat n)]))) := fun b o eb => by
      rw [updD_ne (show b ≠ p3 from fun z => by rw [z, np3] at eb; cases eb)]
      exact (x0.trans x1) b o eb
    refine qn_loop v n1 n5 w1 w6 q1 q4 s1 t6 sp hN m0 bd e1 np3 j (i + 1) _ _ _ _ _ _ _ x6 (by omega) (by rw [List.length_append, List.length_singleton]; omega) updD_same fun ρ h' x' e' r' => ?_
    refine kn ρ h' x' ?_ r'
    rw [List.append_assoc] at e'; exact e'
theorem p_l_node (n : Nat) (ds : List D) (h : HD) (Q : DK) (E : XD) (hs : sp_l_node n ds h Q E) : t_l_node P w K n (fun _ => noX) { nx := fun _ h' => Q .non h', rt := Q } (startD N_l_node ds) h := by
  obtain ⟨p1, nw, wo, qs, st, rows, sps, N, M, rfl, e1, v, n1, n5, w1, w6, q1, q4, s1, t6, sp, bd, hN, m0, k⟩ := hs
  refine ⟨rfl, rfl, ?_⟩
  refine ⟨lz rfl, fun p3 np3 => ⟨trivial, ?_⟩⟩
  have x3 : Ex h (updD h p3 (.lst [])) := .new np3
  cases n with
  | zero =>
    refine ifF (by rfl) ⟨by decide, by decide, ?_⟩
    refine ⟨trivial, ?_⟩
    exact ⟨_, updD_same, k _ x3⟩
  | succ n =>
    obtain ⟨rs, er, lr, vr⟩ := id v
    cases er
    cases rows with
    | nil => rw [List.length_nil] at lr; omega
    | cons y r =>
      obtain ⟨ys, rfl, ly, _⟩ := vr y (List.mem_cons_self ..)
      refine ifT (decide_eq_true (by omega)) ?_
      refine .inl ⟨.tup ys, atI_nat (j := 0) rfl, .inl ⟨by omega, by omega, ?_⟩⟩
      rw [show ((ys.length : Nat) : Int).toNat = qs.toNat by omega, rgD_eq]
      show cLoop _ _ _ _ _ [some (ptsD (.tup ys :: r) nw wo), some (.ref p1), some (.int ((n + 1 : Nat) : Int)), some (.ref p3), none, some (.tup (.tup ys :: r)), some (.int nw), some (.int wo), none, none, none, none, none, none, none] (updD h p3 (.lst []))
      unfold nodeS at k
      rw [List.range_eq_range'] at k
      refine qn_loop (h0 := h) v n1 n5 w1 w6 q1 q4 s1 t6 sp hN m0 bd e1 np3 qs.toNat 0 [] none none none none none _ x3 (by omega) (Nat.le_refl _) updD_same fun ρ h' x' e' r' => ?_
      show cVar 3 ρ h' _
      rw [cVar_eq r']
      exact ⟨_, e', k h' x'⟩
end
end K65

-- K65N
set_option Elab.async false
set_option linter.all false
set_option maxRecDepth 100000
set_option maxHeartbeats 4000000
/-! K65N: sizes and counts of the trees; the machine all of whose words come. -/
namespace K65
open PySem PySem.Spec PyProof.Rows L2 PD PM
/-! ### counts -/
def pw (a : Int) : Nat → Int
  | 0 => 1
  | n + 1 => a * pw a n
def tot (a : Int) : Nat → Int
  | 0 => 0
  | n + 1 => tot a n + pw a (n + 1)
theorem pw_pos {a : Int} (h : 1 ≤ a) : ∀ n, 1 ≤ pw a n
  | 0 => Int.le_refl _
  | n + 1 => by
    have := pw_pos h n
    show 1 ≤ a * pw a n
    have : 1 * 1 ≤ a * pw a n := Int.mul_le_mul h this (by decide) (by omega)
    omega
theorem pw_mono {a : Int} (h : 1 ≤ a) : ∀ (n m : Nat), n ≤ m → pw a n ≤ pw a m
  | n, 0, l => by obtain rfl : n = 0 := by omega
                  exact Int.le_refl _
  | n, m + 1, l => by
    rcases Nat.lt_or_ge n (m + 1) with q | q
    · have h1 := pw_mono h n m (by omega)
      have h2 : 1 * pw a m ≤ a * pw a m := Int.mul_le_mul_of_nonneg_right h (by have := pw_pos h m; omega)
      show pw a n ≤ a * pw a m
      omega
    · obtain rfl : n = m + 1 := by omega
      exact Int.le_refl _
theorem tot_rec {a : Int} : ∀ n, a * (1 + tot a n) = tot a (n + 1)
  | 0 => by show a * (1 + 0) = 0 + a * 1; omega
  | n + 1 => by
    show a * (1 + (tot a n + pw a (n + 1))) = tot a (n + 1) + a * pw a (n + 1)
    rw [← Int.add_assoc, Int.mul_add, tot_rec n]
theorem sum_le {α : Type} {f : α → Int} {c : Int} : ∀ {L : List α}, (∀ x ∈ L, f x ≤ c) → (L.map f).sum ≤ L.length * c
  | [], _ => by simp
  | x :: L, h => by
    have a := h x (List.mem_cons_self ..)
    have b := sum_le (L := L) fun y hy => h y (List.mem_cons_of_mem _ hy)
    rw [List.map_cons, List.sum_cons, List.length_cons]
    push_cast
    rw [Int.add_mul, Int.one_mul]; omega
theorem sum_eq {α : Type} {f : α → Int} {c : Int} : ∀ {L : List α}, (∀ x ∈ L, f x = c) → (L.map f).sum = L.length * c
  | [], _ => by simp
  | x :: L, h => by
    have a := h x (List.mem_cons_self ..)
    have b := sum_eq (L := L) fun y hy => h y (List.mem_cons_of_mem _ hy)
    rw [List.map_cons, List.sum_cons, List.length_cons]
    push_cast
    rw [Int.add_mul, Int.one_mul]; omega
theorem cnt_le {rows : List D} {wo qs : Nat} : ∀ (n : Nat) (sps : List (List Fr)), cntN rows wo qs n sps ≤ tot ((qs : Int) * wo) n
  | 0, _ => Int.le_refl _
  | n + 1, sps => by
    have h := sum_le (L := List.range qs) (f := fun q => cntQ rows wo q sps (cntN rows wo qs n)) (c := (wo : Int) * (1 + tot ((qs : Int) * wo) n)) fun q _ => by
      have h2 := sum_le (L := List.range wo) (f := cntA rows q sps (cntN rows wo qs n)) (c := 1 + tot ((qs : Int) * wo) n) fun word _ => by
        have t := cnt_le (rows := rows) (wo := wo) (qs := qs) n (lat rows q word 0 sps)
        have t0 := cnt_nonneg (rows := rows) (wo := wo) (qs := qs) n (lat rows q word 0 sps)
        unfold cntA
        split <;> omega
      rw [List.length_range] at h2
      exact h2
    rw [List.length_range, ← Int.mul_assoc, tot_rec] at h
    exact h
theorem tot_small {a : Int} (h : 1 ≤ a) {n : Nat} (n4 : n ≤ 4) (l : pw a n < 70) : tot a n ≤ 3000 := by
  have m0 := pw_mono h 0 n (by omega)
  match n, n4 with
  | 0, _ => show (0 : Int) ≤ 3000; decide
  | 1, _ => show 0 + pw a 1 ≤ 3000; omega
  | 2, _ =>
    have := pw_mono h 1 2 (by omega)
    show 0 + pw a 1 + pw a 2 ≤ 3000; omega
  | 3, _ =>
    have := pw_mono h 1 3 (by omega)
    have := pw_mono h 2 3 (by omega)
    show 0 + pw a 1 + pw a 2 + pw a 3 ≤ 3000; omega
  | 4, _ =>
    have := pw_mono h 1 4 (by omega)
    have := pw_mono h 2 4 (by omega)
    have := pw_mono h 3 4 (by omega)
    show 0 + pw a 1 + pw a 2 + pw a 3 + pw a 4 ≤ 3000; omega
/-! ### sizes -/
theorem sm_tup3 {L1 L2 L3 d : Nat} {a b c : D} (ha : Sm L1 d a) (hb : Sm L2 d b) (hc : Sm L3 d c) : Sm (L1 + L2 + L3 + 9) (d + 1) (.tup [a, b, c]) := by
  refine ⟨?_, ?_, ?_, ?_, ?_⟩
  · show (PD.rf a && (PD.rf b && (PD.rf c && true))) = true
    rw [ha.rf, hb.rf, hc.rf]; rfl
  · show ((toP a).showable && ((toP b).showable && ((toP c).showable && true))) = true
    rw [ha.sh, hb.sh, hc.sh]; rfl
  · show (tupleText [(toP a).shown, (toP b).shown, (toP c).shown]).length ≤ _
    have := tupleText_len_le [(toP a).shown, (toP b).shown, (toP c).shown]
    have l1 := ha.len
    have l2 := hb.len
    have l3 := hc.len
    simp only [List.map_cons, List.map_nil, List.sum_cons, List.sum_nil, List.length_cons, List.length_nil] at this
    omega
  · show max (toP a).depth (max (toP b).depth (max (toP c).depth 0)) + 1 ≤ d + 1
    have l1 := ha.dep
    have l2 := hb.dep
    have l3 := hc.dep
    omega
  · show ((toP a).canLay0 && ((toP b).canLay0 && ((toP c).canLay0 && true))) = true
    rw [ha.lay, hb.lay, hc.lay]; rfl
/-- room for what is shown -/
def Bs (N M : Int) (n : Nat) : Prop := 0 < N ∧ 0 ≤ M ∧ N * 60 ^ n ≤ 60 ^ 4 ∧ M * 7200 ^ n ≤ 7200 ^ 4
theorem bs_s {N M : Int} {n : Nat} (b : Bs N M (n + 1)) : Bs (N * 60) (72 * M) n := by
  obtain ⟨b0, b3, b1, b2⟩ := b
  have p2 : (0 : Int) < 7200 ^ n := Int.pow_pos (by decide)
  have e1 : N * 60 ^ (n + 1) = N * 60 * 60 ^ n := by rw [Int.pow_succ, Int.mul_comm (60 ^ n) 60, Int.mul_assoc]
  have e2 : M * 7200 ^ (n + 1) = M * 7200 * 7200 ^ n := by rw [Int.pow_succ, Int.mul_comm (7200 ^ n) 7200, Int.mul_assoc]
  have h2 : 72 * M * 7200 ^ n ≤ M * 7200 * 7200 ^ n := Int.mul_le_mul_of_nonneg_right (by omega) (Int.le_of_lt p2)
  refine ⟨by omega, by omega, by rw [← e1]; exact b1, ?_⟩
  rw [e2] at b2
  exact Int.le_trans h2 b2
theorem bs_0 {N M : Int} {n : Nat} (b : Bs N M n) : N ≤ 60 ^ 4 ∧ M ≤ 7200 ^ 4 := by
  obtain ⟨b0, b3, b1, b2⟩ := b
  have e1 : (0 : Int) < 60 ^ n := Int.pow_pos (by decide)
  have e2 : (0 : Int) < 7200 ^ n := Int.pow_pos (by decide)
  have h1 : N * 1 ≤ N * 60 ^ n := Int.mul_le_mul_of_nonneg_left (by omega) (Int.le_of_lt b0)
  have h2 : M * 1 ≤ M * 7200 ^ n := Int.mul_le_mul_of_nonneg_left (by omega) b3
  exact ⟨by omega, by omega⟩
theorem sm_wt {N M : Int} {x : Fr} (hN : 0 < N) (n1 : N ≤ 60 ^ 4) (m0 : 0 ≤ M) (m1 : M ≤ 7200 ^ 4) (f : fB N (100 * M) x) : Sm 71 1 (prD2 x) := by
  obtain ⟨a, b⟩ := x
  obtain ⟨⟨b0, _⟩, d, a0, a1⟩ := f
  have b0 : 0 < b := b0
  have a0 : 0 ≤ a := a0
  have a1 : a ≤ 100 * M * b := a1
  have bN : b ≤ N := Int.le_of_dvd hN d
  have h1 : 100 * M * b ≤ (100 * 7200 ^ 4) * 60 ^ 4 := Int.mul_le_mul (by omega) (by omega) (by omega) (by decide)
  have e1 : ((100 : Int) * 7200 ^ 4) * 60 ^ 4 < 10 ^ 31 := by decide
  have e2 : (60 : Int) ^ 4 < 10 ^ 31 := by decide
  have e3 : (10 : Nat) ^ 31 = 10000000000000000000000000000000 := by decide
  have e4 : (10 : Int) ^ 31 = 10000000000000000000000000000000 := by decide
  rw [e4] at e1 e2
  have s1 : Sm 32 0 (.int a) := sm_int (by rw [e3]; omega)
  have s2 : Sm 32 0 (.int b) := sm_int (by rw [e3]; omega)
  have := sm_tup (L := 32) (d := 0) (xs := [.int a, .int b]) fun y hy => by
    rcases List.mem_cons.mp hy with rfl | hy
    · exact s1
    · rw [List.mem_singleton] at hy; rw [hy]; exact s2
  exact this.le (by show (32 + 2) * 2 + 3 ≤ 71; decide) (Nat.le_refl _)
def szN (a : Nat) : Nat → Nat
  | 0 => 3
  | n + 1 => a * (szN a n + 440)
theorem node_sm {nw wo qs st : Int} {rows : List D} (v : RowsV nw wo qs st (.tup rows)) (n5 : nw ≤ 5) (s6 : rows.length ≤ 6) (w1 : 1 ≤ wo) (w6 : wo ≤ 6) (q1 : 1 ≤ qs) : ∀ (n : Nat) (sps : List (List Fr)) (N M : Int), Sps rows nw N M sps → Bs N M n → Sm (szN (qs.toNat * wo.toNat) n) (3 * n + 2) (nodeS rows wo.toNat qs.toNat n sps)
  | 0, _, _, _, _, _ => (sm_tup (L := 0) (d := 1) (xs := []) fun x hx => (by cases hx)).le (Nat.le_refl _) (Nat.le_refl _)
  | n + 1, sps, N, M, sp, bs => by
    have bs' := bs_s bs
    have b0 := bs_0 bs'
    have m0 := bs'.2.1
    have hN := bs.1
    have hM := bs.2.1
    have bd : Bd (N * 60) (72 * M) := by
      have e1 : (60 : Int) ^ 4 ≤ 2 ^ 800 := by decide +kernel
      have e2 : (7200 : Int) ^ 4 ≤ 2 ^ 800 := by decide +kernel
      exact ⟨bs'.1, Int.le_trans b0.1 e1, m0, Int.le_trans b0.2 e2⟩
    have an : ∀ (q : Nat), (q : Int) < qs → ∀ a ∈ (List.range wo.toNat).filterMap (answ rows q sps (nodeS rows wo.toNat qs.toNat n)), Sm (szN (qs.toNat * wo.toNat) n + 420) (3 * n + 3) a := fun q hq a ha => by
      obtain ⟨word, hw, e⟩ := List.mem_filterMap.mp ha
      have lo : ∀ sp ∈ lat rows q word 0 sps, Lv (N * 60) (72 * M) rows.length sp := lat_ok hN hM v s6 hq sps 0 (by rw [Nat.zero_add, sp.1]; exact Int.le_refl _) sp.2
      have ih := node_sm v n5 s6 w1 w6 q1 n (lat rows q word 0 sps) (N * 60) (72 * M) ⟨by rw [lat_len]; exact sp.1, lo⟩ bs'
      unfold answ at e
      split at e
      · cases e
        have s1 : Sm 37 1 (.tup [.int (word : Nat)]) := by
          have wl := List.mem_range.mp hw
          exact (sm_tup (L := 32) (d := 0) (xs := [.int (word : Nat)]) fun y hy => by
            rw [List.mem_singleton] at hy; rw [hy]; exact sm_int (by omega)).le (by show (32 + 2) * 1 + 3 ≤ 37; decide) (Nat.le_refl _)
        have s2 : Sm 370 2 (.tup (((lat rows q word 0 sps).map sumI).map prD2)) := by
          refine (sm_tupN (L := 71) (d := 1) (n := 5) (by rw [List.length_map, List.length_map, lat_len]; have := sp.1; omega) fun y hy => ?_).le (by decide) (Nat.le_refl _)
          obtain ⟨z, hz, rfl⟩ := List.mem_map.mp hy
          obtain ⟨u, hu, rfl⟩ := List.mem_map.mp hz
          exact sm_wt bs'.1 b0.1 m0 b0.2 (sum_ok bd (by rw [(lo u hu).1]; omega) (lo u hu).2).2
        exact (sm_tup3 (d := 3 * n + 2) (s1.le (Nat.le_refl _) (by omega)) (s2.le (Nat.le_refl _) (by omega)) ih).le (by omega) (by omega)
      · cases e
    have qn : ∀ y ∈ (List.range qs.toNat).map fun q => questS rows wo.toNat q sps (nodeS rows wo.toNat qs.toNat n), Sm ((szN (qs.toNat * wo.toNat) n + 420 + 2) * wo.toNat + 3) (3 * n + 4) y := fun y hy => by
      obtain ⟨q, hq, rfl⟩ := List.mem_map.mp hy
      have hq := List.mem_range.mp hq
      refine sm_tupN ?_ (an q (by omega))
      have := List.length_filterMap_le (answ rows q sps (nodeS rows wo.toNat qs.toNat n)) (List.range wo.toNat)
      rw [List.length_range] at this; exact this
    have := sm_tup qn
    rw [List.length_map, List.length_range] at this
    refine this.le ?_ (by omega)
    show ((szN (qs.toNat * wo.toNat) n + 420 + 2) * wo.toNat + 3 + 2) * qs.toNat + 3 ≤ qs.toNat * wo.toNat * (szN (qs.toNat * wo.toNat) n + 440)
    generalize szN (qs.toNat * wo.toNat) n = S
    have w1' : 1 ≤ wo.toNat := by omega
    have q1' : 1 ≤ qs.toNat := by omega
    generalize wo.toNat = a at w1' ⊢
    generalize qs.toNat = b at q1' ⊢
    have h1 : ((S + 420 + 2) * a + 3 + 2) * b + 3 ≤ ((S + 440) * a) * b := by
      have e : (S + 440) * a = (S + 420 + 2) * a + 18 * a := by rw [← Nat.add_mul]
      generalize (S + 420 + 2) * a = X at e ⊢
      generalize (S + 440) * a = Y at e ⊢
      have h3 : (X + 3 + 2 + 3) * b ≤ Y * b := Nat.mul_le_mul_right _ (by omega)
      generalize X + 3 + 2 = V at h3 ⊢
      rw [Nat.add_mul] at h3
      omega
    rw [Nat.mul_comm b a, Nat.mul_comm (a * b), ← Nat.mul_assoc]
    exact h1
end K65

-- K65O
set_option Elab.async false
set_option linter.all false
set_option maxRecDepth 100000
set_option maxHeartbeats 4000000
/-! K65O: the machine all of whose words come. -/
namespace K65
open PySem PySem.Spec PyProof.Rows L2 PD PM
theorem sz_le {a : Nat} (h : 1 ≤ a) : ∀ n : Nat, (szN a n : Int) ≤ 443 * (n + 1) * pw a n
  | 0 => by show (3 : Int) ≤ 443 * (0 + 1) * 1; decide
  | n + 1 => by
    have ih := sz_le h n
    have p := pw_pos (a := (a : Int)) (by omega) n
    show ((a * (szN a n + 440) : Nat) : Int) ≤ 443 * (((n + 1 : Nat) : Int) + 1) * (a * pw a n)
    have e : (443 : Int) * (((n + 1 : Nat) : Int) + 1) * pw a n = 443 * (n + 1) * pw a n + 443 * pw a n := by
      rw [show (443 : Int) * (((n + 1 : Nat) : Int) + 1) = 443 * (n + 1) + 443 by omega, Int.add_mul]
    have h1 : ((szN a n + 440 : Nat) : Int) ≤ 443 * (((n + 1 : Nat) : Int) + 1) * pw a n := by rw [e]; omega
    have h2 : (a : Int) * ((szN a n + 440 : Nat) : Int) ≤ a * (443 * (((n + 1 : Nat) : Int) + 1) * pw a n) := Int.mul_le_mul_of_nonneg_left h1 (by omega)
    have e2 : (443 : Int) * (((n + 1 : Nat) : Int) + 1) * (a * pw a n) = a * (443 * (((n + 1 : Nat) : Int) + 1) * pw a n) := by rw [Int.mul_left_comm]
    rw [e2]
    push_cast at h2 ⊢
    exact h2
theorem sz_small {a : Nat} (h : 1 ≤ a) {n : Nat} (n4 : n ≤ 4) (l : pw a n < 70) : szN a n ≤ 155050 := by
  have h1 := sz_le h n
  have p := pw_pos (a := (a : Int)) (by omega) n
  have h2 : 443 * ((n : Int) + 1) * pw a n ≤ 443 * 5 * 70 := Int.mul_le_mul (by omega) (by omega) (by omega) (by decide)
  omega
def stpG (wo : Nat) : List D := (List.range wo).map fun i => .tup [.int (i : Nat), .tup [.int 1, .int (wo : Nat)], .int 0]
def rowsG (nw wo qs : Nat) : List D := [.tup (List.replicate qs (.tup (List.replicate nw (.tup (stpG wo)))))]
theorem great_eq {nw wo qs : Nat} : greatD nw wo qs = .tup (rowsG nw wo qs) := rfl
theorem at3G {nw wo qs q w' : Nat} (hq : q < qs) (hw : w' < nw) : at3 (rowsG nw wo qs) 0 q w' = stpG wo := by
  unfold at3 rowsG
  show tupL' ((tupL' ((List.replicate qs (D.tup (List.replicate nw (.tup (stpG wo))))).getD q .non)).getD w' .non) = _
  rw [getD_rep hq]
  show tupL' ((List.replicate nw (D.tup (stpG wo))).getD w' .non) = _
  rw [getD_rep hw]; rfl
theorem stepsG : ∀ wo : Nat, 1 ≤ wo → wo ≤ 6 → StepsV (wo : Nat) 1 (.tup (stpG wo))
  | 0, h, _ => absurd h (by decide)
  | 1, _, _ => ⟨_, rfl, by decide +kernel, fun s hs => by
    obtain ⟨i, _, rfl⟩ := List.mem_map.mp hs
    exact ⟨_, 1, 1, 0, rfl, by decide, by decide, ⟨60, rfl⟩⟩⟩
  | 2, _, _ => ⟨_, rfl, by decide +kernel, fun s hs => by
    obtain ⟨i, _, rfl⟩ := List.mem_map.mp hs
    exact ⟨_, 1, 2, 0, rfl, by decide, by decide, ⟨30, rfl⟩⟩⟩
  | 3, _, _ => ⟨_, rfl, by decide +kernel, fun s hs => by
    obtain ⟨i, _, rfl⟩ := List.mem_map.mp hs
    exact ⟨_, 1, 3, 0, rfl, by decide, by decide, ⟨20, rfl⟩⟩⟩
  | 4, _, _ => ⟨_, rfl, by decide +kernel, fun s hs => by
    obtain ⟨i, _, rfl⟩ := List.mem_map.mp hs
    exact ⟨_, 1, 4, 0, rfl, by decide, by decide, ⟨15, rfl⟩⟩⟩
  | 5, _, _ => ⟨_, rfl, by decide +kernel, fun s hs => by
    obtain ⟨i, _, rfl⟩ := List.mem_map.mp hs
    exact ⟨_, 1, 5, 0, rfl, by decide, by decide, ⟨12, rfl⟩⟩⟩
  | 6, _, _ => ⟨_, rfl, by decide +kernel, fun s hs => by
    obtain ⟨i, _, rfl⟩ := List.mem_map.mp hs
    exact ⟨_, 1, 6, 0, rfl, by decide, by decide, ⟨10, rfl⟩⟩⟩
  | n + 7, _, h => absurd h (by omega)
theorem rowsG_ok {nw wo qs : Nat} (w1 : 1 ≤ wo) (w6 : wo ≤ 6) : RowsV nw wo qs 1 (.tup (rowsG nw wo qs)) := by
  refine ⟨_, rfl, rfl, fun r hr => ?_⟩
  rw [rowsG, List.mem_singleton] at hr
  refine ⟨_, hr, by rw [List.length_replicate], fun y hy => ?_⟩
  refine ⟨_, (List.mem_replicate.mp hy).2, by rw [List.length_replicate], fun z hz => ?_⟩
  rw [(List.mem_replicate.mp hz).2]
  exact stepsG wo w1 w6
/-- the one standing behind a word -/
def nxtG (wo : Nat) (ch : Fr) : Fr := plusI (0, 1) (timesI ch (1, (wo : Nat)))
theorem foldG (ch : Fr) : ∀ wo word : Nat, wo ≤ 6 → word < wo → (stpG wo).foldl (behIn ch (word : Nat)) [(0, 1)] = [nxtG wo ch]
  | 0, _, _, h => absurd h (by omega)
  | 1, 0, _, _ => rfl
  | 2, 0, _, _ => rfl
  | 2, 1, _, _ => rfl
  | 3, 0, _, _ => rfl
  | 3, 1, _, _ => rfl
  | 3, 2, _, _ => rfl
  | 4, 0, _, _ => rfl
  | 4, 1, _, _ => rfl
  | 4, 2, _, _ => rfl
  | 4, 3, _, _ => rfl
  | 5, 0, _, _ => rfl
  | 5, 1, _, _ => rfl
  | 5, 2, _, _ => rfl
  | 5, 3, _, _ => rfl
  | 5, 4, _, _ => rfl
  | 6, 0, _, _ => rfl
  | 6, 1, _, _ => rfl
  | 6, 2, _, _ => rfl
  | 6, 3, _, _ => rfl
  | 6, 4, _, _ => rfl
  | 6, 5, _, _ => rfl
  | 1, m + 1, _, h => absurd h (by omega)
  | 2, m + 2, _, h => absurd h (by omega)
  | 3, m + 3, _, h => absurd h (by omega)
  | 4, m + 4, _, h => absurd h (by omega)
  | 5, m + 5, _, h => absurd h (by omega)
  | 6, m + 6, _, h => absurd h (by omega)
  | n + 7, _, h, _ => absurd h (by omega)
theorem latG {nw wo qs q word : Nat} {ch : Fr} (w6 : wo ≤ 6) (hq : q < qs) (hw : word < wo) (nz : ch ≠ (0, 1)) : ∀ (n i : Nat), i + n ≤ nw → lat (rowsG nw wo qs) q (word : Nat) i (List.replicate n [ch]) = List.replicate n [nxtG wo ch]
  | 0, _, _ => rfl
  | n + 1, i, l => by
    rw [List.replicate_succ, List.replicate_succ]
    show beh (rowsG nw wo qs) i q (word : Nat) [ch] :: lat _ q _ (i + 1) (List.replicate n [ch]) = _
    rw [latG w6 hq hw nz n (i + 1) (by omega)]
    congr 1
    show (if ch = (0, 1) then [(0, 1)] else (at3 (rowsG nw wo qs) 0 q i).foldl (behIn ch (word : Nat)) [(0, 1)]) = _
    rw [if_neg nz, at3G hq (by omega)]
    exact foldG ch wo word w6 hw
def okG (ch : Fr) : Prop := nrm ch ∧ val ch ≠ 0
theorem okG.nz {ch : Fr} (o : okG ch) : ch ≠ (0, 1) := fun e => o.2 (by rw [e]; exact val01)
theorem shG : ∀ wo : Nat, 1 ≤ wo → wo ≤ 6 → val (1, (wo : Int)) ≠ 0
  | 0, h, _ => absurd h (by decide)
  | 1, _, _ => by decide
  | 2, _, _ => by decide
  | 3, _, _ => by decide
  | 4, _, _ => by decide
  | 5, _, _ => by decide
  | 6, _, _ => by decide
  | n + 7, _, h => absurd h (by omega)
theorem okG.plus {x : Fr} (o : okG x) : okG (plusI (0, 1) x) := by
  obtain ⟨v, n⟩ := val_plus (x := (0, 1)) (y := x) (by decide) o.1.1
  refine ⟨n, ?_⟩
  rw [v, val01, Rat.zero_add]; exact o.2
theorem okG.next {wo : Nat} {ch : Fr} (w1 : 1 ≤ wo) (w6 : wo ≤ 6) (o : okG ch) : okG (nxtG wo ch) := by
  obtain ⟨v, n⟩ := val_times (x := ch) (y := (1, (wo : Int))) o.1.1 (by show (0 : Int) < wo; omega)
  refine okG.plus ⟨n, ?_⟩
  rw [v]
  exact fun e => by
    rcases Rat.mul_eq_zero.mp e with z | z
    · exact o.2 z
    · exact shG wo w1 w6 z
theorem cntG {nw wo qs : Nat} (n1 : 1 ≤ nw) (w1 : 1 ≤ wo) (w6 : wo ≤ 6) : ∀ (n : Nat) (ch : Fr), okG ch → cntN (rowsG nw wo qs) wo qs n (List.replicate nw [ch]) = tot ((qs : Int) * wo) n
  | 0, _, _ => rfl
  | n + 1, ch, o => by
    have h := sum_eq (L := List.range qs) (f := fun q => cntQ (rowsG nw wo qs) wo q (List.replicate nw [ch]) (cntN (rowsG nw wo qs) wo qs n)) (c := (wo : Int) * (1 + tot ((qs : Int) * wo) n)) fun q hq => by
      have hq := List.mem_range.mp hq
      have h2 := sum_eq (L := List.range wo) (f := cntA (rowsG nw wo qs) q (List.replicate nw [ch]) (cntN (rowsG nw wo qs) wo qs n)) (c := 1 + tot ((qs : Int) * wo) n) fun word hw => by
        have hw := List.mem_range.mp hw
        have o2 := o.next w1 w6
        unfold cntA
        rw [latG w6 hq hw o.nz nw 0 (by omega), cntG n1 w1 w6 n _ o2]
        refine if_pos ?_
        rw [List.map_replicate, List.any_eq_true]
        refine ⟨sumI [nxtG wo ch], List.mem_replicate.mpr ⟨by omega, rfl⟩, decide_eq_true ?_⟩
        exact (okG.plus o2).nz
      rw [List.length_range] at h2
      exact h2
    rw [List.length_range, ← Int.mul_assoc, tot_rec] at h
    exact h
theorem begG {nw wo qs : Nat} : begS (rowsG nw wo qs) (nw : Nat) = List.replicate nw [(1, 1)] := by
  unfold begS rowsG
  rw [show ((nw : Nat) : Int).toNat = nw by omega]; rfl
end K65

-- K65P
set_option Elab.async false
set_option linter.all false
set_option maxRecDepth 100000
set_option maxHeartbeats 4000000
/-! K65P: the loops of the law k65. -/
namespace K65
open PySem PySem.Spec PyProof.Rows L2 PD PM
section
variable {P : Program} {w : World} {K : PySem.W.Frag} {W : En → XD} {h : HD} {Q : DK} {Z : DE} {E : XD}
theorem rgF_app : ∀ n i : Nat, rgF i (n + 1) = rgF i n ++ [.int ((i + n : Nat) : Int)]
  | 0, i => rfl
  | n + 1, i => by
    show D.int (i : Nat) :: rgF (i + 1) (n + 1) = D.int (i : Nat) :: (rgF (i + 1) n ++ _)
    rw [rgF_app n (i + 1), show i + 1 + n = i + (n + 1) by omega]
theorem atI_m1 {xs : List D} {x : D} : atI (xs ++ [x]) (-1) = some x := by
  unfold atI ixN
  rw [if_neg (by decide), List.length_append, List.length_singleton, if_pos (by omega)]
  show (xs ++ [x])[(((xs.length + 1 : Nat) : Int) + (-1)).toNat]? = some x
  rw [show (((xs.length + 1 : Nat) : Int) + (-1)).toNat = xs.length by omega, List.getElem?_append_right (Nat.le_refl _), Nat.sub_self]; rfl
theorem bs4 : ∀ n : Nat, n ≤ 4 → Bs 1 1 n
  | 0, _ => ⟨by decide, by decide, by decide, by decide⟩
  | 1, _ => ⟨by decide, by decide, by decide, by decide⟩
  | 2, _ => ⟨by decide, by decide, by decide, by decide⟩
  | 3, _ => ⟨by decide, by decide, by decide, by decide⟩
  | 4, _ => ⟨by decide, by decide, by decide, by decide⟩
  | n + 5, l => absurd l (by omega)
abbrev cndW (P : Program) (w : World) : CT := cAnd (cT (cOp cLt (cCall (cLenA P w) (cCons (cVar 10) cNil)) (cC (.int 5)))) (cT (cOp cLt (cVar 11) (cC (.int 70))))
theorem wh_loop {a p : Addr} {b : Nat} {wo qs : Int} {h0 : HD} {o0 o1 o2 o3 o4 o5 o6 o7 o12 o13 o14 : Option D} (J : Hand h0 a b) (np : h0 p = none) (w1 : 1 ≤ wo) (w4 : wo ≤ 4) (q1 : 1 ≤ qs) (q3 : qs ≤ 3) : ∀ (f r : Nat) (h : HD), r + f = 4 → Hand h a b → ExB a h0 h → h p = some (.lst (rgF 0 (r + 1))) → (r = 0 ∨ pw (qs * wo) r < 70) →
    (∀ r o11 h', Hand h' a b → ExB a h0 h' → h' p = some (.lst (rgF 0 (r + 1))) → r ≤ 4 → (r = 0 ∨ pw (qs * wo) r < 70) → Z.nx [o0, o1, o2, o3, o4, o5, o6, o7, some (.int wo), some (.int qs), some (.ref p), o11, o12, o13, o14] h') →
    cWh (cndW P w) (b_law_1 P w K W) Z (f + 1) [o0, o1, o2, o3, o4, o5, o6, o7, some (.int wo), some (.int qs), some (.ref p), some (.int (pw (qs * wo) (r + 1))), o12, o13, o14] h := by
  intro f
  induction f with
  | zero =>
    intro r h e H x ep hr k
    obtain rfl : r = 4 := by omega
    refine .inl (.inl ⟨_, ep, ?_⟩)
    dsimp only [cLt, cC]
    refine ifB (fun c => by rw [rgF_len] at c; exact absurd (of_decide_eq_true c) (by decide)) fun _ => ?_
    exact k 4 _ h H x ep (by decide) hr
  | succ f ih =>
    intro r h e H x ep hr k
    refine .inl (.inl ⟨_, ep, ?_⟩)
    dsimp only [cLt, cC]
    refine ifB (fun _ => ?_) fun c => by rw [rgF_len] at c; exact absurd (of_decide_eq_false c) (by omega)
    show if decide (pw (qs * wo) (r + 1) < 70) = true then _ else _
    refine ifB (fun c => ?_) (fun c => ?_)
    · have c := of_decide_eq_true c
      have A1 : 1 * 1 ≤ qs * wo := Int.mul_le_mul q1 w1 (by decide) (by omega)
      have pp := pw_pos (a := qs * wo) (by omega) (r + 1)
      have pa := p10
      refine ⟨⟨p, _, rfl, ep⟩, .inl (.inl ⟨_, ep, _, ep, by rw [rgF_len, sizeLine_eq]; omega, ?_⟩)⟩
      have m0 : 0 ≤ pw (qs * wo) (r + 1) * wo := Int.mul_nonneg (by omega) (by omega)
      have m1 : pw (qs * wo) (r + 1) * wo ≤ 69 * 4 := Int.mul_le_mul (by omega) w4 (by omega) (by decide)
      refine ⟨small_mul 10 10 (by omega) (by omega) (by omega) (by omega) (by decide), small_mul 10 10 m0 (by omega) (by omega) (by omega) (by decide), ?_⟩
      have e1 : pw (qs * wo) (r + 1) * wo * qs = pw (qs * wo) (r + 1 + 1) := by
        show _ = qs * wo * pw (qs * wo) (r + 1)
        rw [Int.mul_assoc, Int.mul_comm wo qs, Int.mul_comm]
      rw [e1, rgF_len]
      have e2 : rgF 0 (r + 1) ++ [D.int ((r + 1 : Nat) : Int)] = rgF 0 (r + 1 + 1) := by rw [rgF_app (r + 1) 0, Nat.zero_add]
      rw [e2]
      exact ih (r + 1) _ (by omega) (Hand.put J np x H) (x.upd np) updD_same (.inr c) k
    · exact k r _ h H x ep (by omega) hr
theorem pw_ok {A : Int} {r n : Nat} (A1 : 1 ≤ A) (h : r = 0 ∨ pw A r < 70) (l : n ≤ r) : pw A n < 70 := by
  rcases h with rfl | h
  · obtain rfl : n = 0 := by omega
    show (1 : Int) < 70; decide
  · exact Int.lt_of_le_of_lt (pw_mono A1 n r l) h
theorem nb_loop {m a0 : Addr} {nw wo qs st : Int} {rows : List D} {hm : HD} {ok : HD → Prop} {o0 o1 o5 o6 o9 o10 o11 o13 o14 : Option D} (mc : Mac K hm m nw wo qs st rows) : ∀ (xs : List D) (o4 o12 : Option D) (h : HD), (∀ h', Ex h h' → ok h') → ExB a0 hm h → m ≠ a0 → (∀ x ∈ xs, ∃ n : Nat, x = .int (n : Nat) ∧ n ≤ 4 ∧ pw (qs * wo) n < 70) →
    (∀ o4 o12 h', Ex h h' → Z.nx [o0, o1, some (.tup rows), some (.ref m), o4, o5, o6, some (.int nw), some (.int wo), o9, o10, o11, o12, o13, o14] h') →
    cLoop ok (cName 4) (b_law_2 P w K W) Z xs [o0, o1, some (.tup rows), some (.ref m), o4, o5, o6, some (.int nw), some (.int wo), o9, o10, o11, o12, o13, o14] h
  | [], o4, o12, h, hok, x0, ma, hx, k => ⟨hok h (.refl h), k _ _ h (.refl h)⟩
  | x :: xs, o4, o12, h, hok, x0, ma, hx, k => by
    obtain ⟨n, rfl, n4, l⟩ := hx x (List.mem_cons_self ..)
    have m1 : Mac K h m nw wo qs st rows := by
      obtain ⟨⟨dx, e⟩, a, b, c, d, f, g, i, j, k⟩ := mc
      exact ⟨⟨dx, x0 _ _ ma e⟩, a, b, c, d, f, g, i, j, k⟩
    have ln := mac_len mc
    obtain ⟨_, v, n1, n5, w1, w6, q1, q4, s1, s6⟩ := id mc
    have A1 : 1 * 1 ≤ qs * wo := Int.mul_le_mul q1 w1 (by decide) (by omega)
    refine ⟨hok h (.refl h), lz rfl, ?_⟩
    refine ⟨rows, rfl, by omega, by omega, lz rfl, fun p1 np1 => ⟨_, updD_same, by omega, by omega, by show 1 ≤ 1000; decide, fun p2 np2 => ?_⟩⟩
    have x2 : Ex h (updD (updD h p1 (.lst [sprD ((1, 1) :: List.replicate (rows.length - 1) (0, 1))])) p2 (.lst (List.replicate nw.toNat [sprD ((1, 1) :: List.replicate (rows.length - 1) (0, 1))]).flatten)) := (Ex.new np1).new' np2
    refine ⟨n, n4, p2, nw, wo, qs, st, rows, begS rows nw, 1, 1, rfl, by rw [updD_same, beg_eq], v, n1, n5, w1, w6, q1, q4, s1, s6, beg_ok (st := st) (by omega) (by omega), bd4 n n4, by decide, by decide, fun h3 x3 => ?_⟩
    have x03 := x2.trans x3
    have le : cntN rows wo.toNat qs.toNat n (begS rows nw) ≤ 3000 := by
      have := cnt_le (rows := rows) (wo := wo.toNat) (qs := qs.toNat) n (begS rows nw)
      rw [show ((qs.toNat : Nat) : Int) = qs by omega, show ((wo.toNat : Nat) : Int) = wo by omega] at this
      exact Int.le_trans this (tot_small (by omega) n4 l)
    refine ⟨m, _, nw, wo, qs, st, rows, rfl, mac_exx m1 x03, .inl ⟨n, rfl, n4, fun _ h4 p4 x4 e4 => ⟨lz rfl, fun p5 np5 => ?_⟩, fun gt => absurd gt (by omega)⟩⟩
    have e4' := (Ex.new (o := .lst [.int nw, nodeS rows wo.toNat qs.toNat n (begS rows nw)]) np5) _ _ e4
    obtain ⟨y1, y2, d1, d2, ey, a1, a2, a3, a4, a5, a6, a7, a8, qq⟩ := is_sameL (Q := fun x _ => x = .bl true) (L := 155050) (d := 14) e4' updD_same (fun y hy => by
      rcases List.mem_cons.mp hy with rfl | hy
      · exact (sm_int (by have : (10 : Nat) ^ 31 = 10000000000000000000000000000000 := by decide
                          omega)).le (by decide) (by decide)
      · rw [List.mem_singleton] at hy
        rw [hy]
        refine (node_sm v n5 (by omega) w1 w6 q1 n (begS rows nw) 1 1 (beg_ok (st := st) (by omega) (by omega)) (bs4 n n4)).le ?_ (by omega)
        refine sz_small (Nat.le_trans (by decide) (Nat.mul_le_mul (show 1 ≤ qs.toNat by omega) (show 1 ≤ wo.toNat by omega))) n4 ?_
        push_cast
        rw [show ((qs.toNat : Nat) : Int) = qs by omega, show ((wo.toNat : Nat) : Int) = wo by omega]
        exact l) (by show (155050 + 2) * 2 + 3 ≤ 10000000; decide) (by decide) rfl
    refine ⟨y1, y2, d1, d2, ey, a1, a2, a3, a4, a5, a6, a7, a8, ?_⟩
    rw [D.bl.inj qq]
    have x05 := (x03.trans x4).new' (o := .lst [.int nw, nodeS rows wo.toNat qs.toNat n (begS rows nw)]) np5
    exact nb_loop mc xs _ _ _ (fun h' x' => hok h' (x05.trans x')) (x0.trans x05.b) ma (fun y hy => hx y (List.mem_cons_of_mem _ hy)) fun o4 o12 h' x' => k o4 o12 h' (x05.trans x')
/-- what is no number of rounds -/
def OddR (a m : Addr) (h : HD) (y : D) : Prop := inW y 0 4 = false ∧ (((∀ b, y ≠ .ref b) ∧ ∃ z, kd h y = some z) ∨ y = .ref m ∨ ∃ b, b ≠ a ∧ y = .ref b ∧ (h b = some (.lst []) ∨ h b = some (.dK [])))
theorem kd_flat {h h' : HD} {y : D} (n : ∀ b, y ≠ .ref b) : kd h' y = kd h y := by
  cases y with
  | ref b => exact absurd rfl (n b)
  | _ => rfl
theorem OddR.ex {a m : Addr} {h h' : HD} {y : D} (x : ExB a h h') (o : OddR a m h y) : OddR a m h' y := by
  obtain ⟨i, ⟨n, z, e⟩ | rfl | ⟨b, nb, rfl, e⟩⟩ := o
  · exact ⟨i, .inl ⟨n, z, by rw [kd_flat n (h := h)]; exact e⟩⟩
  · exact ⟨i, .inr (.inl rfl)⟩
  · exact ⟨i, .inr (.inr ⟨b, nb, rfl, e.imp (x _ _ nb) (x _ _ nb)⟩)⟩
theorem OddR.kd {a m : Addr} {h : HD} {y : D} (o : OddR a m h y) : (∃ z, PD.kd h y = some z) ∨ y = .ref m := by
  obtain ⟨i, ⟨n, z, e⟩ | rfl | ⟨b, nb, rfl, e | e⟩⟩ := o
  · exact .inl ⟨z, e⟩
  · exact .inr rfl
  · exact .inl ⟨.lst, by show (match h b with | some (.lst _) => some Kd.lst | some (.dK _) => some Kd.dct | some (.dT _) => some Kd.dct | _ => none) = _; rw [e]⟩
  · exact .inl ⟨.dct, by show (match h b with | some (.lst _) => some Kd.lst | some (.dK _) => some Kd.dct | some (.dT _) => some Kd.dct | _ => none) = _; rw [e]⟩
theorem od_loop {a m pl : Addr} {nw wo qs st : Int} {rows : List D} {odds : List D} {o0 o2 o4 o6 o7 o8 o9 o10 o11 o12 o13 : Option D} (ma : m ≠ a) (pa : pl ≠ a) (ne : odds ≠ []) (lo : odds.length ≤ 1000) : ∀ (xs acc : List D) (b : Nat) (h : HD), Mac K h m nw wo qs st rows → Hand h a b → b + xs.length ≤ 10 ^ 15 → h pl = some (.lst odds) → (∀ y ∈ odds, OddR a m h y) →
    (∀ h' p, ExB a h h' → Hand h' a (b + xs.length) → h' p = none → Q (.ref p) (updD h' p (.lst (acc ++ xs.map fun _ => D.bl false)))) →
    cLcGo (fun _ => True) (.one 14) cYes (cOp cNe (cFn (sp_l_told K) (fun _ => noX) (cCons (cVar 3) (cCons (cFn sp_l_any (fun _ => noX) (cCons (cVar 1) (cCons (cVar 5) cNil))) cNil))) (cC (.str "number"))) [o0, some (.ref a), o2, some (.ref m), o4, some (.ref pl), o6, o7, o8, o9, o10, o11, o12, o13, none] Q xs acc h
  | [], acc, b, h, mc, H, hb, ep, ho, k => ⟨trivial, fun p np => by have := k h p (.refl a h) H np; simpa using this⟩
  | x :: xs, acc, b, h, mc, H, hb, ep, ho, k => by
    rw [List.length_cons] at hb
    refine ⟨trivial, ?_⟩
    refine ⟨a, b, .ref pl, odds, rfl, H, by omega, ne, lo, .inr ⟨pl, rfl, pa, ep⟩, fun h1 y x1 H1 hy => ?_⟩
    have mc1 : Mac K h1 m nw wo qs st rows := by
      obtain ⟨⟨dx, e⟩, a, b, c, d, f, g, i, j, k⟩ := mc
      exact ⟨⟨dx, x1 _ _ ma e⟩, a, b, c, d, f, g, i, j, k⟩
    have oy := (ho y hy).ex x1
    refine ⟨m, y, nw, wo, qs, st, rows, rfl, mc1, .inr ⟨oy.1, oy.kd, fun h2 x2 => ?_⟩⟩
    refine ⟨⟨rfl, by decide +kernel⟩, ⟨rfl, by decide +kernel⟩, ?_⟩
    have X := x1.trans x2.b
    have := od_loop (o0 := o0) (o2 := o2) (o4 := o4) (o6 := o6) (o7 := o7) (o8 := o8) (o9 := o9) (o10 := o10) (o11 := o11) (o12 := o12) (o13 := o13) ma pa ne lo xs (acc ++ [.bl false]) (b + 1) h2 (mac_exx mc1 x2) (H1.ex x2) (by omega) (X _ _ pa ep) (fun z hz => (ho z hz).ex X) fun h' p x' H' np => by
      have := k h' p (X.trans x') (H'.le (by rw [List.length_cons]; omega)) np
      simpa using this
    rw [eqD_self]
    exact this
end
end K65

-- K65Q
set_option Elab.async false
set_option linter.all false
set_option maxRecDepth 100000
set_option maxHeartbeats 4000000
/-! K65Q: the plain law of k65. -/
namespace K65
open PySem PySem.Spec PyProof.Rows L2 PD PM
section
variable {P : Program} {w : World} {K : PySem.W.Frag} {W : En → XD} {h : HD} {Q : DK} {Z : DE} {E : XD}
/-- the sums of the powers, so far -/
def totL (A : Int) (n : Nat) : List D := (List.range n).map fun j => .int (tot A j)
theorem totL_s (A : Int) (n : Nat) : totL A (n + 1) = totL A n ++ [.int (tot A n)] := by
  unfold totL
  rw [List.range_succ, List.map_append]; rfl
theorem my_loop {a p : Addr} {b : Nat} {wo qs : Int} {h0 : HD} {o0 o1 o2 o3 o5 o6 o7 o10 o12 o14 : Option D} (J : Hand h0 a b) (np : h0 p = none) (w1 : 1 ≤ wo) (w6 : wo ≤ 6) (q1 : 1 ≤ qs) (q4 : qs ≤ 4) : ∀ (xs : List D) (i : Nat) (o4 : Option D) (h : HD), i + xs.length ≤ 4 → Hand h a b → ExB a h0 h → h p = some (.lst (totL (qs * wo) (i + 1))) →
    (∀ o4 o11 h', Hand h' a b → ExB a h0 h' → h' p = some (.lst (totL (qs * wo) (i + xs.length + 1))) → Z.nx [o0, o1, o2, o3, o4, o5, o6, o7, some (.int wo), some (.int qs), o10, o11, o12, some (.ref p), o14] h') →
    cLoop (fun _ => True) (cName 4) (b_law_3 P w K W) Z xs [o0, o1, o2, o3, o4, o5, o6, o7, some (.int wo), some (.int qs), o10, some (.int (pw (qs * wo) i)), o12, some (.ref p), o14] h
  | [], i, o4, h, hl, H, x, ep, k => ⟨trivial, k _ _ h H x ep⟩
  | y :: xs, i, o4, h, hl, H, x, ep, k => by
    rw [List.length_cons] at hl
    have A1 : 1 * 1 ≤ qs * wo := Int.mul_le_mul q1 w1 (by decide) (by omega)
    have A2 : qs * wo ≤ 4 * 6 := Int.mul_le_mul q4 w6 (by omega) (by decide)
    have pp := pw_pos (a := qs * wo) (by omega) i
    have pm := pw_mono (a := qs * wo) (by omega) i 3 (by omega)
    have p3 : pw (qs * wo) 3 ≤ 13824 := by
      show qs * wo * (qs * wo * (qs * wo * 1)) ≤ 13824
      generalize qs * wo = A at A1 A2 ⊢
      have h1 : A * (A * 1) ≤ 24 * 24 := Int.mul_le_mul (by omega) (by omega) (by omega) (by decide)
      have h2 : A * (A * (A * 1)) ≤ 24 * (24 * 24) := Int.mul_le_mul (by omega) h1 (by rw [Int.mul_one]; exact Int.mul_nonneg (by omega) (by omega)) (by decide)
      omega
    have pa : ((2 ^ 20 : Nat) : Int) = 1048576 := by decide
    have pb := p10
    have m0 : 0 ≤ pw (qs * wo) i * wo := Int.mul_nonneg (by omega) (by omega)
    have m1 : pw (qs * wo) i * wo ≤ 13824 * 6 := Int.mul_le_mul (by omega) w6 (by omega) (by decide)
    have e1 : pw (qs * wo) i * wo * qs = pw (qs * wo) (i + 1) := by
      show _ = qs * wo * pw (qs * wo) i
      rw [Int.mul_assoc, Int.mul_comm wo qs, Int.mul_comm]
    refine ⟨trivial, small_mul 20 10 (by omega) (by omega) (by omega) (by omega) (by decide), small_mul 20 10 m0 (by omega) (by omega) (by omega) (by decide), ?_⟩
    rw [e1]
    refine ⟨⟨p, _, rfl, ep⟩, .inl ⟨_, .int (tot (qs * wo) i), ep, by rw [totL_s]; exact atI_m1, _, ep, ?_, ?_⟩⟩
    · unfold totL; rw [List.length_map, List.length_range, sizeLine_eq]; omega
    have e2 : totL (qs * wo) (i + 1) ++ [.int (tot (qs * wo) i + pw (qs * wo) (i + 1))] = totL (qs * wo) (i + 1 + 1) := by rw [totL_s (qs * wo) (i + 1)]; rfl
    rw [e2]
    refine my_loop J np w1 w6 q1 q4 xs (i + 1) _ _ (by omega) (Hand.put J np x H) (x.upd np) updD_same fun o4 o11 h' H' x' e' => k o4 o11 h' H' x' ?_
    rw [List.length_cons, show i + (xs.length + 1) + 1 = i + 1 + xs.length + 1 by omega]; exact e'
theorem totL_at {A : Int} {m n : Nat} (l : n < m) : atI (totL A m) ((n : Nat) : Int) = some (.int (tot A n)) := by
  refine atI_nat ?_
  unfold totL
  rw [List.getElem?_map, List.getElem?_range l]; rfl
theorem fn_loop {g p : Addr} {nw wo qs : Int} {o0 o1 o2 o3 o5 o7 o8 o9 o10 o11 o12 o14 : Option D} : ∀ (ns : List Nat) (acc : List Bool) (h : HD), (∀ n ∈ ns, n ≤ 4) → Mac K h g nw wo qs 1 (rowsG nw.toNat wo.toNat qs.toNat) → h p = some (.lst (totL (qs * wo) 5)) → acc.all id = true →
    (∀ (h' : HD) (q : Addr) (L : List Bool), Ex h h' → h' q = none → L.all id = true → Q (.ref q) (updD h' q (.lst (L.map D.bl)))) →
    cLcGo (fun _ => True) (.one 4) (cT (cOp cGt (cOp (cIxA P w) (cVar 13) (cVar 4)) (cC (.int 3000)))) (cOp cEqS (cFn (sp_l_told K) (fun _ => noX) (cCons (cVar 6) (cCons (cVar 4) cNil))) (cC (.str "large"))) [o0, o1, o2, o3, none, o5, some (.ref g), o7, o8, o9, o10, o11, o12, some (.ref p), o14] Q (ns.map fun n => D.int (n : Nat)) (acc.map D.bl) h
  | [], acc, h, hn, mc, ep, ha, k => ⟨trivial, fun q nq => k h q acc (.refl h) nq ha⟩
  | n :: ns, acc, h, hn, mc, ep, ha, k => by
    have n4 := hn n (List.mem_cons_self ..)
    refine ⟨trivial, .inl ⟨_, _, ep, totL_at (by omega), trivial, ?_⟩⟩
    refine ifB (c := decide ((3000 : Int) < tot (qs * wo) n)) (fun c => ?_) (fun c => ?_)
    · have c := of_decide_eq_true c
      have n1 := mc.n1
      have w1 := mc.w1
      have w6 := mc.w6
      have q1 := mc.q1
      have ec : cntN (rowsG nw.toNat wo.toNat qs.toNat) wo.toNat qs.toNat n (begS (rowsG nw.toNat wo.toNat qs.toNat) nw) = tot (qs * wo) n := by
        rw [show begS (rowsG nw.toNat wo.toNat qs.toNat) nw = List.replicate nw.toNat [(1, 1)] from rfl]
        have := cntG (nw := nw.toNat) (wo := wo.toNat) (qs := qs.toNat) (by omega) (by omega) (by omega) n (1, 1) ⟨nrm11, by decide⟩
        rw [show ((qs.toNat : Nat) : Int) = qs by omega, show ((wo.toNat : Nat) : Int) = wo by omega] at this
        exact this
      refine ⟨g, _, _, _, _, _, _, rfl, mc, .inl ⟨n, rfl, n4, fun le => absurd le (by rw [ec]; omega), fun _ h' x' => ?_⟩⟩
      have := fn_loop (o0 := o0) (o1 := o1) (o2 := o2) (o3 := o3) (o5 := o5) (o7 := o7) (o8 := o8) (o9 := o9) (o10 := o10) (o11 := o11) (o12 := o12) (o14 := o14) ns (acc ++ [true]) h' (fun z hz => hn z (List.mem_cons_of_mem _ hz)) (mac_exx mc x') (x' _ _ ep) (by rw [List.all_append, ha]; rfl) fun h2 q L x2 => k h2 q L (x'.trans x2)
      show cLcGo _ _ _ _ _ _ _ (acc.map D.bl ++ [D.bl (decide ((("large" : Str)) = "large"))]) h'
      rw [decide_eq_true rfl]
      simpa using this
    · exact fn_loop (o0 := o0) (o1 := o1) (o2 := o2) (o3 := o3) (o5 := o5) (o7 := o7) (o8 := o8) (o9 := o9) (o10 := o10) (o11 := o11) (o12 := o12) (o14 := o14) ns acc h (fun z hz => hn z (List.mem_cons_of_mem _ hz)) mc ep ha k
theorem knG {a : Addr} {nw wo qs : Nat} (w6 : wo ≤ 6) : Kn a N30 h (.tup (rowsG nw wo qs)) := by
  have n30 : N30 = 1000000000000000000000000000000 := rfl
  refine ⟨?_, trivial⟩
  refine KnA.repl (x := .tup (List.replicate nw (.tup (stpG wo)))) (KnA.repl (x := .tup (stpG wo)) (KnA.all.mpr fun y hy => ?_))
  obtain ⟨i, hi, rfl⟩ := List.mem_map.mp hy
  have hi := List.mem_range.mp hi
  exact ⟨⟨by rw [n30]; omega, by rw [n30]; omega⟩, ⟨⟨by decide, by decide⟩, ⟨by rw [n30]; omega, by rw [n30]; omega⟩, trivial⟩, ⟨by decide, by decide⟩, trivial⟩
theorem p_law (ds : List D) (h : HD) (Q : DK) (E : XD) (hs : sp_law ds h Q E) : t_law P w K (fun _ => noX) { nx := fun _ h' => Q .non h', rt := Q } (startD N_law ds) h := by
  obtain ⟨ns, rfl, hl, _, q⟩ := hs
  refine ⟨ns, rfl, hl, fun h1 a x1 na H1 => ?_⟩
  refine ⟨a, 0, 3, rfl, H1, by decide, by decide, lg (by decide) (by decide), fun h2 i x2 H2 i0 i1 => ?_⟩
  refine ⟨a, _, 4, rfl, H2, by decide, by decide, lg (by decide) (by decide), fun h3 j x3 H3 j0 j1 => ?_⟩
  refine ⟨a, _, 3, rfl, H3, by decide, by decide, lg (by decide) (by decide), fun h4 k x4 H4 k0 k1 => ?_⟩
  refine ⟨a, _, 4, rfl, H4, by decide, by decide, lg (by decide) (by decide), fun h5 s x5 H5 s0 s1 => ?_⟩
  refine ⟨a, _, 1 + i, 1 + j, 1 + k, 1 + s, rfl, H5, by decide, by omega, by omega, by omega, by omega, by omega, by omega, by omega, by omega, fun h6 rows x6 H6 k6 v6 => ?_⟩
  obtain ⟨rs, rfl, lr, vr⟩ := id v6
  intro m dm nm nd ne
  have n30 : N30 = 1000000000000000000000000000000 := rfl
  have x0 : Ex h6 (updD h6 m (.ins (He.ga K "Machine") dm [])) := .new nm
  refine ⟨a, m, _, dm, .int (1 + i), .int (1 + j), .tup rs, rfl, rfl, updD_same, ⟨by rw [n30]; omega, by rw [n30]; omega⟩, ⟨by rw [n30]; omega, by rw [n30]; omega⟩, Kn.ex x0.b (Kn.le (by decide) k6), fun h7 x7 => ?_⟩
  rw [rows_due (qs := 1 + k) (st := 1 + s) (by omega) (by omega) (by omega) (by omega) (by omega) (by omega) (by omega) (by omega) v6]
  refine fun e7 => ⟨rfl, ?_⟩
  have x67 : Ex h6 h7 := fun b o e => by
    have nb : b ≠ m := fun z => by rw [z, nm] at e; cases e
    exact x7 b o nb (x0 b o e)
  have H7 := H6.ex x67
  have ma : m ≠ a := ne_fresh H6.ne nm
  have mc : Mac K h7 m (1 + i) (1 + j) (1 + k) (1 + s) rs := ⟨⟨dm, e7⟩, v6, by omega, by omega, by omega, by omega, by omega, by omega, by omega, by omega⟩
  show cSeq _ _ _ [some (.fl (ns.map D.int)), some (.ref a), some (.tup rs), some (.ref m), none, none, none, some (.int (1 + i)), some (.int (1 + j)), some (.int (1 + k)), none, none, none, none, none] h7
  have pa := p10
  refine ⟨lz rfl, fun p np => ⟨small_mul 10 10 (by omega) (by omega) (by omega) (by omega) (by decide), ?_⟩⟩
  dsimp only [cNil, List.set]
  rw [show (1 + j) * (1 + k) = pw ((1 + k) * (1 + j)) (0 + 1) by show _ = (1 + k) * (1 + j) * 1; rw [Int.mul_one, Int.mul_comm]]
  have A1 : 1 * 1 ≤ (1 + k) * (1 + j) := Int.mul_le_mul (by omega) (by omega) (by decide) (by omega)
  have pn : p ≠ a := ne_fresh H7.ne np
  refine ⟨5, ?_⟩
  refine wh_loop H7 np (by omega) (by omega) (by omega) (by omega) 4 0 _ rfl (H7.ex (Ex.new np)) (Ex.new np).b updD_same (.inl rfl) fun r o11 h8 H8 x8 ep r4 hr => ?_
  refine .inl ⟨a, _, .ref p, rgF 0 (r + 1), rfl, H8, by decide, by rw [rgF_app]; simp, by rw [rgF_len]; omega, .inr ⟨p, rfl, pn, ep⟩, fun h9 y x9 H9 hy => ?_⟩
  have ep9 := x9 _ _ pn ep
  refine .inl ⟨_, .int (r : Nat), ep9, by rw [rgF_app, Nat.zero_add]; exact atI_m1, lz rfl, fun pl npl => ⟨_, updD_same, ?_⟩⟩
  have x79 : ExB a h7 (updD h9 pl (.lst [.int 0, y, .int (r : Nat)])) := (x8.trans x9).trans (Ex.new npl).b
  refine nb_loop (a0 := a) mc _ _ _ _ (fun h' x' => x' _ _ updD_same) x79 ma (fun z hz => ?_) fun o4 o12 h10 x10 => ?_
  · have hz : z = .int ((0 : Nat) : Int) ∨ z = y ∨ z = .int (r : Nat) := by simpa using hz
    rcases hz with rfl | rfl | rfl
    · exact ⟨0, rfl, by decide, pw_ok (r := r) (by omega) hr (by omega)⟩
    · obtain ⟨n, rfl, _, l⟩ := rgF_mem hy
      exact ⟨n, rfl, by omega, pw_ok (r := r) (by omega) hr (by omega)⟩
    · exact ⟨r, rfl, r4, pw_ok (r := r) (by omega) hr (by omega)⟩
  have H10 := (H9.ex (Ex.new (o := .lst [.int 0, y, .int (r : Nat)]) npl)).ex x10
  have x710 := x79.trans x10.b
  have mc10 : Mac K h10 m (1 + i) (1 + j) (1 + k) (1 + s) rs := by
    obtain ⟨⟨dx, e⟩, a, b, c, d, f, g, i, j, k⟩ := mc
    exact ⟨⟨dx, x710 _ _ ma e⟩, a, b, c, d, f, g, i, j, k⟩
  refine ⟨lz rfl, lz rfl, fun p1 np1 => ⟨⟨by decide, by decide, by decide⟩, fun p2 np2 => ⟨lz rfl, fun po npo => ?_⟩⟩⟩
  have y1 := Ex.new (o := .lst []) np1
  have y2 := y1.new' (o := .dK []) np2
  have ha := H10.ne
  have n1 : p1 ≠ a := ne_fresh ha np1
  have n2 : p2 ≠ a := ne_fresh (upd_some np1 ha) np2
  have H12 := H10.ex y2
  have n3 : po ≠ a := ne_fresh H12.ne npo
  have y3 := Ex.new (h := updD (updD h10 p1 (.lst [])) p2 (.dK [])) (o := .lst [.int 5, .int (-1), .bl true, .bl false, .non, .str "1", .tup [.int 1], .ref p1, .int (10 ^ (29 : Int).toNat), .ref p2, .ref m]) npo
  refine ⟨by decide, by decide, ?_⟩
  refine ⟨by rw [rgD_len, sizeLine_eq]; decide, ?_⟩
  refine od_loop ma n3 (by simp) (by show 11 ≤ 1000; decide) (rgD 0 (4 : Int).toNat) [] _ _ (mac_exx mc10 (y2.trans y3)) (H12.ex y3) (by rw [rgD_len]; decide) updD_same (fun z hz => ?_) fun h13 p13 x13 H13 np13 => ?_
  · have c1 : ∀ b, OddR a m b = OddR a m b := fun _ => rfl
    have e1 : OddR a m (updD (updD (updD h10 p1 (.lst [])) p2 (.dK [])) po (.lst [.int 5, .int (-1), .bl true, .bl false, .non, .str "1", .tup [.int 1], .ref p1, .int (10 ^ (29 : Int).toNat), .ref p2, .ref m])) (.ref p1) := ⟨rfl, .inr (.inr ⟨p1, n1, rfl, .inl (y3 _ _ ((Ex.new np2) _ _ updD_same))⟩)⟩
    have e2 : OddR a m (updD (updD (updD h10 p1 (.lst [])) p2 (.dK [])) po (.lst [.int 5, .int (-1), .bl true, .bl false, .non, .str "1", .tup [.int 1], .ref p1, .int (10 ^ (29 : Int).toNat), .ref p2, .ref m])) (.ref p2) := ⟨rfl, .inr (.inr ⟨p2, n2, rfl, .inr (y3 _ _ updD_same)⟩)⟩
    simp only [List.mem_cons, List.not_mem_nil, or_false] at hz
    rcases hz with rfl | rfl | rfl | rfl | rfl | rfl | rfl | rfl | rfl | rfl | rfl
    · exact ⟨rfl, .inl ⟨fun _ => nofun, _, rfl⟩⟩
    · exact ⟨rfl, .inl ⟨fun _ => nofun, _, rfl⟩⟩
    · exact ⟨rfl, .inl ⟨fun _ => nofun, _, rfl⟩⟩
    · exact ⟨rfl, .inl ⟨fun _ => nofun, _, rfl⟩⟩
    · exact ⟨rfl, .inl ⟨fun _ => nofun, _, rfl⟩⟩
    · exact ⟨rfl, .inl ⟨fun _ => nofun, _, rfl⟩⟩
    · exact ⟨rfl, .inl ⟨fun _ => nofun, _, rfl⟩⟩
    · exact e1
    · exact ⟨by decide, .inl ⟨fun _ => nofun, _, rfl⟩⟩
    · exact e2
    · exact ⟨rfl, .inr (.inl rfl)⟩
  refine ⟨([] ++ (rgD 0 (4 : Int).toNat).map fun _ => false), by rw [updD_same, List.nil_append, List.nil_append, List.map_map]; rfl, ?_⟩
  dsimp only
  refine ifB (fun c => absurd c (by decide)) fun _ => ?_
  have H14 := H13.ex (Ex.new (o := .lst ([] ++ (rgD 0 (4 : Int).toNat).map fun _ => D.bl false)) np13)
  refine ⟨a, _, 4, rfl, H14, by rw [rgD_len]; decide, by decide, lg (by decide) (by decide), fun h15 d x15 H15 d0 d1 => ⟨trivial, ?_⟩⟩
  refine ifB (c := decide ((0 : Int) < d)) (fun _ => q _) fun _ => ?_
  refine ⟨a, _, 3, rfl, H15, by rw [rgD_len]; decide, by decide, lg (by decide) (by decide), fun h16 u x16 H16 u0 u1 => ?_⟩
  refine ⟨a, _, 3, rfl, H16, by rw [rgD_len]; decide, by decide, lg (by decide) (by decide), fun h17 v x17 H17 v0 v1 => ?_⟩
  refine ⟨a, 1 + i, 4 + u, 2 + v, rfl, by omega, by omega, by omega, by omega, by omega, by omega, fun h18 x18 => ?_⟩
  intro g dg ng ngd nge
  have x180 : Ex h18 (updD h18 g (.ins (He.ga K "Machine") dg [])) := .new ng
  have vG : RowsV (1 + i) (4 + u) (2 + v) 1 (.tup (rowsG (1 + i).toNat (4 + u).toNat (2 + v).toNat)) := by
    have := rowsG_ok (nw := (1 + i).toNat) (wo := (4 + u).toNat) (qs := (2 + v).toNat) (by omega) (by omega)
    rw [show (((1 + i).toNat : Nat) : Int) = 1 + i by omega, show (((4 + u).toNat : Nat) : Int) = 4 + u by omega, show (((2 + v).toNat : Nat) : Int) = 2 + v by omega] at this
    exact this
  refine ⟨a, g, _, dg, .int (1 + i), .int (4 + u), .tup (rowsG (1 + i).toNat (4 + u).toNat (2 + v).toNat), rfl, rfl, updD_same, ⟨by rw [n30]; omega, by rw [n30]; omega⟩, ⟨by rw [n30]; omega, by rw [n30]; omega⟩, knG (by omega), fun h19 x19 => ?_⟩
  rw [rows_due (qs := 2 + v) (st := 1) (by omega) (by omega) (by omega) (by omega) (by omega) (by omega) (by omega) (by omega) vG]
  refine fun e19 => ⟨rfl, ?_⟩
  have x189 : Ex h18 h19 := fun b o e => by
    have nb : b ≠ g := fun z => by rw [z, ng] at e; cases e
    exact x19 b o nb (x180 b o e)
  have H18 := H17.ex x18
  have H19 := H18.ex x189
  have ga : g ≠ a := ne_fresh H18.ne ng
  have mg : Mac K h19 g (1 + i) (4 + u) (2 + v) 1 (rowsG (1 + i).toNat (4 + u).toNat (2 + v).toNat) := ⟨⟨dg, e19⟩, vG, by omega, by omega, by omega, by omega, by omega, by omega, by omega, by omega⟩
  refine ⟨lz rfl, fun pm npm => ⟨lz rfl, rfl, rfl, ?_⟩⟩
  refine ⟨by decide, by decide, ?_⟩
  have pma : pm ≠ a := ne_fresh H19.ne npm
  refine my_loop H19 npm (by omega) (by omega) (by omega) (by omega) (rgD 0 (4 : Int).toNat) 0 none _ (by rw [rgD_len]; decide) (H19.ex (Ex.new npm)) (Ex.new npm).b updD_same fun o4 o11 h20 H20 x20 e20 => ?_
  refine .inl ⟨lz rfl, lz rfl, ?_⟩
  have mg20 : Mac K h20 g (1 + i) (4 + u) (2 + v) 1 (rowsG (1 + i).toNat (4 + u).toNat (2 + v).toNat) := by
    obtain ⟨⟨dx, e⟩, a1, b1, c1, d1, f1, g1, i1, j1, k1⟩ := mg
    exact ⟨⟨dx, x20 _ _ ga e⟩, a1, b1, c1, d1, f1, g1, i1, j1, k1⟩
  refine fn_loop [4, 3] [] h20 (by decide) mg20 e20 rfl fun h' pq L x' nq hL => ?_
  refine ⟨L, updD_same, ?_⟩
  show Q (.bl (L.all id)) _
  rw [hL]
  exact q _
end
end K65

-- PdY
set_option Elab.async false
set_option linter.all false
set_option maxRecDepth 100000
set_option maxHeartbeats 4000000
/-! PdY: defs that keep one of some contracts. -/
namespace PD
open PySem PySem.Spec PyProof.Rows L2
theorem gf_ex {P : Program} {w : World} {K : PySem.W.Frag} {mg : Str → Option Value} {base : Heap} {k : Nat} {f : Addr} {fd : FuncData} {ps : List Str} {N : Nat} {sp : Nat → SpD} (F : ∀ n, n ≤ N → GF P w K mg base k f fd ps (sp n)) : GF P w K mg base k f fd ps (fun ds h Q E => ∃ n, n ≤ N ∧ sp n ds h Q E) :=
  ⟨fun ds h Q E ⟨n, l, q⟩ => (F n l).len _ _ _ _ q, fun A outer s H args us vs Q E hr hg he hb hv ⟨ds, h, Q', E', a, b, ⟨n, l, c⟩, d, e⟩ => (F n l).run A outer s H args us vs Q E hr hg he hb hv ⟨ds, h, Q', E', a, b, c, d, e⟩⟩
end PD

-- K65E
set_option Elab.async false
set_option linter.all false
set_option maxRecDepth 100000
set_option maxHeartbeats 0
/-! printed by gend.py: the law's end -/
namespace K65
open PySem PySem.Spec PyProof.Rows L2 PD PM
def d_is_integer : He.DefD := ⟨("is_integer", none), "is_integer", "is_integer", defArgs s_is_integer, defBody s_is_integer, defScope s_is_integer, [], []⟩
def d_is_within : He.DefD := ⟨("is_within", none), "is_within", "is_within", defArgs s_is_within, defBody s_is_within, defScope s_is_within, [], []⟩
def d_is_sized : He.DefD := ⟨("is_sized", none), "is_sized", "is_sized", defArgs s_is_sized, defBody s_is_sized, defScope s_is_sized, [], []⟩
def d_is_pair : He.DefD := ⟨("is_pair", none), "is_pair", "is_pair", defArgs s_is_pair, defBody s_is_pair, defScope s_is_pair, [], []⟩
def d_is_triple : He.DefD := ⟨("is_triple", none), "is_triple", "is_triple", defArgs s_is_triple, defBody s_is_triple, defScope s_is_triple, [], []⟩
def d_divisor : He.DefD := ⟨("divisor", none), "divisor", "divisor", defArgs s_divisor, defBody s_divisor, defScope s_divisor, [], []⟩
def d_lowest : He.DefD := ⟨("lowest", none), "lowest", "lowest", defArgs s_lowest, defBody s_lowest, defScope s_lowest, [], []⟩
def d_plus : He.DefD := ⟨("plus", none), "plus", "plus", defArgs s_plus, defBody s_plus, defScope s_plus, [], []⟩
def d_total : He.DefD := ⟨("total", none), "total", "total", defArgs s_total, defBody s_total, defScope s_total, [], []⟩
def d_is_fraction : He.DefD := ⟨("is_fraction", none), "is_fraction", "is_fraction", defArgs s_is_fraction, defBody s_is_fraction, defScope s_is_fraction, [], []⟩
def d_is_share : He.DefD := ⟨("is_share", none), "is_share", "is_share", defArgs s_is_share, defBody s_is_share, defScope s_is_share, [], []⟩
def d_are_shares : He.DefD := ⟨("are_shares", none), "are_shares", "are_shares", defArgs s_are_shares, defBody s_are_shares, defScope s_are_shares, [], []⟩
def d_l_hand : He.DefD := ⟨("_law_hand", none), "_law_hand", "_law_hand", defArgs s_l_hand, defBody s_l_hand, defScope s_l_hand, [], []⟩
def d_l_draw : He.DefD := ⟨("_law_draw", none), "_law_draw", "_law_draw", defArgs s_l_draw, defBody s_l_draw, defScope s_l_draw, [], []⟩
def d_l_any : He.DefD := ⟨("_law_any", none), "_law_any", "_law_any", defArgs s_l_any, defBody s_l_any, defScope s_l_any, [], []⟩
def d_l_is : He.DefD := ⟨("_law_is", none), "_law_is", "_law_is", defArgs s_l_is, defBody s_l_is, defScope s_l_is, [], []⟩
def d_l_low : He.DefD := ⟨("_law_low", none), "_law_low", "_law_low", defArgs s_l_low, defBody s_l_low, defScope s_l_low, [], []⟩
def d_l_plus : He.DefD := ⟨("_law_plus", none), "_law_plus", "_law_plus", defArgs s_l_plus, defBody s_l_plus, defScope s_l_plus, [], []⟩
def d_l_sum : He.DefD := ⟨("_law_sum", none), "_law_sum", "_law_sum", defArgs s_l_sum, defBody s_l_sum, defScope s_l_sum, [], []⟩
def d_are_rows : He.DefD := ⟨("are_rows", none), "are_rows", "are_rows", defArgs s_are_rows, defBody s_are_rows, defScope s_are_rows, [], []⟩
def d_is_step : He.DefD := ⟨("is_step", none), "is_step", "is_step", defArgs s_is_step, defBody s_is_step, defScope s_is_step, [], []⟩
def d_are_steps : He.DefD := ⟨("are_steps", none), "are_steps", "are_steps", defArgs s_are_steps, defBody s_are_steps, defScope s_are_steps, [], []⟩
def d_check_rows : He.DefD := ⟨("check_rows", none), "check_rows", "check_rows", defArgs s_check_rows, defBody s_check_rows, defScope s_check_rows, [], []⟩
def d_Machine_init : He.DefD := ⟨("Machine", some "__init__"), "__init__", "Machine.__init__", defArgs s_Machine_init, defBody s_Machine_init, defScope s_Machine_init, [], []⟩
def d_l_steps : He.DefD := ⟨("_law_steps", none), "_law_steps", "_law_steps", defArgs s_l_steps, defBody s_l_steps, defScope s_l_steps, [], []⟩
def d_l_rows : He.DefD := ⟨("_law_rows", none), "_law_rows", "_law_rows", defArgs s_l_rows, defBody s_l_rows, defScope s_l_rows, [], []⟩
def d_times : He.DefD := ⟨("times", none), "times", "times", defArgs s_times, defBody s_times, defScope s_times, [], []⟩
def d_l_times : He.DefD := ⟨("_law_times", none), "_law_times", "_law_times", defArgs s_l_times, defBody s_l_times, defScope s_l_times, [], []⟩
def d_many_asked : He.DefD := ⟨("many_asked", none), "many_asked", "many_asked", defArgs s_many_asked, defBody s_many_asked, defScope s_many_asked, [], []⟩
def d_first_spread : He.DefD := ⟨("first_spread", none), "first_spread", "first_spread", defArgs s_first_spread, defBody s_first_spread, defScope s_first_spread, [], []⟩
def d_spread_behind : He.DefD := ⟨("spread_behind", none), "spread_behind", "spread_behind", defArgs s_spread_behind, defBody s_spread_behind, defScope s_spread_behind, [], []⟩
def d_spreads_behind : He.DefD := ⟨("spreads_behind", none), "spreads_behind", "spreads_behind", defArgs s_spreads_behind, defBody s_spreads_behind, defScope s_spreads_behind, [], []⟩
def d_l_behind : He.DefD := ⟨("_law_behind", none), "_law_behind", "_law_behind", defArgs s_l_behind, defBody s_l_behind, defScope s_l_behind, [], []⟩
def d_l_first : He.DefD := ⟨("_law_first", none), "_law_first", "_law_first", defArgs s_l_first, defBody s_l_first, defScope s_l_first, [], []⟩
def d_count_answers : He.DefD := ⟨("count_answers", none), "count_answers", "count_answers", defArgs s_count_answers, defBody s_count_answers, defScope s_count_answers, [], []⟩
def d_most_rounds : He.DefD := ⟨("most_rounds", none), "most_rounds", "most_rounds", defArgs s_most_rounds, defBody s_most_rounds, defScope s_most_rounds, [], []⟩
def d_check_number : He.DefD := ⟨("check_number", none), "check_number", "check_number", defArgs s_check_number, defBody s_check_number, defScope s_check_number, [], []⟩
def d_RawHouse_init : He.DefD := ⟨("RawHouse", some "__init__"), "__init__", "RawHouse.__init__", defArgs s_RawHouse_init, defBody s_RawHouse_init, defScope s_RawHouse_init, [], []⟩
def d_made : He.DefD := ⟨("made", none), "made", "made", defArgs s_made, defBody s_made, defScope s_made, [], []⟩
def d_Rounds_init : He.DefD := ⟨("Rounds", some "__init__"), "__init__", "Rounds.__init__", defArgs s_Rounds_init, defBody s_Rounds_init, defScope s_Rounds_init, [], []⟩
def d_Rounds_question : He.DefD := ⟨("Rounds", some "question"), "question", "Rounds.question", defArgs s_Rounds_question, defBody s_Rounds_question, defScope s_Rounds_question, [], []⟩
def d_Rounds_node : He.DefD := ⟨("Rounds", some "node"), "node", "Rounds.node", defArgs s_Rounds_node, defBody s_Rounds_node, defScope s_Rounds_node, [], []⟩
def d_first_rounds : He.DefD := ⟨("first_rounds", none), "first_rounds", "first_rounds", defArgs s_first_rounds, defBody s_first_rounds, defScope s_first_rounds, [], []⟩
def d_l_node : He.DefD := ⟨("_law_node", none), "_law_node", "_law_node", defArgs s_l_node, defBody s_l_node, defScope s_l_node, [], []⟩
def d_l_great : He.DefD := ⟨("_law_great", none), "_law_great", "_law_great", defArgs s_l_great, defBody s_l_great, defScope s_l_great, [], []⟩
def d_l_told : He.DefD := ⟨("_law_told", none), "_law_told", "_law_told", defArgs s_l_told, defBody s_l_told, defScope s_l_told, [], []⟩
def d_law : He.DefD := ⟨("law", none), "law", "law", defArgs s_law, defBody s_law, defScope s_law, [], []⟩
abbrev s_BadMachine_init : Stmt := inCls (atS PySem.Challenge.pw_tellsless_k65_whole_first_rounds_of_mach 5) 0
def d_BadMachine_init : He.DefD := ⟨("BadMachine", some "__init__"), "__init__", "BadMachine.__init__", defArgs s_BadMachine_init, defBody s_BadMachine_init, defScope s_BadMachine_init, [], []⟩
def fn : List He.DefD := [d_is_integer, d_is_within, d_is_sized, d_is_pair, d_is_triple, d_divisor, d_lowest, d_plus, d_total, d_is_fraction, d_is_share, d_are_shares, d_l_hand, d_l_draw, d_l_any, d_l_is, d_l_low, d_l_plus, d_l_sum, d_are_rows, d_is_step, d_are_steps, d_check_rows, d_Machine_init, d_l_steps, d_l_rows, d_times, d_l_times, d_many_asked, d_first_spread] ++ ([d_spread_behind, d_spreads_behind, d_l_behind, d_l_first, d_count_answers, d_most_rounds, d_check_number, d_RawHouse_init, d_made, d_Rounds_init, d_Rounds_question, d_Rounds_node, d_first_rounds, d_l_node, d_l_great, d_l_told, d_law, d_BadMachine_init])
def fa : List He.Fa := libNames.map He.Fa.free ++ ([.glo "is_integer", .glo "is_within", .glo "is_sized", .glo "is_pair", .glo "is_triple", .glo "divisor", .glo "lowest", .glo "plus", .glo "total", .glo "is_fraction", .glo "is_share", .glo "are_shares", .glo "_law_hand", .glo "_law_draw", .glo "_law_any", .glo "_law_is", .glo "_law_low", .glo "_law_plus", .glo "_law_sum", .glo "are_rows", .glo "is_step", .glo "are_steps", .glo "check_rows", .glo "Machine", .glo "_law_steps", .glo "_law_rows", .glo "times", .glo "_law_times", .glo "many_asked", .glo "first_spread"] ++ ([.glo "spread_behind", .glo "spreads_behind", .glo "_law_behind", .glo "_law_first", .glo "count_answers", .glo "most_rounds", .glo "check_number", .glo "RawHouse", .glo "made", .glo "Rounds", .glo "first_rounds", .glo "_law_node", .glo "_law_great", .glo "_law_told", .glo "law", .glo "BadMachine", .glo "NoNumber", .glo "TooLarge", .glo "House", .glo "HouseError", .glo "NOUGHT", .glo "ONE", .int "MOST_ASKED" 4, .int "MOST_STANDINGS" 6, .int "MOST_TRIPLES" 12, .int "MOST_WORLDS" 5, .int "MOST_WORDS" 6, .int "MADE_IN_ALL" 3000, .int "MADE_ROUNDS" 12, .int "MOST_FIRST" 4] ++ ([.cls "Machine", .noat "Machine" "worlds", .noat "Machine" "words", .noat "Machine" "rows", .mkr "Machine", .cls "RawHouse", .noat "RawHouse" "worlds", .noat "RawHouse" "tree", .mkr "RawHouse", .cls "Rounds", .noat "Rounds" "machine", .noat "Rounds" "rounds", .noat "Rounds" "many", .mkr "Rounds", .meth "Rounds" "question", .meth "Rounds" "node", .noat "BadMachine" "part", .meth "BadMachine" "__init__", .exc "TooLarge", .exc "NoNumber"])))
def exL (K : PySem.W.Frag) : List Bool := [isicB K (He.ga K "Machine"), isicB K (He.ga K "RawHouse"), decide (PySem.W.kitOne K (.ref (He.ga K "Machine")) (.type "int") = some false), decide (PySem.W.kitOne K (.ref (He.ga K "RawHouse")) (.ref (He.ga K "House")) = some true), decide (PySem.W.kitOne K (.ref (He.ga K "TooLarge")) (.ref (He.ga K "TooLarge")) = some true), decide (PySem.W.kitOne K (.ref (He.ga K "TooLarge")) (.ref (He.ga K "NoNumber")) = some false), decide (PySem.W.kitOne K (.ref (He.ga K "NoNumber")) (.ref (He.ga K "TooLarge")) = some false), decide (PySem.W.kitOne K (.ref (He.ga K "NoNumber")) (.ref (He.ga K "NoNumber")) = some true), decide (PySem.W.exmOne K (.ref (He.ga K "TooLarge")) (.ref (He.ga K "HouseError")) = some true), decide (PySem.W.exmOne K (.ref (He.ga K "NoNumber")) (.ref (He.ga K "HouseError")) = some true), exciB K (He.ga K "TooLarge"), exciB K (He.ga K "NoNumber"), He.tupB K "NOUGHT" [.int 0, .int 1], He.tupB K "ONE" [.int 1, .int 1], oexB K (He.ga K "BadMachine"), xfB K (He.ga K "BadMachine"), exciB K (He.ga K "BadMachine")]
def ex (K : PySem.W.Frag) : Bool := (exL K).all id
abbrev R : PySem.W.OpenRow := PySem.W.OpenLaw.row PySem.Challenge.rw_tellsless_k65_whole_first_rounds_of_mach
abbrev hk : PySem.W.Hook := He.hookX 5 fa fn [] [] ex
def ob (s : PySem.W.SharedT) : He.AlX := He.obsX 5 fa fn [] [] ex (HandSHeadRun.getT s)
theorem ob_eq (s : PySem.W.SharedT) : ob s = hk.obs s.abs := He.obsX_eq (HandSHeadRun.getT_eq s)
def loose : List Str := (["HouseError", "BadHouse", "TooLarge", "NoNumber", "BadMachine", "is_integer", "is_within", "is_sized", "is_pair", "is_triple", "are_rising", "check_number", "NOUGHT", "ONE", "divisor", "lowest", "plus", "times", "total", "is_fraction", "is_chance", "is_share", "are_shares", "MOST_WORLDS", "MOST_QUESTIONS", "MOST_ANSWERS", "MOST_NUMBERS", "MOST_NUMBER", "MOST_ROUNDS", "MOST_IN_ALL"] : List Str) ++ ((["MADE_ROUNDS", "MADE_IN_ALL", "is_word", "is_answer", "added_weights", "wrong_in_node", "wrong_in_question", "count_answers", "most_rounds", "House", "RawHouse", "made", "MOST_WORDS", "MOST_STANDINGS", "MOST_ASKED", "MOST_TRIPLES", "MOST_FIRST", "are_rows", "is_step", "are_steps", "check_rows", "Machine", "many_asked", "first_spread", "spread_behind", "spreads_behind", "Rounds", "first_rounds", "_law_hand", "_law_draw"] : List Str) ++ ((["_law_any", "_law_is", "_law_low", "_law_plus", "_law_times", "_law_sum", "_law_steps", "_law_rows", "_law_behind", "_law_first", "_law_node", "_law_great", "_law_told"] : List Str)))
theorem run (w : World) : HandSHeadRun.RunEq R (PySem.W.view R.prog [79]) hk ob 4000 loose w := by
  intro os
  kernel_rfl
theorem facts {P : Program} {w : World} {K : PySem.W.Frag} {h : Heap} {mg : Str → Option Value} {f : Addr} (X : K.In h) (G : h.Ns mainGlobals mg) (hfa : mg ("law" : Str) = some (.ref f)) (c : He.SaysX fa fn [] [] ex w h K) :
    ∃ fd : FuncData, (∀ (s : Shared) (v : Value), BindsTo s fd ⟨[v], []⟩ [("_law_script", v)]) ∧ ∀ base : Heap, K.In base → base.Ns mainGlobals mg → GF P w K mg base 30 f fd [("_law_script" : Str)] sp_law := by
  have cd := c.t.d
  have cm : (exL K).all id = true := c.more
  have L : Lib mg := ⟨fun x hx => He.free_ok X G (cd.facts (List.mem_append_left _ (List.mem_map_of_mem hx)))⟩
  have G_is_integer : mg "is_integer" = some (.ref (He.ga K "is_integer")) := He.glo_ok X G (cd.fact 20 (f := .glo "is_integer") rfl)
  have G_is_within : mg "is_within" = some (.ref (He.ga K "is_within")) := He.glo_ok X G (cd.fact 21 (f := .glo "is_within") rfl)
  have G_is_sized : mg "is_sized" = some (.ref (He.ga K "is_sized")) := He.glo_ok X G (cd.fact 22 (f := .glo "is_sized") rfl)
  have G_is_pair : mg "is_pair" = some (.ref (He.ga K "is_pair")) := He.glo_ok X G (cd.fact 23 (f := .glo "is_pair") rfl)
  have G_is_triple : mg "is_triple" = some (.ref (He.ga K "is_triple")) := He.glo_ok X G (cd.fact 24 (f := .glo "is_triple") rfl)
  have G_divisor : mg "divisor" = some (.ref (He.ga K "divisor")) := He.glo_ok X G (cd.fact 25 (f := .glo "divisor") rfl)
  have G_lowest : mg "lowest" = some (.ref (He.ga K "lowest")) := He.glo_ok X G (cd.fact 26 (f := .glo "lowest") rfl)
  have G_plus : mg "plus" = some (.ref (He.ga K "plus")) := He.glo_ok X G (cd.fact 27 (f := .glo "plus") rfl)
  have G_total : mg "total" = some (.ref (He.ga K "total")) := He.glo_ok X G (cd.fact 28 (f := .glo "total") rfl)
  have G_is_fraction : mg "is_fraction" = some (.ref (He.ga K "is_fraction")) := He.glo_ok X G (cd.fact 29 (f := .glo "is_fraction") rfl)
  have G_is_share : mg "is_share" = some (.ref (He.ga K "is_share")) := He.glo_ok X G (cd.fact 30 (f := .glo "is_share") rfl)
  have G_are_shares : mg "are_shares" = some (.ref (He.ga K "are_shares")) := He.glo_ok X G (cd.fact 31 (f := .glo "are_shares") rfl)
  have G__law_hand : mg "_law_hand" = some (.ref (He.ga K "_law_hand")) := He.glo_ok X G (cd.fact 32 (f := .glo "_law_hand") rfl)
  have G__law_draw : mg "_law_draw" = some (.ref (He.ga K "_law_draw")) := He.glo_ok X G (cd.fact 33 (f := .glo "_law_draw") rfl)
  have G__law_any : mg "_law_any" = some (.ref (He.ga K "_law_any")) := He.glo_ok X G (cd.fact 34 (f := .glo "_law_any") rfl)
  have G__law_is : mg "_law_is" = some (.ref (He.ga K "_law_is")) := He.glo_ok X G (cd.fact 35 (f := .glo "_law_is") rfl)
  have G__law_low : mg "_law_low" = some (.ref (He.ga K "_law_low")) := He.glo_ok X G (cd.fact 36 (f := .glo "_law_low") rfl)
  have G__law_plus : mg "_law_plus" = some (.ref (He.ga K "_law_plus")) := He.glo_ok X G (cd.fact 37 (f := .glo "_law_plus") rfl)
  have G__law_sum : mg "_law_sum" = some (.ref (He.ga K "_law_sum")) := He.glo_ok X G (cd.fact 38 (f := .glo "_law_sum") rfl)
  have G_are_rows : mg "are_rows" = some (.ref (He.ga K "are_rows")) := He.glo_ok X G (cd.fact 39 (f := .glo "are_rows") rfl)
  have G_is_step : mg "is_step" = some (.ref (He.ga K "is_step")) := He.glo_ok X G (cd.fact 40 (f := .glo "is_step") rfl)
  have G_are_steps : mg "are_steps" = some (.ref (He.ga K "are_steps")) := He.glo_ok X G (cd.fact 41 (f := .glo "are_steps") rfl)
  have G_check_rows : mg "check_rows" = some (.ref (He.ga K "check_rows")) := He.glo_ok X G (cd.fact 42 (f := .glo "check_rows") rfl)
  have G_Machine : mg "Machine" = some (.ref (He.ga K "Machine")) := He.glo_ok X G (cd.fact 43 (f := .glo "Machine") rfl)
  have G__law_steps : mg "_law_steps" = some (.ref (He.ga K "_law_steps")) := He.glo_ok X G (cd.fact 44 (f := .glo "_law_steps") rfl)
  have G__law_rows : mg "_law_rows" = some (.ref (He.ga K "_law_rows")) := He.glo_ok X G (cd.fact 45 (f := .glo "_law_rows") rfl)
  have G_times : mg "times" = some (.ref (He.ga K "times")) := He.glo_ok X G (cd.fact 46 (f := .glo "times") rfl)
  have G__law_times : mg "_law_times" = some (.ref (He.ga K "_law_times")) := He.glo_ok X G (cd.fact 47 (f := .glo "_law_times") rfl)
  have G_many_asked : mg "many_asked" = some (.ref (He.ga K "many_asked")) := He.glo_ok X G (cd.fact 48 (f := .glo "many_asked") rfl)
  have G_first_spread : mg "first_spread" = some (.ref (He.ga K "first_spread")) := He.glo_ok X G (cd.fact 49 (f := .glo "first_spread") rfl)
  have G_spread_behind : mg "spread_behind" = some (.ref (He.ga K "spread_behind")) := He.glo_ok X G (cd.fact 50 (f := .glo "spread_behind") rfl)
  have G_spreads_behind : mg "spreads_behind" = some (.ref (He.ga K "spreads_behind")) := He.glo_ok X G (cd.fact 51 (f := .glo "spreads_behind") rfl)
  have G__law_behind : mg "_law_behind" = some (.ref (He.ga K "_law_behind")) := He.glo_ok X G (cd.fact 52 (f := .glo "_law_behind") rfl)
  have G__law_first : mg "_law_first" = some (.ref (He.ga K "_law_first")) := He.glo_ok X G (cd.fact 53 (f := .glo "_law_first") rfl)
  have G_count_answers : mg "count_answers" = some (.ref (He.ga K "count_answers")) := He.glo_ok X G (cd.fact 54 (f := .glo "count_answers") rfl)
  have G_most_rounds : mg "most_rounds" = some (.ref (He.ga K "most_rounds")) := He.glo_ok X G (cd.fact 55 (f := .glo "most_rounds") rfl)
  have G_check_number : mg "check_number" = some (.ref (He.ga K "check_number")) := He.glo_ok X G (cd.fact 56 (f := .glo "check_number") rfl)
  have G_RawHouse : mg "RawHouse" = some (.ref (He.ga K "RawHouse")) := He.glo_ok X G (cd.fact 57 (f := .glo "RawHouse") rfl)
  have G_made : mg "made" = some (.ref (He.ga K "made")) := He.glo_ok X G (cd.fact 58 (f := .glo "made") rfl)
  have G_Rounds : mg "Rounds" = some (.ref (He.ga K "Rounds")) := He.glo_ok X G (cd.fact 59 (f := .glo "Rounds") rfl)
  have G_first_rounds : mg "first_rounds" = some (.ref (He.ga K "first_rounds")) := He.glo_ok X G (cd.fact 60 (f := .glo "first_rounds") rfl)
  have G__law_node : mg "_law_node" = some (.ref (He.ga K "_law_node")) := He.glo_ok X G (cd.fact 61 (f := .glo "_law_node") rfl)
  have G__law_great : mg "_law_great" = some (.ref (He.ga K "_law_great")) := He.glo_ok X G (cd.fact 62 (f := .glo "_law_great") rfl)
  have G__law_told : mg "_law_told" = some (.ref (He.ga K "_law_told")) := He.glo_ok X G (cd.fact 63 (f := .glo "_law_told") rfl)
  have G_law : mg "law" = some (.ref (He.ga K "law")) := He.glo_ok X G (cd.fact 64 (f := .glo "law") rfl)
  have G_BadMachine : mg "BadMachine" = some (.ref (He.ga K "BadMachine")) := He.glo_ok X G (cd.fact 65 (f := .glo "BadMachine") rfl)
  have G_NoNumber : mg "NoNumber" = some (.ref (He.ga K "NoNumber")) := He.glo_ok X G (cd.fact 66 (f := .glo "NoNumber") rfl)
  have G_TooLarge : mg "TooLarge" = some (.ref (He.ga K "TooLarge")) := He.glo_ok X G (cd.fact 67 (f := .glo "TooLarge") rfl)
  have G_House : mg "House" = some (.ref (He.ga K "House")) := He.glo_ok X G (cd.fact 68 (f := .glo "House") rfl)
  have G_HouseError : mg "HouseError" = some (.ref (He.ga K "HouseError")) := He.glo_ok X G (cd.fact 69 (f := .glo "HouseError") rfl)
  have G_NOUGHT : mg "NOUGHT" = some (.ref (He.ga K "NOUGHT")) := He.glo_ok X G (cd.fact 70 (f := .glo "NOUGHT") rfl)
  have G_ONE : mg "ONE" = some (.ref (He.ga K "ONE")) := He.glo_ok X G (cd.fact 71 (f := .glo "ONE") rfl)
  have X_isic : (isicB K (He.ga K "Machine")) = true := all_at cm 0 rfl
  have X_isicH : (isicB K (He.ga K "RawHouse")) = true := all_at cm 1 rfl
  have X_kint : (decide (PySem.W.kitOne K (.ref (He.ga K "Machine")) (.type "int") = some false)) = true := all_at cm 2 rfl
  have X_kh : (decide (PySem.W.kitOne K (.ref (He.ga K "RawHouse")) (.ref (He.ga K "House")) = some true)) = true := all_at cm 3 rfl
  have X_kTT : (decide (PySem.W.kitOne K (.ref (He.ga K "TooLarge")) (.ref (He.ga K "TooLarge")) = some true)) = true := all_at cm 4 rfl
  have X_kTN : (decide (PySem.W.kitOne K (.ref (He.ga K "TooLarge")) (.ref (He.ga K "NoNumber")) = some false)) = true := all_at cm 5 rfl
  have X_kNT : (decide (PySem.W.kitOne K (.ref (He.ga K "NoNumber")) (.ref (He.ga K "TooLarge")) = some false)) = true := all_at cm 6 rfl
  have X_kNN : (decide (PySem.W.kitOne K (.ref (He.ga K "NoNumber")) (.ref (He.ga K "NoNumber")) = some true)) = true := all_at cm 7 rfl
  have X_mT : (decide (PySem.W.exmOne K (.ref (He.ga K "TooLarge")) (.ref (He.ga K "HouseError")) = some true)) = true := all_at cm 8 rfl
  have X_mN : (decide (PySem.W.exmOne K (.ref (He.ga K "NoNumber")) (.ref (He.ga K "HouseError")) = some true)) = true := all_at cm 9 rfl
  have X_exci_TooLarge : (exciB K (He.ga K "TooLarge")) = true := all_at cm 10 rfl
  have X_exci_NoNumber : (exciB K (He.ga K "NoNumber")) = true := all_at cm 11 rfl
  have X_t_NOUGHT : (He.tupB K "NOUGHT" [.int 0, .int 1]) = true := all_at cm 12 rfl
  have X_t_ONE : (He.tupB K "ONE" [.int 1, .int 1]) = true := all_at cm 13 rfl
  have X_oex_BadMachine : (oexB K (He.ga K "BadMachine")) = true := all_at cm 14 rfl
  have X_xf_BadMachine : (xfB K (He.ga K "BadMachine")) = true := all_at cm 15 rfl
  have X_exci_BadMachine : (exciB K (He.ga K "BadMachine")) = true := all_at cm 16 rfl
  have g_NOUGHT : GD K mg "NOUGHT" (.tup [(.int 0), (.int 1)]) := GD.pair G_NOUGHT (fun H => He.tupB_ok X_t_NOUGHT H)
  have g_ONE : GD K mg "ONE" (.tup [(.int 1), (.int 1)]) := GD.pair G_ONE (fun H => He.tupB_ok X_t_ONE H)
  have g_MOST_ASKED : GD K mg "MOST_ASKED" (.int 4) := GD.int (He.int_ok X G (cd.fact 72 (f := .int "MOST_ASKED" 4) rfl))
  have g_MOST_STANDINGS : GD K mg "MOST_STANDINGS" (.int 6) := GD.int (He.int_ok X G (cd.fact 73 (f := .int "MOST_STANDINGS" 6) rfl))
  have g_MOST_TRIPLES : GD K mg "MOST_TRIPLES" (.int 12) := GD.int (He.int_ok X G (cd.fact 74 (f := .int "MOST_TRIPLES" 12) rfl))
  have g_MOST_WORLDS : GD K mg "MOST_WORLDS" (.int 5) := GD.int (He.int_ok X G (cd.fact 75 (f := .int "MOST_WORLDS" 5) rfl))
  have g_MOST_WORDS : GD K mg "MOST_WORDS" (.int 6) := GD.int (He.int_ok X G (cd.fact 76 (f := .int "MOST_WORDS" 6) rfl))
  have g_MADE_IN_ALL : GD K mg "MADE_IN_ALL" (.int 3000) := GD.int (He.int_ok X G (cd.fact 77 (f := .int "MADE_IN_ALL" 3000) rfl))
  have g_MADE_ROUNDS : GD K mg "MADE_ROUNDS" (.int 12) := GD.int (He.int_ok X G (cd.fact 78 (f := .int "MADE_ROUNDS" 12) rfl))
  have g_MOST_FIRST : GD K mg "MOST_FIRST" (.int 4) := GD.int (He.int_ok X G (cd.fact 79 (f := .int "MOST_FIRST" 4) rfl))
  have g_Machine : GD K mg "Machine" (.ref (He.ga K "Machine")) := GD.ref G_Machine
  have g_RawHouse : GD K mg "RawHouse" (.ref (He.ga K "RawHouse")) := GD.ref G_RawHouse
  have g_Rounds : GD K mg "Rounds" (.ref (He.ga K "Rounds")) := GD.ref G_Rounds
  have g_BadMachine : GD K mg "BadMachine" (.ref (He.ga K "BadMachine")) := GD.ref G_BadMachine
  have g_NoNumber : GD K mg "NoNumber" (.ref (He.ga K "NoNumber")) := GD.ref G_NoNumber
  have g_TooLarge : GD K mg "TooLarge" (.ref (He.ga K "TooLarge")) := GD.ref G_TooLarge
  have g_House : GD K mg "House" (.ref (He.ga K "House")) := GD.ref G_House
  have g_HouseError : GD K mg "HouseError" (.ref (He.ga K "HouseError")) := GD.ref G_HouseError
  have C_Machine : Cls K (He.ga K "Machine") := He.cls_ok (cd.fact 80 (f := .cls "Machine") rfl)
  have N_Machine_worlds : NoAttr K (He.ga K "Machine") "worlds" := He.noat_ok (cd.fact 81 (f := .noat "Machine" "worlds") rfl)
  have N_Machine_words : NoAttr K (He.ga K "Machine") "words" := He.noat_ok (cd.fact 82 (f := .noat "Machine" "words") rfl)
  have N_Machine_rows : NoAttr K (He.ga K "Machine") "rows" := He.noat_ok (cd.fact 83 (f := .noat "Machine" "rows") rfl)
  have K_Machine : Mk K (He.ga K "Machine") (He.ma K (He.ga K "Machine") "__init__") := He.mkr_ok (cd.fact 84 (f := .mkr "Machine") rfl)
  have C_RawHouse : Cls K (He.ga K "RawHouse") := He.cls_ok (cd.fact 85 (f := .cls "RawHouse") rfl)
  have N_RawHouse_worlds : NoAttr K (He.ga K "RawHouse") "worlds" := He.noat_ok (cd.fact 86 (f := .noat "RawHouse" "worlds") rfl)
  have N_RawHouse_tree : NoAttr K (He.ga K "RawHouse") "tree" := He.noat_ok (cd.fact 87 (f := .noat "RawHouse" "tree") rfl)
  have K_RawHouse : Mk K (He.ga K "RawHouse") (He.ma K (He.ga K "RawHouse") "__init__") := He.mkr_ok (cd.fact 88 (f := .mkr "RawHouse") rfl)
  have C_Rounds : Cls K (He.ga K "Rounds") := He.cls_ok (cd.fact 89 (f := .cls "Rounds") rfl)
  have N_Rounds_machine : NoAttr K (He.ga K "Rounds") "machine" := He.noat_ok (cd.fact 90 (f := .noat "Rounds" "machine") rfl)
  have N_Rounds_rounds : NoAttr K (He.ga K "Rounds") "rounds" := He.noat_ok (cd.fact 91 (f := .noat "Rounds" "rounds") rfl)
  have N_Rounds_many : NoAttr K (He.ga K "Rounds") "many" := He.noat_ok (cd.fact 92 (f := .noat "Rounds" "many") rfl)
  have K_Rounds : Mk K (He.ga K "Rounds") (He.ma K (He.ga K "Rounds") "__init__") := He.mkr_ok (cd.fact 93 (f := .mkr "Rounds") rfl)
  have M_Rounds_question : Meth K (He.ga K "Rounds") "question" (He.ma K (He.ga K "Rounds") "question") := He.meth_ok (cd.fact 94 (f := .meth "Rounds" "question") rfl)
  have M_Rounds_node : Meth K (He.ga K "Rounds") "node" (He.ma K (He.ga K "Rounds") "node") := He.meth_ok (cd.fact 95 (f := .meth "Rounds" "node") rfl)
  obtain ⟨fd_is_integer, F_is_integer⟩ : ∃ fd, FnT K "is_integer" "is_integer" s_is_integer (He.ga K "is_integer") fd := cd.def_ 0 (d := d_is_integer) rfl
  obtain ⟨fd_is_within, F_is_within⟩ : ∃ fd, FnT K "is_within" "is_within" s_is_within (He.ga K "is_within") fd := cd.def_ 1 (d := d_is_within) rfl
  obtain ⟨fd_is_sized, F_is_sized⟩ : ∃ fd, FnT K "is_sized" "is_sized" s_is_sized (He.ga K "is_sized") fd := cd.def_ 2 (d := d_is_sized) rfl
  obtain ⟨fd_is_pair, F_is_pair⟩ : ∃ fd, FnT K "is_pair" "is_pair" s_is_pair (He.ga K "is_pair") fd := cd.def_ 3 (d := d_is_pair) rfl
  obtain ⟨fd_is_triple, F_is_triple⟩ : ∃ fd, FnT K "is_triple" "is_triple" s_is_triple (He.ga K "is_triple") fd := cd.def_ 4 (d := d_is_triple) rfl
  obtain ⟨fd_divisor, F_divisor⟩ : ∃ fd, FnT K "divisor" "divisor" s_divisor (He.ga K "divisor") fd := cd.def_ 5 (d := d_divisor) rfl
  obtain ⟨fd_lowest, F_lowest⟩ : ∃ fd, FnT K "lowest" "lowest" s_lowest (He.ga K "lowest") fd := cd.def_ 6 (d := d_lowest) rfl
  obtain ⟨fd_plus, F_plus⟩ : ∃ fd, FnT K "plus" "plus" s_plus (He.ga K "plus") fd := cd.def_ 7 (d := d_plus) rfl
  obtain ⟨fd_total, F_total⟩ : ∃ fd, FnT K "total" "total" s_total (He.ga K "total") fd := cd.def_ 8 (d := d_total) rfl
  obtain ⟨fd_is_fraction, F_is_fraction⟩ : ∃ fd, FnT K "is_fraction" "is_fraction" s_is_fraction (He.ga K "is_fraction") fd := cd.def_ 9 (d := d_is_fraction) rfl
  obtain ⟨fd_is_share, F_is_share⟩ : ∃ fd, FnT K "is_share" "is_share" s_is_share (He.ga K "is_share") fd := cd.def_ 10 (d := d_is_share) rfl
  obtain ⟨fd_are_shares, F_are_shares⟩ : ∃ fd, FnT K "are_shares" "are_shares" s_are_shares (He.ga K "are_shares") fd := cd.def_ 11 (d := d_are_shares) rfl
  obtain ⟨fd_l_hand, F_l_hand⟩ : ∃ fd, FnT K "_law_hand" "_law_hand" s_l_hand (He.ga K "_law_hand") fd := cd.def_ 12 (d := d_l_hand) rfl
  obtain ⟨fd_l_draw, F_l_draw⟩ : ∃ fd, FnT K "_law_draw" "_law_draw" s_l_draw (He.ga K "_law_draw") fd := cd.def_ 13 (d := d_l_draw) rfl
  obtain ⟨fd_l_any, F_l_any⟩ : ∃ fd, FnT K "_law_any" "_law_any" s_l_any (He.ga K "_law_any") fd := cd.def_ 14 (d := d_l_any) rfl
  obtain ⟨fd_l_is, F_l_is⟩ : ∃ fd, FnT K "_law_is" "_law_is" s_l_is (He.ga K "_law_is") fd := cd.def_ 15 (d := d_l_is) rfl
  obtain ⟨fd_l_low, F_l_low⟩ : ∃ fd, FnT K "_law_low" "_law_low" s_l_low (He.ga K "_law_low") fd := cd.def_ 16 (d := d_l_low) rfl
  obtain ⟨fd_l_plus, F_l_plus⟩ : ∃ fd, FnT K "_law_plus" "_law_plus" s_l_plus (He.ga K "_law_plus") fd := cd.def_ 17 (d := d_l_plus) rfl
  obtain ⟨fd_l_sum, F_l_sum⟩ : ∃ fd, FnT K "_law_sum" "_law_sum" s_l_sum (He.ga K "_law_sum") fd := cd.def_ 18 (d := d_l_sum) rfl
  obtain ⟨fd_are_rows, F_are_rows⟩ : ∃ fd, FnT K "are_rows" "are_rows" s_are_rows (He.ga K "are_rows") fd := cd.def_ 19 (d := d_are_rows) rfl
  obtain ⟨fd_is_step, F_is_step⟩ : ∃ fd, FnT K "is_step" "is_step" s_is_step (He.ga K "is_step") fd := cd.def_ 20 (d := d_is_step) rfl
  obtain ⟨fd_are_steps, F_are_steps⟩ : ∃ fd, FnT K "are_steps" "are_steps" s_are_steps (He.ga K "are_steps") fd := cd.def_ 21 (d := d_are_steps) rfl
  obtain ⟨fd_check_rows, F_check_rows⟩ : ∃ fd, FnT K "check_rows" "check_rows" s_check_rows (He.ga K "check_rows") fd := cd.def_ 22 (d := d_check_rows) rfl
  obtain ⟨fd_Machine_init, F_Machine_init⟩ : ∃ fd, FnT K "__init__" "Machine.__init__" s_Machine_init (He.ma K (He.ga K "Machine") "__init__") fd := cd.def_ 23 (d := d_Machine_init) rfl
  obtain ⟨fd_l_steps, F_l_steps⟩ : ∃ fd, FnT K "_law_steps" "_law_steps" s_l_steps (He.ga K "_law_steps") fd := cd.def_ 24 (d := d_l_steps) rfl
  obtain ⟨fd_l_rows, F_l_rows⟩ : ∃ fd, FnT K "_law_rows" "_law_rows" s_l_rows (He.ga K "_law_rows") fd := cd.def_ 25 (d := d_l_rows) rfl
  obtain ⟨fd_times, F_times⟩ : ∃ fd, FnT K "times" "times" s_times (He.ga K "times") fd := cd.def_ 26 (d := d_times) rfl
  obtain ⟨fd_l_times, F_l_times⟩ : ∃ fd, FnT K "_law_times" "_law_times" s_l_times (He.ga K "_law_times") fd := cd.def_ 27 (d := d_l_times) rfl
  obtain ⟨fd_many_asked, F_many_asked⟩ : ∃ fd, FnT K "many_asked" "many_asked" s_many_asked (He.ga K "many_asked") fd := cd.def_ 28 (d := d_many_asked) rfl
  obtain ⟨fd_first_spread, F_first_spread⟩ : ∃ fd, FnT K "first_spread" "first_spread" s_first_spread (He.ga K "first_spread") fd := cd.def_ 29 (d := d_first_spread) rfl
  obtain ⟨fd_spread_behind, F_spread_behind⟩ : ∃ fd, FnT K "spread_behind" "spread_behind" s_spread_behind (He.ga K "spread_behind") fd := cd.def_ 30 (d := d_spread_behind) rfl
  obtain ⟨fd_spreads_behind, F_spreads_behind⟩ : ∃ fd, FnT K "spreads_behind" "spreads_behind" s_spreads_behind (He.ga K "spreads_behind") fd := cd.def_ 31 (d := d_spreads_behind) rfl
  obtain ⟨fd_l_behind, F_l_behind⟩ : ∃ fd, FnT K "_law_behind" "_law_behind" s_l_behind (He.ga K "_law_behind") fd := cd.def_ 32 (d := d_l_behind) rfl
  obtain ⟨fd_l_first, F_l_first⟩ : ∃ fd, FnT K "_law_first" "_law_first" s_l_first (He.ga K "_law_first") fd := cd.def_ 33 (d := d_l_first) rfl
  obtain ⟨fd_count_answers, F_count_answers⟩ : ∃ fd, FnT K "count_answers" "count_answers" s_count_answers (He.ga K "count_answers") fd := cd.def_ 34 (d := d_count_answers) rfl
  obtain ⟨fd_most_rounds, F_most_rounds⟩ : ∃ fd, FnT K "most_rounds" "most_rounds" s_most_rounds (He.ga K "most_rounds") fd := cd.def_ 35 (d := d_most_rounds) rfl
  obtain ⟨fd_check_number, F_check_number⟩ : ∃ fd, FnT K "check_number" "check_number" s_check_number (He.ga K "check_number") fd := cd.def_ 36 (d := d_check_number) rfl
  obtain ⟨fd_RawHouse_init, F_RawHouse_init⟩ : ∃ fd, FnT K "__init__" "RawHouse.__init__" s_RawHouse_init (He.ma K (He.ga K "RawHouse") "__init__") fd := cd.def_ 37 (d := d_RawHouse_init) rfl
  obtain ⟨fd_made, F_made⟩ : ∃ fd, FnT K "made" "made" s_made (He.ga K "made") fd := cd.def_ 38 (d := d_made) rfl
  obtain ⟨fd_Rounds_init, F_Rounds_init⟩ : ∃ fd, FnT K "__init__" "Rounds.__init__" s_Rounds_init (He.ma K (He.ga K "Rounds") "__init__") fd := cd.def_ 39 (d := d_Rounds_init) rfl
  obtain ⟨fd_Rounds_question, F_Rounds_question⟩ : ∃ fd, FnT K "question" "Rounds.question" s_Rounds_question (He.ma K (He.ga K "Rounds") "question") fd := cd.def_ 40 (d := d_Rounds_question) rfl
  obtain ⟨fd_Rounds_node, F_Rounds_node⟩ : ∃ fd, FnT K "node" "Rounds.node" s_Rounds_node (He.ma K (He.ga K "Rounds") "node") fd := cd.def_ 41 (d := d_Rounds_node) rfl
  obtain ⟨fd_first_rounds, F_first_rounds⟩ : ∃ fd, FnT K "first_rounds" "first_rounds" s_first_rounds (He.ga K "first_rounds") fd := cd.def_ 42 (d := d_first_rounds) rfl
  obtain ⟨fd_l_node, F_l_node⟩ : ∃ fd, FnT K "_law_node" "_law_node" s_l_node (He.ga K "_law_node") fd := cd.def_ 43 (d := d_l_node) rfl
  obtain ⟨fd_l_great, F_l_great⟩ : ∃ fd, FnT K "_law_great" "_law_great" s_l_great (He.ga K "_law_great") fd := cd.def_ 44 (d := d_l_great) rfl
  obtain ⟨fd_l_told, F_l_told⟩ : ∃ fd, FnT K "_law_told" "_law_told" s_l_told (He.ga K "_law_told") fd := cd.def_ 45 (d := d_l_told) rfl
  obtain ⟨fd_law, F_law⟩ : ∃ fd, FnT K "law" "law" s_law (He.ga K "law") fd := cd.def_ 46 (d := d_law) rfl
  obtain ⟨fd_BadMachine_init, F_BadMachine_init⟩ : ∃ fd, FnT K "__init__" "BadMachine.__init__" s_BadMachine_init (He.ma K (He.ga K "BadMachine") "__init__") fd := cd.def_ 47 (d := d_BadMachine_init) rfl
  have e := hfa.symm.trans G_law
  cases e
  have b := FunD.bindsA (ps := [("_law_script" : Str)]) F_law fun _ _ _ _ _ _ us hl => match us, hl with | [_], _ => rfl
  refine ⟨fd_law, fun s v => b s [v] rfl, fun base _ _ => ?_⟩
  have xn_BadMachine : PySem.W.findIn K (.ref (He.ga K "BadMachine")) "part" = some none := He.noat_ok (cd.fact 96 (f := .noat "BadMachine" "part") rfl)
  have E_BadMachine : De K P w mg base "BadMachine" (He.ga K "BadMachine") "part" "part" := de_of (oexB_ok X_oex_BadMachine) xn_BadMachine (He.meth_ok (cd.fact 97 (f := .meth "BadMachine" "__init__") rfl)) G_BadMachine (F_BadMachine_init.bindsN fun _ _ _ _ _ _ us hl => match us, hl with | [_, _], _ => rfl) (fun_of F_BadMachine_init) (N := [("self" : Str), ("part" : Str)]) ⟨rfl, rfl, rfl, by decide +kernel, rfl, by decide +kernel, by decide +kernel⟩ rfl rfl (.inl rfl) (.inl rfl) (by decide +kernel) (by decide +kernel)
  have Q_TooLarge := He.exc_ok (cd.fact 98 (f := .exc "TooLarge") rfl)
  have E_TooLarge : D0 K mg "TooLarge" (He.ga K "TooLarge") := ⟨Q_TooLarge.1, Q_TooLarge.2.1, Q_TooLarge.2.2.1, Q_TooLarge.2.2.2, G_TooLarge⟩
  have Q_NoNumber := He.exc_ok (cd.fact 99 (f := .exc "NoNumber") rfl)
  have E_NoNumber : D0 K mg "NoNumber" (He.ga K "NoNumber") := ⟨Q_NoNumber.1, Q_NoNumber.2.1, Q_NoNumber.2.2.1, Q_NoNumber.2.2.2, G_NoNumber⟩
  have I_Machine := isicB_ok C_Machine X_isic
  have I_RawHouse := isicB_ok C_RawHouse X_isicH
  have D_is_integer : Dn P w K mg base "is_integer" 1 [("thing" : Str)] sp_is_integer := dn_of G_is_integer F_is_integer.kp (F_is_integer.bindsN fun _ _ _ _ _ _ us hl => match us, hl with | [_], _ => rfl) (w_is_integer (L := L) (F := fun_of F_is_integer) (ln := (fun ds h Q E hs => by obtain ⟨_, _, rfl, _⟩ := hs; rfl)) (pl := p_is_integer))
  have D_is_within : Dn P w K mg base "is_within" 2 [("thing" : Str), ("least" : Str), ("most" : Str)] sp_is_within := dn_of G_is_within F_is_within.kp (F_is_within.bindsN fun _ _ _ _ _ _ us hl => match us, hl with | [_, _, _], _ => rfl) (w_is_within (L := L) (D_is_integer := D_is_integer) (F := fun_of F_is_within) (ln := (fun ds h Q E hs => by obtain ⟨_, _, _, _, rfl, _⟩ := hs; rfl)) (pl := p_is_within))
  have D_is_sized : Dn P w K mg base "is_sized" 1 [("thing" : Str), ("least" : Str), ("most" : Str)] sp_is_sized := dn_of G_is_sized F_is_sized.kp (F_is_sized.bindsN fun _ _ _ _ _ _ us hl => match us, hl with | [_, _, _], _ => rfl) (w_is_sized (L := L) (F := fun_of F_is_sized) (ln := (fun ds h Q E hs => by obtain ⟨_, _, _, _, rfl, _⟩ := hs; rfl)) (pl := p_is_sized))
  have D_is_pair : Dn P w K mg base "is_pair" 1 [("thing" : Str)] sp_is_pair := dn_of G_is_pair F_is_pair.kp (F_is_pair.bindsN fun _ _ _ _ _ _ us hl => match us, hl with | [_], _ => rfl) (w_is_pair (L := L) (F := fun_of F_is_pair) (ln := (fun ds h Q E hs => by obtain ⟨_, _, rfl, _⟩ := hs; rfl)) (pl := p_is_pair))
  have D_is_triple : Dn P w K mg base "is_triple" 1 [("thing" : Str)] sp_is_triple := dn_of G_is_triple F_is_triple.kp (F_is_triple.bindsN fun _ _ _ _ _ _ us hl => match us, hl with | [_], _ => rfl) (w_is_triple (L := L) (F := fun_of F_is_triple) (ln := (fun ds h Q E hs => by obtain ⟨_, _, rfl, _⟩ := hs; rfl)) (pl := p_is_triple))
  have D_divisor : Dn P w K mg base "divisor" 1 [("one" : Str), ("other" : Str)] sp_divisor := dn_of G_divisor F_divisor.kp (F_divisor.bindsN fun _ _ _ _ _ _ us hl => match us, hl with | [_, _], _ => rfl) (w_divisor (L := L) (F := fun_of F_divisor) (ln := (fun ds h Q E hs => by obtain ⟨_, _, rfl, _⟩ := hs; rfl)) (pl := p_divisor))
  have D_lowest : Dn P w K mg base "lowest" 2 [("top" : Str), ("bottom" : Str)] sp_lowest := dn_of G_lowest F_lowest.kp (F_lowest.bindsN fun _ _ _ _ _ _ us hl => match us, hl with | [_, _], _ => rfl) (w_lowest (L := L) (D_divisor := D_divisor) (F := fun_of F_lowest) (ln := (fun ds h Q E hs => by obtain ⟨_, _, rfl, _⟩ := hs; rfl)) (pl := p_lowest))
  have D_plus : Dn P w K mg base "plus" 3 [("one" : Str), ("other" : Str)] sp_plus := dn_of G_plus F_plus.kp (F_plus.bindsN fun _ _ _ _ _ _ us hl => match us, hl with | [_, _], _ => rfl) (w_plus (L := L) (D_lowest := D_lowest) (F := fun_of F_plus) (ln := (fun ds h Q E hs => by obtain ⟨_, _, rfl, _⟩ := hs; rfl)) (pl := p_plus))
  have D_total : Dn P w K mg base "total" 4 [("fractions" : Str)] sp_total := dn_of G_total F_total.kp (F_total.bindsN fun _ _ _ _ _ _ us hl => match us, hl with | [_], _ => rfl) (w_total (L := L) (D_plus := D_plus) (g_NOUGHT := g_NOUGHT) (F := fun_of F_total) (ln := (fun ds h Q E hs => by obtain ⟨_, _, rfl, _⟩ := hs; rfl)) (pl := p_total))
  have D_is_fraction : Dn P w K mg base "is_fraction" 2 [("thing" : Str)] sp_is_fraction := dn_of G_is_fraction F_is_fraction.kp (F_is_fraction.bindsN fun _ _ _ _ _ _ us hl => match us, hl with | [_], _ => rfl) (w_is_fraction (L := L) (D_is_integer := D_is_integer) (D_is_pair := D_is_pair) (D_divisor := D_divisor) (F := fun_of F_is_fraction) (ln := (fun ds h Q E hs => by obtain ⟨_, rfl, _⟩ := hs; rfl)) (pl := p_is_fraction))
  have D_is_share : Dn P w K mg base "is_share" 3 [("thing" : Str)] sp_is_share := dn_of G_is_share F_is_share.kp (F_is_share.bindsN fun _ _ _ _ _ _ us hl => match us, hl with | [_], _ => rfl) (w_is_share (L := L) (D_is_fraction := D_is_fraction) (F := fun_of F_is_share) (ln := (fun ds h Q E hs => by obtain ⟨_, rfl, _⟩ := hs; rfl)) (pl := p_is_share))
  have D_are_shares : Dn P w K mg base "are_shares" 5 [("things" : Str)] sp_are_shares := dn_of G_are_shares F_are_shares.kp (F_are_shares.bindsN fun _ _ _ _ _ _ us hl => match us, hl with | [_], _ => rfl) (w_are_shares (L := L) (D_total := D_total) (D_is_share := D_is_share) (g_ONE := g_ONE) (F := fun_of F_are_shares) (ln := (fun ds h Q E hs => by obtain ⟨_, _, rfl, _⟩ := hs; rfl)) (pl := p_are_shares))
  have D__law_hand : Dn P w K mg base "_law_hand" 1 [("_law_script" : Str)] sp_l_hand := dn_of G__law_hand F_l_hand.kp (F_l_hand.bindsN fun _ _ _ _ _ _ us hl => match us, hl with | [_], _ => rfl) (w_l_hand (L := L) (F := fun_of F_l_hand) (ln := (fun ds h Q E hs => by obtain ⟨_, rfl, _⟩ := hs; rfl)) (pl := p_l_hand))
  have D__law_draw : Dn P w K mg base "_law_draw" 1 [("_law_hand_here" : Str), ("_law_many" : Str)] sp_l_draw := dn_of G__law_draw F_l_draw.kp (F_l_draw.bindsN fun _ _ _ _ _ _ us hl => match us, hl with | [_, _], _ => rfl) (w_l_draw (L := L) (F := fun_of F_l_draw) (ln := (fun ds h Q E hs => by obtain ⟨_, _, _, rfl, _⟩ := hs; rfl)) (pl := p_l_draw))
  have D__law_any : Dn P w K mg base "_law_any" 2 [("_law_hand_here" : Str), ("_law_things" : Str)] sp_l_any := dn_of G__law_any F_l_any.kp (F_l_any.bindsN fun _ _ _ _ _ _ us hl => match us, hl with | [_, _], _ => rfl) (w_l_any (L := L) (D__law_draw := D__law_draw) (F := fun_of F_l_any) (ln := (fun ds h Q E hs => by obtain ⟨_, _, _, _, rfl, _⟩ := hs; rfl)) (pl := p_l_any))
  have D__law_is : Dn P w K mg base "_law_is" 1 [("_law_told_here" : Str), ("_law_due" : Str)] sp_l_is := dn_of G__law_is F_l_is.kp (F_l_is.bindsN fun _ _ _ _ _ _ us hl => match us, hl with | [_, _], _ => rfl) (w_l_is (L := L) (F := fun_of F_l_is) (ln := (fun ds h Q E hs => by obtain ⟨_, _, _, _, rfl, _⟩ := hs; rfl)) (pl := p_l_is))
  have D__law_low : Dn P w K mg base "_law_low" 1 [("_law_top" : Str), ("_law_bottom" : Str)] sp_l_low := dn_of G__law_low F_l_low.kp (F_l_low.bindsN fun _ _ _ _ _ _ us hl => match us, hl with | [_, _], _ => rfl) (w_l_low (L := L) (F := fun_of F_l_low) (ln := (fun ds h Q E hs => by obtain ⟨_, _, rfl, _⟩ := hs; rfl)) (pl := p_l_low))
  have D__law_plus : Dn P w K mg base "_law_plus" 2 [("_law_one" : Str), ("_law_other" : Str)] sp_plus := dn_of G__law_plus F_l_plus.kp (F_l_plus.bindsN fun _ _ _ _ _ _ us hl => match us, hl with | [_, _], _ => rfl) (w_l_plus (L := L) (D__law_low := D__law_low) (F := fun_of F_l_plus) (ln := (fun ds h Q E hs => by obtain ⟨_, _, rfl, _⟩ := hs; rfl)) (pl := p_l_plus))
  have D__law_sum : Dn P w K mg base "_law_sum" 3 [("_law_some" : Str)] sp_total := dn_of G__law_sum F_l_sum.kp (F_l_sum.bindsN fun _ _ _ _ _ _ us hl => match us, hl with | [_], _ => rfl) (w_l_sum (L := L) (D__law_plus := D__law_plus) (F := fun_of F_l_sum) (ln := (fun ds h Q E hs => by obtain ⟨_, _, rfl, _⟩ := hs; rfl)) (pl := p_l_sum))
  have D_are_rows : Dn P w K mg base "are_rows" 3 [("thing" : Str)] sp_are_rows := dn_of G_are_rows F_are_rows.kp (F_are_rows.bindsN fun _ _ _ _ _ _ us hl => match us, hl with | [_], _ => rfl) (w_are_rows (L := L) (D_is_sized := D_is_sized) (g_MOST_ASKED := g_MOST_ASKED) (g_MOST_STANDINGS := g_MOST_STANDINGS) (F := fun_of F_are_rows) (ln := (fun ds h Q E hs => by obtain ⟨_, _, rfl, _⟩ := hs; rfl)) (pl := p_are_rows))
  have D_is_step : Dn P w K mg base "is_step" 4 [("words" : Str), ("standings" : Str), ("thing" : Str)] sp_is_step := dn_of G_is_step F_is_step.kp (F_is_step.bindsN fun _ _ _ _ _ _ us hl => match us, hl with | [_, _, _], _ => rfl) (w_is_step (L := L) (D_is_within := D_is_within) (D_is_triple := D_is_triple) (D_is_share := D_is_share) (F := fun_of F_is_step) (ln := (fun ds h Q E hs => by obtain ⟨_, _, _, _, rfl, _⟩ := hs; rfl)) (pl := p_is_step))
  have D_are_steps : Dn P w K mg base "are_steps" 6 [("words" : Str), ("standings" : Str), ("thing" : Str)] sp_are_steps := dn_of G_are_steps F_are_steps.kp (F_are_steps.bindsN fun _ _ _ _ _ _ us hl => match us, hl with | [_, _, _], _ => rfl) (w_are_steps (L := L) (D_is_step := D_is_step) (D_is_sized := D_is_sized) (D_are_shares := D_are_shares) (g_MOST_TRIPLES := g_MOST_TRIPLES) (F := fun_of F_are_steps) (ln := (fun ds h Q E hs => by obtain ⟨_, _, _, _, rfl, _⟩ := hs; rfl)) (pl := p_are_steps))
  have D_check_rows : Dn P w K mg base "check_rows" 7 [("worlds" : Str), ("words" : Str), ("rows" : Str)] (sp_check_rows K) := dn_of G_check_rows F_check_rows.kp (F_check_rows.bindsN fun _ _ _ _ _ _ us hl => match us, hl with | [_, _, _], _ => rfl) (w_check_rows (L := L) (D_is_sized := D_is_sized) (D_are_steps := D_are_steps) (E_BadMachine := E_BadMachine) (F := fun_of F_check_rows) (ln := (fun ds h Q E hs => by obtain ⟨_, _, _, _, rfl, _⟩ := hs; rfl)) (pl := p_check_rows))
  have F1_Machine_init : GF P w K mg base 8 (He.ma K (He.ga K "Machine") "__init__") fd_Machine_init [("self" : Str), ("worlds" : Str), ("words" : Str), ("rows" : Str)] (sp_Machine_init K) := w_Machine_init (L := L) (D_is_within := D_is_within) (D_are_rows := D_are_rows) (D_check_rows := D_check_rows) (g_MOST_WORLDS := g_MOST_WORLDS) (g_MOST_WORDS := g_MOST_WORDS) (E_BadMachine := E_BadMachine) (F := fun_of F_Machine_init) (ln := (fun ds h Q E hs => by obtain ⟨_, _, _, _, _, _, _, rfl, _⟩ := hs; rfl)) (pl := (p_Machine_init C_Machine N_Machine_worlds N_Machine_words N_Machine_rows))
  have D_Machine : Dm P w K mg base "Machine" (He.ga K "Machine") 8 [("self" : Str), ("worlds" : Str), ("words" : Str), ("rows" : Str)] (sp_Machine_init K) := ⟨_, fd_Machine_init, K_Machine, G_Machine, (F_Machine_init.bindsN fun _ _ _ _ _ _ us hl => match us, hl with | [_, _, _, _], _ => rfl), F1_Machine_init⟩
  have D__law_steps : Dn P w K mg base "_law_steps" 3 [("_law_hand_here" : Str), ("_law_words" : Str), ("_law_standings" : Str)] sp_l_steps := dn_of G__law_steps F_l_steps.kp (F_l_steps.bindsN fun _ _ _ _ _ _ us hl => match us, hl with | [_, _, _], _ => rfl) (w_l_steps (L := L) (D__law_draw := D__law_draw) (D__law_any := D__law_any) (D__law_low := D__law_low) (F := fun_of F_l_steps) (ln := (fun ds h Q E hs => by obtain ⟨_, _, _, _, rfl, _⟩ := hs; rfl)) (pl := p_l_steps))
  have D__law_rows : Dn P w K mg base "_law_rows" 4 [("_law_hand_here" : Str), ("_law_worlds" : Str), ("_law_words" : Str), ("_law_asked" : Str), ("_law_standings" : Str)] sp_l_rows := dn_of G__law_rows F_l_rows.kp (F_l_rows.bindsN fun _ _ _ _ _ _ us hl => match us, hl with | [_, _, _, _, _], _ => rfl) (w_l_rows (L := L) (D__law_steps := D__law_steps) (D__law_draw := D__law_draw) (F := fun_of F_l_rows) (ln := (fun ds h Q E hs => by obtain ⟨_, _, _, _, _, _, rfl, _⟩ := hs; rfl)) (pl := p_l_rows))
  have D_times : Dn P w K mg base "times" 3 [("one" : Str), ("other" : Str)] sp_times := dn_of G_times F_times.kp (F_times.bindsN fun _ _ _ _ _ _ us hl => match us, hl with | [_, _], _ => rfl) (w_times (L := L) (D_lowest := D_lowest) (F := fun_of F_times) (ln := (fun ds h Q E hs => by obtain ⟨_, _, rfl, _⟩ := hs; rfl)) (pl := p_times))
  have D__law_times : Dn P w K mg base "_law_times" 2 [("_law_one" : Str), ("_law_other" : Str)] sp_times := dn_of G__law_times F_l_times.kp (F_l_times.bindsN fun _ _ _ _ _ _ us hl => match us, hl with | [_, _], _ => rfl) (w_l_times (L := L) (D__law_low := D__law_low) (F := fun_of F_l_times) (ln := (fun ds h Q E hs => by obtain ⟨_, _, rfl, _⟩ := hs; rfl)) (pl := p_l_times))
  have D_many_asked : Dn P w K mg base "many_asked" 1 [("machine" : Str)] (sp_many_asked K) := dn_of G_many_asked F_many_asked.kp (F_many_asked.bindsN fun _ _ _ _ _ _ us hl => match us, hl with | [_], _ => rfl) (w_many_asked (L := L) (F := fun_of F_many_asked) (ln := (fun ds h Q E hs => by obtain ⟨_, _, _, _, _, rfl, _⟩ := hs; rfl)) (pl := (p_many_asked C_Machine N_Machine_rows)))
  have D_first_spread : Dn P w K mg base "first_spread" 1 [("machine" : Str)] (sp_first_spread K) := dn_of G_first_spread F_first_spread.kp (F_first_spread.bindsN fun _ _ _ _ _ _ us hl => match us, hl with | [_], _ => rfl) (w_first_spread (L := L) (g_ONE := g_ONE) (g_NOUGHT := g_NOUGHT) (F := fun_of F_first_spread) (ln := (fun ds h Q E hs => by obtain ⟨_, _, _, _, rfl, _⟩ := hs; rfl)) (pl := (p_first_spread C_Machine N_Machine_rows)))
  have D_spread_behind : Dn P w K mg base "spread_behind" 4 [("machine" : Str), ("world" : Str), ("spread" : Str), ("question" : Str), ("word" : Str)] (sp_spread_behind K) := dn_of G_spread_behind F_spread_behind.kp (F_spread_behind.bindsN fun _ _ _ _ _ _ us hl => match us, hl with | [_, _, _, _, _], _ => rfl) (w_spread_behind (L := L) (D_times := D_times) (D_plus := D_plus) (g_NOUGHT := g_NOUGHT) (F := fun_of F_spread_behind) (ln := (fun ds h Q E hs => by obtain ⟨_, _, _, _, _, _, _, _, _, _, _, _, rfl, _⟩ := hs; rfl)) (pl := (p_spread_behind C_Machine N_Machine_rows)))
  have D_spreads_behind : Dn P w K mg base "spreads_behind" 5 [("machine" : Str), ("spreads" : Str), ("question" : Str), ("word" : Str)] (sp_spreads_behind K) := dn_of G_spreads_behind F_spreads_behind.kp (F_spreads_behind.bindsN fun _ _ _ _ _ _ us hl => match us, hl with | [_, _, _, _], _ => rfl) (w_spreads_behind (L := L) (D_spread_behind := D_spread_behind) (F := fun_of F_spreads_behind) (ln := (fun ds h Q E hs => by obtain ⟨_, _, _, _, _, _, _, _, _, _, _, rfl, _⟩ := hs; rfl)) (pl := (p_spreads_behind)))
  have D__law_behind : Dn P w K mg base "_law_behind" 3 [("_law_rows_here" : Str), ("_law_world" : Str), ("_law_spread" : Str), ("_law_question" : Str), ("_law_word" : Str)] sp_l_behind := dn_of G__law_behind F_l_behind.kp (F_l_behind.bindsN fun _ _ _ _ _ _ us hl => match us, hl with | [_, _, _, _, _], _ => rfl) (w_l_behind (L := L) (D__law_times := D__law_times) (D__law_plus := D__law_plus) (F := fun_of F_l_behind) (ln := (fun ds h Q E hs => by obtain ⟨_, _, _, _, _, _, _, _, _, _, _, rfl, _⟩ := hs; rfl)) (pl := p_l_behind))
  have D__law_first : Dn P w K mg base "_law_first" 1 [("_law_rows_here" : Str)] sp_l_first := dn_of G__law_first F_l_first.kp (F_l_first.bindsN fun _ _ _ _ _ _ us hl => match us, hl with | [_], _ => rfl) (w_l_first (L := L) (F := fun_of F_l_first) (ln := (fun ds h Q E hs => by obtain ⟨_, rfl, _⟩ := hs; rfl)) (pl := p_l_first))
  have R_count_answers : ∀ n, GF P w K mg base (n) (He.ga K "count_answers") fd_count_answers [("node" : Str)] ((sp_count_answers (n))) := fun n => by
    induction n with
    | zero => exact gf_no (fun ds h Q E hs => hs.elim)
    | succ n ih => exact w_count_answers (L := L) (D_count_answers := (dn_of G_count_answers F_count_answers.kp (F_count_answers.bindsN fun _ _ _ _ _ _ us hl => match us, hl with | [_], _ => rfl) ih)) (F := fun_of F_count_answers) (ln := (fun ds h Q E hs => by obtain ⟨_, rfl, _⟩ := hs; rfl)) (pl := (p_count_answers n))
  have D_count_answers : Dn P w K mg base "count_answers" 14 [("node" : Str)] (sp_count_answers 13) := dn_of G_count_answers F_count_answers.kp (F_count_answers.bindsN fun _ _ _ _ _ _ us hl => match us, hl with | [_], _ => rfl) ((R_count_answers 13).mono (by decide))
  have R_most_rounds : ∀ n, GF P w K mg base (n) (He.ga K "most_rounds") fd_most_rounds [("node" : Str)] ((sp_most_rounds (n))) := fun n => by
    induction n with
    | zero => exact gf_no (fun ds h Q E hs => hs.elim)
    | succ n ih => exact w_most_rounds (L := L) (D_most_rounds := (dn_of G_most_rounds F_most_rounds.kp (F_most_rounds.bindsN fun _ _ _ _ _ _ us hl => match us, hl with | [_], _ => rfl) ih)) (F := fun_of F_most_rounds) (ln := (fun ds h Q E hs => by obtain ⟨_, rfl, _⟩ := hs; rfl)) (pl := (p_most_rounds n))
  have D_most_rounds : Dn P w K mg base "most_rounds" 14 [("node" : Str)] (sp_most_rounds 13) := dn_of G_most_rounds F_most_rounds.kp (F_most_rounds.bindsN fun _ _ _ _ _ _ us hl => match us, hl with | [_], _ => rfl) ((R_most_rounds 13).mono (by decide))
  have D_is_integerX : Dn P w K mg base "is_integer" 1 [("thing" : Str)] (sp_is_integerX K) := dn_of G_is_integer F_is_integer.kp (F_is_integer.bindsN fun _ _ _ _ _ _ us hl => match us, hl with | [_], _ => rfl) (w_is_integerX (L := L) (F := fun_of F_is_integer) (ln := (fun ds h Q E hs => hs.1)) (pl := p_is_integerX))
  have D_is_withinX : Dn P w K mg base "is_within" 2 [("thing" : Str), ("least" : Str), ("most" : Str)] (sp_is_withinX K) := dn_of G_is_within F_is_within.kp (F_is_within.bindsN fun _ _ _ _ _ _ us hl => match us, hl with | [_, _, _], _ => rfl) (w_is_withinX (L := L) (D_is_integerX := D_is_integerX) (F := fun_of F_is_within) (ln := (fun ds h Q E hs => hs.1)) (pl := p_is_withinX))
  have D_check_number : Dn P w K mg base "check_number" 3 [("thing" : Str), ("least" : Str), ("most" : Str)] (sp_check_number K) := dn_of G_check_number F_check_number.kp (F_check_number.bindsN fun _ _ _ _ _ _ us hl => match us, hl with | [_, _, _], _ => rfl) (w_check_number (L := L) (D_is_withinX := D_is_withinX) (E_NoNumber := E_NoNumber) (F := fun_of F_check_number) (ln := (fun ds h Q E hs => by obtain ⟨_, _, _, rfl, _⟩ := hs; rfl)) (pl := p_check_number))
  have D_totalT : Dn P w K mg base "total" 4 [("fractions" : Str)] sp_totalT := dn_of G_total F_total.kp (F_total.bindsN fun _ _ _ _ _ _ us hl => match us, hl with | [_], _ => rfl) (w_totalT (L := L) (D_plus := D_plus) (g_NOUGHT := g_NOUGHT) (F := fun_of F_total) (ln := (fun ds h Q E hs => by obtain ⟨_, rfl, _⟩ := hs; rfl)) (pl := p_totalT))
  have D__law_sumT : Dn P w K mg base "_law_sum" 3 [("_law_some" : Str)] sp_totalT := dn_of G__law_sum F_l_sum.kp (F_l_sum.bindsN fun _ _ _ _ _ _ us hl => match us, hl with | [_], _ => rfl) (w_l_sumT (L := L) (D__law_plus := D__law_plus) (F := fun_of F_l_sum) (ln := (fun ds h Q E hs => by obtain ⟨_, rfl, _⟩ := hs; rfl)) (pl := p_l_sumT))
  have F1_RawHouse_init : GF P w K mg base 1 (He.ma K (He.ga K "RawHouse") "__init__") fd_RawHouse_init [("self" : Str), ("worlds" : Str), ("tree" : Str)] (sp_RawHouse_init K) := w_RawHouse_init (L := L) (F := fun_of F_RawHouse_init) (ln := (fun ds h Q E hs => by obtain ⟨_, _, _, _, rfl, _⟩ := hs; rfl)) (pl := (p_RawHouse_init C_RawHouse N_RawHouse_worlds N_RawHouse_tree))
  have D_RawHouse : Dm P w K mg base "RawHouse" (He.ga K "RawHouse") 1 [("self" : Str), ("worlds" : Str), ("tree" : Str)] (sp_RawHouse_init K) := ⟨_, fd_RawHouse_init, K_RawHouse, G_RawHouse, (F_RawHouse_init.bindsN fun _ _ _ _ _ _ us hl => match us, hl with | [_, _, _], _ => rfl), F1_RawHouse_init⟩
  have D_made : Dn P w K mg base "made" 15 [("worlds" : Str), ("tree" : Str)] (sp_made K) := dn_of G_made F_made.kp (F_made.bindsN fun _ _ _ _ _ _ us hl => match us, hl with | [_, _], _ => rfl) (w_made (L := L) (D_count_answers := D_count_answers) (D_most_rounds := D_most_rounds) (D_RawHouse := D_RawHouse) (g_MADE_IN_ALL := g_MADE_IN_ALL) (g_MADE_ROUNDS := g_MADE_ROUNDS) (E_TooLarge := E_TooLarge) (F := fun_of F_made) (ln := (fun ds h Q E hs => by obtain ⟨_, _, rfl, _⟩ := hs; rfl)) (pl := p_made))
  have F1_Rounds_init : GF P w K mg base 1 (He.ma K (He.ga K "Rounds") "__init__") fd_Rounds_init [("self" : Str), ("machine" : Str), ("rounds" : Str)] (sp_Rounds_init K) := w_Rounds_init (L := L) (F := fun_of F_Rounds_init) (ln := (fun ds h Q E hs => by obtain ⟨_, _, _, _, rfl, _⟩ := hs; rfl)) (pl := (p_Rounds_init C_Rounds N_Rounds_machine N_Rounds_rounds N_Rounds_many))
  have D_Rounds : Dm P w K mg base "Rounds" (He.ga K "Rounds") 1 [("self" : Str), ("machine" : Str), ("rounds" : Str)] (sp_Rounds_init K) := ⟨_, fd_Rounds_init, K_Rounds, G_Rounds, (F_Rounds_init.bindsN fun _ _ _ _ _ _ us hl => match us, hl with | [_, _, _], _ => rfl), F1_Rounds_init⟩
  have RN : ∀ n, GF P w K mg base (2 * n + 11) (He.ma K (He.ga K "Rounds") "node") fd_Rounds_node [("self" : Str), ("spreads" : Str), ("left" : Str)] (sp_Rounds_node K n) ∧ GF P w K mg base (2 * n + 10) (He.ma K (He.ga K "Rounds") "question") fd_Rounds_question [("self" : Str), ("spreads" : Str), ("number" : Str), ("left" : Str)] (sp_Rounds_question K n) := fun n => by
    induction n with
    | zero =>
      have q0 : GF P w K mg base (2 * 0 + 10) (He.ma K (He.ga K "Rounds") "question") fd_Rounds_question [("self" : Str), ("spreads" : Str), ("number" : Str), ("left" : Str)] (sp_Rounds_question K 0) := gf_no fun ds h Q E hs => hs.elim
      exact ⟨w_Rounds_node (L := L) (D_many_asked := D_many_asked) (D_Rounds_question := ⟨⟨_, fd_Rounds_question, C_Rounds, M_Rounds_question, (F_Rounds_question.bindsN fun _ _ _ _ _ _ us hl => match us, hl with | [_, _, _, _], _ => rfl), q0⟩⟩) (F := fun_of F_Rounds_node) (ln := (fun ds h Q E hs => by obtain ⟨_, _, _, _, _, _, _, _, _, _, _, _, _, rfl, _⟩ := hs; rfl)) (pl := (p_Rounds_node 0 C_Rounds N_Rounds_machine)), q0⟩
    | succ n ih =>
      have q1 : GF P w K mg base (2 * (n + 1) + 10) (He.ma K (He.ga K "Rounds") "question") fd_Rounds_question [("self" : Str), ("spreads" : Str), ("number" : Str), ("left" : Str)] (sp_Rounds_question K (n + 1)) := w_Rounds_question (L := L) (D_spreads_behind := D_spreads_behind) (D_totalT := D_totalT) (D_Rounds_node := ⟨⟨_, fd_Rounds_node, C_Rounds, M_Rounds_node, (F_Rounds_node.bindsN fun _ _ _ _ _ _ us hl => match us, hl with | [_, _, _], _ => rfl), ih.1⟩⟩) (g_NOUGHT := g_NOUGHT) (g_MADE_IN_ALL := g_MADE_IN_ALL) (E_TooLarge := E_TooLarge) (F := fun_of F_Rounds_question) (ln := (fun ds h Q E hs => by obtain ⟨_, _, _, _, _, _, _, _, _, _, _, _, _, _, rfl, _⟩ := hs; rfl)) (pl := (p_Rounds_question n C_Rounds N_Rounds_machine N_Rounds_many C_Machine N_Machine_words))
      exact ⟨w_Rounds_node (L := L) (D_many_asked := D_many_asked) (D_Rounds_question := ⟨⟨_, fd_Rounds_question, C_Rounds, M_Rounds_question, (F_Rounds_question.bindsN fun _ _ _ _ _ _ us hl => match us, hl with | [_, _, _, _], _ => rfl), q1⟩⟩) (F := fun_of F_Rounds_node) (ln := (fun ds h Q E hs => by obtain ⟨_, _, _, _, _, _, _, _, _, _, _, _, _, rfl, _⟩ := hs; rfl)) (pl := (p_Rounds_node (n + 1) C_Rounds N_Rounds_machine)), q1⟩
  have D_Rounds_node : Mt P w K mg base (He.ga K "Rounds") "node" 19 [("self" : Str), ("spreads" : Str), ("left" : Str)] (sp_Rounds_nodeE K) := ⟨⟨_, fd_Rounds_node, C_Rounds, M_Rounds_node, (F_Rounds_node.bindsN fun _ _ _ _ _ _ us hl => match us, hl with | [_, _, _], _ => rfl), (gf_ex fun n hn => (RN n).1.mono (by omega))⟩⟩
  have D_first_rounds : Dn P w K mg base "first_rounds" 21 [("machine" : Str), ("rounds" : Str)] (sp_first_rounds K) := dn_of G_first_rounds F_first_rounds.kp (F_first_rounds.bindsN fun _ _ _ _ _ _ us hl => match us, hl with | [_, _], _ => rfl) (w_first_rounds (L := L) (D_check_number := D_check_number) (D_first_spread := D_first_spread) (D_made := D_made) (D_Rounds := D_Rounds) (D_Rounds_node := D_Rounds_node) (g_MOST_FIRST := g_MOST_FIRST) (F := fun_of F_first_rounds) (ln := (fun ds h Q E hs => by obtain ⟨_, _, _, _, _, _, _, rfl, _⟩ := hs; rfl)) (pl := (p_first_rounds C_Machine N_Machine_worlds I_Machine (of_decide_eq_true X_kint))))
  have R_l_node : ∀ n, GF P w K mg base (n + 4) (He.ga K "_law_node") fd_l_node [("_law_parts" : Str), ("_law_spreads" : Str), ("_law_left" : Str)] ((sp_l_nodeP (n))) := fun n => by
    induction n with
    | zero => exact gf_no (fun ds h Q E hs => hs.elim)
    | succ n ih => exact w_l_node (L := L) (D__law_behind := D__law_behind) (D__law_sumT := D__law_sumT) (D__law_node := (dn_of G__law_node F_l_node.kp (F_l_node.bindsN fun _ _ _ _ _ _ us hl => match us, hl with | [_, _, _], _ => rfl) ih)) (F := fun_of F_l_node) (ln := (fun ds h Q E hs => by obtain ⟨_, _, _, _, _, _, _, _, _, rfl, _⟩ := hs; rfl)) (pl := (p_l_node n))
  have D__law_node : Dn P w K mg base "_law_node" (4 + 5) [("_law_parts" : Str), ("_law_spreads" : Str), ("_law_left" : Str)] sp_l_nodeE := dn_of G__law_node F_l_node.kp (F_l_node.bindsN fun _ _ _ _ _ _ us hl => match us, hl with | [_, _, _], _ => rfl) (gf_ex fun n hn => (R_l_node (n + 1)).mono (by omega))
  have D__law_great : Dn P w K mg base "_law_great" 3 [("_law_hand_here" : Str), ("_law_worlds" : Str), ("_law_words" : Str), ("_law_asked" : Str)] sp_l_great := dn_of G__law_great F_l_great.kp (F_l_great.bindsN fun _ _ _ _ _ _ us hl => match us, hl with | [_, _, _, _], _ => rfl) (w_l_great (L := L) (F := fun_of F_l_great) (ln := (fun ds h Q E hs => by obtain ⟨_, _, _, _, rfl, _⟩ := hs; rfl)) (pl := p_l_great))
  have D__law_told : Dn P w K mg base "_law_told" 23 [("_law_machine" : Str), ("_law_rounds" : Str)] (sp_l_told K) := dn_of G__law_told F_l_told.kp (F_l_told.bindsN fun _ _ _ _ _ _ us hl => match us, hl with | [_, _], _ => rfl) (w_l_told (L := L) (D_first_rounds := D_first_rounds) (g_House := g_House) (g_TooLarge := g_TooLarge) (g_NoNumber := g_NoNumber) (m_HouseError := G_HouseError) (F := fun_of F_l_told) (ln := (fun ds h Q E hs => by obtain ⟨_, _, _, _, _, _, _, rfl, _⟩ := hs; rfl)) (pl := (p_l_told C_RawHouse N_RawHouse_worlds N_RawHouse_tree I_RawHouse (of_decide_eq_true X_kh) (exciB_ok X_exci_TooLarge) (exciB_ok X_exci_NoNumber) (of_decide_eq_true X_mT) (of_decide_eq_true X_mN) (of_decide_eq_true X_kTT) (of_decide_eq_true X_kTN) (of_decide_eq_true X_kNT) (of_decide_eq_true X_kNN))))
  exact w_law (L := L) (D__law_hand := D__law_hand) (D__law_draw := D__law_draw) (D__law_rows := D__law_rows) (D__law_any := D__law_any) (D__law_first := D__law_first) (D__law_node := D__law_node) (D__law_told := D__law_told) (D__law_is := D__law_is) (D__law_great := D__law_great) (D_Machine := D_Machine) (F := fun_of F_law) (ln := (fun ds h Q E hs => by obtain ⟨_, rfl, _⟩ := hs; rfl)) (pl := p_law)
end K65
open PySem PySem.W PySem.Calls PyProof.Rows
theorem PySem.Challenge.cw_tellsless_k65_whole_first_rounds_of_mach_holds : PySem.Challenge.rw_tellsless_k65_whole_first_rounds_of_mach.Holds := by
  w_on; o_law
  refine HandSHeadRun.head_any (r := OpenLaw.row PySem.Challenge.rw_tellsless_k65_whole_first_rounds_of_mach) (q := view (OpenLaw.row PySem.Challenge.rw_tellsless_k65_whole_first_rounds_of_mach).prog [79]) (H := K65.hk) (ob := K65.ob) (M := 4000) (loose := K65.loose) (d := HandSHeadRun.topDef (OpenLaw.row PySem.Challenge.rw_tellsless_k65_whole_first_rounds_of_mach).prog 79) (kwd := []) K65.ob_eq
    (by kernel_rfl) (fun s => by kernel_rfl) K65.run (by kernel_rfl) (by kernel_rfl) (by kernel_rfl) (by rfl) (by first | assumption | decide +kernel) (by decide +kernel) ⟨rfl, rfl, rfl, rfl, rfl, by decide +kernel⟩ ?hw ?hc
  case hw => w_witness2
  case hc =>
    refine PD.walk_ofG (l := PySem.Challenge.rw_tellsless_k65_whole_first_rounds_of_mach) (n := 63) (k := 30) (x := "_law_script") rfl (by decide) (by kernel_rfl) ⟨by decide, by decide, by decide⟩ ?F
    intro w mg fa h Y G hmg0
    obtain ⟨K, KX, c⟩ := Y
    have hmg : mg ("law" : PySem.Str) = some (.ref fa) := by
      have e : (HandSHeadRun.topDef (OpenLaw.row PySem.Challenge.rw_tellsless_k65_whole_first_rounds_of_mach).prog 79).name = ("law" : PySem.Str) := by kernel_rfl
      rw [← e]
      exact hmg0
    obtain ⟨fd, hb, hF⟩ := K65.facts (P := (PySem.Challenge.rw_tellsless_k65_whole_first_rounds_of_mach).prog) (w := w) KX G hmg c
    exact ⟨K, fd, K65.sp_law, KX, hb, fun ns hl _ => ⟨ns, rfl, hl, rfl, fun _ => rfl⟩, hF⟩
