import PyProof.Rows.All
import Wide.All
import OpenK.AllK
import Wide.FinOn
import HandS.ForMost
import HandS.Exc
import HandS.ExcOwn
import HandS.TryOnly
import HandS.TryMany
import HandS.ExcInit
import HandS.ExcIs
import HandS.ExcField
import HandS.Wide
import HandS.TupAny
import HandS.TupLe
import HandS.TupMul
import HandS.Conv
import HandS.Style
import HandS.Zip
import HandS.Rev
import HandS.IsInst
import HandS.Strs
import HandS.SetFor
import HandS.WordsExc
import HandS.DictTup
import HandS.DictComp
import KE.KDictKeyed
import KE.KeyNested
import KE.GoesEnum
import KE.KDictWalk
import KE.KDictLaw
import KE.KExcIs
import KE.DataFind
import HandS.Deep
import HandS.OwnEq
import HandS.RaiseMore
import PyProof.ReprRoads
import PyProof.InstNe
import HandS.Head0
import HandS.Head1
import HandS.Head2
import HandS.HeadEnd
import HandS.HeadHook4
import HandS.EndBits
import PySem.Challenge.RW_tellsless_k63_machines_refused
import PyProof.ReprLen
import KE.DataEq
-- PdA
set_option Elab.async false
set_option linter.all false
set_option maxRecDepth 100000
set_option maxHeartbeats 4000000
/-! PdA: data without addresses (D), what it means over the abstract heap, and readings over it. -/
namespace PD
open PySem PySem.Spec PyProof.Rows L2

/-- a value as data: tuples are what is in them -/
inductive D where
  | non | bl (b : Bool) | int (i : Int) | str (x : Str) | tup (xs : List D) | fl (xs : List D) | ref (a : Addr) | ty (n : String)

mutual
/-- v is d, over the abstract heap H -/
def RD (K : PySem.W.Frag) (H : Hp) : V → D → Prop
  | v, .non => v = .non
  | v, .bl b => v = .bl b
  | v, .int i => v = .int i
  | v, .str x => v = .str x
  | v, .tup ds => ∃ a vs, v = .ref a ∧ SqT K H a vs ∧ RDs K H vs ds
  | v, .fl ds => ∃ a vs, v = .ref a ∧ ((∃ o, H a = some (.frz o (.lst vs))) ∨ SqL K (fun _ => Option.none) a vs) ∧ RDs K H vs ds
  | v, .ref a => v = .ref a
  | v, .ty n => v = .ty n
def RDs (K : PySem.W.Frag) (H : Hp) : List V → List D → Prop
  | vs, [] => vs = []
  | vs, d :: ds => ∃ v r, vs = v :: r ∧ RD K H v d ∧ RDs K H r ds
end

/-- what never changes -/
def Imm : HO → Bool
  | .tup _ => true
  | .frz _ _ => true
  | _ => false
def Kep (H H' : Hp) : Prop := ∀ a o, H a = some o → Imm o = true → H' a = some o
theorem Kep.refl (H : Hp) : Kep H H := fun _ _ h _ => h
theorem Kep.trans {H H1 H2 : Hp} (a : Kep H H1) (b : Kep H1 H2) : Kep H H2 := fun x o h i => b x o (a x o h i) i
theorem Kep.sqt {K : PySem.W.Frag} {H H' : Hp} {a : Addr} {xs : List V} (t : Kep H H') (h : SqT K H a xs) : SqT K H' a xs := by
  rcases h with (h | ⟨o, h⟩) | h
  · exact .inl (.inl (t _ _ h rfl))
  · exact .inl (.inr ⟨o, t _ _ h rfl⟩)
  · exact .inr h
mutual
theorem RD.mono {K : PySem.W.Frag} {H H' : Hp} (t : Kep H H') : ∀ {d : D} {v : V}, RD K H v d → RD K H' v d
  | .non, _, h => h
  | .bl _, _, h => h
  | .int _, _, h => h
  | .str _, _, h => h
  | .ref _, _, h => h
  | .ty _, _, h => h
  | .tup ds, _, h => by
    obtain ⟨a, vs, e, q, r⟩ := h
    exact ⟨a, vs, e, t.sqt q, RDs.mono t r⟩
  | .fl ds, _, h => by
    obtain ⟨a, vs, e, q, r⟩ := h
    refine ⟨a, vs, e, ?_, RDs.mono t r⟩
    rcases q with ⟨o, q⟩ | q
    · exact .inl ⟨o, t _ _ q rfl⟩
    · exact .inr q
theorem RDs.mono {K : PySem.W.Frag} {H H' : Hp} (t : Kep H H') : ∀ {ds : List D} {vs : List V}, RDs K H vs ds → RDs K H' vs ds
  | [], _, h => h
  | d :: ds, _, h => by
    obtain ⟨v, r, e, q, s⟩ := h
    exact ⟨v, r, e, RD.mono t q, RDs.mono t s⟩
end
section
variable {K : PySem.W.Frag} {H : Hp}
theorem RDs.length : ∀ {ds : List D} {vs : List V}, RDs K H vs ds → vs.length = ds.length
  | [], _, h => by cases h; rfl
  | d :: ds, _, h => by
    obtain ⟨v, r, rfl, _, s⟩ := h
    rw [List.length_cons, List.length_cons, RDs.length s]
theorem RDs.get : ∀ {ds : List D} {vs : List V} {i : Nat} {d : D}, RDs K H vs ds → ds[i]? = some d → ∃ v, vs[i]? = some v ∧ RD K H v d
  | [], _, _, _, _, e => by simp at e
  | d :: ds, _, 0, _, h, e => by
    obtain ⟨v, r, rfl, q, _⟩ := h
    cases e
    exact ⟨v, rfl, q⟩
  | d :: ds, _, i + 1, _, h, e => by
    obtain ⟨v, r, rfl, _, s⟩ := h
    exact RDs.get (i := i) s (by simpa using e)
theorem RDs.getV : ∀ {ds : List D} {vs : List V} {i : Nat} {v : V}, RDs K H vs ds → vs[i]? = some v → ∃ d, ds[i]? = some d ∧ RD K H v d
  | [], _, _, _, h, e => by cases h; simp at e
  | d :: ds, _, 0, _, h, e => by
    obtain ⟨v, r, rfl, q, _⟩ := h
    cases e
    exact ⟨d, rfl, q⟩
  | d :: ds, _, i + 1, _, h, e => by
    obtain ⟨v, r, rfl, _, s⟩ := h
    exact RDs.getV (i := i) s (by simpa using e)
theorem RDs.append : ∀ {ds es : List D} {vs ws : List V}, RDs K H vs ds → RDs K H ws es → RDs K H (vs ++ ws) (ds ++ es)
  | [], _, _, _, h, s => by cases h; exact s
  | d :: ds, _, _, _, h, s => by
    obtain ⟨v, r, rfl, q, t⟩ := h
    exact ⟨v, r ++ _, rfl, q, RDs.append t s⟩
theorem RDs.take : ∀ {ds : List D} {vs : List V} (n : Nat), RDs K H vs ds → RDs K H (vs.take n) (ds.take n)
  | _, _, 0, _ => by rw [List.take_zero, List.take_zero]; rfl
  | [], _, n + 1, h => by cases h; rfl
  | d :: ds, _, n + 1, h => by
    obtain ⟨v, r, rfl, q, t⟩ := h
    exact ⟨v, r.take n, rfl, q, RDs.take n t⟩
theorem RDs.drop : ∀ {ds : List D} {vs : List V} (n : Nat), RDs K H vs ds → RDs K H (vs.drop n) (ds.drop n)
  | _, _, 0, h => h
  | [], _, n + 1, h => by cases h; rfl
  | d :: ds, _, n + 1, h => by
    obtain ⟨v, r, rfl, q, t⟩ := h
    exact RDs.drop n t
theorem RDs.set : ∀ {ds : List D} {vs : List V} (i : Nat) {v : V} {d : D}, RD K H v d → RDs K H vs ds → RDs K H (vs.set i v) (ds.set i d)
  | [], _, _, _, _, _, h => by cases h; rfl
  | d :: ds, _, 0, v, d', q, h => by
    obtain ⟨u, r, rfl, _, t⟩ := h
    exact ⟨v, r, rfl, q, t⟩
  | d :: ds, _, i + 1, v, d', q, h => by
    obtain ⟨u, r, rfl, p, t⟩ := h
    exact ⟨u, r.set i v, rfl, p, RDs.set i q t⟩
theorem RDs.nil_iff {ds : List D} {vs : List V} (h : RDs K H vs ds) : vs = [] ↔ ds = [] := by
  cases ds with
  | nil => cases h; simp
  | cons d ds => obtain ⟨v, r, rfl, _⟩ := h; simp
theorem RDs.rep {ds : List D} {vs : List V} (h : RDs K H vs ds) : ∀ k : Nat, RDs K H (List.replicate k vs).flatten (List.replicate k ds).flatten
  | 0 => rfl
  | k + 1 => by
    rw [List.replicate_succ, List.replicate_succ, List.flatten_cons, List.flatten_cons]
    exact h.append (RDs.rep h k)
theorem RDs.dropLast {ds : List D} {vs : List V} (h : RDs K H vs ds) : RDs K H vs.dropLast ds.dropLast := by
  rw [List.dropLast_eq_take, List.dropLast_eq_take, h.length]
  exact h.take _
theorem RDs.bls : ∀ {bs : List Bool} {vs : List V}, RDs K H vs (bs.map D.bl) → vs = bs.map V.bl
  | [], _, h => h
  | b :: bs, _, h => by
    obtain ⟨v, r, rfl, q, t⟩ := h
    cases (show v = V.bl b from q)
    rw [RDs.bls t]
    rfl
theorem RDs.ints : ∀ {bs : List Int} {vs : List V}, RDs K H vs (bs.map D.int) → vs = bs.map V.int
  | [], _, h => h
  | b :: bs, _, h => by
    obtain ⟨v, r, rfl, q, t⟩ := h
    cases (show v = V.int b from q)
    rw [RDs.ints t]
    rfl
theorem RDs.strs : ∀ {bs : List Str} {vs : List V}, RDs K H vs (bs.map D.str) → vs = bs.map V.str
  | [], _, h => h
  | b :: bs, _, h => by
    obtain ⟨v, r, rfl, q, t⟩ := h
    cases (show v = V.str b from q)
    rw [RDs.strs t]
    rfl
theorem RDs.ofInts : ∀ (bs : List Int), RDs K H (bs.map V.int) (bs.map D.int)
  | [] => rfl
  | b :: bs => ⟨_, _, rfl, rfl, RDs.ofInts bs⟩
theorem RDs.reverse : ∀ {ds : List D} {vs : List V}, RDs K H vs ds → RDs K H vs.reverse ds.reverse
  | [], _, h => by cases h; rfl
  | d :: ds, _, h => by
    obtain ⟨v, r, rfl, q, t⟩ := h
    rw [List.reverse_cons, List.reverse_cons]
    exact (RDs.reverse t).append ⟨v, [], rfl, q, rfl⟩
end


mutual
def nk : D → NestedKey
  | .non => .none
  | .bl b => .num (if b = true then 1 else 0)
  | .int i => .num i
  | .str x => .text x
  | .tup ds => .tup (nks ds)
  | .fl _ => .none
  | .ref _ => .none
  | .ty _ => .none
def nks : List D → List NestedKey
  | [] => []
  | d :: ds => nk d :: nks ds
end
mutual
def nkOk : D → Bool
  | .non => true
  | .bl _ => true
  | .int _ => true
  | .str _ => true
  | .tup ds => nksOk ds
  | .fl _ => false
  | .ref _ => false
  | .ty _ => false
def nksOk : List D → Bool
  | [] => true
  | d :: ds => nkOk d && nksOk ds
end
abbrev KX := NestedKey × Addr × V
def RelX (p : KX) (q : NestedKey × Addr × Value) : Prop := p.1 = q.1 ∧ p.2.1 = q.2.1 ∧ RelV p.2.2 q.2.2
/-- a dict, its keys tuples -/
def dictO (P : Program) (w : World) (a : Addr) (o : Obj) (xs : List KX) : HO := .ext fun h => h.get? a = some o ∧ (a == sysModules) = false ∧ xs.length ≤ sizeLine ∧ o.ExactDict ∧
  ∃ (ys : List (NestedKey × Addr × Value)) (es : Array DictEntry) (ep : Nat), Paired RelX xs ys ∧ o.data = .dict es ep ∧ es.toList = ys.map (entryOfKey (nestedKind P w)) ∧ (ys.map (·.1)).Nodup
def kyT : D → Bool
  | .tup ds => nksOk ds
  | _ => false
def RKs (K : PySem.W.Frag) (H : Hp) : List KX → List (D × D) → Prop
  | xs, [] => xs = []
  | xs, d :: r => ∃ b v xr, xs = (nk d.1, b, v) :: xr ∧ kyT d.1 = true ∧ (nk d.1).depth ≤ 8 ∧ RD K H (.ref b) d.1 ∧ RD K H v d.2 ∧ RKs K H xr r
theorem RKs.mono {K : PySem.W.Frag} {H H' : Hp} (t : Kep H H') : ∀ {ds : List (D × D)} {xs : List KX}, RKs K H xs ds → RKs K H' xs ds
  | [], _, h => h
  | d :: ds, _, h => by
    obtain ⟨b, v, r, e, k, z, q1, q2, s⟩ := h
    exact ⟨b, v, r, e, k, z, q1.mono t, q2.mono t, RKs.mono t s⟩
theorem RKs.length {K : PySem.W.Frag} {H : Hp} : ∀ {ds : List (D × D)} {xs : List KX}, RKs K H xs ds → xs.length = ds.length
  | [], _, h => by cases h; rfl
  | d :: ds, _, h => by
    obtain ⟨b, v, r, rfl, k, z, q1, q2, s⟩ := h
    rw [List.length_cons, List.length_cons, RKs.length s]

/-- the objects that are told, as data -/
inductive OB where
  | dN (P : Program) (w : World) (kvs : List (D × D))
  | lkN (P : Program) (w : World) (o : Obj) (xs : List KX) (kvs : List (D × D))
  | lst (xs : List D)
  | dK (kvs : List (Key × D)) | dT (kvs : List (List Key × D))
  | ins (C dx : Addr) (fs : List (Str × D))
  | raw (o : HO)
abbrev HD := Addr → Option OB
def updD (h : HD) (a : Addr) (o : OB) : HD := fun b => if b = a then some o else h b
theorem updD_same {h : HD} {a : Addr} {o : OB} : updD h a o a = some o := if_pos rfl
theorem updD_ne {h : HD} {a b : Addr} {o : OB} (e : b ≠ a) : updD h a o b = h b := if_neg e

/-- pairs: the first parts equal, the second ones as told -/
def RPs {κ : Type} (K : PySem.W.Frag) (H : Hp) : List (κ × V) → List (κ × D) → Prop
  | vs, [] => vs = []
  | vs, d :: ds => ∃ v r, vs = (d.1, v) :: r ∧ RD K H v d.2 ∧ RPs K H r ds
theorem RPs.mono {κ : Type} {K : PySem.W.Frag} {H H' : Hp} (t : Kep H H') : ∀ {ds : List (κ × D)} {vs : List (κ × V)}, RPs K H vs ds → RPs K H' vs ds
  | [], _, h => h
  | d :: ds, _, h => by
    obtain ⟨v, r, e, q, s⟩ := h
    exact ⟨v, r, e, q.mono t, RPs.mono t s⟩
theorem RPs.length {κ : Type} {K : PySem.W.Frag} {H : Hp} : ∀ {ds : List (κ × D)} {vs : List (κ × V)}, RPs K H vs ds → vs.length = ds.length
  | [], _, h => by cases h; rfl
  | d :: ds, _, h => by
    obtain ⟨v, r, rfl, _, s⟩ := h
    rw [List.length_cons, List.length_cons, RPs.length s]
theorem RPs.keys {κ : Type} {K : PySem.W.Frag} {H : Hp} : ∀ {ds : List (κ × D)} {vs : List (κ × V)}, RPs K H vs ds → vs.map (·.1) = ds.map (·.1)
  | [], _, h => by cases h; rfl
  | d :: ds, _, h => by
    obtain ⟨v, r, rfl, _, s⟩ := h
    rw [List.map_cons, List.map_cons, RPs.keys s]
theorem RPs.lookup {κ : Type} [BEq κ] {K : PySem.W.Frag} {H : Hp} {f : κ} : ∀ {ds : List (κ × D)} {vs : List (κ × V)}, RPs K H vs ds →
    (∀ d, ds.lookup f = some d → ∃ v, vs.lookup f = some v ∧ RD K H v d) ∧ (ds.lookup f = none → vs.lookup f = none)
  | [], _, h => by cases h; exact ⟨fun d e => by simp at e, fun _ => rfl⟩
  | (k, d) :: ds, _, h => by
    obtain ⟨v, r, rfl, q, s⟩ := h
    have ih := RPs.lookup (f := f) s
    cases hk : f == k with
    | true =>
      refine ⟨fun d' e => ?_, fun e => ?_⟩
      · rw [List.lookup_cons, hk] at e
        cases e
        exact ⟨v, by rw [List.lookup_cons, hk], q⟩
      · rw [List.lookup_cons, hk] at e
        cases e
    | false =>
      refine ⟨fun d' e => ?_, fun e => ?_⟩
      · rw [List.lookup_cons, hk] at e
        obtain ⟨v', e', q'⟩ := ih.1 d' e
        exact ⟨v', by rw [List.lookup_cons, hk]; exact e', q'⟩
      · rw [List.lookup_cons, hk] at e
        rw [List.lookup_cons, hk]
        exact ih.2 e

def RO (K : PySem.W.Frag) (H : Hp) (a : Addr) : OB → Prop
  | .lst ds => ∃ vs, H a = some (.lst vs) ∧ RDs K H vs ds
  | .dK kvs => ∃ vs, H a = some (.dK vs) ∧ RPs K H vs kvs
  | .dT kvs => ∃ vs, H a = some (.dT vs) ∧ RPs K H vs kvs
  | .ins C dx fs => ∃ vs, H a = some (.ins C dx vs) ∧ RPs K H vs fs
  | .raw o => H a = some o
  | .dN P w kvs => ∃ o xs, H a = some (dictO P w a o xs) ∧ RKs K H xs kvs
  | .lkN P w o xs kvs => H a = some (dictO P w a o xs) ∧ RKs K H xs kvs
def RH (K : PySem.W.Frag) (H : Hp) (h : HD) : Prop := ∀ a o, h a = some o → RO K H a o
theorem RO.keep {K : PySem.W.Frag} {H H' : Hp} {a : Addr} {o : OB} (r : RO K H a o) (t : Kep H H') (e : H' a = H a) : RO K H' a o := by
  cases o with
  | lst ds => obtain ⟨vs, q, s⟩ := r; exact ⟨vs, by rw [e]; exact q, s.mono t⟩
  | dK kvs => obtain ⟨vs, q, s⟩ := r; exact ⟨vs, by rw [e]; exact q, s.mono t⟩
  | dT kvs => obtain ⟨vs, q, s⟩ := r; exact ⟨vs, by rw [e]; exact q, s.mono t⟩
  | ins C dx fs => obtain ⟨vs, q, s⟩ := r; exact ⟨vs, by rw [e]; exact q, s.mono t⟩
  | raw o => exact (show H' a = some o by rw [e]; exact r)
  | dN P w kvs => obtain ⟨o, xs, q, s⟩ := r; exact ⟨o, xs, by rw [e]; exact q, s.mono t⟩
  | lkN P w o xs kvs => obtain ⟨q, s⟩ := r; exact ⟨by rw [e]; exact q, s.mono t⟩
theorem sql_fl {K : PySem.W.Frag} {H : Hp} {a : Addr} {vs : List V} (q : (∃ o, H a = some (.frz o (.lst vs))) ∨ SqL K (fun _ => none) a vs) : SqL K H a vs := by
  rcases q with ⟨o, q⟩ | q
  · exact .inl (.inr ⟨o, q⟩)
  · rcases q with (q | ⟨o, q⟩) | q
    · cases q
    · cases q
    · exact .inr q
theorem RO.some {K : PySem.W.Frag} {H : Hp} {a : Addr} {o : OB} (r : RO K H a o) : H a ≠ none := by
  cases o with
  | lst ds => obtain ⟨vs, q, s⟩ := r; rw [q]; simp
  | dK kvs => obtain ⟨vs, q, s⟩ := r; rw [q]; simp
  | dT kvs => obtain ⟨vs, q, s⟩ := r; rw [q]; simp
  | ins C dx fs => obtain ⟨vs, q, s⟩ := r; rw [q]; simp
  | raw o => rw [show H a = _ from r]; simp
  | dN P w kvs => obtain ⟨o, xs, q, s⟩ := r; rw [q]; simp
  | lkN P w o xs kvs => obtain ⟨q, s⟩ := r; rw [q]; simp

def isTbl : HO → Bool
  | .tbl _ => true
  | _ => false
/-- from (H, h) to (H', h') -/
structure Stp (K : PySem.W.Frag) (H : Hp) (h : HD) (H' : Hp) (h' : HD) : Prop where
  ts : Kep H H'
  dm : ∀ a, H a ≠ none → H' a ≠ none
  nf : ∀ a, h' a ≠ none → h a ≠ none ∨ H a = none
  rh : RH K H' h'
  hd : ∀ a o, H a = some o → h a = none → isTbl o = false → H' a = some o
theorem Stp.refl {K : PySem.W.Frag} {H : Hp} {h : HD} (r : RH K H h) : Stp K H h H h := ⟨.refl _, fun _ q => q, fun _ q => .inl q, r, fun _ _ q _ _ => q⟩
theorem Stp.trans {K : PySem.W.Frag} {H H1 H2 : Hp} {h h1 h2 : HD} (a : Stp K H h H1 h1) (b : Stp K H1 h1 H2 h2) : Stp K H h H2 h2 :=
  ⟨a.ts.trans b.ts, fun x q => b.dm x (a.dm x q), fun x q => by
    rcases b.nf x q with q | q
    · exact a.nf x q
    · right
      cases e : H x with
      | none => rfl
      | some o => exact absurd q (a.dm x (by rw [e]; simp)), b.rh, fun x o e n i => b.hd x o (a.hd x o e n i) (by
    cases q : h1 x with
    | none => rfl
    | some u =>
      rcases a.nf x (by rw [q]; simp) with z | z
      · exact absurd n z
      · rw [e] at z; cases z) i⟩

/-- a new object is told -/
theorem Stp.new {K : PySem.W.Frag} {H : Hp} {h : HD} {p : Addr} {o : HO} {b : OB} (rh : RH K H h) (np : H p = none) (ro : RO K (upd H p o) p b) : Stp K H h (upd H p o) (updD h p b) := by
  have ts : Kep H (upd H p o) := fun a u e _ => by rw [upd_ne (ne_of_none e np)]; exact e
  refine ⟨ts, fun a q => ?_, fun a q => ?_, fun a u e => ?_, fun a u e _ _ => by rw [upd_ne (ne_of_none e np)]; exact e⟩
  · by_cases e : a = p
    · rw [e, upd_same]; simp
    · rw [upd_ne e]; exact q
  · by_cases e : a = p
    · exact .inr (by rw [e]; exact np)
    · rw [updD_ne e] at q; exact .inl q
  · by_cases q : a = p
    · subst q
      rw [updD_same] at e
      cases e
      exact ro
    · rw [updD_ne q] at e
      exact (rh a u e).keep ts (upd_ne q)
/-- a new object is not told -/
theorem Stp.hid {K : PySem.W.Frag} {H : Hp} {h : HD} {p : Addr} {o : HO} (rh : RH K H h) (np : H p = none) (hp : h p = none) : Stp K H h (upd H p o) h := by
  have ts : Kep H (upd H p o) := fun a u e _ => by rw [upd_ne (ne_of_none e np)]; exact e
  refine ⟨ts, fun a q => ?_, fun a q => .inl q, fun a u e => ?_, fun a u e _ _ => by rw [upd_ne (ne_of_none e np)]; exact e⟩
  · by_cases e : a = p
    · rw [e, upd_same]; simp
    · rw [upd_ne e]; exact q
  · have q : a ≠ p := fun z => by rw [z, hp] at e; cases e
    exact (rh a u e).keep ts (upd_ne q)
/-- an object is changed -/
theorem Stp.mut {K : PySem.W.Frag} {H : Hp} {h : HD} {p : Addr} {o o' : HO} {b : OB} (rh : RH K H h) (hp : H p = some o) (im : Imm o = false) (hb : h p ≠ none) (ro : RO K (upd H p o') p b) : Stp K H h (upd H p o') (updD h p b) := by
  have ts : Kep H (upd H p o') := fun a u e i => by
    by_cases z : a = p
    · rw [z, hp] at e
      cases e
      rw [im] at i
      cases i
    · rw [upd_ne z]; exact e
  refine ⟨ts, fun a q => ?_, fun a q => ?_, fun a u e => ?_, fun a u e n _ => by rw [upd_ne (fun z => hb (by rw [← z]; exact n))]; exact e⟩
  · by_cases e : a = p
    · rw [e, upd_same]; simp
    · rw [upd_ne e]; exact q
  · by_cases e : a = p
    · exact .inl (by rw [e]; exact hb)
    · rw [updD_ne e] at q; exact .inl q
  · by_cases q : a = p
    · subst q
      rw [updD_same] at e
      cases e
      exact ro
    · rw [updD_ne q] at e
      exact (rh a u e).keep ts (upd_ne q)
/-- what is not tracked is not told -/
theorem RH.none {K : PySem.W.Frag} {H : Hp} {h : HD} (rh : RH K H h) {p : Addr} (np : H p = Option.none) : h p = Option.none := by
  cases e : h p with
  | none => rfl
  | some o => exact absurd np (rh p o e).some

abbrev En := List (Option D)
abbrev DK := D → HD → Prop
abbrev CE := En → HD → DK → Prop
abbrev CT := En → HD → (Bool → HD → Prop) → Prop
abbrev CA := En → HD → (List D → HD → Prop) → Prop
def Sl (K : PySem.W.Frag) (σ : L2.St) (H : Hp) (ρ : En) : Prop := ρ.length = σ.length ∧ ∀ (i : Nat) (d : D), ρ[i]? = some (some d) → ∃ v, σ[i]? = some (some v) ∧ RD K H v d
theorem Sl.mono {K : PySem.W.Frag} {σ : L2.St} {H H' : Hp} {ρ : En} (t : Kep H H') (s : Sl K σ H ρ) : Sl K σ H' ρ :=
  ⟨s.1, fun i d e => by
    obtain ⟨v, q, r⟩ := s.2 i d e
    exact ⟨v, q, r.mono t⟩⟩
theorem Sl.set {K : PySem.W.Frag} {σ : L2.St} {H : Hp} {ρ : En} {i : Nat} {v : V} {d : D} (s : Sl K σ H ρ) (r : RD K H v d) : Sl K (σ.set i (some v)) H (ρ.set i (some d)) := by
  refine ⟨by rw [List.length_set, List.length_set]; exact s.1, fun j e q => ?_⟩
  by_cases hj : i = j
  · subst hj
    by_cases hl : i < ρ.length
    · rw [List.getElem?_set_self hl] at q
      cases q
      exact ⟨v, List.getElem?_set_self (by rw [← s.1]; exact hl), r⟩
    · rw [List.getElem?_eq_none (by rw [List.length_set]; omega)] at q
      cases q
  · rw [List.getElem?_set_ne hj] at q
    obtain ⟨u, e1, r1⟩ := s.2 j e q
    exact ⟨u, by rw [List.getElem?_set_ne hj]; exact e1, r1⟩

/-! ### the readings, lowered; B: the state from which it is reckoned (the def's entry, a try's) -/
abbrev Bs := Hp × HD
abbrev RB (K : PySem.W.Frag) (B : Bs) (H : Hp) (h : HD) : Prop := Stp K B.1 B.2 H h
def lowE (K : PySem.W.Frag) (B : Bs) (t : CE) : TE := fun σ H Q => ∃ ρ h Q', Sl K σ H ρ ∧ RB K B H h ∧ t ρ h Q' ∧ ∀ v d H' h', RD K H' v d → Stp K H h H' h' → Q' d h' → Q v H'
def lowT (K : PySem.W.Frag) (B : Bs) (t : CT) : TT := fun σ H Q => ∃ ρ h Q', Sl K σ H ρ ∧ RB K B H h ∧ t ρ h Q' ∧ ∀ b H' h', Stp K H h H' h' → Q' b h' → Q b H'
def lowA (K : PySem.W.Frag) (B : Bs) (t : CA) : TA := fun σ H Q => ∃ ρ h Q', Sl K σ H ρ ∧ RB K B H h ∧ t ρ h Q' ∧ ∀ vs ds H' h', RDs K H' vs ds → Stp K H h H' h' → Q' ds h' → Q vs H'
def QE (X : Cx) (B : Bs) (e : Expr) (t : CE) : Prop := PE X e (lowE X.K B t)
def QT (X : Cx) (B : Bs) (e : Expr) (t : CT) : Prop := PT X e (lowT X.K B t)
def QA (X : Cx) (B : Bs) (es : List Expr) (t : CA) : Prop := PA X es (lowA X.K B t)
/-- ends: of a statement -/
structure DE where
  nx : En → HD → Prop
  rt : DK
  bk : En → HD → Prop := fun _ _ => False
  ct : En → HD → Prop := fun _ _ => False
abbrev CS := DE → En → HD → Prop
structure LkE (K : PySem.W.Frag) (H : Hp) (h : HD) (D' : DE) (D : Ends) : Prop where
  nx : ∀ σ' ρ' H' h', Sl K σ' H' ρ' → Stp K H h H' h' → D'.nx ρ' h' → D.nx σ' H'
  rt : ∀ v d H' h', RD K H' v d → Stp K H h H' h' → D'.rt d h' → D.rt v H'
  bk : ∀ σ' ρ' H' h', Sl K σ' H' ρ' → Stp K H h H' h' → D'.bk ρ' h' → D.bk σ' H'
  ct : ∀ σ' ρ' H' h', Sl K σ' H' ρ' → Stp K H h H' h' → D'.ct ρ' h' → D.ct σ' H'
def lowS (K : PySem.W.Frag) (B : Bs) (t : CS) : L2.TS := fun D σ H => ∃ ρ h D', Sl K σ H ρ ∧ RB K B H h ∧ t D' ρ h ∧ LkE K H h D' D
def QS (X : Cx) (B : Bs) (s : Stmt) (t : CS) : Prop := PS X s (lowS X.K B t)
def QSs (X : Cx) (B : Bs) (s : List Stmt) (t : CS) : Prop := PSs X s (lowS X.K B t)
theorem LkE.step {K : PySem.W.Frag} {H H1 : Hp} {h h1 : HD} {D' : DE} {D : Ends} (l : LkE K H h D' D) (s : Stp K H h H1 h1) : LkE K H1 h1 D' D :=
  ⟨fun σ' ρ' H' h' a b c => l.nx σ' ρ' H' h' a (s.trans b) c, fun v d H' h' a b c => l.rt v d H' h' a (s.trans b) c, fun σ' ρ' H' h' a b c => l.bk σ' ρ' H' h' a (s.trans b) c, fun σ' ρ' H' h' a b c => l.ct σ' ρ' H' h' a (s.trans b) c⟩

theorem PE.imp {X : Cx} {e : Expr} {t t' : TE} (p : PE X e t') (k : ∀ σ H Q, t σ H Q → t' σ H Q) : PE X e t := ⟨fun pins s σ H Q I h => p.run pins s σ H Q I (k σ H Q h)⟩
theorem PT.imp {X : Cx} {e : Expr} {t t' : TT} (p : PT X e t') (k : ∀ σ H Q, t σ H Q → t' σ H Q) : PT X e t := ⟨fun pins s σ H Q I h => p.run pins s σ H Q I (k σ H Q h)⟩
theorem PW.imp {X : Cx} {e : Expr} {t t' : TT} (p : PW X e t') (k : ∀ σ H Q, t σ H Q → t' σ H Q) : PW X e t := ⟨fun wh pins s σ H Q I h => p.run wh pins s σ H Q I (k σ H Q h)⟩
theorem PA.imp {X : Cx} {e : List Expr} {t t' : TA} (p : PA X e t') (k : ∀ σ H Q, t σ H Q → t' σ H Q) : PA X e t := ⟨fun pos pins s σ H Q I h => p.run pos pins s σ H Q I (k σ H Q h)⟩
theorem PS.imp {X : Cx} {e : Stmt} {t t' : L2.TS} (p : PS X e t') (k : ∀ D σ H, t D σ H → t' D σ H) : PS X e t := ⟨fun pins s σ H D I h => p.run pins s σ H D I (k D σ H h)⟩
theorem PSs.imp {X : Cx} {e : List Stmt} {t t' : L2.TS} (p : PSs X e t') (k : ∀ D σ H, t D σ H → t' D σ H) : PSs X e t := ⟨fun pins s σ H D I h => p.run pins s σ H D I (k D σ H h)⟩

/-! ### names, constants -/
def cVar (i : Nat) : CE := fun ρ h Q => match ρ[i]? with
  | some (some d) => Q d h
  | _ => False
def cC (d : D) : CE := fun _ h Q => Q d h
section
variable {X : Cx} {B : Bs}
theorem qe_var {i : Nat} {x : Str} {pos : Pos} (hN : X.N[i]? = some x) (hv : Vis X.env.scope x) (hd : (x == ("__debug__" : Str)) = false := by decide) (hcd : (x == ("__classdict__" : Str)) = false := by decide) : QE X B (.Name x pos) (cVar i) := by
  refine PE.imp (pe_var hN hv hd hcd) fun σ H Q w => ?_
  obtain ⟨ρ, h, Q', sl, rh, ht, k⟩ := w
  unfold cVar at ht
  split at ht
  · rename_i d e
    obtain ⟨v, e1, r⟩ := sl.2 i d e
    exact ⟨v, e1, k v d H h r (.refl rh.rh) ht⟩
  · exact ht.elim
theorem qe_const {e : Expr} {v : V} {d : D} (p : PE X e (tC v)) (r : ∀ H, RD X.K H v d) : QE X B e (cC d) := by
  refine PE.imp p fun σ H Q w => ?_
  obtain ⟨ρ, h, Q', sl, rh, ht, k⟩ := w
  exact k v d H h (r H) (.refl rh.rh) ht
theorem qe_int {i j pos} : QE X B (.Constant (.int i) j pos) (cC (.int i)) := qe_const pe_int fun _ => rfl
theorem qe_bl {b j pos} : QE X B (.Constant (.bool b) j pos) (cC (.bl b)) := qe_const pe_bl fun _ => rfl
theorem qe_non {j pos} : QE X B (.Constant .none j pos) (cC .non) := qe_const pe_non fun _ => rfl
theorem qe_str {x j pos} : QE X B (.Constant (.str x) j pos) (cC (.str x)) := qe_const pe_str fun _ => rfl
theorem qv (i : Nat) {x : Str} {pos : Pos} (hN : X.N[i]? = some x := by rfl) (hv : Vis X.env.scope x := by first | exact Or.inl rfl | exact Or.inr (Or.inl rfl) | exact Or.inr (Or.inr rfl)) (hd : (x == ("__debug__" : Str)) = false := by decide)
    (hcd : (x == ("__classdict__" : Str)) = false := by decide) : QE X B (.Name x pos) (cVar i) := qe_var hN hv hd hcd
end

/-! ### operators by values -/
abbrev C1 := D → HD → DK → Prop
abbrev C2 := D → D → HD → DK → Prop
abbrev CL := List D → HD → DK → Prop
def low1 (K : PySem.W.Frag) (r : C1) : V → Hp → VK → Prop := fun x H Q => ∃ dx h Q', RD K H x dx ∧ RH K H h ∧ r dx h Q' ∧ ∀ v d H' h', RD K H' v d → Stp K H h H' h' → Q' d h' → Q v H'
def low2 (K : PySem.W.Frag) (r : C2) : R2 := fun x y H Q => ∃ dx dy h Q', RD K H x dx ∧ RD K H y dy ∧ RH K H h ∧ r dx dy h Q' ∧ ∀ v d H' h', RD K H' v d → Stp K H h H' h' → Q' d h' → Q v H'
def lowL (K : PySem.W.Frag) (r : CL) : List V → Hp → VK → Prop := fun xs H Q => ∃ ds h Q', RDs K H xs ds ∧ RH K H h ∧ r ds h Q' ∧ ∀ v d H' h', RD K H' v d → Stp K H h H' h' → Q' d h' → Q v H'
/-- an operator (binaryOp op, compareOp op) by data -/
abbrev OpD (X : Cx) (f : Value → Value → Sem Value) (r : C2) : Prop := OpR X f (low2 X.K r)
abbrev UnD (X : Cx) (f : Value → Sem Value) (r : C1) : Prop := UnR X f (low1 X.K r)
abbrev CallD (X : Cx) (f : Value) (r : CL) : Prop := CallR X f (lowL X.K r)
abbrev IxD (X : Cx) (r : C2) : Prop := IxR X (low2 X.K r)

def cOp (r : C2) (ta tb : CE) : CE := fun ρ h Q => ta ρ h fun x h1 => tb ρ h1 fun y h2 => r x y h2 Q
def cUn (r : C1) (ta : CE) : CE := fun ρ h Q => ta ρ h fun x h1 => r x h1 Q
def cNil : CA := fun _ h Q => Q [] h
def cCons (t : CE) (u : CA) : CA := fun ρ h Q => t ρ h fun x h1 => u ρ h1 fun xs h2 => Q (x :: xs) h2
def cCall (r : CL) (t : CA) : CE := fun ρ h Q => t ρ h fun xs h1 => r xs h1 Q
section
variable {K : PySem.W.Frag} {B : Bs} {ta tb : CE}
theorem low_op {r : C2} {σ : L2.St} {H : Hp} {Q : VK} (w : lowE K B (cOp r ta tb) σ H Q) : tOp (low2 K r) (lowE K B ta) (lowE K B tb) σ H Q := by
  obtain ⟨ρ, h, Q', sl, rh, ht, k⟩ := w
  refine ⟨ρ, h, _, sl, rh, ht, fun v d H1 h1 rv s1 q1 => ?_⟩
  refine ⟨ρ, h1, _, sl.mono s1.ts, rh.trans s1, q1, fun u e H2 h2 ru s2 q2 => ?_⟩
  exact ⟨d, e, h2, Q', rv.mono s2.ts, ru, s2.rh, q2, fun v' d' H' h' r' s' q' => k v' d' H' h' r' ((s1.trans s2).trans s') q'⟩
theorem low_un {r : C1} {σ : L2.St} {H : Hp} {Q : VK} (w : lowE K B (cUn r ta) σ H Q) : tUn (low1 K r) (lowE K B ta) σ H Q := by
  obtain ⟨ρ, h, Q', sl, rh, ht, k⟩ := w
  refine ⟨ρ, h, _, sl, rh, ht, fun v d H1 h1 rv s1 q1 => ?_⟩
  exact ⟨d, h1, Q', rv, s1.rh, q1, fun v' d' H' h' r' s' q' => k v' d' H' h' r' (s1.trans s') q'⟩
theorem low_cons {u : CA} {σ : L2.St} {H : Hp} {Q : List V → Hp → Prop} (w : lowA K B (cCons ta u) σ H Q) : tCons (lowE K B ta) (lowA K B u) σ H Q := by
  obtain ⟨ρ, h, Q', sl, rh, ht, k⟩ := w
  refine ⟨ρ, h, _, sl, rh, ht, fun v d H1 h1 rv s1 q1 => ?_⟩
  refine ⟨ρ, h1, _, sl.mono s1.ts, rh.trans s1, q1, fun vs ds H2 h2 rvs s2 q2 => ?_⟩
  exact k (v :: vs) (d :: ds) H2 h2 ⟨v, vs, rfl, rv.mono s2.ts, rvs⟩ (s1.trans s2) q2
theorem low_call {r : CL} {t : CA} {σ : L2.St} {H : Hp} {Q : VK} (w : lowE K B (cCall r t) σ H Q) : tCB (lowL K r) (lowA K B t) σ H Q := by
  obtain ⟨ρ, h, Q', sl, rh, ht, k⟩ := w
  refine ⟨ρ, h, _, sl, rh, ht, fun vs ds H1 h1 rv s1 q1 => ?_⟩
  exact ⟨ds, h1, Q', rv, s1.rh, q1, fun v' d' H' h' r' s' q' => k v' d' H' h' r' (s1.trans s') q'⟩
end
section
variable {X : Cx} {B : Bs} {a b e : Expr} {es : List Expr} {ta tb te : CE} {u : CA} {pos : Pos}
theorem qe_op {op : Operator} {r : C2} (ho : OpD X (binaryOp op) r) (ha : QE X B a ta) (hb : QE X B b tb) : QE X B (.BinOp a op b pos) (cOp r ta tb) := PE.imp (pe_op ho ha hb) fun _ _ _ => low_op
theorem qe_un {op : UnaryOp} {r : C1} (ho : UnD X (unaryOp op) r) (ha : QE X B a ta) : QE X B (.UnaryOp op a pos) (cUn r ta) := PE.imp (pe_un ho ha) fun _ _ _ => low_un
theorem qe_cmp {op : CmpOp} {r : C2} (ho : OpD X (compareOp op) r) (ha : QE X B a ta) (hb : QE X B b tb) (hm : behindInMarks op b = false := by first | exact nomark _ | rfl) : QE X B (.Compare a [op] [b] pos) (cOp r ta tb) := PE.imp (pe_cmpR ho ha hb hm) fun _ _ _ => low_op
theorem qe_ix {r : C2} (ho : IxD X r) (ha : QE X B a ta) (hb : QE X B b tb) (hs : PlainIx b) : QE X B (.Subscript a b pos) (cOp r ta tb) := PE.imp (pe_ix ho ha hb hs) fun _ _ _ => low_op
theorem qa_nil : QA X B [] cNil := PA.imp pa_nil fun σ H Q w => by
  obtain ⟨ρ, h, Q', sl, rh, ht, k⟩ := w
  exact k [] [] H h rfl (.refl rh.rh) ht
theorem qa_cons (ha : QE X B e te) (hr : QA X B es u) (hs : starEach (e :: es) X.env = (false, eval e X.env) :: starEach es X.env := by rfl) : QA X B (e :: es) (cCons te u) := PA.imp (pa_cons ha hr hs) fun _ _ _ => low_cons
theorem qe_callB {x : Str} {p : Pos} {id : String} {r : CL} (hc : CallD X (.builtin id) r) (hg : Gl X x) (hm : X.mg x = none) (hv : bootBuiltins x = some (.builtin id)) (ha : QA X B (e :: es) u)
    (hn : x ≠ "__name__" := by decide) (hdb : (x == ("__debug__" : Str)) = false := by decide) (he : starEach (e :: es) X.env = (false, eval e X.env) :: starEach es X.env := by rfl)
    (hpl : (backTo pos (starEach es X.env)).any (·.1) = false := by rfl) : QE X B (.Call (.Name x p) (e :: es) [] pos) (cCall r u) := PE.imp (pe_callB hc hg hm hv ha hn hdb he hpl) fun _ _ _ => low_call
theorem qe_callTy {x : Str} {p : Pos} {T : String} {r : CL} (hc : CallD X (.type T) r) (hg : Gl X x) (hm : X.mg x = none) (hv : bootBuiltins x = some (.type T)) (ha : QA X B (e :: es) u)
    (hn : x ≠ "__name__" := by decide) (hdb : (x == ("__debug__" : Str)) = false := by decide) (he : starEach (e :: es) X.env = (false, eval e X.env) :: starEach es X.env := by rfl)
    (hpl : (backTo pos (starEach es X.env)).any (·.1) = false := by rfl) : QE X B (.Call (.Name x p) (e :: es) [] pos) (cCall r u) := PE.imp (pe_callTy hc hg hm hv ha hn hdb he hpl) fun _ _ _ => low_call
end
end PD

-- PdB
set_option Elab.async false
set_option linter.all false
set_option maxRecDepth 100000
set_option maxHeartbeats 4000000
/-! PdB: operators, comparisons, items, slices, built-in calls, by data. -/
namespace PD
open PySem PySem.Spec PyProof.Rows L2

/-! ### data as the library's data -/
mutual
def toP : D → PyData
  | .non => .none
  | .bl b => .bool b
  | .int i => .int i
  | .str x => .str x
  | .tup ds => .tuple (toPs ds)
  | .fl ds => .list (toPs ds)
  | .ref _ => .none
  | .ty _ => .none
def toPs : List D → List PyData
  | [] => []
  | d :: ds => toP d :: toPs ds
end
mutual
/-- no objects in it, but tuples -/
def rf : D → Bool
  | .non => true
  | .bl _ => true
  | .int _ => true
  | .str _ => true
  | .tup ds => rfs ds
  | .fl ds => rfs ds
  | .ref _ => false
  | .ty _ => false
def rfs : List D → Bool
  | [] => true
  | d :: ds => rf d && rfs ds
end
mutual
theorem RD.dp {K : PySem.W.Frag} {H : Hp} : ∀ {d : D} {v : V}, RD K H v d → rf d = true → Dp K H v (toP d)
  | .non, _, h, _ => by cases (show _ = V.non from h); exact .non
  | .bl b, _, h, _ => by cases (show _ = V.bl b from h); exact .bl b
  | .int b, _, h, _ => by cases (show _ = V.int b from h); exact .int b
  | .str b, _, h, _ => by cases (show _ = V.str b from h); exact .str b
  | .tup ds, _, h, e => by
    obtain ⟨a, vs, rfl, q, r⟩ := h
    exact .tup q (RDs.dp r e)
  | .fl ds, _, h, e => by
    obtain ⟨a, vs, rfl, q, r⟩ := h
    exact .lst (sql_fl q) (RDs.dp r e)
theorem RDs.dp {K : PySem.W.Frag} {H : Hp} : ∀ {ds : List D} {vs : List V}, RDs K H vs ds → rfs ds = true → DpAll K H vs (toPs ds)
  | [], _, h, _ => by cases h; exact .nil
  | d :: ds, _, h, e => by
    obtain ⟨v, r, rfl, q, t⟩ := h
    have e' := (Bool.and_eq_true _ _).mp e
    exact .cons (RD.dp q e'.1) (RDs.dp t e'.2)
end

section
variable {X : Cx}
/-! ### arithmetic -/
def cAdd : C2 := fun x y h Q => match x, y with
  | .int i, .int j => Q (.int (i + j)) h
  | .str a, .str b => a.length + b.length ≤ sizeLine ∧ Q (.str (a ++ b)) h
  | .tup xs, .tup ys => xs.length + ys.length ≤ sizeLine ∧ Q (.tup (xs ++ ys)) h
  | .ref a, .ref b => ∃ xs ys, h a = some (.lst xs) ∧ h b = some (.lst ys) ∧ xs.length + ys.length ≤ sizeLine ∧ ∀ p, h p = none → Q (.ref p) (updD h p (.lst (xs ++ ys)))
  | _, _ => False
theorem new_tup {K : PySem.W.Frag} {H : Hp} {p : Addr} {vs : List V} {ds : List D} (np : H p = none) (r : RDs K H vs ds) : RD K (upd H p (.tup vs)) (.ref p) (.tup ds) :=
  ⟨p, vs, rfl, .inl (.inl upd_same), r.mono fun a u e _ => by rw [upd_ne (ne_of_none e np)]; exact e⟩
theorem new_lst {K : PySem.W.Frag} {H : Hp} {p : Addr} {vs : List V} {ds : List D} (np : H p = none) (r : RDs K H vs ds) : RO K (upd H p (.lst vs)) p (.lst ds) :=
  ⟨vs, upd_same, r.mono fun a u e _ => by rw [upd_ne (ne_of_none e np)]; exact e⟩
theorem mut_lst {K : PySem.W.Frag} {H : Hp} {p : Addr} {us vs : List V} {ds : List D} (hp : H p = some (.lst us)) (r : RDs K H vs ds) : RO K (upd H p (.lst vs)) p (.lst ds) :=
  ⟨vs, upd_same, r.mono fun a u e i => by
    by_cases z : a = p
    · rw [z, hp] at e; cases e; cases i
    · rw [upd_ne z]; exact e⟩
theorem od_add : OpD X (binaryOp .Add) cAdd := by
  intro pins s σ H x y v u Q I rv ru w
  obtain ⟨dx, dy, h, Q', rx, ry, rh, hr, k⟩ := w
  cases dx with
  | int i =>
    cases dy with
    | int j => cases (show _ = V.int i from rx); cases (show _ = V.int j from ry); exact op_add pins s σ H _ _ v u Q I rv ru ⟨i, j, rfl, rfl, k _ (.int (i + j)) H h rfl (.refl rh) hr⟩
    | _ => exact hr.elim
  | str i =>
    cases dy with
    | str j => cases (show _ = V.str i from rx); cases (show _ = V.str j from ry); exact op_add_str pins s σ H _ _ v u Q I rv ru ⟨i, j, rfl, rfl, hr.1, k _ (.str (i ++ j)) H h rfl (.refl rh) hr.2⟩
    | _ => exact hr.elim
  | tup xs =>
    cases dy with
    | tup ys =>
      obtain ⟨a, vs, rfl, qa, ra⟩ := rx
      obtain ⟨b, ws, rfl, qb, rb⟩ := ry
      refine op_catA pins s σ H _ _ v u Q I rv ru ⟨a, b, vs, ws, rfl, rfl, qa, qb, by rw [ra.length, rb.length]; exact hr.1, fun e => ?_, fun e e' => ?_, fun _ _ p np => ?_⟩
      · subst e
        have : xs = [] := ra.nil_iff.mp rfl
        subst this
        exact k _ (.tup ([] ++ ys)) H h ⟨b, ws, rfl, qb, rb⟩ (.refl rh) hr.2
      · subst e'
        have : ys = [] := rb.nil_iff.mp rfl
        subst this
        exact k _ (.tup (xs ++ [])) H h ⟨a, vs, rfl, qa, by rw [List.append_nil]; exact ra⟩ (.refl rh) hr.2
      · exact k _ _ _ h (new_tup np (ra.append rb)) (.hid rh np (rh.none np)) hr.2
    | _ => exact hr.elim
  | ref a =>
    cases dy with
    | ref b =>
      obtain ⟨xs, ys, ha, hb, hz, q⟩ := hr
      obtain ⟨vs, ea, ra⟩ := rh a _ ha
      obtain ⟨ws, eb, rb⟩ := rh b _ hb
      cases (show _ = V.ref a from rx); cases (show _ = V.ref b from ry)
      refine op_cat pins s σ H _ _ v u Q I rv ru ⟨a, b, vs, ws, rfl, rfl, ea, eb, by rw [ra.length, rb.length]; exact hz, fun p np => ?_⟩
      exact k _ (.ref p) _ _ rfl (.new rh np (new_lst np (ra.append rb))) (q p (rh.none np))
    | _ => exact hr.elim
  | _ => exact hr.elim
def cSub : C2 := fun x y h Q => match x, y with
  | .int i, .int j => Q (.int (i - j)) h
  | _, _ => False
theorem od_sub : OpD X (binaryOp .Sub) cSub := by
  intro pins s σ H x y v u Q I rv ru w
  obtain ⟨dx, dy, h, Q', rx, ry, rh, hr, k⟩ := w
  cases dx with
  | int i =>
    cases dy with
    | int j => cases (show _ = V.int i from rx); cases (show _ = V.int j from ry); exact op_sub pins s σ H _ _ v u Q I rv ru ⟨i, j, rfl, rfl, k _ (.int (i - j)) H h rfl (.refl rh) hr⟩
    | _ => exact hr.elim
  | _ => exact hr.elim
/-- a tuple once over, or an empty one: itself -/
theorem tup_mul1 (l : Addr) (items : Array Value) (n : Nat) (dd : Option Addr) (sl : Array (Option Value)) (x : Int) (u : Tok) (c0 : (decide (x < -(2 ^ 63)) || decide (x ≥ 2 ^ 63)) = false) (c1 : (items.isEmpty || x == 1) = true) :
    Meets (Builtin.«tuple.__mul__» ⟨[.ref l, .int x u], []⟩) (fun _ R s => s.heap.get? l = some { cls := .type "tuple", dict := dd, data := .seq items n, slots := sl } ∧
      R (.ok (.ret (Value.ref l))) s) :=
  .of_wp fun prog w A R s h => by
    obtain ⟨hp, g, d, tk, os⟩ := s
    obtain ⟨hl, h⟩ := h
    have f1 := AutoSeq1.idx_int
    wp_walk using wpAny_loadPart' hl
    repeat (first
      | (refine wpAny_ite_false (decide_eq_false (by rw [c0]; exact Bool.false_ne_true)) ?_; wp_walk using wpAny_loadPart' hl)
      | (refine wpAny_ite_true (decide_eq_true c1) ?_; wp_walk using wpAny_loadPart' hl))
    exact ⟨_, rfl, h⟩
/-- a tuple no times over: a new empty one -/
theorem tup_mul0 (l : Addr) (items : Array Value) (n : Nat) (dd : Option Addr) (sl : Array (Option Value)) (x : Int) (u : Tok) (c0 : (decide (x < -(2 ^ 63)) || decide (x ≥ 2 ^ 63)) = false) (c1 : (items.isEmpty || x == 1) = false) (c2 : (decide (x ≤ 0) || items.isEmpty) = true) :
    Meets (Builtin.«tuple.__mul__» ⟨[.ref l, .int x u], []⟩) (fun _ R s => s.heap.get? l = some { cls := .type "tuple", dict := dd, data := .seq items n, slots := sl } ∧
      R (.ok (.ret (Value.ref s.heap.objs.size))) { s with heap := s.heap.push { cls := Value.type "tuple", data := Data.seq #[] }, toks := s.toks }) :=
  .of_wp fun prog w A R s h => by
    obtain ⟨hp, g, d, tk, os⟩ := s
    obtain ⟨hl, h⟩ := h
    have f1 := AutoSeq1.idx_int
    wp_walk using wpAny_loadPart' hl
    repeat (first
      | (refine wpAny_ite_false (decide_eq_false (by rw [c0]; exact Bool.false_ne_true)) ?_; wp_walk using wpAny_loadPart' hl)
      | (refine wpAny_ite_false (decide_eq_false (by rw [c1]; exact Bool.false_ne_true)) ?_; wp_walk using wpAny_loadPart' hl)
      | (refine wpAny_ite_true (decide_eq_true c2) ?_; wp_walk using wpAny_loadPart' hl))
    exact ⟨_, rfl, h⟩
/-- a tuple some times over, by values -/
def rRepA (K : PySem.W.Frag) : R2 := fun x y H Q => ∃ l k xs, x = .ref l ∧ y = .int k ∧ SqT K H l xs ∧ 0 ≤ k ∧ k ≤ 1000 ∧ xs.length ≤ 1000 ∧
  ((xs = [] ∨ k = 1) → Q (.ref l) H) ∧ ∀ p, H p = none → Q (.ref p) (upd H p (.tup (List.replicate k.toNat xs).flatten))
theorem op_repA : OpR X (binaryOp .Mult) (rRepA X.K) := by
  intro pins s σ H x y v u Q I rx ry w
  obtain ⟨l, k, xs, rfl, rfl, hT, hk, hk2, hz, q1, q⟩ := w
  by_cases c : xs ≠ [] ∧ 2 ≤ k
  · exact op_repT pins s σ H _ _ v u Q I rx ry ⟨l, k, xs, rfl, rfl, hT, c.1, c.2, hk2, hz, q⟩
  have rx' : v = Value.ref l := rx
  subst rx'
  obtain ⟨t, ru⟩ : ∃ t, u = Value.int k t := ry
  subst ru
  obtain ⟨its, r, ⟨⟨cls, dd, data, sl⟩, ho, hc, n, hd⟩, hs⟩ := I.tuple hT
  simp only at hc hd
  subst hc hd
  have hlen : its.length = xs.length := r.length.symm
  have c0 : (decide (k < -(2 ^ 63)) || decide (k ≥ 2 ^ 63)) = false := by
    rw [decide_eq_false (by omega), decide_eq_false (by omega)] <;> rfl
  have go : ∀ {Q' : Value → Shared → Prop} {Sp : Around → (Result → Shared → Prop) → Shared → Prop}, Meets (Builtin.«tuple.__mul__» ⟨[.ref l, .int k t], []⟩) Sp →
      Sp (X.A.in1) (fun r s' => ∃ u', r = .ok (.ret u') ∧ Q' u' s') s → True := fun _ _ => trivial
  by_cases c1 : xs = [] ∨ k = 1
  · have e1 : (its.toArray.isEmpty || k == 1) = true := by
      rcases c1 with e | e
      · have : its = [] := List.eq_nil_of_length_eq_zero (by rw [hlen, e]; rfl)
        rw [this]; rfl
      · rw [e]; simp
    exact wpAny_binaryOp_repeat_ref (T := "tuple") (U := "int") (by decide) ⟨_, ho, rfl⟩ (fun s' => typeIs_int s' k t) noFill_tuple_mul F.fills_int_mul F.slot_int_rmul repeat_tuple F.slot_int_index.lookup
      (call_meets F.slot_int_rmul (typeIs_int s k t) F.entry_int_rmul (F.args_int_rmul_2 _ _) (int_rmul_tuple k t l its.toArray n dd sl)
        ⟨ho, rfl, ⟨_, ho, rfl⟩, call_meets F.slot_tuple_mul ⟨_, ho, rfl⟩ F.entry_tuple_mul (F.args_tuple_mul_2 _ _) (tup_mul1 l its.toArray n dd sl k t c0 e1) ⟨ho, ⟨.ref l, H, I, rfl, q1 c1⟩⟩⟩)
  · have k0 : k = 0 := by
      rcases Classical.not_and_iff_not_or_not.mp c with e | e
      · exact absurd (.inl (Classical.not_not.mp e)) c1
      · have : ¬ k = 1 := fun z => c1 (.inr z)
        omega
    have xn : its.toArray.isEmpty = false := by
      cases its with
      | nil => exact absurd (.inl (List.eq_nil_of_length_eq_zero (by rw [← hlen]; rfl))) c1
      | cons a b => rfl
    have e1 : (its.toArray.isEmpty || k == 1) = false := by rw [xn, k0]; rfl
    have e2 : (decide (k ≤ 0) || its.toArray.isEmpty) = true := by rw [k0]; rfl
    refine wpAny_binaryOp_repeat_ref (T := "tuple") (U := "int") (by decide) ⟨_, ho, rfl⟩ (fun s' => typeIs_int s' k t) noFill_tuple_mul F.fills_int_mul F.slot_int_rmul repeat_tuple F.slot_int_index.lookup
      (call_meets F.slot_int_rmul (typeIs_int s k t) F.entry_int_rmul (F.args_int_rmul_2 _ _) (int_rmul_tuple k t l its.toArray n dd sl)
        ⟨ho, rfl, ⟨_, ho, rfl⟩, call_meets F.slot_tuple_mul ⟨_, ho, rfl⟩ F.entry_tuple_mul (F.args_tuple_mul_2 _ _) (tup_mul0 l its.toArray n dd sl k t c0 e1 e2) ⟨ho, ?_⟩⟩)
    have er : (List.replicate k.toNat xs).flatten = [] := by rw [k0]; rfl
    refine ⟨.ref s.heap.objs.size, _, I.laid (t' := s.toks) (o := .tup (List.replicate k.toNat xs).flatten) (fun b ob q => Heap.get?_push_of_some _ q) (Nat.le_refl _) ?_, rfl, q _ (I.hok.fresh (Nat.le_refl _))⟩
    rw [er]
    exact ⟨Nat.zero_le _, [], .nil, IsTup.new _ _⟩
/-- ints; a tuple or a list some times over (0 to 1000) -/
def cMul : C2 := fun x y h Q => match x, y with
  | .int i, .int j => CMulW i j ∧ Q (.int (i * j)) h
  | .tup xs, .int k => 0 ≤ k ∧ k ≤ 1000 ∧ xs.length ≤ 1000 ∧ Q (.tup (List.replicate k.toNat xs).flatten) h
  | .ref a, .int k => ∃ xs, h a = some (.lst xs) ∧ 0 ≤ k ∧ k ≤ 1000 ∧ xs.length ≤ 1000 ∧ ∀ p, h p = none → Q (.ref p) (updD h p (.lst (List.replicate k.toNat xs).flatten))
  | _, _ => False
theorem od_mul : OpD X (binaryOp .Mult) cMul := by
  intro pins s σ H x y v u Q I rv ru w
  obtain ⟨dx, dy, h, Q', rx, ry, rh, hr, k⟩ := w
  cases dx with
  | int i =>
    cases dy with
    | int j => cases (show _ = V.int i from rx); cases (show _ = V.int j from ry); exact op_mulW pins s σ H _ _ v u Q I rv ru ⟨i, j, rfl, rfl, hr.1, k _ (.int (i * j)) H h rfl (.refl rh) hr.2⟩
    | _ => exact hr.elim
  | tup xs =>
    cases dy with
    | int j =>
      cases (show _ = V.int j from ry)
      obtain ⟨a, vs, rfl, qa, ra⟩ := rx
      obtain ⟨h0, h1, hz, q⟩ := hr
      refine op_repA pins s σ H _ _ v u Q I rv ru ⟨a, j, vs, rfl, rfl, qa, h0, h1, by rw [ra.length]; exact hz, fun e => ?_, fun p np => ?_⟩
      · refine k _ (.tup (List.replicate j.toNat xs).flatten) H h ⟨a, vs, rfl, qa, ?_⟩ (.refl rh) q
        rcases e with e | e
        · have e2 : xs = [] := ra.nil_iff.mp e
          rw [e, e2]
          have : ∀ n : Nat, (List.replicate n ([] : List D)).flatten = [] := fun n => by induction n with
            | zero => rfl
            | succ n ih => rw [List.replicate_succ, List.flatten_cons, ih]; rfl
          rw [this]
          rfl
        · rw [e]
          show RDs X.K H vs (xs ++ [])
          rw [List.append_nil]
          exact ra
      · exact k _ (.tup (List.replicate j.toNat xs).flatten) _ h (new_tup np (ra.rep _)) (.hid rh np (rh.none np)) q
    | _ => exact hr.elim
  | ref a =>
    cases dy with
    | int j =>
      cases (show _ = V.int j from ry); cases (show _ = V.ref a from rx)
      obtain ⟨xs, ha, h0, h1, hz, q⟩ := hr
      obtain ⟨vs, ea, ra⟩ := rh a _ ha
      have hz2 : vs.length * j.toNat ≤ sizeLine := by
        rw [ra.length, sizeLine_eq]
        have a1 : xs.length * j.toNat ≤ 1000 * 1000 := Nat.mul_le_mul hz (by omega)
        omega
      refine op_rep pins s σ H _ _ v u Q I rv ru ⟨a, j, vs, rfl, rfl, ea, by omega, by omega, hz2, fun p np => ?_⟩
      exact k _ (.ref p) _ _ rfl (.new rh np (new_lst np (ra.rep _))) (q p (rh.none np))
    | _ => exact hr.elim
  | _ => exact hr.elim
/-- ints under C, an answer -/
def cII (C : Int → Int → Prop) (g : Int → Int → D) : C2 := fun x y h Q => match x, y with
  | .int i, .int j => C i j ∧ Q (g i j) h
  | _, _ => False
theorem od_ii {f : Value → Value → Sem Value} {C : Int → Int → Prop} {g : Int → Int → V} {g' : Int → Int → D} (o : OpR X f (rI C g)) (e : ∀ i j H, RD X.K H (g i j) (g' i j)) : OpD X f (cII C g') := by
  intro pins s σ H x y v u Q I rv ru w
  obtain ⟨dx, dy, h, Q', rx, ry, rh, hr, k⟩ := w
  cases dx with
  | int i =>
    cases dy with
    | int j => cases (show _ = V.int i from rx); cases (show _ = V.int j from ry); exact o pins s σ H _ _ v u Q I rv ru ⟨i, j, rfl, rfl, hr.1, k _ (g' i j) H h (e i j H) (.refl rh) hr.2⟩
    | _ => exact hr.elim
  | _ => exact hr.elim
abbrev cFdiv : C2 := cII CDivW fun i j => .int (i / j)
abbrev cMod : C2 := cII (fun _ j => 0 < j) fun i j => .int (i % j)
abbrev cPow : C2 := cII CPow fun i j => .int (i ^ j.toNat)
theorem od_fdiv : OpD X (binaryOp .FloorDiv) cFdiv := od_ii op_fdivW fun _ _ _ => rfl
theorem od_mod : OpD X (binaryOp .Mod) cMod := od_ii op_mod fun _ _ _ => rfl
theorem od_pow : OpD X (binaryOp .Pow) cPow := od_ii op_pow fun _ _ _ => rfl
def cNeg : C1 := fun x h Q => match x with
  | .int i => Q (.int (-i)) h
  | _ => False
theorem ud_neg : UnD X (unaryOp .USub) cNeg := by
  intro pins s σ H x v Q I rv w
  obtain ⟨dx, h, Q', rx, rh, hr, k⟩ := w
  cases dx with
  | int i => cases (show _ = V.int i from rx); exact un_neg pins s σ H _ v Q I rv ⟨i, rfl, k _ (.int (-i)) H h rfl (.refl rh) hr⟩
  | _ => exact hr.elim

/-! ### comparisons -/
theorem od_ii0 {f : Value → Value → Sem Value} {g : Int → Int → V} {g' : Int → Int → D} (o : OpR X f (rI0 g)) (e : ∀ i j H, RD X.K H (g i j) (g' i j)) : OpD X f (cII (fun _ _ => True) g') := by
  intro pins s σ H x y v u Q I rv ru w
  obtain ⟨dx, dy, h, Q', rx, ry, rh, hr, k⟩ := w
  cases dx with
  | int i =>
    cases dy with
    | int j => cases (show _ = V.int i from rx); cases (show _ = V.int j from ry); exact o pins s σ H _ _ v u Q I rv ru ⟨i, j, rfl, rfl, k _ (g' i j) H h (e i j H) (.refl rh) hr.2⟩
    | _ => exact hr.elim
  | _ => exact hr.elim
abbrev cLe : C2 := cII (fun _ _ => True) fun i j => .bl (decide (i ≤ j))
abbrev cGt : C2 := cII (fun _ _ => True) fun i j => .bl (decide (j < i))
abbrev cGe : C2 := cII (fun _ _ => True) fun i j => .bl (decide (j ≤ i))
theorem od_le : OpD X (compareOp .LtE) cLe := od_ii0 op_le fun _ _ _ => rfl
theorem od_gt : OpD X (compareOp .Gt) cGt := od_ii0 op_gt fun _ _ _ => rfl
theorem od_ge : OpD X (compareOp .GtE) cGe := od_ii0 op_ge fun _ _ _ => rfl
/-- <: ints; tuples of ints -/
def cLt : C2 := fun x y h Q => match x, y with
  | .int i, .int j => Q (.bl (decide (i < j))) h
  | .tup xs, .tup ys => ∃ ns ms, xs = ns.map D.int ∧ ys = ms.map D.int ∧ Q (.bl (HT.lexLt ns ms)) h
  | _, _ => False
theorem od_lt (hu : X.A.units < cLine) : OpD X (compareOp .Lt) cLt := by
  intro pins s σ H x y v u Q I rv ru w
  obtain ⟨dx, dy, h, Q', rx, ry, rh, hr, k⟩ := w
  cases dx with
  | int i =>
    cases dy with
    | int j => cases (show _ = V.int i from rx); cases (show _ = V.int j from ry); exact op_lt pins s σ H _ _ v u Q I rv ru ⟨i, j, rfl, rfl, k _ (.bl (decide (i < j))) H h rfl (.refl rh) hr⟩
    | _ => exact hr.elim
  | tup xs =>
    cases dy with
    | tup ys =>
      obtain ⟨a, vs, rfl, qa, ra⟩ := rx
      obtain ⟨b, ws, rfl, qb, rb⟩ := ry
      obtain ⟨ns, ms, rfl, rfl, q⟩ := hr
      exact op_ltT hu pins s σ H _ _ v u Q I rv ru ⟨a, b, ns, ms, rfl, rfl, by rw [← ra.ints]; exact qa, by rw [← rb.ints]; exact qb, k _ (.bl (HT.lexLt ns ms)) H h rfl (.refl rh) q⟩
    | _ => exact hr.elim
  | _ => exact hr.elim
/-- ==, != of data of any depth to 64 -/
def shp (d : D) : Prop := rf d = true ∧ SeqAt.shaped (toP d) = true
def eqD (x y : D) : Bool := PyData.eqv (toP x) (toP y)
def cEq : C2 := fun x y h Q => shp x ∧ shp y ∧ Q (.bl (eqD x y)) h
def cNe : C2 := fun x y h Q => shp x ∧ shp y ∧ Q (.bl (!eqD x y)) h
theorem od_eq (hu : X.A.units + 64 < cLine) : OpD X (compareOp .Eq) cEq := by
  intro pins s σ H x y v u Q I rv ru w
  obtain ⟨dx, dy, h, Q', rx, ry, rh, ⟨sx, sy, q⟩, k⟩ := w
  exact op_eqD hu pins s σ H x y v u Q I rv ru ⟨toP dx, toP dy, rx.dp sx.1, ry.dp sy.1, sx.2, sy.2, k _ (.bl (eqD dx dy)) H h rfl (.refl rh) q⟩
theorem od_ne (hu : X.A.units + 64 < cLine) : OpD X (compareOp .NotEq) cNe := by
  intro pins s σ H x y v u Q I rv ru w
  obtain ⟨dx, dy, h, Q', rx, ry, rh, ⟨sx, sy, q⟩, k⟩ := w
  exact op_neD hu pins s σ H x y v u Q I rv ru ⟨toP dx, toP dy, rx.dp sx.1, ry.dp sy.1, sx.2, sy.2, k _ (.bl (!eqD dx dy)) H h rfl (.refl rh) q⟩
/-- is None; is of bools -/
def isN : D → Bool
  | .non => true
  | _ => false
theorem RD.isN {K : PySem.W.Frag} {H : Hp} {v : V} {d : D} (r : RD K H v d) : decide (v = .non) = isN d := by
  cases d with
  | non => cases (show v = V.non from r); rfl
  | bl b => cases (show v = V.bl b from r); rfl
  | int b => cases (show v = V.int b from r); rfl
  | str b => cases (show v = V.str b from r); rfl
  | ref b => cases (show v = V.ref b from r); rfl
  | ty b => cases (show v = V.ty b from r); rfl
  | tup ds => obtain ⟨a, vs, rfl, _⟩ := r; rfl
  | fl ds => obtain ⟨a, vs, rfl, _⟩ := r; rfl
def cIs : C2 := fun x y h Q => match x, y with
  | x, .non => Q (.bl (isN x)) h
  | .bl a, .bl b => Q (.bl (decide (a = b))) h
  | _, _ => False
def cIsNot : C2 := fun x y h Q => match x, y with
  | x, .non => Q (.bl (!isN x)) h
  | .bl a, .bl b => Q (.bl (!decide (a = b))) h
  | _, _ => False
theorem od_is : OpD X (compareOp .Is) cIs := by
  intro pins s σ H x y v u Q I rv ru w
  obtain ⟨dx, dy, h, Q', rx, ry, rh, hr, k⟩ := w
  cases dy with
  | non =>
    cases (show _ = V.non from ry)
    have hr' : Q' (.bl (isN dx)) h := by cases dx <;> exact hr
    exact op_isN pins s σ H _ _ v u Q I rv ru ⟨rfl, k _ (.bl (isN dx)) H h (by rw [rx.isN]; rfl) (.refl rh) hr'⟩
  | bl b =>
    cases dx with
    | bl a => cases (show _ = V.bl a from rx); cases (show _ = V.bl b from ry); exact op_isBl pins s σ H _ _ v u Q I rv ru ⟨a, b, rfl, rfl, k _ (.bl (decide (a = b))) H h rfl (.refl rh) hr⟩
    | _ => exact hr.elim
  | _ => cases dx <;> exact hr.elim
theorem od_isNot : OpD X (compareOp .IsNot) cIsNot := by
  intro pins s σ H x y v u Q I rv ru w
  obtain ⟨dx, dy, h, Q', rx, ry, rh, hr, k⟩ := w
  cases dy with
  | non =>
    cases (show _ = V.non from ry)
    have hr' : Q' (.bl (!isN dx)) h := by cases dx <;> exact hr
    exact op_notN pins s σ H _ _ v u Q I rv ru ⟨rfl, k _ (.bl (!isN dx)) H h (by rw [rx.isN]; rfl) (.refl rh) hr'⟩
  | bl b =>
    cases dx with
    | bl a => cases (show _ = V.bl a from rx); cases (show _ = V.bl b from ry); exact op_notBl pins s σ H _ _ v u Q I rv ru ⟨a, b, rfl, rfl, k _ (.bl (!decide (a = b))) H h rfl (.refl rh) hr⟩
    | _ => exact hr.elim
  | _ => cases dx <;> exact hr.elim

/-! ### items, slices -/
def cIx : C2 := fun x y h Q => match x, y with
  | .tup ds, .int i => ∃ d, atI ds i = some d ∧ Q d h
  | .fl ds, .int i => ∃ d, atI ds i = some d ∧ Q d h
  | .ref a, .int i => ∃ ds d, h a = some (.lst ds) ∧ atI ds i = some d ∧ Q d h
  | .str z, .int i => z.length ≤ sizeLine ∧ ∃ c, atI z.cps.toList i = some c ∧ Q (.str ⟨#[c]⟩) h
  | _, _ => False
theorem atI_RDs {K : PySem.W.Frag} {H : Hp} {ds : List D} {vs : List V} {i : Int} {d : D} (r : RDs K H vs ds) (e : atI ds i = some d) : ∃ v, atI vs i = some v ∧ RD K H v d := by
  unfold atI at e ⊢
  rw [r.length]
  cases q : ixN ds.length i with
  | none => rw [q] at e; cases e
  | some j =>
    rw [q] at e
    exact r.get e
theorem xd_ix : IxD X cIx := by
  intro value slice pins s σ H x y v u Q I rv ru w hs
  obtain ⟨dx, dy, h, Q', rx, ry, rh, hr, k⟩ := w
  cases dx with
  | tup ds =>
    cases dy with
    | int i =>
      cases (show _ = V.int i from ry)
      obtain ⟨a, vs, rfl, qa, ra⟩ := rx
      obtain ⟨d, e, q⟩ := hr
      obtain ⟨w', e', r'⟩ := atI_RDs ra e
      exact ix_tup value slice pins s σ H _ _ v u Q I rv ru ⟨a, vs, i, w', rfl, rfl, qa, e', k _ d H h r' (.refl rh) q⟩ hs
    | _ => exact hr.elim
  | fl ds =>
    cases dy with
    | int i =>
      cases (show _ = V.int i from ry)
      obtain ⟨a, vs, rfl, qa, ra⟩ := rx
      obtain ⟨d, e, q⟩ := hr
      obtain ⟨w', e', r'⟩ := atI_RDs ra e
      exact ix_list value slice pins s σ H _ _ v u Q I rv ru ⟨a, vs, i, w', rfl, rfl, sql_fl qa, e', k _ d H h r' (.refl rh) q⟩ hs
    | _ => exact hr.elim
  | ref a =>
    cases dy with
    | int i =>
      cases (show _ = V.int i from ry); cases (show _ = V.ref a from rx)
      obtain ⟨ds, d, ha, e, q⟩ := hr
      obtain ⟨vs, ea, ra⟩ := rh a _ ha
      obtain ⟨w', e', r'⟩ := atI_RDs ra e
      exact ix_list value slice pins s σ H _ _ v u Q I rv ru ⟨a, vs, i, w', rfl, rfl, .of ea, e', k _ d H h r' (.refl rh) q⟩ hs
    | _ => exact hr.elim
  | str z =>
    cases dy with
    | int i =>
      cases (show _ = V.int i from ry); cases (show _ = V.str z from rx)
      obtain ⟨hz, c, e, q⟩ := hr
      exact ix_str value slice pins s σ H _ _ v u Q I rv ru ⟨z, i, c, rfl, rfl, hz, e, k _ (.str ⟨#[c]⟩) H h rfl (.refl rh) q⟩ hs
    | _ => exact hr.elim
  | _ => exact hr.elim

/-- d[lo:hi] -/
abbrev CSl := D → Option Int → Option Int → HD → DK → Prop
def cutD (xs : List D) (lo hi : Option Int) : List D := (xs.drop (HT.sIx xs.length 0 lo)).take (HT.sIx xs.length xs.length hi - HT.sIx xs.length 0 lo)
theorem RDs.cut {K : PySem.W.Frag} {H : Hp} {ds : List D} {vs : List V} (r : RDs K H vs ds) (lo hi : Option Int) : RDs K H (cutV vs lo hi) (cutD ds lo hi) := by
  unfold cutV cutD
  rw [r.length]
  exact (r.drop _).take _
def lowSl (K : PySem.W.Frag) (r : CSl) : V → Option Int → Option Int → Hp → VK → Prop := fun x lo hi H Q => ∃ dx h Q', RD K H x dx ∧ RH K H h ∧ r dx lo hi h Q' ∧ ∀ v d H' h', RD K H' v d → Stp K H h H' h' → Q' d h' → Q v H'
def cSlc : CSl := fun x lo hi h Q => match x with
  | .tup ds => Q (.tup (cutD ds lo hi)) h
  | .fl ds => ∀ p, h p = none → Q (.ref p) (updD h p (.lst (cutD ds lo hi)))
  | .str z => z.length ≤ sizeLine ∧ Q (.str (cutS z lo hi)) h
  | .ref a => ∃ ds, h a = some (.lst ds) ∧ ∀ p, h p = none → Q (.ref p) (updD h p (.lst (cutD ds lo hi)))
  | _ => False
theorem sld : SlR X (lowSl X.K cSlc) := by
  intro pins s σ H x v vl vu lo hi sl Q I rv hs pl pu w
  obtain ⟨dx, h, Q', rx, rh, hr, k⟩ := w
  cases dx with
  | tup ds =>
    obtain ⟨a, vs, rfl, qa, ra⟩ := rx
    refine sl_tupA pins s σ H _ v vl vu lo hi sl Q I rv hs pl pu ⟨a, vs, rfl, qa, fun e => ?_, fun _ p np => ?_⟩
    · refine k _ (.tup (cutD ds lo hi)) H h ⟨a, vs, rfl, qa, ?_⟩ (.refl rh) hr
      have := ra.cut lo hi
      unfold cutV at this
      rw [e.1, e.2, List.drop_zero, Nat.sub_zero, List.take_length] at this
      exact this
    · exact k _ (.tup (cutD ds lo hi)) _ h (new_tup np (ra.cut lo hi)) (.hid rh np (rh.none np)) hr
  | fl ds =>
    obtain ⟨a, vs, rfl, qa, ra⟩ := rx
    exact sl_list pins s σ H _ v vl vu lo hi sl Q I rv hs pl pu ⟨a, vs, rfl, sql_fl qa, fun p np => k _ (.ref p) _ _ rfl (.new rh np (new_lst np (ra.cut lo hi))) (hr p (rh.none np))⟩
  | ref a =>
    cases (show _ = V.ref a from rx)
    obtain ⟨ds, ha, q⟩ := hr
    obtain ⟨vs, ea, ra⟩ := rh a _ ha
    exact sl_list pins s σ H _ v vl vu lo hi sl Q I rv hs pl pu ⟨a, vs, rfl, .of ea, fun p np => k _ (.ref p) _ _ rfl (.new rh np (new_lst np (ra.cut lo hi))) (q p (rh.none np))⟩
  | str z =>
    cases (show _ = V.str z from rx)
    exact sl_str pins s σ H _ v vl vu lo hi sl Q I rv hs pl pu ⟨z, rfl, hr.1, k _ (.str (cutS z lo hi)) H h rfl (.refl rh) hr.2⟩
  | _ => exact hr.elim
abbrev CO := En → HD → (Option Int → HD → Prop) → Prop
def lowO (K : PySem.W.Frag) (B : Bs) (t : CO) : TO := fun σ H Q => ∃ ρ h Q', Sl K σ H ρ ∧ RB K B H h ∧ t ρ h Q' ∧ ∀ o H' h', Stp K H h H' h' → Q' o h' → Q o H'
def QO (X : Cx) (B : Bs) (e : Option Expr) (t : CO) : Prop := PO X e (lowO X.K B t)
theorem PO.imp {X : Cx} {e : Option Expr} {t t' : TO} (p : PO X e t') (k : ∀ σ H Q, t σ H Q → t' σ H Q) : PO X e t := ⟨fun pins s σ H Q I h => p.run pins s σ H Q I (k σ H Q h)⟩
def cNoP : CO := fun _ h Q => Q none h
def cPart (t : CE) : CO := fun ρ h Q => t ρ h fun x h1 => match x with
  | .int i => Q (some i) h1
  | _ => False
theorem qo_none {B : Bs} : QO X B none cNoP := PO.imp po_none fun σ H Q w => by
  obtain ⟨ρ, h, Q', sl, rh, ht, k⟩ := w
  exact k none H h (.refl rh.rh) ht
theorem qo_some {B : Bs} {e : Expr} {t : CE} (p : QE X B e t) : QO X B (some e) (cPart t) := PO.imp (po_some p) fun σ H Q w => by
  obtain ⟨ρ, h, Q', sl, rh, ht, k⟩ := w
  refine ⟨ρ, h, _, sl, rh, ht, fun v d H1 h1 rv s1 q1 => ?_⟩
  cases d with
  | int i => cases (show v = V.int i from rv); exact ⟨i, rfl, k (some i) H1 h1 s1 q1⟩
  | _ => exact q1.elim
def cSl (r : CSl) (te : CE) (tl th : CO) : CE := fun ρ h Q => te ρ h fun x h1 => tl ρ h1 fun l h2 => th ρ h2 fun u h3 => r x l u h3 Q
theorem qe_slice {B : Bs} {e : Expr} {lo hi : Option Expr} {te : CE} {tl th : CO} {p2 pos : Pos} (he : QE X B e te) (hl : QO X B lo tl) (hu : QO X B hi th) : QE X B (.Subscript e (.Slice lo hi none p2) pos) (cSl cSlc te tl th) :=
  PE.imp (pe_slice sld he hl hu) fun σ H Q w => by
    obtain ⟨ρ, h, Q', sl, rh, ht, k⟩ := w
    refine ⟨ρ, h, _, sl, rh, ht, fun v d H1 h1 rv s1 q1 => ?_⟩
    refine ⟨ρ, h1, _, sl.mono s1.ts, rh.trans s1, q1, fun l H2 h2 s2 q2 => ?_⟩
    refine ⟨ρ, h2, _, sl.mono (s1.ts.trans s2.ts), rh.trans (s1.trans s2), q2, fun u H3 h3 s3 q3 => ?_⟩
    exact ⟨d, h3, Q', rv.mono (s2.ts.trans s3.ts), s3.rh, q3, fun v' d' H' h' r' s' q' => k v' d' H' h' r' (((s1.trans s2).trans s3).trans s') q'⟩

/-! ### built-in calls -/
theorem RDs.one {K : PySem.W.Frag} {H : Hp} {vs : List V} {d : D} (r : RDs K H vs [d]) : ∃ v, vs = [v] ∧ RD K H v d := by
  obtain ⟨v, r', rfl, q, t⟩ := r
  cases (show r' = [] from t)
  exact ⟨v, rfl, q⟩
theorem RDs.two {K : PySem.W.Frag} {H : Hp} {vs : List V} {d e : D} (r : RDs K H vs [d, e]) : ∃ v w, vs = [v, w] ∧ RD K H v d ∧ RD K H w e := by
  obtain ⟨v, r', rfl, q, t⟩ := r
  obtain ⟨w, rfl, q2⟩ := RDs.one t
  exact ⟨v, w, rfl, q, q2⟩
def cLen : CL := fun ds h Q => match ds with
  | [.tup xs] => Q (.int xs.length) h
  | [.fl xs] => Q (.int xs.length) h
  | [.str z] => z.length ≤ sizeLine ∧ Q (.int z.length) h
  | [.ref a] => (∃ xs, h a = some (.lst xs) ∧ Q (.int xs.length) h) ∨ (∃ kvs, h a = some (.dK kvs) ∧ Q (.int kvs.length) h)
  | _ => False
theorem cd_len : CallD X (.builtin "len") cLen := by
  intro pins s σ H xs us Q I rv w
  obtain ⟨ds, h, Q', rx, rh, hr, k⟩ := w
  match ds, hr with
  | [.tup ys], hr =>
    obtain ⟨v, rfl, a, vs, rfl, qa, ra⟩ := rx.one
    exact call_len_seq pins s σ H _ us Q I rv ⟨a, vs, rfl, .inr qa, k _ (.int ys.length) H h (by rw [ra.length]; rfl) (.refl rh) hr⟩
  | [.fl ys], hr =>
    obtain ⟨v, rfl, a, vs, rfl, qa, ra⟩ := rx.one
    exact call_len_seq pins s σ H _ us Q I rv ⟨a, vs, rfl, .inl (sql_fl qa), k _ (.int ys.length) H h (by rw [ra.length]; rfl) (.refl rh) hr⟩
  | [.str z], hr =>
    obtain ⟨v, rfl, q⟩ := rx.one
    cases (show v = V.str z from q)
    exact call_len_str pins s σ H _ us Q I rv ⟨z, rfl, hr.1, k _ (.int z.length) H h rfl (.refl rh) hr.2⟩
  | [.ref a], hr =>
    obtain ⟨v, rfl, q⟩ := rx.one
    cases (show v = V.ref a from q)
    rcases hr with ⟨ys, ha, q⟩ | ⟨kvs, ha, q⟩
    · obtain ⟨vs, ea, ra⟩ := rh a _ ha
      exact call_len_seq pins s σ H _ us Q I rv ⟨a, vs, rfl, .inl (.of ea), k _ (.int ys.length) H h (by rw [ra.length]; rfl) (.refl rh) q⟩
    · obtain ⟨vs, ea, ra⟩ := rh a _ ha
      exact call_lenD pins s σ H _ us Q I rv ⟨a, vs, rfl, ea, k _ (.int kvs.length) H h (by rw [ra.length]; rfl) (.refl rh) q⟩
/-- tuple(a list or tuple), list(..) -/
def cTuple : CL := fun ds h Q => match ds with
  | [.tup xs] => Q (.tup xs) h
  | [.fl xs] => Q (.tup xs) h
  | [.ref a] => ∃ xs, h a = some (.lst xs) ∧ Q (.tup xs) h
  | _ => False
theorem cd_tuple : CallD X (.type "tuple") cTuple := by
  intro pins s σ H xs us Q I rv w
  obtain ⟨ds, h, Q', rx, rh, hr, k⟩ := w
  match ds, hr with
  | [.tup ys], hr =>
    obtain ⟨v, rfl, a, vs, rfl, qa, ra⟩ := rx.one
    exact call_tuple_of pins s σ H _ us Q I rv ⟨a, vs, rfl, .inr ⟨qa, k _ (.tup ys) H h ⟨a, vs, rfl, qa, ra⟩ (.refl rh) hr⟩⟩
  | [.fl ys], hr =>
    obtain ⟨v, rfl, a, vs, rfl, qa, ra⟩ := rx.one
    exact call_tuple_of pins s σ H _ us Q I rv ⟨a, vs, rfl, .inl ⟨sql_fl qa, fun p np => k _ (.tup ys) _ h (new_tup np ra) (.hid rh np (rh.none np)) hr⟩⟩
  | [.ref a], hr =>
    obtain ⟨v, rfl, q⟩ := rx.one
    cases (show v = V.ref a from q)
    obtain ⟨ys, ha, q⟩ := hr
    obtain ⟨vs, ea, ra⟩ := rh a _ ha
    exact call_tuple_of pins s σ H _ us Q I rv ⟨a, vs, rfl, .inl ⟨.of ea, fun p np => k _ (.tup ys) _ h (new_tup np ra) (.hid rh np (rh.none np)) q⟩⟩
def cList : CL := fun ds h Q => match ds with
  | [.tup xs] => ∀ p, h p = none → Q (.ref p) (updD h p (.lst xs))
  | [.fl xs] => ∀ p, h p = none → Q (.ref p) (updD h p (.lst xs))
  | [.ref a] => ∃ xs, h a = some (.lst xs) ∧ ∀ p, h p = none → Q (.ref p) (updD h p (.lst xs))
  | _ => False
theorem cd_list : CallD X (.type "list") cList := by
  intro pins s σ H xs us Q I rv w
  obtain ⟨ds, h, Q', rx, rh, hr, k⟩ := w
  match ds, hr with
  | [.tup ys], hr =>
    obtain ⟨v, rfl, a, vs, rfl, qa, ra⟩ := rx.one
    exact call_list_of pins s σ H _ us Q I rv ⟨a, vs, rfl, .inr qa, fun p np => k _ (.ref p) _ _ rfl (.new rh np (new_lst np ra)) (hr p (rh.none np))⟩
  | [.fl ys], hr =>
    obtain ⟨v, rfl, a, vs, rfl, qa, ra⟩ := rx.one
    exact call_list_of pins s σ H _ us Q I rv ⟨a, vs, rfl, .inl (sql_fl qa), fun p np => k _ (.ref p) _ _ rfl (.new rh np (new_lst np ra)) (hr p (rh.none np))⟩
  | [.ref a], hr =>
    obtain ⟨v, rfl, q⟩ := rx.one
    cases (show v = V.ref a from q)
    obtain ⟨ys, ha, q⟩ := hr
    obtain ⟨vs, ea, ra⟩ := rh a _ ha
    exact call_list_of pins s σ H _ us Q I rv ⟨a, vs, rfl, .inl (.of ea), fun p np => k _ (.ref p) _ _ rfl (.new rh np (new_lst np ra)) (q p (rh.none np))⟩
/-- abs, int of an int or a bool -/
def cAbs : CL := fun ds h Q => match ds with
  | [.int i] => Q (.int (if i < 0 then -i else i)) h
  | _ => False
theorem cd_abs : CallD X (.builtin "abs") cAbs := by
  intro pins s σ H xs us Q I rv w
  obtain ⟨ds, h, Q', rx, rh, hr, k⟩ := w
  match ds, hr with
  | [.int i], hr =>
    obtain ⟨v, rfl, q⟩ := rx.one
    cases (show v = V.int i from q)
    exact call_abs pins s σ H _ us Q I rv ⟨i, rfl, k _ (.int (if i < 0 then -i else i)) H h rfl (.refl rh) hr⟩
def cInt : CL := fun ds h Q => match ds with
  | [.int i] => Q (.int i) h
  | [.bl b] => Q (.int (if b then 1 else 0)) h
  | _ => False
theorem cd_int : CallD X (.type "int") cInt := by
  intro pins s σ H xs us Q I rv w
  obtain ⟨ds, h, Q', rx, rh, hr, k⟩ := w
  match ds, hr with
  | [.int i], hr =>
    obtain ⟨v, rfl, q⟩ := rx.one
    cases (show v = V.int i from q)
    exact call_int1 pins s σ H _ us Q I rv (.inl ⟨i, rfl, k _ (.int i) H h rfl (.refl rh) hr⟩)
  | [.bl i], hr =>
    obtain ⟨v, rfl, q⟩ := rx.one
    cases (show v = V.bl i from q)
    exact call_int1 pins s σ H _ us Q I rv (.inr ⟨i, rfl, k _ (.int (if i then 1 else 0)) H h rfl (.refl rh) hr⟩)
/-- any, all of a list of bools; sum, max, min of a list of ints -/
def cBools (f : List Bool → Bool) : CL := fun ds h Q => match ds with
  | [.ref a] => ∃ bs : List Bool, h a = some (.lst (bs.map D.bl)) ∧ Q (.bl (f bs)) h
  | _ => False
theorem cd_any (hc : X.calm = true) : CallD X (.builtin "any") (cBools fun bs => bs.any id) := by
  intro pins s σ H xs us Q I rv w
  obtain ⟨ds, h, Q', rx, rh, hr, k⟩ := w
  match ds, hr with
  | [.ref a], hr =>
    obtain ⟨v, rfl, q⟩ := rx.one
    cases (show v = V.ref a from q)
    obtain ⟨bs, ha, q⟩ := hr
    obtain ⟨vs, ea, ra⟩ := rh a _ ha
    rw [ra.bls] at ea
    exact cr_any hc pins s σ H _ us Q I rv ⟨a, bs, rfl, .of ea, k _ (.bl (bs.any id)) H h rfl (.refl rh) q⟩
theorem cd_all (hc : X.calm = true) : CallD X (.builtin "all") (cBools fun bs => bs.all id) := by
  intro pins s σ H xs us Q I rv w
  obtain ⟨ds, h, Q', rx, rh, hr, k⟩ := w
  match ds, hr with
  | [.ref a], hr =>
    obtain ⟨v, rfl, q⟩ := rx.one
    cases (show v = V.ref a from q)
    obtain ⟨bs, ha, q⟩ := hr
    obtain ⟨vs, ea, ra⟩ := rh a _ ha
    rw [ra.bls] at ea
    exact cr_all hc pins s σ H _ us Q I rv ⟨a, bs, rfl, .of ea, k _ (.bl (bs.all id)) H h rfl (.refl rh) q⟩
def cSum : CL := fun ds h Q => match ds with
  | [.ref a] => ∃ ns : List Int, h a = some (.lst (ns.map D.int)) ∧ Q (.int ns.sum) h
  | _ => False
theorem cd_sum (hc : X.calm = true) : CallD X (.builtin "sum") cSum := by
  intro pins s σ H xs us Q I rv w
  obtain ⟨ds, h, Q', rx, rh, hr, k⟩ := w
  match ds, hr with
  | [.ref a], hr =>
    obtain ⟨v, rfl, q⟩ := rx.one
    cases (show v = V.ref a from q)
    obtain ⟨bs, ha, q⟩ := hr
    obtain ⟨vs, ea, ra⟩ := rh a _ ha
    rw [ra.ints] at ea
    exact cr_sum hc pins s σ H _ us Q I rv ⟨a, bs, rfl, .of ea, k _ (.int bs.sum) H h rfl (.refl rh) q⟩
/-- max(list), max(a, b); min -/
def cMax : CL := fun ds h Q => match ds with
  | [.ref a] => ∃ ns : List Int, h a = some (.lst (ns.map D.int)) ∧ 0 < ns.length ∧ ∀ m, m ∈ ns → (∀ y, y ∈ ns → y ≤ m) → Q (.int m) h
  | [.int i, .int j] => Q (.int (if j > i then j else i)) h
  | _ => False
theorem cd_max (hc : X.calm = true) : CallD X (.builtin "max") cMax := by
  intro pins s σ H xs us Q I rv w
  obtain ⟨ds, h, Q', rx, rh, hr, k⟩ := w
  match ds, hr with
  | [.ref a], hr =>
    obtain ⟨v, rfl, q⟩ := rx.one
    cases (show v = V.ref a from q)
    obtain ⟨bs, ha, hl, q⟩ := hr
    obtain ⟨vs, ea, ra⟩ := rh a _ ha
    rw [ra.ints] at ea
    exact cr_max hc pins s σ H _ us Q I rv ⟨a, bs, rfl, .of ea, hl, fun m m1 m2 => k _ (.int m) H h rfl (.refl rh) (q m m1 m2)⟩
  | [.int i, .int j], hr =>
    obtain ⟨v, w, rfl, q, q2⟩ := rx.two
    cases (show v = V.int i from q); cases (show w = V.int j from q2)
    exact call_max2 hc pins s σ H _ us Q I rv ⟨i, j, rfl, k _ (.int (if j > i then j else i)) H h rfl (.refl rh) hr⟩
def cMin : CL := fun ds h Q => match ds with
  | [.int i, .int j] => Q (.int (if j < i then j else i)) h
  | _ => False
theorem cd_min (hc : X.calm = true) : CallD X (.builtin "min") cMin := by
  intro pins s σ H xs us Q I rv w
  obtain ⟨ds, h, Q', rx, rh, hr, k⟩ := w
  match ds, hr with
  | [.int i, .int j], hr =>
    obtain ⟨v, w, rfl, q, q2⟩ := rx.two
    cases (show v = V.int i from q); cases (show w = V.int j from q2)
    exact call_min2 hc pins s σ H _ us Q I rv ⟨i, j, rfl, k _ (.int (if j < i then j else i)) H h rfl (.refl rh) hr⟩
/-- isinstance: the kinds that are told -/
inductive Kd where
  | non | bl | int | str | tup | lst | dct
  deriving DecidableEq
def Kd.name : Kd → String
  | .non => "NoneType" | .bl => "bool" | .int => "int" | .str => "str" | .tup => "tuple" | .lst => "list" | .dct => "dict"
def Kd.isa : Kd → Kd → Bool
  | .bl, .int => true
  | a, b => decide (a = b)
theorem Kd.kit {K : PySem.W.Frag} : ∀ a b : Kd, PySem.W.kitOne K (.type a.name) (.type b.name) = some (a.isa b)
  | .non, .non => kit_ty (by decide +kernel) | .non, .bl => kit_ty (by decide +kernel) | .non, .int => kit_ty (by decide +kernel) | .non, .str => kit_ty (by decide +kernel) | .non, .tup => kit_ty (by decide +kernel) | .non, .lst => kit_ty (by decide +kernel) | .non, .dct => kit_ty (by decide +kernel)
  | .bl, .non => kit_ty (by decide +kernel) | .bl, .bl => kit_ty (by decide +kernel) | .bl, .int => kit_ty (by decide +kernel) | .bl, .str => kit_ty (by decide +kernel) | .bl, .tup => kit_ty (by decide +kernel) | .bl, .lst => kit_ty (by decide +kernel) | .bl, .dct => kit_ty (by decide +kernel)
  | .int, .non => kit_ty (by decide +kernel) | .int, .bl => kit_ty (by decide +kernel) | .int, .int => kit_ty (by decide +kernel) | .int, .str => kit_ty (by decide +kernel) | .int, .tup => kit_ty (by decide +kernel) | .int, .lst => kit_ty (by decide +kernel) | .int, .dct => kit_ty (by decide +kernel)
  | .str, .non => kit_ty (by decide +kernel) | .str, .bl => kit_ty (by decide +kernel) | .str, .int => kit_ty (by decide +kernel) | .str, .str => kit_ty (by decide +kernel) | .str, .tup => kit_ty (by decide +kernel) | .str, .lst => kit_ty (by decide +kernel) | .str, .dct => kit_ty (by decide +kernel)
  | .tup, .non => kit_ty (by decide +kernel) | .tup, .bl => kit_ty (by decide +kernel) | .tup, .int => kit_ty (by decide +kernel) | .tup, .str => kit_ty (by decide +kernel) | .tup, .tup => kit_ty (by decide +kernel) | .tup, .lst => kit_ty (by decide +kernel) | .tup, .dct => kit_ty (by decide +kernel)
  | .lst, .non => kit_ty (by decide +kernel) | .lst, .bl => kit_ty (by decide +kernel) | .lst, .int => kit_ty (by decide +kernel) | .lst, .str => kit_ty (by decide +kernel) | .lst, .tup => kit_ty (by decide +kernel) | .lst, .lst => kit_ty (by decide +kernel) | .lst, .dct => kit_ty (by decide +kernel)
  | .dct, .non => kit_ty (by decide +kernel) | .dct, .bl => kit_ty (by decide +kernel) | .dct, .int => kit_ty (by decide +kernel) | .dct, .str => kit_ty (by decide +kernel) | .dct, .tup => kit_ty (by decide +kernel) | .dct, .lst => kit_ty (by decide +kernel) | .dct, .dct => kit_ty (by decide +kernel)
def kd (h : HD) : D → Option Kd
  | .non => some .non
  | .bl _ => some .bl
  | .int _ => some .int
  | .str _ => some .str
  | .tup _ => some .tup
  | .fl _ => some .lst
  | .ref a => match h a with
    | some (.lst _) => some .lst
    | some (.dK _) => some .dct
    | some (.dT _) => some .dct
    | _ => none
  | .ty _ => none
theorem sqt_ty {K : PySem.W.Frag} {H : Hp} {a : Addr} {vs : List V} (q : SqT K H a vs) : TyX K H (.ref a) (.type "tuple") := by
  rcases q with (q | ⟨o, q⟩) | ⟨o, its, n, e, c, _⟩
  · exact .base (.tup q)
  · exact .fTuple q
  · exact .kTuple e c
theorem fl_ty {K : PySem.W.Frag} {H : Hp} {a : Addr} {vs : List V} (q : (∃ o, H a = some (.frz o (.lst vs))) ∨ SqL K (fun _ => none) a vs) : TyX K H (.ref a) (.type "list") := by
  rcases q with ⟨o, q⟩ | q
  · exact .base (.frz q)
  · rcases q with (q | ⟨o, q⟩) | ⟨o, its, n, e, c, _⟩
    · cases q
    · cases q
    · exact .kList e c
theorem kd_ty {K : PySem.W.Frag} {H : Hp} {h : HD} {v : V} {d : D} {z : Kd} (rh : RH K H h) (r : RD K H v d) (e : kd h d = some z) : TyX K H v (.type z.name) := by
  cases d with
  | non => cases e; cases (show v = V.non from r); exact .base .non
  | bl b => cases e; cases (show v = V.bl b from r); exact .base (.bl b)
  | int b => cases e; cases (show v = V.int b from r); exact .base (.int b)
  | str b => cases e; cases (show v = V.str b from r); exact .base (.str b)
  | tup ds => cases e; obtain ⟨a, vs, rfl, q, _⟩ := r; exact sqt_ty q
  | fl ds => cases e; obtain ⟨a, vs, rfl, q, _⟩ := r; exact fl_ty q
  | ty n => cases e
  | ref a =>
    cases (show v = V.ref a from r)
    have e : (match h a with
      | some (.lst _) => some Kd.lst
      | some (.dK _) => some Kd.dct
      | some (.dT _) => some Kd.dct
      | _ => none) = some z := e
    cases q : h a with
    | none => rw [q] at e; cases e
    | some o =>
      rw [q] at e
      cases o with
      | lst ds => cases e; obtain ⟨vs, ea, _⟩ := rh a _ q; exact .base (.lst ea)
      | dK ds => cases e; obtain ⟨vs, ea, _⟩ := rh a _ q; exact .base (.dK ea)
      | dT ds => cases e; obtain ⟨vs, ea, _⟩ := rh a _ q; exact .base (.dT ea)
      | ins C dx fs => cases e
      | raw o => cases e
      | dN P w ks => cases e
      | lkN P w o xs ks => cases e
/-- what an instance's class must have to be asked for -/
structure IsiC (K : PySem.W.Frag) (C : Addr) : Prop where
  cl : Cls K C
  ha : PySem.W.findIn K (.ref C) "__class__" = some (some (.builtin "object.__class__"))
  hn : PySem.W.specialIn K (.builtin "object.__class__") "__get__" = some (some (.builtin "getset_descriptor.__get__"))
  htk : PySem.W.takesIn K (.builtin "object.__class__") = some true
  hm : PySem.W.mroIn K C (.type "object") = some true
/-- isinstance(x, c) -/
def cIsi (K : PySem.W.Frag) : CL := fun ds h Q => match ds with
  | [x, .ty n] => (∃ z m, kd h x = some z ∧ n = Kd.name m ∧ Q (.bl (z.isa m)) h) ∨ (∃ a C dx fs b, x = .ref a ∧ h a = some (.ins C dx fs) ∧ IsiC K C ∧ PySem.W.kitOne K (.ref C) (.type n) = some b ∧ Q (.bl b) h)
  | [x, .ref c] => (∃ z b, kd h x = some z ∧ PySem.W.kitOne K (.type z.name) (.ref c) = some b ∧ Q (.bl b) h) ∨ (∃ a C dx fs b, x = .ref a ∧ h a = some (.ins C dx fs) ∧ IsiC K C ∧ PySem.W.kitOne K (.ref C) (.ref c) = some b ∧ Q (.bl b) h)
  | _ => False
theorem cd_isi : CallD X (.builtin "isinstance") (cIsi X.K) := by
  intro pins s σ H xs us Q I rv w
  obtain ⟨ds, h, Q', rx, rh, hr, k⟩ := w
  have insT : ∀ {a C dx fs}, h a = some (.ins C dx fs) → IsiC X.K C → TyX X.K H (.ref a) (.ref C) := fun {a C dx fs} e i => by
    obtain ⟨vs, ea, _⟩ := rh a _ e
    exact .base (.ins ea i.cl i.ha i.hn i.htk i.hm)
  match ds, hr with
  | [x, .ty n], hr =>
    obtain ⟨v, w, rfl, q, q2⟩ := rx.two
    cases (show w = V.ty n from q2)
    rcases hr with ⟨z, m, e, rfl, q3⟩ | ⟨a, C, dx, fs, b, rfl, e, i, kq, q3⟩
    · exact call_isi pins s σ H _ us Q I rv ⟨v, _, _, _, _, rfl, .ty _, kd_ty rh q e, z.kit m, k _ (.bl (z.isa m)) H h rfl (.refl rh) q3⟩
    · cases (show v = V.ref a from q)
      exact call_isi pins s σ H _ us Q I rv ⟨_, _, _, _, _, rfl, .ty _, insT e i, kq, k _ (.bl b) H h rfl (.refl rh) q3⟩
  | [x, .ref c], hr =>
    obtain ⟨v, w, rfl, q, q2⟩ := rx.two
    cases (show w = V.ref c from q2)
    rcases hr with ⟨z, b, e, kq, q3⟩ | ⟨a, C, dx, fs, b, rfl, e, i, kq, q3⟩
    · exact call_isi pins s σ H _ us Q I rv ⟨v, _, _, _, _, rfl, .own _, kd_ty rh q e, kq, k _ (.bl b) H h rfl (.refl rh) q3⟩
    · cases (show v = V.ref a from q)
      exact call_isi pins s σ H _ us Q I rv ⟨_, _, _, _, _, rfl, .own _, insT e i, kq, k _ (.bl b) H h rfl (.refl rh) q3⟩
end
end PD

-- PdC
set_option Elab.async false
set_option linter.all false
set_option maxRecDepth 100000
set_option maxHeartbeats 4000000
/-! PdC: what is walked, by data; loops and list comprehensions. -/
namespace PD
open PySem PySem.Spec PyProof.Rows L2

/-! ### enumerate(a tuple) -/
theorem enum_newT (l : Addr) (items : Array Value) (n : Nat) (dd : Option Addr) (sl : Array (Option Value)) :
    Meets (Builtin.«enumerate.__new__» ⟨[.type "enumerate", .ref l], []⟩) (fun _ R s => s.heap.get? l = some { cls := .type "tuple", dict := dd, data := .seq items n, slots := sl } ∧
      R (.ok (.ret (.ref (s.heap.push { cls := .type "tuple_iterator", data := .fields #[.ref l, .int 0 0] }).objs.size)))
        { s with heap := (s.heap.push { cls := .type "tuple_iterator", data := .fields #[.ref l, .int 0 0] }).push { cls := .type "enumerate", data := .fields #[.none, .bool false, .ref s.heap.objs.size, rawInt 0, .none, .none] } }) :=
  .of_wp fun prog w A R s hyp => by
    obtain ⟨hp, g, d, tk, os⟩ := s
    obtain ⟨hl, fin⟩ := hyp
    have subE := sub_enumerate
    have hT : Heap.IsTuple (Shared.heap ⟨hp, g, d, tk, os⟩) l items := ⟨_, hl, rfl, n, rfl⟩
    wp_walk using AutoSeq1.wpAny_loadPart' hl
    refine wpAny_stack_any fun stk => wpAny_pure ?_
    split
    · rename_i c _ _ _ _ _
      cases (c == Value.type "enumerate")
      · wp_walk using AutoSeq1.wpAny_loadPart' hl, wpAny_pyIter_tuple hT
        exact ⟨_, rfl, fin⟩
      · wp_walk using AutoSeq1.wpAny_loadPart' hl, wpAny_pyIter_tuple hT
        exact ⟨_, rfl, fin⟩
    · wp_walk using AutoSeq1.wpAny_loadPart' hl, wpAny_pyIter_tuple hT
      exact ⟨_, rfl, fin⟩
theorem call_enumT {prog : Program} {w : World} {A : Around} {E : Value → Shared → Prop} {s : Shared} {l : Addr} {items : Array Value} {Q : Value → Shared → Prop} (hT : IsTup s.heap l items)
    (k : ∀ h', IsEnum h' (s.heap.objs.size + 1) s.heap.objs.size 0 .none → h'.IsTupleIter s.heap.objs.size l 0 →
      (∀ b o, s.heap.get? b = some o → h'.get? b = some o) → Q (.ref (s.heap.objs.size + 1)) { s with heap := h' }) :
    wpAny (model prog w) A (call (.type "enumerate") [.ref l]) Q E s := by
  obtain ⟨⟨c, dct, dt, sl⟩, hl, hc, n, hd⟩ := hT
  simp only at hc hd
  subst hc hd
  refine callType_new F.called_enumerate (by decide) (F.typeCall_enumerate_1 _) (F.newCall_enumerate_1 _) (fun obj => F.args_object_init_2 obj _) F.entry_enumerate_new (enum_newT l items n dct sl) ⟨hl, ?_⟩
  have sz1 : (s.heap.push { cls := .type "tuple_iterator", data := .fields #[.ref l, .int 0 0] }).objs.size = s.heap.objs.size + 1 := Heap.size_push ..
  show _ ∧ _
  rw [sz1]
  have isE : IsEnum ((s.heap.push { cls := .type "tuple_iterator", data := .fields #[.ref l, .int 0 0] }).push { cls := .type "enumerate", data := .fields #[.none, .bool false, .ref s.heap.objs.size, rawInt 0, .none, .none] })
      (s.heap.objs.size + 1) s.heap.objs.size 0 .none := by
    have g := Heap.get?_push_size (s.heap.push { cls := .type "tuple_iterator", data := .fields #[.ref l, .int 0 0] }) (o := { cls := .type "enumerate", data := .fields #[.none, .bool false, .ref s.heap.objs.size, rawInt 0, .none, .none] }) rfl
    rw [sz1] at g
    exact g
  exact ⟨⟨_, isE, rfl⟩, k _ isE ⟨_, Heap.get?_push_of_some _ (Heap.get?_push_size _ rfl), rfl, rfl⟩ fun b o x => Heap.get?_push_of_some _ (Heap.get?_push_of_some _ x)⟩
/-- the tuple at a, each item in a new pair with its number -/
def IteT (K : PySem.W.Frag) (a : Addr) : It :=
  ⟨fun i H => ∃ (xs : List V) (x : V), SqT K H a xs ∧ xs[i]? = some x, fun i H v H' => ∃ T x, v = .ref T ∧ H T = none ∧ H' = upd H T (.tup [.int (i : Nat), x]) ∧ ∀ xs, SqT K H a xs → xs[i]? = some x, fun i H => ∃ xs : List V, SqT K H a xs ∧ xs.length = i⟩
theorem turn_enumT {P : Program} {w : World} {K : PySem.W.Frag} {elts : List Expr} {kk : Nat} {tpos : Pos} (a e it : Addr) :
    Turn P w K (.Tuple elts kk tpos) (IteT K a) [e, it] e (fun i h => (∃ old, IsEnum h e it ((i : Nat) : Int) old) ∧ h.IsTupleIter it a i ∧ e ≠ it) where
  mem := List.mem_cons_self
  obj := fun i h st b hb => by
    obtain ⟨⟨old, he⟩, ⟨o, ho, _, hd⟩, _⟩ := st
    rcases (show b = e ∨ b = it by simpa using hb) with rfl | rfl
    · exact ⟨_, he, fun v q => nomatch q⟩
    · exact ⟨o, ho, fun v q => by rw [hd] at q; cases q⟩
  keep := fun i h h' ⟨⟨old, he⟩, hi, hne⟩ k => ⟨⟨old, k e (by simp) _ he⟩, hi.at fun o q => k it (by simp) o q, hne⟩
  item := by
    intro X hP hw hK hc i pins s σ H E I hf st hg
    subst hP hw hK
    obtain ⟨⟨old, he⟩, hit, hne⟩ := st
    obtain ⟨xs, x, hq, hx⟩ := hg
    obtain ⟨its, rv, p, hz⟩ := I.tuple hq
    obtain ⟨u, hu, ru⟩ := rv.get hx
    have le : e < s.heap.objs.size := Heap.lt_size he
    have li : it < s.heap.objs.size := by obtain ⟨_, q, _⟩ := hit; exact Heap.lt_size q
    have hta : s.heap.IsTuple a its.toArray := p
    have ait : a ≠ it := fun z => by
      obtain ⟨o1, e1, c1, _⟩ := hta
      obtain ⟨o2, e2, c2, _⟩ := hit
      rw [z, e2] at e1; cases e1; rw [c2] at c1; injection c1 with c1; exact absurd c1 (by decide)
    have ae : e ≠ a := fun z => by
      obtain ⟨o1, e1, c1, _⟩ := hta
      rw [← z, he] at e1; cases e1; injection c1 with c1; exact absurd c1 (by decide)
    have iu : i < its.toArray.size := by
      have := (List.getElem?_eq_some_iff.mp hu).1
      simpa using this
    refine wpAny_pyNext_enum_itemC (Draws.tuple (A := X.A.in1) (I.ok.hd hc) it a ait its.toArray) he ⟨hit, hta⟩ iu hne (by simp [hne, ae]) fun y h' tk hy ho hs' hT hsz hk => ?_
    have hyu : y = u := by
      have e2 : its.toArray[i]? = some u := by simpa using hu
      rw [e2] at hy
      exact (Option.some.inj hy).symm
    subst hyu
    refine ⟨_, rfl, wpAny_letOwnedTupleGo_enum (s := { s with heap := h', toks := tk + 1 }) ho fun h'' he' sb => ?_⟩
    have hT2 : h''.get? s.heap.objs.size = some { cls := .type "tuple", data := .seq #[.int i tk, y] } := (sb.2 _ (Nat.ne_of_gt le)).trans hT
    have new : ObjOk X.prog X.w (upd H s.heap.objs.size (.tup [.int (i : Nat), x])) h'' s.heap.objs.size (.tup [.int (i : Nat), x]) :=
      ⟨by show 2 ≤ sizeLine; decide, [.int i tk, y], .cons ⟨_, rfl⟩ (.cons ru .nil), ⟨_, hT2, rfl, _, rfl⟩⟩
    have I1 : Inv X pins σ (upd H s.heap.objs.size (.tup [.int (i : Nat), x])) { s with heap := h'', toks := tk + 1 } :=
      I.turnedNew (t' := tk + 1) (ch := [e, it]) (fun b ob hb q => (sb.2 b (fun z => hb (by simp [z]))).trans (hk b ob (fun z => hb (by simp [z])) (fun z => hb (by simp [z])) q)) hf (Nat.le_refl _) new
    refine ⟨.ref s.heap.objs.size, _, I1, rfl, ⟨_, x, rfl, I.hok.fresh (Nat.le_refl _), rfl, fun ys hy => by rw [I.tuple_inj hy hq]; exact hx⟩, ⟨⟨y, ?_⟩, hs'.1.at fun o q => (sb.2 it (Ne.symm hne)).trans q, hne⟩, fun b hb => ?_⟩
    · have e1 : ((i + 1 : Nat) : Int) = (i : Int) + 1 := by omega
      rw [e1]; exact he'
    · have hb' : b < s.heap.objs.size := by
        rcases (show b = e ∨ b = it by simpa using hb) with z | z
        · rw [z]; exact le
        · rw [z]; exact li
      rw [upd_ne (Nat.ne_of_lt hb')]
      exact (hf b hb).1
  done := by
    intro X hP hw hK hc i pins s σ H E I hf st hg
    subst hP hw hK
    obtain ⟨⟨old, he⟩, hit, hne⟩ := st
    obtain ⟨xs, hq, hx⟩ := hg
    obtain ⟨its, rv, p, hz⟩ := I.tuple hq
    have hta : s.heap.IsTuple a its.toArray := p
    have ait : a ≠ it := fun z => by
      obtain ⟨o1, e1, c1, _⟩ := hta
      obtain ⟨o2, e2, c2, _⟩ := hit
      rw [z, e2] at e1; cases e1; rw [c2] at c1; injection c1 with c1; exact absurd c1 (by decide)
    obtain ⟨f0, f1, f2, f3, f4, f5⟩ := hf it (by simp)
    have sz : its.toArray.size = i := by rw [List.size_toArray, ← rv.length, hx]
    subst sz
    exact wpAny_pyNext_enum_endD (Draws.tuple (A := X.A.in1) (I.ok.hd hc) it a ait its.toArray) he ⟨hit, hta⟩ fun h' eb => ⟨rfl, I.turned (t' := s.toks) (fun b o hb q => eb b o hb q) f0 f1 f3 f4 f5⟩
  self := fun A i s Q E ⟨⟨_, he⟩, _⟩ k => wpAny_pyIter_enum he k
/-- enumerate of a list or a tuple -/
def iEnumA (K : PySem.W.Frag) (ta : TA) : TI := fun σ H R => ta σ H fun vs H1 => ∃ a xs, vs = [.ref a] ∧ ((SqL K H1 a xs ∧ R (Ite K a) H1) ∨ (SqT K H1 a xs ∧ R (IteT K a) H1))
theorem pi_enumA {X : Cx} {e : Expr} {ta : TA} {p pos tpos : Pos} {elts : List Expr} {kk : Nat} (hg : Gl X "enumerate") (hm : X.mg "enumerate" = none) (ha : PA X [e] ta) (hs : starEach [e] X.env = [(false, eval e X.env)] := by rfl) :
    PI X (.Tuple elts kk tpos) (.Call (.Name "enumerate" p) [e] [] pos) (iEnumA X.K ta) := by
  refine ⟨fun pins s σ H R I w => ?_⟩
  refine Call_ (ld_blt I hg hm boot_enumerate (PyProof.Rows.callWith_type1 (thn (ha.run pos pins s σ H _ I w) fun us s1 ⟨vs, H1, I1, r1, q1⟩ => ?_) hs rfl))
  obtain ⟨a, xs, ex, q1⟩ := q1
  subst ex
  obtain rfl : us = [Value.ref a] := by
    cases r1 with
    | cons r rr => cases rr; cases (show _ = Value.ref a from r); rfl
  have two : ∀ b, b ∈ [s1.heap.objs.size + 1, s1.heap.objs.size] → FpOk X pins H1 b := fun b hb => by
    have hle : s1.heap.objs.size ≤ b := by
      rcases (show b = s1.heap.objs.size + 1 ∨ b = s1.heap.objs.size by simpa using hb) with z | z
      · rw [z]; exact Nat.le_add_right _ _
      · rw [z]; exact Nat.le_refl _
    exact I1.fpOk hle (I1.hok.fresh hle)
  rcases q1 with ⟨hq, q⟩ | ⟨hq, q⟩
  · obtain ⟨its, rv, p', hz⟩ := I1.list hq
    refine call_enumerate_list p'.isList fun h' he hit hsz hk => wpAny_pyIter_enum he ?_
    exact ⟨s1.heap.objs.size + 1, [s1.heap.objs.size + 1, s1.heap.objs.size], _, _, H1, rfl, I1.kept (t' := s1.toks) hk, turn_enum a (s1.heap.objs.size + 1) s1.heap.objs.size, ⟨⟨.none, he⟩, hit, Nat.succ_ne_self _⟩, two, q⟩
  · obtain ⟨its, rv, p', hz⟩ := I1.tuple hq
    refine call_enumT p' fun h' he hit hk => wpAny_pyIter_enum he ?_
    exact ⟨s1.heap.objs.size + 1, [s1.heap.objs.size + 1, s1.heap.objs.size], _, _, H1, rfl, I1.kept (t' := s1.toks) hk, turn_enumT a (s1.heap.objs.size + 1) s1.heap.objs.size, ⟨⟨.none, he⟩, hit, Nat.succ_ne_self _⟩, two, q⟩
/-! ### sources by data -/
/-- what is walked: the items; what must hold at each turn -/
structure IS where
  items : List D
  ok : HD → Prop := fun _ => True
def ISok (K : PySem.W.Frag) (H0 : Hp) (S : IS) (J : It) : Prop := ∀ i H h, Kep H0 H → RH K H h → S.ok h →
  (S.items.length = i → J.stop i H) ∧ ∀ d, S.items[i]? = some d → J.go i H ∧ ∀ x H', J.yld i H x H' → RD K H' x d ∧ Stp K H h H' h
abbrev CI := En → HD → (IS → HD → Prop) → Prop
def lowI (K : PySem.W.Frag) (B : Bs) (t : CI) : TI := fun σ H R => ∃ ρ h Q', Sl K σ H ρ ∧ RB K B H h ∧ t ρ h Q' ∧ ∀ S J H' h', ISok K H' S J → Stp K H h H' h' → Q' S h' → R J H'
def QI (X : Cx) (B : Bs) (tg e : Expr) (t : CI) : Prop := PI X tg e (lowI X.K B t)
theorem PI.imp {X : Cx} {tg e : Expr} {t t' : TI} (p : PI X tg e t') (k : ∀ σ H Q, t σ H Q → t' σ H Q) : PI X tg e t := ⟨fun pins s σ H R I h => p.run pins s σ H R I (k σ H R h)⟩
theorem RDs.at {K : PySem.W.Frag} {H : Hp} {ds : List D} {vs : List V} {i : Nat} {d : D} {v : V} (r : RDs K H vs ds) (e : ds[i]? = some d) (e' : vs[i]? = some v) : RD K H v d := by
  obtain ⟨w, e2, q⟩ := r.get e
  rw [e'] at e2
  cases e2
  exact q
theorem RDs.some {K : PySem.W.Frag} {H : Hp} {ds : List D} {vs : List V} {i : Nat} {d : D} (r : RDs K H vs ds) (e : ds[i]? = some d) : ∃ v, vs[i]? = Option.some v := by
  obtain ⟨w, e2, q⟩ := r.get e
  exact ⟨w, e2⟩
theorem is_list {K : PySem.W.Frag} {H0 : Hp} {a : Addr} {ds : List D} {ok : HD → Prop} (q : ∀ H h, Kep H0 H → RH K H h → ok h → ∃ vs, SqL K H a vs ∧ RDs K H vs ds) : ISok K H0 ⟨ds, ok⟩ (Itl K a) := fun i H h kp rh hok => by
  obtain ⟨vs, sq, r⟩ := q H h kp rh hok
  refine ⟨fun e => ⟨vs, sq, by rw [r.length]; exact Nat.le_of_eq e⟩, fun d e => ?_⟩
  obtain ⟨v, e2⟩ := r.some e
  refine ⟨⟨vs, v, sq, e2⟩, fun x H' y => ?_⟩
  obtain ⟨rfl, y⟩ := y
  exact ⟨r.at e (y vs sq), .refl rh⟩
theorem is_tup {K : PySem.W.Frag} {H0 : Hp} {a : Addr} {ds : List D} {vs : List V} (sq : SqT K H0 a vs) (r : RDs K H0 vs ds) : ISok K H0 ⟨ds, fun _ => True⟩ (Itt K a) := fun i H h kp rh _ => by
  have sq' := kp.sqt sq
  have r' := r.mono kp
  refine ⟨fun e => ⟨vs, sq', by rw [r.length]; exact Nat.le_of_eq e⟩, fun d e => ?_⟩
  obtain ⟨v, e2⟩ := r'.some e
  refine ⟨⟨vs, v, sq', e2⟩, fun x H' y => ?_⟩
  obtain ⟨rfl, y⟩ := y
  exact ⟨r'.at e (y vs sq'), .refl rh⟩
theorem fl_kep {K : PySem.W.Frag} {H H' : Hp} {a : Addr} {vs : List V} (kp : Kep H H') (q : (∃ o, H a = some (.frz o (.lst vs))) ∨ SqL K (fun _ => none) a vs) : SqL K H' a vs := by
  rcases q with ⟨o, q⟩ | q
  · exact .inl (.inr ⟨o, kp _ _ q rfl⟩)
  · exact sql_fl (.inr q)
theorem is_fl {K : PySem.W.Frag} {H0 : Hp} {a : Addr} {ds : List D} {vs : List V} (q : (∃ o, H0 a = some (.frz o (.lst vs))) ∨ SqL K (fun _ => none) a vs) (r : RDs K H0 vs ds) : ISok K H0 ⟨ds, fun _ => True⟩ (Itl K a) :=
  is_list fun H h kp _ _ => ⟨vs, fl_kep kp q, r.mono kp⟩
theorem is_ref {K : PySem.W.Frag} {H0 : Hp} {a : Addr} {ds : List D} : ISok K H0 ⟨ds, fun h => h a = some (.lst ds)⟩ (Itl K a) :=
  is_list fun H h _ rh e => by
    obtain ⟨vs, ea, r⟩ := rh a _ e
    exact ⟨vs, .of ea, r⟩
section
variable {X : Cx} {B : Bs} {tg : Expr}
/-- a list or a tuple -/
def iSeq (K : PySem.W.Frag) (tl : TE) : TI := fun σ H R => tl σ H fun x H1 => ∃ a xs, x = .ref a ∧ ((SqL K H1 a xs ∧ R (Itl K a) H1) ∨ (SqT K H1 a xs ∧ R (Itt K a) H1))
theorem pi_seq {l : Expr} {tl : TE} (hl : PE X l tl) : PI X tg l (iSeq X.K tl) := by
  refine ⟨fun pins s σ H R I w => ?_⟩
  refine thn (hl.run pins s σ H _ I w) fun v s1 ⟨x, H1, I1, r1, a, xs, e, q⟩ => ?_
  subst e
  obtain rfl : v = Value.ref a := r1
  have fr : ∀ b, b ∈ [s1.heap.objs.size] → FpOk X pins H1 b := fun b hb => by
    obtain rfl : b = s1.heap.objs.size := by simpa using hb
    exact I1.fpOk (Nat.le_refl _) (I1.hok.fresh (Nat.le_refl _))
  rcases q with ⟨hq, q⟩ | ⟨hq, q⟩
  · obtain ⟨its, rv, p, hz⟩ := I1.list hq
    exact wpAny_pyIter_list p.isList ⟨s1.heap.objs.size, [s1.heap.objs.size], _, _, H1, rfl, I1.kept (t' := s1.toks) fun b o e => Heap.get?_push_of_some _ e, turn_list a _, ⟨_, Heap.get?_push_size _ rfl, rfl, rfl⟩, fr, q⟩
  · obtain ⟨its, rv, p, hz⟩ := I1.tuple hq
    exact wpAny_pyIter_tuple (show s1.heap.IsTuple a its.toArray from p) ⟨s1.heap.objs.size, [s1.heap.objs.size], _, _, H1, rfl, I1.kept (t' := s1.toks) fun b o e => Heap.get?_push_of_some _ e, turn_tuple a _, ⟨_, Heap.get?_push_size _ rfl, rfl, rfl⟩, fr, q⟩
def cSrc (t : CE) : CI := fun ρ h Q => t ρ h fun x h1 => match x with
  | .tup ds => Q ⟨ds, fun _ => True⟩ h1
  | .fl ds => Q ⟨ds, fun _ => True⟩ h1
  | .ref a => ∃ ds, h1 a = some (.lst ds) ∧ Q ⟨ds, fun h => h a = some (.lst ds)⟩ h1
  | _ => False
theorem qi_src {l : Expr} {t : CE} (hl : QE X B l t) : QI X B tg l (cSrc t) := PI.imp (pi_seq hl) fun σ H R w => by
  obtain ⟨ρ, h, Q', sl, rh, ht, k⟩ := w
  refine ⟨ρ, h, _, sl, rh, ht, fun v d H1 h1 rv s1 q1 => ?_⟩
  cases d with
  | tup ds => obtain ⟨a, vs, rfl, sq, r⟩ := rv; exact ⟨a, vs, rfl, .inr ⟨sq, k _ _ H1 h1 (is_tup sq r) s1 q1⟩⟩
  | fl ds => obtain ⟨a, vs, rfl, sq, r⟩ := rv; exact ⟨a, vs, rfl, .inl ⟨sql_fl sq, k _ _ H1 h1 (is_fl sq r) s1 q1⟩⟩
  | ref a =>
    cases (show v = V.ref a from rv)
    obtain ⟨ds, e, q⟩ := q1
    obtain ⟨vs, ea, r⟩ := s1.rh a _ e
    exact ⟨a, vs, rfl, .inl ⟨.of ea, k _ _ H1 h1 is_ref s1 q⟩⟩
  | _ => exact q1.elim
/-- range -/
def rgD (lo : Int) (n : Nat) : List D := (List.range n).map fun i => D.int (lo + (i : Nat))
theorem is_rng {K : PySem.W.Frag} {H0 : Hp} {lo : Int} {n : Nat} : ISok K H0 ⟨rgD lo n, fun _ => True⟩ (Itr lo n) := fun i H h kp rh _ => by
  refine ⟨fun e => ?_, fun d e => ?_⟩
  · show n ≤ i
    rw [← e]
    unfold rgD
    simp
  · have lt : i < n := by
      have := (List.getElem?_eq_some_iff.mp e).1
      unfold rgD at this
      simpa using this
    refine ⟨lt, fun x H' y => ?_⟩
    obtain ⟨rfl, rfl⟩ := y
    have : d = .int (lo + (i : Nat)) := by
      unfold rgD at e
      rw [List.getElem?_map, List.getElem?_range lt] at e
      exact (Option.some.inj e).symm
    rw [this]
    exact ⟨rfl, .refl rh⟩
def cRng1 (t : CA) : CI := fun ρ h Q => t ρ h fun xs h1 => match xs with
  | [.int j] => -(2 ^ 62) ≤ j ∧ j < 2 ^ 62 ∧ Q ⟨rgD 0 j.toNat, fun _ => True⟩ h1
  | _ => False
def cRng2 (t : CA) : CI := fun ρ h Q => t ρ h fun xs h1 => match xs with
  | [.int i, .int j] => (-(2 ^ 62) ≤ i ∧ i < 2 ^ 62 ∧ -(2 ^ 62) ≤ j ∧ j < 2 ^ 62) ∧ Q ⟨rgD i (j - i).toNat, fun _ => True⟩ h1
  | _ => False
theorem qi_range1 {a : Expr} {t : CA} {p pos : Pos} (hg : Gl X "range") (hm : X.mg "range" = none) (ha : QA X B [a] t) (hs : starEach [a] X.env = [(false, eval a X.env)] := by rfl) : QI X B tg (.Call (.Name "range" p) [a] [] pos) (cRng1 t) :=
  PI.imp (pi_range1 hg hm ha hs) fun σ H R w => by
    obtain ⟨ρ, h, Q', sl, rh, ht, k⟩ := w
    refine ⟨ρ, h, _, sl, rh, ht, fun vs ds H1 h1 rv s1 q1 => ?_⟩
    match ds, q1 with
    | [.int j], q1 =>
      obtain ⟨v, rfl, e⟩ := rv.one
      cases (show v = V.int j from e)
      exact ⟨j, rfl, q1.1, q1.2.1, k _ _ H1 h1 is_rng s1 q1.2.2⟩
theorem qi_range2 {a b : Expr} {t : CA} {p pos : Pos} (hg : Gl X "range") (hm : X.mg "range" = none) (ha : QA X B [a, b] t) (hs : starEach [a, b] X.env = [(false, eval a X.env), (false, eval b X.env)] := by rfl) (hs2 : starEach [b] X.env = [(false, eval b X.env)] := by rfl) :
    QI X B tg (.Call (.Name "range" p) [a, b] [] pos) (cRng2 t) :=
  PI.imp (pi_range2 hg hm ha hs hs2) fun σ H R w => by
    obtain ⟨ρ, h, Q', sl, rh, ht, k⟩ := w
    refine ⟨ρ, h, _, sl, rh, ht, fun vs ds H1 h1 rv s1 q1 => ?_⟩
    match ds, q1 with
    | [.int i, .int j], q1 =>
      obtain ⟨v, w, rfl, e, e2⟩ := rv.two
      cases (show v = V.int i from e); cases (show w = V.int j from e2)
      exact ⟨i, j, rfl, q1.1, k _ _ H1 h1 is_rng s1 q1.2⟩
/-- enumerate, zip -/
def enD (ds : List D) : List D := (ds.zipIdx).map fun p => D.tup [.int (p.2 : Nat), p.1]
theorem enD_get {ds : List D} {i : Nat} {d : D} (e : (enD ds)[i]? = some d) : ∃ x, ds[i]? = some x ∧ d = .tup [.int (i : Nat), x] := by
  unfold enD at e
  rw [List.getElem?_map, List.getElem?_zipIdx] at e
  cases q : ds[i]? with
  | none => rw [q] at e; cases e
  | some x =>
    rw [q] at e
    refine ⟨x, rfl, ?_⟩
    have := (Option.some.inj e).symm
    simpa using this
theorem enD_len (ds : List D) : (enD ds).length = ds.length := by unfold enD; simp
theorem pair_new {K : PySem.W.Frag} {H : Hp} {h : HD} {T : Addr} {x y : V} {d e : D} (rh : RH K H h) (np : H T = none) (r1 : RD K H x d) (r2 : RD K H y e) :
    RD K (upd H T (.tup [x, y])) (.ref T) (.tup [d, e]) ∧ Stp K H h (upd H T (.tup [x, y])) h :=
  ⟨new_tup np ⟨x, [y], rfl, r1, y, [], rfl, r2, rfl⟩, .hid rh np (rh.none np)⟩
theorem is_enumL {K : PySem.W.Frag} {H0 : Hp} {a : Addr} {ds : List D} {ok : HD → Prop} (q : ∀ H h, Kep H0 H → RH K H h → ok h → ∃ vs, SqL K H a vs ∧ RDs K H vs ds) : ISok K H0 ⟨enD ds, ok⟩ (Ite K a) := fun i H h kp rh hok => by
  obtain ⟨vs, sq, r⟩ := q H h kp rh hok
  refine ⟨fun e => ⟨vs, sq, by rw [r.length, ← enD_len]; exact Nat.le_of_eq e⟩, fun d e => ?_⟩
  obtain ⟨x, e1, rfl⟩ := enD_get e
  obtain ⟨v, e2⟩ := r.some e1
  refine ⟨⟨vs, v, sq, e2⟩, fun z H' y => ?_⟩
  obtain ⟨T, w, rfl, np, rfl, y⟩ := y
  exact pair_new rh np rfl (r.at e1 (y vs sq))
theorem is_enumT {K : PySem.W.Frag} {H0 : Hp} {a : Addr} {ds : List D} {vs : List V} (sq : SqT K H0 a vs) (r : RDs K H0 vs ds) : ISok K H0 ⟨enD ds, fun _ => True⟩ (IteT K a) := fun i H h kp rh _ => by
  have sq' := kp.sqt sq
  have r' := r.mono kp
  refine ⟨fun e => ⟨vs, sq', by rw [r.length, ← enD_len]; exact e⟩, fun d e => ?_⟩
  obtain ⟨x, e1, rfl⟩ := enD_get e
  obtain ⟨v, e2⟩ := r'.some e1
  refine ⟨⟨vs, v, sq', e2⟩, fun z H' y => ?_⟩
  obtain ⟨T, w, rfl, np, rfl, y⟩ := y
  exact pair_new rh np rfl (r'.at e1 (y vs sq'))
def cEnum (t : CA) : CI := fun ρ h Q => t ρ h fun xs h1 => match xs with
  | [.tup ds] => Q ⟨enD ds, fun _ => True⟩ h1
  | [.fl ds] => Q ⟨enD ds, fun _ => True⟩ h1
  | [.ref a] => ∃ ds, h1 a = some (.lst ds) ∧ Q ⟨enD ds, fun h => h a = some (.lst ds)⟩ h1
  | _ => False
theorem qi_enum {e : Expr} {t : CA} {p pos tpos : Pos} {elts : List Expr} {kk : Nat} (hg : Gl X "enumerate") (hm : X.mg "enumerate" = none) (ha : QA X B [e] t) (hs : starEach [e] X.env = [(false, eval e X.env)] := by rfl) :
    QI X B (.Tuple elts kk tpos) (.Call (.Name "enumerate" p) [e] [] pos) (cEnum t) := PI.imp (pi_enumA hg hm ha hs) fun σ H R w => by
  obtain ⟨ρ, h, Q', sl, rh, ht, k⟩ := w
  refine ⟨ρ, h, _, sl, rh, ht, fun vs ds H1 h1 rv s1 q1 => ?_⟩
  match ds, q1 with
  | [.tup ds], q1 => obtain ⟨v, rfl, a, vs, rfl, sq, r⟩ := rv.one; exact ⟨a, vs, rfl, .inr ⟨sq, k _ _ H1 h1 (is_enumT sq r) s1 q1⟩⟩
  | [.fl ds], q1 => obtain ⟨v, rfl, a, vs, rfl, sq, r⟩ := rv.one; exact ⟨a, vs, rfl, .inl ⟨sql_fl sq, k _ _ H1 h1 (is_enumL fun H h kp _ _ => ⟨vs, fl_kep kp sq, r.mono kp⟩) s1 q1⟩⟩
  | [.ref a], q1 =>
    obtain ⟨v, rfl, e⟩ := rv.one
    cases (show v = V.ref a from e)
    obtain ⟨ds, e, q⟩ := q1
    obtain ⟨vs, ea, r⟩ := s1.rh a _ e
    exact ⟨a, vs, rfl, .inl ⟨.of ea, k _ _ H1 h1 (is_enumL (ok := fun h => h a = some (.lst ds)) fun H h _ rh e => let ⟨vs, ea, r⟩ := rh a _ e; ⟨vs, .of ea, r⟩) s1 q⟩⟩
def zpD (ds es : List D) : List D := (ds.zip es).map fun p => D.tup [p.1, p.2]
theorem zpD_get {ds es : List D} {i : Nat} {d : D} (e : (zpD ds es)[i]? = some d) : ∃ x y, ds[i]? = some x ∧ es[i]? = some y ∧ d = .tup [x, y] := by
  unfold zpD at e
  rw [List.getElem?_map] at e
  obtain ⟨p, e1, e2⟩ := Option.map_eq_some_iff.mp e
  obtain ⟨h1, h2⟩ := List.getElem?_zip_eq_some.mp e1
  exact ⟨p.1, p.2, h1, h2, e2.symm⟩
theorem zpD_len (ds es : List D) : (zpD ds es).length = min ds.length es.length := by unfold zpD; rw [List.length_map, List.length_zip]
theorem is_zipL {K : PySem.W.Frag} {H0 : Hp} {a b : Addr} {ds es : List D} {ok : HD → Prop} (q : ∀ H h, Kep H0 H → RH K H h → ok h → ∃ vs ws, SqL K H a vs ∧ RDs K H vs ds ∧ SqL K H b ws ∧ RDs K H ws es) : ISok K H0 ⟨zpD ds es, ok⟩ (Itz K a b) := fun i H h kp rh hok => by
  obtain ⟨vs, ws, sq, r, sq2, r2⟩ := q H h kp rh hok
  refine ⟨fun e => ⟨vs, ws, sq, sq2, ?_⟩, fun d e => ?_⟩
  · have e' : (zpD ds es).length = i := e
    rw [zpD_len, ← r.length, ← r2.length] at e'
    omega
  · obtain ⟨x, y, e1, e2, rfl⟩ := zpD_get e
    obtain ⟨v, e3⟩ := r.some e1
    obtain ⟨w, e4⟩ := r2.some e2
    refine ⟨⟨vs, ws, v, w, sq, sq2, e3, e4⟩, fun z H' y => ?_⟩
    obtain ⟨T, x', y', rfl, np, rfl, y1, y2⟩ := y
    exact pair_new rh np (r.at e1 (y1 vs sq)) (r2.at e2 (y2 ws sq2))
theorem is_zipT {K : PySem.W.Frag} {H0 : Hp} {a b : Addr} {ds es : List D} {vs ws : List V} (sq : SqT K H0 a vs) (r : RDs K H0 vs ds) (sq2 : SqT K H0 b ws) (r2 : RDs K H0 ws es) : ISok K H0 ⟨zpD ds es, fun _ => True⟩ (RZ.ItzT K a b) := fun i H h kp rh _ => by
  have sq := kp.sqt sq
  have r := r.mono kp
  have sq2 := kp.sqt sq2
  have r2 := r2.mono kp
  refine ⟨fun e => ⟨vs, ws, sq, sq2, ?_⟩, fun d e => ?_⟩
  · have e' : (zpD ds es).length = i := e
    rw [zpD_len, ← r.length, ← r2.length] at e'
    omega
  · obtain ⟨x, y, e1, e2, rfl⟩ := zpD_get e
    obtain ⟨v, e3⟩ := r.some e1
    obtain ⟨w, e4⟩ := r2.some e2
    refine ⟨⟨vs, ws, v, w, sq, sq2, e3, e4⟩, fun z H' y => ?_⟩
    obtain ⟨T, x', y', rfl, np, rfl, y1, y2⟩ := y
    exact pair_new rh np (r.at e1 (y1 vs sq)) (r2.at e2 (y2 ws sq2))
def cZip (t : CA) : CI := fun ρ h Q => t ρ h fun xs h1 => match xs with
  | [.tup ds, .tup es] => Q ⟨zpD ds es, fun _ => True⟩ h1
  | [.ref a, .ref b] => ∃ ds es, h1 a = some (.lst ds) ∧ h1 b = some (.lst es) ∧ Q ⟨zpD ds es, fun h => h a = some (.lst ds) ∧ h b = some (.lst es)⟩ h1
  | _ => False
theorem qi_zip {e e2 : Expr} {t : CA} {p pos tpos : Pos} {elts : List Expr} {kk : Nat} (hg : Gl X "zip") (hm : X.mg "zip" = none) (ha : QA X B [e, e2] t)
    (hs : starEach [e, e2] X.env = (false, eval e X.env) :: starEach [e2] X.env := by rfl) (hpl : (backTo pos (starEach [e2] X.env)).any (·.1) = false := by rfl) :
    QI X B (.Tuple elts kk tpos) (.Call (.Name "zip" p) [e, e2] [] pos) (cZip t) := PI.imp (RZ.pi_zipA hg hm ha hs hpl) fun σ H R w => by
  obtain ⟨ρ, h, Q', sl, rh, ht, k⟩ := w
  refine ⟨ρ, h, _, sl, rh, ht, fun vs ds H1 h1 rv s1 q1 => ?_⟩
  match ds, q1 with
  | [.tup ds, .tup es], q1 =>
    obtain ⟨v, w, rfl, ⟨a, vs, rfl, sq, r⟩, b, ws, rfl, sq2, r2⟩ := rv.two
    exact ⟨a, b, vs, ws, rfl, .inr ⟨sq, sq2, k _ _ H1 h1 (is_zipT sq r sq2 r2) s1 q1⟩⟩
  | [.ref a, .ref b], q1 =>
    obtain ⟨v, w, rfl, e, e'⟩ := rv.two
    cases (show v = V.ref a from e); cases (show w = V.ref b from e')
    obtain ⟨ds, es, e, e', q⟩ := q1
    obtain ⟨vs, ea, r⟩ := s1.rh a _ e
    obtain ⟨ws, eb, r2⟩ := s1.rh b _ e'
    exact ⟨a, b, vs, ws, rfl, .inl ⟨.of ea, .of eb, k _ _ H1 h1 (is_zipL (ok := fun h => h a = some (.lst ds) ∧ h b = some (.lst es)) fun H h _ rh e => let ⟨vs, ea, r⟩ := rh a _ e.1; let ⟨ws, eb, r2⟩ := rh b _ e.2; ⟨vs, ws, .of ea, r, .of eb, r2⟩) s1 q⟩⟩
end

/-! ### targets -/
abbrev CG := D → En → HD → (En → HD → Prop) → Prop
abbrev CGs := List D → En → HD → (En → HD → Prop) → Prop
def lowG (K : PySem.W.Frag) (B : Bs) (t : CG) : TG := fun v σ H Q => ∃ d ρ h Q', RD K H v d ∧ Sl K σ H ρ ∧ RB K B H h ∧ t d ρ h Q' ∧ ∀ σ' ρ' H' h', Sl K σ' H' ρ' → Stp K H h H' h' → Q' ρ' h' → Q σ' H'
def lowGs (K : PySem.W.Frag) (B : Bs) (t : CGs) : TGs := fun vs σ H Q => ∃ ds ρ h Q', RDs K H vs ds ∧ Sl K σ H ρ ∧ RB K B H h ∧ t ds ρ h Q' ∧ ∀ σ' ρ' H' h', Sl K σ' H' ρ' → Stp K H h H' h' → Q' ρ' h' → Q σ' H'
def QG (X : Cx) (B : Bs) (e : Expr) (t : CG) : Prop := PG X e (lowG X.K B t)
def QGs (X : Cx) (B : Bs) (es : List Expr) (t : CGs) : Prop := PGs X es (lowGs X.K B t)
theorem PG.imp {X : Cx} {e : Expr} {t t' : TG} (p : PG X e t') (k : ∀ v σ H Q, t v σ H Q → t' v σ H Q) : PG X e t := ⟨fun pins s σ H v u Q I r h => p.run pins s σ H v u Q I r (k v σ H Q h)⟩
theorem PGs.imp {X : Cx} {e : List Expr} {t t' : TGs} (p : PGs X e t') (k : ∀ v σ H Q, t v σ H Q → t' v σ H Q) : PGs X e t := ⟨fun pins s σ H v u Q I r h => p.run pins s σ H v u Q I r (k v σ H Q h)⟩
section
variable {X : Cx} {B : Bs}
def cName (i : Nat) : CG := fun d ρ h Q => Q (ρ.set i (some d)) h
theorem qg_name {i : Nat} {x : Str} {pos : Pos} (hN : X.N.Nodup) (hi : X.N[i]? = some x) (hx : Loc X.env.scope x) (hf : X.fn x = true ∨ X.env.scope.names.lookup x = some .local := by first | exact .inl rfl | exact .inr rfl | assumption) : QG X B (.Name x pos) (cName i) :=
  PG.imp (pg_name hN hi hx hf) fun v σ H Q w => by
    obtain ⟨d, ρ, h, Q', rv, sl, rh, ht, k⟩ := w
    exact k _ _ H h (sl.set rv) (.refl rh.rh) ht
def cGNil : CGs := fun ds ρ h Q => ds = [] ∧ Q ρ h
def cGCons (t : CG) (u : CGs) : CGs := fun ds ρ h Q => match ds with
  | [] => False
  | d :: r => t d ρ h fun ρ' h' => u r ρ' h' Q
theorem qgs_nil : QGs X B [] cGNil := PGs.imp pgs_nil fun v σ H Q w => by
  obtain ⟨d, ρ, h, Q', rv, sl, rh, ⟨rfl, q⟩, k⟩ := w
  exact ⟨rv, k _ _ H h sl (.refl rh.rh) q⟩
theorem qgs_cons {e : Expr} {es : List Expr} {t : CG} {u : CGs} (h1 : QG X B e t) (h2 : QGs X B es u) (hs : (assignEach (e :: es) X.env).map (·.2) = assign e X.env :: (assignEach es X.env).map (·.2) := by rfl) : QGs X B (e :: es) (cGCons t u) :=
  PGs.imp (pgs_cons h1 h2 hs) fun v σ H Q w => by
    obtain ⟨ds, ρ, h, Q', rv, sl, rh, ht, k⟩ := w
    cases ds with
    | nil => exact ht.elim
    | cons d r =>
      obtain ⟨v, vr, rfl, r1, r2⟩ := rv
      refine ⟨v, vr, rfl, d, ρ, h, _, r1, sl, rh, ht, fun σ' ρ' H' h' sl' s' q' => ?_⟩
      exact ⟨r, ρ', h', Q', r2.mono s'.ts, sl', rh.trans s', q', fun σ2 ρ2 H2 h2 sl2 s2 q2 => k σ2 ρ2 H2 h2 sl2 (s'.trans s2) q2⟩
def cGTup (n : Nat) (t : CGs) : CG := fun d ρ h Q => match d with
  | .tup ds => ds.length = n ∧ t ds ρ h Q
  | _ => False
theorem qg_tup {es : List Expr} {k : Nat} {t : CGs} {n : Nat} {pos : Pos} (hc : X.calm = true) (h : QGs X B es t) (hn : (assignEach es X.env).length = n := by rfl) (hst : (assignEach es X.env).findIdx? (·.1) = none := by rfl) : QG X B (.Tuple es k pos) (cGTup n t) :=
  PG.imp (pg_tup hc h hn hst) fun v σ H Q w => by
    obtain ⟨d, ρ, h, Q', rv, sl, rh, ht, k⟩ := w
    cases d with
    | tup ds =>
      obtain ⟨a, vs, rfl, sq, r⟩ := rv
      exact ⟨a, vs, rfl, sq, by rw [r.length]; exact ht.1, ds, ρ, h, Q', r, sl, rh, ht.2, k⟩
    | _ => exact ht.elim

/-! ### for -/
/-- the turns over the items that are left -/
def cLoop (ok : HD → Prop) (g : CG) (b : CS) (Z : DE) : List D → En → HD → Prop
  | [], ρ, h => ok h ∧ Z.nx ρ h
  | x :: xs, ρ, h => ok h ∧ g x ρ h fun ρ1 h1 => b { Z with nx := cLoop ok g b Z xs, ct := cLoop ok g b Z xs, bk := Z.nx } ρ1 h1
def cFor (t : CI) (g : CG) (b : CS) : CS := fun D ρ h => t ρ h fun S h1 => cLoop S.ok g b D S.items ρ h1
theorem qs_for {tg iter : Expr} {body : List Stmt} {t : CI} {g : CG} {b : CS} {pos : Pos} (hp : PassesOwn (model X.prog X.w) X.A X.env X.xe) (hc : X.calm = true) (hi : QI X B tg iter t) (hg : QG X B tg g) (hb : QSs X B body b)
    (hs : ∀ x, foldedSetIterable iter X.env x = pure x := by intro _; rfl) : QS X B (.For tg iter body [] pos) (cFor t g b) :=
  PS.imp (ps_for hp hc hi hg hb hs) fun D σ H w => by
    obtain ⟨ρ, h, D', sl, rh, ht, lk⟩ := w
    refine ⟨ρ, h, _, sl, rh, ht, fun S J H1 h1 isok s1 q1 => ?_⟩
    have lk1 := lk.step s1
    refine ⟨fun i m σ2 H2 => ∃ ρ2 h2, Sl X.K σ2 H2 ρ2 ∧ Stp X.K H1 h1 H2 h2 ∧ i + m = S.items.length ∧ cLoop S.ok g b D' (S.items.drop i) ρ2 h2, ⟨S.items.length, ρ, h1, sl.mono s1.ts, .refl s1.rh, Nat.zero_add _, q1⟩, ?_⟩
    rintro i m σ2 H2 ⟨ρ2, h2, sl2, s2, e, q2⟩
    cases m with
    | zero =>
      have e' : S.items.length = i := by omega
      rw [List.drop_eq_nil_of_le (by omega)] at q2
      exact .inl ⟨(isok i H2 h2 s2.ts s2.rh q2.1).1 e', lk1.nx _ _ _ _ sl2 s2 q2.2⟩
    | succ m =>
      have lt : i < S.items.length := by omega
      rw [List.drop_eq_getElem_cons lt] at q2
      have isk := (isok i H2 h2 s2.ts s2.rh q2.1).2 S.items[i] (List.getElem?_eq_getElem lt)
      refine .inr ⟨isk.1, fun σ3 H3 => ∃ ρ3 h3, Sl X.K σ3 H3 ρ3 ∧ Stp X.K H1 h1 H3 h3 ∧ cLoop S.ok g b D' (S.items.drop (i + 1)) ρ3 h3, fun σ3 H3 n3 => ?_, fun x H3 y => ?_⟩
      · obtain ⟨ρ3, h3, sl3, s3, q3⟩ := n3
        exact ⟨m, Nat.lt_succ_self _, ρ3, h3, sl3, s3, by omega, q3⟩
      · obtain ⟨rx, s3⟩ := isk.2 x H3 y
        refine ⟨S.items[i], ρ2, h2, _, rx, sl2.mono s3.ts, ((rh.trans s1).trans s2).trans s3, q2.2, fun σ4 ρ4 H4 h4 sl4 s4 q4 => ?_⟩
        have s14 := (s2.trans s3).trans s4
        refine ⟨ρ4, h4, _, sl4, (rh.trans s1).trans s14, q4, ⟨fun σ' ρ' H' h' a c d => ⟨ρ', h', a, s14.trans c, d⟩, fun v d H' h' a c e => lk1.rt v d H' h' a (s14.trans c) e, fun σ' ρ' H' h' a c d => lk1.nx σ' ρ' H' h' a (s14.trans c) d, fun σ' ρ' H' h' a c d => ⟨ρ', h', a, s14.trans c, d⟩⟩⟩
/-- a while: so many turns at most -/
def cWh (c : CT) (b : CS) (D : DE) : Nat → En → HD → Prop
  | 0, _, _ => False
  | n + 1, ρ, h => c ρ h fun k h1 => if k = true then b { D with nx := cWh c b D n, ct := cWh c b D n, bk := D.nx } ρ h1 else D.nx ρ h1
def cWhile (c : CT) (b : CS) : CS := fun D ρ h => ∃ n, cWh c b D n ρ h
theorem qs_while {c : Expr} {body : List Stmt} {t : CT} {b : CS} {pos : Pos} (hp : PassesOwn (model X.prog X.w) X.A X.env X.xe) (hc : QT X B c t) (hb : QSs X B body b) : QS X B (.While c body [] pos) (cWhile t b) :=
  PS.imp (ps_while hp hc hb) fun D σ H w => by
    obtain ⟨ρ, h, D', sl, rh, ⟨n, ht⟩, lk⟩ := w
    refine ⟨fun m σ2 H2 => ∃ ρ2 h2, Sl X.K σ2 H2 ρ2 ∧ Stp X.K H h H2 h2 ∧ cWh t b D' m ρ2 h2, ⟨n, ρ, h, sl, .refl rh.rh, ht⟩, ?_⟩
    rintro m σ2 H2 ⟨ρ2, h2, sl2, s2, q2⟩
    cases m with
    | zero => exact q2.elim
    | succ m =>
      refine ⟨ρ2, h2, _, sl2, rh.trans s2, q2, fun k H3 h3 s3 q3 => ?_⟩
      have s13 := s2.trans s3
      cases k with
      | true =>
        simp only [if_true] at q3 ⊢
        refine ⟨fun σ4 H4 => ∃ ρ4 h4, Sl X.K σ4 H4 ρ4 ∧ Stp X.K H h H4 h4 ∧ cWh t b D' m ρ4 h4, fun σ4 H4 n4 => ⟨m, Nat.lt_succ_self _, n4⟩, ?_⟩
        refine ⟨ρ2, h3, _, sl2.mono s3.ts, rh.trans s13, q3, ⟨fun σ' ρ' H' h' a c d => ⟨ρ', h', a, s13.trans c, d⟩, fun v d H' h' a c e => lk.rt v d H' h' a (s13.trans c) e, fun σ' ρ' H' h' a c d => lk.nx σ' ρ' H' h' a (s13.trans c) d, fun σ' ρ' H' h' a c d => ⟨ρ', h', a, s13.trans c, d⟩⟩⟩
      | false =>
        simp only [Bool.false_eq_true, if_false] at q3 ⊢
        exact lk.nx _ _ _ _ (sl2.mono s3.ts) s13 q3

/-! ### list comprehensions -/
def wipeD (ρ : En) : List Nat → En
  | [] => ρ
  | v :: vs => (wipeD ρ vs).set v none
theorem Sl.wipe {K : PySem.W.Frag} {σ : L2.St} {H : Hp} {ρ : En} (s : Sl K σ H ρ) : ∀ vs, Sl K (wipe σ vs) H (wipeD ρ vs)
  | [] => s
  | v :: vs => by
    have ih := Sl.wipe s vs
    refine ⟨by show ((wipeD ρ vs).set v none).length = ((L2.wipe σ vs).set v none).length; rw [List.length_set, List.length_set]; exact ih.1, fun j d e => ?_⟩
    have e' : ((wipeD ρ vs).set v none)[j]? = some (some d) := e
    by_cases hj : v = j
    · subst hj
      by_cases hl : v < (wipeD ρ vs).length
      · rw [List.getElem?_set_self hl] at e'; cases e'
      · rw [List.getElem?_eq_none (by rw [List.length_set]; omega)] at e'; cases e'
    · rw [List.getElem?_set_ne hj] at e'
      obtain ⟨v', q, r⟩ := ih.2 j d e'
      exact ⟨v', by show ((L2.wipe σ vs).set v none)[j]? = _; rw [List.getElem?_set_ne hj]; exact q, r⟩
end

end PD

-- PdD
set_option Elab.async false
set_option linter.all false
set_option maxRecDepth 100000
set_option maxHeartbeats 4000000
/-! PdD: list comprehensions, tests, statements, by data. -/
namespace PD
open PySem PySem.Spec PyProof.Rows L2

/-! ### list comprehensions -/
/-- a comprehension's target: a name; a tuple of names -/
inductive TgS where
  | one (i : Nat) | many (is : List Nat)
def gNames : List Nat → TGs
  | [] => gNil
  | i :: is => gCons (gName i) (gNames is)
def TgS.g (K : PySem.W.Frag) : TgS → TG
  | .one i => gName i
  | .many is => gTup K is.length (gNames is)
def TgS.slots : TgS → List Nat
  | .one i => [i]
  | .many is => is
def setsD : En → List Nat → List D → En
  | ρ, i :: is, d :: ds => setsD (ρ.set i (some d)) is ds
  | ρ, _, _ => ρ
def TgS.bind (ρ : En) (d : D) (k : En → Prop) : TgS → Prop
  | .one i => k (ρ.set i (some d))
  | .many is => match d with
    | .tup ds => ds.length = is.length ∧ k (setsD ρ is ds)
    | _ => False
theorem wipe_at {σ : L2.St} {i : Nat} {x : Option V} : ∀ {vs : List Nat}, i ∈ vs → wipe (σ.set i x) vs = wipe σ vs
  | v :: vs, h => by
    show (wipe (σ.set i x) vs).set v none = (wipe σ vs).set v none
    by_cases m : i ∈ vs
    · rw [wipe_at m]
    · have e : i = v := by
        rcases List.mem_cons.mp h with e | e
        · exact e
        · exact absurd e m
      subst e
      have go : ∀ (ws : List Nat), i ∉ ws → wipe (σ.set i x) ws = (wipe σ ws).set i x := by
        intro ws
        induction ws with
        | nil => intro _; rfl
        | cons w ws ih =>
          intro n
          have n1 : i ≠ w := fun z => n (by rw [z]; exact List.mem_cons_self)
          have n2 : i ∉ ws := fun z => n (List.mem_cons_of_mem _ z)
          show (wipe (σ.set i x) ws).set w none = ((wipe σ ws).set w none).set i x
          rw [ih n2, List.set_comm _ _ n1]
      rw [go vs m, List.set_set]
theorem wipe_wipe {σ : L2.St} : ∀ vs : List Nat, wipe (wipe σ vs) vs = wipe σ vs := by
  have gen : ∀ (ws vs : List Nat), (∀ w ∈ ws, w ∈ vs) → ∀ τ : L2.St, wipe (wipe τ ws) vs = wipe τ vs := by
    intro ws
    induction ws with
    | nil => intro vs _ τ; rfl
    | cons w ws ih =>
      intro vs h τ
      show wipe ((wipe τ ws).set w none) vs = wipe τ vs
      rw [wipe_at (h w List.mem_cons_self), ih vs (fun z m => h z (List.mem_cons_of_mem _ m))]
  exact fun vs => gen vs vs (fun _ m => m) σ
def setsV : L2.St → List Nat → List V → L2.St
  | σ, i :: is, v :: vs => setsV (σ.set i (some v)) is vs
  | σ, _, _ => σ
theorem gNames_run {σ : L2.St} {H : Hp} {Q : L2.St → Hp → Prop} : ∀ {is : List Nat} {vs : List V} {σ : L2.St}, vs.length = is.length → Q (setsV σ is vs) H → gNames is vs σ H Q
  | [], [], _, _, q => ⟨rfl, q⟩
  | [], _ :: _, _, e, _ => by cases e
  | _ :: _, [], _, e, _ => by cases e
  | i :: is, v :: vs, σ, e, q => ⟨v, vs, rfl, gNames_run (σ := σ.set i (some v)) (Nat.succ.inj e) q⟩
theorem wipe_setsV {vs : List Nat} : ∀ {is : List Nat} {us : List V} {σ : L2.St}, (∀ i ∈ is, i ∈ vs) → wipe (setsV σ is us) vs = wipe σ vs
  | [], _, _, _ => by unfold setsV; rfl
  | i :: is, [], _, _ => by unfold setsV; rfl
  | i :: is, u :: us, σ, h => by
    show wipe (setsV (σ.set i (some u)) is us) vs = _
    rw [wipe_setsV (fun j m => h j (List.mem_cons_of_mem _ m)), wipe_at (h i List.mem_cons_self)]
theorem Sl.sets {K : PySem.W.Frag} {H : Hp} : ∀ {is : List Nat} {us : List V} {ds : List D} {σ : L2.St} {ρ : En}, Sl K σ H ρ → RDs K H us ds → Sl K (setsV σ is us) H (setsD ρ is ds)
  | [], _, _, _, _, s, _ => by unfold setsV setsD; exact s
  | i :: is, us, [], _, _, s, r => by cases r; unfold setsV setsD; exact s
  | i :: is, us, d :: ds, σ, ρ, s, r => by
    obtain ⟨v, r', rfl, q, t⟩ := r
    exact Sl.sets (is := is) (s.set q) t
theorem TgS.run {K : PySem.W.Frag} {σ : L2.St} {H : Hp} {ρ : En} {v : V} {d : D} {k : En → Prop} {Q : L2.St → Hp → Prop} {vs : List Nat} (tg : TgS) (s : Sl K σ H ρ) (r : RD K H v d) (b : TgS.bind ρ d k tg) (sub : ∀ i ∈ tg.slots, i ∈ vs)
    (q : ∀ σ' ρ', wipe σ' vs = wipe σ vs → Sl K σ' H ρ' → k ρ' → Q σ' H) : tg.g K v σ H Q := by
  cases tg with
  | one i => exact q _ _ (wipe_at (sub i (by simp [TgS.slots]))) (s.set r) b
  | many is =>
    cases d with
    | tup ds =>
      obtain ⟨a, us, rfl, sq, rs⟩ := r
      have e : us.length = is.length := by rw [rs.length]; exact b.1
      exact ⟨a, us, rfl, sq, e, gNames_run (σ := σ) e (q _ _ (wipe_setsV sub) (s.sets rs) b.2)⟩
    | _ => exact b.elim
def cLcGo (ok : HD → Prop) (tg : TgS) (tt : CT) (te : CE) (ρ : En) (Q : DK) : List D → List D → HD → Prop
  | [], acc, h => ok h ∧ ∀ p, h p = none → Q (.ref p) (updD h p (.lst acc))
  | x :: xs, acc, h => ok h ∧ tg.bind ρ x fun ρ1 => tt ρ1 h fun b h1 => if b = true then te ρ1 h1 fun y h2 => cLcGo ok tg tt te ρ Q xs (acc ++ [y]) h2 else cLcGo ok tg tt te ρ Q xs acc h1
/-- [te for tg in t if tt]; vs: the block's own names -/
def cLc (t : CI) (tg : TgS) (tt : CT) (te : CE) (vs : List Nat) : CE := fun ρ h Q => t ρ h fun S h1 => S.items.length ≤ sizeLine ∧ cLcGo S.ok tg tt te (wipeD ρ vs) Q S.items [] h1
theorem low_lc {K : PySem.W.Frag} {B : Bs} {t : CI} {tg : TgS} {tt : CT} {te : CE} {vs : List Nat} {σ : L2.St} {H : Hp} {Q : VK} (sub : ∀ i ∈ tg.slots, i ∈ vs) (w : lowE K B (cLc t tg tt te vs) σ H Q) :
    tLc (lowI K B t) (tg.g K) (lowT K B tt) (lowE K B te) vs σ H Q := by
  obtain ⟨ρ, h, Q', sl, rh, ht, k⟩ := w
  refine ⟨ρ, h, _, sl, rh, ht, fun S J H1 h1 isok s1 q1 L nL => ?_⟩
  obtain ⟨hsz, q1⟩ := q1
  have sL : Stp K H1 h1 (upd H1 L (.lst [])) h1 := .hid s1.rh nL (s1.rh.none nL)
  refine ⟨fun i m H2 => ∃ h2 vacc acc, H2 L = some (.lst vacc) ∧ RDs K H2 vacc acc ∧ h2 L = none ∧ Stp K H1 h1 H2 h2 ∧ i + m = S.items.length ∧ acc.length ≤ i ∧ cLcGo S.ok tg tt te (wipeD ρ vs) Q' (S.items.drop i) acc h2,
    ⟨S.items.length, h1, [], [], upd_same, rfl, s1.rh.none nL, sL, Nat.zero_add _, Nat.le_refl _, q1⟩, ?_⟩
  rintro i m H2 ⟨h2, vacc, acc, eL, ra, hL, s2, e, hle, q2⟩
  cases m with
  | zero =>
    have e' : S.items.length = i := by omega
    rw [List.drop_eq_nil_of_le (by omega)] at q2
    refine .inl ⟨(isok i H2 h2 s2.ts s2.rh q2.1).1 e', ?_⟩
    have st : Stp K H1 h1 H2 (updD h2 L (.lst acc)) := by
      have s3 := s2
      refine ⟨s3.ts, s3.dm, fun a q => ?_, fun a o eo => ?_, s3.hd⟩
      · by_cases z : a = L
        · exact .inr (by rw [z]; exact nL)
        · rw [updD_ne z] at q; exact s3.nf a q
      · by_cases z : a = L
        · subst z
          rw [updD_same] at eo
          cases eo
          exact ⟨vacc, eL, ra⟩
        · rw [updD_ne z] at eo; exact s3.rh a o eo
    exact k _ (.ref L) H2 _ rfl (s1.trans st) (q2.2 L hL)
  | succ m =>
    have lt : i < S.items.length := by omega
    rw [List.drop_eq_getElem_cons lt] at q2
    have isk := (isok i H2 h2 s2.ts s2.rh q2.1).2 S.items[i] (List.getElem?_eq_getElem lt)
    refine .inr ⟨isk.1, fun H3 => ∃ h2 vacc acc, H3 L = some (.lst vacc) ∧ RDs K H3 vacc acc ∧ h2 L = none ∧ Stp K H1 h1 H3 h2 ∧ acc.length ≤ i + 1 ∧ cLcGo S.ok tg tt te (wipeD ρ vs) Q' (S.items.drop (i + 1)) acc h2, fun H3 n3 => ?_, fun x H3 y => ?_⟩
    · obtain ⟨h3, va, ac, a1, a2, a3, a4, a5, a6⟩ := n3
      exact ⟨m, Nat.lt_succ_self _, h3, va, ac, a1, a2, a3, a4, by omega, a5, a6⟩
    · obtain ⟨rx, s3⟩ := isk.2 x H3 y
      have sl3 : Sl K (wipe σ vs) H3 (wipeD ρ vs) := (sl.wipe vs).mono ((s1.ts.trans s2.ts).trans s3.ts)
      refine tg.run sl3 rx q2.2 sub fun σ' ρ' we sl' b => ⟨by rw [we, wipe_wipe], ?_⟩
      refine ⟨ρ', h2, _, sl', ((rh.trans s1).trans s2).trans s3, b, fun kb H4 h4 s4 q4 => ?_⟩
      have s34 := s3.trans s4
      have eL4 : H4 L = some (.lst vacc) := s34.hd L _ eL hL rfl
      have hL4 : h4 L = none := by
        cases z : h4 L with
        | none => rfl
        | some u =>
          rcases s34.nf L (by rw [z]; simp) with y | y
          · exact absurd hL y
          · rw [eL] at y; cases y
      cases kb with
      | true =>
        simp only [if_true] at q4 ⊢
        refine ⟨ρ', h4, _, sl'.mono s4.ts, (((rh.trans s1).trans s2).trans s3).trans s4, q4, fun v d H5 h5 rv s5 q5 => ?_⟩
        have eL5 : H5 L = some (.lst vacc) := s5.hd L _ eL4 hL4 rfl
        have hL5 : h5 L = none := by
          cases z : h5 L with
          | none => rfl
          | some u =>
            rcases s5.nf L (by rw [z]; simp) with y | y
            · exact absurd hL4 y
            · rw [eL4] at y; cases y
        have s25 := (s2.trans s34).trans s5
        have kp : Kep H5 (upd H5 L (.lst (vacc ++ [v]))) := fun a u eu iu => by
          by_cases z : a = L
          · rw [z, eL5] at eu; cases eu; cases iu
          · rw [upd_ne z]; exact eu
        refine ⟨vacc, eL5, ?_, h5, vacc ++ [v], acc ++ [d], upd_same, ?_, hL5, ?_, ?_, q5⟩
        · rw [ra.length]; omega
        · exact ((ra.mono (s34.ts.trans s5.ts)).append (ds := acc) (es := [d]) (ws := [v]) ⟨v, [], rfl, rv, rfl⟩).mono kp
        · refine ⟨s25.ts.trans kp, fun a z => ?_, s25.nf, fun a o eo => ?_, fun a o eo na it => ?_⟩
          · by_cases y : a = L
            · rw [y, upd_same]; simp
            · rw [upd_ne y]; exact s25.dm a z
          · have nz : a ≠ L := fun y => by rw [y, hL5] at eo; cases eo
            exact (s25.rh a o eo).keep kp (upd_ne nz)
          · by_cases y : a = L
            · rw [y, nL] at eo; cases eo
            · rw [upd_ne y]; exact s25.hd a o eo na it
        · rw [List.length_append, List.length_singleton]; omega
      | false =>
        simp only [Bool.false_eq_true, if_false] at q4 ⊢
        exact ⟨h4, vacc, acc, eL4, ra.mono s34.ts, hL4, s2.trans s34, by omega, q4⟩

section
variable {X : Cx} {B : Bs}
def QTs (X : Cx) (B : Bs) (ifs : List Expr) (t : CT) : Prop := PTs X ifs (lowT X.K B t)
theorem PTs.imp {X : Cx} {e : List Expr} {t t' : TT} (p : PTs X e t') (k : ∀ σ H Q, t σ H Q → t' σ H Q) : PTs X e t := ⟨fun pins s σ H Q I h => p.run pins s σ H Q I (k σ H Q h)⟩
def cYes : CT := fun _ h Q => Q true h
theorem qts_nil : QTs X B [] cYes := PTs.imp pts_nil fun σ H Q w => by
  obtain ⟨ρ, h, Q', sl, rh, ht, k⟩ := w
  exact k true H h (.refl rh.rh) ht
theorem qts_one {c : Expr} {t : CT} (h : QT X B c t) : QTs X B [c] t := pts_one h
theorem qe_lc {elt tgE iter : Expr} {ifs : List Expr} {scope : Scope} {own : List (Str × Nat)} {pos : Pos} {t : CI} {tg : TgS} {tt : CT} {te : CE} (hc : X.calm = true) (hN : X.N.Nodup) (hi : QI X B tgE iter t) (ok : BlkOk X.N X.env.scope scope own)
    (sub : ∀ i ∈ tg.slots, i ∈ own.map (·.2))
    (hg : ∀ (s : Shared) (H : Hp) (C : Addr) (cl : List (Str × Addr)) (fp : List Addr), PG (X.blk s H scope (compEnvC scope cl C X.env) fp) tgE (tg.g X.K))
    (ht : ∀ (s : Shared) (H : Hp) (C : Addr) (cl : List (Str × Addr)) (fp : List Addr), QTs (X.blk s H scope (compEnvC scope cl C X.env) fp) B ifs tt)
    (he : ∀ (s : Shared) (H : Hp) (C : Addr) (cl : List (Str × Addr)) (fp : List Addr), QE (X.blk s H scope (compEnvC scope cl C X.env) fp) B elt te) (hs : ∀ x, foldedSetIterable iter X.env x = pure x := by intro _; rfl) :
    QE X B (.ListComp elt [⟨tgE, iter, ifs, 0⟩] scope pos) (cLc t tg tt te (own.map (·.2))) :=
  PE.imp (pe_lc (tt := lowT X.K B tt) (te := lowE X.K B te) hc hN hi ok hg ht he hs) fun σ H Q w => low_lc sub w
theorem qs_setLc {i : Nat} {y : Str} {py : Pos} {elt tgE iter : Expr} {ifs : List Expr} {scope : Scope} {own : List (Str × Nat)} {pos spos : Pos} {t : CI} {tg : TgS} {tt : CT} {te : CE} (hc : X.calm = true) (hN : X.N.Nodup) (hy : X.N[i]? = some y) (hyl : X.env.scope.names.lookup y = some .local)
    (hsw : swapsWith (.ListComp elt [⟨tgE, iter, ifs, 0⟩] scope pos) (some (.Name y py)) spos.line X.env = pure true) (hi : QI X B tgE iter t) (ok : BlkOk X.N X.env.scope scope own) (sub : ∀ i ∈ tg.slots, i ∈ own.map (·.2))
    (hg : ∀ (s : Shared) (H : Hp) (C : Addr) (cl : List (Str × Addr)) (fp : List Addr), PG (X.blk s H scope (compEnvC scope cl C X.env) fp) tgE (tg.g X.K))
    (ht : ∀ (s : Shared) (H : Hp) (C : Addr) (cl : List (Str × Addr)) (fp : List Addr), QTs (X.blk s H scope (compEnvC scope cl C X.env) fp) B ifs tt)
    (he : ∀ (s : Shared) (H : Hp) (C : Addr) (cl : List (Str × Addr)) (fp : List Addr), QE (X.blk s H scope (compEnvC scope cl C X.env) fp) B elt te) (hs : ∀ x, foldedSetIterable iter X.env x = pure x := by intro _; rfl) :
    QS X B (.Assign [.Name y py] (.ListComp elt [⟨tgE, iter, ifs, 0⟩] scope pos) spos) (fun Z ρ h => cLc t tg tt te (own.map (·.2)) ρ h fun d h1 => Z.nx (ρ.set i (some d)) h1) :=
  PS.imp (ps_setLc (tt := lowT X.K B tt) (te := lowE X.K B te) hc hN hy hyl hsw hi ok hg ht he hs) fun E σ H w => by
    obtain ⟨ρ, h, D', sl, rh, hw, lk⟩ := w
    exact low_lc (K := X.K) sub ⟨ρ, h, _, sl, rh, hw, fun v d H' h' rv st q => lk.nx _ _ H' h' ((sl.mono st.ts).set rv) st q⟩
/-- a target of a comprehension: a name; names -/
theorem tg_one {i : Nat} {x : Str} {pos : Pos} (hN : X.N.Nodup) (hi : X.N[i]? = some x) (hx : Loc X.env.scope x) (hf : X.fn x = true ∨ X.env.scope.names.lookup x = some .local := by first | exact .inl rfl | exact .inr rfl | assumption) (K : PySem.W.Frag) : PG X (.Name x pos) ((TgS.one i).g K) := pg_name hN hi hx hf
theorem tg_nil : PGs X [] (gNames []) := pgs_nil
theorem tg_cons {i : Nat} {is : List Nat} {x : Str} {pos : Pos} {es : List Expr} (hN : X.N.Nodup) (hi : X.N[i]? = some x) (hx : Loc X.env.scope x) (r : PGs X es (gNames is)) (hf : X.fn x = true ∨ X.env.scope.names.lookup x = some .local := by first | exact .inl rfl | exact .inr rfl | assumption)
    (hs : (assignEach (.Name x pos :: es) X.env).map (·.2) = assign (.Name x pos) X.env :: (assignEach es X.env).map (·.2) := by rfl) : PGs X (.Name x pos :: es) (gNames (i :: is)) := pgs_cons (pg_name hN hi hx hf) r hs
theorem tg_many {is : List Nat} {es : List Expr} {k : Nat} {pos : Pos} (hc : X.calm = true) (h : PGs X es (gNames is)) (hn : (assignEach es X.env).length = is.length := by rfl) (hst : (assignEach es X.env).findIdx? (·.1) = none := by rfl) : PG X (.Tuple es k pos) ((TgS.many is).g X.K) := pg_tup hc h hn hst

/-! ### tests -/
def cT (t : CE) : CT := fun ρ h Q => t ρ h fun x h1 => match x with
  | .bl b => Q b h1
  | _ => False
theorem low_T {K : PySem.W.Frag} {t : CE} {σ : L2.St} {H : Hp} {Q : Bool → Hp → Prop} (w : lowT K B (cT t) σ H Q) : lowE K B t σ H fun x H' => ∃ k, x = .bl k ∧ Q k H' := by
  obtain ⟨ρ, h, Q', sl, rh, ht, k⟩ := w
  refine ⟨ρ, h, _, sl, rh, ht, fun v d H1 h1 rv s1 q1 => ?_⟩
  cases d with
  | bl b => cases (show v = V.bl b from rv); exact ⟨b, rfl, k b H1 h1 s1 q1⟩
  | _ => exact q1.elim
variable {a b c e : Expr} {ta tb tc te : CE} {pos : Pos} {u v : CT} {rest : List Expr}
theorem qt_cmp {op : CmpOp} {r : C2} (ho : OpD X (compareOp op) r) (ha : QE X B a ta) (hb : QE X B b tb) (hm : behindInMarks op b = false := by first | exact nomark _ | rfl) : QT X B (.Compare a [op] [b] pos) (cT (cOp r ta tb)) :=
  PT.imp (pt_cmpR ho ha hb hm) fun σ H Q w => by
    obtain ⟨ρ, h, Q', sl, rh, ht, k⟩ := low_T w
    exact low_op ⟨ρ, h, Q', sl, rh, ht, k⟩
/-- any expression whose value is a bool -/
theorem qt_val (h : QE X B e te) (he : ∀ whole, isTrue e X.env whole = (do let v ← whole; standAt e.pos; holding [v] (truthy v)) := by intro _; rfl) : QT X B e (cT te) := PT.imp (pt_val h he) fun σ H Q w => low_T w
def cNot (t : CT) : CT := fun ρ h Q => t ρ h fun k h1 => Q (!k) h1
def cAnd (t u : CT) : CT := fun ρ h Q => t ρ h fun k h1 => if k = true then u ρ h1 Q else Q false h1
def cOr (t u : CT) : CT := fun ρ h Q => t ρ h fun k h1 => if k = true then Q true h1 else u ρ h1 Q
def QW (X : Cx) (B : Bs) (e : Expr) (t : CT) : Prop := PW X e (lowT X.K B t)
theorem QW.t (h : QW X B e u) : QT X B e u := PW.pt h
theorem qt_not (h : QT X B a u) : QT X B (.UnaryOp .Not a pos) (cNot u) := PT.imp (pt_not h) fun σ H Q w => by
  obtain ⟨ρ, h, Q', sl, rh, ht, k⟩ := w
  exact ⟨ρ, h, _, sl, rh, ht, fun b H' h' s q => k (!b) H' h' s q⟩
theorem qw_and1 (h : QT X B a u) : QW X B (.BoolOp .And [a] pos) u := pw_and1 h
theorem qw_or1 (h : QT X B a u) : QW X B (.BoolOp .Or [a] pos) u := pw_or1 h
theorem qw_and (h : QT X B a u) (h2 : QW X B (.BoolOp .And (b :: rest) pos) v) : QW X B (.BoolOp .And (a :: b :: rest) pos) (cAnd u v) := PW.imp (pw_and h h2) fun σ H Q w => by
  obtain ⟨ρ, h, Q', sl, rh, ht, k⟩ := w
  refine ⟨ρ, h, _, sl, rh, ht, fun b H1 h1 s q => ?_⟩
  cases b with
  | true => exact iteT ⟨ρ, h1, Q', sl.mono s.ts, rh.trans s, by simpa using q, fun c H' h' s' q' => k c H' h' (s.trans s') q'⟩
  | false => exact iteF (k false H1 h1 s (by simpa using q))
theorem qw_or (h : QT X B a u) (h2 : QW X B (.BoolOp .Or (b :: rest) pos) v) : QW X B (.BoolOp .Or (a :: b :: rest) pos) (cOr u v) := PW.imp (pw_or h h2) fun σ H Q w => by
  obtain ⟨ρ, h, Q', sl, rh, ht, k⟩ := w
  refine ⟨ρ, h, _, sl, rh, ht, fun b H1 h1 s q => ?_⟩
  cases b with
  | false => exact iteF ⟨ρ, h1, Q', sl.mono s.ts, rh.trans s, by simpa using q, fun c H' h' s' q' => k c H' h' (s.trans s') q'⟩
  | true => exact iteT (k true H1 h1 s (by simpa using q))
/-- as values -/
def cAndV (ta tb : CE) : CE := fun ρ h Q => ta ρ h fun x h1 => match x with
  | .bl k => if k = true then tb ρ h1 Q else Q (.bl false) h1
  | _ => False
def cOrV (ta tb : CE) : CE := fun ρ h Q => ta ρ h fun x h1 => match x with
  | .bl k => if k = true then Q (.bl true) h1 else tb ρ h1 Q
  | _ => False
def cNotV (ta : CE) : CE := fun ρ h Q => ta ρ h fun x h1 => match x with
  | .bl k => Q (.bl (!k)) h1
  | _ => False
theorem qe_one {op : BoolOp} (h : QE X B a ta) : QE X B (.BoolOp op [a] pos) ta := pe_one h
theorem qe_and (h : QE X B a ta) (h2 : QE X B (.BoolOp .And (b :: rest) pos) tb) : QE X B (.BoolOp .And (a :: b :: rest) pos) (cAndV ta tb) := PE.imp (pe_and h h2) fun σ H Q w => by
  obtain ⟨ρ, h, Q', sl, rh, ht, k⟩ := w
  refine ⟨ρ, h, _, sl, rh, ht, fun x d H1 h1 rx s q => ?_⟩
  cases d with
  | bl b =>
    cases (show x = V.bl b from rx)
    refine ⟨b, rfl, ?_⟩
    cases b with
    | true => exact iteT ⟨ρ, h1, Q', sl.mono s.ts, rh.trans s, by simpa using q, fun w d H' h' r' s' q' => k w d H' h' r' (s.trans s') q'⟩
    | false => exact iteF (k _ (.bl false) H1 h1 rfl s (by simpa using q))
  | _ => exact q.elim
theorem qe_or (h : QE X B a ta) (h2 : QE X B (.BoolOp .Or (b :: rest) pos) tb) : QE X B (.BoolOp .Or (a :: b :: rest) pos) (cOrV ta tb) := PE.imp (pe_or h h2) fun σ H Q w => by
  obtain ⟨ρ, h, Q', sl, rh, ht, k⟩ := w
  refine ⟨ρ, h, _, sl, rh, ht, fun x d H1 h1 rx s q => ?_⟩
  cases d with
  | bl b =>
    cases (show x = V.bl b from rx)
    refine ⟨b, rfl, ?_⟩
    cases b with
    | false => exact iteF ⟨ρ, h1, Q', sl.mono s.ts, rh.trans s, by simpa using q, fun w d H' h' r' s' q' => k w d H' h' r' (s.trans s') q'⟩
    | true => exact iteT (k _ (.bl true) H1 h1 rfl s (by simpa using q))
  | _ => exact q.elim
theorem qe_not (h : QE X B a ta) : QE X B (.UnaryOp .Not a pos) (cNotV ta) := PE.imp (pe_not h) fun σ H Q w => by
  obtain ⟨ρ, h, Q', sl, rh, ht, k⟩ := w
  refine ⟨ρ, h, _, sl, rh, ht, fun x d H1 h1 rx s q => ?_⟩
  cases d with
  | bl b => cases (show x = V.bl b from rx); exact ⟨b, rfl, k _ (.bl (!b)) H1 h1 rfl s q⟩
  | _ => exact q.elim
def cIf (t : CT) (ta tb : CE) : CE := fun ρ h Q => t ρ h fun k h1 => if k = true then ta ρ h1 Q else tb ρ h1 Q
theorem qe_if (hc : QT X B c u) (ha : QE X B a ta) (hb : QE X B b tb) : QE X B (.IfExp c a b pos) (cIf u ta tb) := PE.imp (pe_ifExp hc ha hb) fun σ H Q w => by
  obtain ⟨ρ, h, Q', sl, rh, ht, k⟩ := w
  refine ⟨ρ, h, _, sl, rh, ht, fun b H1 h1 s q => ?_⟩
  cases b with
  | true => exact iteT ⟨ρ, h1, Q', sl.mono s.ts, rh.trans s, by simpa using q, fun w d H' h' r' s' q' => k w d H' h' r' (s.trans s') q'⟩
  | false => exact iteF ⟨ρ, h1, Q', sl.mono s.ts, rh.trans s, by simpa using q, fun w d H' h' r' s' q' => k w d H' h' r' (s.trans s') q'⟩
/-- a < b <= c -/
def cChain (r r' : C2) (ta tb tc : CE) : CE := fun ρ h Q => ta ρ h fun x h1 => tb ρ h1 fun y h2 => r x y h2 fun z h3 => match z with
  | .bl k => if k = true then tc ρ h3 fun w h4 => r' y w h4 Q else Q (.bl false) h3
  | _ => False
theorem low_chain {K : PySem.W.Frag} {r r' : C2} {σ : L2.St} {H : Hp} {Q : VK} (w : lowE K B (cChain r r' ta tb tc) σ H Q) : tChain (low2 K r) (low2 K r') (lowE K B ta) (lowE K B tb) (lowE K B tc) σ H Q := by
  obtain ⟨ρ, h, Q', sl, rh, ht, k⟩ := w
  refine ⟨ρ, h, _, sl, rh, ht, fun v d H1 h1 rv s1 q1 => ?_⟩
  refine ⟨ρ, h1, _, sl.mono s1.ts, rh.trans s1, q1, fun u e H2 h2 ru s2 q2 => ?_⟩
  refine ⟨d, e, h2, _, rv.mono s2.ts, ru, s2.rh, q2, fun z f H3 h3 rz s3 q3 => ?_⟩
  have s123 := (s1.trans s2).trans s3
  cases f with
  | bl kb =>
    cases (show z = V.bl kb from rz)
    refine ⟨kb, rfl, ?_⟩
    cases kb with
    | false => exact iteF (k _ (.bl false) H3 h3 rfl s123 (by simpa using q3))
    | true =>
      refine iteT ⟨ρ, h3, _, sl.mono s123.ts, rh.trans s123, by simpa using q3, fun v4 d4 H4 h4 r4 s4 q4 => ?_⟩
      exact ⟨e, d4, h4, Q', (ru.mono s3.ts).mono s4.ts, r4, s4.rh, q4, fun v5 d5 H5 h5 r5 s5 q5 => k v5 d5 H5 h5 r5 ((s123.trans s4).trans s5) q5⟩
  | _ => exact q3.elim
theorem qe_chain {op op' : CmpOp} {r r' : C2} (ho : OpD X (compareOp op) r) (ho' : OpD X (compareOp op') r') (ha : QE X B a ta) (hb : QE X B b tb) (hc : QE X B c tc) (hm : lastMarks [op, op'] [b, c] = false := by with_unfolding_all rfl) :
    QE X B (.Compare a [op, op'] [b, c] pos) (cChain r r' ta tb tc) := PE.imp (pe_chain ho ho' ha hb hc hm) fun _ _ _ w => low_chain w
theorem qt_chain {op op' : CmpOp} {r r' : C2} (ho : OpD X (compareOp op) r) (ho' : OpD X (compareOp op') r') (ha : QE X B a ta) (hb : QE X B b tb) (hc : QE X B c tc) (hm : lastMarks [op, op'] [b, c] = false := by with_unfolding_all rfl) :
    QT X B (.Compare a [op, op'] [b, c] pos) (cT (cChain r r' ta tb tc)) := PT.imp (pt_chain ho ho' ha hb hc hm) fun σ H Q w => by
  obtain ⟨ρ, h, Q', sl, rh, ht, k⟩ := low_T w
  exact low_chain ⟨ρ, h, Q', sl, rh, ht, k⟩

/-! ### displays -/
def cTup (t : CA) : CE := fun ρ h Q => t ρ h fun ds h1 => ds.length ≤ sizeLine ∧ Q (.tup ds) h1
def cLst (t : CA) : CE := fun ρ h Q => t ρ h fun ds h1 => ds.length ≤ sizeLine ∧ ∀ p, h1 p = none → Q (.ref p) (updD h1 p (.lst ds))
theorem qe_tup {es : List Expr} {t : CA} {x1} (ha : QA X B es t) : QE X B (.Tuple es x1 pos) (cTup t) := PE.imp (pe_tup ha) fun σ H Q w => by
  obtain ⟨ρ, h, Q', sl, rh, ht, k⟩ := w
  refine ⟨ρ, h, _, sl, rh, ht, fun vs ds H1 h1 rv s q => ⟨by rw [rv.length]; exact q.1, fun p np => ?_⟩⟩
  exact k _ (.tup ds) _ h1 (new_tup np rv) (s.trans (.hid s.rh np (s.rh.none np))) q.2
theorem qe_lst {es : List Expr} {t : CA} (ha : QA X B es t) : QE X B (.List es pos) (cLst t) := PE.imp (pe_lst ha) fun σ H Q w => by
  obtain ⟨ρ, h, Q', sl, rh, ht, k⟩ := w
  refine ⟨ρ, h, _, sl, rh, ht, fun vs ds H1 h1 rv s q => ⟨by rw [rv.length]; exact q.1, fun p np => ?_⟩⟩
  exact k _ (.ref p) _ _ rfl (s.trans (.new s.rh np (new_lst np rv))) (q.2 p (s.rh.none np))
/-- a written value of the module: a constant, a tuple of constants, a class, a def -/
theorem qe_glob {x : Str} {d : D} {z : V} {uu : Value} (hg : Gl X x) (hm : X.mg x = some uu) (r : RelV z uu) (rd : ∀ H, RD X.K H z d) (hd : (x == ("__debug__" : Str)) = false := by decide) : QE X B (.Name x pos) (cC d) := qe_const (pe_glob hg hm r hd) rd
theorem qe_bltn {x : Str} {d : D} {z : V} {uu : Value} (hg : Gl X x) (hm : X.mg x = none) (hv : bootBuiltins x = some uu) (r : RelV z uu) (rd : ∀ H, RD X.K H z d) (hn : x ≠ "__name__" := by decide) (hd : (x == ("__debug__" : Str)) = false := by decide) : QE X B (.Name x pos) (cC d) :=
  qe_const (pe_bltn hg hm hv r hn hd) rd

/-! ### statements -/
variable {st : Stmt} {sts : List Stmt} {t w : CS}
def cNext : CS := fun Z ρ h => Z.nx ρ h
def cSeq (t u : CS) : CS := fun Z ρ h => t { Z with nx := u Z } ρ h
theorem qss_nil : QSs X B [] cNext := PSs.imp pss_nil fun E σ H w => by
  obtain ⟨ρ, h, D', sl, rh, ht, lk⟩ := w
  exact lk.nx σ ρ H h sl (.refl rh.rh) ht
theorem qss_cons (h1 : QS X B st t) (h2 : QSs X B sts w) : QSs X B (st :: sts) (cSeq t w) := PSs.imp (pss_cons h1 h2) fun E σ H z => by
  obtain ⟨ρ, h, D', sl, rh, ht, lk⟩ := z
  exact ⟨ρ, h, _, sl, rh, ht, ⟨fun σ' ρ' H' h' a c d => ⟨ρ', h', D', a, rh.trans c, d, lk.step c⟩, lk.rt, lk.bk, lk.ct⟩⟩
theorem qss_one (h1 : QS X B st t) : QSs X B [st] t := pss_one h1
/-- cut: what follows is shown once, from Mid -/
def cCut (t u : CS) : CS := fun Z ρ h => ∃ Mid : En → HD → Prop, t { Z with nx := Mid } ρ h ∧ ∀ ρ' h', Mid ρ' h' → u Z ρ' h'
theorem qss_cut (h1 : QS X B st t) (h2 : QSs X B sts w) : QSs X B (st :: sts) (cCut t w) := PSs.imp (pss_cons h1 h2) fun E σ H z => by
  obtain ⟨ρ, h, D', sl, rh, ⟨Mid, ht, hu⟩, lk⟩ := z
  exact ⟨ρ, h, _, sl, rh, ht, ⟨fun σ' ρ' H' h' a c d => ⟨ρ', h', D', a, rh.trans c, hu _ _ d, lk.step c⟩, lk.rt, lk.bk, lk.ct⟩⟩
def cBreak : CS := fun Z ρ h => Z.bk ρ h
def cCont : CS := fun Z ρ h => Z.ct ρ h
theorem qs_pass : QS X B (.Pass pos) cNext := PS.imp ps_pass fun E σ H w => by
  obtain ⟨ρ, h, D', sl, rh, ht, lk⟩ := w
  exact lk.nx σ ρ H h sl (.refl rh.rh) ht
def cDrop (t : CE) : CS := fun Z ρ h => t ρ h fun _ h1 => Z.nx ρ h1
theorem qs_expr (he : QE X B e te) (hs : swapsWith e none pos.line X.env = pure false := by rfl) : QS X B (.Expr e pos) (cDrop te) := PS.imp (ps_expr he hs) fun E σ H w => by
  obtain ⟨ρ, h, D', sl, rh, ht, lk⟩ := w
  exact ⟨ρ, h, _, sl, rh, ht, fun v d H' h' _ s q => lk.nx σ ρ H' h' (sl.mono s.ts) s q⟩
theorem qs_doc {x j pos pos'} : QS X B (.Expr (.Constant (.str x) j pos) pos') cNext := PS.imp ps_doc fun E σ H w => by
  obtain ⟨ρ, h, D', sl, rh, ht, lk⟩ := w
  exact lk.nx σ ρ H h sl (.refl rh.rh) ht
def cRet (t : CE) : CS := fun Z ρ h => t ρ h Z.rt
theorem qs_ret (he : QE X B e te) : QS X B (.Return (some e) pos) (cRet te) := PS.imp (ps_ret he) fun E σ H w => by
  obtain ⟨ρ, h, D', sl, rh, ht, lk⟩ := w
  exact ⟨ρ, h, _, sl, rh, ht, fun v d H' h' r s q => lk.rt v d H' h' r s q⟩
def cRetN : CS := fun Z _ h => Z.rt .non h
theorem qs_retN : QS X B (.Return none pos) cRetN := PS.imp ps_retN fun E σ H w => by
  obtain ⟨ρ, h, D', sl, rh, ht, lk⟩ := w
  exact lk.rt _ .non H h rfl (.refl rh.rh) ht
def cIfS (c : CT) (t u : CS) : CS := fun Z ρ h => c ρ h fun k h1 => if k = true then t Z ρ h1 else u Z ρ h1
theorem qs_if {M N : List Stmt} (hc : QT X B c u) (ha : QSs X B M t) (hb : QSs X B N w) : QS X B (.If c M N pos) (cIfS u t w) := PS.imp (ps_if hc ha hb) fun E σ H z => by
  obtain ⟨ρ, h, D', sl, rh, ht, lk⟩ := z
  refine ⟨ρ, h, _, sl, rh, ht, fun k H1 h1 s q => ?_⟩
  cases k with
  | true => exact iteT ⟨ρ, h1, D', sl.mono s.ts, rh.trans s, by simpa using q, lk.step s⟩
  | false => exact iteF ⟨ρ, h1, D', sl.mono s.ts, rh.trans s, by simpa using q, lk.step s⟩
/-- code that is never come to -/
def cNever : CS := fun _ _ _ => False
theorem qss_never : QSs X B sts cNever := PSs.imp pss_never fun E σ H w => by
  obtain ⟨ρ, h, D', sl, rh, ht, lk⟩ := w
  exact ht.elim
theorem qs_never : QS X B st cNever := PS.imp ps_never fun E σ H w => by
  obtain ⟨ρ, h, D', sl, rh, ht, lk⟩ := w
  exact ht.elim
/-- x = e -/
def cSet (i : Nat) (t : CE) : CS := fun Z ρ h => t ρ h fun d h1 => Z.nx (ρ.set i (some d)) h1
theorem qs_set {i : Nat} {x : Str} {pos' : Pos} (hN : X.N.Nodup) (hi : X.N[i]? = some x) (hx : Loc X.env.scope x) (he : QE X B e te) (hs : swapsWith e (some (.Name x pos')) pos.line X.env = pure false := by rfl)
    (hf : X.fn x = true ∨ X.env.scope.names.lookup x = some .local := by first | exact .inl rfl | exact .inr rfl | assumption) : QS X B (.Assign [.Name x pos'] e pos) (cSet i te) := PS.imp (ps_set hN hi hx he hs hf) fun E σ H w => by
  obtain ⟨ρ, h, D', sl, rh, ht, lk⟩ := w
  exact ⟨ρ, h, _, sl, rh, ht, fun v d H' h' r s q => lk.nx _ _ H' h' ((sl.mono s.ts).set r) s q⟩
/-- target = e -/
def cAsg (t : CE) (g : CG) : CS := fun Z ρ h => t ρ h fun d h1 => g d ρ h1 Z.nx
theorem qs_asg {tg : Expr} {g : CG} (he : QE X B e te) (hg : QG X B tg g) (hs : swapsWithSole [tg] e pos.line X.env = pure false := by rfl) (hw : swappedStores [tg] e X.env = pure none := by rfl) (h1 : (assignEach [tg] X.env).map (·.2) = [assign tg X.env] := by rfl) :
    QS X B (.Assign [tg] e pos) (cAsg te g) := PS.imp (ps_asg he hg hs hw h1) fun E σ H w => by
  obtain ⟨ρ, h, D', sl, rh, ht, lk⟩ := w
  refine ⟨ρ, h, _, sl, rh, ht, fun v d H1 h1 r s q => ?_⟩
  exact ⟨d, ρ, h1, _, r, sl.mono s.ts, rh.trans s, q, fun σ' ρ' H' h' a c z => lk.nx σ' ρ' H' h' a (s.trans c) z⟩
/-- a, b = x, y: plain local names -/
def cPar (i j : Nat) (t : CA) : CS := fun Z ρ h => t ρ h fun ds h1 => match ds with
  | [d, e] => Z.nx ((ρ.set i (some d)).set j (some e)) h1
  | _ => False
theorem qs_par {i j : Nat} {x y : Str} {px py pt : Pos} {kt k2 pt2} {u : CA} (hc : X.calm = true) (hN : X.N.Nodup) (hi : X.N[i]? = some x) (hj : X.N[j]? = some y) (hij : i ≠ j)
    (hx : X.env.scope.names.lookup x = some .local) (hy : X.env.scope.names.lookup y = some .local) (ha : QA X B [a, b] u)
    (hw : swappedStores [.Tuple [.Name x px, .Name y py] kt pt] (.Tuple [a, b] k2 pt2) X.env = pure (some [x, y]))
    (hs : swapsWithSole [.Tuple [.Name x px, .Name y py] kt pt] (.Tuple [a, b] k2 pt2) pos.line X.env = pure false := by rfl) :
    QS X B (.Assign [.Tuple [.Name x px, .Name y py] kt pt] (.Tuple [a, b] k2 pt2) pos) (cPar i j u) := PS.imp (ps_par hc hN hi hj hij hx hy ha hw hs) fun E σ H w => by
  obtain ⟨ρ, h, D', sl, rh, ht, lk⟩ := w
  refine ⟨ρ, h, _, sl, rh, ht, fun vs ds H1 h1 r s q => ?_⟩
  match ds, q with
  | [d, e], q =>
    obtain ⟨v, z, rfl, r1, r2⟩ := r.two
    exact ⟨v, z, rfl, lk.nx _ _ H1 h1 (((sl.mono s.ts).set r1).set r2) s q⟩
/-- o[i] = e -/
abbrev CSet := D → D → D → HD → (HD → Prop) → Prop
def lowSet (K : PySem.W.Frag) (t : CSet) : TSet := fun o i v H Q => ∃ dk di dv h Q', RD K H o dk ∧ RD K H i di ∧ RD K H v dv ∧ RH K H h ∧ t dk di dv h Q' ∧ ∀ H' h', Stp K H h H' h' → Q' h' → Q H'
abbrev SetD (X : Cx) (t : CSet) : Prop := PSet X (lowSet X.K t)
def cItm (to ti : CE) (t : CSet) : CG := fun v ρ h Q => to ρ h fun o h1 => ti ρ h1 fun i h2 => t o i v h2 fun h3 => Q ρ h3
theorem qg_sub {o i : Expr} {to ti : CE} {t : CSet} (ho : QE X B o to) (hi : QE X B i ti) (hs : SetD X t)
    (ha : ∀ v, assign (.Subscript o i pos) X.env v = (do let ov ← holding [v] (eval o X.env); let iv ← holding [v, ov] (eval i X.env); standAt pos; holding [v, ov, iv] (setItem ov iv v); release [v, ov, iv] []) := by intro _; rfl) : QG X B (.Subscript o i pos) (cItm to ti t) := PG.imp (pg_sub ho hi hs ha) fun v σ H Q w => by
  obtain ⟨d, ρ, h, Q', rv, sl, rh, ht, k⟩ := w
  refine ⟨ρ, h, _, sl, rh, ht, fun vo do' H1 h1 r1 s1 q1 => ?_⟩
  refine ⟨ρ, h1, _, sl.mono s1.ts, rh.trans s1, q1, fun vi di H2 h2 r2 s2 q2 => ?_⟩
  refine ⟨do', di, d, h2, _, r1.mono s2.ts, r2, rv.mono (s1.ts.trans s2.ts), s2.rh, q2, fun H3 h3 s3 q3 => ?_⟩
  exact k σ ρ H3 h3 (sl.mono ((s1.ts.trans s2.ts).trans s3.ts)) ((s1.trans s2).trans s3) q3
def cSetL : CSet := fun o i v h Q => match o, i with
  | .ref a, .int k => ∃ ds j, h a = some (.lst ds) ∧ ixN ds.length k = some j ∧ Q (updD h a (.lst (ds.set j v)))
  | _, _ => False
theorem sd_list : SetD X cSetL := by
  intro pins s σ H o i v ov iv uv Q I ro ri rv z
  obtain ⟨dk, di, dv, h, Q', r1, r2, r3, rh, q, k⟩ := z
  cases dk with
  | ref a =>
    cases di with
    | int n =>
      cases (show o = V.ref a from r1); cases (show i = V.int n from r2)
      obtain ⟨ds, j, e, ej, q⟩ := q
      obtain ⟨vs, ea, r⟩ := rh a _ e
      refine set_list pins s σ H _ _ v ov iv uv Q I ro ri rv ⟨a, vs, n, j, rfl, rfl, ea, by rw [r.length]; exact ej, ?_⟩
      exact k _ _ (.mut rh ea rfl (by rw [e]; simp) (mut_lst ea (r.set j r3))) q
    | _ => exact q.elim
  | _ => exact q.elim
end
end PD

-- PdE
set_option Elab.async false
set_option linter.all false
set_option maxRecDepth 100000
set_option maxHeartbeats 4000000
/-! PdE: defs, methods, instances, exceptions, by data. -/
namespace PD
open PySem PySem.Spec PyProof.Rows L2

/-- what is wanted of an exception: its class, its fields (where it has a dict), what is told -/
abbrev XD := Value → Option (List (Str × D)) → HD → Prop
abbrev SpD := List D → HD → DK → XD → Prop
def XR (K : PySem.W.Frag) (H : Hp) (h : HD) (d : Option Addr) (fs : Option (List (Str × D))) : Prop :=
  match fs with
  | none => d = none
  | some l => ∃ a vs, d = some a ∧ h a = none ∧ H a = some (.xd vs) ∧ RPs K H vs l
def lowX (K : PySem.W.Frag) (B : Bs) (E : XD) : XK := fun cls d H => ∃ h fs, RB K B H h ∧ XR K H h d fs ∧ E cls fs h
def lowSp (K : PySem.W.Frag) (sp : SpD) : Sp := fun vs H Q E => ∃ ds h Q' E', RDs K H vs ds ∧ RH K H h ∧ sp ds h Q' E' ∧ (∀ v d H' h', RD K H' v d → Stp K H h H' h' → Q' d h' → Q v H') ∧ ∀ cls d H', lowX K (H, h) E' cls d H' → E cls d H'
abbrev noX : XD := fun _ _ _ => False

/-- a def keeps a promise: within k levels, with no guard around -/
structure GF (P : Program) (w : World) (K : PySem.W.Frag) (mg : Str → Option Value) (base : Heap) (k : Nat) (f : Addr) (fd : FuncData) (ps : List Str) (sp : SpD) : Prop where
  len : ∀ ds h Q E, sp ds h Q E → ds.length = ps.length
  run : ∀ (A : Around) (outer : List Env) (s : Shared) (H : Hp) (args : Args) (us : List Value) (vs : List V) (Q : VK) (E : XK), Room k A → A.guards = some [] → Env0 P w K mg base A outer s H → BindsTo s fd args (ps.zip us) → Vals vs us → lowSp K sp vs H Q E →
    codeAny (model P w) A (.call (.ref f) args) (CR (L2.CX P w) outer P w H s Q E) s
theorem GF.mono {P : Program} {w : World} {K : PySem.W.Frag} {mg : Str → Option Value} {base : Heap} {j k : Nat} {f : Addr} {fd : FuncData} {ps : List Str} {sp : SpD} (F : GF P w K mg base j f fd ps sp) (h : j ≤ k) : GF P w K mg base k f fd ps sp :=
  ⟨F.len, fun A outer s H args us vs Q E hr => F.run A outer s H args us vs Q E (hr.mono h)⟩
theorem GF.imp {P : Program} {w : World} {K : PySem.W.Frag} {mg : Str → Option Value} {base : Heap} {k : Nat} {f : Addr} {fd : FuncData} {ps : List Str} {sp sp' : SpD} (F : GF P w K mg base k f fd ps sp) (i : ∀ ds h Q E, sp' ds h Q E → sp ds h Q E) : GF P w K mg base k f fd ps sp' :=
  ⟨fun ds h Q E q => F.len ds h Q E (i _ _ _ _ q), fun A outer s H args us vs Q E hr hg he hb hv ⟨ds, h, Q', E', a, b, c, d, e⟩ => F.run A outer s H args us vs Q E hr hg he hb hv ⟨ds, h, Q', E', a, b, i _ _ _ _ c, d, e⟩⟩

/-- the context of a def's body -/
abbrev bodyX (P : Program) (w : World) (K : PySem.W.Frag) (mg : Str → Option Value) (base : Heap) (N : List Str) (qual : Str) (sc : Scope) (f : Addr) (cd : Value) (A : Around) (outer : List Env) (s : Shared) (H : Hp) (E : XK) : Cx :=
  cxOf (L2.CX P w) P w K mg base N qual sc f cd A outer s H E
def startD (N : List Str) (ds : List D) : En := ds.map some ++ List.replicate (N.length - ds.length) none
theorem Sl.start {K : PySem.W.Frag} {H : Hp} {N : List Str} {vs : List V} {ds : List D} (r : RDs K H vs ds) : Sl K (L2.start N vs) H (startD N ds) := by
  refine ⟨by unfold L2.start startD; simp [r.length], fun i d e => ?_⟩
  unfold startD at e
  unfold L2.start
  by_cases hi : i < ds.length
  · rw [List.getElem?_append_left (by simpa using hi), List.getElem?_map] at e
    cases q : ds[i]? with
    | none => rw [q] at e; cases e
    | some x =>
      rw [q] at e
      cases e
      obtain ⟨v, e1, r1⟩ := r.get q
      exact ⟨v, by rw [List.getElem?_append_left (by simpa [r.length] using hi), List.getElem?_map, e1]; rfl, r1⟩
  · rw [List.getElem?_append_right (by simpa using hi), List.getElem?_replicate] at e
    split at e <;> cases e
/-- a def as it stands in the text, by its body -/
theorem gf_of {P : Program} {w : World} {K : PySem.W.Frag} {mg : Str → Option Value} {base : Heap} {x qual : Str} {st : Stmt} {f : Addr} {fd : FuncData} {N ps : List Str} {k : Nat} {sp : SpD} (F : Fun K x qual st f fd) (S : FnScope N ps (defScope st))
    (len : ∀ ds h Q E, sp ds h Q E → ds.length = ps.length)
    (body : ∀ (cdv : Value) (A : Around) (outer : List Env) (s : Shared) (H : Hp) (E : XK) (ds : List D) (h : HD) (Q : DK) (E' : XD), Room k (A.deeper (envOfC qual (defScope st) s.heap.objs.size f cdv)) → (A.deeper (envOfC qual (defScope st) s.heap.objs.size f cdv)).guards = some [] →
      (∀ cls d H', lowX K (H, h) E' cls d H' → E cls d H') → sp ds h Q E' →
      ∃ t, QSs (bodyX P w K mg base N qual (defScope st) f cdv A outer s H E) (H, h) (defBody st) t ∧ t { nx := fun _ h' => Q .non h', rt := Q } (startD N ds) h) : GF P w K mg base (k + 1) f fd ps sp := by
  obtain ⟨oc, od, kV, doc, pm, an, cdv, ct, osl, rfl, lk, hcd⟩ := F.ex
  refine ⟨len, fun A outer s H args us vs Q E hr hg e0 hb r hsp => ?_⟩
  obtain ⟨ds, h, Q', E', rd, rh, hs, kq, kx⟩ := hsp
  have hl : us.length = ps.length := by rw [← r.length, rd.length]; exact len _ _ _ _ hs
  have KX : K.In s.heap := e0.mod.kin.keeps fun b o e => (e0.bs b o e).1
  have lim : s.heap.NoLimit := e0.mod.nolimit.keeps fun b o e => (e0.bs b o e).1
  have kinds : ∀ y ∈ ps.zip us, (defScope st).names.lookup y.1 = some .local ∨ ((defScope st).names.lookup y.1 = some .cell ∧ ((cellsFrom (s.heap.objs.size + 1) (defScope st).names []).lookup y.1).isSome = true) := fun ⟨n, v⟩ hy =>
    (S.par n (List.of_mem_zip hy).1).elim .inl fun q => .inr ⟨q, PySem.W.cellsFrom_some _ _ _ (.inl q)⟩
  refine codeAny_call_function hr.depth (KX _ _ lk) rfl S.co S.gen rfl (PySem.W.codeRec_of KX hcd) (hb _ _ _ _ (wpAny_newFunctionEnv_cells S.kind kinds fun env he s1 x => ?_))
  subst he
  obtain ⟨t, ht, hq⟩ := body cdv A outer s H E ds h Q' E' (hr.deeper _) (by show A.guards = some []; exact hg) kx hs
  have I := inv_start (CX := L2.CX P w) (P := P) (w := w) (K := K) (mg := mg) (base := base) (f := f) (cd := cdv) (E := E) (qual := qual) S hr.hd e0 (by rw [rd.length]; exact len _ _ _ _ hs) r x
  refine ⟨lim.keeps x.toInCall.keep, codeAny_func (wpAny_mono (ht.run [] s1 (start N vs) H { nx := fun _ H' => Q .non H', rt := Q } I ⟨_, h, _, Sl.start rd, .refl rh, hq, ?_⟩) (fun fl s' z => ?_) fun e s' z => z)⟩
  · exact ⟨fun σ' ρ' H' h' _ b c => kq .non .non H' h' rfl b c, fun v d H' h' a b c => kq v d H' h' a b c, fun _ _ _ _ _ _ z => z, fun _ _ _ _ _ _ z => z⟩
  · cases fl with
    | ret u => obtain ⟨v, σ', H', J, rv, q⟩ := z; exact ⟨v, H', J.os, J.bare, J.base, J.hok, rv, q⟩
    | next => obtain ⟨σ', H', J, q⟩ := z; exact ⟨.non, H', J.os, J.bare, J.base, J.hok, rfl, q⟩
    | brk => obtain ⟨_, _, _, q⟩ := z; exact q.elim
    | cont => obtain ⟨_, _, _, q⟩ := z; exact q.elim

section
variable {X : Cx} {B : Bs} {k : Nat} {f C : Addr} {fd : FuncData} {ps : List Str} {sp : SpD} {x m : Str} {p pos apos : Pos} {e o : Expr} {es : List Expr} {ta : CE} {t : CA}
/-- the wish of X's exceptions, by data, from B -/
def TkD (X : Cx) (B : Bs) (W : En → XD) : Prop := Takes X fun cls d σ H => ∃ ρ h fs, Sl X.K σ H ρ ∧ RB X.K B H h ∧ XR X.K H h d fs ∧ W ρ cls fs h
theorem TkD.body {P : Program} {w : World} {K : PySem.W.Frag} {mg : Str → Option Value} {base : Heap} {N : List Str} {qual : Str} {sc : Scope} {f : Addr} {cd : Value} {A : Around} {outer : List Env} {s : Shared} {H : Hp} {h : HD} {E : XK} {E' : XD} (kx : ∀ cls d H', lowX K (H, h) E' cls d H' → E cls d H') :
    TkD (bodyX P w K mg base N qual sc f cd A outer s H E) (H, h) fun _ => E' := by
  refine Takes.imp (takes_of (E := E) rfl rfl rfl rfl) fun c d σ H' z => ?_
  obtain ⟨ρ, h', fs, _, b, xr, q⟩ := z
  exact kx c d H' ⟨h', fs, b, xr, q⟩
theorem TkD.imp {W W' : En → XD} (t : TkD X B W) (h : ∀ ρ c fs h', W' ρ c fs h' → W ρ c fs h') : TkD X B W' := Takes.imp t fun c d σ H ⟨ρ, h', fs, a, b, c', q⟩ => ⟨ρ, h', fs, a, b, c', h _ _ _ _ q⟩
theorem TkD.none : TkD X B fun _ => noX := fun _ _ ⟨_, _, _, _, _, _, _, _, _, _, _, _, _, _, _, _, _, _, _, _, _, _, z⟩ => z.elim
/-- f(..): W: what is wanted of its exceptions -/
def cFn (sp : SpD) (W : En → XD) (t : CA) : CE := fun ρ h Q => t ρ h fun ds h1 => sp ds h1 Q (W ρ)
/-- the callee runs -/
theorem run_gf {pins : List (Addr × Obj)} {σ : L2.St} {H : Hp} {s : Shared} {Q : VK} {us : List Value} {vs : List V} {ρ : En} {ds : List D} {h : HD} {W : En → XD} {Q' : DK} (F : GF X.prog X.w X.K X.mg X.base k f fd ps sp) (hr : Room k X.A) (hg : X.A.guards = some []) (hb : Binds X.K fd ps []) (tk : TkD X B W)
    (I : Inv X pins σ H s) (r : Vals vs us) (sl : Sl X.K σ H ρ) (rb : RB X.K B H h) (rd : RDs X.K H vs ds) (hs : sp ds h Q' (W ρ)) (kq : ∀ v d H' h', RD X.K H' v d → Stp X.K H h H' h' → Q' d h' → Q v H') : wpAny (model X.prog X.w) X.A (call (.ref f) us) (EP X pins σ Q) X.xe s := by
  have hl : us.length = ps.length := by rw [← r.length, rd.length]; exact F.len _ _ _ _ hs
  have b := hb s us I.kIn (by rw [List.append_nil]; exact hl)
  rw [List.append_nil] at b
  refine wpAny_call (codeAny_mono (F.run X.A X.stack s H ⟨us, []⟩ us vs Q (lowX X.K (H, h) (W ρ)) hr hg I.env0 b r ⟨ds, h, Q', W ρ, rd, rb.rh, hs, kq, fun _ _ _ z => z⟩) fun r s' hq => ?_)
  cases r with
  | error er =>
    refine tk _ _ (XE.of_call I (fun cls d H' z => ?_) hq)
    obtain ⟨h', fs, st, xr, w⟩ := z
    exact ⟨ρ, h', fs, sl.mono st.ts, rb.trans st, xr, w⟩
  | ok fl =>
    cases fl with
    | ret u => exact I.after hq
    | next => exact False.elim hq
    | brk => exact False.elim hq
    | cont => exact False.elim hq
theorem qe_call {W : En → XD} (F : GF X.prog X.w X.K X.mg X.base k f fd ps sp) (hr : Room k X.A) (hgd : X.A.guards = some []) (hg : Gl X x) (hm : X.mg x = some (.ref f)) (hk : PySem.W.keepIn X.K (.ref f) = true) (hb : Binds X.K fd ps []) (tk : TkD X B W)
    (ha : QA X B (e :: es) t) (hdb : (x == ("__debug__" : Str)) = false := by decide) (he : starEach (e :: es) X.env = (false, eval e X.env) :: starEach es X.env := by rfl) (hpl : (backTo pos (starEach es X.env)).any (·.1) = false := by rfl) :
    QE X B (.Call (.Name x p) (e :: es) [] pos) (cFn sp W t) := by
  refine ⟨fun pins s σ H Q I w => ?_⟩
  obtain ⟨ρ, h, Q', sl, rb, ht, kq⟩ := w
  refine wpAny_Call_Name_kw (ld_glob I hg hm ?_ hdb)
  refine PySem.W.callWith_K (h₀ := X.base) I.ok.mod.kin hk (thn (ha.run pos pins s σ H (fun vs H1 => ∃ ds h1, RDs X.K H1 vs ds ∧ Stp X.K H h H1 h1 ∧ sp ds h1 Q' (W ρ)) I ⟨ρ, h, _, sl, rb, ht, fun vs ds H1 h1 a b c => ⟨ds, h1, a, b, c⟩⟩) fun us s1 z => ?_) he hpl
  obtain ⟨vs, H1, I1, r, ds, h1, rd, st, hs⟩ := z
  exact ⟨I1.kIn, run_gf F hr hgd hb tk I1 r (sl.mono st.ts) (rb.trans st) rd hs fun v d H' h' a b c => kq v d H' h' a (st.trans b) c⟩
theorem qe_call0 {W : En → XD} (F : GF X.prog X.w X.K X.mg X.base k f fd ps sp) (hr : Room k X.A) (hgd : X.A.guards = some []) (hg : Gl X x) (hm : X.mg x = some (.ref f)) (hk : PySem.W.keepIn X.K (.ref f) = true) (hb : Binds X.K fd ps []) (tk : TkD X B W)
    (hdb : (x == ("__debug__" : Str)) = false := by decide) : QE X B (.Call (.Name x p) [] [] pos) (cFn sp W cNil) := by
  refine ⟨fun pins s σ H Q I w => ?_⟩
  obtain ⟨ρ, h, Q', sl, rb, ht, kq⟩ := w
  refine wpAny_Call_Name_kw (ld_glob I hg hm ?_ hdb)
  exact PySem.W.callWith_K0 I.kIn hk (run_gf (us := []) F hr hgd hb tk I .nil sl rb (ds := []) rfl ht kq)

/-! ### instances -/
theorem rps_lookup {K : PySem.W.Frag} {H : Hp} {f : Str} {fs : List (Str × D)} {vs : List (Str × V)} {d : D} (r : RPs K H vs fs) (e : fs.lookup f = some d) : ∃ v, vs.lookup f = some v ∧ RD K H v d := (RPs.lookup (f := f) r).1 d e
/-- o.f -/
def cFld (K : PySem.W.Frag) (ta : CE) (f : Str) : CE := fun ρ h Q => ta ρ h fun x h1 => match x with
  | .ref a => ∃ C dx fs d, h1 a = some (.ins C dx fs) ∧ Cls K C ∧ NoAttr K C f ∧ fs.lookup f = some d ∧ Q d h1
  | _ => False
theorem qe_fld {fn : Str} (he : QE X B e ta) (hb : attributeBase e fn X.env (eval e X.env) = eval e X.env) : QE X B (.Attribute e fn pos) (cFld X.K ta fn) := PE.imp (pe_fld he hb) fun σ H Q w => by
  obtain ⟨ρ, h, Q', sl, rb, ht, kq⟩ := w
  refine ⟨ρ, h, _, sl, rb, ht, fun v d H1 h1 rv s1 q1 => ?_⟩
  cases d with
  | ref a =>
    cases (show v = V.ref a from rv)
    obtain ⟨C, dx, fs, d, e, cl, na, l, q⟩ := q1
    obtain ⟨vs, ea, r⟩ := s1.rh a _ e
    obtain ⟨w, l', rw'⟩ := rps_lookup r l
    exact ⟨a, C, dx, vs, w, rfl, ea, cl, na, l', kq w d H1 h1 rw' s1 q⟩
  | _ => exact q1.elim
def putD (f : Str) (d : D) : List (Str × D) → List (Str × D)
  | [] => [(f, d)]
  | (g, x) :: r => if g = f then (g, d) :: r else (g, x) :: putD f d r
theorem RPs.put {K : PySem.W.Frag} {H : Hp} {f : Str} {v : V} {d : D} (rv : RD K H v d) : ∀ {fs : List (Str × D)} {vs : List (Str × V)}, RPs K H vs fs → RPs K H (L2.putF f v vs) (putD f d fs)
  | [], _, r => by cases r; exact ⟨v, [], rfl, rv, rfl⟩
  | (g, x) :: fs, _, r => by
    obtain ⟨w, r', rfl, q, t⟩ := r
    unfold L2.putF putD
    by_cases e : g = f
    · rw [if_pos e, if_pos e]; exact ⟨v, r', rfl, rv, t⟩
    · rw [if_neg e, if_neg e]; exact ⟨w, _, rfl, q, RPs.put rv t⟩
theorem mut_ins {K : PySem.W.Frag} {H : Hp} {p C dx : Addr} {us vs : List (Str × V)} {fs : List (Str × D)} (hp : H p = some (.ins C dx us)) (r : RPs K H vs fs) : RO K (upd H p (.ins C dx vs)) p (.ins C dx fs) :=
  ⟨vs, upd_same, r.mono fun a u e i => by
    by_cases z : a = p
    · rw [z, hp] at e; cases e; cases i
    · rw [upd_ne z]; exact e⟩
/-- o.f = e -/
def cFldS (K : PySem.W.Frag) (ta tv : CE) (f : Str) : CS := fun Z ρ h => tv ρ h fun y h1 => ta ρ h1 fun x h2 => match x with
  | .ref a => ∃ C dx fs, h2 a = some (.ins C dx fs) ∧ Cls K C ∧ NoAttr K C f ∧ fs.length < 1000 ∧ Z.nx ρ (updD h2 a (.ins C dx (putD f y fs)))
  | _ => False
theorem qs_fld {fn : Str} {value : Expr} {tv : CE} {pos' : Pos} (ha : QE X B o ta) (hv : QE X B value tv) (hs : swapsWith value (some (.Attribute o fn pos')) pos.line X.env = pure false := by rfl) : QS X B (.Assign [.Attribute o fn pos'] value pos) (cFldS X.K ta tv fn) := PS.imp (ps_fld ha hv hs) fun E σ H w => by
  obtain ⟨ρ, h, D', sl, rb, ht, lk⟩ := w
  refine ⟨ρ, h, _, sl, rb, ht, fun y dy H1 h1 ry s1 q1 => ?_⟩
  refine ⟨ρ, h1, _, sl.mono s1.ts, rb.trans s1, q1, fun v d H2 h2 rv s2 q2 => ?_⟩
  cases d with
  | ref a =>
    cases (show v = V.ref a from rv)
    obtain ⟨C, dx, fs, e, cl, na, hl, q⟩ := q2
    obtain ⟨vs, ea, r⟩ := s2.rh a _ e
    have s3 := Stp.mut (o' := .ins C dx (L2.putF fn y vs)) s2.rh ea rfl (by rw [e]; simp) (mut_ins ea (r.put (ry.mono s2.ts)))
    exact ⟨a, C, dx, vs, rfl, ea, cl, na, by rw [r.length]; exact hl, lk.nx _ _ _ _ (sl.mono ((s1.ts.trans s2.ts).trans s3.ts)) ((s1.trans s2).trans s3) q⟩
  | _ => exact q2.elim
/-- o.f op= e -/
abbrev CIn := D → D → HD → DK → Prop
abbrev InD (X : Cx) (op : Operator) (r : CIn) : Prop := InOp X op (low2 X.K r)
def cFldA (K : PySem.W.Frag) (ta tv : CE) (r : CIn) (f : Str) : CS := fun Z ρ h => ta ρ h fun x h1 => match x with
  | .ref a => ∃ C dx fs d, h1 a = some (.ins C dx fs) ∧ Cls K C ∧ NoAttr K C f ∧ fs.lookup f = some d ∧ tv ρ h1 fun y h2 => r d y h2 fun z h3 => ∃ dx' fs', h3 a = some (.ins C dx' fs') ∧ fs'.length < 1000 ∧ Z.nx ρ (updD h3 a (.ins C dx' (putD f z fs')))
  | _ => False
theorem qs_fldaug {fn : Str} {value : Expr} {tv : CE} {tpos : Pos} {op : Operator} {r : CIn} (ha : QE X B o ta) (hv : QE X B value tv) (hop : InD X op r) : QS X B (.AugAssign (.Attribute o fn tpos) op value pos) (cFldA X.K ta tv r fn) := PS.imp (ps_fldaug ha hv hop) fun E σ H w => by
  obtain ⟨ρ, h, D', sl, rb, ht, lk⟩ := w
  refine ⟨ρ, h, _, sl, rb, ht, fun v d H1 h1 rv s1 q1 => ?_⟩
  cases d with
  | ref a =>
    cases (show v = V.ref a from rv)
    obtain ⟨C, dx, fs, d, e, cl, na, l, q⟩ := q1
    obtain ⟨vs, ea, rr⟩ := s1.rh a _ e
    obtain ⟨w0, l', rw0⟩ := rps_lookup rr l
    refine ⟨a, C, dx, vs, w0, rfl, ea, cl, na, l', ρ, h1, _, sl.mono s1.ts, rb.trans s1, q, fun y dy H2 h2 ry s2 q2 => ?_⟩
    refine ⟨d, dy, h2, _, rw0.mono s2.ts, ry, s2.rh, q2, fun z dz H3 h3 rz s3 q3 => ?_⟩
    obtain ⟨dx', fs', e3, hl, q⟩ := q3
    obtain ⟨vs3, ea3, r3⟩ := s3.rh a _ e3
    have s4 := Stp.mut (o' := .ins C dx' (L2.putF fn z vs3)) s3.rh ea3 rfl (by rw [e3]; simp) (mut_ins ea3 (r3.put rz))
    exact ⟨dx', vs3, ea3, by rw [r3.length]; exact hl, lk.nx _ _ _ _ (sl.mono (((s1.ts.trans s2.ts).trans s3.ts).trans s4.ts)) (((s1.trans s2).trans s3).trans s4) q⟩
  | _ => exact q1.elim
def cInI (g : Int → Int → Int) : CIn := fun x y h Q => match x, y with
  | .int i, .int j => Q (.int (g i j)) h
  | _, _ => False
theorem ind_add : InD X .Add (cInI fun i j => i + j) := by
  intro pins s σ H x y u v Q I rx ry w
  obtain ⟨dx, dy, h, Q', r1, r2, rh, hr, k⟩ := w
  cases dx with
  | int i =>
    cases dy with
    | int j => cases (show x = V.int i from r1); cases (show y = V.int j from r2); exact in_add pins s σ H _ _ u v Q I rx ry ⟨i, j, rfl, rfl, k _ (.int (i + j)) H h rfl (.refl rh) hr⟩
    | _ => exact hr.elim
  | _ => exact hr.elim
theorem ind_sub : InD X .Sub (cInI fun i j => i - j) := by
  intro pins s σ H x y u v Q I rx ry w
  obtain ⟨dx, dy, h, Q', r1, r2, rh, hr, k⟩ := w
  cases dx with
  | int i =>
    cases dy with
    | int j => cases (show x = V.int i from r1); cases (show y = V.int j from r2); exact in_sub pins s σ H _ _ u v Q I rx ry ⟨i, j, rfl, rfl, k _ (.int (i - j)) H h rfl (.refl rh) hr⟩
    | _ => exact hr.elim
  | _ => exact hr.elim
/-- o.m(..), m a def of the class at C -/
def cMeth (C : Addr) (m : Str) (sp : SpD) (W : En → XD) (ta : CE) (t : CA) : CE := fun ρ h Q => ta ρ h fun x h1 => match x with
  | .ref a => ∃ dx fs, h1 a = some (.ins C dx fs) ∧ fs.lookup m = none ∧ t ρ h1 fun ds h2 => sp (.ref a :: ds) h2 Q (W ρ)
  | _ => False
theorem qe_meth {W : En → XD} {pl : Sem Bool} (ho : QE X B o ta) (c : Cls X.K C) (hm : Meth X.K C m f) (F : GF X.prog X.w X.K X.mg X.base k f fd ps sp) (hr : Room k X.A) (hgd : X.A.guards = some []) (hb : Binds X.K fd ps []) (tk : TkD X B W) (ha : QA X B (e :: es) t)
    (hst : starEach (e :: es) X.env = (false, eval e X.env) :: starEach es X.env := by rfl) (hpl : (backTo pos (starEach es X.env)).any (·.1) = false := by rfl)
    (ht : eval (.Call (.Attribute o m apos) (e :: es) [] pos) X.env = (do let ov ← eval o X.env; standAt apos.atName; let (f, first) ← holding [ov] (getMethod ov m pl); callWith pos f first (backTo pos (starEach (e :: es) X.env)) (backToKw pos (keywordEach [] X.env))) := by rfl) :
    QE X B (.Call (.Attribute o m apos) (e :: es) [] pos) (cMeth C m sp W ta t) := by
  refine ⟨fun pins s σ H Q I w => ?_⟩
  obtain ⟨ρ, h, Q', sl, rb, hw, kq⟩ := w
  refine PySem.W.methodCall_KW (pl := pl) (thn (ho.run pins s σ H (fun v H1 => ∃ a dx fs h1, v = V.ref a ∧ Stp X.K H h H1 h1 ∧ h1 a = some (.ins C dx fs) ∧ fs.lookup m = none ∧ t ρ h1 fun ds h2 => sp (.ref a :: ds) h2 Q' (W ρ)) I ⟨ρ, h, _, sl, rb, hw, fun v d H1 h1 rv s1 q1 => ?_⟩) fun u s1 z => ?_) ht
  · cases d with
    | ref a => obtain ⟨dx, fs, e, l, q⟩ := q1; exact ⟨a, dx, fs, h1, rv, s1, e, l, q⟩
    | _ => exact q1.elim
  · obtain ⟨x, H1, I1, rx, a, dx, fs, h1, rfl, st, e1, l, q⟩ := z
    obtain rfl : u = Value.ref a := rx
    obtain ⟨vs, ea, r⟩ := st.rh a _ e1
    refine getmeth_ok I1 ea c hm ((RPs.lookup (f := m) r).2 l) ?_
    refine PySem.W.callWith_K (first := [.ref a]) (h₀ := X.base) I.ok.mod.kin hm.kp (thn (ha.run pos pins s1 σ H1 (fun ws H2 => ∃ ds h2, RDs X.K H2 ws ds ∧ Stp X.K H1 h1 H2 h2 ∧ sp (.ref a :: ds) h2 Q' (W ρ)) I1 ⟨ρ, h1, _, sl.mono st.ts, rb.trans st, q, fun vs ds H1 h1 a b c => ⟨ds, h1, a, b, c⟩⟩) fun us s2 z => ?_) hst hpl
    obtain ⟨ws, H2, I2, r2, ds, h2, rd, s2', hs⟩ := z
    exact ⟨I2.kIn, run_gf (us := .ref a :: us) (vs := .ref a :: ws) (ds := .ref a :: ds) F hr hgd hb tk I2 (.cons rfl r2) (sl.mono (st.ts.trans s2'.ts)) ((rb.trans st).trans s2') ⟨_, _, rfl, rfl, rd⟩ hs fun v d H' h' a b c => kq v d H' h' a ((st.trans s2').trans b) c⟩
theorem qe_meth0 {W : En → XD} {pl : Sem Bool} (ho : QE X B o ta) (c : Cls X.K C) (hm : Meth X.K C m f) (F : GF X.prog X.w X.K X.mg X.base k f fd ps sp) (hr : Room k X.A) (hgd : X.A.guards = some []) (hb : Binds X.K fd ps []) (tk : TkD X B W)
    (ht : eval (.Call (.Attribute o m apos) [] [] pos) X.env = (do let ov ← eval o X.env; standAt apos.atName; let (f, first) ← holding [ov] (getMethod ov m pl); callWith pos f first (backTo pos (starEach [] X.env)) (backToKw pos (keywordEach [] X.env))) := by rfl) :
    QE X B (.Call (.Attribute o m apos) [] [] pos) (cMeth C m sp W ta cNil) := by
  refine ⟨fun pins s σ H Q I w => ?_⟩
  obtain ⟨ρ, h, Q', sl, rb, hw, kq⟩ := w
  refine PySem.W.methodCall_KW (pl := pl) (thn (ho.run pins s σ H (fun v H1 => ∃ a dx fs h1, v = V.ref a ∧ Stp X.K H h H1 h1 ∧ h1 a = some (.ins C dx fs) ∧ fs.lookup m = none ∧ sp [.ref a] h1 Q' (W ρ)) I ⟨ρ, h, _, sl, rb, hw, fun v d H1 h1 rv s1 q1 => ?_⟩) fun u s1 z => ?_) ht
  · cases d with
    | ref a => obtain ⟨dx, fs, e, l, q⟩ := q1; exact ⟨a, dx, fs, h1, rv, s1, e, l, q⟩
    | _ => exact q1.elim
  · obtain ⟨x, H1, I1, rx, a, dx, fs, h1, rfl, st, e1, l, q⟩ := z
    obtain rfl : u = Value.ref a := rx
    obtain ⟨vs, ea, r⟩ := st.rh a _ e1
    refine getmeth_ok I1 ea c hm ((RPs.lookup (f := m) r).2 l) ?_
    exact PySem.W.callWith_K0 (first := [.ref a]) I1.kIn hm.kp (run_gf (us := [.ref a]) (vs := [.ref a]) (ds := [.ref a]) F hr hgd hb tk I1 (.cons rfl .nil) (sl.mono st.ts) (rb.trans st) ⟨_, _, rfl, rfl, rfl⟩ q fun v d H' h' a b c => kq v d H' h' a (st.trans b) c)
/-- C(..): a new instance, then __init__ -/
def cMake (C : Addr) (sp : SpD) (W : En → XD) (t : CA) : CE := fun ρ h Q => t ρ h fun ds h1 => ∀ x dx, h1 x = none → h1 dx = none → dx ≠ x →
  sp (.ref x :: ds) (updD h1 x (.ins C dx [])) (fun v h2 => v = .non ∧ Q (.ref x) h2) (W ρ)
theorem stp_made {K : PySem.W.Frag} {H : Hp} {h : HD} {x dx C : Addr} (rh : RH K H h) (nx : H x = none) (nd : H dx = none) (ne : dx ≠ x) : Stp K H h (upd (upd H dx (.own x)) x (.ins C dx [])) (updD h x (.ins C dx [])) := by
  have s1 : Stp K H h (upd H dx (.own x)) h := .hid rh nd (rh.none nd)
  have nx' : upd H dx (.own x) x = none := by rw [upd_ne (Ne.symm ne)]; exact nx
  exact s1.trans (.new s1.rh nx' ⟨[], upd_same, rfl⟩)
theorem run_mk {pins : List (Addr × Obj)} {σ : L2.St} {H : Hp} {s : Shared} {Q : VK} {us : List Value} {vs : List V} {ρ : En} {ds : List D} {h : HD} {W : En → XD} {Q' : DK} (M : Mk X.K C f) (F : GF X.prog X.w X.K X.mg X.base k f fd ps sp) (hr : Room (k + 1) X.A) (hgd : X.A.guards = some []) (hb : Binds X.K fd ps []) (tk : TkD X B W)
    (I : Inv X pins σ H s) (r : Vals vs us) (sl : Sl X.K σ H ρ) (rb : RB X.K B H h) (rd : RDs X.K H vs ds)
    (hs : ∀ x dx, h x = none → h dx = none → dx ≠ x → sp (.ref x :: ds) (updD h x (.ins C dx [])) (fun v h2 => v = .non ∧ Q' (.ref x) h2) (W ρ))
    (kq : ∀ v d H' h', RD X.K H' v d → Stp X.K H h H' h' → Q' d h' → Q v H') : wpAny (model X.prog X.w) X.A (call (.ref C) us) (EP X pins σ Q) X.xe s := by
  have nx : H (s.heap.objs.size + 1) = none := I.hok.fresh (Nat.le_succ _)
  have nd : H s.heap.objs.size = none := I.hok.fresh (Nat.le_refl _)
  have ne : s.heap.objs.size ≠ s.heap.objs.size + 1 := Nat.ne_of_lt (Nat.lt_succ_self _)
  have hq := hs (s.heap.objs.size + 1) s.heap.objs.size (rb.rh.none nx) (rb.rh.none nd) ne
  have I2 := Inv.made (C := C) I
  have st := stp_made (C := C) rb.rh nx nd ne
  have hl : (Value.ref (s.heap.objs.size + 1) :: us).length = ps.length := by
    rw [← F.len _ _ _ _ hq, List.length_cons, List.length_cons, ← r.length, rd.length]
  have b := hb _ (Value.ref (s.heap.objs.size + 1) :: us) I2.kIn (by rw [List.append_nil]; exact hl)
  rw [List.append_nil] at b
  refine wpAny_call (make_map (f := f) I.kIn M.makes M.init (beq_iff_eq.mp M.fn) (codeAny_mono (F.run _ X.stack _ _ ⟨Value.ref (s.heap.objs.size + 1) :: us, []⟩ (Value.ref (s.heap.objs.size + 1) :: us) (V.ref (s.heap.objs.size + 1) :: vs) (fun v H2 => v = .non ∧ Q (.ref (s.heap.objs.size + 1)) H2) (lowX X.K (_, _) (W ρ)) (hr.make C us [])
    ?_ (I2.env0.make C us []) b (.cons rfl r) ⟨.ref (s.heap.objs.size + 1) :: ds, _, _, W ρ, ⟨_, _, rfl, rfl, rd.mono st.ts⟩, st.rh, hq, fun v d H' h' a b c => ?_, fun _ _ _ z => z⟩) fun r s' hq' => ?_))
  · first
      | exact hgd
      | (show (X.A.under _).guards = _; simp [Around.under, Code.guards, Code.isGuard, pushGuards, guardIds, hgd])
  · obtain ⟨rfl, q⟩ := c
    exact ⟨a, kq _ (.ref (s.heap.objs.size + 1)) H' h' rfl (st.trans b) q⟩
  · cases r with
    | error er =>
      refine tk _ _ (XE.of_call I2 (fun cls d H' z => ?_) hq')
      obtain ⟨h', fs, s2, xr, w⟩ := z
      exact ⟨ρ, h', fs, sl.mono (st.ts.trans s2.ts), (rb.trans st).trans s2, xr, w⟩
    | ok fl =>
      cases fl with
      | ret u =>
        obtain ⟨v, H', I3, rv, ev, q3⟩ := I2.after hq'
        subst ev
        exact ⟨rv, ⟨V.ref (s.heap.objs.size + 1), H', I3, rfl, q3⟩⟩
      | next => exact False.elim hq'
      | brk => exact False.elim hq'
      | cont => exact False.elim hq'
theorem qe_make {W : En → XD} (M : Mk X.K C f) (F : GF X.prog X.w X.K X.mg X.base k f fd ps sp) (hr : Room (k + 1) X.A) (hgd : X.A.guards = some []) (hg : Gl X x) (hm : X.mg x = some (.ref C)) (hb : Binds X.K fd ps []) (tk : TkD X B W)
    (ha : QA X B (e :: es) t) (hdb : (x == ("__debug__" : Str)) = false := by decide) (he : starEach (e :: es) X.env = (false, eval e X.env) :: starEach es X.env := by rfl) (hpl : (backTo pos (starEach es X.env)).any (·.1) = false := by rfl) :
    QE X B (.Call (.Name x p) (e :: es) [] pos) (cMake C sp W t) := by
  refine ⟨fun pins s σ H Q I w => ?_⟩
  obtain ⟨ρ, h, Q', sl, rb, ht, kq⟩ := w
  refine wpAny_Call_Name_kw (ld_glob I hg hm ?_ hdb)
  refine PySem.W.callWith_K (h₀ := X.base) I.ok.mod.kin M.kp (thn (ha.run pos pins s σ H (fun vs H1 => ∃ ds h1, RDs X.K H1 vs ds ∧ Stp X.K H h H1 h1 ∧ ∀ x dx, h1 x = none → h1 dx = none → dx ≠ x → sp (.ref x :: ds) (updD h1 x (.ins C dx [])) (fun v h2 => v = .non ∧ Q' (.ref x) h2) (W ρ)) I ⟨ρ, h, _, sl, rb, ht, fun vs ds H1 h1 a b c => ⟨ds, h1, a, b, c⟩⟩) fun us s1 z => ?_) he hpl
  obtain ⟨vs, H1, I1, r, ds, h1, rd, st, hs⟩ := z
  exact ⟨I1.kIn, run_mk M F hr hgd hb tk I1 r (sl.mono st.ts) (rb.trans st) rd hs fun v d H' h' a b c => kq v d H' h' a (st.trans b) c⟩
theorem qe_make0 {W : En → XD} (M : Mk X.K C f) (F : GF X.prog X.w X.K X.mg X.base k f fd ps sp) (hr : Room (k + 1) X.A) (hgd : X.A.guards = some []) (hg : Gl X x) (hm : X.mg x = some (.ref C)) (hb : Binds X.K fd ps []) (tk : TkD X B W)
    (hdb : (x == ("__debug__" : Str)) = false := by decide) : QE X B (.Call (.Name x p) [] [] pos) (cMake C sp W cNil) := by
  refine ⟨fun pins s σ H Q I w => ?_⟩
  obtain ⟨ρ, h, Q', sl, rb, ht, kq⟩ := w
  refine wpAny_Call_Name_kw (ld_glob I hg hm ?_ hdb)
  exact PySem.W.callWith_K0 I.kIn M.kp (run_mk (us := []) M F hr hgd hb tk I .nil sl rb (ds := []) rfl ht kq)
end
end PD

-- PdF
set_option Elab.async false
set_option linter.all false
set_option maxRecDepth 100000
set_option maxHeartbeats 4000000
/-! PdF: dicts whose keys are tuples, by data. -/
namespace PD
open PySem PySem.Spec PyProof.Rows L2

mutual
theorem nk_is {X : Cx} {pins : List (Addr × Obj)} {σ : L2.St} {H : Hp} {s : Shared} (I : Inv X pins σ H s) : ∀ {d : D} {v : V} {u : Value}, nkOk d = true → RD X.K H v d → RelV v u → NestedIs s.heap (nk d) u
  | .non, _, _, _, r, q => by cases (show _ = V.non from r); cases (show _ = Value.none from q); exact .none
  | .bl b, _, _, _, r, q => by cases (show _ = V.bl b from r); cases (show _ = Value.bool b from q); exact .bool rfl
  | .int i, _, _, _, r, q => by cases (show _ = V.int i from r); obtain ⟨t, rfl⟩ := q; exact .int i t
  | .str x, _, _, _, r, q => by cases (show _ = V.str x from r); obtain ⟨t, rfl⟩ := q; exact .text x t
  | .tup ds, _, _, k, r, q => by
    obtain ⟨a, vs, rfl, qa, ra⟩ := r
    cases (show _ = Value.ref a from q)
    obtain ⟨its, rv, ⟨o, e, c, n, hd⟩, hz⟩ := I.tuple qa
    refine .tup e c hd ?_
    simpa using nks_is I (show nksOk ds = true from k) ra rv
theorem nks_is {X : Cx} {pins : List (Addr × Obj)} {σ : L2.St} {H : Hp} {s : Shared} (I : Inv X pins σ H s) : ∀ {ds : List D} {vs : List V} {us : List Value}, nksOk ds = true → RDs X.K H vs ds → Vals vs us → NestedAll s.heap (nks ds) us
  | [], _, _, _, r, q => by cases r; cases q; exact .nil
  | d :: ds, _, _, k, r, q => by
    obtain ⟨v, vs, rfl, r1, r2⟩ := r
    cases q with
    | cons q1 q2 =>
      have k' : nkOk d = true ∧ nksOk ds = true := by simpa [nksOk] using k
      exact .cons (nk_is I k'.1 r1 q1) (nks_is I k'.2 r2 q2)
end
theorem ky_is {X : Cx} {pins : List (Addr × Obj)} {σ : L2.St} {H : Hp} {s : Shared} (I : Inv X pins σ H s) {d : D} {b : Addr} (k : kyT d = true) (z : (nk d).depth ≤ 8) (r : RD X.K H (.ref b) d) : (nestedKind X.prog X.w).is s.heap (nk d) b := by
  cases d with
  | tup ds => exact ⟨nk_is I (d := .tup ds) k r rfl, z⟩
  | _ => cases k

/-! ### what is found, what is put -/
def keq (a b : D) : Bool := NestedKey.beq (nk a) (nk b)
def valD (kvs : List (D × D)) (k : D) : Option D := (kvs.find? fun p => keq p.1 k).map (·.2)
def putK' (kvs : List (D × D)) (k v : D) : List (D × D) := if (kvs.any fun p => keq p.1 k) = true then kvs.map (fun p => if keq p.1 k = true then (p.1, v) else p) else kvs ++ [(k, v)]
theorem keq_iff {a b : D} : keq a b = true ↔ nk a = nk b := ⟨NestedKey.eq_of_beq _ _, fun e => by unfold keq; rw [e]; exact NestedKey.beq_self _⟩
theorem keq_dec {a b : D} : keq a b = decide (nk a = nk b) := by
  by_cases e : nk a = nk b
  · rw [decide_eq_true e]; exact keq_iff.mpr e
  · rw [decide_eq_false e]
    cases q : keq a b with
    | false => rfl
    | true => exact absurd (keq_iff.mp q) e

section
variable {X : Cx} {pins : List (Addr × Obj)} {σ : L2.St} {H : Hp} {s : Shared} {a : Addr} {o : Obj} {xs : List KX} {kvs : List (D × D)} {ys : List (NestedKey × Addr × Value)}
theorem rel_is (I : Inv X pins σ H s) : ∀ {kvs : List (D × D)} {xs : List KX} {ys : List (NestedKey × Addr × Value)}, RKs X.K H xs kvs → Paired RelX xs ys → ∀ y ∈ ys, (nestedKind X.prog X.w).is s.heap y.1 y.2.1
  | [], _, _, r, p => by cases r; cases p; intro y hy; cases hy
  | d :: ds, _, _, r, p => by
    obtain ⟨b, v, xr, rfl, k, z, q1, q2, r'⟩ := r
    cases p with
    | cons h t =>
      intro y hy
      rcases List.mem_cons.mp hy with e | hy
      · rw [e, ← h.1, ← h.2.1]
        exact ky_is I k z q1
      · exact rel_is I r' t y hy
/-- what is true of it -/
theorem dictO_at (I : Inv X pins σ H s) (e : H a = some (dictO X.prog X.w a o xs)) (r : RKs X.K H xs kvs) :
    (a == sysModules) = false ∧ xs.length ≤ sizeLine ∧ s.heap.get? a = some o ∧ o.ExactDict ∧ ∃ ys es ep, Paired RelX xs ys ∧ o.data = .dict es ep ∧ es.toList = ys.map (entryOfKey (nestedKind X.prog X.w)) ∧ s.heap.DictOfH (nestedKind X.prog X.w) a ys := by
  obtain ⟨⟨g, h1, h2, h3, ys, es, ep, p, hd, he, hn⟩, _⟩ := I.hok a _ e
  exact ⟨h1, h2, g, h3, ys, es, ep, p, hd, he, o, es, ep, g, h3, hd, he, rel_is I r p, hn⟩
theorem rel_at : ∀ {kvs : List (D × D)} {xs : List KX} {ys : List (NestedKey × Addr × Value)} {k : D}, RKs X.K H xs kvs → Paired RelX xs ys →
    (∀ d, valD kvs k = some d → ∃ p v, atKey ys (nk k) = some p ∧ RelV v p.2 ∧ RD X.K H v d) ∧ (valD kvs k = none → atKey ys (nk k) = none)
  | [], _, _, k, r, p => by cases r; cases p; exact ⟨fun d e => (by cases e), fun _ => rfl⟩
  | d :: ds, _, _, k, r, p => by
    obtain ⟨b, v, xr, rfl, hk, z, q1, q2, r'⟩ := r
    cases p with
    | @cons _ y _ ys' h t =>
      have ih := rel_at (k := k) r' t
      have h1 : nk d.1 = y.1 := h.1
      by_cases e : nk d.1 = nk k
      · have e1 : keq d.1 k = true := keq_iff.mpr e
        have v1 : valD (d :: ds) k = some d.2 := by simp [valD, List.find?_cons, e1]
        have a1 : atKey (y :: ys') (nk k) = some y.2 := by simp [atKey, List.find?_cons, ← h1, e]
        refine ⟨fun d' q => ?_, fun q => by rw [v1] at q; cases q⟩
        rw [v1] at q
        cases q
        exact ⟨y.2, v, a1, h.2.2, q2⟩
      · have e1 : keq d.1 k = false := by rw [keq_dec]; exact decide_eq_false e
        have v1 : valD (d :: ds) k = valD ds k := by simp [valD, List.find?_cons, e1]
        have a1 : atKey (y :: ys') (nk k) = atKey ys' (nk k) := by
          have : ¬ y.1 = nk k := fun q => e (h1.trans q)
          simp [atKey, List.find?_cons, this]
        rw [v1, a1]
        exact ih
theorem rel_any : ∀ {kvs : List (D × D)} {xs : List KX} {ys : List (NestedKey × Addr × Value)} {k : D}, RKs X.K H xs kvs → Paired RelX xs ys → (kvs.any fun p => keq p.1 k) = (atKey ys (nk k)).isSome
  | [], _, _, k, r, p => by cases r; cases p; rfl
  | d :: ds, _, _, k, r, p => by
    obtain ⟨b, v, xr, rfl, hk, z, q1, q2, r'⟩ := r
    cases p with
    | @cons _ y _ ys' h t =>
      have ih := rel_any (k := k) r' t
      have h1 : nk d.1 = y.1 := h.1
      rw [List.any_cons, ih, keq_dec]
      by_cases e : nk d.1 = nk k
      · have a1 : atKey (y :: ys') (nk k) = some y.2 := by simp [atKey, List.find?_cons, ← h1, e]
        rw [a1, decide_eq_true e]; rfl
      · have a1 : atKey (y :: ys') (nk k) = atKey ys' (nk k) := by
          have : ¬ y.1 = nk k := fun q => e (h1.trans q)
          simp [atKey, List.find?_cons, this]
        rw [a1, decide_eq_false e]; rfl
theorem rel_map (k : D) {dv : D} {v : V} {u : Value} (rv : RD X.K H v dv) (ru : RelV v u) : ∀ {kvs : List (D × D)} {xs : List KX} {ys : List (NestedKey × Addr × Value)}, RKs X.K H xs kvs → Paired RelX xs ys →
    ∃ xs', xs'.length = xs.length ∧ RKs X.K H xs' (kvs.map fun p => if keq p.1 k = true then (p.1, dv) else p) ∧ Paired RelX xs' (ys.map (putAt (nk k) u))
  | [], _, _, r, p => by cases r; cases p; exact ⟨[], rfl, rfl, .nil⟩
  | d :: ds, _, _, r, p => by
    obtain ⟨b, w, xr, rfl, hk, z, q1, q2, r'⟩ := r
    cases p with
    | @cons _ y _ ys' h t =>
      obtain ⟨xs', hl, r2, p2⟩ := rel_map k rv ru r' t
      have h1 : nk d.1 = y.1 := h.1
      by_cases e : nk d.1 = nk k
      · refine ⟨(nk d.1, b, v) :: xs', by simp [hl], ?_, ?_⟩
        · rw [List.map_cons, if_pos (keq_iff.mpr e)]
          exact ⟨b, v, xs', rfl, hk, z, q1, rv, r2⟩
        · rw [List.map_cons]
          refine .cons ?_ p2
          unfold putAt
          rw [if_pos (h1.symm.trans e)]
          exact ⟨h.1, h.2.1, ru⟩
      · refine ⟨(nk d.1, b, w) :: xs', by simp [hl], ?_, ?_⟩
        · rw [List.map_cons, if_neg (fun q => e (keq_iff.mp q))]
          exact ⟨b, w, xs', rfl, hk, z, q1, q2, r2⟩
        · rw [List.map_cons]
          refine .cons ?_ p2
          unfold putAt
          rw [if_neg (fun q => e (h1.trans q))]
          exact h
theorem RKs.snoc {K : PySem.W.Frag} {H : Hp} {k dv : D} {b : Addr} {v : V} (hk : kyT k = true) (z : (nk k).depth ≤ 8) (r1 : RD K H (.ref b) k) (rv : RD K H v dv) : ∀ {kvs : List (D × D)} {xs : List KX}, RKs K H xs kvs → RKs K H (xs ++ [(nk k, b, v)]) (kvs ++ [(k, dv)])
  | [], _, r => by cases r; exact ⟨b, v, [], rfl, hk, z, r1, rv, rfl⟩
  | d :: ds, _, r => by
    obtain ⟨b', w, xr, rfl, hk', z', q1, q2, r'⟩ := r
    exact ⟨b', w, _, rfl, hk', z', q1, q2, RKs.snoc hk z r1 rv r'⟩
theorem rel_put {k dv : D} {b : Addr} {v : V} {u : Value} (hk : kyT k = true) (z : (nk k).depth ≤ 8) (r1 : RD X.K H (.ref b) k) (rv : RD X.K H v dv) (ru : RelV v u) (r : RKs X.K H xs kvs) (p : Paired RelX xs ys) :
    ∃ xs', xs'.length ≤ xs.length + 1 ∧ RKs X.K H xs' (putK' kvs k dv) ∧ Paired RelX xs' (storedH ys (nk k) b u) := by
  unfold putK' storedH
  rw [rel_any (k := k) r p]
  by_cases e : (atKey ys (nk k)).isSome = true
  · rw [if_pos e, if_pos e]
    obtain ⟨xs', hl, a1, a2⟩ := rel_map k rv ru r p
    exact ⟨xs', by omega, a1, a2⟩
  · rw [if_neg e, if_neg e]
    exact ⟨_, by simp, r.snoc hk z r1 rv, Paired.snoc p ⟨rfl, rfl, ru⟩⟩
theorem dictO_ok {P : Program} {w : World} {H : Hp} {h : Heap} (h1 : (a == sysModules) = false) (h2 : xs.length ≤ sizeLine) (p : Paired RelX xs ys) (d : h.DictOfH (nestedKind P w) a ys) : ∃ o, ObjOk P w H h a (dictO P w a o xs) := by
  obtain ⟨o, es, ep, g, h3, hd, he, _, hn⟩ := d
  exact ⟨o, ⟨g, h1, h2, h3, ys, es, ep, p, hd, he, hn⟩, ⟨o, g⟩, fun k1 k2 ⟨g1, r⟩ k => ⟨k _ g1, r⟩⟩
end

/-- a dict with tuples as keys, locked or not -/
def isDN (P : Program) (w : World) (h : HD) (a : Addr) (kvs : List (D × D)) : Prop := h a = some (.dN P w kvs) ∨ ∃ o xs, h a = some (.lkN P w o xs kvs)
theorem isDN.ro {P : Program} {w : World} {K : PySem.W.Frag} {H : Hp} {h : HD} {a : Addr} {kvs : List (D × D)} (rh : RH K H h) (e : isDN P w h a kvs) : ∃ o xs, H a = some (dictO P w a o xs) ∧ RKs K H xs kvs := by
  rcases e with e | ⟨o, xs, e⟩
  · exact rh a _ e
  · exact ⟨o, xs, rh a _ e⟩
theorem isDN.ne {P : Program} {w : World} {h : HD} {a : Addr} {kvs : List (D × D)} (e : isDN P w h a kvs) : h a ≠ none := by
  rcases e with e | ⟨o, xs, e⟩ <;> rw [e] <;> simp

section
variable {X : Cx} {B : Bs}
theorem room_n {A : Around} (hu : A.units + 9 < cLine) : (nestedKind X.prog X.w).room A.in1 := by
  show A.units + 1 + 8 < cLine
  omega
/-- {} -/
def cDNew (P : Program) (w : World) : CE := fun _ h Q => ∀ p, h p = none → Q (.ref p) (updD h p (.dN P w []))
theorem qe_dnewN {pos : Pos} : QE X B (.Dict [] [] pos) (cDNew X.prog X.w) := ⟨fun pins s σ H Q I w => by
  obtain ⟨ρ, h, Q', sl, rb, ht, k⟩ := w
  have np : H s.heap.objs.size = none := I.hok.fresh (Nat.le_refl _)
  obtain ⟨o, ok⟩ := dictO_ok (H := H) (xs := []) (P := X.prog) (w := X.w) (h := s.heap.push { cls := .type "dict", data := .dict #[] }) (beq_eq_false_iff_ne.mpr (Ne.symm (Nat.ne_of_lt I.big))) (Nat.zero_le _) Paired.nil (Heap.DictOfH.new s.heap)
  refine wpAny_Dict_empty ⟨.ref s.heap.objs.size, _, I.laid (a := s.heap.objs.size) (o := dictO X.prog X.w s.heap.objs.size o []) (t' := s.toks) (fun _ _ q => Heap.get?_push_of_some _ q) (Nat.le_refl _) ok, rfl, ?_⟩
  exact k _ (.ref s.heap.objs.size) _ _ rfl (.new (b := .dN X.prog X.w []) rb.rh np ⟨o, [], upd_same, rfl⟩) (ht _ (rb.rh.none np))⟩
def cDNewK : CE := fun _ h Q => ∀ p, h p = none → Q (.ref p) (updD h p (.dK []))
theorem qe_dnewK {pos : Pos} : QE X B (.Dict [] [] pos) cDNewK := PE.imp pe_dnewK fun σ H Q w => by
  obtain ⟨ρ, h, Q', sl, rb, ht, k⟩ := w
  exact fun p np => k _ (.ref p) _ _ rfl (.new (b := .dK []) rb.rh np ⟨[], upd_same, rfl⟩) (ht _ (rb.rh.none np))
/-- d[k] -/
def cDIx (P : Program) (w : World) : C2 := fun x y h Q => match x with
  | .ref a => ∃ kvs d, isDN P w h a kvs ∧ kyT y = true ∧ (nk y).depth ≤ 8 ∧ valD kvs y = some d ∧ Q d h
  | _ => False
theorem xd_dict (hu : X.A.units + 9 < cLine) : IxD X (cDIx X.prog X.w) := by
  intro value slice pins s σ H x y v u Q I rv ru w hs
  obtain ⟨dx, dy, h, Q', rx, ry, rh, hr, k⟩ := w
  cases dx with
  | ref a =>
    cases (show x = V.ref a from rx)
    obtain ⟨kvs, d, e, ky, kz, ev, q⟩ := hr
    obtain ⟨o, xs, ea, rk⟩ := e.ro rh
    obtain ⟨b, rfl⟩ : ∃ b, y = .ref b := by
      cases dy with
      | tup ds => obtain ⟨b, _, eb, _⟩ := ry; exact ⟨b, eb⟩
      | _ => cases ky
    obtain ⟨h1, h2, g, h3, ys, es, ep, p, hd, he, dh⟩ := dictO_at I ea rk
    obtain ⟨pp, vv, ap, rvv, rdd⟩ := (rel_at (k := dy) rk p).1 d ev
    cases (show v = Value.ref a from rv); cases (show u = Value.ref b from ru)
    exact subscriptTail_builtinR (x := pp.2) dh.typeIs F.slot_dict_getitem.lookup (wpAny_getItem_heap (Q := fun r s' => r = pp.2 ∧ EP X pins σ Q r s') (room_n (X := X) hu) (ky_is I ky kz ry) dh ap ⟨rfl, vv, H, I.tok _, rvv, k vv d H h rdd (.refl rh) q⟩) hs
  | _ => exact hr.elim
theorem ky_ref {K : PySem.W.Frag} {H : Hp} {y : V} {d : D} (r : RD K H y d) (k : kyT d = true) : ∃ b, y = .ref b := by
  cases d with
  | tup ds => obtain ⟨b, _, eb, _⟩ := r; exact ⟨b, eb⟩
  | _ => cases k
/-- d[k] = v -/
def cDPut (P : Program) (w : World) : CSet := fun o i v h Q => match o with
  | .ref a => ∃ kvs, isDN P w h a kvs ∧ kyT i = true ∧ (nk i).depth ≤ 8 ∧ kvs.length < sizeLine ∧ Q (updD h a (.dN P w (putK' kvs i v)))
  | _ => False
theorem dput_core {pins : List (Addr × Obj)} {σ : L2.St} {H : Hp} {s : Shared} {h : HD} {a b : Addr} {kvs : List (D × D)} {di dv : D} {v : V} {uv : Value} (I : Inv X pins σ H s) (rh : RH X.K H h) (e : isDN X.prog X.w h a kvs) (hz : kvs.length < sizeLine) :
    ∃ (o : Obj) (xs : List KX) (ys : List (NestedKey × Addr × Value)), H a = some (dictO X.prog X.w a o xs) ∧ RKs X.K H xs kvs ∧ Paired RelX xs ys ∧ (a == sysModules) = false ∧ ys.length ≤ sizeLine ∧ s.heap.DictOfH (nestedKind X.prog X.w) a ys := by
  obtain ⟨o, xs, ea, rk⟩ := e.ro rh
  obtain ⟨h1, h2, g, h3, ys, es, ep, p, hd, he, dh⟩ := dictO_at I ea rk
  exact ⟨o, xs, ys, ea, rk, p, h1, by rw [← Paired.length p]; exact h2, dh⟩
theorem dput_end {pins : List (Addr × Obj)} {σ : L2.St} {H : Hp} {s : Shared} {h : HD} {a b : Addr} {kvs : List (D × D)} {di dv : D} {v : V} {uv : Value} {o : Obj} {xs : List KX} {ys : List (NestedKey × Addr × Value)} {h' : Heap} {t' : Nat} (I : Inv X pins σ H s) (rh : RH X.K H h) (e : isDN X.prog X.w h a kvs) (hz : kvs.length < sizeLine)
    (ea : H a = some (dictO X.prog X.w a o xs)) (rk : RKs X.K H xs kvs) (p : Paired RelX xs ys) (h1 : (a == sysModules) = false) (ky : kyT di = true) (kz : (nk di).depth ≤ 8) (ri : RD X.K H (.ref b) di) (rv : RD X.K H v dv) (ru : RelV v uv)
    (dh' : h'.DictOfH (nestedKind X.prog X.w) a (storedH ys (nk di) b uv)) (hs : Heap.SameBut a s.heap h') :
    ∃ H', Inv X pins σ H' { s with heap := h', toks := t' } ∧ Stp X.K H h H' (updD h a (.dN X.prog X.w (putK' kvs di dv))) := by
  obtain ⟨xs', hl, rk', p'⟩ := rel_put ky kz ri rv ru rk p
  obtain ⟨o', ok⟩ := dictO_ok (H := upd H a (dictO X.prog X.w a o xs)) h1 (xs := xs') (by have := rk.length; omega) p' dh'
  have ok2 : ObjOk X.prog X.w (upd H a (dictO X.prog X.w a o' xs')) h' a (dictO X.prog X.w a o' xs') := ok
  refine ⟨_, d_write I (by rw [ea]; exact True.intro) hs ?_ ok2, ?_⟩
  · obtain ⟨q, _, _, hq, _⟩ := dh'; exact ⟨q, hq⟩
  · have kp : Kep H (upd H a (dictO X.prog X.w a o' xs')) := fun c u eu iu => by
      by_cases z : c = a
      · rw [z, ea] at eu; cases eu; cases iu
      · rw [upd_ne z]; exact eu
    exact Stp.mut rh ea rfl e.ne ⟨o', xs', upd_same, rk'.mono kp⟩
theorem sd_dict (hu : X.A.units + 9 < cLine) : SetD X (cDPut X.prog X.w) := by
  intro pins s σ H o i v ov iv uv Q I ro ri rv z
  obtain ⟨dk, di, dv, h, Q', r1, r2, r3, rh, q, k⟩ := z
  cases dk with
  | ref a =>
    obtain ⟨kvs, e, ky, kz, hz, q⟩ := q
    cases (show o = V.ref a from r1); cases (show ov = Value.ref a from ro)
    obtain ⟨b, rfl⟩ := ky_ref r2 ky
    cases (show iv = Value.ref b from ri)
    obtain ⟨o, xs, ys, ea, rk, p, h1, hy, dh⟩ := dput_core (b := b) (di := di) (dv := dv) (v := v) (uv := uv) I rh e hz
    refine wpAny_setItem_heap (hsz := hy) (room_n (X := X) hu) (ky_is I ky kz r2) dh fun h' dh' hs => ?_
    obtain ⟨H', I', st⟩ := dput_end (t' := s.toks + (nestedKind X.prog X.w).draws (nk di)) I rh e hz ea rk p h1 ky kz r2 r3 rv dh' hs
    exact ⟨H', I', k _ _ st q⟩
  | _ => exact q.elim
/-- d.get(k, x) -/
def cDGet2 (P : Program) (w : World) (td ty tx : CE) : CE := fun ρ h Q => td ρ h fun x h1 => match x with
  | .ref a => ∃ kvs, isDN P w h1 a kvs ∧ ty ρ h1 fun y h2 => tx ρ h2 fun z h3 => ∃ kvs', isDN P w h3 a kvs' ∧ kyT y = true ∧ (nk y).depth ≤ 8 ∧ Q ((valD kvs' y).getD z) h3
  | _ => False
theorem qe_dget2 {o e f : Expr} {td ty tx : CE} {apos cpos : Pos} (hu : X.A.units + 9 < cLine) (ho : QE X B o td) (he : QE X B e ty) (hf : QE X B f tx) (m : M2 X o "get" apos e f cpos) : QE X B (.Call (.Attribute o "get" apos) [e, f] [] cpos) (cDGet2 X.prog X.w td ty tx) := by
  refine ⟨fun pins s σ H Q I w => ?_⟩
  obtain ⟨ρ, h, Q', sl, rb, ht, k⟩ := w
  refine wpAny_Call_method m.base m.few m.line PySem.F.plainAttrs_dict PySem.F.slot_dict_get PySem.F.type_dict_get (thn (ho.run pins s σ H (fun v H1 => ∃ a kvs h1, v = V.ref a ∧ Stp X.K H h H1 h1 ∧ isDN X.prog X.w h1 a kvs ∧ ty ρ h1 fun y h2 => tx ρ h2 fun z h3 => ∃ kvs', isDN X.prog X.w h3 a kvs' ∧ kyT y = true ∧ (nk y).depth ≤ 8 ∧ Q' ((valD kvs' y).getD z) h3) I
    ⟨ρ, h, _, sl, rb, ht, fun v d H1 h1 rv s1 q1 => ?_⟩) fun u s1 z => ?_)
  · cases d with
    | ref a => obtain ⟨kvs, e, q⟩ := q1; exact ⟨a, kvs, h1, rv, s1, e, q⟩
    | _ => exact q1.elim
  obtain ⟨x, H1, I1, rx, a, kvs, h1, rfl, st, e, q1⟩ := z
  obtain rfl : u = Value.ref a := rx
  obtain ⟨o1, xs1, ea1, rk1⟩ := e.ro st.rh
  obtain ⟨z1, z2, g1, z3, ys1, es1, ep1, p1, hd1, he1, dh1⟩ := dictO_at I1 ea1 rk1
  refine ⟨dh1.typeIs, fun b q => ?_, ?_⟩
  · cases q; exact ⟨o1, g1, z3.2.1⟩
  rw [m.trees]
  refine Calls.callWith_builtin rfl (Calls.evalArgs_plain (Calls.spliced_cons (thn (he.run pins s1 σ H1 (fun v H2 => ∃ d h2, RD X.K H2 v d ∧ Stp X.K H1 h1 H2 h2 ∧ tx ρ h2 fun z h3 => ∃ kvs', isDN X.prog X.w h3 a kvs' ∧ kyT d = true ∧ (nk d).depth ≤ 8 ∧ Q' ((valD kvs' d).getD z) h3) I1
    ⟨ρ, h1, _, sl.mono st.ts, rb.trans st, q1, fun v d H2 h2 rv s2 q2 => ⟨d, h2, rv, s2, q2⟩⟩) fun iv s2 ⟨y, H2, I2, ry, dy, h2, rdy, st2, q2⟩ =>
    Calls.spliced_cons (thn (hf.run pins s2 σ H2 (fun v H3 => ∃ d h3, RD X.K H3 v d ∧ Stp X.K H2 h2 H3 h3 ∧ ∃ kvs', isDN X.prog X.w h3 a kvs' ∧ kyT dy = true ∧ (nk dy).depth ≤ 8 ∧ Q' ((valD kvs' dy).getD d) h3) I2
    ⟨ρ, h2, _, sl.mono (st.ts.trans st2.ts), (rb.trans st).trans st2, q2, fun v d H3 h3 rv s3 q3 => ⟨d, h3, rv, s3, q3⟩⟩) fun fv s3 ⟨z, H3, I3, rz, dz, h3, rdz, st3, kvs', e', ky, kz, q3⟩ => Calls.spliced_nil ?_))))
  obtain ⟨b, rfl⟩ := ky_ref rdy ky
  cases (show iv = Value.ref b from ry)
  obtain ⟨o2, xs2, ea2, rk2⟩ := e'.ro st3.rh
  obtain ⟨y1, y2, g2, y3, ys2, es2, ep2, p2, hd2, he2, dh2⟩ := dictO_at I3 ea2 rk2
  have rdy3 := rdy.mono st3.ts
  have st13 := (st.trans st2).trans st3
  refine call_meetsIn PySem.F.slot_dict_get dh2.typeIs PySem.F.entry_dict_get (PySem.F.args_dict_get_3 _ _ _) (meetsH_dict_get_default (nestedKind X.prog X.w) a b y1 fv) ⟨room_n (X := X) hu, nk dy, ys2, ky_is I3 ky kz rdy3, dh2, ?_⟩
  cases ev : valD kvs' dy with
  | some d =>
    obtain ⟨pp, vv, ap, rvv, rdd⟩ := (rel_at (k := dy) rk2 p2).1 d ev
    rw [ev] at q3
    exact ⟨vv, H3, I3.tok _, by rw [ap]; exact rvv, k vv d H3 h3 rdd st13 q3⟩
  | none =>
    have ap := (rel_at (k := dy) rk2 p2).2 ev
    rw [ev] at q3
    exact ⟨z, H3, I3.tok _, by rw [ap]; exact rz, k z dz H3 h3 rdz st13 q3⟩
end
end PD

-- PdG
set_option Elab.async false
set_option linter.all false
set_option maxRecDepth 100000
set_option maxHeartbeats 4000000
/-! PdG: walks of dicts, dict comprehensions, by data. -/
namespace PD
open PySem PySem.Spec PyProof.Rows L2

/-- the keys of the dict at d, while it stays -/
def Itkn (P : Program) (w : World) (d : Addr) (o : Obj) (xs : List KX) : It :=
  ⟨fun i H => H d = some (dictO P w d o xs) ∧ i < xs.length, fun i H x H' => H' = H ∧ ∃ p : KX, xs[i]? = some p ∧ x = .ref p.2.1, fun i H => H d = some (dictO P w d o xs) ∧ xs.length ≤ i⟩
theorem dictO_raw {X : Cx} {pins : List (Addr × Obj)} {σ : L2.St} {H : Hp} {s : Shared} {d : Addr} {o : Obj} {xs : List KX} (I : Inv X pins σ H s) (e : H d = some (dictO X.prog X.w d o xs)) :
    (d == sysModules) = false ∧ s.heap.get? d = some o ∧ o.ExactDict ∧ ∃ (es : Array DictEntry) (ep : Nat), o.data = .dict es ep ∧ es.size = xs.length ∧ ∀ (i : Nat) (p : KX), xs[i]? = some p → ∃ en : DictEntry, es[i]? = some en ∧ en.key = .ref p.2.1 := by
  obtain ⟨⟨g, h1, h2, h3, ys, es, ep, p, hd, he, hn⟩, _⟩ := I.hok d _ e
  refine ⟨h1, g, h3, es, ep, hd, ?_, fun i q hq => ?_⟩
  · rw [size_of_entries he]; exact (Paired.length p).symm
  · obtain ⟨y, hy, e1⟩ := paired_get p hq
    have e2 := entry_at he i
    rw [hy] at e2
    refine ⟨_, e2, ?_⟩
    show Value.ref y.2.1 = _
    rw [e1.2.1]
theorem turn_keysN {P : Program} {w : World} {K : PySem.W.Frag} {tg : Expr} {d : Addr} {o : Obj} {es : Array DictEntry} {ep : Nat} {xs : List KX} (it : Addr) (hod : o.data = .dict es ep) : Turn P w K tg (Itkn P w d o xs) [it] it (fun i h => h.IsKeyIter it d i xs.length ep) where
  mem := by simp
  obj := fun i h st b hb => by
    have e : b = it := by simpa using hb
    subst e
    obtain ⟨oi, e, c, dd⟩ := st
    exact ⟨oi, e, fun v z => by rw [dd] at z; cases z⟩
  keep := fun i h h' st k => st.at fun oi e => k it (by simp) oi e
  item := by
    intro X hP hw hK hc i pins s σ H E I hf st hg
    subst hP hw hK
    obtain ⟨hd, hi⟩ := hg
    obtain ⟨f0, f1, f2, f3, f4, f5⟩ := hf it (by simp)
    obtain ⟨hs, hgd, hx, es', ep', hdt, hsz, ent⟩ := dictO_raw I hd
    obtain ⟨rfl, rfl⟩ := dict_ep hod hdt
    obtain ⟨p, hp⟩ : ∃ p, xs[i]? = some p := ⟨xs[i], List.getElem?_eq_getElem hi⟩
    obtain ⟨en, hen, hkey⟩ := ent i p hp
    refine next_key_item st hgd hdt hsz hen fun h' st' sb => ?_
    have I1 : Inv X pins σ H { s with heap := h' } := I.turned (t' := s.toks) (fun b ob hb e => (sb.2 b hb).trans e) f0 f1 f3 f4 f5
    obtain ⟨oi, e, c, dd⟩ := id st'
    exact ⟨en.key, rfl, go_of (s := { s with heap := h' }) e c dd (by decide) ⟨.ref p.2.1, H, I1, hkey, ⟨rfl, p, hp, rfl⟩, st', fun b hb => (hf b hb).1⟩⟩
  done := by
    intro X hP hw hK hc i pins s σ H E I hf st hg
    subst hP hw hK
    obtain ⟨hd, hi⟩ := hg
    obtain ⟨f0, f1, f2, f3, f4, f5⟩ := hf it (by simp)
    obtain ⟨hs, hgd, hx, es', ep', hdt, hsz, ent⟩ := dictO_raw I hd
    obtain ⟨rfl, rfl⟩ := dict_ep hod hdt
    exact next_key_end (I.ok.hd hc) st hgd hdt hsz hi fun h' eb => ⟨rfl, I.turned (t' := s.toks) (fun b ob hb e => eb b ob hb e) f0 f1 f3 f4 f5⟩
  self := fun A i s Q E st h => by
    refine wpAny_pyIter_slot st.typeIs F.slot_dict_keyiterator_iter (wpAny_call_entry F.slot_dict_keyiterator_iter st.typeIs F.entry_dict_keyiterator_iter ?_ (F.args_dict_keyiterator_iter_1 _))
    show wpAny _ _ (ret (.ref it)) _ _ s
    exact wpAny_pure ⟨_, rfl, "dict_keyiterator", _, st.typeIs, F.slot_dict_keyiterator_next.lookup, h⟩
def iKeysN (P : Program) (w : World) (td : TE) : TI := fun σ H R => td σ H fun x H1 => ∃ d o xs, x = .ref d ∧ H1 d = some (dictO P w d o xs) ∧ R (Itkn P w d o xs) H1
section
variable {X : Cx} {B : Bs}
theorem pi_keysN {tg e : Expr} {td : TE} (he : PE X e td) : PI X tg e (iKeysN X.prog X.w td) := by
  refine ⟨fun pins s σ H R I h => ?_⟩
  refine thn (he.run pins s σ H _ I h) fun u s1 ⟨x, H1, I1, rx, d, o, xs, ex, hd, q⟩ => ?_
  subst ex
  obtain rfl : u = Value.ref d := rx
  obtain ⟨hs, hgd, hx, es, ep, hdt, hsz, ent⟩ := dictO_raw I1 hd
  refine iter_keys hs hgd hx hdt (pi_one (tk := s1.toks) I1 _ (turn_keysN _ hdt) ⟨_, Heap.get?_push_size _ rfl, rfl, ?_⟩ q)
  rw [hsz] <;> rfl
theorem RKs.get {K : PySem.W.Frag} {H : Hp} : ∀ {ds : List (D × D)} {xs : List KX} {i : Nat} {d : D × D}, RKs K H xs ds → ds[i]? = some d → ∃ p : KX, xs[i]? = some p ∧ RD K H (.ref p.2.1) d.1
  | [], _, _, _, _, e => by simp at e
  | d :: ds, _, 0, _, h, e => by
    obtain ⟨b, v, xr, rfl, _, _, q, _, _⟩ := h
    cases e
    exact ⟨_, rfl, q⟩
  | d :: ds, _, i + 1, _, h, e => by
    obtain ⟨b, v, xr, rfl, _, _, _, _, s⟩ := h
    exact RKs.get (i := i) s (by simpa using e)
theorem is_keysN {K : PySem.W.Frag} {H0 : Hp} {P : Program} {w : World} {a : Addr} {o : Obj} {xs : List KX} {kvs : List (D × D)} : ISok K H0 ⟨kvs.map (·.1), fun h => h a = some (.lkN P w o xs kvs)⟩ (Itkn P w a o xs) := fun i H h kp rh hok => by
  obtain ⟨ea, rk⟩ := rh a _ hok
  have hl := rk.length
  refine ⟨fun e => ⟨ea, by rw [hl, ← e]; simp⟩, fun d e => ?_⟩
  rw [List.getElem?_map] at e
  obtain ⟨p, e1, e2⟩ := Option.map_eq_some_iff.mp e
  obtain ⟨q, e3, r⟩ := rk.get e1
  refine ⟨⟨ea, (List.getElem?_eq_some_iff.mp e3).1⟩, fun x H' y => ?_⟩
  obtain ⟨rfl, p', ep, rfl⟩ := y
  rw [e3] at ep
  cases ep
  rw [← e2]
  exact ⟨r, .refl rh⟩
/-- a dict of tuples as keys is walked: its keys; as long as that lasts, it is locked -/
def cKeys (P : Program) (w : World) (t : CE) : CI := fun ρ h Q => t ρ h fun x h1 => match x with
  | .ref a => ∃ kvs, isDN P w h1 a kvs ∧ ∀ o xs, Q ⟨kvs.map (·.1), fun h => h a = some (.lkN P w o xs kvs)⟩ (updD h1 a (.lkN P w o xs kvs))
  | _ => False
theorem stp_lk {K : PySem.W.Frag} {H : Hp} {h : HD} {P : Program} {w : World} {a : Addr} {o : Obj} {xs : List KX} {kvs : List (D × D)} (rh : RH K H h) (e : h a ≠ none) (ea : H a = some (dictO P w a o xs)) (rk : RKs K H xs kvs) : Stp K H h H (updD h a (.lkN P w o xs kvs)) :=
  ⟨.refl _, fun _ q => q, fun x q => by
    by_cases z : x = a
    · exact .inl (by rw [z]; exact e)
    · rw [updD_ne z] at q; exact .inl q, fun x u q => by
    by_cases z : x = a
    · subst z
      rw [updD_same] at q
      cases q
      exact ⟨ea, rk⟩
    · rw [updD_ne z] at q; exact rh x u q, fun _ _ q _ _ => q⟩
theorem qi_keys {tg e : Expr} {t : CE} (he : QE X B e t) : QI X B tg e (cKeys X.prog X.w t) := PI.imp (pi_keysN he) fun σ H R w => by
  obtain ⟨ρ, h, Q', sl, rb, ht, k⟩ := w
  refine ⟨ρ, h, _, sl, rb, ht, fun v d H1 h1 rv s1 q1 => ?_⟩
  cases d with
  | ref a =>
    cases (show v = V.ref a from rv)
    obtain ⟨kvs, e, q⟩ := q1
    obtain ⟨o, xs, ea, rk⟩ := e.ro s1.rh
    exact ⟨a, o, xs, rfl, ea, k _ _ H1 _ is_keysN (s1.trans (stp_lk s1.rh e.ne ea rk)) (q o xs)⟩
  | _ => exact q1.elim
/-- len(d) -/
theorem len_dN {pins : List (Addr × Obj)} {σ : L2.St} {H : Hp} {s : Shared} {h : HD} {a : Addr} {kvs : List (D × D)} {Q : Value → Shared → Prop} (I : Inv X pins σ H s) (rh : RH X.K H h) (e : isDN X.prog X.w h a kvs) (q : Q (.int kvs.length (s.toks + 1)) { s with toks := s.toks + 1 + 1 }) :
    wpAny (model X.prog X.w) X.A (call (.builtin "len") [.ref a]) Q X.xe s := by
  obtain ⟨o, xs, ea, rk⟩ := e.ro rh
  obtain ⟨h1, h2, g, h3, ys, es, ep, p, hd, he, dh⟩ := dictO_at I ea rk
  have hl : ys.length = kvs.length := by rw [← Paired.length p, rk.length]
  have hz := rk.length
  have hs := sizeLine_eq
  have dk : s.heap.DictKeyed (nestedKind X.prog X.w) a (pairsH ys) := ⟨ys, dh, rfl⟩
  have hl2 : (pairsH ys).length = kvs.length := by rw [pairsH_length, hl]
  refine PyProof.Rows.call_len_slot (n := kvs.length) dk.typeIs F.slot_dict_len (fun Q' hq => len_keyed h1 dk (by rw [hl2]; exact hq)) (by omega) (by omega) q
/-- len: sequences, texts, dicts -/
def cLenA (P : Program) (w : World) : CL := fun ds h Q => cLen ds h Q ∨ ∃ a kvs, ds = [.ref a] ∧ isDN P w h a kvs ∧ Q (.int kvs.length) h
theorem cd_lenA : CallD X (.builtin "len") (cLenA X.prog X.w) := by
  intro pins s σ H xs us Q I rv w
  obtain ⟨ds, h, Q', rx, rh, hr, k⟩ := w
  rcases hr with hr | ⟨a, kvs, rfl, e, q⟩
  · exact cd_len pins s σ H xs us Q I rv ⟨ds, h, Q', rx, rh, hr, k⟩
  · obtain ⟨v, rfl, r⟩ := rx.one
    cases (show v = V.ref a from r)
    obtain rfl := Vals.ref1 rv
    exact len_dN I rh e ⟨.int kvs.length, H, I.tok _, ⟨_, rfl⟩, k (.int kvs.length) (.int kvs.length) H h rfl (.refl rh) q⟩
def cIxA (P : Program) (w : World) : C2 := fun x y h Q => cIx x y h Q ∨ cDIx P w x y h Q
theorem xd_any (hu : X.A.units + 9 < cLine) : IxD X (cIxA X.prog X.w) := by
  intro value slice pins s σ H x y v u Q I rv ru w hs
  obtain ⟨dx, dy, h, Q', rx, ry, rh, hr, k⟩ := w
  rcases hr with hr | hr
  · exact xd_ix value slice pins s σ H x y v u Q I rv ru ⟨dx, dy, h, Q', rx, ry, rh, hr, k⟩ hs
  · exact xd_dict hu value slice pins s σ H x y v u Q I rv ru ⟨dx, dy, h, Q', rx, ry, rh, hr, k⟩ hs
def cSetA (P : Program) (w : World) : CSet := fun o i v h Q => cSetL o i v h Q ∨ cDPut P w o i v h Q
theorem sd_any (hu : X.A.units + 9 < cLine) : SetD X (cSetA X.prog X.w) := by
  intro pins s σ H o i v ov iv uv Q I ro ri rv z
  obtain ⟨dk, di, dv, h, Q', r1, r2, r3, rh, q, k⟩ := z
  rcases q with q | q
  · exact sd_list pins s σ H o i v ov iv uv Q I ro ri rv ⟨dk, di, dv, h, Q', r1, r2, r3, rh, q, k⟩
  · exact sd_dict hu pins s σ H o i v ov iv uv Q I ro ri rv ⟨dk, di, dv, h, Q', r1, r2, r3, rh, q, k⟩
end
end PD

-- PdH
set_option Elab.async false
set_option linter.all false
set_option maxRecDepth 100000
set_option maxHeartbeats 4000000
/-! PdH: dict comprehensions whose keys are tuples (the walk follows HandS.DictComp, with another object). -/
namespace PD
open PySem PySem.Spec PyProof.Rows L2
section
variable {X : Cx}
def tDcN (P : Program) (w : World) (K : PySem.W.Frag) (wi : TI) (g : TG) (tt : TT) (tk tv : TE) (vs : List Nat) : TE := fun σ H Q => wi σ H fun J H1 => ∀ L o0, H1 L = none → ∃ W : Nat → Nat → Hp → Prop, (∃ m, W 0 m (upd H1 L (dictO P w L o0 []))) ∧ ∀ i m H, W i m H →
  (J.stop i H ∧ Q (.ref L) H) ∨ (J.go i H ∧ ∃ Nx : Hp → Prop, (∀ H', Nx H' → ∃ m', m' < m ∧ W (i + 1) m' H') ∧ ∀ x H', J.yld i H x H' → g x (wipe σ vs) H' fun σ2 H2 => wipe σ2 vs = wipe σ vs ∧ tt σ2 H2 fun b H3 =>
    if b = true then tk σ2 H3 fun y H4 => tv σ2 H4 fun z H5 => ∃ (h : HD) (kvs : List (D × D)) (di dv : D), RH K H5 h ∧ isDN P w h L kvs ∧ kvs.length < sizeLine ∧ RD K H5 y di ∧ kyT di = true ∧ (nk di).depth ≤ 8 ∧ RD K H5 z dv ∧ ∀ H', Stp K H5 h H' (updD h L (.dN P w (putK' kvs di dv))) → Nx H' else Nx H3)
theorem dcN_core {pins : List (Addr × Obj)} {s : Shared} {σ : L2.St} {H : Hp} {Q : VK} {kx vx tg iter : Expr} {ifs : List Expr} {scope : Scope} {own : List (Str × Nat)} {pos pos' : Pos} {wi : TI} {g : TG} {tt : TT} {tk tv : TE} {use : Option (Value → Sem Unit)} {Qf : Value → Shared → Prop}
    (hc : X.calm = true) (hN : X.N.Nodup) (I : Inv X pins σ H s) (hi : PI X tg iter wi) (ok : BlkOk X.N X.env.scope scope own)
    (hg : ∀ (s : Shared) (H : Hp) (C : Addr) (cl : List (Str × Addr)) (fp : List Addr), PG (X.blk s H scope (compEnvC scope cl C X.env) fp) tg g) (ht : ∀ (s : Shared) (H : Hp) (C : Addr) (cl : List (Str × Addr)) (fp : List Addr), PTs (X.blk s H scope (compEnvC scope cl C X.env) fp) ifs tt)
    (hk : ∀ (s : Shared) (H : Hp) (C : Addr) (cl : List (Str × Addr)) (fp : List Addr), PE (X.blk s H scope (compEnvC scope cl C X.env) fp) kx tk)
    (he : ∀ (s : Shared) (H : Hp) (C : Addr) (cl : List (Str × Addr)) (fp : List Addr), PE (X.blk s H scope (compEnvC scope cl C X.env) fp) vx tv) (hs : ∀ x, foldedSetIterable iter X.env x = pure x)
    (hu : X.A.units + 8 < cLine) (h : tDcN X.prog X.w X.K wi g tt tk tv (own.map (·.2)) σ H Q)
    (hRR : ∀ D C s' m H', Inv X pins σ H' s' → Q (.ref D) H' → s'.heap.Ns C m → FpOk X pins H' C → compPost (model X.prog X.w) X.A X.xe use Qf (.ref D) C (.ok .next) s') :
    wpAny (model X.prog X.w) X.A (comprehension (.DictComp kx vx [⟨tg, iter, ifs, 0⟩] scope pos) scope X.env pos' newDict false (eval iter X.env) use) Qf X.xe s := by
  have hfree : ∀ y ∈ scope.names, y.2 = .free → ∃ c, X.env.cells.lookup y.1 = some c := fun y hy e => by
    rcases ok.free y hy e with k | k
    · exact I.ok.has _ (.inl k)
    · exact I.ok.has _ (.inr k)
  refine wpAny_comprehension_free (use := use) rfl hs (closure_ok hfree) ok.kind (fun y hy e => by rw [ok.uniq y hy, e])
    (thn (hi.run pins s σ H _ I h) fun xv s1 hx => thn hx fun itv s2 h2 => ?_)
  obtain ⟨it, fp, tn, J, H2, e, I2, T, st2, f2, q⟩ := h2
  subst e
  refine wpAny_newObj_type (newEnv_comp ?_)
  generalize hD : s2.heap.objs.size = D
  have hDn : H2 D = none := I2.hok.fresh (Nat.le_of_eq hD)
  obtain ⟨o0, ok0⟩ := dictO_ok (H := upd H2 D (HO.lst [])) (xs := []) (P := X.prog) (w := X.w) (h := s2.heap.push { cls := .type "dict", data := .dict #[] }) (beq_eq_false_iff_ne.mpr (Ne.symm (Nat.ne_of_lt I2.big))) (Nat.zero_le _) Paired.nil (Heap.DictOfH.new s2.heap)
  obtain ⟨W, ⟨m0, w0⟩, turn⟩ := q D o0 hDn
  -- the new list
  generalize hs3 : ({ s2 with heap := s2.heap.push { cls := .type "dict", data := .dict #[] } } : Shared) = s3
  have I3 : Inv X pins σ (upd H2 D (dictO X.prog X.w D o0 [])) s3 := by
    rw [← hs3]
    refine I2.laid (t' := s2.toks) (fun b o e => Heap.get?_push_of_some _ e) (Nat.le_of_eq hD) ?_
    rw [← hD]
    exact ok0
  have h3 : s3.heap = s2.heap.push { cls := .type "dict", data := .dict #[] } := by rw [← hs3]
  have sz : ∀ b ∈ fp, b < s2.heap.objs.size := fun b hb => by
    obtain ⟨o, e, _⟩ := T.obj _ _ st2 b hb
    exact Heap.lt_size e
  have f3 : ∀ b ∈ fp, FpOk X pins (upd H2 D (dictO X.prog X.w D o0 [])) b ∧ b < s3.heap.objs.size := fun b hb => by
    have hlt := sz b hb
    refine ⟨⟨?_, (f2 b hb).2⟩, by rw [h3, Heap.size_push]; exact Nat.lt_succ_of_lt hlt⟩
    rw [upd_ne (by rw [← hD]; exact Nat.ne_of_lt hlt)]
    exact (f2 b hb).1
  have st3 : tn 0 s3.heap := T.keep _ _ _ st2 fun b _ o e => by rw [h3]; exact Heap.get?_push_of_some _ e
  have I4 := block_start I3 ok hN f3
  have pg := hg s3 (upd H2 D (dictO X.prog X.w D o0 [])) s3.heap.objs.size (cellsFrom (s3.heap.objs.size + 1) scope.names (cloFrom X.env.cells scope.names [])) fp
  have pt := ht s3 (upd H2 D (dictO X.prog X.w D o0 [])) s3.heap.objs.size (cellsFrom (s3.heap.objs.size + 1) scope.names (cloFrom X.env.cells scope.names [])) fp
  have pk := hk s3 (upd H2 D (dictO X.prog X.w D o0 [])) s3.heap.objs.size (cellsFrom (s3.heap.objs.size + 1) scope.names (cloFrom X.env.cells scope.names [])) fp
  have pe := he s3 (upd H2 D (dictO X.prog X.w D o0 [])) s3.heap.objs.size (cellsFrom (s3.heap.objs.size + 1) scope.names (cloFrom X.env.cells scope.names [])) fp
  show codeAny _ _ (.compStart (.DictComp kx vx [⟨tg, iter, ifs, 0⟩] scope pos) 0 (.ref it) (.ref D) (compEnvC scope (cellsFrom (s3.heap.objs.size + 1) scope.names (cloFrom X.env.cells scope.names [])) s3.heap.objs.size X.env)) (compPost (model X.prog X.w) X.A X.xe use Qf (.ref D) s3.heap.objs.size) { s3 with heap := pushCells (s3.heap.push { cls := .type "dict", data := .dict #[] }) scope.names }
  have nfp : ∀ b ∈ fp, (upd H2 D (dictO X.prog X.w D o0 [])) b = none := fun b hb => (f3 b hb).1.1
  generalize hce : compEnvC scope (cellsFrom (s3.heap.objs.size + 1) scope.names (cloFrom X.env.cells scope.names [])) s3.heap.objs.size X.env = ce at I4 pg pt pk pe ⊢
  have cL : ce.locals = s3.heap.objs.size := by subst hce; rfl
  generalize hH3 : upd H2 D (dictO X.prog X.w D o0 []) = H3 at I3 I4 pg pt pk pe w0 nfp f3
  generalize hs4 : ({ s3 with heap := pushCells (s3.heap.push { cls := .type "dict", data := .dict #[] }) scope.names } : Shared) = s4 at I4 ⊢
  have st4 : tn 0 s4.heap := T.keep _ _ _ st3 fun b _ o e => by rw [← hs4]; exact pushCells_keeps _ _ _ _ (Heap.get?_push_of_some _ e)
  have stat : ∀ {σ' : L2.St} {H' : Hp} {s' : Shared}, Inv (X.blk s3 H3 scope ce fp) [] σ' H' s' → (∀ b ∈ fp, H' b = none) → ∀ b ∈ fp, FpOk (X.blk s3 H3 scope ce fp) [] H' b := fun {σ' H' s'} I' hn b hb =>
    ⟨hn b hb, (I'.ok.exf b hb).1, I'.ok.exfs b hb, .inl hb, fun x c e => (I'.ok.exf b hb).2 x c e, fun p hp => absurd (show p ∈ ([] : List (Addr × Obj)) ++ [] from hp) (by simp)⟩
  have loop : codeAny (model X.prog X.w) X.A (.compLoop (.DictComp kx vx [⟨tg, iter, ifs, 0⟩] scope pos) 0 (.ref it) (.ref D) ce) (compPost (model X.prog X.w) X.A X.xe use Qf (.ref D) s3.heap.objs.size) s4 := by
    refine compLoop_anyD (fun n s' => ∃ i H', Inv (X.blk s3 H3 scope ce fp) [] (wipe σ (own.map (·.2))) H' s' ∧ tn i s'.heap ∧ (∀ b ∈ fp, H' b = none) ∧ W i n H') ?_ m0 ⟨0, H3, I4, st4, nfp, w0⟩
    rintro n s5 ⟨i, H5, I5, st5, n5, w5⟩
    rcases turn i n H5 w5 with ⟨stop, qq⟩ | ⟨go, Nx, hNx, step⟩
    · have td := T.done (X.blk s3 H3 scope ce fp) rfl rfl rfl hc i [] s5 _ H5 (fun _ _ => False) I5 (stat I5 n5) st5 stop
      refine thnF td fun r s6 ⟨hr, I6⟩ => ?_
      subst hr
      -- back in the def's context
      have I7 : Inv X pins σ H5 s6 := I3.call' (ch := fp) I6.os I6.base I6.hok I6.bare fun b hb => ⟨(f3 b hb).1.2.2.2.1, (f3 b hb).1.2.1, (f3 b hb).1.2.2.2.2.1, (f3 b hb).1.2.2.2.2.2⟩
      have nC : H5 s3.heap.objs.size = none := by
        have z : H5 ce.locals = none := I6.free
        rw [cL] at z
        exact z
      obtain ⟨m, hn, _⟩ := I6.loc
      have hn : s6.heap.Ns ce.locals m := hn
      rw [cL] at hn
      exact hRR D s3.heap.objs.size s6 m H5 I7 qq hn (I3.fpOk (Nat.le_refl _) nC)
    · have ti := T.item (X.blk s3 H3 scope ce fp) rfl rfl rfl hc i [] s5 _ H5 (fun _ _ => False) I5 (stat I5 n5) st5 go
      refine thnF ti fun r s6 ⟨u, hr, h6⟩ => ?_
      subst hr
      refine thnF h6 fun _ s7 ⟨x, H7, I7, r7, y7, st7, n7⟩ => ?_
      have I7' := I7.pinned (stat I7 n7) (T.obj _ _ st7)
      refine thnF (pg.run _ s7 _ H7 x u _ I7' r7 (step x H7 y7)) fun _ s8 ⟨σ8, H8, I8, hw8, q8⟩ => ?_
      refine thnF (pt.run _ s8 σ8 H8 _ I8 q8) fun b s9 ⟨H9, I9, q9⟩ => ?_
      -- the turn's end
      have fin : ∀ {s' : Shared} {H' : Hp}, Inv (X.blk s3 H3 scope ce fp) ([] ++ pinsAt fp s7.heap) σ8 H' s' → Nx H' → ∃ m, m < n ∧ ∃ i H', Inv (X.blk s3 H3 scope ce fp) [] (wipe σ (own.map (·.2))) H' s' ∧ tn i s'.heap ∧ (∀ b ∈ fp, H' b = none) ∧ W i m H' := fun {s' H'} I' nx => by
        obtain ⟨m', hm, w'⟩ := hNx H' nx
        have pin' : ∀ b ∈ fp, ∀ o, s7.heap.get? b = some o → s'.heap.get? b = some o ∧ H' b = none := fun b hb o e =>
          let z := I'.pin (b, o) (List.mem_append_right _ (List.mem_append_right _ (mem_pinsAt hb e)))
          ⟨z.1, z.2.1⟩
        have hl : (wipe σ (own.map (·.2))).length = σ8.length := by rw [← hw8, wipe_length]
        refine ⟨m', hm, i + 1, H', (I'.unpinned (pins := [])).weak hl (fun j v e => ?_), T.keep _ _ _ st7 fun b hb o e => (pin' b hb o e).1, fun b hb => ?_, w'⟩
        · rw [← hw8] at e
          exact (wipe_some e).1
        · obtain ⟨o, e, _⟩ := T.obj _ _ st7 b hb
          exact (pin' b hb o e).2
      cases b with
      | false =>
        simp only [Bool.false_eq_true, if_false] at q9 ⊢
        exact fin I9 q9
      | true =>
        simp only [if_true] at q9 ⊢
        refine thnF (pk.run _ s9 σ8 H9 _ I9 q9) fun z s10 ⟨yk, H10, I10, r10, q10⟩ => ?_
        refine thnF (pe.run _ s10 σ8 H10 _ I10 q10) fun z2 s11 ⟨yv, H11, I11, r11, h11, kvs, di, dv, rh11, e11, hz11, rdi, ky, kz, rdv, nx⟩ => ?_
        obtain ⟨bk, rfl⟩ := ky_ref rdi ky
        cases (show z = Value.ref bk from r10)
        obtain ⟨o2, xs2, ys2, ea2, rk2, p2, d2, hy2, dh2⟩ := dput_core (X := X.blk s3 H3 scope ce fp) (b := bk) (di := di) (dv := dv) (v := yv) (uv := z2) I11 rh11 e11 hz11
        refine wpAny_dictSet_heap (hsz := hy2) (show (nestedKind X.prog X.w).room X.A from hu) (ky_is I11 ky kz rdi) dh2 fun h' dh' hs' => ?_
        obtain ⟨H', I', st⟩ := dput_end (X := X.blk s3 H3 scope ce fp) (t' := s11.toks + (nestedKind X.prog X.w).draws (nk di)) I11 rh11 e11 hz11 ea2 rk2 p2 d2 ky kz rdi rdv r11 dh' hs'
        exact fin I' (nx H' st)
  exact codeAny_compStart_dict loop (T.self X.A 0 _ _ _ st4 loop)
theorem pe_dcN {kx vx tg iter : Expr} {ifs : List Expr} {scope : Scope} {own : List (Str × Nat)} {pos : Pos} {wi : TI} {g : TG} {tt : TT} {tk tv : TE} (hu : X.A.units + 8 < cLine) (hc : X.calm = true) (hN : X.N.Nodup) (hi : PI X tg iter wi) (ok : BlkOk X.N X.env.scope scope own)
    (hg : ∀ (s : Shared) (H : Hp) (C : Addr) (cl : List (Str × Addr)) (fp : List Addr), PG (X.blk s H scope (compEnvC scope cl C X.env) fp) tg g) (ht : ∀ (s : Shared) (H : Hp) (C : Addr) (cl : List (Str × Addr)) (fp : List Addr), PTs (X.blk s H scope (compEnvC scope cl C X.env) fp) ifs tt)
    (hk : ∀ (s : Shared) (H : Hp) (C : Addr) (cl : List (Str × Addr)) (fp : List Addr), PE (X.blk s H scope (compEnvC scope cl C X.env) fp) kx tk)
    (he : ∀ (s : Shared) (H : Hp) (C : Addr) (cl : List (Str × Addr)) (fp : List Addr), PE (X.blk s H scope (compEnvC scope cl C X.env) fp) vx tv) (hs : ∀ x, foldedSetIterable iter X.env x = pure x := by intro _; rfl) :
    PE X (.DictComp kx vx [⟨tg, iter, ifs, 0⟩] scope pos) (tDcN X.prog X.w X.K wi g tt tk tv (own.map (·.2))) := by
  refine ⟨fun pins s σ H Q I h => ?_⟩
  rw [arm_eval_DictComp]
  refine dcN_core hc hN I hi ok hg ht hk he hs hu h fun D C s' m H' I' q hn f => ⟨m, hn, fun h'' sb => ?_⟩
  obtain ⟨f0, f1, f2, f3, f4, f5⟩ := f
  exact ⟨.ref D, H', I'.turned (t' := s'.toks) (fun b o hb e => (sb.2 b hb).trans e) f0 f1 f3 f4 f5, rfl, q⟩
theorem ps_setDcN {i : Nat} {y : Str} {py : Pos} {kx vx tg iter : Expr} {ifs : List Expr} {scope : Scope} {own : List (Str × Nat)} {pos spos : Pos} {wi : TI} {g : TG} {tt : TT} {tk tv : TE} (hu : X.A.units + 8 < cLine) (hc : X.calm = true) (hN : X.N.Nodup) (hy : X.N[i]? = some y) (hyl : X.env.scope.names.lookup y = some .local)
    (hsw : swapsWith (.DictComp kx vx [⟨tg, iter, ifs, 0⟩] scope pos) (some (.Name y py)) spos.line X.env = pure true) (hi : PI X tg iter wi) (ok : BlkOk X.N X.env.scope scope own)
    (hg : ∀ (s : Shared) (H : Hp) (C : Addr) (cl : List (Str × Addr)) (fp : List Addr), PG (X.blk s H scope (compEnvC scope cl C X.env) fp) tg g) (ht : ∀ (s : Shared) (H : Hp) (C : Addr) (cl : List (Str × Addr)) (fp : List Addr), PTs (X.blk s H scope (compEnvC scope cl C X.env) fp) ifs tt)
    (hk : ∀ (s : Shared) (H : Hp) (C : Addr) (cl : List (Str × Addr)) (fp : List Addr), PE (X.blk s H scope (compEnvC scope cl C X.env) fp) kx tk)
    (he : ∀ (s : Shared) (H : Hp) (C : Addr) (cl : List (Str × Addr)) (fp : List Addr), PE (X.blk s H scope (compEnvC scope cl C X.env) fp) vx tv) (hs : ∀ x, foldedSetIterable iter X.env x = pure x := by intro _; rfl) :
    PS X (.Assign [.Name y py] (.DictComp kx vx [⟨tg, iter, ifs, 0⟩] scope pos) spos) (tAsg (tDcN X.prog X.w X.K wi g tt tk tv (own.map (·.2))) (gName i)) := by
  refine ⟨fun pins s σ H D I h => ?_⟩
  rw [exec_Assign_Name_used _ _ _ _ hsw]
  refine wpAny_bind (wpAny_standAt (wpAny_bind ?_))
  show wpAny _ X.A (do let _ ← comprehension (.DictComp kx vx [⟨tg, iter, ifs, 0⟩] scope pos) scope X.env (firstIterPos [⟨tg, iter, ifs, 0⟩] pos) newDict false (eval iter X.env) (some (assign (.Name y py) X.env))) _ _ s
  have h : tDcN X.prog X.w X.K wi g tt tk tv (own.map (·.2)) σ H (fun x H1 => gName i x σ H1 D.nx) := h
  refine wpAny_bind (thn (dcN_core (Qf := fun _ s' => SP X pins D .next s') hc hN I hi ok hg ht hk he hs hu h fun L C s' m H' I' q hn f => ?_) fun _ s' hq => wpAny_pure (wpAny_pure hq))
  show wpAny _ _ (assign (.Name y py) X.env (.ref L)) _ _ _
  obtain ⟨f0, f1, f2, f3, f4, f5⟩ := f
  refine wpAny_assign_Name (store_ok2 (v := V.ref L) I' hN hy (.inl hyl) rfl (fun s2 I2 ⟨a, sb, ha⟩ => ?_) (.inr hyl))
  have haC : C ≠ a := ha.elim (fun z => by rw [z]; exact f1) fun z e => f4 y a z e.symm
  exact ⟨m, hn.sameBut sb haC, fun h3 sb3 => ⟨_, H', I2.turned (t' := s2.toks) (fun b o hb e => (sb3.2 b hb).trans e) f0 f1 f3 f4 f5, q⟩⟩
theorem sw_trueD {kx vx : Expr} {gs : List Comprehension} {scope : Scope} {pos py : Pos} {y : Str} {l : Nat} {env : Env} (hk : env.scope.kind = .function) (hy : env.scope.names.lookup y = some .local) (hl : (py.line == pos.line) = true)
    (ha : (scope.names.any fun (n, k) => n == y && (k == .local || k == .cell)) = false) : swapsWith (.DictComp kx vx gs scope pos) (some (.Name y py)) l env = pure true := by
  have ky : env.kindOf y = some .local := hy
  have hb : env.blockKind = .function := by unfold Env.blockKind; rw [hk]; rfl
  unfold swapsWith
  simp only [hb, ky, ha, Expr.pos, hl]
  rfl
end

def cDcGo (P : Program) (w : World) (ok : HD → Prop) (tg : TgS) (tt : CT) (tk tv : CE) (ρ : En) (D : Addr) (Q : DK) : List PD.D → HD → Prop
  | [], h => ok h ∧ Q (.ref D) h
  | x :: xs, h => ok h ∧ tg.bind ρ x fun ρ1 => tt ρ1 h fun b h1 => if b = true then tk ρ1 h1 fun y h2 => tv ρ1 h2 fun z h3 => ∃ kvs, isDN P w h3 D kvs ∧ kyT y = true ∧ (nk y).depth ≤ 8 ∧ kvs.length < sizeLine ∧ cDcGo P w ok tg tt tk tv ρ D Q xs (updD h3 D (.dN P w (putK' kvs y z))) else cDcGo P w ok tg tt tk tv ρ D Q xs h1
/-- {tk: tv for tg in t if tt} -/
def cDc (P : Program) (w : World) (t : CI) (tg : TgS) (tt : CT) (tk tv : CE) (vs : List Nat) : CE := fun ρ h Q => t ρ h fun S h1 => ∀ D, h1 D = none → cDcGo P w S.ok tg tt tk tv (wipeD ρ vs) D Q S.items (updD h1 D (.dN P w []))
theorem low_dcN {P : Program} {w : World} {K : PySem.W.Frag} {B : Bs} {t : CI} {tg : TgS} {tt : CT} {tk tv : CE} {vs : List Nat} {σ : L2.St} {H : Hp} {Q : VK} (sub : ∀ i ∈ tg.slots, i ∈ vs) (z : lowE K B (cDc P w t tg tt tk tv vs) σ H Q) :
    tDcN P w K (lowI K B t) (tg.g K) (lowT K B tt) (lowE K B tk) (lowE K B tv) vs σ H Q := by
  obtain ⟨ρ, h, Q', sl, rh, ht, k⟩ := z
  refine ⟨ρ, h, _, sl, rh, ht, fun S J H1 h1 isok s1 q1 L o0 nL => ?_⟩
  have sL : Stp K H1 h1 (upd H1 L (dictO P w L o0 [])) (updD h1 L (.dN P w [])) := .new s1.rh nL ⟨o0, [], upd_same, rfl⟩
  refine ⟨fun i m H2 => ∃ h2, Stp K H1 h1 H2 h2 ∧ i + m = S.items.length ∧ cDcGo P w S.ok tg tt tk tv (wipeD ρ vs) L Q' (S.items.drop i) h2,
    ⟨S.items.length, _, sL, Nat.zero_add _, q1 L (s1.rh.none nL)⟩, ?_⟩
  rintro i m H2 ⟨h2, s2, e, q2⟩
  cases m with
  | zero =>
    have e' : S.items.length = i := by omega
    rw [List.drop_eq_nil_of_le (by omega)] at q2
    exact .inl ⟨(isok i H2 h2 s2.ts s2.rh q2.1).1 e', k _ (.ref L) H2 _ rfl (s1.trans s2) q2.2⟩
  | succ m =>
    have lt : i < S.items.length := by omega
    rw [List.drop_eq_getElem_cons lt] at q2
    have isk := (isok i H2 h2 s2.ts s2.rh q2.1).2 S.items[i] (List.getElem?_eq_getElem lt)
    refine .inr ⟨isk.1, fun H3 => ∃ h3, Stp K H1 h1 H3 h3 ∧ cDcGo P w S.ok tg tt tk tv (wipeD ρ vs) L Q' (S.items.drop (i + 1)) h3, fun H3 ⟨h3, a, b⟩ => ⟨m, Nat.lt_succ_self _, h3, a, by omega, b⟩, fun x H3 y => ?_⟩
    obtain ⟨rx, s3⟩ := isk.2 x H3 y
    have sl3 : Sl K (wipe σ vs) H3 (wipeD ρ vs) := (sl.wipe vs).mono ((s1.ts.trans s2.ts).trans s3.ts)
    have s13 := s2.trans s3
    refine tg.run sl3 rx q2.2 sub fun σ' ρ' we sl' b => ⟨by rw [we, wipe_wipe], ?_⟩
    refine ⟨ρ', h2, _, sl', (rh.trans s1).trans s13, b, fun kb H4 h4 s4 q4 => ?_⟩
    have s14 := s13.trans s4
    cases kb with
    | false => simp only [Bool.false_eq_true, if_false] at q4 ⊢; exact ⟨h4, s14, q4⟩
    | true =>
      simp only [if_true] at q4 ⊢
      refine ⟨ρ', h4, _, sl'.mono s4.ts, (rh.trans s1).trans s14, q4, fun v d H5 h5 rv s5 q5 => ?_⟩
      refine ⟨ρ', h5, _, sl'.mono (s4.ts.trans s5.ts), (rh.trans s1).trans (s14.trans s5), q5, fun v2 d2 H6 h6 rv2 s6 q6 => ?_⟩
      obtain ⟨kvs, e6, ky, kz, hz, q6⟩ := q6
      exact ⟨h6, kvs, d, d2, s6.rh, e6, hz, rv.mono s6.ts, ky, kz, rv2, fun H7 s7 => ⟨_, ((s14.trans s5).trans s6).trans s7, q6⟩⟩
section
variable {X : Cx} {B : Bs}
theorem qe_dc {kx vx tgE iter : Expr} {ifs : List Expr} {scope : Scope} {own : List (Str × Nat)} {pos : Pos} {t : CI} {tg : TgS} {tt : CT} {tk tv : CE} (hu : X.A.units + 8 < cLine) (hc : X.calm = true) (hN : X.N.Nodup) (hi : QI X B tgE iter t) (ok : BlkOk X.N X.env.scope scope own) (sub : ∀ i ∈ tg.slots, i ∈ own.map (·.2))
    (hg : ∀ (s : Shared) (H : Hp) (C : Addr) (cl : List (Str × Addr)) (fp : List Addr), PG (X.blk s H scope (compEnvC scope cl C X.env) fp) tgE (tg.g X.K))
    (ht : ∀ (s : Shared) (H : Hp) (C : Addr) (cl : List (Str × Addr)) (fp : List Addr), QTs (X.blk s H scope (compEnvC scope cl C X.env) fp) B ifs tt)
    (hk : ∀ (s : Shared) (H : Hp) (C : Addr) (cl : List (Str × Addr)) (fp : List Addr), QE (X.blk s H scope (compEnvC scope cl C X.env) fp) B kx tk)
    (he : ∀ (s : Shared) (H : Hp) (C : Addr) (cl : List (Str × Addr)) (fp : List Addr), QE (X.blk s H scope (compEnvC scope cl C X.env) fp) B vx tv) (hs : ∀ x, foldedSetIterable iter X.env x = pure x := by intro _; rfl) :
    QE X B (.DictComp kx vx [⟨tgE, iter, ifs, 0⟩] scope pos) (cDc X.prog X.w t tg tt tk tv (own.map (·.2))) :=
  PE.imp (pe_dcN (tt := lowT X.K B tt) (tk := lowE X.K B tk) (tv := lowE X.K B tv) hu hc hN hi ok hg ht hk he hs) fun σ H Q w => low_dcN sub w
theorem qs_setDc {i : Nat} {y : Str} {py : Pos} {kx vx tgE iter : Expr} {ifs : List Expr} {scope : Scope} {own : List (Str × Nat)} {pos spos : Pos} {t : CI} {tg : TgS} {tt : CT} {tk tv : CE} (hu : X.A.units + 8 < cLine) (hc : X.calm = true) (hN : X.N.Nodup) (hy : X.N[i]? = some y) (hyl : X.env.scope.names.lookup y = some .local)
    (hsw : swapsWith (.DictComp kx vx [⟨tgE, iter, ifs, 0⟩] scope pos) (some (.Name y py)) spos.line X.env = pure true) (hi : QI X B tgE iter t) (ok : BlkOk X.N X.env.scope scope own) (sub : ∀ i ∈ tg.slots, i ∈ own.map (·.2))
    (hg : ∀ (s : Shared) (H : Hp) (C : Addr) (cl : List (Str × Addr)) (fp : List Addr), PG (X.blk s H scope (compEnvC scope cl C X.env) fp) tgE (tg.g X.K))
    (ht : ∀ (s : Shared) (H : Hp) (C : Addr) (cl : List (Str × Addr)) (fp : List Addr), QTs (X.blk s H scope (compEnvC scope cl C X.env) fp) B ifs tt)
    (hk : ∀ (s : Shared) (H : Hp) (C : Addr) (cl : List (Str × Addr)) (fp : List Addr), QE (X.blk s H scope (compEnvC scope cl C X.env) fp) B kx tk)
    (he : ∀ (s : Shared) (H : Hp) (C : Addr) (cl : List (Str × Addr)) (fp : List Addr), QE (X.blk s H scope (compEnvC scope cl C X.env) fp) B vx tv) (hs : ∀ x, foldedSetIterable iter X.env x = pure x := by intro _; rfl) :
    QS X B (.Assign [.Name y py] (.DictComp kx vx [⟨tgE, iter, ifs, 0⟩] scope pos) spos) (fun Z ρ h => cDc X.prog X.w t tg tt tk tv (own.map (·.2)) ρ h fun d h1 => Z.nx (ρ.set i (some d)) h1) :=
  PS.imp (ps_setDcN (tt := lowT X.K B tt) (tk := lowE X.K B tk) (tv := lowE X.K B tv) hu hc hN hy hyl hsw hi ok hg ht hk he hs) fun E σ H w => by
    obtain ⟨ρ, h, D', sl, rh, hw, lk⟩ := w
    exact low_dcN (K := X.K) sub ⟨ρ, h, _, sl, rh, hw, fun v d H' h' rv st q => lk.nx _ _ H' h' ((sl.mono st.ts).set rv) st q⟩
end
end PD

-- PdI
set_option Elab.async false
set_option linter.all false
set_option maxRecDepth 100000
set_option maxHeartbeats 4000000
/-! PdI: raise, try, what is asked of a caught error, by data. -/
namespace PD
open PySem PySem.Spec PyProof.Rows L2

theorem XR.step {K : PySem.W.Frag} {H H' : Hp} {h h' : HD} {d : Option Addr} {fs : Option (List (Str × D))} (x : XR K H h d fs) (s : Stp K H h H' h') : XR K H' h' d fs := by
  cases fs with
  | none => exact x
  | some l =>
    obtain ⟨a, vs, e, n, ea, r⟩ := x
    refine ⟨a, vs, e, ?_, s.hd a _ ea n rfl, r.mono s.ts⟩
    cases z : h' a with
    | none => rfl
    | some o =>
      rcases s.nf a (by rw [z]; simp) with q | q
      · exact absurd n q
      · rw [ea] at q; cases q

abbrev CM := En → HD → XD → Prop
def lowM (K : PySem.W.Frag) (B : Bs) (t : CM) : L2.St → Hp → XK → Prop := fun σ H Q => ∃ ρ h E, Sl K σ H ρ ∧ RB K B H h ∧ t ρ h E ∧ ∀ cls d H' h' fs, Stp K H h H' h' → XR K H' h' d fs → E cls fs h' → Q cls d H'
def QM (X : Cx) (B : Bs) (e : Expr) (t : CM) : Prop := PMk X e (lowM X.K B t)
theorem PMk.imp {X : Cx} {e : Expr} {t t' : L2.St → Hp → XK → Prop} (p : PMk X e t') (k : ∀ σ H Q, t σ H Q → t' σ H Q) : PMk X e t := fun pins s σ H Q I h => p pins s σ H Q I (k σ H Q h)
section
variable {X : Cx} {B : Bs} {pos : Pos} {e : Expr}
/-- raise e -/
theorem qs_raise {W : En → XD} {t : CM} (hc : X.calm = true) (tk : TkD X B W) (he : QM X B e t) : QS X B (.Raise (some e) none pos) (fun _ ρ h => t ρ h (W ρ)) := PS.imp (ps_raise hc tk he) fun E σ H w => by
  obtain ⟨ρ, h, D', sl, rb, ht, lk⟩ := w
  exact ⟨ρ, h, W ρ, sl, rb, ht, fun cls d H' h' fs st xr q => ⟨ρ, h', fs, sl.mono st.ts, rb.trans st, xr, q⟩⟩
/-- C() -/
def cMk0 (C : Addr) : CM := fun _ h E => E (.ref C) none h
theorem qm_own0 {C : Addr} {bmB : List Value} {Bn newId initId : String} {x : Str} {p : Pos} (F : ExcBaseFacts Bn newId initId bmB) (q : PySem.W.excIn X.K C bmB newId = true) (gC : X.mg x = some (.ref C))
    (kC : PySem.W.keepIn X.K (.ref C) = true) (r : Raises X (.ref C)) (hg : Gl X x) (hdb : (x == ("__debug__" : Str)) = false := by decide) : QM X B (.Call (.Name x p) [] [] pos) (cMk0 C) := by
  intro pins s σ H Q I w
  obtain ⟨ρ, h, E, sl, rb, ht, k⟩ := w
  refine wpAny_Call_Name_kw (ld_glob I hg gC ?_ hdb)
  refine PySem.W.callWith_K0 I.kIn kC ?_
  show wpAny _ _ (call (.ref C) []) _ _ _
  obtain ⟨bm, N, nm, qn, bs, hdct, sn, sub, ab, col, dd, k0, k1, k2, k3, k5, mN, hC, hN, hni, T⟩ := exc_obj I.kIn q
  refine wpAny_call_exc_subT F T hC hN hni (fun h' e hm => ?_) (Nat.zero_le _)
  exact mk_of I hm r (k (.ref C) none H h none (.refl rb.rh) rfl ht) (I.hok.gone hm.new)

/-- C(e), its __init__(self, f) says self.f = f -/
def spI (K : PySem.W.Frag) (f : Str) : Sp := fun vs H Q _ => ∃ (a : Addr) (y : V) (C : Addr), vs = [.ref a, y] ∧ OexC K C ∧ PySem.W.findIn K (.ref C) f = some none ∧ H a = some (exo a C none) ∧ ∀ dx, H dx = none → dx ≠ a → Q .non (upd (upd H dx (exd dx [(f, y)])) a (exo a C (some dx)))
theorem fn_init {P : Program} {w : World} {K : PySem.W.Frag} {mg : Str → Option Value} {base : Heap} {x qual f pn : Str} {st : Stmt} {fa : Addr} {fd : FuncData} {N : List Str} {p1 p2 p3 : Pos} (F : Fun K x qual st fa fd) (S : FnScope N [("self" : Str), pn] (defScope st)) (hN : N = [("self" : Str), pn])
    (hb : defBody st = [.Assign [.Attribute (.Name "self" p1) f p2] (.Name pn p3) pos]) (v0 : Vis (defScope st) "self") (v1 : Vis (defScope st) pn) (d1 : (pn == ("__debug__" : Str)) = false) (c1 : (pn == ("__classdict__" : Str)) = false) :
    FnOk P w K mg base CX0 1 fa fd [("self" : Str), pn] (spI K f) := by
  refine F.ok (sp := spI K f) S (fun vs H Q E ⟨a, y, C, e, _⟩ => by rw [e]; rfl) fun cdv A outer s H vs Q E hr ⟨a, y, C, e, T, hno, ea, q⟩ => ?_
  subst e hN
  rw [hb]
  refine ⟨_, pss_one (ps_ost (f := f) (pe_var (i := 0) rfl v0) (pe_var (i := 1) rfl v1 d1 c1)), ?_⟩
  exact ⟨y, rfl, .ref a, rfl, a, C, rfl, T, hno, .inl ⟨ea, fun dx n ne => q dx n ne⟩⟩
theorem qm_init {x : Str} {C fI : Addr} {k : Nat} {fd : FuncData} {f pn : Str} {p : Pos} {te : CE} (T : OexC X.K C) (hno : PySem.W.findIn X.K (.ref C) f = some none) (iC : PySem.W.findIn X.K (.ref C) "__init__" = some (some (.ref fI))) (tI : PySem.W.typeIn X.K (.ref fI) = some (.type "function"))
    (F1 : FnOk X.prog X.w X.K X.mg X.base CX0 k fI fd [("self" : Str), pn] (spI X.K f)) (hr : Room (k + 1) X.A) (hb : Binds X.K fd [("self" : Str), pn] []) (hg : Gl X x) (hm : X.mg x = some (.ref C)) (ha : QE X B e te)
    (hdb : (x == ("__debug__" : Str)) = false := by decide) (he : starEach [e] X.env = (false, eval e X.env) :: starEach [] X.env := by rfl) (hpl : (backTo pos (starEach [] X.env)).any (·.1) = false := by rfl) :
    QM X B (.Call (.Name x p) [e] [] pos) (fun ρ h E => te ρ h fun y h1 => E (.ref C) (some [(f, y)]) h1) := by
  refine PMk.imp (pmk_oex (dvs := []) (ds := []) T iC tI F1 hr hb .nil (fun _ _ _ _ _ _ _ z => False.elim z) hg hm (pa_cons ha pa_nil he) hdb he hpl) fun σ H Q w => ?_
  obtain ⟨ρ, h, E, sl, rb, ht, kq⟩ := w
  refine ⟨ρ, h, _, sl, rb, ht, fun v d H1 h1 rv s1 q1 => ?_⟩
  refine ⟨by simp, fun a na => ?_⟩
  refine ⟨a, v, C, rfl, T, hno, upd_same, fun dx nx ne => ⟨rfl, dx, [(f, v)], upd_same, ?_, ?_, ?_⟩⟩
  · rw [upd_ne ne, upd_same]
  · rw [upd_ne ne] at nx; exact nx
  · have nx1 : H1 dx = none := by rw [upd_ne ne] at nx; exact nx
    have ee : upd (L2.del (upd (upd (upd H1 a (exo a C none)) dx (exd dx [(f, v)])) a (exo a C (some dx))) a) dx (.xd [(f, v)]) = upd H1 dx (.xd [(f, v)]) := by
      funext b
      by_cases z : b = dx
      · rw [z, upd_same, upd_same]
      · rw [upd_ne z, upd_ne z]
        by_cases y : b = a
        · rw [y, L2.del_same, na]
        · rw [L2.del_ne y, upd_ne y, upd_ne z, upd_ne y]
    rw [ee]
    have st : Stp X.K H1 h1 (upd H1 dx (.xd [(f, v)])) h1 := .hid s1.rh nx1 (s1.rh.none nx1)
    exact kq _ _ _ h1 (some [(f, d)]) (s1.trans st) ⟨dx, [(f, v)], rfl, s1.rh.none nx1, upd_same, v, [], rfl, rv.mono st.ts, rfl⟩ q1
end
/-! ### try -/
theorem LkE.trans0 {K : PySem.W.Frag} {H H1 : Hp} {h h1 : HD} {D' : DE} {E : Ends} (l : LkE K H h D' E) (s : Stp K H h H1 h1) : LkE K H1 h1 D' E := l.step s
def unsetE (i : Nat) (Z : DE) : DE := { nx := fun ρ h => Z.nx (ρ.set i none) h, rt := Z.rt, bk := fun ρ h => Z.bk (ρ.set i none) h, ct := fun ρ h => Z.ct (ρ.set i none) h }
theorem Sl.unset {K : PySem.W.Frag} {σ : L2.St} {H : Hp} {ρ : En} (s : Sl K σ H ρ) (i : Nat) : Sl K (σ.set i none) H (ρ.set i none) := by
  refine ⟨by rw [List.length_set, List.length_set]; exact s.1, fun j e q => ?_⟩
  by_cases hj : i = j
  · subst hj
    by_cases hl : i < ρ.length
    · rw [List.getElem?_set_self hl] at q
      cases q
    · rw [List.getElem?_eq_none (by rw [List.length_set]; omega)] at q
      cases q
  · rw [List.getElem?_set_ne hj] at q
    obtain ⟨u, e1, r1⟩ := s.2 j e q
    exact ⟨u, by rw [List.getElem?_set_ne hj]; exact e1, r1⟩
/-- what 'except c as n' wishes: slot i is n's -/
def wAsD (K : PySem.W.Frag) (c : Value) (i : Nat) (ts : Addr → Value → Option (List (Str × D)) → CS) (Wo : En → XD) (Z : DE) : En → XD := fun ρ cls fs h =>
  ∃ b, PySem.W.exmOne K cls c = some b ∧ (b = true → ∀ a, h a = none → ts a cls fs (unsetE i Z) (ρ.set i (some (.ref a))) h) ∧ (b = false → Wo ρ cls fs h)
def cTryAs (K : PySem.W.Frag) (c : Value) (i : Nat) (tb : (En → XD) → CS) (ts : Addr → Value → Option (List (Str × D)) → CS) (Wo : En → XD) : CS := fun Z ρ h => tb (wAsD K c i ts Wo Z) Z ρ h
section
variable {X : Cx} {B : Bs} {x n : Str} {c : Value} {i : Nat} {body suite : List Stmt} {b₀ : Stmt} {np pos pos' : Pos} {tb : (En → XD) → CS} {ts : Addr → Value → Option (List (Str × D)) → CS} {Wo : En → XD}
theorem qs_try_as (hs : X.stack = X.env :: X.outer) (hf : X.env.frame = some X.env.locals) (hN : X.N.Nodup) (hi : X.N[i]? = some n) (hln : X.env.kindOf n = some .local) (hc : Names X x c) (tk : TkD X B Wo)
    (hb : ∀ (W : En → XD) (B' : Bs) (pn : List (Addr × Obj)) (xe : Value → Shared → Prop), TkD (X.tr pn xe) B' W → PassesOwn (model X.prog X.w) X.A X.env xe → QSs (X.tr pn xe) B' body (tb W))
    (hsu : ∀ (B' : Bs) (a : Addr) (oe : Obj) (cls : Value) (d : Option Addr) (fs : Option (List (Str × D))) (pn : List (Addr × Obj)), XR X.K B'.1 B'.2 d fs → Zc cls d oe → (∃ vs, oe.data = .fields vs) → QSs (X.suite a ((a, oe) :: pn)) B' (b₀ :: suite) (ts a cls fs)) :
    QS X B (.Try body [.ExceptHandler (some (.Name x np)) (some n) (b₀ :: suite) pos'] [] [] pos) (cTryAs X.K c i tb ts Wo) := by
  refine PS.imp (ps_try_as (tb := fun W E σ H => ∃ (Wd : En → XD) (B' : Bs), (∀ cls d σ H, (∃ ρ h fs, Sl X.K σ H ρ ∧ RB X.K B' H h ∧ XR X.K H h d fs ∧ Wd ρ cls fs h) → W cls d σ H) ∧ lowS X.K B' (tb Wd) E σ H)
    (ts := fun a cls d E σ H => ∃ (B' : Bs) (fs : Option (List (Str × D))), XR X.K B'.1 B'.2 d fs ∧ lowS X.K B' (ts a cls fs) E σ H) hs hf hN hi hln hc tk ?_ ?_) ?_
  · intro W pn xe tkW po
    refine ⟨fun pins s σ H E I ⟨Wd, B', kw, w⟩ => ?_⟩
    exact (hb Wd B' pn xe (Takes.imp tkW kw) po).run pins s σ H E I w
  · intro a oe cls d pn hz hv
    refine ⟨fun pins s σ H E I ⟨B', fs, xr, w⟩ => ?_⟩
    exact (hsu B' a oe cls d fs pn xr hz hv).run pins s σ H E I w
  · rintro E σ H ⟨ρ, h, D', sl, rb, ht, lk⟩
    refine ⟨wAsD X.K c i ts Wo D', (H, h), ?_, ρ, h, D', sl, .refl rb.rh, ht, lk⟩
    rintro cls d σ1 H1 ⟨ρ1, h1, fs, sl1, st, xr, b, hb1, hy, hno⟩
    have st' : Stp X.K H h H1 h1 := st
    refine ⟨b, hb1, fun e a na => ?_, fun e => ?_⟩
    · refine ⟨(H1, h1), fs, xr, ρ1.set i (some (.ref a)), h1, unsetE i D', sl1.set rfl, .refl st'.rh, hy e a (st'.rh.none na), ?_⟩
      exact ⟨fun σ' ρ' H' h' a b c => lk.nx _ _ H' h' (a.unset i) (st'.trans b) c, fun v d H' h' a b c => lk.rt v d H' h' a (st'.trans b) c, fun σ' ρ' H' h' a b c => lk.bk _ _ H' h' (a.unset i) (st'.trans b) c, fun σ' ρ' H' h' a b c => lk.ct _ _ H' h' (a.unset i) (st'.trans b) c⟩
    · exact ⟨ρ1, h1, fs, sl1, rb.trans st', xr, hno e⟩
/-- e.f, e the caught one -/
def cXf (a : Addr) (cls : Value) (fs : Option (List (Str × D))) (C : Addr) (f : Str) (te : CE) : CE := fun ρ h Q => te ρ h fun x h1 => x = .ref a ∧ cls = .ref C ∧ ∃ l v, fs = some l ∧ l.lookup f = some v ∧ Q v h1
theorem qe_xf {a C : Addr} {oe : Obj} {cls : Value} {d : Option Addr} {fs : Option (List (Str × D))} {pn : List (Addr × Obj)} {e : Expr} {te : CE} {f : Str} (T : XfC X.K C) (hno : PySem.W.findIn X.K (.ref C) f = some none) (xr : XR X.K B.1 B.2 d fs)
    (hz : Zc cls d oe) (hf : ∃ vs, oe.data = .fields vs) (he : QE (X.suite a ((a, oe) :: pn)) B e te) (hb : attributeBase e f X.env (eval e X.env) = eval e X.env := by rfl) :
    QE (X.suite a ((a, oe) :: pn)) B (.Attribute e f pos) (cXf a cls fs C f te) := PE.imp (pe_xf T hno hz hf he hb) fun σ H Q w => by
  obtain ⟨ρ, h, Q', sl, rb, ht, kq⟩ := w
  refine ⟨ρ, h, _, sl, rb, ht, fun v d1 H1 h1 rv s1 q1 => ?_⟩
  obtain ⟨rfl, rfl, l, dv, rfl, el, q⟩ := q1
  have rb1 : Stp X.K B.1 B.2 H1 h1 := Stp.trans rb s1
  obtain ⟨dd, vs, ed, n, ea, r⟩ := XR.step xr rb1
  obtain ⟨w0, l', rw0⟩ := rps_lookup r el
  exact ⟨rv, rfl, dd, vs, w0, ed, ea, l', kq w0 dv H1 h1 rw0 s1 q⟩
/-- isinstance(e, c), e the caught one, of the class at C -/
structure ExcI (K : PySem.W.Frag) (C : Addr) : Prop where
  hcl : (PySem.W.clsIn K C).isSome = true
  hga : PySem.W.findIn K (.ref C) "__getattribute__" = some (some (.builtin "BaseException.__getattribute__"))
  hgt : PySem.W.findIn K (.ref C) "__getattr__" = some none
  hsub : PySem.W.subIn K (.ref C) (.type "BaseException") = some true
  ha : PySem.W.findIn K (.ref C) "__class__" = some (some (.builtin "object.__class__"))
  hn : PySem.W.specialIn K (.builtin "object.__class__") "__get__" = some (some (.builtin "getset_descriptor.__get__"))
  htk : PySem.W.takesIn K (.builtin "object.__class__") = some true
  hm : PySem.W.mroIn K C (.type "object") = some true
def cIsE (K : PySem.W.Frag) (a : Addr) (cls : Value) : CL := fun ds h Q => ∃ C c b, cls = .ref C ∧ ExcI K C ∧ ds = [.ref a, .ref c] ∧ PySem.W.kitOne K (.ref C) (.ref c) = some b ∧ Q (.bl b) h
theorem cd_isE {a : Addr} {oe : Obj} {cls : Value} {d : Option Addr} {fs : Option (List (Str × D))} {pn : List (Addr × Obj)} (xr : XR X.K B.1 B.2 d fs) (hz : Zc cls d oe) (hf : ∃ vs, oe.data = .fields vs) :
    CallR (X.suite a ((a, oe) :: pn)) (.builtin "isinstance") (fun xs H Q => ∃ ds h Q', RDs X.K H xs ds ∧ Stp X.K B.1 B.2 H h ∧ cIsE X.K a cls ds h Q' ∧ ∀ v d H' h', RD X.K H' v d → Stp X.K H h H' h' → Q' d h' → Q v H') := by
  intro pins s σ H xs us Q I r w
  obtain ⟨ds, h, Q', rx, rb, ⟨C, c, b, rfl, T, rfl, ek, q⟩, kq⟩ := w
  obtain ⟨v1, v2, rfl, q1, q2⟩ := rx.two
  cases (show v1 = V.ref a from q1); cases (show v2 = V.ref c from q2)
  cases r with
  | cons r1 rr =>
    cases rr with
    | cons r2 rr =>
      cases rr
      obtain rfl : _ = Value.ref a := r1
      obtain rfl : _ = Value.ref c := r2
      obtain ⟨hget, _⟩ := I.pin (a, oe) (List.mem_append.mpr (.inl List.mem_cons_self))
      obtain ⟨vs, hv⟩ := hf
      have fin : ∀ tk, EP (X.suite a ((a, oe) :: pn)) pins σ Q (.bool b) { s with toks := tk } := fun tk => ⟨.bl b, H, I.kept (t' := tk) fun _ _ z => z, rfl, kq _ (.bl b) H h rfl (.refl rb.rh) q⟩
      have J : ∃ od, PySem.W.InstAt s.heap a oe C od := by
        cases fs with
        | none =>
          cases (show d = none from xr)
          exact ⟨none, hget, hz.1, by unfold PySem.W.notCls; rw [hv] <;> rfl, by rw [hz.2]; trivial⟩
        | some l =>
          obtain ⟨dd, ws, rfl, n, ea, _⟩ := XR.step xr rb
          obtain ⟨mA, ⟨od, es, ep, ho, _⟩, _⟩ := (show ObjOk X.prog X.w H s.heap dd (.xd ws) from I.hok dd _ ea)
          exact ⟨some od, hget, hz.1, by unfold PySem.W.notCls; rw [hv] <;> rfl, by rw [hz.2]; exact ho⟩
      obtain ⟨od, J⟩ := J
      exact PySem.W.kia_one (PySem.W.kitx_exc T.hcl T.hga T.hgt T.hsub T.ha T.hn T.htk T.hm) I.kIn J ek (fun z => nomatch z) fin
end
end PD

-- PdJ
set_option Elab.async false
set_option linter.all false
set_option maxRecDepth 100000
set_option maxHeartbeats 4000000
/-! PdJ: methods of lists, repr, own ==, by data. -/
namespace PD
open PySem PySem.Spec PyProof.Rows L2
section
variable {X : Cx} {B : Bs}
abbrev CMt := D → List D → HD → DK → Prop
def lowMt (K : PySem.W.Frag) (r : CMt) : V → List V → Hp → VK → Prop := fun x xs H Q => ∃ dx ds h Q', RD K H x dx ∧ RDs K H xs ds ∧ RH K H h ∧ r dx ds h Q' ∧ ∀ v d H' h', RD K H' v d → Stp K H h H' h' → Q' d h' → Q v H'
abbrev MtD (X : Cx) (id : String) (r : CMt) : Prop := MtR X id (lowMt X.K r)
/-- l.m(..), l a list -/
def cLm (to : CE) (t : CA) (r : CMt) : CE := fun ρ h Q => to ρ h fun x h1 => (∃ a ds, x = .ref a ∧ h1 a = some (.lst ds)) ∧ t ρ h1 fun xs h2 => r x xs h2 Q
theorem qe_lm {o e : Expr} {es : List Expr} {to : CE} {t : CA} {name : Str} {apos cpos : Pos} {id : String} {r : CMt} (slot : Slot "list" name id) (hty : typeOf (.builtin id) = pure (.type "method_descriptor")) (hm : MtD X id r) (ho : QE X B o to) (ha : QA X B (e :: es) t)
    (hbase : attributeBase o name X.env (eval o X.env) = eval o X.env := by rfl)
    (hfew : ((backTo cpos (starEach (e :: es) X.env)).all (fun x => !x.1) && (backToKw cpos (keywordEach [] X.env)).all (fun x => x.1.isSome)
      && decide ((e :: es).length + ([] : List Keyword).length + (if ([] : List Keyword).isEmpty then 0 else 1) < 30)) = true := by rfl)
    (hline : (apos.endLine == cpos.line) = true := by rfl) (hs : starEach (e :: es) X.env = (false, eval e X.env) :: starEach es X.env := by rfl) (hplain : (backTo cpos (starEach es X.env)).any (·.1) = false := by rfl) :
    QE X B (.Call (.Attribute o name apos) (e :: es) [] cpos) (cLm to t r) :=
  PE.imp (pe_bm (T := "list") PySem.F.plainAttrs_list slot hty hm ho ha hbase hfew hline hs hplain) fun σ H Q w => by
    obtain ⟨ρ, h, Q', sl, rb, ht, k⟩ := w
    refine ⟨ρ, h, _, sl, rb, ht, fun v d H1 h1 rv s1 q1 => ?_⟩
    obtain ⟨⟨a, ds, rfl, ea⟩, q1⟩ := q1
    cases (show v = V.ref a from rv)
    obtain ⟨vs, eh, ra⟩ := s1.rh a _ ea
    refine ⟨.inl ⟨rfl, vs, .of eh⟩, ρ, h1, _, sl.mono s1.ts, rb.trans s1, q1, fun us es H2 h2 rus s2 q2 => ?_⟩
    exact ⟨.ref a, es, h2, Q', rfl, rus, s2.rh, q2, fun v' d' H' h' r' s' q' => k v' d' H' h' r' ((s1.trans s2).trans s') q'⟩
def cApp : CMt := fun x xs h Q => match x, xs with
  | .ref a, [y] => ∃ ds, h a = some (.lst ds) ∧ ds.length < sizeLine ∧ Q .non (updD h a (.lst (ds ++ [y])))
  | _, _ => False
theorem md_append : MtD X "list.append" cApp := by
  intro pins s σ H x xs v us Q I rx rv w
  obtain ⟨dx, ds, h, Q', r1, r2, rh, hr, k⟩ := w
  match dx, ds, hr with
  | .ref a, [y], hr =>
    cases (show x = V.ref a from r1)
    obtain ⟨u, rfl, ru⟩ := r2.one
    obtain ⟨es, e, hz, q⟩ := hr
    obtain ⟨vs, ea, ra⟩ := rh a _ e
    have s1 := Stp.mut (o' := .lst (vs ++ [u])) rh ea rfl (by rw [e]; simp) (mut_lst ea (ra.append (ds := es) (es := [y]) (ws := [u]) ⟨u, [], rfl, ru, rfl⟩))
    exact mt_append pins s σ H _ _ v us Q I rx rv ⟨a, vs, u, rfl, rfl, ea, by rw [ra.length]; exact hz, k _ .non _ _ rfl s1 q⟩
mutual
theorem plain_toP : ∀ d : D, (toP d).plain = true
  | .non => rfl
  | .bl _ => rfl
  | .int _ => rfl
  | .str _ => rfl
  | .tup ds => by simp [toP, PyData.plain, plain_toPs ds]
  | .fl ds => by simp [toP, PyData.plain, plain_toPs ds]
  | .ref _ => rfl
  | .ty _ => rfl
theorem plain_toPs : ∀ ds : List D, PyData.plainAll (toPs ds) = true
  | [] => rfl
  | d :: ds => by simp [toPs, PyData.plainAll, plain_toP d, plain_toPs ds]
end
theorem toPs_map : ∀ ds : List D, toPs ds = ds.map toP
  | [] => rfl
  | d :: ds => by rw [toPs, List.map_cons, toPs_map ds]
/-- l.count(x) -/
def cCount : CMt := fun x xs h Q => match x, xs with
  | .ref a, [y] => ∃ ds, h a = some (.lst ds) ∧ rfs ds = true ∧ shp y ∧ Q (.int (ds.countP fun z => eqD z y : Nat)) h
  | _, _ => False
theorem md_count (hu : X.A.units + 65 < cLine) : MtD X "list.count" cCount := by
  intro pins s σ H x xs v us Q I rx rv w
  obtain ⟨dx, ds, h, Q', r1, r2, rh, hr, k⟩ := w
  match dx, ds, hr with
  | .ref a, [y], hr =>
    cases (show x = V.ref a from r1)
    obtain ⟨u, rfl, ru⟩ := r2.one
    obtain ⟨es, e, hf, sy, q⟩ := hr
    obtain ⟨vs, ea, ra⟩ := rh a _ e
    obtain ⟨its, rvv, pl, hz⟩ := I.list (.of ea)
    obtain ⟨uu, rfl, ruu⟩ := rv.one
    cases (show v = Value.ref a from rx)
    obtain ⟨as, h4⟩ := Dp.readsAll I _ _ its (RDs.dp ra hf) rvv
    obtain ⟨bs, h5⟩ := Dp.reads I _ u uu (RD.dp ru sy.1) ruu
    refine PySem.SeqAt.count_list_data pl.isList (by simpa using h4) h5 (plain_toPs es) (plain_toP y) (room_in_shaped sy.2 hu) ?_
    refine ⟨.int (es.countP fun z => eqD z y : Nat), H, I.tok _, ⟨s.toks, ?_⟩, k _ (.int (es.countP fun z => eqD z y : Nat)) H h rfl (.refl rh) q⟩
    rw [toPs_map, List.countP_map]
    rfl

/-! ### repr -/
/-- the data x is, without objects but lists outside -/
def den (h : HD) (x : D) (p : PyData) : Prop := (rf x = true ∧ p = toP x) ∨ ∃ a ds, x = .ref a ∧ h a = some (.lst ds) ∧ rfs ds = true ∧ p = .list (toPs ds)
def cRepr : CL := fun ds h Q => match ds with
  | [x] => ∃ p, den h x p ∧ p.showable = true ∧ p.shown.length ≤ sizeLine ∧ p.depth ≤ 100 ∧ Q (.str p.shown) h
  | _ => False
mutual
theorem noDict_toP : ∀ d : D, (toP d).hasDict = false
  | .non => rfl
  | .bl _ => rfl
  | .int _ => rfl
  | .str _ => rfl
  | .tup ds => by simp [toP, PyData.hasDict, noDict_toPs ds]
  | .fl ds => by simp [toP, PyData.hasDict, noDict_toPs ds]
  | .ref _ => rfl
  | .ty _ => rfl
theorem noDict_toPs : ∀ ds : List D, PyData.hasDictAll (toPs ds) = false
  | [] => rfl
  | d :: ds => by simp [toPs, PyData.hasDictAll, noDict_toP d, noDict_toPs ds]
end
theorem repr_dp {pins : List (Addr × Obj)} {σ : L2.St} {H : Hp} {s : Shared} {Q : Value → Shared → Prop} {x : V} {u : Value} {p : PyData} (hg : X.A.guards = some []) (hu : X.A.units + 101 < cLine) (I : Inv X pins σ H s) (r : RelV x u) (d : Dp X.K H x p) (nd : p.hasDict = false)
    (hs : p.showable = true) (hz : p.shown.length ≤ sizeLine) (hd : p.depth ≤ 100) (q : ∀ s' t, Inv X pins σ H s' → Q (.str p.shown t) s') : wpAny (model X.prog X.w) X.A (call (.builtin "repr") [u]) Q X.xe s := by
  obtain ⟨as, h1⟩ := Dp.reads I p x u d r
  have go : ∀ {a : Addr}, Reads s.heap (.ref a) p as → wpAny (model X.prog X.w) X.A (call (.builtin "repr") [.ref a]) Q X.xe s := fun {a} h2 =>
    repr_of_reads' h2 hs (PyData.noDict_hsm nd) hg (by omega) (fun _ _ e => e) (fun h' u tk hk => q _ _ (I.kept hk)) hz
  cases h1 with
  | none => exact PySem.P.repr_of_none (q _ _ (I.tok _))
  | bool b => exact PySem.P.repr_of_bool (q _ _ (I.tok _))
  | int i t => exact PySem.P.repr_of_int (by simpa [PyData.showable] using hs) (q _ _ (I.tok _))
  | str y t => exact PySem.P.repr_of_str (q _ _ (I.tok _)) hz
  | list a b c e => exact go (.list a b c e)
  | tuple a b c e => exact go (.tuple a b c e)
  | dict a b c e f => exact go (.dict a b c e f)
theorem cd_repr (hg : X.A.guards = some []) (hu : X.A.units + 101 < cLine) : CallD X (.builtin "repr") cRepr := by
  intro pins s σ H xs us Q I rv w
  obtain ⟨ds, h, Q', rx, rh, hr, k⟩ := w
  match ds, hr with
  | [x], hr =>
    obtain ⟨v, rfl, q0⟩ := rx.one
    obtain ⟨u, rfl, ru⟩ := rv.one
    obtain ⟨p, dn, hs, hz, hd, q⟩ := hr
    have fin : ∀ (s' : Shared) (t : Tok), Inv X pins σ H s' → EP X pins σ Q (.str p.shown t) s' := fun s' t J => ⟨.str p.shown, H, J, ⟨t, rfl⟩, k _ (.str p.shown) H h rfl (.refl rh) q⟩
    rcases dn with ⟨hf, rfl⟩ | ⟨a, es, rfl, e, hf, rfl⟩
    · exact repr_dp hg hu I ru (RD.dp q0 hf) (noDict_toP x) hs hz hd fin
    · cases (show v = V.ref a from q0)
      obtain ⟨vs, ea, ra⟩ := rh a _ e
      exact repr_dp hg hu I ru (.lst (.of ea) (RDs.dp ra hf)) (by simp [PyData.hasDict, noDict_toPs es]) hs hz hd fin
end
end PD

-- PdK
set_option Elab.async false
set_option linter.all false
set_option maxRecDepth 100000
set_option maxHeartbeats 4000000
/-! PdK: == and != of instances whose class writes __eq__, by data. -/
namespace PD
open PySem PySem.Spec PyProof.Rows L2

/-- the type of y -/
def tyD (h : HD) : D → Value → Prop
  | .int _, t => t = .type "int"
  | .non, t => t = .type "NoneType"
  | .tup _, t => t = .type "tuple"
  | .ref b, t => ∃ C dx fs, h b = some (.ins C dx fs) ∧ t = .ref C
  | _, _ => False
theorem tyD_looks {X : Cx} {pins : List (Addr × Obj)} {σ : L2.St} {H : Hp} {s : Shared} {h : HD} {d : D} {v : V} {u t : Value} (I : Inv X pins σ H s) (rh : RH X.K H h) (r : RD X.K H v d) (ru : RelV v u) (e : tyD h d t) : PySem.W.Looks (model X.prog X.w) s.heap (typeOf u) t := by
  cases d with
  | int i => cases (show v = V.int i from r); obtain ⟨tk, rfl⟩ := ru; cases (show t = _ from e); exact .now
  | non => cases (show v = V.non from r); cases (show u = Value.none from ru); cases (show t = _ from e); exact .now
  | tup ds =>
    obtain ⟨a, vs, rfl, qa, ra⟩ := r
    cases (show u = Value.ref a from ru)
    cases (show t = _ from e)
    obtain ⟨its, rv, ⟨o, eo, c, n, hd⟩, hz⟩ := I.tuple qa
    exact fun A Q E s k q => wpAny_typeOf_ref (k _ _ eo) (by rw [c]; exact q)
  | ref b =>
    cases (show v = V.ref b from r); cases (show u = Value.ref b from ru)
    obtain ⟨C, dx, fs, eb, rfl⟩ := e
    obtain ⟨vs, ea, _⟩ := rh b _ eb
    obtain ⟨mA, J, _⟩ := ins_get I.hok ea
    obtain ⟨od, J, _⟩ := J.look
    exact J.type
  | _ => exact e.elim
theorem run_gfA {X : Cx} {A' : Around} {k : Nat} {f : Addr} {fd : FuncData} {ps : List Str} {sp : SpD} {pins : List (Addr × Obj)} {σ : L2.St} {H : Hp} {s : Shared} {Q : VK} {us : List Value} {vs : List V} {ds : List D} {h : HD} {Q' : DK} {ρ : En} (F : GF X.prog X.w X.K X.mg X.base k f fd ps sp) (hr : Room k A') (hg : A'.guards = some []) (hfr : A'.frames = X.A.frames) (hb : Binds X.K fd ps [])
    (I : Inv X pins σ H s) (r : Vals vs us) (sl : Sl X.K σ H ρ) (rh : RH X.K H h) (rd : RDs X.K H vs ds) (hs : sp ds h Q' noX) (kq : ∀ v d H' h', RD X.K H' v d → Stp X.K H h H' h' → Q' d h' → Q v H') : wpAny (model X.prog X.w) A' (call (.ref f) us) (EP X pins σ Q) X.xe s := by
  have hl : us.length = ps.length := by rw [← r.length, rd.length]; exact F.len _ _ _ _ hs
  have b := hb s us I.kIn (by rw [List.append_nil]; exact hl)
  rw [List.append_nil] at b
  have e := I.env0
  have e0 : Env0 X.prog X.w X.K X.mg X.base A' X.stack s H := ⟨by rw [hfr]; exact e.frames, e.mod, e.bs, e.bsz, e.funs, e.frf, e.hok, e.bare⟩
  refine wpAny_call (codeAny_mono (F.run A' X.stack s H ⟨us, []⟩ us vs Q (lowX X.K (H, h) noX) hr hg e0 b r ⟨ds, h, Q', noX, rd, rh, hs, kq, fun _ _ _ z => z⟩) fun r s' hq => ?_)
  cases r with
  | error er =>
    refine (TkD.none (X := X) (B := (H, h))) _ _ (XE.of_call I (fun cls d H' z => ?_) hq)
    obtain ⟨h', fs, st, xr, w⟩ := z
    exact w.elim
  | ok fl =>
    cases fl with
    | ret u => exact I.after hq
    | next => exact False.elim hq
    | brk => exact False.elim hq
    | cont => exact False.elim hq
section
variable {X : Cx} {B : Bs} {C f : Addr} {k : Nat} {fd : FuncData} {ps : List Str} {sp : SpD}
def isBl : D → Prop
  | .bl _ => True
  | _ => False
/-- x == y, x of the class at C whose __eq__ keeps sp -/
def cEqI (K : PySem.W.Frag) (C : Addr) (sp : SpD) : C2 := fun x y h Q => (∃ a dx fs, x = .ref a ∧ h a = some (.ins C dx fs)) ∧ (∃ tb, tyD h y tb ∧ PySem.W.notFirst K C tb = true) ∧ sp [x, y] h (fun v h' => isBl v ∧ Q v h') noX
theorem od_eqI (F : GF X.prog X.w X.K X.mg X.base k f fd ps sp) (hr : Room k X.A) (hgd : X.A.guards = some []) (hb : Binds X.K fd ps []) (hs : PySem.W.findIn X.K (.ref C) "__eq__" = some (some (.ref f))) (hf : PySem.W.isFn X.K (.ref f) = true) : OpD X (compareOp .Eq) (cEqI X.K C sp) := by
  intro pins s σ H x y v u Q I rv ru w
  obtain ⟨dx, dy, h, Q', rx, ry, rh, ⟨⟨a, ddx, fs, rfl, ea⟩, ⟨tb, ty, nf⟩, hsp⟩, kq⟩ := w
  cases (show x = V.ref a from rx); cases (show v = Value.ref a from rv)
  obtain ⟨vs, ea', _⟩ := rh a _ ea
  obtain ⟨mA, J, _⟩ := ins_get I.hok ea'
  obtain ⟨od, J, _⟩ := J.look
  obtain ⟨m, hF⟩ := I.fr
  show wpAny (model X.prog X.w) X.A (richCompare .Eq (.ref a) u) (EP X pins σ Q) X.xe s
  refine PySem.W.cmp_K (op := .Eq) (tb := tb) hr.units0 hF I.ok.mod.kin J (tyD_looks I rh ry ru ty) nf hs hf ?_
  have sl0 : Sl X.K σ H (List.replicate σ.length none) := ⟨List.length_replicate, fun i d e => by
    rw [List.getElem?_replicate] at e
    split at e <;> cases e⟩
  refine wpAny_mono (run_gfA (ρ := List.replicate σ.length none) (Q := fun v H' => (∃ b, v = .bl b) ∧ Q v H') F hr hgd rfl hb I (vs := [.ref a, y]) (.cons rfl (.cons ru .nil)) sl0 rh (ds := [.ref a, dy]) ⟨_, _, rfl, rfl, _, _, rfl, ry, rfl⟩ hsp fun v d H' h' r' s' q' => ?_) (fun r s' z => ?_) fun _ _ z => z
  · obtain ⟨ib, q⟩ := q'
    cases d with
    | bl b => cases (show v = V.bl b from r'); exact ⟨⟨b, rfl⟩, kq _ (.bl b) H' h' rfl s' q⟩
    | _ => exact ib.elim
  · obtain ⟨v, H', I', rz, ⟨b, rfl⟩, q⟩ := z
    cases rz
    exact ⟨.bl b, H', I', rfl, q⟩
/-- x != y of one class whose __ne__ is object's -/
def cNeI (C : Addr) (sp : SpD) : C2 := fun x y h Q => (∃ a dx fs, x = .ref a ∧ h a = some (.ins C dx fs)) ∧ (∃ a dx fs, y = .ref a ∧ h a = some (.ins C dx fs)) ∧ sp [x, y] h (fun v h' => ∃ b, v = .bl b ∧ Q (.bl (!b)) h') noX
/-- what the text must say of the class at C for != -/
def neB (K : PySem.W.Frag) (C f : Addr) : Bool := match K.lookup C with
  | some ⟨.type "type", _, .cls cd, sl⟩ => (match cd.mro, sl.toList with
    | [.ref C', .type "object"], [_, _, _, _, some (.builtin _), _] => C' == C && !cd.hasDel && PySem.W.nsOkIn K cd.ns && decide (PySem.W.nsIn K cd.ns "__eq__" = some (some (.ref f))) && decide (PySem.W.nsIn K cd.ns "__ne__" = some none)
    | _, _ => false) && (match K.lookup f with
    | some ⟨.type "function", _, _, _⟩ => true
    | _ => false)
  | _ => false
theorem ns_some_of {K : PySem.W.Frag} {h : Heap} {N : Addr} {mg : Str → Option Value} {n : Str} {v : Value} (X : K.In h) (G : h.Ns N mg) (e : PySem.W.nsIn K N n = some (some v)) : mg n = some v := by
  obtain ⟨o, es, ep, ho, hd, _, hf⟩ := G
  unfold PySem.W.nsIn at e
  split at e
  · rename_i c d es' n' sl q
    have := X _ _ q
    rw [ho] at this
    cases this
    cases hd
    split at e
    · rename_i en he
      rw [← hf]
      unfold nsFind findBy
      rw [← Array.find?_toList, he]
      cases e
      rfl
    · split at e <;> cases e
  · cases e
theorem ne_own {K : PySem.W.Frag} {h : Heap} {x : Addr} {o : Obj} (X : K.In h) (q : neB K C f = true) (hx : h.get? x = some o) (hc : o.cls = .ref C) : h.OwnEqNoNe x C f "object" [.type "object"] := by
  unfold neB at q
  split at q
  · rename_i dd cd sl hC
    rw [Bool.and_eq_true] at q
    obtain ⟨q1, q2⟩ := q
    split at q2
    · rename_i d2 dt2 sl2 hF
      split at q1
      · rename_i C' k0 k1 k2 k3 nid k5 hm hsl
        simp only [Bool.and_eq_true, Bool.not_eq_true', decide_eq_true_eq, beq_iff_eq] at q1
        obtain ⟨⟨⟨⟨e1, e2⟩, e3⟩, e4⟩, e5⟩ := q1
        subst e1
        have G : h.Ns cd.ns (h.nsMap cd.ns) := .of_isNs (PySem.W.isNs_of_in X e3)
        obtain ⟨nm, bs, mro, ns, qn, hd, sn, sb, ab, col, del⟩ := cd
        dsimp only at hm e2 G e4 e5
        subst hm e2
        obtain ⟨sll⟩ := sl
        dsimp only at hsl
        subst hsl
        refine ⟨o, _, nm, qn, ns, bs, hd, sn, sb, ab, col, dd, k0, k1, k2, k3, k5, nid, h.nsMap ns, some (.builtin "object.__eq__"), hx, hc, X _ _ hC, G, ns_some_of X G e4, X _ _ hF, rfl, PySem.F.mro_object, PySem.F.cmp_object.eq.lookup, PySem.W.ns_none_of X G e5⟩
      · cases q1
    · cases q2
  · cases q
theorem od_neI (F : GF X.prog X.w X.K X.mg X.base k f fd ps sp) (hr : Room (k + 1) X.A) (hgd : X.A.guards = some []) (hb : Binds X.K fd ps []) (hne : neB X.K C f = true) : OpD X (compareOp .NotEq) (cNeI C sp) := by
  intro pins s σ H x y v u Q I rv ru w
  obtain ⟨dx, dy, h, Q', rx, ry, rh, ⟨⟨a, ddx, fs, rfl, ea⟩, ⟨b, ddy, gs, rfl, eb⟩, hsp⟩, kq⟩ := w
  cases (show x = V.ref a from rx); cases (show v = Value.ref a from rv)
  cases (show y = V.ref b from ry); cases (show u = Value.ref b from ru)
  obtain ⟨vs, ea', _⟩ := rh a _ ea
  obtain ⟨ws, eb', _⟩ := rh b _ eb
  have oa := (show ObjOk X.prog X.w H s.heap a (.ins C ddx vs) from I.hok a _ ea').2.2.2.1
  have ob := (show ObjOk X.prog X.w H s.heap b (.ins C ddy ws) from I.hok b _ eb').2.2.2.1
  have sl0 : Sl X.K σ H (List.replicate σ.length none) := ⟨List.length_replicate, fun i d e => by
    rw [List.getElem?_replicate] at e
    split at e <;> cases e⟩
  have hru : X.A.units + 1 < cLine := hr.in1.units0
  have go := run_gfA (A' := X.A.in1) (ρ := List.replicate σ.length none) (Q := fun v H' => ∃ b, v = .bl b ∧ Q (.bl (!b)) H') F hr.in1 (by first | exact hgd | (show X.A.in1.guards = _; exact hgd)) rfl hb I (vs := [.ref a, .ref b]) (us := [.ref a, .ref b]) (.cons rfl (.cons rfl .nil)) sl0 rh (ds := [.ref a, .ref b]) ⟨_, _, rfl, rfl, _, _, rfl, rfl, rfl⟩ hsp fun v d H' h' r' s' q' => by
    obtain ⟨bb, rfl, q⟩ := q'
    cases (show v = V.bl bb from r')
    exact ⟨bb, rfl, kq _ (.bl (!bb)) H' h' rfl s' q⟩
  obtain ⟨hh, g, d, t, os⟩ := s
  refine compareOp_ne_ownEq PySem.F.cmp_object (ne_own I.kIn hne oa rfl) ob rfl hru (wpAny_mono go (fun r s' z => ?_) fun _ _ z => z)
  obtain ⟨v, H', I', rz, bb, rfl, q⟩ := z
  cases rz
  exact ⟨bb, rfl, .bl (!bb), H', I', rfl, q⟩
end
end PD

-- PdL
set_option Elab.async false
set_option linter.all false
set_option maxRecDepth 100000
set_option maxHeartbeats 4000000
/-! PdL: defs by name; a law's end over the data layer (the end follows HandS.Ends, with another contract). -/
namespace PD
open PySem PySem.Spec PyProof.Rows L2

/-- the def x keeps sp, within k levels -/
structure Dn (P : Program) (w : World) (K : PySem.W.Frag) (mg : Str → Option Value) (base : Heap) (x : Str) (k : Nat) (ps : List Str) (sp : SpD) : Prop where
  ex : ∃ f fd, mg x = some (.ref f) ∧ PySem.W.keepIn K (.ref f) = true ∧ Binds K fd ps [] ∧ GF P w K mg base k f fd ps sp
theorem Dn.mono {P : Program} {w : World} {K : PySem.W.Frag} {mg : Str → Option Value} {base : Heap} {x : Str} {j k : Nat} {ps : List Str} {sp : SpD} (d : Dn P w K mg base x j ps sp) (h : j ≤ k) : Dn P w K mg base x k ps sp := by
  obtain ⟨f, fd, a, b, c, F⟩ := d.ex
  exact ⟨f, fd, a, b, c, F.mono h⟩
theorem Dn.imp {P : Program} {w : World} {K : PySem.W.Frag} {mg : Str → Option Value} {base : Heap} {x : Str} {k : Nat} {ps : List Str} {sp sp' : SpD} (d : Dn P w K mg base x k ps sp) (i : ∀ ds h Q E, sp' ds h Q E → sp ds h Q E) : Dn P w K mg base x k ps sp' := by
  obtain ⟨f, fd, a, b, c, F⟩ := d.ex
  exact ⟨f, fd, a, b, c, F.imp i⟩
section
variable {X : Cx} {B : Bs} {k : Nat} {ps : List Str} {sp : SpD} {x : Str} {p pos : Pos} {e : Expr} {es : List Expr} {t : CA}
theorem qe_fn {W : En → XD} (D : Dn X.prog X.w X.K X.mg X.base x k ps sp) (hr : Room k X.A) (hgd : X.A.guards = some []) (tk : TkD X B W) (ha : QA X B (e :: es) t) (hg : Gl X x := by rfl)
    (hdb : (x == ("__debug__" : Str)) = false := by decide) (he : starEach (e :: es) X.env = (false, eval e X.env) :: starEach es X.env := by rfl) (hpl : (backTo pos (starEach es X.env)).any (·.1) = false := by rfl) :
    QE X B (.Call (.Name x p) (e :: es) [] pos) (cFn sp W t) := by
  obtain ⟨f, fd, a, b, c, F⟩ := D.ex
  exact qe_call F hr hgd hg a b c tk ha hdb he hpl
theorem qe_fn0 {W : En → XD} (D : Dn X.prog X.w X.K X.mg X.base x k ps sp) (hr : Room k X.A) (hgd : X.A.guards = some []) (tk : TkD X B W) (hg : Gl X x := by rfl) (hdb : (x == ("__debug__" : Str)) = false := by decide) :
    QE X B (.Call (.Name x p) [] [] pos) (cFn sp W cNil) := by
  obtain ⟨f, fd, a, b, c, F⟩ := D.ex
  exact qe_call0 F hr hgd hg a b c tk hdb
end
theorem fun_of {K : PySem.W.Frag} {x qual : Str} {st : Stmt} {f : Addr} {fd : FuncData} (F : FunD K x qual (defArgs st) (defBody st) (defScope st) [] [] f fd) : Fun K x qual st f fd := by
  obtain ⟨⟨oc, od, dV, kV, doc, pm, an, cdv, ct, osl, e, l, c, d, _⟩, kp⟩ := F
  rcases d with ⟨_, rfl⟩ | ⟨n, _⟩
  · exact ⟨⟨oc, od, kV, doc, pm, an, cdv, ct, osl, e, l, c⟩, kp⟩
  · exact absurd rfl n
theorem dn_of {P : Program} {w : World} {K : PySem.W.Frag} {mg : Str → Option Value} {base : Heap} {x : Str} {k : Nat} {ps : List Str} {sp : SpD} {f : Addr} {fd : FuncData} (m : mg x = some (.ref f)) (kp : PySem.W.keepIn K (.ref f) = true) (b : Binds K fd ps []) (F : GF P w K mg base k f fd ps sp) : Dn P w K mg base x k ps sp := ⟨f, fd, m, kp, b, F⟩

/-! ### a law's end -/
theorem law_callG {P : Program} {w : World} {K : PySem.W.Frag} {mg mb : Str → Option Value} {k : Nat} {fa a : Addr} {fd : FuncData} {x : Str} {sp : SpD} {s₁ : Shared} {vs : List Value} {ns : List Int}
    (KX : K.In s₁.heap) (hns : s₁.heap.Ns mainGlobals mg) (hb : s₁.heap.Ns builtinsNs mb) (hbb : ∀ x : Str, x ≠ "__name__" → mb x = bootBuiltins x) (hlim : s₁.heap.NoLimit) (hg : s₁.gens = #[])
    (ha : s₁.heap.get? a = some { cls := .type "list", data := .seq vs.toArray }) (hi : IntsAre vs ns) (hl : ns.length ≤ sizeLine) (hr : Room k callerA)
    (F : ∀ base : Heap, K.In base → base.Ns mainGlobals mg → GF P w K mg base k fa fd [x] sp) (hbind : ∀ (s : Shared) (u : Value), BindsTo s fd ⟨[u], []⟩ [(x, u)])
    (hsp : sp [.fl (ns.map D.int)] (fun _ => none) (fun v _ => v = .bl true) noX) :
    codeAny (model P w) callerA (.call (.ref fa) ⟨[.ref a], []⟩) (fun r s' => r = .ok (.ret (.bool true)) ∧ OldK s₁.heap s'.heap ∧ s'.os = s₁.os ∧ AllBare s'.gens) s₁ := by
  have rv := vals_ints hi
  have lenV := hi.length
  have core : ∀ H : Hp, Only H → RD K H (.ref a) (.fl (ns.map D.int)) → HOk P w H s₁.heap → (∀ b, H b ≠ none → b = a) → (H a ≠ none → K.lookup a = none) →
      codeAny (model P w) callerA (.call (.ref fa) ⟨[.ref a], []⟩) (fun r s' => r = .ok (.ret (.bool true)) ∧ OldK s₁.heap s'.heap ∧ s'.os = s₁.os ∧ AllBare s'.gens) s₁ := by
    intro H hO hR hok hA hK
    have isA : ∀ {b : Addr} {u : HO}, H b = some u → b = a := fun {b u} e => hA b (by rw [e]; simp)
    have base_of : ∀ {b : Addr} {o : Obj}, s₁.heap.get? b = some o → H b = none → (hidT s₁.heap H).get? b = some o := fun e n => hidT_get e n
    have noA : ∀ {b : Addr} {o : Obj} {es : Array DictEntry} {ep : Nat}, s₁.heap.get? b = some o → o.data = .dict es ep → H b = none := fun {b o es ep} e d => by
      cases q : H b with
      | none => rfl
      | some u =>
        cases isA q
        rw [ha] at e; cases e
        cases (show Data.seq vs.toArray _ = Data.dict es ep from d)
    have nsK : ∀ {b : Addr} {m : Str → Option Value}, s₁.heap.Ns b m → (hidT s₁.heap H).Ns b m := fun {b m} ⟨o, es, ep, e, d, r⟩ => ⟨o, es, ep, base_of e (noA e d), d, r⟩
    have hKb : K.In (hidT s₁.heap H) := fun b o e => base_of (KX b o e) (by
      cases q : H b with
      | none => rfl
      | some u =>
        cases isA q
        rw [hK (by rw [q]; simp)] at e; cases e)
    have hM : Mod K mg (hidT s₁.heap H) := ⟨hKb, nsK hns, ⟨mb, nsK hb, hbb⟩, let ⟨mc, h1, h2⟩ := hlim; ⟨mc, nsK h1, h2⟩⟩
    have e0 : Env0 P w K mg (hidT s₁.heap H) callerA [] s₁ H := ⟨rfl, hM, fun b o e => of_hidT e, Nat.le_of_eq (hidT_size _ _), trivial, fun b hb => absurd (show b ∈ ([] : List Addr) from hb) (by simp), hok, .of_eq hg⟩
    refine codeAny_mono ((F _ hKb (nsK hns)).run callerA [] s₁ H ⟨[.ref a], []⟩ [.ref a] [.ref a] (fun v _ => v = .bl true) (fun _ _ _ => False) hr rfl e0 (hbind s₁ (.ref a)) (.cons rfl .nil)
      ⟨[.fl (ns.map D.int)], fun _ => none, _, noX, ⟨_, _, rfl, hR, rfl⟩, fun b o e => (by cases e), hsp, fun v d H' h' r _ q => (by subst q; exact r), fun _ _ _ ⟨_, _, _, _, z⟩ => z⟩) fun r s' h => ?_
    cases r with
    | error e =>
      obtain ⟨_, _, _, _, _, _, _, _, _, _, _, _, z⟩ := h
      exact False.elim z
    | ok fl =>
      cases fl with
      | next => exact False.elim h
      | brk => exact False.elim h
      | cont => exact False.elim h
      | ret u =>
        obtain ⟨v, H', os, bare, un, hok', r', q⟩ := h
        subst q
        obtain rfl : u = Value.bool true := r'
        refine ⟨rfl, OldK.of_keep fun b o e => ?_, os, bare⟩
        cases q : H b with
        | none => exact un.keep b o e q (by intro z; exact absurd (show b ∈ ([] : List Addr) from z) (by simp)) (by simp)
        | some u =>
          rcases hO b with z | ⟨ob, xs, z⟩
          · rw [q] at z; cases z
          · obtain ⟨e1, _⟩ := hok b _ z
            obtain ⟨e2, _⟩ := hok' b _ (un.frzs b ob _ z)
            rw [e] at e1; cases e1
            exact e2
  have rds : ∀ H : Hp, RDs K H (ns.map V.int) (ns.map D.int) := fun H => RDs.ofInts ns
  cases hk : K.lookup a with
  | some o =>
    have e := KX a o hk
    rw [ha] at e
    cases e
    exact core (fun _ => none) (fun _ => .inl rfl) ⟨a, ns.map V.int, rfl, .inr (.inr ⟨_, vs.toArray, _, hk, rfl, rfl, rfl, by rw [List.size_toArray, lenV]; exact hl, by simpa using rv⟩), rds _⟩ (fun b u z => by cases z) (fun b z => absurd rfl z) fun z => absurd rfl z
  | none =>
    have at_ : ∀ b, b = a → (fun b => if b = a then some (HO.frz { cls := .type "list", data := .seq vs.toArray } (.lst (ns.map V.int))) else none) b = some (HO.frz { cls := .type "list", data := .seq vs.toArray } (.lst (ns.map V.int))) := fun b e => if_pos e
    have no_ : ∀ b, b ≠ a → (fun b => if b = a then some (HO.frz { cls := .type "list", data := .seq vs.toArray } (.lst (ns.map V.int))) else none) b = none := fun b e => if_neg e
    refine core (fun b => if b = a then some (.frz { cls := .type "list", data := .seq vs.toArray } (.lst (ns.map V.int))) else none) (fun b => ?_) ⟨a, ns.map V.int, rfl, .inl ⟨{ cls := .type "list", data := .seq vs.toArray }, if_pos rfl⟩, rds _⟩ (fun b u z => ?_) (fun b z => ?_) fun _ => hk
    · by_cases hb : b = a
      · exact .inr ⟨_, _, at_ b hb⟩
      · exact .inl (no_ b hb)
    · by_cases hb : b = a
      · cases (at_ b hb).symm.trans z
        subst hb
        exact ⟨ha, by rw [List.length_map]; exact hl, vs, _, rv, ha⟩
      · cases (no_ b hb).symm.trans z
    · by_cases hb : b = a
      · exact hb
      · exact absurd (no_ b hb) z
/-- a law: F gives the written part, the function object, the promise over every base -/
theorem walk_ofG {l : PySem.W.OpenLaw} {n k : Nat} {q : Program} {loose : List Str} {XP : (Str → Option Value) → Heap → Prop} {YP : World → Heap → Prop} {d : DefRec} {x : Str}
    (hn : l.most = some n) (hn2 : n ≤ sizeLine) (hdf : d.params.defaults = []) (hr : Room k callerA)
    (F : ∀ (w : World) (mg : Str → Option Value) (fa : Addr) (h : Heap), YP w h → h.Ns mainGlobals mg → mg d.name = some (.ref fa) →
      ∃ (K : PySem.W.Frag) (fd : FuncData) (sp : SpD), K.In h ∧ (∀ (s : Shared) (u : Value), BindsTo s fd ⟨[u], []⟩ [(x, u)]) ∧
        (∀ ns : List Int, ns.length ≤ n → (∀ k ∈ ns, Builtin.Int.intBits k ≤ 1048576) → sp [.fl (ns.map D.int)] (fun _ => none) (fun v _ => v = .bl true) noX) ∧
        ∀ base : Heap, K.In base → base.Ns mainGlobals mg → GF l.prog w K mg base k fa fd [x] sp) :
    PySem.W.WalkO q loose XP YP l.row.toRowW d [] (fun f vs => PySem.call f vs) := by
  refine Att.attach_callB hn hdf fun w s₀ s₁ mg mb fa o pm cd doc a vs ns G Y ho hd hcd hmg hobj hints hlen hbits hg => ?_
  obtain ⟨K, fd, sp, KX, hb, hsp, hF⟩ := F w mg fa _ Y G.T.g hmg
  exact law_callG KX G.T.g G.T.b G.T.builtins G.T.nolimit hg hobj hints (Nat.le_trans hlen hn2) hr hF hb (hsp ns hlen hbits)
end PD

-- PdM
set_option Elab.async false
set_option linter.all false
set_option maxRecDepth 100000
set_option maxHeartbeats 4000000
/-! PdM: names of the module and of the built-ins; small things that the printed walks lean on. -/
namespace PD
open PySem PySem.Spec PyProof.Rows L2

def libNames : List Str := ["len", "tuple", "list", "dict", "abs", "int", "bool", "str", "any", "all", "sum", "max", "min", "isinstance", "repr", "range", "enumerate", "zip", "sorted", "ValueError"]
/-- the text shadows none of these -/
structure Lib (mg : Str → Option Value) : Prop where
  all_ : ∀ x ∈ libNames, mg x = none
theorem Lib.n {mg : Str → Option Value} (L : Lib mg) (x : Str) (h : x ∈ libNames := by decide +kernel) : mg x = none := L.all_ x h
theorem b_len : bootBuiltins "len" = some (.builtin "len") := by decide +kernel
theorem b_tuple : bootBuiltins "tuple" = some (.type "tuple") := by decide +kernel
theorem b_list : bootBuiltins "list" = some (.type "list") := by decide +kernel
theorem b_dict : bootBuiltins "dict" = some (.type "dict") := by decide +kernel
theorem b_int : bootBuiltins "int" = some (.type "int") := by decide +kernel
theorem b_bool : bootBuiltins "bool" = some (.type "bool") := by decide +kernel
theorem b_str : bootBuiltins "str" = some (.type "str") := by decide +kernel
theorem b_abs : bootBuiltins "abs" = some (.builtin "abs") := by decide +kernel
theorem b_any : bootBuiltins "any" = some (.builtin "any") := by decide +kernel
theorem b_all : bootBuiltins "all" = some (.builtin "all") := by decide +kernel
theorem b_sum : bootBuiltins "sum" = some (.builtin "sum") := by decide +kernel
theorem b_max : bootBuiltins "max" = some (.builtin "max") := by decide +kernel
theorem b_min : bootBuiltins "min" = some (.builtin "min") := by decide +kernel
theorem b_isinstance : bootBuiltins "isinstance" = some (.builtin "isinstance") := by decide +kernel
theorem b_repr : bootBuiltins "repr" = some (.builtin "repr") := by decide +kernel
theorem b_sorted : bootBuiltins "sorted" = some (.builtin "sorted") := by decide +kernel

/-- the module's name x stands for d -/
def GD (K : PySem.W.Frag) (mg : Str → Option Value) (x : Str) (d : D) : Prop := ∃ z u, mg x = some u ∧ RelV z u ∧ ∀ H, RD K H z d
theorem GD.int {K : PySem.W.Frag} {mg : Str → Option Value} {x : Str} {i : Int} (h : ∃ t, mg x = some (.int i t)) : GD K mg x (.int i) := by
  obtain ⟨t, e⟩ := h
  exact ⟨.int i, _, e, ⟨t, rfl⟩, fun _ => rfl⟩
theorem GD.ref {K : PySem.W.Frag} {mg : Str → Option Value} {x : Str} {a : Addr} (h : mg x = some (.ref a)) : GD K mg x (.ref a) := ⟨.ref a, _, h, rfl, fun _ => rfl⟩
theorem GD.pair {K : PySem.W.Frag} {mg : Str → Option Value} {x : Str} {a : Addr} {i j : Int} (h : mg x = some (.ref a)) (s : ∀ H, SqT K H a [V.int i, V.int j]) : GD K mg x (.tup [.int i, .int j]) :=
  ⟨.ref a, _, h, rfl, fun H => ⟨a, _, rfl, s H, RDs.ofInts [i, j]⟩⟩
section
variable {X : Cx} {B : Bs} {x : Str} {pos p : Pos} {d : D}
theorem qe_gd (h : GD X.K X.mg x d) (hg : Gl X x := by rfl) (hd : (x == ("__debug__" : Str)) = false := by decide) : QE X B (.Name x pos) (cC d) := by
  obtain ⟨z, u, m, r, rd⟩ := h
  exact qe_glob hg m r rd hd
/-- a built-in type as a value -/
theorem qe_ty {n : String} (hm : X.mg x = none) (hv : bootBuiltins x = some (.type n)) (hg : Gl X x := by rfl) (hn : x ≠ "__name__" := by decide) (hd : (x == ("__debug__" : Str)) = false := by decide) : QE X B (.Name x pos) (cC (.ty n)) :=
  qe_bltn hg hm hv (z := .ty n) rfl (fun _ => rfl) hn hd
end
theorem room_u {A : Around} {k : Nat} (h : Room k A) : A.units + 150 < cLine := by
  have := h.un
  omega
theorem uu {a b c : Nat} (h : a + 150 < c) (hb : b ≤ 150 := by decide) : a + b < c := by omega
theorem u0 {a c : Nat} (h : a + 150 < c) : a < c := by omega
section
variable {X : Cx} {B : Bs} {pos : Pos}
def cPar3 (i j l : Nat) (t : CA) : CS := fun Z ρ h => t ρ h fun ds h1 => match ds with
  | [d, e, f] => Z.nx (((ρ.set i (some d)).set j (some e)).set l (some f)) h1
  | _ => False
theorem RDs.three {K : PySem.W.Frag} {H : Hp} {vs : List V} {d e f : D} (r : RDs K H vs [d, e, f]) : ∃ v w z, vs = [v, w, z] ∧ RD K H v d ∧ RD K H w e ∧ RD K H z f := by
  obtain ⟨v, r1, rfl, q1, w, r2, rfl, q2, z, r3, rfl, q3, rfl⟩ := r
  exact ⟨v, w, z, rfl, q1, q2, q3⟩
theorem qs_par3 {i j l : Nat} {x y z : Str} {a b c : Expr} {px py pz pt : Pos} {kt k2 pt2} {u : CA} (hc : X.calm = true) (hN : X.N.Nodup) (hi : X.N[i]? = some x) (hj : X.N[j]? = some y) (hl : X.N[l]? = some z) (hij : i ≠ j) (hil : i ≠ l) (hjl : j ≠ l)
    (hx : X.env.scope.names.lookup x = some .local) (hy : X.env.scope.names.lookup y = some .local) (hz : X.env.scope.names.lookup z = some .local) (ha : QA X B [a, b, c] u)
    (hw : swappedStores [.Tuple [.Name x px, .Name y py, .Name z pz] kt pt] (.Tuple [a, b, c] k2 pt2) X.env = pure (some [x, y, z]))
    (hs : swapsWithSole [.Tuple [.Name x px, .Name y py, .Name z pz] kt pt] (.Tuple [a, b, c] k2 pt2) pos.line X.env = pure false := by rfl) :
    QS X B (.Assign [.Tuple [.Name x px, .Name y py, .Name z pz] kt pt] (.Tuple [a, b, c] k2 pt2) pos) (cPar3 i j l u) := PS.imp (ps_par3 hc hN hi hj hl hij hil hjl hx hy hz ha hw hs) fun E σ H w => by
  obtain ⟨ρ, h, D', sl, rh, ht, lk⟩ := w
  refine ⟨ρ, h, _, sl, rh, ht, fun vs ds H1 h1 r s q => ?_⟩
  match ds, q with
  | [d, e, f], q =>
    obtain ⟨v, w, z, rfl, r1, r2, r3⟩ := r.three
    exact ⟨v, w, z, rfl, lk.nx _ _ H1 h1 ((((sl.mono s.ts).set r1).set r2).set r3) s q⟩
end
/-- what is walked: a list, a tuple; a dict's keys -/
def cSrcA (P : Program) (w : World) (t : CE) : CI := fun ρ h Q => cSrc t ρ h Q ∨ cKeys P w t ρ h Q
theorem qi_any {X : Cx} {B : Bs} {tg e : Expr} {t : CE} (he : QE X B e t) : QI X B tg e (cSrcA X.prog X.w t) := ⟨fun pins s σ H R I w => by
  obtain ⟨ρ, h, Q', sl, rb, ht, k⟩ := w
  rcases ht with ht | ht
  · exact (qi_src he).run pins s σ H R I ⟨ρ, h, Q', sl, rb, ht, k⟩
  · exact (qi_keys he).run pins s σ H R I ⟨ρ, h, Q', sl, rb, ht, k⟩⟩
/-- C(..), C a class of the module -/
structure Dm (P : Program) (w : World) (K : PySem.W.Frag) (mg : Str → Option Value) (base : Heap) (x : Str) (C : Addr) (k : Nat) (ps : List Str) (sp : SpD) : Prop where
  ex : ∃ f fd, Mk K C f ∧ mg x = some (.ref C) ∧ Binds K fd ps [] ∧ GF P w K mg base k f fd ps sp
theorem qe_mk {X : Cx} {B : Bs} {k : Nat} {ps : List Str} {sp : SpD} {x : Str} {C : Addr} {p pos : Pos} {e : Expr} {es : List Expr} {t : CA} {W : En → XD} (M : Dm X.prog X.w X.K X.mg X.base x C k ps sp) (hr : Room (k + 1) X.A) (hgd : X.A.guards = some []) (tk : TkD X B W) (ha : QA X B (e :: es) t) (hg : Gl X x := by rfl)
    (hdb : (x == ("__debug__" : Str)) = false := by decide) (he : starEach (e :: es) X.env = (false, eval e X.env) :: starEach es X.env := by rfl) (hpl : (backTo pos (starEach es X.env)).any (·.1) = false := by rfl) :
    QE X B (.Call (.Name x p) (e :: es) [] pos) (cMake C sp W t) := by
  obtain ⟨f, fd, a, b, c, F⟩ := M.ex
  exact qe_make a F hr hgd hg b c tk ha hdb he hpl
/-- C(e), C an own error class whose __init__ keeps e under the name f -/
structure De (K : PySem.W.Frag) (P : Program) (w : World) (mg : Str → Option Value) (base : Heap) (x : Str) (C : Addr) (f pn : Str) : Prop where
  ex : ∃ fI fd, OexC K C ∧ PySem.W.findIn K (.ref C) f = some none ∧ PySem.W.findIn K (.ref C) "__init__" = some (some (.ref fI)) ∧ PySem.W.typeIn K (.ref fI) = some (.type "function") ∧ mg x = some (.ref C) ∧ Binds K fd [("self" : Str), pn] [] ∧
    FnOk P w K mg base CX0 1 fI fd [("self" : Str), pn] (spI K f)
theorem qm_x {X : Cx} {B : Bs} {x : Str} {C : Addr} {f pn : Str} {p pos : Pos} {e : Expr} {te : CE} (M : De X.K X.prog X.w X.mg X.base x C f pn) (hr : Room 2 X.A) (ha : QE X B e te) (hg : Gl X x := by rfl)
    (hdb : (x == ("__debug__" : Str)) = false := by decide) (he : starEach [e] X.env = (false, eval e X.env) :: starEach [] X.env := by rfl) (hpl : (backTo pos (starEach [] X.env)).any (·.1) = false := by rfl) :
    QM X B (.Call (.Name x p) [e] [] pos) (fun ρ h E => te ρ h fun y h1 => E (.ref C) (some [(f, y)]) h1) := by
  obtain ⟨fI, fd, T, hno, iC, tI, hm, hb, F1⟩ := M.ex
  exact qm_init T hno iC tI F1 hr hb hg hm ha hdb he hpl
/-- C(), C an own error class without __init__ -/
structure D0 (K : PySem.W.Frag) (mg : Str → Option Value) (x : Str) (C : Addr) : Prop where
  q : PySem.W.excIn K C He.veBase "ValueError.__new__" = true
  k : PySem.W.keepIn K (.ref C) = true
  s : PySem.W.subIn K (.ref C) (.type "BaseException") = some true
  t : PySem.W.typeIn K (.ref C) = some (.type "type")
  m : mg x = some (.ref C)
theorem qm_0 {X : Cx} {B : Bs} {x : Str} {C : Addr} {p pos : Pos} (M : D0 X.K X.mg x C) (hg : Gl X x := by rfl) (hdb : (x == ("__debug__" : Str)) = false := by decide) : QM X B (.Call (.Name x p) [] [] pos) (cMk0 C) :=
  qm_own0 PySem.F.excBase_ValueError M.q M.m M.k (raises_own M.s M.t) hg hdb
/-- {k: v}, k a number -/
def cD1 (tk tv : CE) : CE := fun ρ h Q => tk ρ h fun x h1 => match x with
  | .int i => tv ρ h1 fun y h2 => ∀ p, h2 p = none → Q (.ref p) (updD h2 p (.dK [(.inl i, y)]))
  | _ => False
theorem stp_show {K : PySem.W.Frag} {H H2 : Hp} {h h2 : HD} {p : Addr} {o o' : HO} {b : OB} (np : H p = none) (s2 : Stp K (upd H p o) h H2 h2) (hH : H p = none) (rh : RH K H h) (e2 : H2 p = some o) (im : Imm o = false) (hp : h2 p = none) (ro : RO K (upd H2 p o') p b) : Stp K H h (upd H2 p o') (updD h2 p b) := by
  have kp : Kep H2 (upd H2 p o') := fun a u eu iu => by
    by_cases z : a = p
    · rw [z, e2] at eu; cases eu; rw [im] at iu; cases iu
    · rw [upd_ne z]; exact eu
  have k0 : Kep H (upd H p o) := fun a u e _ => by rw [upd_ne (ne_of_none e np)]; exact e
  refine ⟨(k0.trans s2.ts).trans kp, fun a q => ?_, fun a q => ?_, fun a u e => ?_, fun a u e n t => ?_⟩
  · by_cases z : a = p
    · rw [z, upd_same]; simp
    · rw [upd_ne z]; exact s2.dm a (by rw [upd_ne z]; exact q)
  · by_cases z : a = p
    · exact .inr (by rw [z]; exact np)
    · rw [updD_ne z] at q
      rcases s2.nf a q with y | y
      · exact .inl y
      · rw [upd_ne z] at y; exact .inr y
  · by_cases z : a = p
    · subst z; rw [updD_same] at e; cases e; exact ro
    · rw [updD_ne z] at e; exact (s2.rh a u e).keep kp (upd_ne z)
  · have z : a ≠ p := ne_of_none e np
    rw [upd_ne z]
    exact s2.hd a u (by rw [upd_ne z]; exact e) n t
theorem qe_d1 {X : Cx} {B : Bs} {k v : Expr} {tk tv : CE} {pos : Pos} (hk : QE X B k tk) (hv : QE X B v tv) : QE X B (.Dict [some k] [v] pos) (cD1 tk tv) := PE.imp (pe_disp (pps_cons hk hv pps_nil) rfl rfl (by simp) (by simp)) fun σ H Q w => by
  obtain ⟨ρ, h, Q', sl, rb, ht, kq⟩ := w
  intro p np
  have s0 : Stp X.K H h (upd H p (.dK [])) h := .hid rb.rh np (rb.rh.none np)
  refine ⟨ρ, h, _, sl.mono s0.ts, rb.trans s0, ht, fun x dx H1 h1 rx s1 q1 => ?_⟩
  cases dx with
  | int i =>
    cases (show x = V.int i from rx)
    refine ⟨ρ, h1, _, (sl.mono s0.ts).mono s1.ts, (rb.trans s0).trans s1, q1, fun y dy H2 h2 ry s2 q2 => ?_⟩
    have s12 := s1.trans s2
    have e2 : H2 p = some (.dK []) := s12.hd p _ upd_same (rb.rh.none np) rfl
    have hp : h2 p = none := by
      cases z : h2 p with
      | none => rfl
      | some u =>
        rcases s12.nf p (by rw [z]; simp) with y | y
        · exact absurd (rb.rh.none np) y
        · rw [upd_same] at y; cases y
    refine ⟨e2, [(.inl i, y)], rfl, by simp, ?_⟩
    have kp : Kep H2 (upd H2 p (.dK [(.inl i, y)])) := fun a u eu iu => by
      by_cases z : a = p
      · rw [z, e2] at eu; cases eu; cases iu
      · rw [upd_ne z]; exact eu
    exact kq _ (.ref p) _ _ rfl (stp_show (o' := .dK [(.inl i, y)]) (b := .dK [(.inl i, dy)]) np s12 np rb.rh e2 rfl hp ⟨[(.inl i, y)], upd_same, y, [], rfl, ry.mono kp, rfl⟩) (q2 p hp)
  | _ => exact q1.elim
/-- == of texts -/
def cEqS : C2 := fun x y h Q => match x, y with
  | .str a, .str b => Q (.bl (decide (a = b))) h
  | _, _ => False
theorem od_eqS {X : Cx} : OpD X (compareOp .Eq) cEqS := by
  intro pins s σ H x y v u Q I rv ru w
  obtain ⟨dx, dy, h, Q', rx, ry, rh, hr, k⟩ := w
  match dx, dy, hr with
  | .str a, .str b, hr =>
    cases (show x = V.str a from rx); cases (show y = V.str b from ry)
    refine op_eq pins s σ H _ _ v u Q I rv ru ⟨rfl, ?_⟩
    have e : decide (V.str a = V.str b) = decide (a = b) := by
      by_cases z : a = b
      · subst z; simp
      · rw [decide_eq_false z, decide_eq_false (fun q => z (V.str.inj q))]
    rw [e]
    exact k _ (.bl (decide (a = b))) H h rfl (.refl rh) hr
/-- isinstance(e, c) in a suite, e the caught one -/
theorem qe_isE {X : Cx} {B : Bs} {a : Addr} {oe : Obj} {cls : Value} {d : Option Addr} {fs : Option (List (Str × D))} {pn : List (Addr × Obj)} {e : Expr} {es : List Expr} {u : CA} {p pos : Pos} (xr : XR X.K B.1 B.2 d fs) (hz : Zc cls d oe) (hf : ∃ vs, oe.data = .fields vs)
    (hg : Gl (X.suite a ((a, oe) :: pn)) "isinstance") (hm : (X.suite a ((a, oe) :: pn)).mg "isinstance" = none) (ha : QA (X.suite a ((a, oe) :: pn)) B (e :: es) u)
    (he : starEach (e :: es) X.env = (false, eval e X.env) :: starEach es X.env := by rfl) (hpl : (backTo pos (starEach es X.env)).any (·.1) = false := by rfl) :
    QE (X.suite a ((a, oe) :: pn)) B (.Call (.Name "isinstance" p) (e :: es) [] pos) (cCall (cIsE X.K a cls) u) :=
  PE.imp (pe_callB (X := X.suite a ((a, oe) :: pn)) (cd_isE xr hz hf) hg hm b_isinstance ha (by decide) (by decide) he hpl) fun σ H Q w => by
    obtain ⟨ρ, h, Q', sl, rb, ht, k⟩ := w
    exact ⟨ρ, h, _, sl, rb, ht, fun vs ds H1 h1 rv s1 q1 => ⟨ds, h1, Q', rv, Stp.trans rb s1, q1, fun v' d' H' h' r' s' q' => k v' d' H' h' r' (s1.trans s') q'⟩⟩
/-- a def's own place among the text's statements -/
abbrev atS (p : Program) (i : Nat) : Stmt := p.main.body.getD i (.Pass ⟨0, 0, 0, 0⟩)
def inCls : Stmt → Nat → Stmt
  | .ClassDef _ _ _ body _ _ _ _ _ _ _, i => body.getD i (.Pass ⟨0, 0, 0, 0⟩)
  | _, _ => .Pass ⟨0, 0, 0, 0⟩
abbrev FnT (K : PySem.W.Frag) (x qual : Str) (st : Stmt) (f : Addr) (fd : FuncData) : Prop := FunD K x qual (defArgs st) (defBody st) (defScope st) [] [] f fd
end PD

-- PdN
set_option Elab.async false
set_option linter.all false
set_option maxRecDepth 100000
set_option maxHeartbeats 4000000
/-! PdN: contracts of the defs that all laws share. -/
namespace PD
open PySem PySem.Spec PyProof.Rows L2
/-- what stood stands -/
def Ex (h h' : HD) : Prop := ∀ a o, h a = some o → h' a = some o
theorem Ex.refl (h : HD) : Ex h h := fun _ _ e => e
theorem Ex.trans {h h1 h2 : HD} (a : Ex h h1) (b : Ex h1 h2) : Ex h h2 := fun x o e => b x o (a x o e)
theorem Ex.new {h : HD} {p : Addr} {o : OB} (n : h p = none) : Ex h (updD h p o) := fun a u e => by
  rw [updD_ne (fun z => by rw [z, n] at e; cases e)]; exact e
theorem Ex.new' {h h' : HD} {p : Addr} {o : OB} (x : Ex h h') (n : h' p = none) : Ex h (updD h' p o) := x.trans (.new n)
/-- all but the thing at a -/
structure ExB (a : Addr) (h h' : HD) : Prop where
  keep : ∀ b o, b ≠ a → h b = some o → h' b = some o
  head : ∀ d ds, h a = some (.lst (d :: ds)) → ∃ ds', h' a = some (.lst (d :: ds'))
instance {a : Addr} {h h' : HD} : CoeFun (ExB a h h') (fun _ => ∀ b o, b ≠ a → h b = some o → h' b = some o) := ⟨ExB.keep⟩
theorem ExB.refl (a : Addr) (h : HD) : ExB a h h := ⟨fun _ _ _ e => e, fun _ ds e => ⟨ds, e⟩⟩
theorem ExB.trans {a : Addr} {h h1 h2 : HD} (x : ExB a h h1) (y : ExB a h1 h2) : ExB a h h2 := ⟨fun b o n e => y.keep b o n (x.keep b o n e), fun d ds e => by
  obtain ⟨d1, e1⟩ := x.head d ds e
  exact y.head d d1 e1⟩
theorem Ex.b {a : Addr} {h h' : HD} (x : Ex h h') : ExB a h h' := ⟨fun b o _ e => x b o e, fun _ ds e => ⟨ds, x _ _ e⟩⟩
theorem ExB.setN {a : Addr} {h : HD} {o u : OB} (e : h a = some u) (n : ∀ ds, u ≠ .lst ds) : ExB a h (updD h a o) := ⟨fun b v z e => by rw [updD_ne z]; exact e, fun d ds e2 => absurd (Option.some.inj (e.symm.trans e2)) (n _)⟩
theorem ExB.setH {a : Addr} {h : HD} {d : D} {ds ds' : List D} (e : h a = some (.lst (d :: ds))) : ExB a h (updD h a (.lst (d :: ds'))) := ⟨fun b v z e => by rw [updD_ne z]; exact e, fun d2 ds2 e2 => by
  have := e.symm.trans e2
  cases this
  exact ⟨ds', updD_same⟩⟩

def isI : D → Bool
  | .int _ => true
  | _ => false
def inW (x : D) (lo hi : Int) : Bool := match x with
  | .int i => decide (lo ≤ i) && decide (i ≤ hi)
  | _ => false
def szd (x : D) (lo hi : Int) : Bool := match x with
  | .tup xs => decide (lo ≤ (xs.length : Int)) && decide ((xs.length : Int) ≤ hi)
  | _ => false
def sp_is_integer : SpD := fun ds h Q _ => ∃ x z, ds = [x] ∧ kd h x = some z ∧ Q (.bl (isI x)) h
def sp_is_within : SpD := fun ds h Q _ => ∃ x lo hi z, ds = [x, .int lo, .int hi] ∧ kd h x = some z ∧ Q (.bl (inW x lo hi)) h
def sp_is_sized : SpD := fun ds h Q _ => ∃ x lo hi z, ds = [x, .int lo, .int hi] ∧ kd h x = some z ∧ Q (.bl (szd x lo hi)) h
def sp_is_pair : SpD := fun ds h Q _ => ∃ x z, ds = [x] ∧ kd h x = some z ∧ Q (.bl (szd x 2 2)) h
def sp_is_triple : SpD := fun ds h Q _ => ∃ x z, ds = [x] ∧ kd h x = some z ∧ Q (.bl (szd x 3 3)) h
def gcdI (a b : Int) : Int := (Int.gcd a b : Nat)
def sp_divisor : SpD := fun ds h Q _ => ∃ a b, ds = [.int a, .int b] ∧ Q (.int (gcdI a b)) h
/-- in lowest terms -/
def redI (t b : Int) : Int × Int := (t / gcdI t b, b / gcdI t b)
def prD2 (p : Int × Int) : D := .tup [.int p.1, .int p.2]
def sp_lowest : SpD := fun ds h Q _ => ∃ t b, ds = [.int t, .int b] ∧ 0 < b ∧ b.natAbs.log2 < 9000 ∧ Q (prD2 (redI t b)) h
def plusI (x y : Int × Int) : Int × Int := redI (x.1 * y.2 + y.1 * x.2) (x.2 * y.2)
def timesI (x y : Int × Int) : Int × Int := redI (x.1 * y.1) (x.2 * y.2)
/-- a fraction of few bits -/
def fewB (n : Nat) (x : Int × Int) : Prop := 0 < x.2 ∧ x.1.natAbs < 2 ^ n ∧ x.2.natAbs < 2 ^ n
def sp_plus : SpD := fun ds h Q _ => ∃ x y, ds = [prD2 x, prD2 y] ∧ fewB 4000 x ∧ fewB 4000 y ∧ Q (prD2 (plusI x y)) h
def sp_times : SpD := fun ds h Q _ => ∃ x y, ds = [prD2 x, prD2 y] ∧ fewB 4000 x ∧ fewB 4000 y ∧ Q (prD2 (timesI x y)) h
def sumI (xs : List (Int × Int)) : Int × Int := xs.foldl plusI (0, 1)
/-- all on the way are of few bits -/
def sumOk : Int × Int → List (Int × Int) → Prop
  | a, [] => True
  | a, x :: xs => fewB 4000 a ∧ fewB 4000 x ∧ sumOk (plusI a x) xs
def sp_total : SpD := fun ds h Q _ => ∃ a xs, ds = [.ref a] ∧ h a = some (.lst (xs.map prD2)) ∧ sumOk (0, 1) xs ∧ Q (prD2 (sumI xs)) h
def isFr (x : D) : Bool := match x with
  | .tup [.int t, .int b] => decide (0 < b) && decide (gcdI t b = 1)
  | _ => false
/-- a pair's parts are of known kinds -/
def kdP (h : HD) (x : D) : Prop := (∃ z, kd h x = some z) ∧ ∀ a b, x = .tup [a, b] → (∃ z, kd h a = some z) ∧ ∃ z, kd h b = some z
def sp_is_fraction : SpD := fun ds h Q _ => ∃ x, ds = [x] ∧ kdP h x ∧ Q (.bl (isFr x)) h
def isSh (x : D) : Bool := isFr x && match x with
  | .tup [.int t, .int b] => decide (0 < t) && decide (t ≤ b)
  | _ => false
def sp_is_share : SpD := fun ds h Q _ => ∃ x, ds = [x] ∧ kdP h x ∧ Q (.bl (isSh x)) h
def isCh (x : D) : Bool := isFr x && match x with
  | .tup [.int t, .int b] => decide (0 ≤ t) && decide (t ≤ b)
  | _ => false
def sp_is_chance : SpD := fun ds h Q _ => ∃ x, ds = [x] ∧ kdP h x ∧ Q (.bl (isCh x)) h
/-- all of them shares that add up to one -/
def sp_are_shares : SpD := fun ds h Q _ => ∃ a xs, ds = [.ref a] ∧ h a = some (.lst (xs.map prD2)) ∧ xs.length ≤ 1000 ∧ sumOk (0, 1) xs ∧ ∀ h', Ex h h' → Q (.bl (xs.all (fun x => isSh (prD2 x)) && decide (sumI xs = (1, 1)))) h'

/-! ### the drawing -/
/-- the hand at a; at most b draws were made -/
def Hand (h : HD) (a : Addr) (b : Nat) : Prop := ∃ (c : Addr) (ns : List Int) (p g st n : Int), h a = some (.lst [.ref c, .int p, .int g, .int st, .int n]) ∧ h c = some (.lst (ns.map D.int)) ∧ a ≠ c ∧ (∀ x ∈ ns, 0 ≤ x) ∧ 0 ≤ p ∧ p ≤ (ns.length : Int) ∧ 0 ≤ g ∧ 0 ≤ st ∧ st < 2147483648 ∧ 0 ≤ n ∧ n ≤ (b : Int)
theorem Hand.ex {h h' : HD} {a : Addr} {b : Nat} (H : Hand h a b) (x : Ex h h') : Hand h' a b := by
  obtain ⟨c, ns, p, g, st, n, e1, e2, r⟩ := H
  exact ⟨c, ns, p, g, st, n, x _ _ e1, x _ _ e2, r⟩
theorem Hand.le {h : HD} {a : Addr} {b c : Nat} (H : Hand h a b) (x : b ≤ c) : Hand h a c := by
  obtain ⟨c2, ns, p, g, st, n, e1, e2, r1, r2, r3, r4, r5, r6, r7, r8, r9⟩ := H
  exact ⟨c2, ns, p, g, st, n, e1, e2, r1, r2, r3, r4, r5, r6, r7, r8, by omega⟩
theorem Hand.ne {h : HD} {a : Addr} {b : Nat} (H : Hand h a b) : h a ≠ none := by
  obtain ⟨c, ns, p, g, st, n, e1, _⟩ := H
  rw [e1]; simp
def sp_l_hand : SpD := fun ds h Q _ => ∃ ns : List Int, ds = [.fl (ns.map D.int)] ∧ ns.length ≤ 63 ∧ ∀ h' a, Ex h h' → h a = none → Hand h' a 0 → Q (.ref a) h'
/-- a digit below m -/
def sp_l_draw : SpD := fun ds h Q _ => ∃ a b m, ds = [.ref a, .int m] ∧ Hand h a b ∧ b ≤ 10 ^ 15 ∧ 0 < m ∧ m.natAbs.log2 < 9000 ∧ ∀ h' i, ExB a h h' → Hand h' a (b + 1) → 0 ≤ i → i < m → Q (.int i) h'
/-- one of the things of a list or a tuple -/
def sp_l_any : SpD := fun ds h Q _ => ∃ a b x xs, ds = [.ref a, x] ∧ Hand h a b ∧ b ≤ 10 ^ 15 ∧ xs ≠ [] ∧ xs.length ≤ 1000 ∧ (x = .tup xs ∨ ∃ p, x = .ref p ∧ p ≠ a ∧ h p = some (.lst xs)) ∧ ∀ h' y, ExB a h h' → Hand h' a (b + 1) → y ∈ xs → Q y h'
/-- repr(x) == repr(y) -/
def sp_l_is : SpD := fun ds h Q _ => ∃ x y p q, ds = [x, y] ∧ den h x p ∧ den h y q ∧ p.showable = true ∧ q.showable = true ∧ p.shown.length ≤ sizeLine ∧ q.shown.length ≤ sizeLine ∧ p.depth ≤ 100 ∧ q.depth ≤ 100 ∧ Q (.bl (decide (p.shown = q.shown))) h
def sp_l_low : SpD := fun ds h Q _ => ∃ t b, ds = [.int t, .int b] ∧ 0 < b ∧ b.natAbs.log2 < 9000 ∧ Q (prD2 (redI t b)) h
end PD

-- PdT
set_option Elab.async false
set_option linter.all false
set_option maxRecDepth 100000
set_option maxHeartbeats 4000000
/-! printed by gen.py: the walks of the defs -/
namespace PD
open PySem PySem.Spec PyProof.Rows L2 PD

def t_is_integer (P : Program) (w : World) (K : PySem.W.Frag) (W : En → XD) : CS := (cRet (cAndV (cCall (cIsi K) (cCons (cVar 0) (cCons (cC (.ty "int")) cNil))) (cNotV (cCall (cIsi K) (cCons (cVar 0) (cCons (cC (.ty "bool")) cNil))))))
def t_is_within (P : Program) (w : World) (K : PySem.W.Frag) (W : En → XD) : CS := (cRet (cAndV (cFn sp_is_integer (fun _ => noX) (cCons (cVar 0) cNil)) (cChain cLe cLe (cVar 1) (cVar 0) (cVar 2))))
def t_is_sized (P : Program) (w : World) (K : PySem.W.Frag) (W : En → XD) : CS := (cRet (cAndV (cCall (cIsi K) (cCons (cVar 0) (cCons (cC (.ty "tuple")) cNil))) (cChain cLe cLe (cVar 1) (cCall (cLenA P w) (cCons (cVar 0) cNil)) (cVar 2))))
def t_is_pair (P : Program) (w : World) (K : PySem.W.Frag) (W : En → XD) : CS := (cRet (cAndV (cCall (cIsi K) (cCons (cVar 0) (cCons (cC (.ty "tuple")) cNil))) (cOp cEq (cCall (cLenA P w) (cCons (cVar 0) cNil)) (cC (.int 2)))))
def t_is_triple (P : Program) (w : World) (K : PySem.W.Frag) (W : En → XD) : CS := (cRet (cAndV (cCall (cIsi K) (cCons (cVar 0) (cCons (cC (.ty "tuple")) cNil))) (cOp cEq (cCall (cLenA P w) (cCons (cVar 0) cNil)) (cC (.int 3)))))
def t_divisor (P : Program) (w : World) (K : PySem.W.Frag) (W : En → XD) : CS := (cSeq (cPar 0 1 (cCons (cCall cAbs (cCons (cVar 0) cNil)) (cCons (cCall cAbs (cCons (cVar 1) cNil)) cNil))) (cSeq (cWhile (cT (cOp cNe (cVar 1) (cC (.int 0)))) (cPar 0 1 (cCons (cVar 1) (cCons (cOp cMod (cVar 0) (cVar 1)) cNil)))) (cRet (cVar 0))))
def t_lowest (P : Program) (w : World) (K : PySem.W.Frag) (W : En → XD) : CS := (cSeq (cSet 2 (cIf (cT (cOp cGt (cVar 1) (cC (.int 0)))) (cFn sp_divisor (fun _ => noX) (cCons (cVar 0) (cCons (cVar 1) cNil))) (cUn cNeg (cFn sp_divisor (fun _ => noX) (cCons (cVar 0) (cCons (cVar 1) cNil)))))) (cRet (cTup (cCons (cOp cFdiv (cVar 0) (cVar 2)) (cCons (cOp cFdiv (cVar 1) (cVar 2)) cNil)))))
def t_plus (P : Program) (w : World) (K : PySem.W.Frag) (W : En → XD) : CS := (cRet (cFn sp_lowest (fun _ => noX) (cCons (cOp cAdd (cOp cMul (cOp (cIxA P w) (cVar 0) (cC (.int 0))) (cOp (cIxA P w) (cVar 1) (cC (.int 1)))) (cOp cMul (cOp (cIxA P w) (cVar 1) (cC (.int 0))) (cOp (cIxA P w) (cVar 0) (cC (.int 1))))) (cCons (cOp cMul (cOp (cIxA P w) (cVar 0) (cC (.int 1))) (cOp (cIxA P w) (cVar 1) (cC (.int 1)))) cNil))))
def t_total (P : Program) (w : World) (K : PySem.W.Frag) (W : En → XD) : CS := (cSeq (cSet 1 (cC (.tup [(.int 0), (.int 1)]))) (cSeq (cFor (cSrcA P w (cVar 0)) (cName 2) (cSet 1 (cFn sp_plus (fun _ => noX) (cCons (cVar 1) (cCons (cVar 2) cNil))))) (cRet (cVar 1))))
def t_is_fraction (P : Program) (w : World) (K : PySem.W.Frag) (W : En → XD) : CS := (cSeq (cIfS (cOr (cNot (cT (cFn sp_is_pair (fun _ => noX) (cCons (cVar 0) cNil)))) (cOr (cNot (cT (cFn sp_is_integer (fun _ => noX) (cCons (cOp (cIxA P w) (cVar 0) (cC (.int 0))) cNil)))) (cNot (cT (cFn sp_is_integer (fun _ => noX) (cCons (cOp (cIxA P w) (cVar 0) (cC (.int 1))) cNil)))))) (cRet (cC (.bl false))) cNext) (cRet (cAndV (cOp cGt (cOp (cIxA P w) (cVar 0) (cC (.int 1))) (cC (.int 0))) (cOp cEq (cFn sp_divisor (fun _ => noX) (cCons (cOp (cIxA P w) (cVar 0) (cC (.int 0))) (cCons (cOp (cIxA P w) (cVar 0) (cC (.int 1))) cNil))) (cC (.int 1))))))
def t_is_share (P : Program) (w : World) (K : PySem.W.Frag) (W : En → XD) : CS := (cRet (cAndV (cFn sp_is_fraction (fun _ => noX) (cCons (cVar 0) cNil)) (cChain cLt cLe (cC (.int 0)) (cOp (cIxA P w) (cVar 0) (cC (.int 0))) (cOp (cIxA P w) (cVar 0) (cC (.int 1))))))
def t_are_shares (P : Program) (w : World) (K : PySem.W.Frag) (W : En → XD) : CS := (cRet (cAndV (cCall (cBools fun bs => bs.all id) (cCons (cLc (cSrcA P w (cVar 0)) (.one 1) cYes (cFn sp_is_share (fun _ => noX) (cCons (cVar 1) cNil)) [1]) cNil)) (cOp cEq (cFn sp_total (fun _ => noX) (cCons (cVar 0) cNil)) (cC (.tup [(.int 1), (.int 1)])))))
def t_l_hand (P : Program) (w : World) (K : PySem.W.Frag) (W : En → XD) : CS := (cSeq (cSet 1 (cLc (cSrcA P w (cSl cSlc (cVar 0) cNoP (cPart (cC (.int 63))))) (.one 2) cYes (cCall cAbs (cCons (cCall cInt (cCons (cVar 2) cNil)) cNil)) [2])) (cRet (cLst (cCons (cVar 1) (cCons (cC (.int 0)) (cCons (cC (.int 0)) (cCons (cOp cAdd (cC (.int 1)) (cCall (cLenA P w) (cCons (cVar 1) cNil))) (cCons (cC (.int 0)) cNil))))))))
def t_l_draw (P : Program) (w : World) (K : PySem.W.Frag) (W : En → XD) : CS := (cCut (cIfS (cAnd (cT (cOp cEq (cOp (cIxA P w) (cVar 0) (cC (.int 2))) (cC (.int 0)))) (cT (cOp cLt (cOp (cIxA P w) (cVar 0) (cC (.int 1))) (cCall (cLenA P w) (cCons (cOp (cIxA P w) (cVar 0) (cC (.int 0))) cNil))))) (cSeq (cSet 3 (cOp (cIxA P w) (cOp (cIxA P w) (cVar 0) (cC (.int 0))) (cOp (cIxA P w) (cVar 0) (cC (.int 1))))) (cSeq (cAsg (cOp cAdd (cOp (cIxA P w) (cVar 0) (cC (.int 1))) (cC (.int 1))) (cItm (cVar 0) (cC (.int 1)) (cSetA P w))) (cSeq (cAsg (cOp cMod (cCall cInt (cCons (cOp cAdd (cOp cAdd (cOp cMul (cOp (cIxA P w) (cVar 0) (cC (.int 3))) (cC (.int 69621))) (cVar 3)) (cC (.int 11))) cNil)) (cC (.int 2147483629))) (cItm (cVar 0) (cC (.int 3)) (cSetA P w))) (cIfS (cT (cOp cGe (cVar 3) (cOp cPow (cC (.int 10)) (cC (.int 18))))) (cAsg (cVar 3) (cItm (cVar 0) (cC (.int 2)) (cSetA P w))) cNext)))) cNext) (cSeq (cIfS (cT (cOp cGt (cOp (cIxA P w) (cVar 0) (cC (.int 2))) (cC (.int 0)))) (cSeq (cSet 4 (cOp cMod (cCall cInt (cCons (cOp (cIxA P w) (cVar 0) (cC (.int 2))) cNil)) (cVar 1))) (cSeq (cAsg (cOp cFdiv (cOp (cIxA P w) (cVar 0) (cC (.int 2))) (cVar 1)) (cItm (cVar 0) (cC (.int 2)) (cSetA P w))) (cRet (cVar 4)))) cNext) (cSeq (cAsg (cOp cAdd (cOp (cIxA P w) (cVar 0) (cC (.int 4))) (cC (.int 1))) (cItm (cVar 0) (cC (.int 4)) (cSetA P w))) (cSeq (cSet 2 (cOp cMod (cCall cInt (cCons (cOp cMul (cCall cInt (cCons (cOp cAdd (cOp (cIxA P w) (cVar 0) (cC (.int 3))) (cOp cMul (cC (.int 7919)) (cOp (cIxA P w) (cVar 0) (cC (.int 4))))) cNil)) (cC (.int 48271))) cNil)) (cC (.int 2147483647)))) (cSeq (cSet 2 (cOp cMod (cCall cInt (cCons (cOp cMul (cVar 2) (cOp cAdd (cOp cFdiv (cVar 2) (cC (.int 1009))) (cC (.int 69621)))) cNil)) (cC (.int 2147483647)))) (cSeq (cSet 2 (cOp cMod (cCall cInt (cCons (cOp cMul (cVar 2) (cOp cAdd (cOp cFdiv (cVar 2) (cC (.int 2003))) (cC (.int 40692)))) cNil)) (cC (.int 2147483399)))) (cRet (cOp cMod (cCall cInt (cCons (cOp cFdiv (cVar 2) (cC (.int 16))) cNil)) (cVar 1)))))))))
def t_l_any (P : Program) (w : World) (K : PySem.W.Frag) (W : En → XD) : CS := (cRet (cOp (cIxA P w) (cVar 1) (cFn sp_l_draw (fun _ => noX) (cCons (cVar 0) (cCons (cCall (cLenA P w) (cCons (cVar 1) cNil)) cNil)))))
def t_l_is (P : Program) (w : World) (K : PySem.W.Frag) (W : En → XD) : CS := (cRet (cOp cEqS (cCall cRepr (cCons (cVar 0) cNil)) (cCall cRepr (cCons (cVar 1) cNil))))
def t_l_low (P : Program) (w : World) (K : PySem.W.Frag) (W : En → XD) : CS := (cSeq (cPar 2 3 (cCons (cCall cAbs (cCons (cVar 0) cNil)) (cCons (cVar 1) cNil))) (cSeq (cWhile (cT (cOp cGt (cVar 3) (cC (.int 0)))) (cPar 2 3 (cCons (cVar 3) (cCons (cOp cMod (cCall cInt (cCons (cVar 2) cNil)) (cVar 3)) cNil)))) (cRet (cTup (cCons (cOp cFdiv (cVar 0) (cVar 2)) (cCons (cOp cFdiv (cVar 1) (cVar 2)) cNil))))))
def t_l_plus (P : Program) (w : World) (K : PySem.W.Frag) (W : En → XD) : CS := (cRet (cFn sp_l_low (fun _ => noX) (cCons (cOp cAdd (cOp cMul (cOp (cIxA P w) (cVar 0) (cC (.int 0))) (cOp (cIxA P w) (cVar 1) (cC (.int 1)))) (cOp cMul (cOp (cIxA P w) (cVar 1) (cC (.int 0))) (cOp (cIxA P w) (cVar 0) (cC (.int 1))))) (cCons (cOp cMul (cOp (cIxA P w) (cVar 0) (cC (.int 1))) (cOp (cIxA P w) (cVar 1) (cC (.int 1)))) cNil))))
def t_l_sum (P : Program) (w : World) (K : PySem.W.Frag) (W : En → XD) : CS := (cSeq (cSet 1 (cTup (cCons (cC (.int 0)) (cCons (cC (.int 1)) cNil)))) (cSeq (cFor (cSrcA P w (cVar 0)) (cName 2) (cSet 1 (cFn sp_plus (fun _ => noX) (cCons (cVar 1) (cCons (cVar 2) cNil))))) (cRet (cVar 1))))
end PD

-- PdP
set_option Elab.async false
set_option linter.all false
set_option maxRecDepth 100000
set_option maxHeartbeats 4000000
/-! PdP: the plain laws of the shared defs. -/
namespace PD
open PySem PySem.Spec PyProof.Rows L2
section
variable {P : Program} {w : World} {K : PySem.W.Frag} {W : En → XD} {h : HD} {Q : DK} {Z : DE}
theorem kd_isI {x : D} {z : Kd} (e : kd h x = some z) : (z.isa .int && !z.isa .bl) = isI x := by
  cases x with
  | non => cases e; rfl
  | bl b => cases e; rfl
  | int i => cases e; rfl
  | str s => cases e; rfl
  | tup ds => cases e; rfl
  | fl ds => cases e; rfl
  | ty n => cases e
  | ref a =>
    have e : (match h a with
      | some (.lst _) => some Kd.lst
      | some (.dK _) => some Kd.dct
      | some (.dT _) => some Kd.dct
      | _ => none) = some z := e
    split at e <;> cases e <;> rfl
theorem p_is_integer (ds : List D) (h : HD) (Q : DK) (E : XD) (hs : sp_is_integer ds h Q E) : t_is_integer P w K W { nx := fun _ h' => Q .non h', rt := Q } (startD [("thing" : Str)] ds) h := by
  obtain ⟨x, z, rfl, hk, q⟩ := hs
  have e := kd_isI hk
  refine .inl ⟨z, .int, hk, rfl, ?_⟩
  show if z.isa .int = true then _ else _
  cases hz : z.isa .int with
  | false =>
    rw [hz, Bool.false_and] at e
    rw [← e] at q
    exact q
  | true =>
    rw [hz, Bool.true_and] at e
    rw [← e] at q
    exact .inl ⟨z, .bl, hk, rfl, q⟩
theorem ifB {c : Bool} {A B : Prop} (t : c = true → A) (f : c = false → B) : if c = true then A else B := by
  cases c with
  | true => exact (if_pos rfl).symm ▸ t rfl
  | false => exact (if_neg (show ¬ (false = true) by decide)).symm ▸ f rfl
theorem p_is_within (ds : List D) (h : HD) (Q : DK) (E : XD) (hs : sp_is_within ds h Q E) : t_is_within P w K W { nx := fun _ h' => Q .non h', rt := Q } (startD [("thing" : Str), ("least" : Str), ("most" : Str)] ds) h := by
  obtain ⟨x, lo, hi, z, rfl, hk, q⟩ := hs
  refine ⟨x, z, rfl, hk, ?_⟩
  show if isI x = true then _ else _
  cases x with
  | int i =>
    change Q (.bl (decide (lo ≤ i) && decide (i ≤ hi))) h at q
    refine ifB (fun _ => ⟨trivial, ifB (c := decide (lo ≤ i)) (fun c => ?_) (fun c => ?_)⟩) (fun c => by cases c)
    · rw [c] at q; exact ⟨trivial, q⟩
    · rw [c] at q; exact q
  | _ => exact q
theorem kd_isT {x : D} {z : Kd} (e : kd h x = some z) : (∃ xs, x = .tup xs ∧ z = .tup) ∨ ((∀ lo hi, szd x lo hi = false) ∧ z.isa .tup = false) := by
  cases x with
  | non => cases e; exact .inr ⟨fun _ _ => rfl, rfl⟩
  | bl b => cases e; exact .inr ⟨fun _ _ => rfl, rfl⟩
  | int i => cases e; exact .inr ⟨fun _ _ => rfl, rfl⟩
  | str s => cases e; exact .inr ⟨fun _ _ => rfl, rfl⟩
  | tup ds => cases e; exact .inl ⟨ds, rfl, rfl⟩
  | fl ds => cases e; exact .inr ⟨fun _ _ => rfl, rfl⟩
  | ty n => cases e
  | ref a =>
    have e : (match h a with
      | some (.lst _) => some Kd.lst
      | some (.dK _) => some Kd.dct
      | some (.dT _) => some Kd.dct
      | _ => none) = some z := e
    refine .inr ⟨fun _ _ => rfl, ?_⟩
    split at e <;> cases e <;> rfl
theorem p_is_sized (ds : List D) (h : HD) (Q : DK) (E : XD) (hs : sp_is_sized ds h Q E) : t_is_sized P w K W { nx := fun _ h' => Q .non h', rt := Q } (startD [("thing" : Str), ("least" : Str), ("most" : Str)] ds) h := by
  obtain ⟨x, lo, hi, z, rfl, hk, q⟩ := hs
  refine .inl ⟨z, .tup, hk, rfl, ?_⟩
  rcases kd_isT hk with ⟨xs, rfl, rfl⟩ | ⟨n, zf⟩
  · change Q (.bl (decide (lo ≤ (xs.length : Int)) && decide ((xs.length : Int) ≤ hi))) h at q
    refine ifB (fun _ => .inl ⟨trivial, ifB (c := decide (lo ≤ (xs.length : Int))) (fun c => ?_) (fun c => ?_)⟩) (fun c => by cases c)
    · rw [c] at q; exact ⟨trivial, q⟩
    · rw [c] at q; exact q
  · rw [n] at q
    exact ifB (c := z.isa .tup) (fun c => by rw [zf] at c; cases c) fun _ => q
theorem shp_int (i : Int) : shp (.int i) := ⟨rfl, rfl⟩
theorem shp_bl (i : Bool) : shp (.bl i) := ⟨rfl, rfl⟩
theorem shp_non : shp .non := ⟨rfl, rfl⟩
theorem eqD_int (i j : Int) : eqD (.int i) (.int j) = decide (i = j) := by
  simp only [eqD, toP, PyData.eqv]
  exact Bool.eq_iff_iff.mpr (by simp)
theorem szd_eq (xs : List D) (n : Nat) : szd (.tup xs) n n = decide ((xs.length : Int) = (n : Int)) := by
  show (decide ((n : Int) ≤ (xs.length : Int)) && decide ((xs.length : Int) ≤ (n : Int))) = _
  by_cases e : (xs.length : Int) = n
  · rw [e]; simp
  · rw [decide_eq_false e, ← Bool.not_eq_true, Bool.and_eq_true, decide_eq_true_eq, decide_eq_true_eq]
    omega
theorem p_is_pair (ds : List D) (h : HD) (Q : DK) (E : XD) (hs : sp_is_pair ds h Q E) : t_is_pair P w K W { nx := fun _ h' => Q .non h', rt := Q } (startD [("thing" : Str)] ds) h := by
  obtain ⟨x, z, rfl, hk, q⟩ := hs
  refine .inl ⟨z, .tup, hk, rfl, ?_⟩
  rcases kd_isT hk with ⟨xs, rfl, rfl⟩ | ⟨n, zf⟩
  · rw [show szd (.tup xs) 2 2 = decide ((xs.length : Int) = 2) from szd_eq xs 2, ← eqD_int] at q
    exact ifB (fun _ => .inl ⟨shp_int _, shp_int _, q⟩) (fun c => by cases c)
  · rw [n] at q
    exact ifB (c := z.isa .tup) (fun c => by rw [zf] at c; cases c) fun _ => q
theorem p_is_triple (ds : List D) (h : HD) (Q : DK) (E : XD) (hs : sp_is_triple ds h Q E) : t_is_triple P w K W { nx := fun _ h' => Q .non h', rt := Q } (startD [("thing" : Str)] ds) h := by
  obtain ⟨x, z, rfl, hk, q⟩ := hs
  refine .inl ⟨z, .tup, hk, rfl, ?_⟩
  rcases kd_isT hk with ⟨xs, rfl, rfl⟩ | ⟨n, zf⟩
  · rw [show szd (.tup xs) 3 3 = decide ((xs.length : Int) = 3) from szd_eq xs 3, ← eqD_int] at q
    exact ifB (fun _ => .inl ⟨shp_int _, shp_int _, q⟩) (fun c => by cases c)
  · rw [n] at q
    exact ifB (c := z.isa .tup) (fun c => by rw [zf] at c; cases c) fun _ => q

/-! ### fractions -/
theorem abs_nat (i : Int) : (if i < 0 then -i else i) = ((i.natAbs : Nat) : Int) := by
  split <;> omega
theorem gcd_run (c : CT) (b : CS) (ix : Nat → Nat → En) (Z : DE) (h : HD) (hc : ∀ (x y : Nat) (Q : Bool → HD → Prop), Q (decide (y ≠ 0)) h → c (ix x y) h Q) (hb : ∀ (x y : Nat) (Y : DE), y ≠ 0 → Y.nx (ix y (x % y)) h → b Y (ix x y) h) :
    ∀ (n x y : Nat), y < n → Z.nx (ix (Nat.gcd x y) 0) h → cWh c b Z n (ix x y) h
  | 0, _, _, e, _ => by omega
  | n + 1, x, y, e, q => by
    refine hc x y _ ?_
    refine ifB (fun e1 => ?_) (fun e1 => ?_)
    · have ny : y ≠ 0 := of_decide_eq_true e1
      refine hb x y _ ny (gcd_run c b ix Z h hc hb n y (x % y) (by have := Nat.mod_lt x (Nat.pos_of_ne_zero ny); omega) ?_)
      rw [Nat.gcd_comm x y, Nat.gcd_rec] at q
      rw [Nat.gcd_comm]
      exact q
    · have ny : y = 0 := by
        have := of_decide_eq_false e1
        omega
      subst ny
      rw [Nat.gcd_zero_right] at q
      exact q
theorem nat_mod (x y : Nat) : ((x : Nat) : Int) % ((y : Nat) : Int) = ((x % y : Nat) : Int) := by omega
theorem p_divisor (ds : List D) (h : HD) (Q : DK) (E : XD) (hs : sp_divisor ds h Q E) : t_divisor P w K W { nx := fun _ h' => Q .non h', rt := Q } (startD [("one" : Str), ("other" : Str)] ds) h := by
  obtain ⟨a, b, rfl, q⟩ := hs
  have e1 := abs_nat a
  have e2 := abs_nat b
  show cWhile _ _ _ [some (.int (if a < 0 then -a else a)), some (.int (if b < 0 then -b else b))] h
  rw [e1, e2]
  refine ⟨b.natAbs + 1, gcd_run _ _ (fun x y => [some (.int (x : Nat)), some (.int (y : Nat))]) _ h (fun x y Q1 q1 => ?_) (fun x y Y ny q1 => ?_) _ _ _ (Nat.lt_succ_self _) ?_⟩
  · refine ⟨shp_int _, shp_int _, ?_⟩
    show Q1 (!eqD (.int (y : Nat)) (.int 0)) h
    rw [eqD_int]
    have : (!decide (((y : Nat) : Int) = 0)) = decide (y ≠ 0) := by
      by_cases z : y = 0
      · subst z; rfl
      · have : ¬ ((y : Nat) : Int) = 0 := by omega
        rw [decide_eq_false this, decide_eq_true z]; rfl
    rw [this]
    exact q1
  · refine ⟨by show (0 : Int) < (y : Nat); omega, ?_⟩
    show Y.nx [some (.int (y : Nat)), some (.int (((x : Nat) : Int) % ((y : Nat) : Int)))] h
    rw [nat_mod]
    exact q1
  · exact q
theorem gcdI_pos {t b : Int} (hb : 0 < b) : 0 < gcdI t b := by
  unfold gcdI
  have : 0 < Int.gcd t b := Int.gcd_pos_of_ne_zero_right t (by omega)
  omega
theorem gcdI_le {t b : Int} (hb : 0 < b) : gcdI t b ≤ b := by
  unfold gcdI
  exact Int.le_of_dvd hb (Int.gcd_dvd_right ..)
theorem log_le {a b : Int} (h0 : 0 < a) (h : a ≤ b) (hb : b.natAbs.log2 < 9000) : a.natAbs.log2 < 9000 := by
  have h1 : a.natAbs ≠ 0 := by omega
  have h2 : b.natAbs ≠ 0 := by omega
  rw [Nat.log2_lt h1]
  rw [Nat.log2_lt h2] at hb
  omega
theorem p_lowest (ds : List D) (h : HD) (Q : DK) (E : XD) (hs : sp_lowest ds h Q E) : t_lowest P w K W { nx := fun _ h' => Q .non h', rt := Q } (startD [("top" : Str), ("bottom" : Str), ("common" : Str)] ds) h := by
  obtain ⟨t, b, rfl, hb, hl, q⟩ := hs
  have d : CDivW t (gcdI t b) := ⟨gcdI_pos hb, log_le (gcdI_pos hb) (gcdI_le hb) hl⟩
  have d2 : CDivW b (gcdI t b) := d
  refine ⟨trivial, ifB (c := decide ((0 : Int) < b)) (fun _ => ?_) (fun c => absurd hb (of_decide_eq_false c))⟩
  refine ⟨t, b, rfl, ?_⟩
  exact ⟨d, d2, by show 2 ≤ sizeLine; decide, q⟩
theorem few_log {n : Nat} {a : Int} (h : a.natAbs < 2 ^ n) (hn : 0 < n) : a.natAbs.log2 < n := by
  by_cases z : a.natAbs = 0
  · rw [z]; simpa using hn
  · exact (Nat.log2_lt z).mpr h
theorem few_mul {x y : Int} (hx : x.natAbs < 2 ^ 4000) (hy : y.natAbs < 2 ^ 4000) : CMulW x y := by
  have h1 := few_log hx (by decide)
  have h2 := few_log hy (by decide)
  show x.natAbs.log2 + y.natAbs.log2 < 1000000
  omega
theorem few_mul2 {x y : Int} (hx : x.natAbs < 2 ^ 4000) (hy : y.natAbs < 2 ^ 4000) (px : 0 < x) (py : 0 < y) : 0 < x * y ∧ (x * y).natAbs.log2 < 9000 := by
  have p := Int.mul_pos px py
  refine ⟨p, ?_⟩
  have h : (x * y).natAbs < 2 ^ 4000 * 2 ^ 4000 := by
    rw [Int.natAbs_mul]
    exact Nat.mul_lt_mul_of_lt_of_le hx (Nat.le_of_lt hy) (Nat.two_pow_pos _)
  rw [← Nat.pow_add] at h
  have := few_log (n := 4000 + 4000) h (by decide)
  omega
theorem p_plus (ds : List D) (h : HD) (Q : DK) (E : XD) (hs : sp_plus ds h Q E) : t_plus P w K W { nx := fun _ h' => Q .non h', rt := Q } (startD [("one" : Str), ("other" : Str)] ds) h := by
  obtain ⟨x, y, rfl, ⟨px, x1, x2⟩, ⟨py, y1, y2⟩, q⟩ := hs
  obtain ⟨p, l⟩ := few_mul2 x2 y2 px py
  exact .inl ⟨_, rfl, .inl ⟨_, rfl, few_mul x1 y2, .inl ⟨_, rfl, .inl ⟨_, rfl, few_mul y1 x2, .inl ⟨_, rfl, .inl ⟨_, rfl, few_mul x2 y2, _, _, rfl, p, l, q⟩⟩⟩⟩⟩⟩
theorem p_l_plus (ds : List D) (h : HD) (Q : DK) (E : XD) (hs : sp_plus ds h Q E) : t_l_plus P w K W { nx := fun _ h' => Q .non h', rt := Q } (startD [("_law_one" : Str), ("_law_other" : Str)] ds) h := by
  obtain ⟨x, y, rfl, ⟨px, x1, x2⟩, ⟨py, y1, y2⟩, q⟩ := hs
  obtain ⟨p, l⟩ := few_mul2 x2 y2 px py
  exact .inl ⟨_, rfl, .inl ⟨_, rfl, few_mul x1 y2, .inl ⟨_, rfl, .inl ⟨_, rfl, few_mul y1 x2, .inl ⟨_, rfl, .inl ⟨_, rfl, few_mul x2 y2, _, _, rfl, p, l, q⟩⟩⟩⟩⟩⟩
theorem sum_loop (hl : HD → Prop) (a o : Option D) (Z : DE) (h : HD) (hok : hl h) : ∀ (xs : List (Int × Int)) (acc : Int × Int) (o : Option D), sumOk acc xs → (∀ o, Z.nx [a, some (prD2 (xs.foldl plusI acc)), o] h) →
    cLoop hl (cName 2) (cSet 1 (cFn sp_plus (fun _ => noX) (cCons (cVar 1) (cCons (cVar 2) cNil)))) Z (xs.map prD2) [a, some (prD2 acc), o] h
  | [], acc, o, _, q => ⟨hok, q o⟩
  | x :: xs, acc, o, ⟨h1, h2, h3⟩, q => ⟨hok, acc, x, rfl, h1, h2, sum_loop hl a o Z h hok xs (plusI acc x) (some (prD2 x)) h3 q⟩
theorem p_total (ds : List D) (h : HD) (Q : DK) (E : XD) (hs : sp_total ds h Q E) : t_total P w K W { nx := fun _ h' => Q .non h', rt := Q } (startD [("fractions" : Str), ("found" : Str), ("one" : Str)] ds) h := by
  obtain ⟨a, xs, rfl, e, ok, q⟩ := hs
  exact .inl ⟨_, e, sum_loop _ _ none _ h e xs (0, 1) none ok fun o => q⟩
theorem p_l_sum (ds : List D) (h : HD) (Q : DK) (E : XD) (hs : sp_total ds h Q E) : t_l_sum P w K W { nx := fun _ h' => Q .non h', rt := Q } (startD [("_law_some" : Str), ("_law_found" : Str), ("_law_one" : Str)] ds) h := by
  obtain ⟨a, xs, rfl, e, ok, q⟩ := hs
  exact ⟨by show 2 ≤ sizeLine; decide, .inl ⟨_, e, sum_loop _ _ none _ h e xs (0, 1) none ok fun o => q⟩⟩
theorem p_l_low (ds : List D) (h : HD) (Q : DK) (E : XD) (hs : sp_l_low ds h Q E) : t_l_low P w K W { nx := fun _ h' => Q .non h', rt := Q } (startD [("_law_top" : Str), ("_law_bottom" : Str), ("_law_one" : Str), ("_law_other" : Str)] ds) h := by
  obtain ⟨t, b, rfl, hb, hl, q⟩ := hs
  have e1 := abs_nat t
  have e2 : b = ((b.natAbs : Nat) : Int) := by omega
  have d : CDivW t (gcdI t b) := ⟨gcdI_pos hb, log_le (gcdI_pos hb) (gcdI_le hb) hl⟩
  have d2 : CDivW b (gcdI t b) := d
  show cSeq (cWhile _ _) _ _ [some (.int t), some (.int b), some (.int (if t < 0 then -t else t)), some (.int b)] h
  have go : ∀ c : Int, c = ((b.natAbs : Nat) : Int) → t_l_low P w K W { nx := fun _ h' => Q .non h', rt := Q } (startD [("_law_top" : Str), ("_law_bottom" : Str), ("_law_one" : Str), ("_law_other" : Str)] [.int t, .int b]) h := fun c ec => by
    refine ⟨b.natAbs + 1, ?_⟩
    have z := gcd_run (cT (cOp cGt (cVar 3) (cC (.int 0)))) (cPar 2 3 (cCons (cVar 3) (cCons (cOp cMod (cCall cInt (cCons (cVar 2) cNil)) (cVar 3)) cNil))) (fun x y => [some (.int t), some (.int b), some (.int (x : Nat)), some (.int (y : Nat))])
      { nx := (cRet (cTup (cCons (cOp cFdiv (cVar 0) (cVar 2)) (cCons (cOp cFdiv (cVar 1) (cVar 2)) cNil)))) { nx := fun _ h' => Q .non h', rt := Q }, rt := Q } h (fun x y Q1 q1 => ?_) (fun x y Y ny q1 => ?_) (b.natAbs + 1) t.natAbs b.natAbs (Nat.lt_succ_self _) ?_
    · rw [← e1, ← e2] at z
      exact z
    · refine ⟨trivial, ?_⟩
      have : decide ((0 : Int) < (y : Nat)) = decide (y ≠ 0) := by
        by_cases z : y = 0
        · subst z; rfl
        · rw [decide_eq_true z, decide_eq_true (by omega)]
      show Q1 (decide ((0 : Int) < (y : Nat))) h
      rw [this]
      exact q1
    · refine ⟨by show (0 : Int) < (y : Nat); omega, ?_⟩
      show Y.nx [some (.int t), some (.int b), some (.int (y : Nat)), some (.int (((x : Nat) : Int) % ((y : Nat) : Int)))] h
      rw [nat_mod]
      exact q1
    · exact ⟨d, d2, by show 2 ≤ sizeLine; decide, q⟩
  exact go b e2
end
end PD

-- PdQ
set_option Elab.async false
set_option linter.all false
set_option maxRecDepth 100000
set_option maxHeartbeats 4000000
/-! PdQ: the plain laws of the drawing. -/
namespace PD
open PySem PySem.Spec PyProof.Rows L2
section
variable {P : Program} {w : World} {K : PySem.W.Frag} {W : En → XD} {h : HD} {Q : DK} {Z : DE}
theorem ifT {c : Bool} {A B : Prop} (e : c = true) (t : A) : if c = true then A else B := ifB (fun _ => t) fun f => by rw [e] at f; cases f
theorem ifF {c : Bool} {A B : Prop} (e : c = false) (t : B) : if c = true then A else B := ifB (fun f => by rw [e] at f; cases f) fun _ => t
theorem few_small {i : Int} (h0 : 0 ≤ i) (n : Nat) (h : i < ((2 ^ n : Nat) : Int)) (hn : 0 < n) : i.natAbs.log2 < n := few_log (by omega) hn
theorem p64 : ((2 ^ 64 : Nat) : Int) = 18446744073709551616 := by decide
theorem p80 : ((2 ^ 80 : Nat) : Int) = 1208925819614629174706176 := by decide
theorem p31 : ((2 ^ 31 : Nat) : Int) = 2147483648 := by decide
theorem p10 : ((2 ^ 10 : Nat) : Int) = 1024 := by decide
theorem small_mul {i j : Int} (n m : Nat) (h0 : 0 ≤ i) (h : i < ((2 ^ n : Nat) : Int)) (j0 : 0 ≤ j) (g : j < ((2 ^ m : Nat) : Int)) (hn : 0 < n ∧ 0 < m ∧ n + m < 1000000) : CMulW i j := by
  have h1 := few_small h0 n h hn.1
  have h2 := few_small j0 m g hn.2.1
  show i.natAbs.log2 + j.natAbs.log2 < 1000000
  omega
theorem divw {i j : Int} (h : 0 < j) (g : j < ((2 ^ 64 : Nat) : Int)) : CDivW i j := by
  refine ⟨h, ?_⟩
  have := few_small (Int.le_of_lt h) 64 g (by decide)
  omega
theorem modR (x : Int) : 0 ≤ x % 2147483647 ∧ x % 2147483647 < 2147483647 := ⟨Int.emod_nonneg _ (by decide), Int.emod_lt_of_pos _ (by decide)⟩
theorem m1009 (x : Int) : CMulW (x % 2147483647) (x % 2147483647 / 1009 + 69621) := by
  obtain ⟨h1, h2⟩ := modR x
  generalize x % 2147483647 = y at h1 h2
  have := p31
  exact small_mul 31 31 h1 (by omega) (by omega) (by omega) (by decide)
theorem m2003 (x : Int) : CMulW (x % 2147483647) (x % 2147483647 / 2003 + 40692) := by
  obtain ⟨h1, h2⟩ := modR x
  generalize x % 2147483647 = y at h1 h2
  have := p31
  exact small_mul 31 31 h1 (by omega) (by omega) (by omega) (by decide)
theorem p_l_draw (ds : List D) (h : HD) (Q : DK) (E : XD) (hs : sp_l_draw ds h Q E) : t_l_draw P w K W { nx := fun _ h' => Q .non h', rt := Q } (startD [("_law_hand_here" : Str), ("_law_many" : Str), ("_law_number_here" : Str), ("_law_cell" : Str), ("_law_digit" : Str)] ds) h := by
  obtain ⟨a, b, m, rfl, H, hb, hm, hl, q⟩ := hs
  obtain ⟨c, ns, p, g, st, n, e1, e2, nac, pos, p0, p1, g0, s0, s1, n0, n1⟩ := H
  refine ⟨fun ρ h' => ∃ (p g st : Int) (o : Option D), ρ = [some (.ref a), some (.int m), none, o, none] ∧ ExB a h h' ∧ h' a = some (.lst [.ref c, .int p, .int g, .int st, .int n]) ∧ h' c = some (.lst (ns.map D.int)) ∧ 0 ≤ p ∧ p ≤ (ns.length : Int) ∧ 0 ≤ g ∧ 0 ≤ st ∧ st < 2147483648, ?_, ?_⟩
  · have stay : ∃ (p' g' st' : Int) (o : Option D), [some (.ref a), some (.int m), none, none, none] = [some (D.ref a), some (.int m), none, o, none] ∧ ExB a h h ∧ h a = some (.lst [.ref c, .int p', .int g', .int st', .int n]) ∧ h c = some (.lst (ns.map D.int)) ∧ 0 ≤ p' ∧ p' ≤ (ns.length : Int) ∧ 0 ≤ g' ∧ 0 ≤ st' ∧ st' < 2147483648 :=
      ⟨p, g, st, none, rfl, .refl a h, e1, e2, p0, p1, g0, s0, s1⟩
    refine .inl ⟨_, _, e1, rfl, shp_int _, shp_int _, ifB (fun _ => ?_) (fun _ => ifF rfl stay)⟩
    refine .inl ⟨_, _, e1, rfl, .inl ⟨_, _, e1, rfl, .inl (.inl ⟨_, e2, ifB (fun c1 => ?_) (fun _ => stay)⟩)⟩⟩
    have lt : p < ((ns.map D.int).length : Int) := of_decide_eq_true c1
    rw [List.length_map] at lt
    have lk : p.toNat < ns.length := by omega
    have at_ : atI (ns.map D.int) p = some (.int ns[p.toNat]) := by
      have := atI_nat (xs := ns.map D.int) (j := p.toNat) (v := D.int ns[p.toNat]) (by rw [List.getElem?_map, List.getElem?_eq_getElem lk]; rfl)
      rwa [Int.toNat_of_nonneg p0] at this
    have cz : 0 ≤ ns[p.toNat] := pos _ (List.getElem_mem lk)
    refine .inl ⟨_, _, e1, rfl, .inl ⟨_, _, e1, rfl, .inl ⟨_, _, e2, at_, ?_⟩⟩⟩
    -- the place moves on
    refine .inl ⟨_, _, e1, rfl, .inl ⟨_, _, e1, rfl, ?_⟩⟩
    generalize hx : ns[p.toNat] = x at cz
    have f1 : updD h a (.lst [.ref c, .int (p + 1), .int g, .int st, .int n]) a = some (.lst [.ref c, .int (p + 1), .int g, .int st, .int n]) := updD_same
    have b1 : ExB a h (updD h a (.lst [.ref c, .int (p + 1), .int g, .int st, .int n])) := .setH e1
    refine .inl ⟨_, _, f1, rfl, small_mul 31 20 s0 s1 (by decide) (by decide) (by decide), by show (0 : Int) < 2147483629; decide, ?_⟩
    refine .inl ⟨_, _, f1, rfl, ?_⟩
    have t0 : 0 ≤ ((st * 69621 + x + 11) % 2147483629) := by omega
    have t1 : ((st * 69621 + x + 11) % 2147483629) < 2147483648 := by omega
    have f2 : updD (updD h a (.lst [.ref c, .int (p + 1), .int g, .int st, .int n])) a (.lst [.ref c, .int (p + 1), .int g, .int ((st * 69621 + x + 11) % 2147483629), .int n]) a = some (.lst [.ref c, .int (p + 1), .int g, .int ((st * 69621 + x + 11) % 2147483629), .int n]) := updD_same
    have b2 : ExB a h (updD (updD h a (.lst [.ref c, .int (p + 1), .int g, .int st, .int n])) a (.lst [.ref c, .int (p + 1), .int g, .int ((st * 69621 + x + 11) % 2147483629), .int n])) := b1.trans (.setH f1)
    refine ⟨⟨by decide, by decide, by decide⟩, trivial, ifB (fun _ => ?_) (fun _ => ?_)⟩
    · refine .inl ⟨_, _, f2, rfl, p + 1, x, ((st * 69621 + x + 11) % 2147483629), _, rfl, b2.trans (.setH f2), updD_same, ?_, by omega, by omega, cz, t0, t1⟩
      exact (b2.trans (.setH f2)).keep c _ (Ne.symm nac) e2
    · exact ⟨p + 1, g, ((st * 69621 + x + 11) % 2147483629), _, rfl, b2, f2, b2 c _ (Ne.symm nac) e2, by omega, by omega, g0, t0, t1⟩
  · rintro ρ h1 ⟨p, g, st, o, rfl, x1, e1, e2, p0, p1, g0, s0, s1⟩
    refine .inl ⟨_, _, e1, rfl, trivial, ifB (fun c1 => ?_) (fun c1 => ?_)⟩
    · have gp : 0 < g := of_decide_eq_true c1
      refine .inl ⟨_, _, e1, rfl, hm, .inl ⟨_, _, e1, rfl, ⟨hm, hl⟩, .inl ⟨_, _, e1, rfl, ?_⟩⟩⟩
      have y := x1.trans (ExB.setH (h := h1) (ds' := [.int p, .int (g / m), .int st, .int n]) e1)
      refine q _ (g % m) y ⟨c, ns, p, g / m, st, n, updD_same, ?_, nac, pos, p0, p1, Int.ediv_nonneg g0 (Int.le_of_lt hm), s0, s1, n0, by omega⟩ (Int.emod_nonneg _ (by omega)) (Int.emod_lt_of_pos _ hm)
      exact (ExB.setH e1).keep c _ (Ne.symm nac) e2
    · refine .inl ⟨_, _, e1, rfl, .inl ⟨_, _, e1, rfl, ?_⟩⟩
      have f1 : updD h1 a (.lst [.ref c, .int p, .int g, .int st, .int (n + 1)]) a = some (.lst [.ref c, .int p, .int g, .int st, .int (n + 1)]) := updD_same
      have y := x1.trans (ExB.setH (h := h1) (ds' := [.int p, .int g, .int st, .int (n + 1)]) e1)
      have nb : n + 1 < ((2 ^ 64 : Nat) : Int) := by
        have := p64
        have h15 : (10 : Nat) ^ 15 = 1000000000000000 := by decide
        omega
      have m1 : (0 : Int) < 2147483647 := by decide
      refine .inl ⟨_, _, f1, rfl, .inl ⟨_, _, f1, rfl, small_mul 13 64 (by decide) (by decide) (by omega) nb (by decide), ?_⟩⟩
      have b80 : st + 7919 * (n + 1) < ((2 ^ 80 : Nat) : Int) := by
        have := p64
        have := p80
        omega
      refine ⟨small_mul 80 16 (by omega) b80 (by decide) (by decide) (by decide), m1, ?_⟩
      refine ⟨divw (by decide) (by decide), m1009 _, m1, divw (by decide) (by decide), m2003 _, by show (0 : Int) < 2147483399; decide, divw (by decide) (by decide), hm, ?_⟩
      refine q _ _ y ⟨c, ns, p, g, st, n + 1, updD_same, ?_, nac, pos, p0, p1, g0, s0, s1, by omega, by omega⟩ (Int.emod_nonneg _ (by omega)) (Int.emod_lt_of_pos _ hm)
      exact (ExB.setH e1).keep c _ (Ne.symm nac) e2
theorem p_l_any (ds : List D) (h : HD) (Q : DK) (E : XD) (hs : sp_l_any ds h Q E) : t_l_any P w K W { nx := fun _ h' => Q .non h', rt := Q } (startD [("_law_hand_here" : Str), ("_law_things" : Str)] ds) h := by
  obtain ⟨a, b, x, xs, rfl, H, hb, ne, hl, hx, q⟩ := hs
  have lp : 0 < xs.length := List.length_pos_iff.mpr ne
  have draw : sp_l_draw [.ref a, .int xs.length] h (fun y h2 => (cIxA P w) x y h2 Q) noX := by
    refine ⟨a, b, xs.length, rfl, H, hb, by omega, ?_, fun h' i y Hh i0 i1 => ?_⟩
    · have := p10
      have := few_small (i := (xs.length : Int)) (by omega) 10 (by omega) (by decide)
      omega
    · have il : i.toNat < xs.length := by omega
      have at_ : atI xs i = some xs[i.toNat] := by
        have := atI_nat (xs := xs) (j := i.toNat) (v := xs[i.toNat]) (List.getElem?_eq_getElem il)
        rwa [Int.toNat_of_nonneg i0] at this
      have fin := q h' xs[i.toNat] y Hh (List.getElem_mem il)
      rcases hx with rfl | ⟨p, rfl, pa, e⟩
      · exact .inl ⟨_, at_, fin⟩
      · exact .inl ⟨_, _, y p _ pa e, at_, fin⟩
  rcases hx with rfl | ⟨p, rfl, pa, e⟩
  · exact .inl draw
  · exact .inl (.inl ⟨_, e, draw⟩)
theorem p_l_is (ds : List D) (h : HD) (Q : DK) (E : XD) (hs : sp_l_is ds h Q E) : t_l_is P w K W { nx := fun _ h' => Q .non h', rt := Q } (startD [("_law_told_here" : Str), ("_law_due_here" : Str)] ds) h := by
  obtain ⟨x, y, p, q, rfl, d1, d2, s1, s2, l1, l2, z1, z2, k⟩ := hs
  exact ⟨p, d1, s1, l1, z1, q, d2, s2, l2, z2, k⟩
theorem cut63 (ns : List Int) (h : ns.length ≤ 63) : cutD (ns.map D.int) none (some 63) = ns.map D.int := by
  unfold cutD
  have e1 : HT.sIx (ns.map D.int).length 0 none = 0 := rfl
  have e2 : HT.sIx (ns.map D.int).length (ns.map D.int).length (some 63) = min 63 (ns.map D.int).length := rfl
  rw [e1, e2, List.drop_zero, List.take_of_length_le (by rw [List.length_map]; omega)]
theorem cVar_eq {ρ : En} {i : Nat} {d : D} {k : DK} (e : ρ[i]? = some (some d)) : cVar i ρ h k = k d h := by
  unfold cVar
  rw [e]
theorem abs_loop (ok : HD → Prop) (Q : DK) (ρ : En) (h : HD) (hok : ok h) (r0 : ρ.length = 3) : ∀ (ns : List Int) (acc : List Int), (∀ p, h p = none → Q (.ref p) (updD h p (.lst ((acc ++ ns.map fun n => ((n.natAbs : Nat) : Int)).map D.int)))) →
    cLcGo ok (.one 2) cYes (cCall cAbs (cCons (cCall cInt (cCons (cVar 2) cNil)) cNil)) ρ Q (ns.map D.int) (acc.map D.int) h
  | [], acc, q => ⟨hok, fun p np => by have := q p np; simpa using this⟩
  | n :: ns, acc, q => by
    refine ⟨hok, ?_⟩
    have e : (ρ.set 2 (some (D.int n)))[2]? = some (some (.int n)) := List.getElem?_set_self (by omega)
    show cVar 2 (ρ.set 2 (some (D.int n))) h _
    rw [cVar_eq e]
    show cLcGo ok _ _ _ _ _ _ (acc.map D.int ++ [.int (if n < 0 then -n else n)]) h
    rw [abs_nat]
    have := abs_loop ok Q ρ h hok r0 ns (acc ++ [((n.natAbs : Nat) : Int)]) (fun p np => by have := q p np; simpa using this)
    simpa using this
theorem p_l_hand (ds : List D) (h : HD) (Q : DK) (E : XD) (hs : sp_l_hand ds h Q E) : t_l_hand P w K W { nx := fun _ h' => Q .non h', rt := Q } (startD [("_law_script" : Str), ("_law_cells" : Str), ("_law_cell" : Str)] ds) h := by
  obtain ⟨ns, rfl, hl, q⟩ := hs
  refine .inl fun p np => ?_
  rw [cut63 ns hl]
  refine ⟨_, updD_same, ?_, ?_⟩
  · show (ns.map D.int).length ≤ sizeLine
    rw [List.length_map, sizeLine_eq]; omega
  refine abs_loop _ _ _ _ updD_same rfl ns [] fun p2 np2 => ?_
  have ne2 : p2 ≠ p := fun z => by rw [z, updD_same] at np2; cases np2
  refine .inl (.inl ⟨_, updD_same, ?_⟩)
  refine ⟨by show 5 ≤ sizeLine; decide, fun p3 np3 => ?_⟩
  have x1 : Ex h (updD h p (.lst (ns.map D.int))) := .new np
  have x2 := x1.new' (o := .lst (([] ++ ns.map fun n : Int => ((n.natAbs : Nat) : Int)).map D.int)) np2
  have x3 := x2.new' (o := .lst [.ref p2, .int 0, .int 0, .int (1 + ((([] ++ ns.map fun n : Int => ((n.natAbs : Nat) : Int)).map D.int).length : Int)), .int 0]) np3
  refine q _ p3 x3 ?_ ⟨p2, [] ++ ns.map fun n : Int => ((n.natAbs : Nat) : Int), 0, 0, _, 0, updD_same, ?_, ?_, ?_, Int.le_refl _, by omega, Int.le_refl _, by omega, ?_, Int.le_refl _, by omega⟩
  · cases z : h p3 with
    | none => rfl
    | some o => rw [x2 _ _ z] at np3; cases np3
  · have ne3 : p2 ≠ p3 := fun z => by rw [← z, updD_same] at np3; cases np3
    rw [updD_ne ne3]; exact updD_same
  · intro z; rw [z, updD_same] at np3; cases np3
  · intro x hx
    rw [List.nil_append, List.mem_map] at hx
    obtain ⟨n, _, rfl⟩ := hx
    omega
  · simp only [List.nil_append, List.length_map]
    omega
end
end PD

-- PdR
set_option Elab.async false
set_option linter.all false
set_option maxRecDepth 100000
set_option maxHeartbeats 4000000
/-! PdR: the plain laws of fractions and shares. -/
namespace PD
open PySem PySem.Spec PyProof.Rows L2
section
variable {P : Program} {w : World} {K : PySem.W.Frag} {W : En → XD} {h : HD} {Q : DK} {Z : DE}
theorem isFr_no {xs : List D} (n : xs.length ≠ 2) : isFr (.tup xs) = false := by
  unfold isFr
  split
  · rename_i e
    cases e
    exact absurd rfl n
  · rfl
theorem two_or (x : D) : (∃ a b, x = .tup [a, b]) ∨ (szd x 2 2 = false ∧ isFr x = false) := by
  cases x with
  | tup xs =>
    match xs with
    | [] => exact .inr ⟨rfl, isFr_no (by decide)⟩
    | [_] => exact .inr ⟨rfl, isFr_no (by simp)⟩
    | [a, b] => exact .inl ⟨a, b, rfl⟩
    | a :: b :: c :: r =>
      refine .inr ⟨?_, isFr_no (by simp)⟩
      rw [show szd (.tup (a :: b :: c :: r)) 2 2 = decide (((a :: b :: c :: r).length : Int) = 2) from szd_eq _ 2, decide_eq_false_iff_not]
      simp only [List.length_cons]
      omega
  | _ => exact .inr ⟨rfl, rfl⟩
theorem isI_or (x : D) : (∃ i, x = .int i) ∨ isI x = false := by
  cases x with
  | int i => exact .inl ⟨i, rfl⟩
  | _ => exact .inr rfl
theorem isFr_l {a b : D} (h : isI a = false) : isFr (.tup [a, b]) = false := by
  cases a with
  | int i => cases h
  | _ => rfl
theorem isFr_r {a b : D} (h : isI b = false) : isFr (.tup [a, b]) = false := by
  cases b with
  | int i => cases h
  | _ => cases a <;> rfl
theorem p_is_fraction (ds : List D) (h : HD) (Q : DK) (E : XD) (hs : sp_is_fraction ds h Q E) : t_is_fraction P w K W { nx := fun _ h' => Q .non h', rt := Q } (startD [("thing" : Str)] ds) h := by
  obtain ⟨x, rfl, ⟨⟨z, hk⟩, hp⟩, q⟩ := hs
  refine ⟨x, z, rfl, hk, ?_⟩
  rcases two_or x with ⟨a, b, rfl⟩ | ⟨h1, h2⟩
  · obtain ⟨⟨za, ka⟩, zb, kb⟩ := hp a b rfl
    refine ifF (c := !szd (.tup [a, b]) 2 2) rfl ?_
    refine .inl ⟨a, rfl, a, za, rfl, ka, ?_⟩
    rcases isI_or a with ⟨i, rfl⟩ | ha
    · refine ifF (c := !isI (.int i)) rfl ?_
      refine .inl ⟨b, rfl, b, zb, rfl, kb, ?_⟩
      rcases isI_or b with ⟨j, rfl⟩ | hb
      · refine ifF (c := !isI (.int j)) rfl ?_
        change Q (.bl (decide (0 < j) && decide (gcdI i j = 1))) h at q
        refine .inl ⟨_, rfl, trivial, ?_⟩
        refine ifB (c := decide ((0 : Int) < j)) (fun c => ?_) (fun c => ?_)
        · rw [c] at q
          refine .inl ⟨_, rfl, .inl ⟨_, rfl, i, j, rfl, shp_int _, shp_int _, ?_⟩⟩
          rw [eqD_int]
          exact q
        · rw [c] at q; exact q
      · refine ifT (c := !isI b) (by rw [hb]; rfl) ?_
        rw [isFr_r hb] at q
        exact q
    · refine ifT (c := !isI a) (by rw [ha]; rfl) ?_
      rw [isFr_l ha] at q
      exact ifT rfl q
  · refine ifT (c := !szd x 2 2) (by rw [h1]; rfl) ?_
    rw [h2] at q
    exact ifT rfl q
theorem fr_two {x : D} (e : isFr x = true) : ∃ i j, x = .tup [.int i, .int j] ∧ 0 < j ∧ gcdI i j = 1 := by
  rcases two_or x with ⟨a, b, rfl⟩ | ⟨h1, h2⟩
  · rcases isI_or a with ⟨i, rfl⟩ | ha
    · rcases isI_or b with ⟨j, rfl⟩ | hb
      · have e' : (decide (0 < j) && decide (gcdI i j = 1)) = true := e
        rw [Bool.and_eq_true, decide_eq_true_eq, decide_eq_true_eq] at e'
        exact ⟨i, j, rfl, e'⟩
      · rw [isFr_r hb] at e; cases e
    · rw [isFr_l ha] at e; cases e
  · rw [h2] at e; cases e
theorem p_is_share (ds : List D) (h : HD) (Q : DK) (E : XD) (hs : sp_is_share ds h Q E) : t_is_share P w K W { nx := fun _ h' => Q .non h', rt := Q } (startD [("thing" : Str)] ds) h := by
  obtain ⟨x, rfl, hk, q⟩ := hs
  refine ⟨x, rfl, hk, ifB (c := isFr x) (fun c => ?_) (fun c => ?_)⟩
  · obtain ⟨i, j, rfl, _, _⟩ := fr_two c
    have e : isSh (.tup [.int i, .int j]) = (decide (0 < i) && decide (i ≤ j)) := by
      show (isFr (.tup [.int i, .int j]) && (decide (0 < i) && decide (i ≤ j))) = _
      rw [c, Bool.true_and]
    rw [e] at q
    refine .inl ⟨_, rfl, ifB (c := decide ((0 : Int) < i)) (fun c2 => ?_) (fun c2 => ?_)⟩
    · rw [c2] at q; exact .inl ⟨_, rfl, trivial, q⟩
    · rw [c2] at q; exact q
  · have e : isSh x = false := by unfold isSh; rw [c, Bool.false_and]
    rw [e] at q
    exact q
/-- a comprehension over pairs of numbers that tells flags -/
theorem flags_loop (ok : HD → Prop) (te : CE) (f : Int × Int → Bool) (i : Nat) (Q : DK) (ρ : En) (h : HD) (hok : ok h) (r0 : i < ρ.length) (ht : ∀ (x : Int × Int) (k : DK), k (.bl (f x)) h → te (ρ.set i (some (prD2 x))) h k) : ∀ (xs : List (Int × Int)) (acc : List Bool), (∀ p, h p = none → Q (.ref p) (updD h p (.lst ((acc ++ xs.map f).map D.bl)))) →
    cLcGo ok (.one i) cYes te ρ Q (xs.map prD2) (acc.map D.bl) h
  | [], acc, q => ⟨hok, fun p np => by have := q p np; simpa using this⟩
  | x :: xs, acc, q => by
    refine ⟨hok, ?_⟩
    refine ht x _ ?_
    have := flags_loop ok te f i Q ρ h hok r0 ht xs (acc ++ [f x]) (fun p np => by have := q p np; simpa using this)
    simpa using this
theorem prD2_kd (h : HD) (x : Int × Int) : kdP h (prD2 x) := ⟨⟨.tup, rfl⟩, fun a b e => by
  have e' : ([.int x.1, .int x.2] : List D) = [a, b] := D.tup.inj e
  injection e' with e1 e2
  injection e2 with e2 _
  subst e1 e2
  exact ⟨⟨.int, rfl⟩, .int, rfl⟩⟩
theorem eqD_pr (x : Int × Int) (i j : Int) : eqD (prD2 x) (.tup [.int i, .int j]) = decide (x = (i, j)) := by
  obtain ⟨a, b⟩ := x
  simp only [eqD, toP, toPs, prD2, PyData.eqv, PyData.eqvAll]
  exact Bool.eq_iff_iff.mpr (by simp)
theorem shp_pr (x : Int × Int) : shp (prD2 x) := ⟨rfl, rfl⟩
theorem p_are_shares (ds : List D) (h : HD) (Q : DK) (E : XD) (hs : sp_are_shares ds h Q E) : t_are_shares P w K W { nx := fun _ h' => Q .non h', rt := Q } (startD [("things" : Str), ("one" : Str)] ds) h := by
  obtain ⟨a, xs, rfl, e, hl, ok, q⟩ := hs
  refine .inl ⟨_, e, ?_, ?_⟩
  · show (xs.map prD2).length ≤ sizeLine
    rw [List.length_map, sizeLine_eq]; omega
  refine flags_loop _ _ (fun x => isSh (prD2 x)) 1 _ _ h e (by show 1 < 2; decide) (fun x k q1 => ⟨prD2 x, rfl, prD2_kd h x, q1⟩) xs [] fun p np => ?_
  have x1 : Ex h (updD h p (.lst (([] ++ xs.map fun x => isSh (prD2 x)).map D.bl))) := .new np
  have e2 := x1 a _ e
  refine ⟨[] ++ xs.map fun x => isSh (prD2 x), updD_same, ?_⟩
  have q2 := q _ x1
  have ea : (([] ++ xs.map fun x => isSh (prD2 x)).all id) = xs.all fun x => isSh (prD2 x) := by
    rw [List.nil_append, List.all_map]; rfl
  refine ifB (c := ([] ++ xs.map fun x => isSh (prD2 x)).all id) (fun c => ?_) (fun c => ?_)
  · rw [ea] at c
    rw [c, Bool.true_and] at q2
    refine ⟨a, xs, rfl, e2, ok, shp_pr _, shp_pr (1, 1), ?_⟩
    rw [eqD_pr]
    exact q2
  · rw [ea] at c
    rw [c, Bool.false_and] at q2
    exact q2
end
end PD

-- K63S
set_option Elab.async false
set_option linter.all false
set_option maxRecDepth 100000
set_option maxHeartbeats 4000000
/-! K63S: what the defs of k63 do, by data. -/
namespace K63
open PySem PySem.Spec PyProof.Rows L2 PD

/-! ### data of known kinds, of small numbers -/
mutual
/-- all parts are of known kinds; none is the thing at a; all numbers are at most N -/
def Kn (a : Addr) (N : Int) (h : HD) : D → Prop
  | .non => True
  | .bl _ => True
  | .int i => -N ≤ i ∧ i ≤ N
  | .str _ => True
  | .tup xs => KnA a N h xs
  | .fl _ => True
  | .ref b => b ≠ a ∧ ((∃ xs, h b = some (.lst xs)) ∨ ∃ kvs, h b = some (.dK kvs))
  | .ty _ => False
def KnA (a : Addr) (N : Int) (h : HD) : List D → Prop
  | [] => True
  | x :: xs => Kn a N h x ∧ KnA a N h xs
end
theorem KnA.all {a : Addr} {N : Int} {h : HD} : ∀ {xs : List D}, KnA a N h xs ↔ ∀ x ∈ xs, Kn a N h x
  | [] => ⟨fun _ x hx => (by cases hx), fun _ => trivial⟩
  | y :: ys => by
    show Kn a N h y ∧ KnA a N h ys ↔ _
    rw [KnA.all, List.forall_mem_cons]
theorem Kn.kd {a : Addr} {N : Int} {h : HD} {x : D} (k : Kn a N h x) : ∃ z, PD.kd h x = some z := by
  cases x with
  | non => exact ⟨_, rfl⟩
  | bl b => exact ⟨_, rfl⟩
  | int i => exact ⟨_, rfl⟩
  | str s => exact ⟨_, rfl⟩
  | tup xs => exact ⟨_, rfl⟩
  | fl xs => exact ⟨_, rfl⟩
  | ty n => exact k.elim
  | ref b =>
    obtain ⟨_, ⟨xs, e⟩ | ⟨kvs, e⟩⟩ := k
    · exact ⟨.lst, by show (match h b with | some (.lst _) => some Kd.lst | some (.dK _) => some Kd.dct | some (.dT _) => some Kd.dct | _ => none) = _; rw [e]⟩
    · exact ⟨.dct, by show (match h b with | some (.lst _) => some Kd.lst | some (.dK _) => some Kd.dct | some (.dT _) => some Kd.dct | _ => none) = _; rw [e]⟩
mutual
theorem Kn.ex {a : Addr} {N : Int} {h h' : HD} (x : ExB a h h') : ∀ {d : D}, Kn a N h d → Kn a N h' d
  | .non, _ => trivial
  | .bl _, _ => trivial
  | .int _, k => k
  | .str _, _ => trivial
  | .tup xs, k => KnA.ex x (xs := xs) k
  | .fl _, _ => trivial
  | .ref b, k => by
    obtain ⟨n, ⟨xs, e⟩ | ⟨kvs, e⟩⟩ := k
    · exact ⟨n, .inl ⟨xs, x b _ n e⟩⟩
    · exact ⟨n, .inr ⟨kvs, x b _ n e⟩⟩
  | .ty _, k => k
theorem KnA.ex {a : Addr} {N : Int} {h h' : HD} (x : ExB a h h') : ∀ {xs : List D}, KnA a N h xs → KnA a N h' xs
  | [], _ => trivial
  | d :: xs, k => ⟨Kn.ex x k.1, KnA.ex x k.2⟩
end
mutual
theorem Kn.le {a : Addr} {N M : Int} {h : HD} (x : N ≤ M) : ∀ {d : D}, Kn a N h d → Kn a M h d
  | .non, _ => trivial
  | .bl _, _ => trivial
  | .int _, k => ⟨by have := k.1; omega, by have := k.2; omega⟩
  | .str _, _ => trivial
  | .tup xs, k => KnA.le x (xs := xs) k
  | .fl _, _ => trivial
  | .ref b, k => k
  | .ty _, k => k
theorem KnA.le {a : Addr} {N M : Int} {h : HD} (x : N ≤ M) : ∀ {xs : List D}, KnA a N h xs → KnA a M h xs
  | [], _ => trivial
  | d :: xs, k => ⟨Kn.le x k.1, KnA.le x k.2⟩
end

/-! ### the judge -/
def lenT : D → Nat
  | .tup xs => xs.length
  | _ => 0
def areRows (x : D) : Bool := match x with
  | .tup rs => szd x 1 6 && (rs.all fun r => szd r 1 4) && rs.all fun r => decide (lenT r = lenT (rs.headD .non))
  | _ => false
def isStep (wo st : Int) (x : D) : Bool := match x with
  | .tup [a, b, c] => inW a 0 (wo - 1) && (isSh b && inW c 0 (st - 1))
  | _ => false
def pairOf (x : D) : Int × Int := match x with
  | .tup [.int a, _, .int c] => (a, c)
  | _ => (0, 0)
def shOf (x : D) : Int × Int := match x with
  | .tup [_, .tup [.int t, .int b], _] => (t, b)
  | _ => (0, 1)
def areSteps (wo st : Int) (x : D) : Bool := match x with
  | .tup xs => szd x 1 12 && (xs.all (isStep wo st)) && (decide ((xs.map pairOf).Nodup) && decide (sumI (xs.map shOf) = (1, 1)))
  | _ => false
def partD (s q w : Int) : D := .tup [.str "row", .int s, .int q, .int w]
/-- the first world whose steps are none -/
def worldBad (wo st : Int) (s q : Int) : Nat → List D → Option D
  | _, [] => none
  | i, x :: xs => if areSteps wo st x = true then worldBad wo st s q (i + 1) xs else some (partD s q i)
def questBad (nw wo st : Int) (s : Int) : Nat → List D → Option D
  | _, [] => none
  | i, x :: xs => match x with
    | .tup ys => if decide ((ys.length : Int) = nw) = true then (match worldBad wo st s i 0 ys with
      | some p => some p
      | none => questBad nw wo st s (i + 1) xs) else some (partD s i (-1))
    | _ => some (partD s i (-1))
def rowBad (nw wo st : Int) : Nat → List D → Option D
  | _, [] => none
  | i, x :: xs => match x with
    | .tup ys => (match questBad nw wo st i 0 ys with
      | some p => some p
      | none => rowBad nw wo st (i + 1) xs)
    | _ => rowBad nw wo st (i + 1) xs
/-- the first part that is none -/
def due (nw wo rows : D) : Option D := match nw, wo with
  | .int n, .int m => if inW nw 1 5 = true then (if inW wo 1 6 = true then (if areRows rows = true then (match rows with
      | .tup rs => rowBad n m rs.length 0 rs
      | _ => none) else some (.tup [.str "rows"])) else some (.tup [.str "words"])) else some (.tup [.str "worlds"])
  | .int n, _ => if inW nw 1 5 = true then some (.tup [.str "words"]) else some (.tup [.str "worlds"])
  | _, _ => some (.tup [.str "worlds"])
def optD : Option D → D
  | some d => d
  | none => .non

/-! ### contracts -/
abbrev N30 : Int := 1000000000000000000000000000000
def sp_are_rows : SpD := fun ds h Q _ => ∃ a x, ds = [x] ∧ Kn a N30 h x ∧ ∀ h', Ex h h' → Q (.bl (areRows x)) h'
def sp_is_step : SpD := fun ds h Q _ => ∃ a wo st x, ds = [.int wo, .int st, x] ∧ Kn a N30 h x ∧ Q (.bl (isStep wo st x)) h
def sp_are_steps : SpD := fun ds h Q _ => ∃ a wo st x, ds = [.int wo, .int st, x] ∧ Kn a N30 h x ∧ ∀ h', Ex h h' → Q (.bl (areSteps wo st x)) h'
section
variable (K : PySem.W.Frag)
def xPart (E : XD) (p : D) (h : HD) : Prop := E (.ref (He.ga K "BadMachine")) (some [("part", p)]) h
def sp_check_rows : SpD := fun ds h Q E => ∃ a nw wo rs, ds = [.int nw, .int wo, .tup rs] ∧ areRows (.tup rs) = true ∧ Kn a N30 h (.tup rs) ∧ ∀ h', Ex h h' → (match rowBad nw wo rs.length 0 rs with
  | some p => xPart K E p h'
  | none => Q .non h')
def fldsM (nw wo rows : D) : List (Str × D) := [("worlds", nw), ("words", wo), ("rows", rows)]
def sp_Machine_init : SpD := fun ds h Q E => ∃ a x C dx nw wo rows, ds = [.ref x, nw, wo, rows] ∧ C = He.ga K "Machine" ∧ h x = some (.ins C dx []) ∧ Kn a N30 h nw ∧ Kn a N30 h wo ∧ Kn a N30 h rows ∧ ∀ h', ExB x h h' → (match due nw wo rows with
  | some p => h' x = some (.ins C dx []) → xPart K E p h'
  | none => h' x = some (.ins C dx (fldsM nw wo rows)) → Q .non h')
/-- a machine of these parts stands at x -/
def isM (h : HD) (x : Addr) (nw wo rows : D) : Prop := ∃ dx, h x = some (.ins (He.ga K "Machine") dx (fldsM nw wo rows))
def sp_Machine_eq : SpD := fun ds h Q _ => (∃ x y nw wo rows nw' wo' rows', ds = [.ref x, .ref y] ∧ isM K h x nw wo rows ∧ isM K h y nw' wo' rows' ∧ shp (.tup [nw, wo, rows]) ∧ shp (.tup [nw', wo', rows']) ∧ Q (.bl (eqD (.tup [nw, wo, rows]) (.tup [nw', wo', rows']))) h) ∨
  ∃ x y z nw wo rows, ds = [.ref x, y] ∧ isM K h x nw wo rows ∧ kd h y = some z ∧ (z = .int ∨ z = .tup) ∧ Q (.bl false) h
def sp_l_told : SpD := fun ds h Q _ => ∃ a nw wo rows, ds = [nw, wo, rows] ∧ Kn a N30 h nw ∧ Kn a N30 h wo ∧ Kn a N30 h rows ∧ ∀ h', Ex h h' → (match due nw wo rows with
  | some p => Q (.tup [p, .non]) h'
  | none => ∀ x, h x = none → isM K h' x nw wo rows → Q (.tup [.non, .ref x]) h')
end
def sp_l_number : SpD := fun ds h Q _ => ∃ x lo hi z, ds = [x, .int lo, .int hi] ∧ kd h x = some z ∧ Q (.bl (inW x lo hi)) h
def sp_l_tuple : SpD := fun ds h Q _ => ∃ x lo hi z, ds = [x, .int lo, .int hi] ∧ kd h x = some z ∧ Q (.bl (szd x lo hi)) h
def sp_l_are_steps : SpD := fun ds h Q _ => ∃ a wo st x, ds = [x, .int wo, .int st] ∧ Kn a N30 h x ∧ ∀ h', Ex h h' → Q (.bl (areSteps wo st x)) h'
def sp_l_due : SpD := fun ds h Q _ => ∃ a nw wo rows, ds = [nw, wo, rows] ∧ Kn a N30 h nw ∧ Kn a N30 h wo ∧ Kn a N30 h rows ∧ ∀ h', Ex h h' → Q (optD (due nw wo rows)) h'
/-! the drawing: from b draws to at most b + c; numbers at most N -/
def drawn (a : Addr) (b c : Nat) (N : Int) (h : HD) (Q : DK) : Prop := ∀ h' x, ExB a h h' → Hand h' a (b + c) → Kn a N h' x → Q x h'
def sp_l_steps : SpD := fun ds h Q _ => ∃ a b wo st, ds = [.ref a, .int wo, .int st] ∧ Hand h a b ∧ b ≤ 10 ^ 14 ∧ 0 < wo ∧ wo ≤ 6 ∧ 0 < st ∧ st ≤ 6 ∧ ∀ h' xs, ExB a h h' → Hand h' a (b + 11) → xs ≠ [] → xs.length ≤ 12 → Kn a 100 h' (.tup xs) → Q (.tup xs) h'
def sp_l_rows : SpD := fun ds h Q _ => ∃ a b nw wo qs st, ds = [.ref a, .int nw, .int wo, .int qs, .int st] ∧ Hand h a b ∧ b ≤ 10 ^ 12 ∧ 0 < nw ∧ nw ≤ 5 ∧ 0 < wo ∧ wo ≤ 6 ∧ 0 < qs ∧ qs ≤ 4 ∧ 0 < st ∧ st ≤ 6 ∧ drawn a b 10000 100 h Q
def sp_l_deep : SpD := fun ds h Q _ => ∃ a b, ds = [.ref a] ∧ Hand h a b ∧ b ≤ 10 ^ 14 ∧ drawn a b 100 100 h Q
def sp_l_odd : SpD := fun ds h Q _ => ∃ a b, ds = [.ref a] ∧ Hand h a b ∧ b ≤ 10 ^ 13 ∧ drawn a b 200 (10 ^ 29) h Q
/-- the thing with the item put at the path -/
def putD2 : D → List Nat → D → D
  | _, [], y => y
  | .tup xs, i :: p, y => .tup (xs.set i (putD2 (xs.getD i .non) p y))
  | x, _ :: _, _ => x
def pathOk : D → List Nat → Prop
  | _, [] => True
  | .tup xs, i :: p => i < xs.length ∧ xs.length ≤ 100 ∧ pathOk (xs.getD i .non) p
  | _, _ :: _ => False
def sp_l_put (n : Nat) : SpD := fun ds h Q _ => ∃ x p y, ds = [x, .tup (p.map fun i => D.int (i : Nat)), y] ∧ p.length < n ∧ pathOk x p ∧ Q (putD2 x p y) h
/-- rows as they should be, but for what lies in the steps -/
def sp_l_spoilt : SpD := fun ds h Q _ => ∃ a b N rows nw wo, ds = [.ref a, rows, .int nw, .int wo] ∧ Hand h a b ∧ b ≤ 10 ^ 12 ∧ Kn a N h rows ∧ 10 ≤ N ∧ N ≤ N30 ∧ due (.int nw) (.int wo) rows = none ∧ drawn a b 2000 (max (2 * N) (10 ^ 29)) h Q
def sp_l_edge_steps : SpD := fun ds h Q _ => ∃ a b wo st, ds = [.ref a, .int wo, .int st] ∧ Hand h a b ∧ b ≤ 10 ^ 13 ∧ 0 < wo ∧ wo ≤ 6 ∧ 0 < st ∧ st ≤ 7 ∧ drawn a b 20 100 h Q
def sp_l_edged : SpD := fun ds h Q _ => ∃ a b, ds = [.ref a] ∧ Hand h a b ∧ b ≤ 10 ^ 12 ∧ ∀ h' x y z, ExB a h h' → Hand h' a (b + 100) → Kn a 100 h' x → Kn a 100 h' y → Kn a 100 h' z → Q (.tup [x, y, z]) h'
def sp_law : SpD := fun ds h Q _ => ∃ ns : List Int, ds = [.fl (ns.map D.int)] ∧ ns.length ≤ 63 ∧ h = (fun _ => none) ∧ ∀ h', Q (.bl true) h'
end K63

-- K63B
set_option Elab.async false
set_option linter.all false
set_option maxRecDepth 100000
set_option maxHeartbeats 4000000
/-! printed by gen.py: the walks of the defs -/
namespace K63
open PySem PySem.Spec PyProof.Rows L2 PD

/-! ### are_rows -/
abbrev s_are_rows : Stmt := atS PySem.Challenge.pw_tellsless_k63_machines_refused 25
abbrev N_are_rows : List Str := [("thing" : Str), ("row" : Str)]
theorem sc_are_rows : FnScope N_are_rows [("thing" : Str)] (defScope s_are_rows) := ⟨rfl, rfl, rfl, by decide +kernel, rfl, by decide +kernel, by decide +kernel⟩
def t_are_rows (P : Program) (w : World) (K : PySem.W.Frag) (W : En → XD) : CS := (cSeq (cIfS (cOr (cNot (cT (cFn sp_is_sized (fun _ => noX) (cCons (cVar 0) (cCons (cC (.int 1)) (cCons (cC (.int 6)) cNil)))))) (cNot (cT (cCall (cBools fun bs => bs.all id) (cCons (cLc (cSrcA P w (cVar 0)) (.one 1) cYes (cFn sp_is_sized (fun _ => noX) (cCons (cVar 1) (cCons (cC (.int 1)) (cCons (cC (.int 4)) cNil)))) [1]) cNil))))) (cRet (cC (.bl false))) cNext) (cRet (cCall (cBools fun bs => bs.all id) (cCons (cLc (cSrcA P w (cVar 0)) (.one 1) cYes (cOp cEq (cCall (cLenA P w) (cCons (cVar 1) cNil)) (cCall (cLenA P w) (cCons (cOp (cIxA P w) (cVar 0) (cC (.int 0))) cNil))) [1]) cNil))))
theorem w_are_rows {P : Program} {w : World} {K : PySem.W.Frag} {mg : Str → Option Value} {base : Heap} {f : Addr} {fd : FuncData} (L : Lib mg) (D_is_sized : Dn P w K mg base "is_sized" 1 [("thing" : Str), ("least" : Str), ("most" : Str)] sp_is_sized) (g_MOST_ASKED : GD K mg "MOST_ASKED" (.int 4)) (g_MOST_STANDINGS : GD K mg "MOST_STANDINGS" (.int 6))
    (F : Fun K "are_rows" "are_rows" s_are_rows f fd) (ln : ∀ ds h Q E, sp_are_rows ds h Q E → ds.length = 1)
    (pl : ∀ ds h Q E', sp_are_rows ds h Q E' → t_are_rows P w K (fun _ => noX) { nx := fun _ h' => Q .non h', rt := Q } (startD N_are_rows ds) h) : GF P w K mg base 3 f fd [("thing" : Str)] sp_are_rows := by
  refine gf_of (k := 2) F sc_are_rows ln fun cdv A outer s H E ds h Q E' hr hg kx hs => ?_
  · have ru := room_u hr
    exact ⟨t_are_rows P w K (fun _ => noX), (qss_cons (qs_if (QW.t (qw_or (qt_not (qt_val (qe_fn D_is_sized (hr.mono (by omega)) hg TkD.none (qa_cons (qv 0) (qa_cons qe_int (qa_cons (qe_gd g_MOST_STANDINGS) qa_nil)))))) (qw_or1 (qt_not (qt_val (qe_callB (cd_all rfl) rfl (L.n "all") b_all (qa_cons (qe_lc (own := [("row", 1)]) rfl sc_are_rows.nd (qi_any (qv 0)) (show BlkOk N_are_rows (defScope s_are_rows) _ [("row", 1)] from ⟨rfl, by decide +kernel, by decide +kernel, by decide +kernel, by decide +kernel⟩) (by decide) (fun _ _ _ _ _ => (tg_one sc_are_rows.nd rfl (.inl rfl) (K := _))) (fun _ _ _ _ _ => qts_nil) (fun _ _ _ _ _ => (qe_fn D_is_sized (hr.mono (by omega)) hg TkD.none (qa_cons (qv 1) (qa_cons qe_int (qa_cons (qe_gd g_MOST_ASKED) qa_nil)))))) qa_nil))))))) (qss_one (qs_ret qe_bl)) qss_nil) (qss_one (qs_ret (qe_callB (cd_all rfl) rfl (L.n "all") b_all (qa_cons (qe_lc (own := [("row", 1)]) rfl sc_are_rows.nd (qi_any (qv 0)) (show BlkOk N_are_rows (defScope s_are_rows) _ [("row", 1)] from ⟨rfl, by decide +kernel, by decide +kernel, by decide +kernel, by decide +kernel⟩) (by decide) (fun _ _ _ _ _ => (tg_one sc_are_rows.nd rfl (.inl rfl) (K := _))) (fun _ _ _ _ _ => qts_nil) (fun _ _ _ _ _ => (qe_cmp (od_eq (uu ru)) (qe_callB cd_lenA rfl (L.n "len") b_len (qa_cons (qv 1) qa_nil)) (qe_callB cd_lenA rfl (L.n "len") b_len (qa_cons (qe_ix (xd_any (uu ru)) (qv 0) qe_int (fun _ _ => rfl)) qa_nil))))) qa_nil))))), pl ds h Q E' hs⟩
/-! ### is_step -/
abbrev s_is_step : Stmt := atS PySem.Challenge.pw_tellsless_k63_machines_refused 26
abbrev N_is_step : List Str := [("words" : Str), ("standings" : Str), ("thing" : Str)]
theorem sc_is_step : FnScope N_is_step [("words" : Str), ("standings" : Str), ("thing" : Str)] (defScope s_is_step) := ⟨rfl, rfl, rfl, by decide +kernel, rfl, by decide +kernel, by decide +kernel⟩
def t_is_step (P : Program) (w : World) (K : PySem.W.Frag) (W : En → XD) : CS := (cSeq (cIfS (cOr (cNot (cT (cFn sp_is_triple (fun _ => noX) (cCons (cVar 2) cNil)))) (cNot (cT (cFn sp_is_within (fun _ => noX) (cCons (cOp (cIxA P w) (cVar 2) (cC (.int 0))) (cCons (cC (.int 0)) (cCons (cOp cSub (cVar 0) (cC (.int 1))) cNil))))))) (cRet (cC (.bl false))) cNext) (cRet (cAndV (cFn sp_is_share (fun _ => noX) (cCons (cOp (cIxA P w) (cVar 2) (cC (.int 1))) cNil)) (cFn sp_is_within (fun _ => noX) (cCons (cOp (cIxA P w) (cVar 2) (cC (.int 2))) (cCons (cC (.int 0)) (cCons (cOp cSub (cVar 1) (cC (.int 1))) cNil)))))))
theorem w_is_step {P : Program} {w : World} {K : PySem.W.Frag} {mg : Str → Option Value} {base : Heap} {f : Addr} {fd : FuncData} (L : Lib mg) (D_is_within : Dn P w K mg base "is_within" 2 [("thing" : Str), ("least" : Str), ("most" : Str)] sp_is_within) (D_is_triple : Dn P w K mg base "is_triple" 1 [("thing" : Str)] sp_is_triple) (D_is_share : Dn P w K mg base "is_share" 3 [("thing" : Str)] sp_is_share)
    (F : Fun K "is_step" "is_step" s_is_step f fd) (ln : ∀ ds h Q E, sp_is_step ds h Q E → ds.length = 3)
    (pl : ∀ ds h Q E', sp_is_step ds h Q E' → t_is_step P w K (fun _ => noX) { nx := fun _ h' => Q .non h', rt := Q } (startD N_is_step ds) h) : GF P w K mg base 4 f fd [("words" : Str), ("standings" : Str), ("thing" : Str)] sp_is_step := by
  refine gf_of (k := 3) F sc_is_step ln fun cdv A outer s H E ds h Q E' hr hg kx hs => ?_
  · have ru := room_u hr
    exact ⟨t_is_step P w K (fun _ => noX), (qss_cons (qs_if (QW.t (qw_or (qt_not (qt_val (qe_fn D_is_triple (hr.mono (by omega)) hg TkD.none (qa_cons (qv 2) qa_nil)))) (qw_or1 (qt_not (qt_val (qe_fn D_is_within (hr.mono (by omega)) hg TkD.none (qa_cons (qe_ix (xd_any (uu ru)) (qv 2) qe_int (fun _ _ => rfl)) (qa_cons qe_int (qa_cons (qe_op od_sub (qv 0) qe_int) qa_nil))))))))) (qss_one (qs_ret qe_bl)) qss_nil) (qss_one (qs_ret (qe_and (qe_fn D_is_share (hr.mono (by omega)) hg TkD.none (qa_cons (qe_ix (xd_any (uu ru)) (qv 2) qe_int (fun _ _ => rfl)) qa_nil)) (qe_one (qe_fn D_is_within (hr.mono (by omega)) hg TkD.none (qa_cons (qe_ix (xd_any (uu ru)) (qv 2) qe_int (fun _ _ => rfl)) (qa_cons qe_int (qa_cons (qe_op od_sub (qv 1) qe_int) qa_nil))))))))), pl ds h Q E' hs⟩
/-! ### are_steps -/
abbrev s_are_steps : Stmt := atS PySem.Challenge.pw_tellsless_k63_machines_refused 27
abbrev N_are_steps : List Str := [("words" : Str), ("standings" : Str), ("thing" : Str), ("pairs" : Str), ("word" : Str), ("share" : Str), ("standing" : Str), ("step" : Str)]
theorem sc_are_steps : FnScope N_are_steps [("words" : Str), ("standings" : Str), ("thing" : Str)] (defScope s_are_steps) := ⟨rfl, rfl, rfl, by decide +kernel, rfl, by decide +kernel, by decide +kernel⟩
def t_are_steps (P : Program) (w : World) (K : PySem.W.Frag) (W : En → XD) : CS := (cSeq (cIfS (cOr (cNot (cT (cFn sp_is_sized (fun _ => noX) (cCons (cVar 2) (cCons (cC (.int 1)) (cCons (cC (.int 12)) cNil)))))) (cNot (cT (cCall (cBools fun bs => bs.all id) (cCons (cLc (cSrcA P w (cVar 2)) (.one 7) cYes (cFn sp_is_step (fun _ => noX) (cCons (cVar 0) (cCons (cVar 1) (cCons (cVar 7) cNil)))) [7]) cNil))))) (cRet (cC (.bl false))) cNext) (cSeq (cSet 3 (cDc P w (cSrcA P w (cVar 2)) (.many [4, 5, 6]) cYes (cTup (cCons (cVar 4) (cCons (cVar 6) cNil))) (cC (.bl true)) [4, 5, 6])) (cRet (cAndV (cOp cEq (cCall (cLenA P w) (cCons (cVar 3) cNil)) (cCall (cLenA P w) (cCons (cVar 2) cNil))) (cFn sp_are_shares (fun _ => noX) (cCons (cLc (cSrcA P w (cVar 2)) (.many [4, 5, 6]) cYes (cVar 5) [4, 5, 6]) cNil))))))
theorem w_are_steps {P : Program} {w : World} {K : PySem.W.Frag} {mg : Str → Option Value} {base : Heap} {f : Addr} {fd : FuncData} (L : Lib mg) (D_is_step : Dn P w K mg base "is_step" 4 [("words" : Str), ("standings" : Str), ("thing" : Str)] sp_is_step) (D_is_sized : Dn P w K mg base "is_sized" 1 [("thing" : Str), ("least" : Str), ("most" : Str)] sp_is_sized) (D_are_shares : Dn P w K mg base "are_shares" 5 [("things" : Str)] sp_are_shares) (g_MOST_TRIPLES : GD K mg "MOST_TRIPLES" (.int 12))
    (F : Fun K "are_steps" "are_steps" s_are_steps f fd) (ln : ∀ ds h Q E, sp_are_steps ds h Q E → ds.length = 3)
    (pl : ∀ ds h Q E', sp_are_steps ds h Q E' → t_are_steps P w K (fun _ => noX) { nx := fun _ h' => Q .non h', rt := Q } (startD N_are_steps ds) h) : GF P w K mg base 6 f fd [("words" : Str), ("standings" : Str), ("thing" : Str)] sp_are_steps := by
  refine gf_of (k := 5) F sc_are_steps ln fun cdv A outer s H E ds h Q E' hr hg kx hs => ?_
  · have ru := room_u hr
    exact ⟨t_are_steps P w K (fun _ => noX), (qss_cons (qs_if (QW.t (qw_or (qt_not (qt_val (qe_fn D_is_sized (hr.mono (by omega)) hg TkD.none (qa_cons (qv 2) (qa_cons qe_int (qa_cons (qe_gd g_MOST_TRIPLES) qa_nil)))))) (qw_or1 (qt_not (qt_val (qe_callB (cd_all rfl) rfl (L.n "all") b_all (qa_cons (qe_lc (own := [("step", 7)]) rfl sc_are_steps.nd (qi_any (qv 2)) (show BlkOk N_are_steps (defScope s_are_steps) _ [("step", 7)] from ⟨rfl, by decide +kernel, by decide +kernel, by decide +kernel, by decide +kernel⟩) (by decide) (fun _ _ _ _ _ => (tg_one sc_are_steps.nd rfl (.inl rfl) (K := _))) (fun _ _ _ _ _ => qts_nil) (fun _ _ _ _ _ => (qe_fn D_is_step (hr.mono (by omega)) hg TkD.none (qa_cons (qv 0) (qa_cons (qv 1) (qa_cons (qv 7) qa_nil)))))) qa_nil))))))) (qss_one (qs_ret qe_bl)) qss_nil) (qss_cons (qs_setDc (own := [("word", 4), ("share", 5), ("standing", 6)]) (uu ru) rfl sc_are_steps.nd rfl rfl (sw_trueD rfl rfl rfl rfl) (qi_any (qv 2)) (show BlkOk N_are_steps (defScope s_are_steps) _ [("word", 4), ("share", 5), ("standing", 6)] from ⟨rfl, by decide +kernel, by decide +kernel, by decide +kernel, by decide +kernel⟩) (by decide) (fun _ _ _ _ _ => (tg_many rfl (tg_cons sc_are_steps.nd rfl (.inl rfl) (tg_cons sc_are_steps.nd rfl (.inl rfl) (tg_cons sc_are_steps.nd rfl (.inl rfl) tg_nil))))) (fun _ _ _ _ _ => qts_nil) (fun _ _ _ _ _ => (qe_tup (qa_cons (qv 4) (qa_cons (qv 6) qa_nil)))) (fun _ _ _ _ _ => qe_bl)) (qss_one (qs_ret (qe_and (qe_cmp (od_eq (uu ru)) (qe_callB cd_lenA rfl (L.n "len") b_len (qa_cons (qv 3) qa_nil)) (qe_callB cd_lenA rfl (L.n "len") b_len (qa_cons (qv 2) qa_nil))) (qe_one (qe_fn D_are_shares (hr.mono (by omega)) hg TkD.none (qa_cons (qe_lc (own := [("word", 4), ("share", 5), ("standing", 6)]) rfl sc_are_steps.nd (qi_any (qv 2)) (show BlkOk N_are_steps (defScope s_are_steps) _ [("word", 4), ("share", 5), ("standing", 6)] from ⟨rfl, by decide +kernel, by decide +kernel, by decide +kernel, by decide +kernel⟩) (by decide) (fun _ _ _ _ _ => (tg_many rfl (tg_cons sc_are_steps.nd rfl (.inl rfl) (tg_cons sc_are_steps.nd rfl (.inl rfl) (tg_cons sc_are_steps.nd rfl (.inl rfl) tg_nil))))) (fun _ _ _ _ _ => qts_nil) (fun _ _ _ _ _ => (qv 5))) qa_nil)))))))), pl ds h Q E' hs⟩
/-! ### check_rows -/
abbrev s_check_rows : Stmt := atS PySem.Challenge.pw_tellsless_k63_machines_refused 28
abbrev N_check_rows : List Str := [("worlds" : Str), ("words" : Str), ("rows" : Str), ("standing" : Str), ("row" : Str), ("number" : Str), ("question" : Str), ("world" : Str), ("steps" : Str)]
theorem sc_check_rows : FnScope N_check_rows [("worlds" : Str), ("words" : Str), ("rows" : Str)] (defScope s_check_rows) := ⟨rfl, rfl, rfl, by decide +kernel, rfl, by decide +kernel, by decide +kernel⟩
def b_check_rows_3 (P : Program) (w : World) (K : PySem.W.Frag) (W : En → XD) : CS := (cIfS (cNot (cT (cFn sp_are_steps (fun _ => noX) (cCons (cVar 1) (cCons (cCall (cLenA P w) (cCons (cVar 2) cNil)) (cCons (cVar 8) cNil)))))) (fun _ ρ h => (cTup (cCons (cC (.str "row")) (cCons (cVar 3) (cCons (cVar 5) (cCons (cVar 7) cNil))))) ρ h fun y h1 => W ρ (.ref (He.ga K "BadMachine")) (some [("part", y)]) h1) cNext)
def b_check_rows_2 (P : Program) (w : World) (K : PySem.W.Frag) (W : En → XD) : CS := (cSeq (cIfS (cNot (cT (cFn sp_is_sized (fun _ => noX) (cCons (cVar 6) (cCons (cVar 0) (cCons (cVar 0) cNil)))))) (fun _ ρ h => (cTup (cCons (cC (.str "row")) (cCons (cVar 3) (cCons (cVar 5) (cCons (cUn cNeg (cC (.int 1))) cNil))))) ρ h fun y h1 => W ρ (.ref (He.ga K "BadMachine")) (some [("part", y)]) h1) cNext) (cFor (cEnum (cCons (cVar 6) cNil)) (cGTup 2 (cGCons (cName 7) (cGCons (cName 8) cGNil))) (b_check_rows_3 P w K W)))
def b_check_rows_1 (P : Program) (w : World) (K : PySem.W.Frag) (W : En → XD) : CS := (cFor (cEnum (cCons (cVar 4) cNil)) (cGTup 2 (cGCons (cName 5) (cGCons (cName 6) cGNil))) (b_check_rows_2 P w K W))
def t_check_rows (P : Program) (w : World) (K : PySem.W.Frag) (W : En → XD) : CS := (cFor (cEnum (cCons (cVar 2) cNil)) (cGTup 2 (cGCons (cName 3) (cGCons (cName 4) cGNil))) (b_check_rows_1 P w K W))
theorem w_check_rows {P : Program} {w : World} {K : PySem.W.Frag} {mg : Str → Option Value} {base : Heap} {f : Addr} {fd : FuncData} (L : Lib mg) (D_is_sized : Dn P w K mg base "is_sized" 1 [("thing" : Str), ("least" : Str), ("most" : Str)] sp_is_sized) (D_are_steps : Dn P w K mg base "are_steps" 6 [("words" : Str), ("standings" : Str), ("thing" : Str)] sp_are_steps) (E_BadMachine : De K P w mg base "BadMachine" (He.ga K "BadMachine") "part" "part")
    (F : Fun K "check_rows" "check_rows" s_check_rows f fd) (ln : ∀ ds h Q E, (sp_check_rows K) ds h Q E → ds.length = 3)
    (pl : ∀ ds h Q E', (sp_check_rows K) ds h Q E' → t_check_rows P w K (fun _ => E') { nx := fun _ h' => Q .non h', rt := Q } (startD N_check_rows ds) h) : GF P w K mg base 7 f fd [("worlds" : Str), ("words" : Str), ("rows" : Str)] (sp_check_rows K) := by
  refine gf_of (k := 6) F sc_check_rows ln fun cdv A outer s H E ds h Q E' hr hg kx hs => ?_
  · have ru := room_u hr
    have tk : TkD (bodyX P w K mg base N_check_rows "check_rows" (defScope s_check_rows) f cdv A outer s H E) (H, h) fun _ => E' := TkD.body kx
    exact ⟨t_check_rows P w K (fun _ => E'), (qss_one (qs_for (passes_of rfl) rfl (qi_enum rfl (L.n "enumerate") (qa_cons (qv 2) qa_nil)) (qg_tup rfl (qgs_cons (qg_name sc_check_rows.nd rfl (by first | exact .inl rfl | exact .inr rfl)) (qgs_cons (qg_name sc_check_rows.nd rfl (by first | exact .inl rfl | exact .inr rfl)) qgs_nil))) (qss_one (qs_for (passes_of rfl) rfl (qi_enum rfl (L.n "enumerate") (qa_cons (qv 4) qa_nil)) (qg_tup rfl (qgs_cons (qg_name sc_check_rows.nd rfl (by first | exact .inl rfl | exact .inr rfl)) (qgs_cons (qg_name sc_check_rows.nd rfl (by first | exact .inl rfl | exact .inr rfl)) qgs_nil))) (qss_cons (qs_if (qt_not (qt_val (qe_fn D_is_sized (hr.mono (by omega)) hg TkD.none (qa_cons (qv 6) (qa_cons (qv 0) (qa_cons (qv 0) qa_nil)))))) (qss_one (qs_raise rfl tk (qm_x E_BadMachine (hr.mono (by omega)) (qe_tup (qa_cons qe_str (qa_cons (qv 3) (qa_cons (qv 5) (qa_cons (qe_un ud_neg qe_int) qa_nil)))))))) qss_nil) (qss_one (qs_for (passes_of rfl) rfl (qi_enum rfl (L.n "enumerate") (qa_cons (qv 6) qa_nil)) (qg_tup rfl (qgs_cons (qg_name sc_check_rows.nd rfl (by first | exact .inl rfl | exact .inr rfl)) (qgs_cons (qg_name sc_check_rows.nd rfl (by first | exact .inl rfl | exact .inr rfl)) qgs_nil))) (qss_one (qs_if (qt_not (qt_val (qe_fn D_are_steps (hr.mono (by omega)) hg TkD.none (qa_cons (qv 1) (qa_cons (qe_callB cd_lenA rfl (L.n "len") b_len (qa_cons (qv 2) qa_nil)) (qa_cons (qv 8) qa_nil)))))) (qss_one (qs_raise rfl tk (qm_x E_BadMachine (hr.mono (by omega)) (qe_tup (qa_cons qe_str (qa_cons (qv 3) (qa_cons (qv 5) (qa_cons (qv 7) qa_nil)))))))) qss_nil))))))))), pl ds h Q E' hs⟩
/-! ### Machine.__init__ -/
abbrev s_Machine_init : Stmt := inCls (atS PySem.Challenge.pw_tellsless_k63_machines_refused 29) 0
abbrev N_Machine_init : List Str := [("self" : Str), ("worlds" : Str), ("words" : Str), ("rows" : Str)]
theorem sc_Machine_init : FnScope N_Machine_init [("self" : Str), ("worlds" : Str), ("words" : Str), ("rows" : Str)] (defScope s_Machine_init) := ⟨rfl, rfl, rfl, by decide +kernel, rfl, by decide +kernel, by decide +kernel⟩
def t_Machine_init (P : Program) (w : World) (K : PySem.W.Frag) (W : En → XD) : CS := (cSeq (cIfS (cNot (cT (cFn sp_is_within (fun _ => noX) (cCons (cVar 1) (cCons (cC (.int 1)) (cCons (cC (.int 5)) cNil)))))) (fun _ ρ h => (cTup (cCons (cC (.str "worlds")) cNil)) ρ h fun y h1 => W ρ (.ref (He.ga K "BadMachine")) (some [("part", y)]) h1) cNext) (cSeq (cIfS (cNot (cT (cFn sp_is_within (fun _ => noX) (cCons (cVar 2) (cCons (cC (.int 1)) (cCons (cC (.int 6)) cNil)))))) (fun _ ρ h => (cTup (cCons (cC (.str "words")) cNil)) ρ h fun y h1 => W ρ (.ref (He.ga K "BadMachine")) (some [("part", y)]) h1) cNext) (cSeq (cIfS (cNot (cT (cFn sp_are_rows (fun _ => noX) (cCons (cVar 3) cNil)))) (fun _ ρ h => (cTup (cCons (cC (.str "rows")) cNil)) ρ h fun y h1 => W ρ (.ref (He.ga K "BadMachine")) (some [("part", y)]) h1) cNext) (cSeq (cDrop (cFn (sp_check_rows K) W (cCons (cVar 1) (cCons (cVar 2) (cCons (cVar 3) cNil))))) (cSeq (cFldS K (cVar 0) (cVar 1) "worlds") (cSeq (cFldS K (cVar 0) (cVar 2) "words") (cFldS K (cVar 0) (cVar 3) "rows")))))))
theorem w_Machine_init {P : Program} {w : World} {K : PySem.W.Frag} {mg : Str → Option Value} {base : Heap} {f : Addr} {fd : FuncData} (L : Lib mg) (D_is_within : Dn P w K mg base "is_within" 2 [("thing" : Str), ("least" : Str), ("most" : Str)] sp_is_within) (D_are_rows : Dn P w K mg base "are_rows" 3 [("thing" : Str)] sp_are_rows) (D_check_rows : Dn P w K mg base "check_rows" 7 [("worlds" : Str), ("words" : Str), ("rows" : Str)] (sp_check_rows K)) (g_MOST_WORLDS : GD K mg "MOST_WORLDS" (.int 5)) (g_MOST_WORDS : GD K mg "MOST_WORDS" (.int 6)) (E_BadMachine : De K P w mg base "BadMachine" (He.ga K "BadMachine") "part" "part")
    (F : Fun K "__init__" "Machine.__init__" s_Machine_init f fd) (ln : ∀ ds h Q E, (sp_Machine_init K) ds h Q E → ds.length = 4)
    (pl : ∀ ds h Q E', (sp_Machine_init K) ds h Q E' → t_Machine_init P w K (fun _ => E') { nx := fun _ h' => Q .non h', rt := Q } (startD N_Machine_init ds) h) : GF P w K mg base 8 f fd [("self" : Str), ("worlds" : Str), ("words" : Str), ("rows" : Str)] (sp_Machine_init K) := by
  refine gf_of (k := 7) F sc_Machine_init ln fun cdv A outer s H E ds h Q E' hr hg kx hs => ?_
  · have ru := room_u hr
    have tk : TkD (bodyX P w K mg base N_Machine_init "Machine.__init__" (defScope s_Machine_init) f cdv A outer s H E) (H, h) fun _ => E' := TkD.body kx
    exact ⟨t_Machine_init P w K (fun _ => E'), (qss_cons (qs_if (qt_not (qt_val (qe_fn D_is_within (hr.mono (by omega)) hg TkD.none (qa_cons (qv 1) (qa_cons qe_int (qa_cons (qe_gd g_MOST_WORLDS) qa_nil)))))) (qss_one (qs_raise rfl tk (qm_x E_BadMachine (hr.mono (by omega)) (qe_tup (qa_cons qe_str qa_nil))))) qss_nil) (qss_cons (qs_if (qt_not (qt_val (qe_fn D_is_within (hr.mono (by omega)) hg TkD.none (qa_cons (qv 2) (qa_cons qe_int (qa_cons (qe_gd g_MOST_WORDS) qa_nil)))))) (qss_one (qs_raise rfl tk (qm_x E_BadMachine (hr.mono (by omega)) (qe_tup (qa_cons qe_str qa_nil))))) qss_nil) (qss_cons (qs_if (qt_not (qt_val (qe_fn D_are_rows (hr.mono (by omega)) hg TkD.none (qa_cons (qv 3) qa_nil)))) (qss_one (qs_raise rfl tk (qm_x E_BadMachine (hr.mono (by omega)) (qe_tup (qa_cons qe_str qa_nil))))) qss_nil) (qss_cons (qs_expr (qe_fn D_check_rows (hr.mono (by omega)) hg tk (qa_cons (qv 1) (qa_cons (qv 2) (qa_cons (qv 3) qa_nil))))) (qss_cons (qs_fld (qv 0) (qv 1)) (qss_cons (qs_fld (qv 0) (qv 2)) (qss_one (qs_fld (qv 0) (qv 3))))))))), pl ds h Q E' hs⟩
/-! ### Machine.__eq__ -/
abbrev s_Machine_eq : Stmt := inCls (atS PySem.Challenge.pw_tellsless_k63_machines_refused 29) 1
abbrev N_Machine_eq : List Str := [("self" : Str), ("other" : Str)]
theorem sc_Machine_eq : FnScope N_Machine_eq [("self" : Str), ("other" : Str)] (defScope s_Machine_eq) := ⟨rfl, rfl, rfl, by decide +kernel, rfl, by decide +kernel, by decide +kernel⟩
def t_Machine_eq (P : Program) (w : World) (K : PySem.W.Frag) (W : En → XD) : CS := (cSeq (cIfS (cNot (cT (cCall (cIsi K) (cCons (cVar 1) (cCons (cC (.ref (He.ga K "Machine"))) cNil))))) (cRet (cC (.bl false))) cNext) (cRet (cOp cEq (cTup (cCons (cFld K (cVar 0) "worlds") (cCons (cFld K (cVar 0) "words") (cCons (cFld K (cVar 0) "rows") cNil)))) (cTup (cCons (cFld K (cVar 1) "worlds") (cCons (cFld K (cVar 1) "words") (cCons (cFld K (cVar 1) "rows") cNil)))))))
theorem w_Machine_eq {P : Program} {w : World} {K : PySem.W.Frag} {mg : Str → Option Value} {base : Heap} {f : Addr} {fd : FuncData} (L : Lib mg) (g_Machine : GD K mg "Machine" (.ref (He.ga K "Machine")))
    (F : Fun K "__eq__" "Machine.__eq__" s_Machine_eq f fd) (ln : ∀ ds h Q E, (sp_Machine_eq K) ds h Q E → ds.length = 2)
    (pl : ∀ ds h Q E', (sp_Machine_eq K) ds h Q E' → t_Machine_eq P w K (fun _ => noX) { nx := fun _ h' => Q .non h', rt := Q } (startD N_Machine_eq ds) h) : GF P w K mg base 1 f fd [("self" : Str), ("other" : Str)] (sp_Machine_eq K) := by
  refine gf_of (k := 0) F sc_Machine_eq ln fun cdv A outer s H E ds h Q E' hr hg kx hs => ?_
  · have ru := room_u hr
    exact ⟨t_Machine_eq P w K (fun _ => noX), (qss_cons (qs_if (qt_not (qt_val (qe_callB cd_isi rfl (L.n "isinstance") b_isinstance (qa_cons (qv 1) (qa_cons (qe_gd g_Machine) qa_nil))))) (qss_one (qs_ret qe_bl)) qss_nil) (qss_one (qs_ret (qe_cmp (od_eq (uu ru)) (qe_tup (qa_cons (qe_fld (qv 0) rfl) (qa_cons (qe_fld (qv 0) rfl) (qa_cons (qe_fld (qv 0) rfl) qa_nil)))) (qe_tup (qa_cons (qe_fld (qv 1) rfl) (qa_cons (qe_fld (qv 1) rfl) (qa_cons (qe_fld (qv 1) rfl) qa_nil)))))))), pl ds h Q E' hs⟩
/-! ### _law_number -/
abbrev s_l_number : Stmt := atS PySem.Challenge.pw_tellsless_k63_machines_refused 47
abbrev N_l_number : List Str := [("_law_thing" : Str), ("_law_least" : Str), ("_law_most" : Str)]
theorem sc_l_number : FnScope N_l_number [("_law_thing" : Str), ("_law_least" : Str), ("_law_most" : Str)] (defScope s_l_number) := ⟨rfl, rfl, rfl, by decide +kernel, rfl, by decide +kernel, by decide +kernel⟩
def t_l_number (P : Program) (w : World) (K : PySem.W.Frag) (W : En → XD) : CS := (cRet (cAndV (cCall (cIsi K) (cCons (cVar 0) (cCons (cC (.ty "int")) cNil))) (cAndV (cNotV (cCall (cIsi K) (cCons (cVar 0) (cCons (cC (.ty "bool")) cNil)))) (cChain cLe cLe (cVar 1) (cVar 0) (cVar 2)))))
theorem w_l_number {P : Program} {w : World} {K : PySem.W.Frag} {mg : Str → Option Value} {base : Heap} {f : Addr} {fd : FuncData} (L : Lib mg) 
    (F : Fun K "_law_number" "_law_number" s_l_number f fd) (ln : ∀ ds h Q E, sp_l_number ds h Q E → ds.length = 3)
    (pl : ∀ ds h Q E', sp_l_number ds h Q E' → t_l_number P w K (fun _ => noX) { nx := fun _ h' => Q .non h', rt := Q } (startD N_l_number ds) h) : GF P w K mg base 1 f fd [("_law_thing" : Str), ("_law_least" : Str), ("_law_most" : Str)] sp_l_number := by
  refine gf_of (k := 0) F sc_l_number ln fun cdv A outer s H E ds h Q E' hr hg kx hs => ?_
  · have ru := room_u hr
    exact ⟨t_l_number P w K (fun _ => noX), (qss_one (qs_ret (qe_and (qe_callB cd_isi rfl (L.n "isinstance") b_isinstance (qa_cons (qv 0) (qa_cons (qe_ty (L.n "int") b_int) qa_nil))) (qe_and (qe_not (qe_callB cd_isi rfl (L.n "isinstance") b_isinstance (qa_cons (qv 0) (qa_cons (qe_ty (L.n "bool") b_bool) qa_nil)))) (qe_one (qe_chain od_le od_le (qv 1) (qv 0) (qv 2))))))), pl ds h Q E' hs⟩
/-! ### _law_tuple -/
abbrev s_l_tuple : Stmt := atS PySem.Challenge.pw_tellsless_k63_machines_refused 48
abbrev N_l_tuple : List Str := [("_law_thing" : Str), ("_law_least" : Str), ("_law_most" : Str)]
theorem sc_l_tuple : FnScope N_l_tuple [("_law_thing" : Str), ("_law_least" : Str), ("_law_most" : Str)] (defScope s_l_tuple) := ⟨rfl, rfl, rfl, by decide +kernel, rfl, by decide +kernel, by decide +kernel⟩
def t_l_tuple (P : Program) (w : World) (K : PySem.W.Frag) (W : En → XD) : CS := (cRet (cAndV (cCall (cIsi K) (cCons (cVar 0) (cCons (cC (.ty "tuple")) cNil))) (cChain cLe cLe (cVar 1) (cCall (cLenA P w) (cCons (cVar 0) cNil)) (cVar 2))))
theorem w_l_tuple {P : Program} {w : World} {K : PySem.W.Frag} {mg : Str → Option Value} {base : Heap} {f : Addr} {fd : FuncData} (L : Lib mg) 
    (F : Fun K "_law_tuple" "_law_tuple" s_l_tuple f fd) (ln : ∀ ds h Q E, sp_l_tuple ds h Q E → ds.length = 3)
    (pl : ∀ ds h Q E', sp_l_tuple ds h Q E' → t_l_tuple P w K (fun _ => noX) { nx := fun _ h' => Q .non h', rt := Q } (startD N_l_tuple ds) h) : GF P w K mg base 1 f fd [("_law_thing" : Str), ("_law_least" : Str), ("_law_most" : Str)] sp_l_tuple := by
  refine gf_of (k := 0) F sc_l_tuple ln fun cdv A outer s H E ds h Q E' hr hg kx hs => ?_
  · have ru := room_u hr
    exact ⟨t_l_tuple P w K (fun _ => noX), (qss_one (qs_ret (qe_and (qe_callB cd_isi rfl (L.n "isinstance") b_isinstance (qa_cons (qv 0) (qa_cons (qe_ty (L.n "tuple") b_tuple) qa_nil))) (qe_one (qe_chain od_le od_le (qv 1) (qe_callB cd_lenA rfl (L.n "len") b_len (qa_cons (qv 0) qa_nil)) (qv 2)))))), pl ds h Q E' hs⟩
/-! ### _law_are_steps -/
abbrev s_l_are_steps : Stmt := atS PySem.Challenge.pw_tellsless_k63_machines_refused 49
abbrev N_l_are_steps : List Str := [("_law_thing" : Str), ("_law_words" : Str), ("_law_standings" : Str), ("_law_step" : Str), ("_law_pairs" : Str), ("_law_share" : Str), ("_law_pair" : Str)]
theorem sc_l_are_steps : FnScope N_l_are_steps [("_law_thing" : Str), ("_law_words" : Str), ("_law_standings" : Str)] (defScope s_l_are_steps) := ⟨rfl, rfl, rfl, by decide +kernel, rfl, by decide +kernel, by decide +kernel⟩
def b_l_are_steps_1 (P : Program) (w : World) (K : PySem.W.Frag) (W : En → XD) : CS := (cSeq (cIfS (cOr (cNot (cT (cFn sp_l_tuple (fun _ => noX) (cCons (cVar 3) (cCons (cC (.int 3)) (cCons (cC (.int 3)) cNil)))))) (cNot (cT (cFn sp_l_number (fun _ => noX) (cCons (cOp (cIxA P w) (cVar 3) (cC (.int 0))) (cCons (cC (.int 0)) (cCons (cOp cSub (cVar 1) (cC (.int 1))) cNil))))))) (cRet (cC (.bl false))) cNext) (cSeq (cSet 5 (cOp (cIxA P w) (cVar 3) (cC (.int 1)))) (cSeq (cIfS (cOr (cNot (cT (cFn sp_l_number (fun _ => noX) (cCons (cOp (cIxA P w) (cVar 3) (cC (.int 2))) (cCons (cC (.int 0)) (cCons (cOp cSub (cVar 2) (cC (.int 1))) cNil)))))) (cNot (cT (cFn sp_l_tuple (fun _ => noX) (cCons (cVar 5) (cCons (cC (.int 2)) (cCons (cC (.int 2)) cNil))))))) (cRet (cC (.bl false))) cNext) (cSeq (cIfS (cOr (cNot (cT (cFn sp_l_number (fun _ => noX) (cCons (cOp (cIxA P w) (cVar 5) (cC (.int 0))) (cCons (cC (.int 1)) (cCons (cOp cPow (cC (.int 10)) (cC (.int 30))) cNil)))))) (cNot (cT (cFn sp_l_number (fun _ => noX) (cCons (cOp (cIxA P w) (cVar 5) (cC (.int 1))) (cCons (cC (.int 1)) (cCons (cOp cPow (cC (.int 10)) (cC (.int 30))) cNil))))))) (cRet (cC (.bl false))) cNext) (cIfS (cOr (cT (cOp cNe (cFn sp_l_low (fun _ => noX) (cCons (cOp (cIxA P w) (cVar 5) (cC (.int 0))) (cCons (cOp (cIxA P w) (cVar 5) (cC (.int 1))) cNil))) (cVar 5))) (cT (cOp cGt (cOp (cIxA P w) (cVar 5) (cC (.int 0))) (cOp (cIxA P w) (cVar 5) (cC (.int 1)))))) (cRet (cC (.bl false))) cNext)))))
def t_l_are_steps (P : Program) (w : World) (K : PySem.W.Frag) (W : En → XD) : CS := (cSeq (cIfS (cNot (cT (cFn sp_l_tuple (fun _ => noX) (cCons (cVar 0) (cCons (cC (.int 1)) (cCons (cC (.int 12)) cNil)))))) (cRet (cC (.bl false))) cNext) (cSeq (cFor (cSrcA P w (cVar 0)) (cName 3) (b_l_are_steps_1 P w K W)) (cSeq (cSet 4 (cLc (cSrcA P w (cVar 0)) (.one 3) cYes (cTup (cCons (cOp (cIxA P w) (cVar 3) (cC (.int 0))) (cCons (cOp (cIxA P w) (cVar 3) (cC (.int 2))) cNil))) [3])) (cRet (cAndV (cCall (cBools fun bs => bs.all id) (cCons (cLc (cSrcA P w (cVar 4)) (.one 6) cYes (cOp cEq (cLm (cVar 4) (cCons (cVar 6) cNil) cCount) (cC (.int 1))) [6]) cNil)) (cOp cEq (cFn sp_total (fun _ => noX) (cCons (cLc (cSrcA P w (cVar 0)) (.one 3) cYes (cOp (cIxA P w) (cVar 3) (cC (.int 1))) [3]) cNil)) (cTup (cCons (cC (.int 1)) (cCons (cC (.int 1)) cNil)))))))))
theorem w_l_are_steps {P : Program} {w : World} {K : PySem.W.Frag} {mg : Str → Option Value} {base : Heap} {f : Addr} {fd : FuncData} (L : Lib mg) (D__law_tuple : Dn P w K mg base "_law_tuple" 1 [("_law_thing" : Str), ("_law_least" : Str), ("_law_most" : Str)] sp_l_tuple) (D__law_number : Dn P w K mg base "_law_number" 1 [("_law_thing" : Str), ("_law_least" : Str), ("_law_most" : Str)] sp_l_number) (D__law_low : Dn P w K mg base "_law_low" 1 [("_law_top" : Str), ("_law_bottom" : Str)] sp_l_low) (D__law_sum : Dn P w K mg base "_law_sum" 3 [("_law_some" : Str)] sp_total)
    (F : Fun K "_law_are_steps" "_law_are_steps" s_l_are_steps f fd) (ln : ∀ ds h Q E, sp_l_are_steps ds h Q E → ds.length = 3)
    (pl : ∀ ds h Q E', sp_l_are_steps ds h Q E' → t_l_are_steps P w K (fun _ => noX) { nx := fun _ h' => Q .non h', rt := Q } (startD N_l_are_steps ds) h) : GF P w K mg base 4 f fd [("_law_thing" : Str), ("_law_words" : Str), ("_law_standings" : Str)] sp_l_are_steps := by
  refine gf_of (k := 3) F sc_l_are_steps ln fun cdv A outer s H E ds h Q E' hr hg kx hs => ?_
  · have ru := room_u hr
    exact ⟨t_l_are_steps P w K (fun _ => noX), (qss_cons (qs_if (qt_not (qt_val (qe_fn D__law_tuple (hr.mono (by omega)) hg TkD.none (qa_cons (qv 0) (qa_cons qe_int (qa_cons qe_int qa_nil)))))) (qss_one (qs_ret qe_bl)) qss_nil) (qss_cons (qs_for (passes_of rfl) rfl (qi_any (qv 0)) (qg_name sc_l_are_steps.nd rfl (by first | exact .inl rfl | exact .inr rfl)) (qss_cons (qs_if (QW.t (qw_or (qt_not (qt_val (qe_fn D__law_tuple (hr.mono (by omega)) hg TkD.none (qa_cons (qv 3) (qa_cons qe_int (qa_cons qe_int qa_nil)))))) (qw_or1 (qt_not (qt_val (qe_fn D__law_number (hr.mono (by omega)) hg TkD.none (qa_cons (qe_ix (xd_any (uu ru)) (qv 3) qe_int (fun _ _ => rfl)) (qa_cons qe_int (qa_cons (qe_op od_sub (qv 1) qe_int) qa_nil))))))))) (qss_one (qs_ret qe_bl)) qss_nil) (qss_cons (qs_set sc_l_are_steps.nd rfl (by first | exact .inl rfl | exact .inr rfl) (qe_ix (xd_any (uu ru)) (qv 3) qe_int (fun _ _ => rfl))) (qss_cons (qs_if (QW.t (qw_or (qt_not (qt_val (qe_fn D__law_number (hr.mono (by omega)) hg TkD.none (qa_cons (qe_ix (xd_any (uu ru)) (qv 3) qe_int (fun _ _ => rfl)) (qa_cons qe_int (qa_cons (qe_op od_sub (qv 2) qe_int) qa_nil)))))) (qw_or1 (qt_not (qt_val (qe_fn D__law_tuple (hr.mono (by omega)) hg TkD.none (qa_cons (qv 5) (qa_cons qe_int (qa_cons qe_int qa_nil))))))))) (qss_one (qs_ret qe_bl)) qss_nil) (qss_cons (qs_if (QW.t (qw_or (qt_not (qt_val (qe_fn D__law_number (hr.mono (by omega)) hg TkD.none (qa_cons (qe_ix (xd_any (uu ru)) (qv 5) qe_int (fun _ _ => rfl)) (qa_cons qe_int (qa_cons (qe_op od_pow qe_int qe_int) qa_nil)))))) (qw_or1 (qt_not (qt_val (qe_fn D__law_number (hr.mono (by omega)) hg TkD.none (qa_cons (qe_ix (xd_any (uu ru)) (qv 5) qe_int (fun _ _ => rfl)) (qa_cons qe_int (qa_cons (qe_op od_pow qe_int qe_int) qa_nil))))))))) (qss_one (qs_ret qe_bl)) qss_nil) (qss_one (qs_if (QW.t (qw_or (qt_cmp (od_ne (uu ru)) (qe_fn D__law_low (hr.mono (by omega)) hg TkD.none (qa_cons (qe_ix (xd_any (uu ru)) (qv 5) qe_int (fun _ _ => rfl)) (qa_cons (qe_ix (xd_any (uu ru)) (qv 5) qe_int (fun _ _ => rfl)) qa_nil))) (qv 5)) (qw_or1 (qt_cmp od_gt (qe_ix (xd_any (uu ru)) (qv 5) qe_int (fun _ _ => rfl)) (qe_ix (xd_any (uu ru)) (qv 5) qe_int (fun _ _ => rfl)))))) (qss_one (qs_ret qe_bl)) qss_nil))))))) (qss_cons (qs_set sc_l_are_steps.nd rfl (by first | exact .inl rfl | exact .inr rfl) (qe_lc (own := [("_law_step", 3)]) rfl sc_l_are_steps.nd (qi_any (qv 0)) (show BlkOk N_l_are_steps (defScope s_l_are_steps) _ [("_law_step", 3)] from ⟨rfl, by decide +kernel, by decide +kernel, by decide +kernel, by decide +kernel⟩) (by decide) (fun _ _ _ _ _ => (tg_one sc_l_are_steps.nd rfl (.inl rfl) (K := _))) (fun _ _ _ _ _ => qts_nil) (fun _ _ _ _ _ => (qe_tup (qa_cons (qe_ix (xd_any (uu ru)) (qv 3) qe_int (fun _ _ => rfl)) (qa_cons (qe_ix (xd_any (uu ru)) (qv 3) qe_int (fun _ _ => rfl)) qa_nil)))))) (qss_one (qs_ret (qe_and (qe_callB (cd_all rfl) rfl (L.n "all") b_all (qa_cons (qe_lc (own := [("_law_pair", 6)]) rfl sc_l_are_steps.nd (qi_any (qv 4)) (show BlkOk N_l_are_steps (defScope s_l_are_steps) _ [("_law_pair", 6)] from ⟨rfl, by decide +kernel, by decide +kernel, by decide +kernel, by decide +kernel⟩) (by decide) (fun _ _ _ _ _ => (tg_one sc_l_are_steps.nd rfl (.inl rfl) (K := _))) (fun _ _ _ _ _ => qts_nil) (fun _ _ _ _ _ => (qe_cmp (od_eq (uu ru)) (qe_lm PySem.F.slot_list_count PySem.F.type_list_count (md_count (uu ru)) (qv 4) (qa_cons (qv 6) qa_nil)) qe_int))) qa_nil)) (qe_one (qe_cmp (od_eq (uu ru)) (qe_fn D__law_sum (hr.mono (by omega)) hg TkD.none (qa_cons (qe_lc (own := [("_law_step", 3)]) rfl sc_l_are_steps.nd (qi_any (qv 0)) (show BlkOk N_l_are_steps (defScope s_l_are_steps) _ [("_law_step", 3)] from ⟨rfl, by decide +kernel, by decide +kernel, by decide +kernel, by decide +kernel⟩) (by decide) (fun _ _ _ _ _ => (tg_one sc_l_are_steps.nd rfl (.inl rfl) (K := _))) (fun _ _ _ _ _ => qts_nil) (fun _ _ _ _ _ => (qe_ix (xd_any (uu ru)) (qv 3) qe_int (fun _ _ => rfl)))) qa_nil)) (qe_tup (qa_cons qe_int (qa_cons qe_int qa_nil))))))))))), pl ds h Q E' hs⟩
/-! ### _law_due -/
abbrev s_l_due : Stmt := atS PySem.Challenge.pw_tellsless_k63_machines_refused 50
abbrev N_l_due : List Str := [("_law_worlds" : Str), ("_law_words" : Str), ("_law_rows_here" : Str), ("_law_standing" : Str), ("_law_question" : Str), ("_law_thing" : Str), ("_law_world" : Str), ("_law_row" : Str)]
theorem sc_l_due : FnScope N_l_due [("_law_worlds" : Str), ("_law_words" : Str), ("_law_rows_here" : Str)] (defScope s_l_due) := ⟨rfl, rfl, rfl, by decide +kernel, rfl, by decide +kernel, by decide +kernel⟩
def b_l_due_3 (P : Program) (w : World) (K : PySem.W.Frag) (W : En → XD) : CS := (cIfS (cNot (cT (cFn sp_l_are_steps (fun _ => noX) (cCons (cOp (cIxA P w) (cVar 5) (cVar 6)) (cCons (cVar 1) (cCons (cCall (cLenA P w) (cCons (cVar 2) cNil)) cNil)))))) (cRet (cTup (cCons (cC (.str "row")) (cCons (cVar 3) (cCons (cVar 4) (cCons (cVar 6) cNil)))))) cNext)
def b_l_due_2 (P : Program) (w : World) (K : PySem.W.Frag) (W : En → XD) : CS := (cSeq (cSet 5 (cOp (cIxA P w) (cOp (cIxA P w) (cVar 2) (cVar 3)) (cVar 4))) (cSeq (cIfS (cNot (cT (cFn sp_l_tuple (fun _ => noX) (cCons (cVar 5) (cCons (cVar 0) (cCons (cVar 0) cNil)))))) (cRet (cTup (cCons (cC (.str "row")) (cCons (cVar 3) (cCons (cVar 4) (cCons (cUn cNeg (cC (.int 1))) cNil)))))) cNext) (cFor (cRng1 (cCons (cVar 0) cNil)) (cName 6) (b_l_due_3 P w K W))))
def b_l_due_1 (P : Program) (w : World) (K : PySem.W.Frag) (W : En → XD) : CS := (cFor (cRng1 (cCons (cCall (cLenA P w) (cCons (cOp (cIxA P w) (cVar 2) (cC (.int 0))) cNil)) cNil)) (cName 4) (b_l_due_2 P w K W))
def t_l_due (P : Program) (w : World) (K : PySem.W.Frag) (W : En → XD) : CS := (cSeq (cIfS (cNot (cT (cFn sp_l_number (fun _ => noX) (cCons (cVar 0) (cCons (cC (.int 1)) (cCons (cC (.int 5)) cNil)))))) (cRet (cTup (cCons (cC (.str "worlds")) cNil))) cNext) (cSeq (cIfS (cNot (cT (cFn sp_l_number (fun _ => noX) (cCons (cVar 1) (cCons (cC (.int 1)) (cCons (cC (.int 6)) cNil)))))) (cRet (cTup (cCons (cC (.str "words")) cNil))) cNext) (cSeq (cIfS (cOr (cNot (cT (cFn sp_l_tuple (fun _ => noX) (cCons (cVar 2) (cCons (cC (.int 1)) (cCons (cC (.int 6)) cNil)))))) (cNot (cT (cCall (cBools fun bs => bs.all id) (cCons (cLc (cSrcA P w (cVar 2)) (.one 7) cYes (cFn sp_l_tuple (fun _ => noX) (cCons (cVar 7) (cCons (cC (.int 1)) (cCons (cC (.int 4)) cNil)))) [7]) cNil))))) (cRet (cTup (cCons (cC (.str "rows")) cNil))) cNext) (cSeq (cIfS (cT (cCall (cBools fun bs => bs.any id) (cCons (cLc (cSrcA P w (cVar 2)) (.one 7) cYes (cOp cNe (cCall (cLenA P w) (cCons (cVar 7) cNil)) (cCall (cLenA P w) (cCons (cOp (cIxA P w) (cVar 2) (cC (.int 0))) cNil))) [7]) cNil))) (cRet (cTup (cCons (cC (.str "rows")) cNil))) cNext) (cSeq (cFor (cRng1 (cCons (cCall (cLenA P w) (cCons (cVar 2) cNil)) cNil)) (cName 3) (b_l_due_1 P w K W)) (cRet (cC .non)))))))
theorem w_l_due {P : Program} {w : World} {K : PySem.W.Frag} {mg : Str → Option Value} {base : Heap} {f : Addr} {fd : FuncData} (L : Lib mg) (D__law_number : Dn P w K mg base "_law_number" 1 [("_law_thing" : Str), ("_law_least" : Str), ("_law_most" : Str)] sp_l_number) (D__law_tuple : Dn P w K mg base "_law_tuple" 1 [("_law_thing" : Str), ("_law_least" : Str), ("_law_most" : Str)] sp_l_tuple) (D__law_are_steps : Dn P w K mg base "_law_are_steps" 4 [("_law_thing" : Str), ("_law_words" : Str), ("_law_standings" : Str)] sp_l_are_steps)
    (F : Fun K "_law_due" "_law_due" s_l_due f fd) (ln : ∀ ds h Q E, sp_l_due ds h Q E → ds.length = 3)
    (pl : ∀ ds h Q E', sp_l_due ds h Q E' → t_l_due P w K (fun _ => noX) { nx := fun _ h' => Q .non h', rt := Q } (startD N_l_due ds) h) : GF P w K mg base 5 f fd [("_law_worlds" : Str), ("_law_words" : Str), ("_law_rows_here" : Str)] sp_l_due := by
  refine gf_of (k := 4) F sc_l_due ln fun cdv A outer s H E ds h Q E' hr hg kx hs => ?_
  · have ru := room_u hr
    exact ⟨t_l_due P w K (fun _ => noX), (qss_cons (qs_if (qt_not (qt_val (qe_fn D__law_number (hr.mono (by omega)) hg TkD.none (qa_cons (qv 0) (qa_cons qe_int (qa_cons qe_int qa_nil)))))) (qss_one (qs_ret (qe_tup (qa_cons qe_str qa_nil)))) qss_nil) (qss_cons (qs_if (qt_not (qt_val (qe_fn D__law_number (hr.mono (by omega)) hg TkD.none (qa_cons (qv 1) (qa_cons qe_int (qa_cons qe_int qa_nil)))))) (qss_one (qs_ret (qe_tup (qa_cons qe_str qa_nil)))) qss_nil) (qss_cons (qs_if (QW.t (qw_or (qt_not (qt_val (qe_fn D__law_tuple (hr.mono (by omega)) hg TkD.none (qa_cons (qv 2) (qa_cons qe_int (qa_cons qe_int qa_nil)))))) (qw_or1 (qt_not (qt_val (qe_callB (cd_all rfl) rfl (L.n "all") b_all (qa_cons (qe_lc (own := [("_law_row", 7)]) rfl sc_l_due.nd (qi_any (qv 2)) (show BlkOk N_l_due (defScope s_l_due) _ [("_law_row", 7)] from ⟨rfl, by decide +kernel, by decide +kernel, by decide +kernel, by decide +kernel⟩) (by decide) (fun _ _ _ _ _ => (tg_one sc_l_due.nd rfl (.inl rfl) (K := _))) (fun _ _ _ _ _ => qts_nil) (fun _ _ _ _ _ => (qe_fn D__law_tuple (hr.mono (by omega)) hg TkD.none (qa_cons (qv 7) (qa_cons qe_int (qa_cons qe_int qa_nil)))))) qa_nil))))))) (qss_one (qs_ret (qe_tup (qa_cons qe_str qa_nil)))) qss_nil) (qss_cons (qs_if (qt_val (qe_callB (cd_any rfl) rfl (L.n "any") b_any (qa_cons (qe_lc (own := [("_law_row", 7)]) rfl sc_l_due.nd (qi_any (qv 2)) (show BlkOk N_l_due (defScope s_l_due) _ [("_law_row", 7)] from ⟨rfl, by decide +kernel, by decide +kernel, by decide +kernel, by decide +kernel⟩) (by decide) (fun _ _ _ _ _ => (tg_one sc_l_due.nd rfl (.inl rfl) (K := _))) (fun _ _ _ _ _ => qts_nil) (fun _ _ _ _ _ => (qe_cmp (od_ne (uu ru)) (qe_callB cd_lenA rfl (L.n "len") b_len (qa_cons (qv 7) qa_nil)) (qe_callB cd_lenA rfl (L.n "len") b_len (qa_cons (qe_ix (xd_any (uu ru)) (qv 2) qe_int (fun _ _ => rfl)) qa_nil))))) qa_nil))) (qss_one (qs_ret (qe_tup (qa_cons qe_str qa_nil)))) qss_nil) (qss_cons (qs_for (passes_of rfl) rfl (qi_range1 rfl (L.n "range") (qa_cons (qe_callB cd_lenA rfl (L.n "len") b_len (qa_cons (qv 2) qa_nil)) qa_nil)) (qg_name sc_l_due.nd rfl (by first | exact .inl rfl | exact .inr rfl)) (qss_one (qs_for (passes_of rfl) rfl (qi_range1 rfl (L.n "range") (qa_cons (qe_callB cd_lenA rfl (L.n "len") b_len (qa_cons (qe_ix (xd_any (uu ru)) (qv 2) qe_int (fun _ _ => rfl)) qa_nil)) qa_nil)) (qg_name sc_l_due.nd rfl (by first | exact .inl rfl | exact .inr rfl)) (qss_cons (qs_set sc_l_due.nd rfl (by first | exact .inl rfl | exact .inr rfl) (qe_ix (xd_any (uu ru)) (qe_ix (xd_any (uu ru)) (qv 2) (qv 3) (fun _ _ => rfl)) (qv 4) (fun _ _ => rfl))) (qss_cons (qs_if (qt_not (qt_val (qe_fn D__law_tuple (hr.mono (by omega)) hg TkD.none (qa_cons (qv 5) (qa_cons (qv 0) (qa_cons (qv 0) qa_nil)))))) (qss_one (qs_ret (qe_tup (qa_cons qe_str (qa_cons (qv 3) (qa_cons (qv 4) (qa_cons (qe_un ud_neg qe_int) qa_nil))))))) qss_nil) (qss_one (qs_for (passes_of rfl) rfl (qi_range1 rfl (L.n "range") (qa_cons (qv 0) qa_nil)) (qg_name sc_l_due.nd rfl (by first | exact .inl rfl | exact .inr rfl)) (qss_one (qs_if (qt_not (qt_val (qe_fn D__law_are_steps (hr.mono (by omega)) hg TkD.none (qa_cons (qe_ix (xd_any (uu ru)) (qv 5) (qv 6) (fun _ _ => rfl)) (qa_cons (qv 1) (qa_cons (qe_callB cd_lenA rfl (L.n "len") b_len (qa_cons (qv 2) qa_nil)) qa_nil)))))) (qss_one (qs_ret (qe_tup (qa_cons qe_str (qa_cons (qv 3) (qa_cons (qv 4) (qa_cons (qv 6) qa_nil))))))) qss_nil))))))))) (qss_one (qs_ret qe_non))))))), pl ds h Q E' hs⟩
end K63

-- K63J
set_option Elab.async false
set_option linter.all false
set_option maxRecDepth 100000
set_option maxHeartbeats 4000000
/-! K63J: the plain laws of the judge, the program's and the law's. -/
namespace K63
open PySem PySem.Spec PyProof.Rows L2 PD
section
variable {P : Program} {w : World} {K : PySem.W.Frag} {W : En → XD} {h : HD} {Q : DK} {Z : DE}
/-- a comprehension whose items tell g, nothing else happening -/
theorem map_loop {ok : HD → Prop} {tg : TgS} {te : CE} {ρ : En} {h : HD} {Q : DK} (g : D → D) (hok : ok h) : ∀ (xs acc : List D) (ht : ∀ x ∈ xs, ∀ k : DK, k (g x) h → tg.bind ρ x fun ρ1 => te ρ1 h k), (∀ p, h p = none → Q (.ref p) (updD h p (.lst (acc ++ xs.map g)))) → cLcGo ok tg cYes te ρ Q xs acc h
  | [], acc, _, q => ⟨hok, fun p np => by have := q p np; simpa using this⟩
  | x :: xs, acc, ht, q => by
    refine ⟨hok, ?_⟩
    have ih := map_loop g hok xs (acc ++ [g x]) (fun y hy => ht y (List.mem_cons_of_mem _ hy)) (fun p np => by have := q p np; simpa using this)
    exact ht x List.mem_cons_self _ ih
theorem map_bl {xs : List D} {f : D → Bool} : ([] ++ xs.map fun x => D.bl (f x)) = (xs.map f).map D.bl := by simp
theorem all_id {xs : List D} {f : D → Bool} : (xs.map f).all id = xs.all f := by rw [List.all_map]; rfl
theorem any_id {xs : List D} {f : D → Bool} : (xs.map f).any id = xs.any f := by rw [List.any_map]; rfl
theorem Kn.kdP {a : Addr} {N : Int} {x : D} (k : Kn a N h x) : PD.kdP h x := ⟨k.kd, fun u v e => by
  subst e
  exact ⟨Kn.kd k.1, Kn.kd k.2.1⟩⟩
theorem three_or (x : D) : (∃ a b c, x = .tup [a, b, c]) ∨ (szd x 3 3 = false ∧ ∀ wo st, isStep wo st x = false) := by
  have no : ∀ xs : List D, xs.length ≠ 3 → szd (.tup xs) 3 3 = false ∧ ∀ wo st, isStep wo st (.tup xs) = false := fun xs n => by
    refine ⟨?_, fun wo st => ?_⟩
    · rw [show szd (.tup xs) 3 3 = decide ((xs.length : Int) = 3) from szd_eq _ 3, decide_eq_false_iff_not]
      omega
    · unfold isStep
      split
      · rename_i e; cases e; exact absurd rfl n
      · rfl
  cases x with
  | tup xs =>
    match xs with
    | [] => exact .inr (no _ (by decide))
    | [_] => exact .inr (no _ (by simp))
    | [_, _] => exact .inr (no _ (by simp))
    | [a, b, c] => exact .inl ⟨a, b, c, rfl⟩
    | a :: b :: c :: d :: r => exact .inr (no _ (by simp))
  | _ => exact .inr ⟨rfl, fun _ _ => rfl⟩
theorem p_l_number (ds : List D) (h : HD) (Q : DK) (E : XD) (hs : sp_l_number ds h Q E) : t_l_number P w K W { nx := fun _ h' => Q .non h', rt := Q } (startD N_l_number ds) h := by
  obtain ⟨x, lo, hi, z, rfl, hk, q⟩ := hs
  have e := kd_isI hk
  refine .inl ⟨z, .int, hk, rfl, ifB (c := z.isa .int) (fun c => ?_) (fun c => ?_)⟩
  · rw [c, Bool.true_and] at e
    refine .inl ⟨z, .bl, hk, rfl, ?_⟩
    refine ifB (c := !z.isa .bl) (fun c2 => ?_) (fun c2 => ?_)
    · rw [c2] at e
      rcases isI_or x with ⟨i, rfl⟩ | n
      · change Q (.bl (decide (lo ≤ i) && decide (i ≤ hi))) h at q
        refine ⟨trivial, ifB (c := decide (lo ≤ i)) (fun c => ?_) (fun c => ?_)⟩
        · rw [c] at q; exact ⟨trivial, q⟩
        · rw [c] at q; exact q
      · rw [n] at e; cases e
    · rw [c2] at e
      have q0 : inW x lo hi = false := by cases x <;> first | rfl | cases e
      rw [q0] at q
      exact q
  · rw [c, Bool.false_and] at e
    have q0 : inW x lo hi = false := by cases x <;> first | rfl | cases e
    rw [q0] at q
    exact q
theorem p_l_tuple (ds : List D) (h : HD) (Q : DK) (E : XD) (hs : sp_l_tuple ds h Q E) : t_l_tuple P w K W { nx := fun _ h' => Q .non h', rt := Q } (startD N_l_tuple ds) h :=
  p_is_sized (P := P) (w := w) (K := K) (W := W) ds h Q E hs
theorem p_is_step (ds : List D) (h : HD) (Q : DK) (E : XD) (hs : sp_is_step ds h Q E) : t_is_step P w K W { nx := fun _ h' => Q .non h', rt := Q } (startD N_is_step ds) h := by
  obtain ⟨a, wo, st, x, rfl, hk, q⟩ := hs
  obtain ⟨z, kz⟩ := hk.kd
  refine ⟨x, z, rfl, kz, ?_⟩
  rcases three_or x with ⟨u, v, y, rfl⟩ | ⟨h1, h2⟩
  · obtain ⟨k1, k2, k3, _⟩ := hk
    obtain ⟨z1, kz1⟩ := k1.kd
    obtain ⟨z3, kz3⟩ := k3.kd
    change Q (.bl (inW u 0 (wo - 1) && (isSh v && inW y 0 (st - 1)))) h at q
    refine ifF (c := !szd (.tup [u, v, y]) 3 3) rfl ?_
    refine .inl ⟨u, rfl, u, 0, wo - 1, z1, rfl, kz1, ?_⟩
    refine ifB (c := !inW u 0 (wo - 1)) (fun c => ?_) (fun c => ?_)
    · have c' : inW u 0 (wo - 1) = false := by simpa using c
      rw [c', Bool.false_and] at q
      exact q
    · have c' : inW u 0 (wo - 1) = true := by simpa using c
      rw [c', Bool.true_and] at q
      refine .inl ⟨v, rfl, v, rfl, k2.kdP, ifB (c := isSh v) (fun c2 => ?_) (fun c2 => ?_)⟩
      · rw [c2, Bool.true_and] at q
        exact .inl ⟨y, rfl, y, 0, st - 1, z3, rfl, kz3, q⟩
      · rw [c2, Bool.false_and] at q
        exact q
  · refine ifT (c := !szd x 3 3) (by rw [h1]; rfl) ?_
    rw [h2] at q
    exact ifT rfl q
theorem lenA {r : D} (hr : szd r 1 4 = true) : ∃ xs, r = .tup xs := by
  cases r with
  | tup xs => exact ⟨xs, rfl⟩
  | _ => cases hr
theorem p_are_rows (ds : List D) (h : HD) (Q : DK) (E : XD) (hs : sp_are_rows ds h Q E) : t_are_rows P w K W { nx := fun _ h' => Q .non h', rt := Q } (startD N_are_rows ds) h := by
  obtain ⟨a, x, rfl, hk, q⟩ := hs
  obtain ⟨z, kz⟩ := hk.kd
  refine ⟨x, 1, 6, z, rfl, kz, ?_⟩
  refine ifB (c := !szd x 1 6) (fun c => ?_) (fun c => ?_)
  · have c' : szd x 1 6 = false := by simpa using c
    refine ifT rfl ?_
    have e : areRows x = false := by
      unfold areRows
      split
      · rw [c']; rfl
      · rfl
    have := q h (.refl h)
    rw [e] at this
    exact this
  · have c' : szd x 1 6 = true := by simpa using c
    cases x with
    | tup rs =>
      have ls : rs.length ≤ 6 := by
        have : (decide ((1 : Int) ≤ (rs.length : Int)) && decide ((rs.length : Int) ≤ 6)) = true := c'
        simp at this
        omega
      have l1 : 1 ≤ rs.length := by
        have : (decide ((1 : Int) ≤ (rs.length : Int)) && decide ((rs.length : Int) ≤ 6)) = true := c'
        simp at this
        omega
      have q' : ∀ h', Ex h h' → Q (.bl ((rs.all fun r => szd r 1 4) && rs.all fun r => decide (lenT r = lenT (rs.headD .non)))) h' := fun h' xx => by
        have := q h' xx
        have e : areRows (.tup rs) = ((rs.all fun r => szd r 1 4) && rs.all fun r => decide (lenT r = lenT (rs.headD .non))) := by
          show (szd (.tup rs) 1 6 && (rs.all fun r => szd r 1 4) && rs.all fun r => decide (lenT r = lenT (rs.headD .non))) = _
          rw [c', Bool.true_and]
        rw [e] at this
        exact this
      have hz : rs.length ≤ sizeLine := by rw [sizeLine_eq]; omega
      refine .inl ⟨hz, map_loop (fun r => D.bl (szd r 1 4)) trivial rs [] (fun r hr k kk => ?_) fun p np => ?_⟩
      · obtain ⟨zr, kr⟩ := (KnA.all.mp hk r hr).kd
        exact ⟨r, 1, 4, zr, rfl, kr, kk⟩
      · have x1 : Ex h (updD h p (.lst ([] ++ rs.map fun r => D.bl (szd r 1 4)))) := .new np
        refine ⟨rs.map fun r => szd r 1 4, by rw [updD_same, map_bl], ?_⟩
        refine ifB (c := !((rs.map fun r => szd r 1 4).all id)) (fun c => ?_) (fun c => ?_)
        · have c2 : (rs.all fun r => szd r 1 4) = false := by rw [← all_id]; simpa using c
          have := q' _ x1
          rw [c2, Bool.false_and] at this
          exact this
        · have c2 : (rs.all fun r => szd r 1 4) = true := by rw [← all_id]; simpa using c
          refine .inl ⟨hz, map_loop (fun r => D.bl (decide (lenT r = lenT (rs.headD .non)))) trivial rs [] (fun r hr k kk => ?_) fun p2 np2 => ?_⟩
          · obtain ⟨ys, rfl⟩ := lenA (List.all_eq_true.mp c2 r hr)
            match rs, l1, c2 with
            | r0 :: rt, _, c2 =>
              obtain ⟨y0, rfl⟩ := lenA (List.all_eq_true.mp c2 r0 List.mem_cons_self)
              refine .inl (.inl ⟨.tup y0, atI_nat (j := 0) rfl, .inl ⟨shp_int _, shp_int _, ?_⟩⟩)
              rw [eqD_int]
              have : decide ((ys.length : Int) = (y0.length : Int)) = decide (lenT (.tup ys) = lenT (List.headD (.tup y0 :: rt) .non)) := by
                show decide ((ys.length : Int) = (y0.length : Int)) = decide (ys.length = y0.length)
                exact decide_eq_decide.mpr (by omega)
              rw [this]
              exact kk
          · have x2 := x1.new' (o := .lst ([] ++ rs.map fun r => D.bl (decide (lenT r = lenT (rs.headD .non))))) np2
            refine ⟨rs.map fun r => decide (lenT r = lenT (rs.headD .non)), by rw [updD_same, map_bl], ?_⟩
            have := q' _ x2
            rw [c2, Bool.true_and] at this
            rw [show (fun bs : List Bool => bs.all id) (rs.map fun r => decide (lenT r = lenT (rs.headD .non))) = _ from all_id]
            exact this
    | _ => cases c'
/-! ### sums of few bits -/
theorem n30 : (1000000000000000000000000000000 : Int) < ((2 ^ 100 : Nat) : Int) := by decide
theorem div_pos_le {x g : Int} (hg : 0 < g) (hx : 0 ≤ x) : 0 ≤ x / g ∧ x / g ≤ x := ⟨Int.ediv_nonneg hx (Int.le_of_lt hg), by
  have := Int.ediv_le_self g hx
  exact this⟩
theorem plus_few {n : Nat} {a x : Int × Int} (a0 : 0 ≤ a.1) (a1 : 0 < a.2) (a2 : a.1 < ((2 ^ n : Nat) : Int)) (a3 : a.2 < ((2 ^ n : Nat) : Int)) (x0 : 0 ≤ x.1) (x1 : 0 < x.2) (x2 : x.1 < ((2 ^ 100 : Nat) : Int)) (x3 : x.2 < ((2 ^ 100 : Nat) : Int)) :
    0 ≤ (plusI a x).1 ∧ 0 < (plusI a x).2 ∧ (plusI a x).1 < ((2 ^ (n + 101) : Nat) : Int) ∧ (plusI a x).2 < ((2 ^ (n + 101) : Nat) : Int) := by
  have pb : 0 < a.2 * x.2 := Int.mul_pos a1 x1
  have g0 := gcdI_pos (t := a.1 * x.2 + x.1 * a.2) pb
  have gd : gcdI (a.1 * x.2 + x.1 * a.2) (a.2 * x.2) ∣ a.2 * x.2 := Int.gcd_dvd_right ..
  have mul : ∀ {u v : Int}, 0 ≤ u → u < ((2 ^ n : Nat) : Int) → 0 ≤ v → v < ((2 ^ 100 : Nat) : Int) → u * v < ((2 ^ (n + 100) : Nat) : Int) := fun {u v} u0 u1 v0 v1 => by
    rw [Nat.pow_add, Int.natCast_mul]
    have h1 : u * v ≤ u * ((2 ^ 100 : Nat) : Int) := Int.mul_le_mul_of_nonneg_left (Int.le_of_lt v1) u0
    have h2 : u * ((2 ^ 100 : Nat) : Int) < ((2 ^ n : Nat) : Int) * ((2 ^ 100 : Nat) : Int) := Int.mul_lt_mul_of_pos_right u1 (by omega)
    omega
  have m1 := mul a0 a2 (Int.le_of_lt x1) x3
  have m2 := mul (Int.le_of_lt a1) a3 x0 x2
  have m3 := mul (Int.le_of_lt a1) a3 (Int.le_of_lt x1) x3
  have e : ((2 ^ (n + 101) : Nat) : Int) = 2 * ((2 ^ (n + 100) : Nat) : Int) := by
    rw [show n + 101 = (n + 100) + 1 from rfl, Nat.pow_succ]; omega
  rw [Int.mul_comm a.2 x.1] at m2
  have t0 : 0 ≤ a.1 * x.2 + x.1 * a.2 := Int.add_nonneg (Int.mul_nonneg a0 (Int.le_of_lt x1)) (Int.mul_nonneg x0 (Int.le_of_lt a1))
  obtain ⟨d1, d2⟩ := div_pos_le g0 t0
  obtain ⟨d3, d4⟩ := div_pos_le g0 (Int.le_of_lt pb)
  refine ⟨d1, ?_, ?_, ?_⟩
  · exact Int.ediv_pos_of_pos_of_dvd pb (Int.le_of_lt g0) gd
  · show (a.1 * x.2 + x.1 * a.2) / _ < _
    omega
  · show (a.2 * x.2) / _ < _
    omega
theorem few_of {n : Nat} {x : Int × Int} (hn : n ≤ 4000) (x0 : 0 ≤ x.1) (x1 : 0 < x.2) (x2 : x.1 < ((2 ^ n : Nat) : Int)) (x3 : x.2 < ((2 ^ n : Nat) : Int)) : fewB 4000 x := by
  have : 2 ^ n ≤ 2 ^ 4000 := Nat.pow_le_pow_right (by decide) hn
  generalize 2 ^ n = u at this x2 x3
  generalize hv : 2 ^ 4000 = v at this
  refine ⟨x1, ?_, ?_⟩
  · rw [hv]; omega
  · rw [hv]; omega
theorem sum_few : ∀ (xs : List (Int × Int)) (n : Nat) (a : Int × Int), 0 ≤ a.1 → 0 < a.2 → a.1 < ((2 ^ n : Nat) : Int) → a.2 < ((2 ^ n : Nat) : Int) → n + 101 * xs.length ≤ 4000 → (∀ x ∈ xs, 0 ≤ x.1 ∧ 0 < x.2 ∧ x.1 < ((2 ^ 100 : Nat) : Int) ∧ x.2 < ((2 ^ 100 : Nat) : Int)) → sumOk a xs
  | [], _, _, _, _, _, _, _, _ => trivial
  | x :: xs, n, a, a0, a1, a2, a3, hn, hx => by
    rw [List.length_cons] at hn
    obtain ⟨x0, x1, x2, x3⟩ := hx x List.mem_cons_self
    obtain ⟨p0, p1, p2, p3⟩ := plus_few a0 a1 a2 a3 x0 x1 x2 x3
    exact ⟨few_of (by omega) a0 a1 a2 a3, few_of (n := 100) (by omega) x0 x1 x2 x3, sum_few xs (n + 101) _ p0 p1 p2 p3 (by omega) fun y hy => hx y (List.mem_cons_of_mem _ hy)⟩
/-! ### steps -/
def stD (u t b g : Int) : D := .tup [.int u, .tup [.int t, .int b], .int g]
theorem inW_int {x : D} {lo hi : Int} (h : inW x lo hi = true) : ∃ i, x = .int i ∧ lo ≤ i ∧ i ≤ hi := by
  cases x with
  | int i =>
    have h' : (decide (lo ≤ i) && decide (i ≤ hi)) = true := h
    simp at h'
    exact ⟨i, rfl, h'⟩
  | _ => cases h
theorem isSh_shape {x : D} (h : isSh x = true) : ∃ t b, x = .tup [.int t, .int b] ∧ 0 < t ∧ t ≤ b := by
  have h1 : isFr x = true := by
    cases c : isFr x with
    | true => rfl
    | false => unfold isSh at h; rw [c, Bool.false_and] at h; cases h
  obtain ⟨i, j, rfl, _, _⟩ := fr_two h1
  have h2 : (isFr (.tup [.int i, .int j]) && (decide (0 < i) && decide (i ≤ j))) = true := h
  rw [h1, Bool.true_and] at h2
  simp at h2
  exact ⟨i, j, rfl, h2⟩
theorem step_shape {wo st : Int} {x : D} (h : isStep wo st x = true) : ∃ u t b g, x = stD u t b g ∧ 0 < t ∧ t ≤ b := by
  rcases three_or x with ⟨a, v, y, rfl⟩ | ⟨_, n⟩
  · have h' : (inW a 0 (wo - 1) && (isSh v && inW y 0 (st - 1))) = true := h
    rw [Bool.and_eq_true, Bool.and_eq_true] at h'
    obtain ⟨h1, h2, h3⟩ := h'
    obtain ⟨u, rfl, _⟩ := inW_int h1
    obtain ⟨t, b, rfl, ht⟩ := isSh_shape h2
    obtain ⟨g, rfl, _⟩ := inW_int h3
    exact ⟨u, t, b, g, rfl, ht⟩
  · rw [n] at h; cases h
def kyD (p : Int × Int) : D := .tup [.int p.1, .int p.2]
theorem keq_ky (p q : Int × Int) : keq (kyD p) (kyD q) = decide (p = q) := by
  rw [keq_dec]
  refine decide_eq_decide.mpr ⟨fun e => ?_, fun e => by rw [e]⟩
  have e' : NestedKey.tup [.num p.1, .num p.2] = .tup [.num q.1, .num q.2] := e
  injection e' with e1
  injection e1 with e2 e3
  injection e2 with e2
  injection e3 with e3 _
  injection e3 with e3
  exact Prod.ext e2 e3
def addP (ps : List (Int × Int)) (p : Int × Int) : List (Int × Int) := if p ∈ ps then ps else ps ++ [p]
theorem any_ky (kvs : List (D × D)) (ps : List (Int × Int)) (p : Int × Int) (e : kvs.map (·.1) = ps.map kyD) : (kvs.any fun q => keq q.1 (kyD p)) = decide (p ∈ ps) := by
  have h1 : (kvs.any fun q => keq q.1 (kyD p)) = (kvs.map (·.1)).any fun k => keq k (kyD p) := by rw [List.any_map]; rfl
  rw [h1, e, List.any_map]
  have h2 : ((fun k => keq k (kyD p)) ∘ kyD) = fun q => decide (q = p) := funext fun q => keq_ky q p
  rw [h2]
  refine Bool.eq_iff_iff.mpr ?_
  simp
theorem put_keys (kvs : List (D × D)) (ps : List (Int × Int)) (p : Int × Int) (v : D) (e : kvs.map (·.1) = ps.map kyD) : (putK' kvs (kyD p) v).map (·.1) = (addP ps p).map kyD := by
  unfold putK' addP
  rw [any_ky kvs ps p e]
  by_cases m : p ∈ ps
  · rw [if_pos m, if_pos (decide_eq_true m), List.map_map, ← e]
    refine List.map_congr_left fun q _ => ?_
    show (if keq q.1 (kyD p) = true then (q.1, v) else q).1 = q.1
    split <;> rfl
  · rw [if_neg m, if_neg (by simp [m]), List.map_append, List.map_append, e]
    rfl
theorem addP_len : ∀ (qs ps : List (Int × Int)), ps.Nodup → ((qs.foldl addP ps).length = ps.length + qs.length ↔ (ps ++ qs).Nodup) ∧ (qs.foldl addP ps).length ≤ ps.length + qs.length
  | [], ps, n => by simp [n]
  | q :: qs, ps, n => by
    rw [List.foldl_cons, show addP ps q = if q ∈ ps then ps else ps ++ [q] from rfl]
    by_cases m : q ∈ ps
    · rw [if_pos m]
      obtain ⟨_, h2⟩ := addP_len qs ps n
      refine ⟨⟨fun e => ?_, fun e => ?_⟩, ?_⟩
      · rw [List.length_cons] at e; omega
      · have := (List.nodup_append.mp e).2.2 q m q List.mem_cons_self
        exact absurd rfl this
      · rw [List.length_cons]; omega
    · rw [if_neg m]
      have n' : (ps ++ [q]).Nodup := by
        rw [List.nodup_append]
        exact ⟨n, by simp, fun a ha b hb => by simp at hb; subst hb; exact fun z => m (z ▸ ha)⟩
      obtain ⟨h1, h2⟩ := addP_len qs (ps ++ [q]) n'
      rw [List.length_append, List.length_singleton] at h1 h2
      rw [List.length_cons]
      rw [List.append_assoc, List.singleton_append] at h1
      exact ⟨⟨fun e => h1.mp (by omega), fun e => by have := h1.mpr e; omega⟩, by omega⟩
theorem dc_loop {a b c o : Option D} {L : Addr} : ∀ (xs : List D) (ps : List (Int × Int)) (kvs : List (D × D)) (h : HD), (∀ x ∈ xs, ∃ u t bb g, x = stD u t bb g) → h L = some (.dN P w kvs) → kvs.map (·.1) = ps.map kyD → kvs.length + xs.length ≤ 1000 →
    (∀ h' kvs', ExB L h h' → h' L = some (.dN P w kvs') → kvs'.length = ((xs.map pairOf).foldl addP ps).length → Q (.ref L) h') →
    cDcGo P w (fun _ => True) (.many [4, 5, 6]) cYes (cTup (cCons (cVar 4) (cCons (cVar 6) cNil))) (cC (.bl true)) [a, b, c, o, none, none, none, none] L Q xs h
  | [], ps, kvs, h, _, e, ek, hl, q => ⟨trivial, q h kvs (.refl L h) e (by
    have : (kvs.map (·.1)).length = (ps.map kyD).length := by rw [ek]
    simpa using this)⟩
  | x :: xs, ps, kvs, h, hx, e, ek, hl, q => by
    obtain ⟨u, t, bb, g, rfl⟩ := hx x List.mem_cons_self
    rw [List.length_cons] at hl
    have ek' := put_keys kvs ps (u, g) (.bl true) ek
    have hl' : (putK' kvs (kyD (u, g)) (.bl true)).length ≤ kvs.length + 1 := by
      unfold putK'
      split
      · rw [List.length_map]; omega
      · rw [List.length_append]; simp
    refine ⟨trivial, rfl, by show 2 ≤ sizeLine; decide, kvs, .inl e, rfl, by show 1 ≤ 8; decide, by rw [sizeLine_eq]; omega, ?_⟩
    refine dc_loop xs (addP ps (u, g)) _ _ (fun y hy => hx y (List.mem_cons_of_mem _ hy)) updD_same ek' (by show (putK' kvs (kyD (u, g)) (.bl true)).length + xs.length ≤ 1000; omega) fun h' kvs' x1 e' l' => ?_
    exact q h' kvs' ((ExB.setN e (fun _ z => by cases z)).trans x1) e' l'
theorem len12 {xs : List D} (c : szd (.tup xs) 1 12 = true) : 1 ≤ xs.length ∧ xs.length ≤ 12 := by
  have : (decide ((1 : Int) ≤ (xs.length : Int)) && decide ((xs.length : Int) ≤ 12)) = true := c
  simp at this
  omega
theorem sh_bound {a : Addr} {xs : List D} {wo st : Int} (hk : KnA a N30 h xs) (c : xs.all (isStep wo st) = true) : ∀ x ∈ xs.map shOf, 0 ≤ x.1 ∧ 0 < x.2 ∧ x.1 < ((2 ^ 100 : Nat) : Int) ∧ x.2 < ((2 ^ 100 : Nat) : Int) := fun x hx => by
  obtain ⟨y, hy, rfl⟩ := List.mem_map.mp hx
  obtain ⟨u, t, b, g, rfl, t0, tb⟩ := step_shape (List.all_eq_true.mp c y hy)
  obtain ⟨_, ⟨⟨_, h2⟩, ⟨_, h3⟩, _⟩, _⟩ := (KnA.all.mp hk _ hy)
  have := n30
  show 0 ≤ t ∧ 0 < b ∧ t < _ ∧ b < _
  have e : N30 = 1000000000000000000000000000000 := rfl
  rw [e] at h2 h3
  omega
theorem p_are_steps (ds : List D) (h : HD) (Q : DK) (E : XD) (hs : sp_are_steps ds h Q E) : t_are_steps P w K W { nx := fun _ h' => Q .non h', rt := Q } (startD N_are_steps ds) h := by
  obtain ⟨a, wo, st, x, rfl, hk, q⟩ := hs
  obtain ⟨z, kz⟩ := hk.kd
  refine ⟨x, 1, 12, z, rfl, kz, ?_⟩
  refine ifB (c := !szd x 1 12) (fun c => ?_) (fun c => ?_)
  · have c' : szd x 1 12 = false := by simpa using c
    refine ifT rfl ?_
    have e : areSteps wo st x = false := by
      unfold areSteps
      split
      · rw [c', Bool.false_and, Bool.false_and]
      · rfl
    have := q h (.refl h)
    rw [e] at this
    exact this
  · have c' : szd x 1 12 = true := by simpa using c
    cases x with
    | tup xs =>
      obtain ⟨l1, l2⟩ := len12 c'
      have hz : xs.length ≤ sizeLine := by rw [sizeLine_eq]; omega
      have q' : ∀ h', Ex h h' → Q (.bl ((xs.all (isStep wo st)) && (decide ((xs.map pairOf).Nodup) && decide (sumI (xs.map shOf) = (1, 1))))) h' := fun h' xx => by
        have := q h' xx
        rw [show areSteps wo st (.tup xs) = ((xs.all (isStep wo st)) && (decide ((xs.map pairOf).Nodup) && decide (sumI (xs.map shOf) = (1, 1)))) by
          show (szd (.tup xs) 1 12 && (xs.all (isStep wo st)) && (decide ((xs.map pairOf).Nodup) && decide (sumI (xs.map shOf) = (1, 1)))) = _
          rw [c', Bool.true_and]] at this
        exact this
      refine .inl ⟨hz, map_loop (fun r => D.bl (isStep wo st r)) trivial xs [] (fun r hr k kk => ⟨a, wo, st, r, rfl, KnA.all.mp hk r hr, kk⟩) fun p np => ?_⟩
      have x1 : Ex h (updD h p (.lst ([] ++ xs.map fun r => D.bl (isStep wo st r)))) := .new np
      refine ⟨xs.map (isStep wo st), by rw [updD_same, map_bl], ?_⟩
      refine ifB (c := !((xs.map (isStep wo st)).all id)) (fun c => ?_) (fun c => ?_)
      · have c2 : xs.all (isStep wo st) = false := by rw [← all_id]; simpa using c
        have := q' _ x1
        rw [c2, Bool.false_and] at this
        exact this
      · have c2 : xs.all (isStep wo st) = true := by rw [← all_id]; simpa using c
        have shp_ : ∀ x ∈ xs, ∃ u t b g, x = stD u t b g := fun x hx => by
          obtain ⟨u, t, b, g, e, _⟩ := step_shape (List.all_eq_true.mp c2 x hx)
          exact ⟨u, t, b, g, e⟩
        refine .inl fun L nL => ?_
        refine dc_loop xs [] [] _ shp_ updD_same rfl (by simp; omega) fun h2 kvs xb e2 lk => ?_
        have x2 : Ex h h2 := fun b o e => by
          have e1 := x1 b o e
          have nb : b ≠ L := fun z => by rw [z] at e1; rw [e1] at nL; cases nL
          exact xb b o nb (by rw [updD_ne nb]; exact e1)
        obtain ⟨al, _⟩ := addP_len (xs.map pairOf) [] List.nodup_nil
        rw [List.nil_append, List.length_nil, Nat.zero_add, List.length_map] at al
        refine .inr ⟨L, kvs, rfl, .inl e2, .inl ⟨shp_int _, shp_int _, ?_⟩⟩
        rw [eqD_int]
        have ed : decide (((kvs.length : Nat) : Int) = ((xs.length : Nat) : Int)) = decide ((xs.map pairOf).Nodup) := by
          refine decide_eq_decide.mpr ?_
          rw [← al, ← lk]
          omega
        rw [ed]
        refine ifB (c := decide ((xs.map pairOf).Nodup)) (fun c => ?_) (fun c => ?_)
        · refine .inl ⟨hz, map_loop (fun r => prD2 (shOf r)) trivial xs [] (fun r hr k kk => ?_) fun p2 np2 => ?_⟩
          · obtain ⟨u, t, b, g, rfl⟩ := shp_ r hr
            exact ⟨rfl, kk⟩
          · have x3 := x2.new' (o := .lst ([] ++ xs.map fun r => prD2 (shOf r))) np2
            have el : ([] ++ xs.map fun r => prD2 (shOf r)) = (xs.map shOf).map prD2 := by simp
            refine ⟨p2, xs.map shOf, rfl, by rw [updD_same, el], by rw [List.length_map]; omega, ?_, fun h4 x4 => ?_⟩
            · exact sum_few _ 1 (0, 1) (by decide) (by decide) (by decide) (by decide) (by rw [List.length_map]; omega) (sh_bound hk c2)
            · have := q' _ (x3.trans x4)
              rw [c2, c, Bool.true_and, Bool.true_and] at this
              have ea : ((xs.map shOf).all fun x => isSh (prD2 x)) = true := by
                rw [List.all_map, List.all_eq_true]
                intro y hy
                obtain ⟨a', v, y', e3⟩ : ∃ a v y', y = .tup [a, v, y'] := by
                  obtain ⟨u, t, b, g, rfl⟩ := shp_ y hy
                  exact ⟨_, _, _, rfl⟩
                have hst := List.all_eq_true.mp c2 y hy
                obtain ⟨u, t, b, g, rfl⟩ := shp_ y hy
                have h' : (inW (.int u) 0 (wo - 1) && (isSh (.tup [.int t, .int b]) && inW (.int g) 0 (st - 1))) = true := hst
                rw [Bool.and_eq_true, Bool.and_eq_true] at h'
                exact h'.2.1
              rw [ea, Bool.true_and]
              exact this
        · have := q' _ x2
          rw [c2, c, Bool.true_and, Bool.false_and] at this
          exact this
    | _ => cases c'
end
end K63

-- K63K
set_option Elab.async false
set_option linter.all false
set_option maxRecDepth 100000
set_option maxHeartbeats 4000000
/-! K63K: the plain laws of the judge, on. -/
namespace K63
open PySem PySem.Spec PyProof.Rows L2 PD
section
variable {P : Program} {w : World} {K : PySem.W.Frag} {W : En → XD} {h : HD} {Q : DK} {Z : DE} {E : XD}
abbrev enF (i : Nat) (ys : List D) : List D := (ys.zipIdx i).map fun p => D.tup [.int (p.2 : Nat), p.1]
theorem enF_cons (i : Nat) (y : D) (ys : List D) : enF i (y :: ys) = .tup [.int (i : Nat), y] :: enF (i + 1) ys := rfl
theorem cr3 {a : Addr} {nw wo : Int} {rs : List D} {row qn : Option D} {s q : Int} : ∀ (ys : List D) (i : Nat) (o7 o8 : Option D) (h : HD), KnA a N30 h ys → (worldBad wo (rs.length : Nat) s q i ys = none → ∀ o7 o8 h', Ex h h' → Z.nx [some (.int nw), some (.int wo), some (.tup rs), some (.int s), row, some (.int q), qn, o7, o8] h') →
    (∀ p, worldBad wo (rs.length : Nat) s q i ys = some p → ∀ h', Ex h h' → xPart K E p h') →
    cLoop (fun _ => True) (cGTup 2 (cGCons (cName 7) (cGCons (cName 8) cGNil))) (b_check_rows_3 P w K fun _ => E) Z (enF i ys) [some (.int nw), some (.int wo), some (.tup rs), some (.int s), row, some (.int q), qn, o7, o8] h
  | [], i, o7, o8, h, _, q1, _ => ⟨trivial, q1 rfl o7 o8 h (.refl h)⟩
  | y :: ys, i, o7, o8, h, hk, q1, q2 => by
    refine ⟨trivial, rfl, rfl, ?_⟩
    refine .inl ⟨a, wo, (rs.length : Nat), y, rfl, hk.1, fun h1 x1 => ?_⟩
    unfold worldBad at q1 q2
    refine ifB (c := !areSteps wo (rs.length : Nat) y) (fun c => ?_) (fun c => ?_)
    · have c' : areSteps wo (rs.length : Nat) y = false := by simpa using c
      rw [if_neg (by rw [c']; decide)] at q2
      exact ⟨by show 4 ≤ sizeLine; decide, q2 _ rfl h1 x1⟩
    · have c' : areSteps wo (rs.length : Nat) y = true := by simpa using c
      rw [if_pos c'] at q1 q2
      exact cr3 ys (i + 1) _ _ h1 (KnA.ex x1.b hk.2) (fun e o7 o8 h' x' => q1 e o7 o8 h' (x1.trans x')) fun p e h' x' => q2 p e h' (x1.trans x')
def tupN (x : D) (n : Int) : Bool := match x with
  | .tup ys => decide ((ys.length : Int) = n)
  | _ => false
theorem szd_tup {x : D} {n : Int} : szd x n n = tupN x n := by
  cases x with
  | tup xs =>
    show (decide (n ≤ (xs.length : Int)) && decide ((xs.length : Int) ≤ n)) = decide ((xs.length : Int) = n)
    by_cases e : (xs.length : Int) = n
    · rw [e]; simp
    · rw [decide_eq_false e, ← Bool.not_eq_true, Bool.and_eq_true, decide_eq_true_eq, decide_eq_true_eq]; omega
  | _ => rfl
theorem cr2 {a : Addr} {nw wo : Int} {rs : List D} {row : Option D} {s : Int} : ∀ (ys : List D) (i : Nat) (o5 o6 o7 o8 : Option D) (h : HD), KnA a N30 h ys → (questBad nw wo (rs.length : Nat) s i ys = none → ∀ o5 o6 o7 o8 h', Ex h h' → Z.nx [some (.int nw), some (.int wo), some (.tup rs), some (.int s), row, o5, o6, o7, o8] h') →
    (∀ p, questBad nw wo (rs.length : Nat) s i ys = some p → ∀ h', Ex h h' → xPart K E p h') →
    cLoop (fun _ => True) (cGTup 2 (cGCons (cName 5) (cGCons (cName 6) cGNil))) (b_check_rows_2 P w K fun _ => E) Z (enF i ys) [some (.int nw), some (.int wo), some (.tup rs), some (.int s), row, o5, o6, o7, o8] h
  | [], i, o5, o6, o7, o8, h, _, q1, _ => ⟨trivial, q1 rfl o5 o6 o7 o8 h (.refl h)⟩
  | y :: ys, i, o5, o6, o7, o8, h, hk, q1, q2 => by
    refine ⟨trivial, rfl, rfl, ?_⟩
    obtain ⟨z, kz⟩ := hk.1.kd
    refine ⟨y, nw, nw, z, rfl, kz, ?_⟩
    rw [szd_tup]
    have bad : tupN y nw = false → questBad nw wo (rs.length : Nat) s i (y :: ys) = some (partD s i (-1)) := fun c => by
      unfold questBad
      cases y with
      | tup zs => exact if_neg (by rw [show decide ((zs.length : Int) = nw) = false from c]; decide)
      | _ => rfl
    refine ifB (c := !tupN y nw) (fun c => ?_) (fun c => ?_)
    · exact ⟨by show 4 ≤ sizeLine; decide, q2 _ (bad (by simpa using c)) h (.refl h)⟩
    · have c' : tupN y nw = true := by simpa using c
      cases y with
      | tup zs =>
        have e1 : questBad nw wo (rs.length : Nat) s i (.tup zs :: ys) = (match worldBad wo (rs.length : Nat) s i 0 zs with
          | some p => some p
          | none => questBad nw wo (rs.length : Nat) s (i + 1) ys) := if_pos c'
        rw [e1] at q1 q2
        have go : cLoop (fun _ => True) (cGTup 2 (cGCons (cName 7) (cGCons (cName 8) cGNil))) (b_check_rows_3 P w K fun _ => E) { Z with nx := cLoop (fun _ => True) (cGTup 2 (cGCons (cName 5) (cGCons (cName 6) cGNil))) (b_check_rows_2 P w K fun _ => E) Z (enF (i + 1) ys), ct := cLoop (fun _ => True) (cGTup 2 (cGCons (cName 5) (cGCons (cName 6) cGNil))) (b_check_rows_2 P w K fun _ => E) Z (enF (i + 1) ys), bk := Z.nx } (enF 0 zs) [some (.int nw), some (.int wo), some (.tup rs), some (.int s), row, some (.int (i : Nat)), some (.tup zs), o7, o8] h := by
          refine cr3 (a := a) zs 0 o7 o8 h hk.1 (fun e o7 o8 h' x' => ?_) fun p e h' x' => ?_
          · rw [e] at q1 q2
            exact cr2 ys (i + 1) _ _ o7 o8 h' (KnA.ex x'.b hk.2) (fun e2 o5 o6 o7 o8 h2 x2 => q1 e2 o5 o6 o7 o8 h2 (x'.trans x2)) fun p e2 h2 x2 => q2 p e2 h2 (x'.trans x2)
          · rw [e] at q2
            exact q2 p rfl h' x'
        exact go
      | _ => cases c'
theorem rows_tup {rs : List D} (c : areRows (.tup rs) = true) : ∀ r ∈ rs, ∃ ys, r = .tup ys ∧ ys.length ≤ 4 ∧ ys.length = lenT (rs.headD .non) := fun r hr => by
  have c' : (szd (.tup rs) 1 6 && (rs.all fun r => szd r 1 4) && rs.all fun r => decide (lenT r = lenT (rs.headD .non))) = true := c
  rw [Bool.and_eq_true, Bool.and_eq_true] at c'
  have h1 := List.all_eq_true.mp c'.1.2 r hr
  have h2 := of_decide_eq_true (List.all_eq_true.mp c'.2 r hr)
  obtain ⟨ys, rfl⟩ := lenA h1
  have h3 : (decide ((1 : Int) ≤ (ys.length : Int)) && decide ((ys.length : Int) ≤ 4)) = true := h1
  simp at h3
  exact ⟨ys, rfl, by omega, h2⟩
theorem cr1 {a : Addr} {nw wo : Int} {rs : List D} : ∀ (ys : List D) (i : Nat) (o3 o4 o5 o6 o7 o8 : Option D) (h : HD), (∀ r ∈ ys, ∃ zs, r = .tup zs) → KnA a N30 h ys → (rowBad nw wo (rs.length : Nat) i ys = none → ∀ ρ h', Ex h h' → Z.nx ρ h') →
    (∀ p, rowBad nw wo (rs.length : Nat) i ys = some p → ∀ h', Ex h h' → xPart K E p h') →
    cLoop (fun _ => True) (cGTup 2 (cGCons (cName 3) (cGCons (cName 4) cGNil))) (b_check_rows_1 P w K fun _ => E) Z (enF i ys) [some (.int nw), some (.int wo), some (.tup rs), o3, o4, o5, o6, o7, o8] h
  | [], i, o3, o4, o5, o6, o7, o8, h, _, _, q1, _ => ⟨trivial, q1 rfl _ h (.refl h)⟩
  | y :: ys, i, o3, o4, o5, o6, o7, o8, h, ht, hk, q1, q2 => by
    refine ⟨trivial, rfl, rfl, ?_⟩
    obtain ⟨zs, rfl⟩ := ht y List.mem_cons_self
    have e1 : rowBad nw wo (rs.length : Nat) i (.tup zs :: ys) = (match questBad nw wo (rs.length : Nat) i 0 zs with
      | some p => some p
      | none => rowBad nw wo (rs.length : Nat) (i + 1) ys) := rfl
    rw [e1] at q1 q2
    refine cr2 (a := a) zs 0 o5 o6 o7 o8 h hk.1 (fun e o5 o6 o7 o8 h' x' => ?_) fun p e h' x' => ?_
    · rw [e] at q1 q2
      exact cr1 ys (i + 1) _ _ o5 o6 o7 o8 h' (fun r hr => ht r (List.mem_cons_of_mem _ hr)) (KnA.ex x'.b hk.2) (fun e2 ρ h2 x2 => q1 e2 ρ h2 (x'.trans x2)) fun p e2 h2 x2 => q2 p e2 h2 (x'.trans x2)
    · rw [e] at q2
      exact q2 p rfl h' x'
theorem p_check_rows (ds : List D) (h : HD) (Q : DK) (E : XD) (hs : sp_check_rows K ds h Q E) : t_check_rows P w K (fun _ => E) { nx := fun _ h' => Q .non h', rt := Q } (startD N_check_rows ds) h := by
  obtain ⟨a, nw, wo, rs, rfl, c, hk, q⟩ := hs
  refine cr1 (a := a) rs 0 none none none none none none h (fun r hr => ?_) hk (fun e ρ h' x => ?_) fun p e h' x => ?_
  · obtain ⟨ys, e, _⟩ := rows_tup c r hr
    exact ⟨ys, e⟩
  · have := q h' x
    rw [e] at this
    exact this
  · have := q h' x
    rw [e] at this
    exact this
end
end K63

-- K63C
set_option Elab.async false
set_option linter.all false
set_option maxRecDepth 100000
set_option maxHeartbeats 4000000
/-! printed by gen.py: the walks of the defs -/
namespace K63
open PySem PySem.Spec PyProof.Rows L2 PD

/-! ### _law_steps -/
abbrev s_l_steps : Stmt := atS PySem.Challenge.pw_tellsless_k63_machines_refused 39
abbrev N_l_steps : List Str := [("_law_hand_here" : Str), ("_law_words" : Str), ("_law_standings" : Str), ("_law_word" : Str), ("_law_turn" : Str), ("_law_whole" : Str), ("_law_pairs" : Str), ("_law_counts" : Str), ("_law_pair" : Str), ("_law_standing" : Str)]
theorem sc_l_steps : FnScope N_l_steps [("_law_hand_here" : Str), ("_law_words" : Str), ("_law_standings" : Str)] (defScope s_l_steps) := ⟨rfl, rfl, rfl, by decide +kernel, rfl, by decide +kernel, by decide +kernel⟩
def b_l_steps_1 (P : Program) (w : World) (K : PySem.W.Frag) (W : En → XD) : CS := (cSet 6 (cOp cAdd (cVar 6) (cLc (cRng1 (cCons (cVar 2) cNil)) (.one 9) cYes (cTup (cCons (cVar 3) (cCons (cVar 9) cNil))) [9])))
def b_l_steps_2 (P : Program) (w : World) (K : PySem.W.Frag) (W : En → XD) : CS := (cSeq (cSet 8 (cFn sp_l_any (fun _ => noX) (cCons (cVar 0) (cCons (cVar 6) cNil)))) (cAsg (cOp cAdd (cDGet2 P w (cVar 7) (cVar 8) (cC (.int 0))) (cC (.int 1))) (cItm (cVar 7) (cVar 8) (cSetA P w))))
def t_l_steps (P : Program) (w : World) (K : PySem.W.Frag) (W : En → XD) : CS := (cSeq (cAsg (cTup (cCons (cLst cNil) (cCons (cDNew P w) cNil))) (cGTup 2 (cGCons (cName 6) (cGCons (cName 7) cGNil)))) (cSeq (cFor (cRng1 (cCons (cVar 1) cNil)) (cName 3) (b_l_steps_1 P w K W)) (cSeq (cFor (cRng1 (cCons (cOp cAdd (cC (.int 1)) (cFn sp_l_draw (fun _ => noX) (cCons (cVar 0) (cCons (cC (.int 5)) cNil)))) cNil)) (cName 4) (b_l_steps_2 P w K W)) (cSeq (cSet 5 (cCall cSum (cCons (cLc (cSrcA P w (cVar 7)) (.one 8) cYes (cOp (cIxA P w) (cVar 7) (cVar 8)) [8]) cNil))) (cRet (cCall cTuple (cCons (cLc (cSrcA P w (cVar 7)) (.one 8) cYes (cTup (cCons (cOp (cIxA P w) (cVar 8) (cC (.int 0))) (cCons (cFn sp_l_low (fun _ => noX) (cCons (cOp (cIxA P w) (cVar 7) (cVar 8)) (cCons (cVar 5) cNil))) (cCons (cOp (cIxA P w) (cVar 8) (cC (.int 1))) cNil)))) [8]) cNil)))))))
theorem w_l_steps {P : Program} {w : World} {K : PySem.W.Frag} {mg : Str → Option Value} {base : Heap} {f : Addr} {fd : FuncData} (L : Lib mg) (D__law_draw : Dn P w K mg base "_law_draw" 1 [("_law_hand_here" : Str), ("_law_many" : Str)] sp_l_draw) (D__law_any : Dn P w K mg base "_law_any" 2 [("_law_hand_here" : Str), ("_law_things" : Str)] sp_l_any) (D__law_low : Dn P w K mg base "_law_low" 1 [("_law_top" : Str), ("_law_bottom" : Str)] sp_l_low)
    (F : Fun K "_law_steps" "_law_steps" s_l_steps f fd) (ln : ∀ ds h Q E, sp_l_steps ds h Q E → ds.length = 3)
    (pl : ∀ ds h Q E', sp_l_steps ds h Q E' → t_l_steps P w K (fun _ => noX) { nx := fun _ h' => Q .non h', rt := Q } (startD N_l_steps ds) h) : GF P w K mg base 3 f fd [("_law_hand_here" : Str), ("_law_words" : Str), ("_law_standings" : Str)] sp_l_steps := by
  refine gf_of (k := 2) F sc_l_steps ln fun cdv A outer s H E ds h Q E' hr hg kx hs => ?_
  · have ru := room_u hr
    exact ⟨t_l_steps P w K (fun _ => noX), (qss_cons (qs_asg (qe_tup (qa_cons (qe_lst qa_nil) (qa_cons qe_dnewN qa_nil))) (qg_tup rfl (qgs_cons (qg_name sc_l_steps.nd rfl (by first | exact .inl rfl | exact .inr rfl)) (qgs_cons (qg_name sc_l_steps.nd rfl (by first | exact .inl rfl | exact .inr rfl)) qgs_nil)))) (qss_cons (qs_for (passes_of rfl) rfl (qi_range1 rfl (L.n "range") (qa_cons (qv 1) qa_nil)) (qg_name sc_l_steps.nd rfl (by first | exact .inl rfl | exact .inr rfl)) (qss_one (qs_set sc_l_steps.nd rfl (by first | exact .inl rfl | exact .inr rfl) (qe_op od_add (qv 6) (qe_lc (own := [("_law_standing", 9)]) rfl sc_l_steps.nd (qi_range1 rfl (L.n "range") (qa_cons (qv 2) qa_nil)) (show BlkOk N_l_steps (defScope s_l_steps) _ [("_law_standing", 9)] from ⟨rfl, by decide +kernel, by decide +kernel, by decide +kernel, by decide +kernel⟩) (by decide) (fun _ _ _ _ _ => (tg_one sc_l_steps.nd rfl (.inl rfl) (K := _))) (fun _ _ _ _ _ => qts_nil) (fun _ _ _ _ _ => (qe_tup (qa_cons (qv 3) (qa_cons (qv 9) qa_nil))))))))) (qss_cons (qs_for (passes_of rfl) rfl (qi_range1 rfl (L.n "range") (qa_cons (qe_op od_add qe_int (qe_fn D__law_draw (hr.mono (by omega)) hg TkD.none (qa_cons (qv 0) (qa_cons qe_int qa_nil)))) qa_nil)) (qg_name sc_l_steps.nd rfl (by first | exact .inl rfl | exact .inr rfl)) (qss_cons (qs_set sc_l_steps.nd rfl (by first | exact .inl rfl | exact .inr rfl) (qe_fn D__law_any (hr.mono (by omega)) hg TkD.none (qa_cons (qv 0) (qa_cons (qv 6) qa_nil)))) (qss_one (qs_asg (qe_op od_add (qe_dget2 (uu ru) (qv 7) (qv 8) qe_int ⟨rfl, rfl, rfl, rfl⟩) qe_int) (qg_sub (qv 7) (qv 8) (sd_any (uu ru))))))) (qss_cons (qs_set sc_l_steps.nd rfl (by first | exact .inl rfl | exact .inr rfl) (qe_callB (cd_sum rfl) rfl (L.n "sum") b_sum (qa_cons (qe_lc (own := [("_law_pair", 8)]) rfl sc_l_steps.nd (qi_any (qv 7)) (show BlkOk N_l_steps (defScope s_l_steps) _ [("_law_pair", 8)] from ⟨rfl, by decide +kernel, by decide +kernel, by decide +kernel, by decide +kernel⟩) (by decide) (fun _ _ _ _ _ => (tg_one sc_l_steps.nd rfl (.inl rfl) (K := _))) (fun _ _ _ _ _ => qts_nil) (fun _ _ _ _ _ => (qe_ix (xd_any (uu ru)) (qv 7) (qv 8) (fun _ _ => rfl)))) qa_nil))) (qss_one (qs_ret (qe_callTy cd_tuple rfl (L.n "tuple") b_tuple (qa_cons (qe_lc (own := [("_law_pair", 8)]) rfl sc_l_steps.nd (qi_any (qv 7)) (show BlkOk N_l_steps (defScope s_l_steps) _ [("_law_pair", 8)] from ⟨rfl, by decide +kernel, by decide +kernel, by decide +kernel, by decide +kernel⟩) (by decide) (fun _ _ _ _ _ => (tg_one sc_l_steps.nd rfl (.inl rfl) (K := _))) (fun _ _ _ _ _ => qts_nil) (fun _ _ _ _ _ => (qe_tup (qa_cons (qe_ix (xd_any (uu ru)) (qv 8) qe_int (fun _ _ => rfl)) (qa_cons (qe_fn D__law_low (hr.mono (by omega)) hg TkD.none (qa_cons (qe_ix (xd_any (uu ru)) (qv 7) (qv 8) (fun _ _ => rfl)) (qa_cons (qv 5) qa_nil))) (qa_cons (qe_ix (xd_any (uu ru)) (qv 8) qe_int (fun _ _ => rfl)) qa_nil)))))) qa_nil)))))))), pl ds h Q E' hs⟩
/-! ### _law_rows -/
abbrev s_l_rows : Stmt := atS PySem.Challenge.pw_tellsless_k63_machines_refused 40
abbrev N_l_rows : List Str := [("_law_hand_here" : Str), ("_law_worlds" : Str), ("_law_words" : Str), ("_law_asked" : Str), ("_law_standings" : Str), ("_law_rows_here" : Str), ("_law_standing" : Str), ("_law_row" : Str), ("_law_question" : Str), ("_law_steps_here" : Str), ("_law_world" : Str)]
theorem sc_l_rows : FnScope N_l_rows [("_law_hand_here" : Str), ("_law_worlds" : Str), ("_law_words" : Str), ("_law_asked" : Str), ("_law_standings" : Str)] (defScope s_l_rows) := ⟨rfl, rfl, rfl, by decide +kernel, rfl, by decide +kernel, by decide +kernel⟩
def b_l_rows_2 (P : Program) (w : World) (K : PySem.W.Frag) (W : En → XD) : CS := (cSeq (cSet 9 (cLc (cRng1 (cCons (cVar 1) cNil)) (.one 10) cYes (cFn sp_l_steps (fun _ => noX) (cCons (cVar 0) (cCons (cVar 2) (cCons (cVar 4) cNil)))) [10])) (cDrop (cLm (cVar 7) (cCons (cIf (cT (cOp cEq (cFn sp_l_draw (fun _ => noX) (cCons (cVar 0) (cCons (cC (.int 3)) cNil))) (cC (.int 0)))) (cOp cMul (cTup (cCons (cOp (cIxA P w) (cVar 9) (cC (.int 0))) cNil)) (cVar 1)) (cCall cTuple (cCons (cVar 9) cNil))) cNil) cApp)))
def b_l_rows_1 (P : Program) (w : World) (K : PySem.W.Frag) (W : En → XD) : CS := (cSeq (cSet 7 (cLst cNil)) (cSeq (cFor (cRng1 (cCons (cVar 3) cNil)) (cName 8) (b_l_rows_2 P w K W)) (cDrop (cLm (cVar 5) (cCons (cCall cTuple (cCons (cVar 7) cNil)) cNil) cApp))))
def t_l_rows (P : Program) (w : World) (K : PySem.W.Frag) (W : En → XD) : CS := (cSeq (cSet 5 (cLst cNil)) (cSeq (cFor (cRng1 (cCons (cVar 4) cNil)) (cName 6) (b_l_rows_1 P w K W)) (cRet (cCall cTuple (cCons (cVar 5) cNil)))))
theorem w_l_rows {P : Program} {w : World} {K : PySem.W.Frag} {mg : Str → Option Value} {base : Heap} {f : Addr} {fd : FuncData} (L : Lib mg) (D__law_steps : Dn P w K mg base "_law_steps" 3 [("_law_hand_here" : Str), ("_law_words" : Str), ("_law_standings" : Str)] sp_l_steps) (D__law_draw : Dn P w K mg base "_law_draw" 1 [("_law_hand_here" : Str), ("_law_many" : Str)] sp_l_draw)
    (F : Fun K "_law_rows" "_law_rows" s_l_rows f fd) (ln : ∀ ds h Q E, sp_l_rows ds h Q E → ds.length = 5)
    (pl : ∀ ds h Q E', sp_l_rows ds h Q E' → t_l_rows P w K (fun _ => noX) { nx := fun _ h' => Q .non h', rt := Q } (startD N_l_rows ds) h) : GF P w K mg base 4 f fd [("_law_hand_here" : Str), ("_law_worlds" : Str), ("_law_words" : Str), ("_law_asked" : Str), ("_law_standings" : Str)] sp_l_rows := by
  refine gf_of (k := 3) F sc_l_rows ln fun cdv A outer s H E ds h Q E' hr hg kx hs => ?_
  · have ru := room_u hr
    exact ⟨t_l_rows P w K (fun _ => noX), (qss_cons (qs_set sc_l_rows.nd rfl (by first | exact .inl rfl | exact .inr rfl) (qe_lst qa_nil)) (qss_cons (qs_for (passes_of rfl) rfl (qi_range1 rfl (L.n "range") (qa_cons (qv 4) qa_nil)) (qg_name sc_l_rows.nd rfl (by first | exact .inl rfl | exact .inr rfl)) (qss_cons (qs_set sc_l_rows.nd rfl (by first | exact .inl rfl | exact .inr rfl) (qe_lst qa_nil)) (qss_cons (qs_for (passes_of rfl) rfl (qi_range1 rfl (L.n "range") (qa_cons (qv 3) qa_nil)) (qg_name sc_l_rows.nd rfl (by first | exact .inl rfl | exact .inr rfl)) (qss_cons (qs_setLc (own := [("_law_world", 10)]) rfl sc_l_rows.nd rfl rfl (sw_true rfl rfl rfl rfl) (qi_range1 rfl (L.n "range") (qa_cons (qv 1) qa_nil)) (show BlkOk N_l_rows (defScope s_l_rows) _ [("_law_world", 10)] from ⟨rfl, by decide +kernel, by decide +kernel, by decide +kernel, by decide +kernel⟩) (by decide) (fun _ _ _ _ _ => (tg_one sc_l_rows.nd rfl (.inl rfl) (K := _))) (fun _ _ _ _ _ => qts_nil) (fun _ _ _ _ _ => (qe_fn D__law_steps (hr.mono (by omega)) hg TkD.none (qa_cons (qv 0) (qa_cons (qv 2) (qa_cons (qv 4) qa_nil)))))) (qss_one (qs_expr (qe_lm PySem.F.slot_list_append PySem.F.type_list_append md_append (qv 7) (qa_cons (qe_if (qt_cmp (od_eq (uu ru)) (qe_fn D__law_draw (hr.mono (by omega)) hg TkD.none (qa_cons (qv 0) (qa_cons qe_int qa_nil))) qe_int) (qe_op od_mul (qe_tup (qa_cons (qe_ix (xd_any (uu ru)) (qv 9) qe_int (fun _ _ => rfl)) qa_nil)) (qv 1)) (qe_callTy cd_tuple rfl (L.n "tuple") b_tuple (qa_cons (qv 9) qa_nil))) qa_nil)))))) (qss_one (qs_expr (qe_lm PySem.F.slot_list_append PySem.F.type_list_append md_append (qv 5) (qa_cons (qe_callTy cd_tuple rfl (L.n "tuple") b_tuple (qa_cons (qv 7) qa_nil)) qa_nil))))))) (qss_one (qs_ret (qe_callTy cd_tuple rfl (L.n "tuple") b_tuple (qa_cons (qv 5) qa_nil)))))), pl ds h Q E' hs⟩
/-! ### _law_deep -/
abbrev s_l_deep : Stmt := atS PySem.Challenge.pw_tellsless_k63_machines_refused 43
abbrev N_l_deep : List Str := [("_law_hand_here" : Str), ("_law_found" : Str), ("_law_turn" : Str)]
theorem sc_l_deep : FnScope N_l_deep [("_law_hand_here" : Str)] (defScope s_l_deep) := ⟨rfl, rfl, rfl, by decide +kernel, rfl, by decide +kernel, by decide +kernel⟩
def b_l_deep_1 (P : Program) (w : World) (K : PySem.W.Frag) (W : En → XD) : CS := (cSet 1 (cOp (cIxA P w) (cLst (cCons (cLst (cCons (cVar 1) cNil)) (cCons (cTup (cCons (cVar 1) cNil)) (cCons (cD1 (cC (.int 0)) (cVar 1)) cNil)))) (cFn sp_l_draw (fun _ => noX) (cCons (cVar 0) (cCons (cC (.int 3)) cNil)))))
def t_l_deep (P : Program) (w : World) (K : PySem.W.Frag) (W : En → XD) : CS := (cSeq (cSet 1 (cFn sp_l_any (fun _ => noX) (cCons (cVar 0) (cCons (cLst (cCons (cC .non) (cCons (cTup cNil) (cCons (cC (.int 0)) cNil)))) cNil)))) (cSeq (cFor (cRng1 (cCons (cOp cAdd (cC (.int 20)) (cFn sp_l_draw (fun _ => noX) (cCons (cVar 0) (cCons (cC (.int 12)) cNil)))) cNil)) (cName 2) (b_l_deep_1 P w K W)) (cRet (cVar 1))))
theorem w_l_deep {P : Program} {w : World} {K : PySem.W.Frag} {mg : Str → Option Value} {base : Heap} {f : Addr} {fd : FuncData} (L : Lib mg) (D__law_any : Dn P w K mg base "_law_any" 2 [("_law_hand_here" : Str), ("_law_things" : Str)] sp_l_any) (D__law_draw : Dn P w K mg base "_law_draw" 1 [("_law_hand_here" : Str), ("_law_many" : Str)] sp_l_draw)
    (F : Fun K "_law_deep" "_law_deep" s_l_deep f fd) (ln : ∀ ds h Q E, sp_l_deep ds h Q E → ds.length = 1)
    (pl : ∀ ds h Q E', sp_l_deep ds h Q E' → t_l_deep P w K (fun _ => noX) { nx := fun _ h' => Q .non h', rt := Q } (startD N_l_deep ds) h) : GF P w K mg base 3 f fd [("_law_hand_here" : Str)] sp_l_deep := by
  refine gf_of (k := 2) F sc_l_deep ln fun cdv A outer s H E ds h Q E' hr hg kx hs => ?_
  · have ru := room_u hr
    exact ⟨t_l_deep P w K (fun _ => noX), (qss_cons (qs_set sc_l_deep.nd rfl (by first | exact .inl rfl | exact .inr rfl) (qe_fn D__law_any (hr.mono (by omega)) hg TkD.none (qa_cons (qv 0) (qa_cons (qe_lst (qa_cons qe_non (qa_cons (qe_tup qa_nil) (qa_cons qe_int qa_nil)))) qa_nil)))) (qss_cons (qs_for (passes_of rfl) rfl (qi_range1 rfl (L.n "range") (qa_cons (qe_op od_add qe_int (qe_fn D__law_draw (hr.mono (by omega)) hg TkD.none (qa_cons (qv 0) (qa_cons qe_int qa_nil)))) qa_nil)) (qg_name sc_l_deep.nd rfl (by first | exact .inl rfl | exact .inr rfl)) (qss_one (qs_set sc_l_deep.nd rfl (by first | exact .inl rfl | exact .inr rfl) (qe_ix (xd_any (uu ru)) (qe_lst (qa_cons (qe_lst (qa_cons (qv 1) qa_nil)) (qa_cons (qe_tup (qa_cons (qv 1) qa_nil)) (qa_cons (qe_d1 qe_int (qv 1)) qa_nil)))) (qe_fn D__law_draw (hr.mono (by omega)) hg TkD.none (qa_cons (qv 0) (qa_cons qe_int qa_nil))) (fun _ _ => rfl))))) (qss_one (qs_ret (qv 1))))), pl ds h Q E' hs⟩
/-! ### _law_odd -/
abbrev s_l_odd : Stmt := atS PySem.Challenge.pw_tellsless_k63_machines_refused 44
abbrev N_l_odd : List Str := [("_law_hand_here" : Str)]
theorem sc_l_odd : FnScope N_l_odd [("_law_hand_here" : Str)] (defScope s_l_odd) := ⟨rfl, rfl, rfl, by decide +kernel, rfl, by decide +kernel, by decide +kernel⟩
def t_l_odd (P : Program) (w : World) (K : PySem.W.Frag) (W : En → XD) : CS := (cRet (cFn sp_l_any (fun _ => noX) (cCons (cVar 0) (cCons (cLst (cCons (cC .non) (cCons (cC (.int 0)) (cCons (cUn cNeg (cC (.int 1))) (cCons (cC (.bl true)) (cCons (cC (.str "0")) (cCons (cLst cNil) (cCons cDNewK (cCons (cTup cNil) (cCons (cTup (cCons (cC (.int 0)) cNil)) (cCons (cTup (cCons (cTup cNil) cNil)) (cCons (cOp cPow (cC (.int 10)) (cC (.int 29))) (cCons (cFn sp_l_deep (fun _ => noX) (cCons (cVar 0) cNil)) cNil))))))))))))) cNil))))
theorem w_l_odd {P : Program} {w : World} {K : PySem.W.Frag} {mg : Str → Option Value} {base : Heap} {f : Addr} {fd : FuncData} (L : Lib mg) (D__law_deep : Dn P w K mg base "_law_deep" 3 [("_law_hand_here" : Str)] sp_l_deep) (D__law_any : Dn P w K mg base "_law_any" 2 [("_law_hand_here" : Str), ("_law_things" : Str)] sp_l_any)
    (F : Fun K "_law_odd" "_law_odd" s_l_odd f fd) (ln : ∀ ds h Q E, sp_l_odd ds h Q E → ds.length = 1)
    (pl : ∀ ds h Q E', sp_l_odd ds h Q E' → t_l_odd P w K (fun _ => noX) { nx := fun _ h' => Q .non h', rt := Q } (startD N_l_odd ds) h) : GF P w K mg base 4 f fd [("_law_hand_here" : Str)] sp_l_odd := by
  refine gf_of (k := 3) F sc_l_odd ln fun cdv A outer s H E ds h Q E' hr hg kx hs => ?_
  · have ru := room_u hr
    exact ⟨t_l_odd P w K (fun _ => noX), (qss_one (qs_ret (qe_fn D__law_any (hr.mono (by omega)) hg TkD.none (qa_cons (qv 0) (qa_cons (qe_lst (qa_cons qe_non (qa_cons qe_int (qa_cons (qe_un ud_neg qe_int) (qa_cons qe_bl (qa_cons qe_str (qa_cons (qe_lst qa_nil) (qa_cons qe_dnewK (qa_cons (qe_tup qa_nil) (qa_cons (qe_tup (qa_cons qe_int qa_nil)) (qa_cons (qe_tup (qa_cons (qe_tup qa_nil) qa_nil)) (qa_cons (qe_op od_pow qe_int qe_int) (qa_cons (qe_fn D__law_deep (hr.mono (by omega)) hg TkD.none (qa_cons (qv 0) qa_nil)) qa_nil))))))))))))) qa_nil))))), pl ds h Q E' hs⟩
/-! ### _law_put -/
abbrev s_l_put : Stmt := atS PySem.Challenge.pw_tellsless_k63_machines_refused 45
abbrev N_l_put : List Str := [("_law_thing" : Str), ("_law_path" : Str), ("_law_item" : Str)]
theorem sc_l_put : FnScope N_l_put [("_law_thing" : Str), ("_law_path" : Str), ("_law_item" : Str)] (defScope s_l_put) := ⟨rfl, rfl, rfl, by decide +kernel, rfl, by decide +kernel, by decide +kernel⟩
def t_l_put (P : Program) (w : World) (K : PySem.W.Frag) (n : Nat) (W : En → XD) : CS := (cSeq (cIfS (cT (cOp cEq (cCall (cLenA P w) (cCons (cVar 1) cNil)) (cC (.int 0)))) (cRet (cVar 2)) cNext) (cRet (cOp cAdd (cOp cAdd (cSl cSlc (cVar 0) cNoP (cPart (cOp (cIxA P w) (cVar 1) (cC (.int 0))))) (cTup (cCons (cFn (sp_l_put n) (fun _ => noX) (cCons (cOp (cIxA P w) (cVar 0) (cOp (cIxA P w) (cVar 1) (cC (.int 0)))) (cCons (cSl cSlc (cVar 1) (cPart (cC (.int 1))) cNoP) (cCons (cVar 2) cNil)))) cNil))) (cSl cSlc (cVar 0) (cPart (cOp cAdd (cOp (cIxA P w) (cVar 1) (cC (.int 0))) (cC (.int 1)))) cNoP))))
theorem w_l_put {P : Program} {w : World} {K : PySem.W.Frag} {mg : Str → Option Value} {base : Heap} {f : Addr} {fd : FuncData} {n : Nat} (L : Lib mg) (D__law_put : Dn P w K mg base "_law_put" n [("_law_thing" : Str), ("_law_path" : Str), ("_law_item" : Str)] (sp_l_put n))
    (F : Fun K "_law_put" "_law_put" s_l_put f fd) (ln : ∀ ds h Q E, (sp_l_put (n + 1)) ds h Q E → ds.length = 3)
    (pl : ∀ ds h Q E', (sp_l_put (n + 1)) ds h Q E' → t_l_put P w K n (fun _ => noX) { nx := fun _ h' => Q .non h', rt := Q } (startD N_l_put ds) h) : GF P w K mg base (n + 1) f fd [("_law_thing" : Str), ("_law_path" : Str), ("_law_item" : Str)] (sp_l_put (n + 1)) := by
  refine gf_of (k := n) F sc_l_put ln fun cdv A outer s H E ds h Q E' hr hg kx hs => ?_
  · have ru := room_u hr
    exact ⟨t_l_put P w K n (fun _ => noX), (qss_cons (qs_if (qt_cmp (od_eq (uu ru)) (qe_callB cd_lenA rfl (L.n "len") b_len (qa_cons (qv 1) qa_nil)) qe_int) (qss_one (qs_ret (qv 2))) qss_nil) (qss_one (qs_ret (qe_op od_add (qe_op od_add (qe_slice (qv 0) qo_none (qo_some (qe_ix (xd_any (uu ru)) (qv 1) qe_int (fun _ _ => rfl)))) (qe_tup (qa_cons (qe_fn D__law_put hr hg TkD.none (qa_cons (qe_ix (xd_any (uu ru)) (qv 0) (qe_ix (xd_any (uu ru)) (qv 1) qe_int (fun _ _ => rfl)) (fun _ _ => rfl)) (qa_cons (qe_slice (qv 1) (qo_some qe_int) qo_none) (qa_cons (qv 2) qa_nil)))) qa_nil))) (qe_slice (qv 0) (qo_some (qe_op od_add (qe_ix (xd_any (uu ru)) (qv 1) qe_int (fun _ _ => rfl)) qe_int)) qo_none))))), pl ds h Q E' hs⟩
/-! ### _law_spoilt -/
abbrev s_l_spoilt : Stmt := atS PySem.Challenge.pw_tellsless_k63_machines_refused 46
abbrev N_l_spoilt : List Str := [("_law_hand_here" : Str), ("_law_rows_here" : Str), ("_law_worlds" : Str), ("_law_words" : Str), ("_law_world" : Str), ("_law_steps_here" : Str), ("_law_at" : Str), ("_law_path" : Str), ("_law_kind" : Str), ("_law_standing" : Str), ("_law_question" : Str), ("_law_row" : Str), ("_law_more" : Str), ("_law_word" : Str), ("_law_share" : Str), ("_law_goal" : Str), ("_law_other" : Str), ("_law_half" : Str)]
theorem sc_l_spoilt : FnScope N_l_spoilt [("_law_hand_here" : Str), ("_law_rows_here" : Str), ("_law_worlds" : Str), ("_law_words" : Str)] (defScope s_l_spoilt) := ⟨rfl, rfl, rfl, by decide +kernel, rfl, by decide +kernel, by decide +kernel⟩
def t_l_spoilt (P : Program) (w : World) (K : PySem.W.Frag) (W : En → XD) : CS := (cSeq (cPar 9 10 (cCons (cFn sp_l_draw (fun _ => noX) (cCons (cVar 0) (cCons (cCall (cLenA P w) (cCons (cVar 1) cNil)) cNil))) (cCons (cFn sp_l_draw (fun _ => noX) (cCons (cVar 0) (cCons (cCall (cLenA P w) (cCons (cOp (cIxA P w) (cVar 1) (cC (.int 0))) cNil)) cNil))) cNil))) (cSeq (cSet 4 (cFn sp_l_draw (fun _ => noX) (cCons (cVar 0) (cCons (cVar 2) cNil)))) (cSeq (cSet 5 (cOp (cIxA P w) (cOp (cIxA P w) (cOp (cIxA P w) (cVar 1) (cVar 9)) (cVar 10)) (cVar 4))) (cSeq (cSet 6 (cFn sp_l_draw (fun _ => noX) (cCons (cVar 0) (cCons (cCall (cLenA P w) (cCons (cVar 5) cNil)) cNil)))) (cSeq (cSet 7 (cTup (cCons (cVar 9) (cCons (cVar 10) (cCons (cVar 4) cNil))))) (cSeq (cSet 8 (cFn sp_l_draw (fun _ => noX) (cCons (cVar 0) (cCons (cC (.int 12)) cNil)))) (cSeq (cIfS (cT (cOp cEq (cVar 8) (cC (.int 0)))) (cRet (cFn sp_l_any (fun _ => noX) (cCons (cVar 0) (cCons (cLst (cCons (cCall cList (cCons (cVar 1) cNil)) (cCons (cTup cNil) (cCons (cOp cAdd (cVar 1) (cTup (cCons (cSl cSlc (cOp (cIxA P w) (cVar 1) (cC (.int 0))) cNoP (cPart (cUn cNeg (cC (.int 1))))) cNil))) (cCons (cSl cSlc (cOp cMul (cVar 1) (cC (.int 7))) cNoP (cPart (cC (.int 7)))) (cCons (cOp cAdd (cVar 1) (cTup (cCons (cLst cNil) cNil))) (cCons (cFn sp_l_odd (fun _ => noX) (cCons (cVar 0) cNil)) cNil))))))) cNil)))) cNext) (cSeq (cIfS (cT (cOp cEq (cVar 8) (cC (.int 1)))) (cRet (cFn (sp_l_put 8) (fun _ => noX) (cCons (cVar 1) (cCons (cSl cSlc (cVar 7) cNoP (cPart (cC (.int 1)))) (cCons (cFn sp_l_any (fun _ => noX) (cCons (cVar 0) (cCons (cLst (cCons (cOp cAdd (cOp (cIxA P w) (cVar 1) (cC (.int 0))) (cOp (cIxA P w) (cVar 1) (cC (.int 0)))) (cCons (cCall cList (cCons (cOp (cIxA P w) (cVar 1) (cVar 9)) cNil)) (cCons (cFn sp_l_odd (fun _ => noX) (cCons (cVar 0) cNil)) cNil)))) cNil))) cNil))))) cNext) (cSeq (cIfS (cT (cOp cEq (cVar 8) (cC (.int 2)))) (cSeq (cSet 11 (cOp (cIxA P w) (cOp (cIxA P w) (cVar 1) (cVar 9)) (cVar 10))) (cRet (cFn (sp_l_put 8) (fun _ => noX) (cCons (cVar 1) (cCons (cSl cSlc (cVar 7) cNoP (cPart (cC (.int 2)))) (cCons (cFn sp_l_any (fun _ => noX) (cCons (cVar 0) (cCons (cLst (cCons (cOp cAdd (cVar 11) (cSl cSlc (cVar 11) cNoP (cPart (cC (.int 1))))) (cCons (cSl cSlc (cVar 11) cNoP (cPart (cUn cNeg (cC (.int 1))))) (cCons (cCall cList (cCons (cVar 11) cNil)) (cCons (cFn sp_l_odd (fun _ => noX) (cCons (cVar 0) cNil)) cNil))))) cNil))) cNil)))))) cNext) (cSeq (cIfS (cT (cOp cEq (cVar 8) (cC (.int 3)))) (cSeq (cSet 12 (cCall cTuple (cCons (cLc (cRng1 (cCons (cC (.int 13)) cNil)) (.one 13) cYes (cTup (cCons (cVar 13) (cCons (cTup (cCons (cC (.int 1)) (cCons (cC (.int 13)) cNil))) (cCons (cC (.int 0)) cNil)))) [13]) cNil))) (cRet (cFn (sp_l_put 8) (fun _ => noX) (cCons (cVar 1) (cCons (cVar 7) (cCons (cFn sp_l_any (fun _ => noX) (cCons (cVar 0) (cCons (cLst (cCons (cOp cAdd (cVar 5) (cSl cSlc (cVar 5) cNoP (cPart (cC (.int 1))))) (cCons (cSl cSlc (cVar 5) cNoP (cPart (cUn cNeg (cC (.int 1))))) (cCons (cCall cList (cCons (cVar 5) cNil)) (cCons (cVar 12) (cCons (cFn sp_l_odd (fun _ => noX) (cCons (cVar 0) cNil)) cNil)))))) cNil))) cNil)))))) cNext) (cSeq (cAsg (cOp (cIxA P w) (cVar 5) (cVar 6)) (cGTup 3 (cGCons (cName 13) (cGCons (cName 14) (cGCons (cName 15) cGNil))))) (cSeq (cIfS (cT (cOp cEq (cVar 8) (cC (.int 4)))) (cSeq (cSet 16 (cLst (cCons (cTup (cCons (cC (.int 0)) (cCons (cC (.int 1)) cNil))) (cCons (cTup (cCons (cOp cMul (cC (.int 2)) (cOp (cIxA P w) (cVar 14) (cC (.int 0)))) (cCons (cOp cMul (cC (.int 2)) (cOp (cIxA P w) (cVar 14) (cC (.int 1)))) cNil))) (cCons (cTup (cCons (cUn cNeg (cC (.int 1))) (cCons (cC (.int 2)) cNil))) (cCons (cTup (cCons (cC (.int 5)) (cCons (cC (.int 7)) cNil))) (cCons (cTup (cCons (cC (.bl true)) (cCons (cC (.int 1)) cNil))) (cCons (cLst (cCons (cC (.int 1)) (cCons (cC (.int 1)) cNil))) (cCons (cC (.int 1)) (cCons (cFn sp_l_odd (fun _ => noX) (cCons (cVar 0) cNil)) cNil)))))))))) (cRet (cFn (sp_l_put 8) (fun _ => noX) (cCons (cVar 1) (cCons (cOp cAdd (cVar 7) (cTup (cCons (cVar 6) (cCons (cC (.int 1)) cNil)))) (cCons (cFn sp_l_any (fun _ => noX) (cCons (cVar 0) (cCons (cVar 16) cNil))) cNil)))))) cNext) (cSeq (cIfS (cT (cOp cEq (cVar 8) (cC (.int 5)))) (cRet (cFn (sp_l_put 8) (fun _ => noX) (cCons (cVar 1) (cCons (cOp cAdd (cVar 7) (cTup (cCons (cVar 6) (cCons (cC (.int 0)) cNil)))) (cCons (cFn sp_l_any (fun _ => noX) (cCons (cVar 0) (cCons (cLst (cCons (cVar 3) (cCons (cUn cNeg (cC (.int 1))) (cCons (cC (.bl true)) (cCons (cC .non) (cCons (cC (.str "0")) (cCons (cFn sp_l_odd (fun _ => noX) (cCons (cVar 0) cNil)) cNil))))))) cNil))) cNil))))) cNext) (cSeq (cIfS (cT (cOp cEq (cVar 8) (cC (.int 6)))) (cRet (cFn (sp_l_put 8) (fun _ => noX) (cCons (cVar 1) (cCons (cOp cAdd (cVar 7) (cTup (cCons (cVar 6) (cCons (cC (.int 2)) cNil)))) (cCons (cFn sp_l_any (fun _ => noX) (cCons (cVar 0) (cCons (cLst (cCons (cCall (cLenA P w) (cCons (cVar 1) cNil)) (cCons (cUn cNeg (cC (.int 1))) (cCons (cC (.bl false)) (cCons (cC .non) (cCons (cFn sp_l_odd (fun _ => noX) (cCons (cVar 0) cNil)) cNil)))))) cNil))) cNil))))) cNext) (cSeq (cIfS (cT (cOp cEq (cVar 8) (cC (.int 7)))) (cSeq (cSet 17 (cFn sp_l_low (fun _ => noX) (cCons (cOp (cIxA P w) (cVar 14) (cC (.int 0))) (cCons (cOp cMul (cC (.int 2)) (cOp (cIxA P w) (cVar 14) (cC (.int 1)))) cNil)))) (cRet (cFn (sp_l_put 8) (fun _ => noX) (cCons (cVar 1) (cCons (cVar 7) (cCons (cOp cAdd (cOp cAdd (cSl cSlc (cVar 5) cNoP (cPart (cVar 6))) (cTup (cCons (cTup (cCons (cVar 13) (cCons (cVar 17) (cCons (cVar 15) cNil)))) (cCons (cTup (cCons (cVar 13) (cCons (cVar 17) (cCons (cVar 15) cNil)))) cNil)))) (cSl cSlc (cVar 5) (cPart (cOp cAdd (cVar 6) (cC (.int 1)))) cNoP)) cNil)))))) cNext) (cSeq (cIfS (cT (cOp cEq (cVar 8) (cC (.int 8)))) (cSeq (cSet 16 (cLst (cCons (cTup (cCons (cVar 13) (cCons (cVar 14) cNil))) (cCons (cLst (cCons (cVar 13) (cCons (cVar 14) (cCons (cVar 15) cNil)))) (cCons (cTup (cCons (cVar 14) (cCons (cVar 13) (cCons (cVar 15) cNil)))) (cCons (cC (.int 0)) cNil)))))) (cRet (cFn (sp_l_put 8) (fun _ => noX) (cCons (cVar 1) (cCons (cOp cAdd (cVar 7) (cTup (cCons (cVar 6) cNil))) (cCons (cFn sp_l_any (fun _ => noX) (cCons (cVar 0) (cCons (cVar 16) cNil))) cNil)))))) cNext) (cRet (cVar 1))))))))))))))))))
theorem w_l_spoilt {P : Program} {w : World} {K : PySem.W.Frag} {mg : Str → Option Value} {base : Heap} {f : Addr} {fd : FuncData} (L : Lib mg) (D__law_draw : Dn P w K mg base "_law_draw" 1 [("_law_hand_here" : Str), ("_law_many" : Str)] sp_l_draw) (D__law_odd : Dn P w K mg base "_law_odd" 4 [("_law_hand_here" : Str)] sp_l_odd) (D__law_any : Dn P w K mg base "_law_any" 2 [("_law_hand_here" : Str), ("_law_things" : Str)] sp_l_any) (D__law_put : Dn P w K mg base "_law_put" 9 [("_law_thing" : Str), ("_law_path" : Str), ("_law_item" : Str)] (sp_l_put 8)) (D__law_low : Dn P w K mg base "_law_low" 1 [("_law_top" : Str), ("_law_bottom" : Str)] sp_l_low)
    (F : Fun K "_law_spoilt" "_law_spoilt" s_l_spoilt f fd) (ln : ∀ ds h Q E, sp_l_spoilt ds h Q E → ds.length = 4)
    (pl : ∀ ds h Q E', sp_l_spoilt ds h Q E' → t_l_spoilt P w K (fun _ => noX) { nx := fun _ h' => Q .non h', rt := Q } (startD N_l_spoilt ds) h) : GF P w K mg base 10 f fd [("_law_hand_here" : Str), ("_law_rows_here" : Str), ("_law_worlds" : Str), ("_law_words" : Str)] sp_l_spoilt := by
  refine gf_of (k := 9) F sc_l_spoilt ln fun cdv A outer s H E ds h Q E' hr hg kx hs => ?_
  · have ru := room_u hr
    exact ⟨t_l_spoilt P w K (fun _ => noX), (qss_cons (qs_par rfl sc_l_spoilt.nd rfl rfl (by decide) rfl rfl (qa_cons (qe_fn D__law_draw (hr.mono (by omega)) hg TkD.none (qa_cons (qv 0) (qa_cons (qe_callB cd_lenA rfl (L.n "len") b_len (qa_cons (qv 1) qa_nil)) qa_nil))) (qa_cons (qe_fn D__law_draw (hr.mono (by omega)) hg TkD.none (qa_cons (qv 0) (qa_cons (qe_callB cd_lenA rfl (L.n "len") b_len (qa_cons (qe_ix (xd_any (uu ru)) (qv 1) qe_int (fun _ _ => rfl)) qa_nil)) qa_nil))) qa_nil)) (by rfl)) (qss_cons (qs_set sc_l_spoilt.nd rfl (by first | exact .inl rfl | exact .inr rfl) (qe_fn D__law_draw (hr.mono (by omega)) hg TkD.none (qa_cons (qv 0) (qa_cons (qv 2) qa_nil)))) (qss_cons (qs_set sc_l_spoilt.nd rfl (by first | exact .inl rfl | exact .inr rfl) (qe_ix (xd_any (uu ru)) (qe_ix (xd_any (uu ru)) (qe_ix (xd_any (uu ru)) (qv 1) (qv 9) (fun _ _ => rfl)) (qv 10) (fun _ _ => rfl)) (qv 4) (fun _ _ => rfl))) (qss_cons (qs_set sc_l_spoilt.nd rfl (by first | exact .inl rfl | exact .inr rfl) (qe_fn D__law_draw (hr.mono (by omega)) hg TkD.none (qa_cons (qv 0) (qa_cons (qe_callB cd_lenA rfl (L.n "len") b_len (qa_cons (qv 5) qa_nil)) qa_nil)))) (qss_cons (qs_set sc_l_spoilt.nd rfl (by first | exact .inl rfl | exact .inr rfl) (qe_tup (qa_cons (qv 9) (qa_cons (qv 10) (qa_cons (qv 4) qa_nil))))) (qss_cons (qs_set sc_l_spoilt.nd rfl (by first | exact .inl rfl | exact .inr rfl) (qe_fn D__law_draw (hr.mono (by omega)) hg TkD.none (qa_cons (qv 0) (qa_cons qe_int qa_nil)))) (qss_cons (qs_if (qt_cmp (od_eq (uu ru)) (qv 8) qe_int) (qss_one (qs_ret (qe_fn D__law_any (hr.mono (by omega)) hg TkD.none (qa_cons (qv 0) (qa_cons (qe_lst (qa_cons (qe_callTy cd_list rfl (L.n "list") b_list (qa_cons (qv 1) qa_nil)) (qa_cons (qe_tup qa_nil) (qa_cons (qe_op od_add (qv 1) (qe_tup (qa_cons (qe_slice (qe_ix (xd_any (uu ru)) (qv 1) qe_int (fun _ _ => rfl)) qo_none (qo_some (qe_un ud_neg qe_int))) qa_nil))) (qa_cons (qe_slice (qe_op od_mul (qv 1) qe_int) qo_none (qo_some qe_int)) (qa_cons (qe_op od_add (qv 1) (qe_tup (qa_cons (qe_lst qa_nil) qa_nil))) (qa_cons (qe_fn D__law_odd (hr.mono (by omega)) hg TkD.none (qa_cons (qv 0) qa_nil)) qa_nil))))))) qa_nil))))) qss_nil) (qss_cons (qs_if (qt_cmp (od_eq (uu ru)) (qv 8) qe_int) (qss_one (qs_ret (qe_fn D__law_put (hr.mono (by omega)) hg TkD.none (qa_cons (qv 1) (qa_cons (qe_slice (qv 7) qo_none (qo_some qe_int)) (qa_cons (qe_fn D__law_any (hr.mono (by omega)) hg TkD.none (qa_cons (qv 0) (qa_cons (qe_lst (qa_cons (qe_op od_add (qe_ix (xd_any (uu ru)) (qv 1) qe_int (fun _ _ => rfl)) (qe_ix (xd_any (uu ru)) (qv 1) qe_int (fun _ _ => rfl))) (qa_cons (qe_callTy cd_list rfl (L.n "list") b_list (qa_cons (qe_ix (xd_any (uu ru)) (qv 1) (qv 9) (fun _ _ => rfl)) qa_nil)) (qa_cons (qe_fn D__law_odd (hr.mono (by omega)) hg TkD.none (qa_cons (qv 0) qa_nil)) qa_nil)))) qa_nil))) qa_nil)))))) qss_nil) (qss_cons (qs_if (qt_cmp (od_eq (uu ru)) (qv 8) qe_int) (qss_cons (qs_set sc_l_spoilt.nd rfl (by first | exact .inl rfl | exact .inr rfl) (qe_ix (xd_any (uu ru)) (qe_ix (xd_any (uu ru)) (qv 1) (qv 9) (fun _ _ => rfl)) (qv 10) (fun _ _ => rfl))) (qss_one (qs_ret (qe_fn D__law_put (hr.mono (by omega)) hg TkD.none (qa_cons (qv 1) (qa_cons (qe_slice (qv 7) qo_none (qo_some qe_int)) (qa_cons (qe_fn D__law_any (hr.mono (by omega)) hg TkD.none (qa_cons (qv 0) (qa_cons (qe_lst (qa_cons (qe_op od_add (qv 11) (qe_slice (qv 11) qo_none (qo_some qe_int))) (qa_cons (qe_slice (qv 11) qo_none (qo_some (qe_un ud_neg qe_int))) (qa_cons (qe_callTy cd_list rfl (L.n "list") b_list (qa_cons (qv 11) qa_nil)) (qa_cons (qe_fn D__law_odd (hr.mono (by omega)) hg TkD.none (qa_cons (qv 0) qa_nil)) qa_nil))))) qa_nil))) qa_nil))))))) qss_nil) (qss_cons (qs_if (qt_cmp (od_eq (uu ru)) (qv 8) qe_int) (qss_cons (qs_set sc_l_spoilt.nd rfl (by first | exact .inl rfl | exact .inr rfl) (qe_callTy cd_tuple rfl (L.n "tuple") b_tuple (qa_cons (qe_lc (own := [("_law_word", 13)]) rfl sc_l_spoilt.nd (qi_range1 rfl (L.n "range") (qa_cons qe_int qa_nil)) (show BlkOk N_l_spoilt (defScope s_l_spoilt) _ [("_law_word", 13)] from ⟨rfl, by decide +kernel, by decide +kernel, by decide +kernel, by decide +kernel⟩) (by decide) (fun _ _ _ _ _ => (tg_one sc_l_spoilt.nd rfl (.inl rfl) (K := _))) (fun _ _ _ _ _ => qts_nil) (fun _ _ _ _ _ => (qe_tup (qa_cons (qv 13) (qa_cons (qe_tup (qa_cons qe_int (qa_cons qe_int qa_nil))) (qa_cons qe_int qa_nil)))))) qa_nil))) (qss_one (qs_ret (qe_fn D__law_put (hr.mono (by omega)) hg TkD.none (qa_cons (qv 1) (qa_cons (qv 7) (qa_cons (qe_fn D__law_any (hr.mono (by omega)) hg TkD.none (qa_cons (qv 0) (qa_cons (qe_lst (qa_cons (qe_op od_add (qv 5) (qe_slice (qv 5) qo_none (qo_some qe_int))) (qa_cons (qe_slice (qv 5) qo_none (qo_some (qe_un ud_neg qe_int))) (qa_cons (qe_callTy cd_list rfl (L.n "list") b_list (qa_cons (qv 5) qa_nil)) (qa_cons (qv 12) (qa_cons (qe_fn D__law_odd (hr.mono (by omega)) hg TkD.none (qa_cons (qv 0) qa_nil)) qa_nil)))))) qa_nil))) qa_nil))))))) qss_nil) (qss_cons (qs_asg (qe_ix (xd_any (uu ru)) (qv 5) (qv 6) (fun _ _ => rfl)) (qg_tup rfl (qgs_cons (qg_name sc_l_spoilt.nd rfl (by first | exact .inl rfl | exact .inr rfl)) (qgs_cons (qg_name sc_l_spoilt.nd rfl (by first | exact .inl rfl | exact .inr rfl)) (qgs_cons (qg_name sc_l_spoilt.nd rfl (by first | exact .inl rfl | exact .inr rfl)) qgs_nil))))) (qss_cons (qs_if (qt_cmp (od_eq (uu ru)) (qv 8) qe_int) (qss_cons (qs_set sc_l_spoilt.nd rfl (by first | exact .inl rfl | exact .inr rfl) (qe_lst (qa_cons (qe_tup (qa_cons qe_int (qa_cons qe_int qa_nil))) (qa_cons (qe_tup (qa_cons (qe_op od_mul qe_int (qe_ix (xd_any (uu ru)) (qv 14) qe_int (fun _ _ => rfl))) (qa_cons (qe_op od_mul qe_int (qe_ix (xd_any (uu ru)) (qv 14) qe_int (fun _ _ => rfl))) qa_nil))) (qa_cons (qe_tup (qa_cons (qe_un ud_neg qe_int) (qa_cons qe_int qa_nil))) (qa_cons (qe_tup (qa_cons qe_int (qa_cons qe_int qa_nil))) (qa_cons (qe_tup (qa_cons qe_bl (qa_cons qe_int qa_nil))) (qa_cons (qe_lst (qa_cons qe_int (qa_cons qe_int qa_nil))) (qa_cons qe_int (qa_cons (qe_fn D__law_odd (hr.mono (by omega)) hg TkD.none (qa_cons (qv 0) qa_nil)) qa_nil)))))))))) (qss_one (qs_ret (qe_fn D__law_put (hr.mono (by omega)) hg TkD.none (qa_cons (qv 1) (qa_cons (qe_op od_add (qv 7) (qe_tup (qa_cons (qv 6) (qa_cons qe_int qa_nil)))) (qa_cons (qe_fn D__law_any (hr.mono (by omega)) hg TkD.none (qa_cons (qv 0) (qa_cons (qv 16) qa_nil))) qa_nil))))))) qss_nil) (qss_cons (qs_if (qt_cmp (od_eq (uu ru)) (qv 8) qe_int) (qss_one (qs_ret (qe_fn D__law_put (hr.mono (by omega)) hg TkD.none (qa_cons (qv 1) (qa_cons (qe_op od_add (qv 7) (qe_tup (qa_cons (qv 6) (qa_cons qe_int qa_nil)))) (qa_cons (qe_fn D__law_any (hr.mono (by omega)) hg TkD.none (qa_cons (qv 0) (qa_cons (qe_lst (qa_cons (qv 3) (qa_cons (qe_un ud_neg qe_int) (qa_cons qe_bl (qa_cons qe_non (qa_cons qe_str (qa_cons (qe_fn D__law_odd (hr.mono (by omega)) hg TkD.none (qa_cons (qv 0) qa_nil)) qa_nil))))))) qa_nil))) qa_nil)))))) qss_nil) (qss_cons (qs_if (qt_cmp (od_eq (uu ru)) (qv 8) qe_int) (qss_one (qs_ret (qe_fn D__law_put (hr.mono (by omega)) hg TkD.none (qa_cons (qv 1) (qa_cons (qe_op od_add (qv 7) (qe_tup (qa_cons (qv 6) (qa_cons qe_int qa_nil)))) (qa_cons (qe_fn D__law_any (hr.mono (by omega)) hg TkD.none (qa_cons (qv 0) (qa_cons (qe_lst (qa_cons (qe_callB cd_lenA rfl (L.n "len") b_len (qa_cons (qv 1) qa_nil)) (qa_cons (qe_un ud_neg qe_int) (qa_cons qe_bl (qa_cons qe_non (qa_cons (qe_fn D__law_odd (hr.mono (by omega)) hg TkD.none (qa_cons (qv 0) qa_nil)) qa_nil)))))) qa_nil))) qa_nil)))))) qss_nil) (qss_cons (qs_if (qt_cmp (od_eq (uu ru)) (qv 8) qe_int) (qss_cons (qs_set sc_l_spoilt.nd rfl (by first | exact .inl rfl | exact .inr rfl) (qe_fn D__law_low (hr.mono (by omega)) hg TkD.none (qa_cons (qe_ix (xd_any (uu ru)) (qv 14) qe_int (fun _ _ => rfl)) (qa_cons (qe_op od_mul qe_int (qe_ix (xd_any (uu ru)) (qv 14) qe_int (fun _ _ => rfl))) qa_nil)))) (qss_one (qs_ret (qe_fn D__law_put (hr.mono (by omega)) hg TkD.none (qa_cons (qv 1) (qa_cons (qv 7) (qa_cons (qe_op od_add (qe_op od_add (qe_slice (qv 5) qo_none (qo_some (qv 6))) (qe_tup (qa_cons (qe_tup (qa_cons (qv 13) (qa_cons (qv 17) (qa_cons (qv 15) qa_nil)))) (qa_cons (qe_tup (qa_cons (qv 13) (qa_cons (qv 17) (qa_cons (qv 15) qa_nil)))) qa_nil)))) (qe_slice (qv 5) (qo_some (qe_op od_add (qv 6) qe_int)) qo_none)) qa_nil))))))) qss_nil) (qss_cons (qs_if (qt_cmp (od_eq (uu ru)) (qv 8) qe_int) (qss_cons (qs_set sc_l_spoilt.nd rfl (by first | exact .inl rfl | exact .inr rfl) (qe_lst (qa_cons (qe_tup (qa_cons (qv 13) (qa_cons (qv 14) qa_nil))) (qa_cons (qe_lst (qa_cons (qv 13) (qa_cons (qv 14) (qa_cons (qv 15) qa_nil)))) (qa_cons (qe_tup (qa_cons (qv 14) (qa_cons (qv 13) (qa_cons (qv 15) qa_nil)))) (qa_cons qe_int qa_nil)))))) (qss_one (qs_ret (qe_fn D__law_put (hr.mono (by omega)) hg TkD.none (qa_cons (qv 1) (qa_cons (qe_op od_add (qv 7) (qe_tup (qa_cons (qv 6) qa_nil))) (qa_cons (qe_fn D__law_any (hr.mono (by omega)) hg TkD.none (qa_cons (qv 0) (qa_cons (qv 16) qa_nil))) qa_nil))))))) qss_nil) (qss_one (qs_ret (qv 1))))))))))))))))))), pl ds h Q E' hs⟩
/-! ### _law_told -/
abbrev s_l_told : Stmt := atS PySem.Challenge.pw_tellsless_k63_machines_refused 51
abbrev N_l_told : List Str := [("_law_worlds" : Str), ("_law_words" : Str), ("_law_rows_here" : Str), ("e" : Str)]
theorem sc_l_told : FnScope N_l_told [("_law_worlds" : Str), ("_law_words" : Str), ("_law_rows_here" : Str)] (defScope s_l_told) := ⟨rfl, rfl, rfl, by decide +kernel, rfl, by decide +kernel, by decide +kernel⟩
def t_l_told (P : Program) (w : World) (K : PySem.W.Frag) (W : En → XD) : CS := (cTryAs K (.ref (He.ga K "HouseError")) 3 (fun W => (cRet (cTup (cCons (cC .non) (cCons (cMake (He.ga K "Machine") (sp_Machine_init K) W (cCons (cVar 0) (cCons (cVar 1) (cCons (cVar 2) cNil)))) cNil))))) (fun a cls fs => (cRet (cTup (cCons (cIf (cT (cCall (cIsE K a cls) (cCons (cVar 3) (cCons (cC (.ref (He.ga K "BadMachine"))) cNil)))) (cXf a cls fs (He.ga K "BadMachine") "part" (cVar 3)) (cC (.str "other"))) (cCons (cC .non) cNil))))) (fun _ => noX))
theorem w_l_told {P : Program} {w : World} {K : PySem.W.Frag} {mg : Str → Option Value} {base : Heap} {f : Addr} {fd : FuncData} (L : Lib mg) (D_Machine : Dm P w K mg base "Machine" (He.ga K "Machine") 8 [("self" : Str), ("worlds" : Str), ("words" : Str), ("rows" : Str)] (sp_Machine_init K)) (g_BadMachine : GD K mg "BadMachine" (.ref (He.ga K "BadMachine"))) (m_HouseError : mg "HouseError" = some (.ref (He.ga K "HouseError"))) (xf_BadMachine : XfC K (He.ga K "BadMachine")) (xn_BadMachine : PySem.W.findIn K (.ref (He.ga K "BadMachine")) "part" = some none)
    (F : Fun K "_law_told" "_law_told" s_l_told f fd) (ln : ∀ ds h Q E, (sp_l_told K) ds h Q E → ds.length = 3)
    (pl : ∀ ds h Q E', (sp_l_told K) ds h Q E' → t_l_told P w K (fun _ => noX) { nx := fun _ h' => Q .non h', rt := Q } (startD N_l_told ds) h) : GF P w K mg base 10 f fd [("_law_worlds" : Str), ("_law_words" : Str), ("_law_rows_here" : Str)] (sp_l_told K) := by
  refine gf_of (k := 9) F sc_l_told ln fun cdv A outer s H E ds h Q E' hr hg kx hs => ?_
  · have ru := room_u hr
    have N_HouseError : Names (bodyX P w K mg base N_l_told "_law_told" (defScope s_l_told) f cdv A outer s H E) "HouseError" (.ref (He.ga K "HouseError")) := ⟨rfl, rfl, .inl m_HouseError⟩
    exact ⟨t_l_told P w K (fun _ => noX), (qss_one (qs_try_as rfl rfl sc_l_told.nd rfl rfl N_HouseError TkD.none (fun W B' pn xe tk po => (qss_one (qs_ret (qe_tup (qa_cons qe_non (qa_cons (qe_mk D_Machine (hr.mono (by omega)) hg tk (qa_cons (qv 0) (qa_cons (qv 1) (qa_cons (qv 2) qa_nil)))) qa_nil)))))) (fun B' a oe cls d fs pn xr hz hv => (qss_one (qs_ret (qe_tup (qa_cons (qe_if (qt_val (qe_isE xr hz hv rfl (L.n "isinstance") (qa_cons (qv 3) (qa_cons (qe_gd g_BadMachine) qa_nil)))) (qe_xf xf_BadMachine xn_BadMachine xr hz hv (qv 3) rfl) qe_str) (qa_cons qe_non qa_nil)))))))), pl ds h Q E' hs⟩
/-! ### _law_edge_steps -/
abbrev s_l_edge_steps : Stmt := atS PySem.Challenge.pw_tellsless_k63_machines_refused 52
abbrev N_l_edge_steps : List Str := [("_law_hand_here" : Str), ("_law_words" : Str), ("_law_standings" : Str), ("_law_kind" : Str), ("_law_more" : Str), ("_law_one" : Str), ("_law_pairs" : Str), ("_law_word" : Str), ("_law_goal" : Str)]
theorem sc_l_edge_steps : FnScope N_l_edge_steps [("_law_hand_here" : Str), ("_law_words" : Str), ("_law_standings" : Str)] (defScope s_l_edge_steps) := ⟨rfl, rfl, rfl, by decide +kernel, rfl, by decide +kernel, by decide +kernel⟩
def b_l_edge_steps_1 (P : Program) (w : World) (K : PySem.W.Frag) (W : En → XD) : CS := (cSet 6 (cOp cAdd (cVar 6) (cLc (cRng1 (cCons (cVar 2) cNil)) (.one 8) cYes (cTup (cCons (cVar 7) (cCons (cVar 8) cNil))) [8])))
def t_l_edge_steps (P : Program) (w : World) (K : PySem.W.Frag) (W : En → XD) : CS := (cSeq (cAsg (cTup (cCons (cFn sp_l_draw (fun _ => noX) (cCons (cVar 0) (cCons (cC (.int 8)) cNil))) (cCons (cFn sp_l_draw (fun _ => noX) (cCons (cVar 0) (cCons (cC (.int 2)) cNil))) (cCons (cTup (cCons (cC (.int 1)) (cCons (cC (.int 1)) cNil))) cNil)))) (cGTup 3 (cGCons (cName 3) (cGCons (cName 4) (cGCons (cName 5) cGNil))))) (cSeq (cIfS (cT (cOp cEq (cVar 3) (cC (.int 0)))) (cSeq (cSet 6 (cLst cNil)) (cSeq (cFor (cRng1 (cCons (cVar 1) cNil)) (cName 7) (b_l_edge_steps_1 P w K W)) (cRet (cCall cTuple (cCons (cLc (cSrcA P w (cSl cSlc (cVar 6) cNoP (cPart (cOp cAdd (cC (.int 12)) (cVar 4))))) (.many [7, 8]) cYes (cTup (cCons (cVar 7) (cCons (cTup (cCons (cC (.int 1)) (cCons (cOp cAdd (cC (.int 12)) (cVar 4)) cNil))) (cCons (cVar 8) cNil)))) [7, 8]) cNil))))) cNext) (cSeq (cIfS (cT (cOp cEq (cVar 3) (cC (.int 1)))) (cRet (cFn sp_l_any (fun _ => noX) (cCons (cVar 0) (cCons (cLst (cCons (cTup cNil) (cCons (cTup (cCons (cTup (cCons (cC (.int 0)) (cCons (cTup (cCons (cC (.int 0)) (cCons (cC (.int 1)) cNil))) (cCons (cC (.int 0)) cNil)))) (cCons (cTup (cCons (cOp cSub (cVar 1) (cC (.int 1))) (cCons (cVar 5) (cCons (cOp cSub (cVar 2) (cC (.int 1))) cNil)))) cNil))) (cCons (cTup (cCons (cTup (cCons (cC (.int 0)) (cCons (cTup (cCons (cC (.int 2)) (cCons (cC (.int 2)) cNil))) (cCons (cC (.int 0)) cNil)))) cNil)) (cCons (cTup (cCons (cTup (cCons (cC (.int 0)) (cCons (cTup (cCons (cC (.int 1)) (cCons (cC (.bl true)) cNil))) (cCons (cC (.int 0)) cNil)))) cNil)) cNil))))) cNil)))) cNext) (cSeq (cIfS (cT (cOp cEq (cVar 3) (cC (.int 2)))) (cRet (cTup (cCons (cTup (cCons (cFn sp_l_any (fun _ => noX) (cCons (cVar 0) (cCons (cLst (cCons (cOp cSub (cVar 1) (cC (.int 1))) (cCons (cVar 1) (cCons (cUn cNeg (cC (.int 1))) (cCons (cC (.bl false)) cNil))))) cNil))) (cCons (cVar 5) (cCons (cC (.int 0)) cNil)))) cNil))) cNext) (cSeq (cIfS (cT (cOp cEq (cVar 3) (cC (.int 3)))) (cRet (cTup (cCons (cTup (cCons (cC (.int 0)) (cCons (cVar 5) (cCons (cFn sp_l_any (fun _ => noX) (cCons (cVar 0) (cCons (cLst (cCons (cOp cSub (cVar 2) (cC (.int 1))) (cCons (cVar 2) (cCons (cUn cNeg (cC (.int 1))) (cCons (cC (.bl false)) cNil))))) cNil))) cNil)))) cNil))) cNext) (cSeq (cIfS (cT (cOp cEq (cVar 3) (cC (.int 4)))) (cRet (cTup (cCons (cTup (cCons (cC (.int 0)) (cCons (cTup (cCons (cC (.int 1)) (cCons (cC (.int 2)) cNil))) (cCons (cC (.int 0)) cNil)))) (cCons (cTup (cCons (cC (.int 0)) (cCons (cTup (cCons (cC (.int 1)) (cCons (cC (.int 2)) cNil))) (cCons (cVar 4) cNil)))) cNil)))) cNext) (cSeq (cIfS (cT (cOp cEq (cVar 3) (cC (.int 5)))) (cRet (cTup (cCons (cTup (cCons (cC (.int 0)) (cCons (cTup (cCons (cC (.int 1)) (cCons (cC (.int 2)) cNil))) (cCons (cC (.int 0)) cNil)))) (cCons (cTup (cCons (cOp cSub (cVar 1) (cC (.int 1))) (cCons (cTup (cCons (cC (.int 1)) (cCons (cOp cAdd (cC (.int 2)) (cVar 4)) cNil))) (cCons (cOp cSub (cVar 2) (cC (.int 1))) cNil)))) cNil)))) cNext) (cSeq (cIfS (cT (cOp cEq (cVar 3) (cC (.int 6)))) (cRet (cTup (cCons (cTup (cCons (cC (.int 0)) (cCons (cTup (cCons (cC (.int 3)) (cCons (cC (.int 2)) cNil))) (cCons (cC (.int 0)) cNil)))) (cCons (cTup (cCons (cOp cSub (cVar 1) (cC (.int 1))) (cCons (cTup (cCons (cUn cNeg (cC (.int 1))) (cCons (cC (.int 2)) cNil))) (cCons (cOp cSub (cVar 2) (cC (.int 1))) cNil)))) cNil)))) cNext) (cRet (cFn sp_l_any (fun _ => noX) (cCons (cVar 0) (cCons (cLst (cCons (cTup (cCons (cTup (cCons (cC (.int 0)) (cCons (cVar 5) (cCons (cC (.int 0)) cNil)))) cNil)) (cCons (cTup (cCons (cTup (cCons (cC (.int 0)) (cCons (cVar 5) (cCons (cC (.int 0)) (cCons (cC (.int 0)) cNil))))) cNil)) (cCons (cTup (cCons (cTup (cCons (cC (.int 0)) (cCons (cVar 5) cNil))) cNil)) (cCons (cLst (cCons (cTup (cCons (cC (.int 0)) (cCons (cVar 5) (cCons (cC (.int 0)) cNil)))) cNil)) (cCons (cTup (cCons (cTup (cCons (cC (.int 0)) (cCons (cC (.int 1)) (cCons (cC (.int 0)) cNil)))) cNil)) cNil)))))) cNil))))))))))))
theorem w_l_edge_steps {P : Program} {w : World} {K : PySem.W.Frag} {mg : Str → Option Value} {base : Heap} {f : Addr} {fd : FuncData} (L : Lib mg) (D__law_draw : Dn P w K mg base "_law_draw" 1 [("_law_hand_here" : Str), ("_law_many" : Str)] sp_l_draw) (D__law_any : Dn P w K mg base "_law_any" 2 [("_law_hand_here" : Str), ("_law_things" : Str)] sp_l_any)
    (F : Fun K "_law_edge_steps" "_law_edge_steps" s_l_edge_steps f fd) (ln : ∀ ds h Q E, sp_l_edge_steps ds h Q E → ds.length = 3)
    (pl : ∀ ds h Q E', sp_l_edge_steps ds h Q E' → t_l_edge_steps P w K (fun _ => noX) { nx := fun _ h' => Q .non h', rt := Q } (startD N_l_edge_steps ds) h) : GF P w K mg base 4 f fd [("_law_hand_here" : Str), ("_law_words" : Str), ("_law_standings" : Str)] sp_l_edge_steps := by
  refine gf_of (k := 3) F sc_l_edge_steps ln fun cdv A outer s H E ds h Q E' hr hg kx hs => ?_
  · have ru := room_u hr
    exact ⟨t_l_edge_steps P w K (fun _ => noX), (qss_cons (qs_asg (qe_tup (qa_cons (qe_fn D__law_draw (hr.mono (by omega)) hg TkD.none (qa_cons (qv 0) (qa_cons qe_int qa_nil))) (qa_cons (qe_fn D__law_draw (hr.mono (by omega)) hg TkD.none (qa_cons (qv 0) (qa_cons qe_int qa_nil))) (qa_cons (qe_tup (qa_cons qe_int (qa_cons qe_int qa_nil))) qa_nil)))) (qg_tup rfl (qgs_cons (qg_name sc_l_edge_steps.nd rfl (by first | exact .inl rfl | exact .inr rfl)) (qgs_cons (qg_name sc_l_edge_steps.nd rfl (by first | exact .inl rfl | exact .inr rfl)) (qgs_cons (qg_name sc_l_edge_steps.nd rfl (by first | exact .inl rfl | exact .inr rfl)) qgs_nil))))) (qss_cons (qs_if (qt_cmp (od_eq (uu ru)) (qv 3) qe_int) (qss_cons (qs_set sc_l_edge_steps.nd rfl (by first | exact .inl rfl | exact .inr rfl) (qe_lst qa_nil)) (qss_cons (qs_for (passes_of rfl) rfl (qi_range1 rfl (L.n "range") (qa_cons (qv 1) qa_nil)) (qg_name sc_l_edge_steps.nd rfl (by first | exact .inl rfl | exact .inr rfl)) (qss_one (qs_set sc_l_edge_steps.nd rfl (by first | exact .inl rfl | exact .inr rfl) (qe_op od_add (qv 6) (qe_lc (own := [("_law_goal", 8)]) rfl sc_l_edge_steps.nd (qi_range1 rfl (L.n "range") (qa_cons (qv 2) qa_nil)) (show BlkOk N_l_edge_steps (defScope s_l_edge_steps) _ [("_law_goal", 8)] from ⟨rfl, by decide +kernel, by decide +kernel, by decide +kernel, by decide +kernel⟩) (by decide) (fun _ _ _ _ _ => (tg_one sc_l_edge_steps.nd rfl (.inl rfl) (K := _))) (fun _ _ _ _ _ => qts_nil) (fun _ _ _ _ _ => (qe_tup (qa_cons (qv 7) (qa_cons (qv 8) qa_nil))))))))) (qss_one (qs_ret (qe_callTy cd_tuple rfl (L.n "tuple") b_tuple (qa_cons (qe_lc (own := [("_law_word", 7), ("_law_goal", 8)]) rfl sc_l_edge_steps.nd (qi_any (qe_slice (qv 6) qo_none (qo_some (qe_op od_add qe_int (qv 4))))) (show BlkOk N_l_edge_steps (defScope s_l_edge_steps) _ [("_law_word", 7), ("_law_goal", 8)] from ⟨rfl, by decide +kernel, by decide +kernel, by decide +kernel, by decide +kernel⟩) (by decide) (fun _ _ _ _ _ => (tg_many rfl (tg_cons sc_l_edge_steps.nd rfl (.inl rfl) (tg_cons sc_l_edge_steps.nd rfl (.inl rfl) tg_nil)))) (fun _ _ _ _ _ => qts_nil) (fun _ _ _ _ _ => (qe_tup (qa_cons (qv 7) (qa_cons (qe_tup (qa_cons qe_int (qa_cons (qe_op od_add qe_int (qv 4)) qa_nil))) (qa_cons (qv 8) qa_nil)))))) qa_nil)))))) qss_nil) (qss_cons (qs_if (qt_cmp (od_eq (uu ru)) (qv 3) qe_int) (qss_one (qs_ret (qe_fn D__law_any (hr.mono (by omega)) hg TkD.none (qa_cons (qv 0) (qa_cons (qe_lst (qa_cons (qe_tup qa_nil) (qa_cons (qe_tup (qa_cons (qe_tup (qa_cons qe_int (qa_cons (qe_tup (qa_cons qe_int (qa_cons qe_int qa_nil))) (qa_cons qe_int qa_nil)))) (qa_cons (qe_tup (qa_cons (qe_op od_sub (qv 1) qe_int) (qa_cons (qv 5) (qa_cons (qe_op od_sub (qv 2) qe_int) qa_nil)))) qa_nil))) (qa_cons (qe_tup (qa_cons (qe_tup (qa_cons qe_int (qa_cons (qe_tup (qa_cons qe_int (qa_cons qe_int qa_nil))) (qa_cons qe_int qa_nil)))) qa_nil)) (qa_cons (qe_tup (qa_cons (qe_tup (qa_cons qe_int (qa_cons (qe_tup (qa_cons qe_int (qa_cons qe_bl qa_nil))) (qa_cons qe_int qa_nil)))) qa_nil)) qa_nil))))) qa_nil))))) qss_nil) (qss_cons (qs_if (qt_cmp (od_eq (uu ru)) (qv 3) qe_int) (qss_one (qs_ret (qe_tup (qa_cons (qe_tup (qa_cons (qe_fn D__law_any (hr.mono (by omega)) hg TkD.none (qa_cons (qv 0) (qa_cons (qe_lst (qa_cons (qe_op od_sub (qv 1) qe_int) (qa_cons (qv 1) (qa_cons (qe_un ud_neg qe_int) (qa_cons qe_bl qa_nil))))) qa_nil))) (qa_cons (qv 5) (qa_cons qe_int qa_nil)))) qa_nil)))) qss_nil) (qss_cons (qs_if (qt_cmp (od_eq (uu ru)) (qv 3) qe_int) (qss_one (qs_ret (qe_tup (qa_cons (qe_tup (qa_cons qe_int (qa_cons (qv 5) (qa_cons (qe_fn D__law_any (hr.mono (by omega)) hg TkD.none (qa_cons (qv 0) (qa_cons (qe_lst (qa_cons (qe_op od_sub (qv 2) qe_int) (qa_cons (qv 2) (qa_cons (qe_un ud_neg qe_int) (qa_cons qe_bl qa_nil))))) qa_nil))) qa_nil)))) qa_nil)))) qss_nil) (qss_cons (qs_if (qt_cmp (od_eq (uu ru)) (qv 3) qe_int) (qss_one (qs_ret (qe_tup (qa_cons (qe_tup (qa_cons qe_int (qa_cons (qe_tup (qa_cons qe_int (qa_cons qe_int qa_nil))) (qa_cons qe_int qa_nil)))) (qa_cons (qe_tup (qa_cons qe_int (qa_cons (qe_tup (qa_cons qe_int (qa_cons qe_int qa_nil))) (qa_cons (qv 4) qa_nil)))) qa_nil))))) qss_nil) (qss_cons (qs_if (qt_cmp (od_eq (uu ru)) (qv 3) qe_int) (qss_one (qs_ret (qe_tup (qa_cons (qe_tup (qa_cons qe_int (qa_cons (qe_tup (qa_cons qe_int (qa_cons qe_int qa_nil))) (qa_cons qe_int qa_nil)))) (qa_cons (qe_tup (qa_cons (qe_op od_sub (qv 1) qe_int) (qa_cons (qe_tup (qa_cons qe_int (qa_cons (qe_op od_add qe_int (qv 4)) qa_nil))) (qa_cons (qe_op od_sub (qv 2) qe_int) qa_nil)))) qa_nil))))) qss_nil) (qss_cons (qs_if (qt_cmp (od_eq (uu ru)) (qv 3) qe_int) (qss_one (qs_ret (qe_tup (qa_cons (qe_tup (qa_cons qe_int (qa_cons (qe_tup (qa_cons qe_int (qa_cons qe_int qa_nil))) (qa_cons qe_int qa_nil)))) (qa_cons (qe_tup (qa_cons (qe_op od_sub (qv 1) qe_int) (qa_cons (qe_tup (qa_cons (qe_un ud_neg qe_int) (qa_cons qe_int qa_nil))) (qa_cons (qe_op od_sub (qv 2) qe_int) qa_nil)))) qa_nil))))) qss_nil) (qss_one (qs_ret (qe_fn D__law_any (hr.mono (by omega)) hg TkD.none (qa_cons (qv 0) (qa_cons (qe_lst (qa_cons (qe_tup (qa_cons (qe_tup (qa_cons qe_int (qa_cons (qv 5) (qa_cons qe_int qa_nil)))) qa_nil)) (qa_cons (qe_tup (qa_cons (qe_tup (qa_cons qe_int (qa_cons (qv 5) (qa_cons qe_int (qa_cons qe_int qa_nil))))) qa_nil)) (qa_cons (qe_tup (qa_cons (qe_tup (qa_cons qe_int (qa_cons (qv 5) qa_nil))) qa_nil)) (qa_cons (qe_lst (qa_cons (qe_tup (qa_cons qe_int (qa_cons (qv 5) (qa_cons qe_int qa_nil)))) qa_nil)) (qa_cons (qe_tup (qa_cons (qe_tup (qa_cons qe_int (qa_cons qe_int (qa_cons qe_int qa_nil)))) qa_nil)) qa_nil)))))) qa_nil))))))))))))), pl ds h Q E' hs⟩
/-! ### _law_edged -/
abbrev s_l_edged : Stmt := atS PySem.Challenge.pw_tellsless_k63_machines_refused 53
abbrev N_l_edged : List Str := [("_law_hand_here" : Str), ("_law_rows_here" : Str), ("_law_worlds" : Str), ("_law_words" : Str), ("_law_kind" : Str), ("_law_more" : Str), ("_law_plain" : Str), ("_law_standings" : Str), ("_law_asked" : Str), ("_law_standing" : Str), ("_law_question" : Str), ("_law_world" : Str), ("_law_less" : Str)]
theorem sc_l_edged : FnScope N_l_edged [("_law_hand_here" : Str)] (defScope s_l_edged) := ⟨rfl, rfl, rfl, by decide +kernel, rfl, by decide +kernel, by decide +kernel⟩
def t_l_edged (P : Program) (w : World) (K : PySem.W.Frag) (W : En → XD) : CS := (cSeq (cPar 2 3 (cCons (cFn sp_l_any (fun _ => noX) (cCons (cVar 0) (cCons (cLst (cCons (cC (.int 1)) (cCons (cC (.int 2)) (cCons (cC (.int 5)) cNil)))) cNil))) (cCons (cFn sp_l_any (fun _ => noX) (cCons (cVar 0) (cCons (cLst (cCons (cC (.int 2)) (cCons (cC (.int 5)) (cCons (cC (.int 6)) cNil)))) cNil))) cNil))) (cSeq (cPar3 4 5 6 (cCons (cFn sp_l_draw (fun _ => noX) (cCons (cVar 0) (cCons (cC (.int 9)) cNil))) (cCons (cFn sp_l_draw (fun _ => noX) (cCons (cVar 0) (cCons (cC (.int 2)) cNil))) (cCons (cTup (cCons (cTup (cCons (cC (.int 0)) (cCons (cTup (cCons (cC (.int 1)) (cCons (cC (.int 1)) cNil))) (cCons (cC (.int 0)) cNil)))) cNil)) cNil)))) (cSeq (cPar 7 8 (cCons (cOp (cIxA P w) (cLst (cCons (cC (.int 3)) (cCons (cOp cAdd (cC (.int 6)) (cVar 5)) (cCons (cC (.int 3)) cNil)))) (cCall cMin (cCons (cVar 4) (cCons (cC (.int 2)) cNil)))) (cCons (cOp (cIxA P w) (cLst (cCons (cOp cAdd (cC (.int 4)) (cVar 5)) (cCons (cC (.int 2)) (cCons (cC (.int 2)) cNil)))) (cCall cMin (cCons (cVar 4) (cCons (cC (.int 2)) cNil)))) cNil))) (cSeq (cSet 1 (cOp cMul (cTup (cCons (cOp cMul (cTup (cCons (cOp cMul (cTup (cCons (cVar 6) cNil)) (cVar 2)) cNil)) (cVar 8)) cNil)) (cVar 7))) (cSeq (cPar3 9 10 11 (cCons (cFn sp_l_draw (fun _ => noX) (cCons (cVar 0) (cCons (cVar 7) cNil))) (cCons (cFn sp_l_draw (fun _ => noX) (cCons (cVar 0) (cCons (cVar 8) cNil))) (cCons (cFn sp_l_draw (fun _ => noX) (cCons (cVar 0) (cCons (cVar 2) cNil))) cNil)))) (cSeq (cIfS (cT (cOp cGt (cVar 4) (cC (.int 3)))) (cRet (cTup (cCons (cVar 2) (cCons (cVar 3) (cCons (cFn (sp_l_put 8) (fun _ => noX) (cCons (cVar 1) (cCons (cTup (cCons (cVar 9) (cCons (cVar 10) (cCons (cVar 11) cNil)))) (cCons (cFn sp_l_edge_steps (fun _ => noX) (cCons (cVar 0) (cCons (cVar 3) (cCons (cVar 7) cNil)))) cNil)))) cNil))))) cNext) (cSeq (cIfS (cT (cOp cEq (cVar 4) (cC (.int 2)))) (cRet (cTup (cCons (cVar 2) (cCons (cVar 3) (cCons (cFn (sp_l_put 8) (fun _ => noX) (cCons (cVar 1) (cCons (cTup (cCons (cVar 9) (cCons (cVar 10) cNil))) (cCons (cOp cMul (cTup (cCons (cVar 6) cNil)) (cFn sp_l_any (fun _ => noX) (cCons (cVar 0) (cCons (cLst (cCons (cOp cSub (cVar 2) (cC (.int 1))) (cCons (cVar 2) (cCons (cOp cAdd (cVar 2) (cC (.int 1))) cNil)))) cNil)))) cNil)))) cNil))))) cNext) (cSeq (cIfS (cT (cOp cEq (cVar 4) (cC (.int 3)))) (cSeq (cSet 12 (cFn sp_l_any (fun _ => noX) (cCons (cVar 0) (cCons (cLst (cCons (cOp cMul (cTup (cCons (cTup cNil) cNil)) (cVar 7)) (cCons (cTup cNil) (cCons (cOp cAdd (cSl cSlc (cVar 1) cNoP (cPart (cC (.int 1)))) (cTup (cCons (cSl cSlc (cOp (cIxA P w) (cVar 1) (cC (.int 0))) cNoP (cPart (cC (.int 1)))) cNil))) (cCons (cSl cSlc (cVar 1) cNoP (cPart (cC (.int 1)))) cNil))))) cNil)))) (cRet (cTup (cCons (cFn sp_l_any (fun _ => noX) (cCons (cVar 0) (cCons (cLst (cCons (cVar 2) (cCons (cC (.int 5)) (cCons (cC (.int 6)) (cCons (cC (.int 0)) cNil))))) cNil))) (cCons (cFn sp_l_any (fun _ => noX) (cCons (cVar 0) (cCons (cLst (cCons (cVar 3) (cCons (cC (.int 1)) (cCons (cC (.int 6)) (cCons (cC (.int 7)) (cCons (cC (.int 0)) cNil)))))) cNil))) (cCons (cFn sp_l_any (fun _ => noX) (cCons (cVar 0) (cCons (cLst (cCons (cVar 1) (cCons (cVar 12) cNil))) cNil))) cNil)))))) cNext) (cRet (cTup (cCons (cVar 2) (cCons (cVar 3) (cCons (cVar 1) cNil)))))))))))))
theorem w_l_edged {P : Program} {w : World} {K : PySem.W.Frag} {mg : Str → Option Value} {base : Heap} {f : Addr} {fd : FuncData} (L : Lib mg) (D__law_any : Dn P w K mg base "_law_any" 2 [("_law_hand_here" : Str), ("_law_things" : Str)] sp_l_any) (D__law_draw : Dn P w K mg base "_law_draw" 1 [("_law_hand_here" : Str), ("_law_many" : Str)] sp_l_draw) (D__law_edge_steps : Dn P w K mg base "_law_edge_steps" 4 [("_law_hand_here" : Str), ("_law_words" : Str), ("_law_standings" : Str)] sp_l_edge_steps) (D__law_put : Dn P w K mg base "_law_put" 9 [("_law_thing" : Str), ("_law_path" : Str), ("_law_item" : Str)] (sp_l_put 8))
    (F : Fun K "_law_edged" "_law_edged" s_l_edged f fd) (ln : ∀ ds h Q E, sp_l_edged ds h Q E → ds.length = 1)
    (pl : ∀ ds h Q E', sp_l_edged ds h Q E' → t_l_edged P w K (fun _ => noX) { nx := fun _ h' => Q .non h', rt := Q } (startD N_l_edged ds) h) : GF P w K mg base 10 f fd [("_law_hand_here" : Str)] sp_l_edged := by
  refine gf_of (k := 9) F sc_l_edged ln fun cdv A outer s H E ds h Q E' hr hg kx hs => ?_
  · have ru := room_u hr
    exact ⟨t_l_edged P w K (fun _ => noX), (qss_cons (qs_par rfl sc_l_edged.nd rfl rfl (by decide) rfl rfl (qa_cons (qe_fn D__law_any (hr.mono (by omega)) hg TkD.none (qa_cons (qv 0) (qa_cons (qe_lst (qa_cons qe_int (qa_cons qe_int (qa_cons qe_int qa_nil)))) qa_nil))) (qa_cons (qe_fn D__law_any (hr.mono (by omega)) hg TkD.none (qa_cons (qv 0) (qa_cons (qe_lst (qa_cons qe_int (qa_cons qe_int (qa_cons qe_int qa_nil)))) qa_nil))) qa_nil)) (by rfl)) (qss_cons (qs_par3 rfl sc_l_edged.nd rfl rfl rfl (by decide) (by decide) (by decide) rfl rfl rfl (qa_cons (qe_fn D__law_draw (hr.mono (by omega)) hg TkD.none (qa_cons (qv 0) (qa_cons qe_int qa_nil))) (qa_cons (qe_fn D__law_draw (hr.mono (by omega)) hg TkD.none (qa_cons (qv 0) (qa_cons qe_int qa_nil))) (qa_cons (qe_tup (qa_cons (qe_tup (qa_cons qe_int (qa_cons (qe_tup (qa_cons qe_int (qa_cons qe_int qa_nil))) (qa_cons qe_int qa_nil)))) qa_nil)) qa_nil))) (by rfl)) (qss_cons (qs_par rfl sc_l_edged.nd rfl rfl (by decide) rfl rfl (qa_cons (qe_ix (xd_any (uu ru)) (qe_lst (qa_cons qe_int (qa_cons (qe_op od_add qe_int (qv 5)) (qa_cons qe_int qa_nil)))) (qe_callB (cd_min rfl) rfl (L.n "min") b_min (qa_cons (qv 4) (qa_cons qe_int qa_nil))) (fun _ _ => rfl)) (qa_cons (qe_ix (xd_any (uu ru)) (qe_lst (qa_cons (qe_op od_add qe_int (qv 5)) (qa_cons qe_int (qa_cons qe_int qa_nil)))) (qe_callB (cd_min rfl) rfl (L.n "min") b_min (qa_cons (qv 4) (qa_cons qe_int qa_nil))) (fun _ _ => rfl)) qa_nil)) (by rfl)) (qss_cons (qs_set sc_l_edged.nd rfl (by first | exact .inl rfl | exact .inr rfl) (qe_op od_mul (qe_tup (qa_cons (qe_op od_mul (qe_tup (qa_cons (qe_op od_mul (qe_tup (qa_cons (qv 6) qa_nil)) (qv 2)) qa_nil)) (qv 8)) qa_nil)) (qv 7))) (qss_cons (qs_par3 rfl sc_l_edged.nd rfl rfl rfl (by decide) (by decide) (by decide) rfl rfl rfl (qa_cons (qe_fn D__law_draw (hr.mono (by omega)) hg TkD.none (qa_cons (qv 0) (qa_cons (qv 7) qa_nil))) (qa_cons (qe_fn D__law_draw (hr.mono (by omega)) hg TkD.none (qa_cons (qv 0) (qa_cons (qv 8) qa_nil))) (qa_cons (qe_fn D__law_draw (hr.mono (by omega)) hg TkD.none (qa_cons (qv 0) (qa_cons (qv 2) qa_nil))) qa_nil))) (by rfl)) (qss_cons (qs_if (qt_cmp od_gt (qv 4) qe_int) (qss_one (qs_ret (qe_tup (qa_cons (qv 2) (qa_cons (qv 3) (qa_cons (qe_fn D__law_put (hr.mono (by omega)) hg TkD.none (qa_cons (qv 1) (qa_cons (qe_tup (qa_cons (qv 9) (qa_cons (qv 10) (qa_cons (qv 11) qa_nil)))) (qa_cons (qe_fn D__law_edge_steps (hr.mono (by omega)) hg TkD.none (qa_cons (qv 0) (qa_cons (qv 3) (qa_cons (qv 7) qa_nil)))) qa_nil)))) qa_nil)))))) qss_nil) (qss_cons (qs_if (qt_cmp (od_eq (uu ru)) (qv 4) qe_int) (qss_one (qs_ret (qe_tup (qa_cons (qv 2) (qa_cons (qv 3) (qa_cons (qe_fn D__law_put (hr.mono (by omega)) hg TkD.none (qa_cons (qv 1) (qa_cons (qe_tup (qa_cons (qv 9) (qa_cons (qv 10) qa_nil))) (qa_cons (qe_op od_mul (qe_tup (qa_cons (qv 6) qa_nil)) (qe_fn D__law_any (hr.mono (by omega)) hg TkD.none (qa_cons (qv 0) (qa_cons (qe_lst (qa_cons (qe_op od_sub (qv 2) qe_int) (qa_cons (qv 2) (qa_cons (qe_op od_add (qv 2) qe_int) qa_nil)))) qa_nil)))) qa_nil)))) qa_nil)))))) qss_nil) (qss_cons (qs_if (qt_cmp (od_eq (uu ru)) (qv 4) qe_int) (qss_cons (qs_set sc_l_edged.nd rfl (by first | exact .inl rfl | exact .inr rfl) (qe_fn D__law_any (hr.mono (by omega)) hg TkD.none (qa_cons (qv 0) (qa_cons (qe_lst (qa_cons (qe_op od_mul (qe_tup (qa_cons (qe_tup qa_nil) qa_nil)) (qv 7)) (qa_cons (qe_tup qa_nil) (qa_cons (qe_op od_add (qe_slice (qv 1) qo_none (qo_some qe_int)) (qe_tup (qa_cons (qe_slice (qe_ix (xd_any (uu ru)) (qv 1) qe_int (fun _ _ => rfl)) qo_none (qo_some qe_int)) qa_nil))) (qa_cons (qe_slice (qv 1) qo_none (qo_some qe_int)) qa_nil))))) qa_nil)))) (qss_one (qs_ret (qe_tup (qa_cons (qe_fn D__law_any (hr.mono (by omega)) hg TkD.none (qa_cons (qv 0) (qa_cons (qe_lst (qa_cons (qv 2) (qa_cons qe_int (qa_cons qe_int (qa_cons qe_int qa_nil))))) qa_nil))) (qa_cons (qe_fn D__law_any (hr.mono (by omega)) hg TkD.none (qa_cons (qv 0) (qa_cons (qe_lst (qa_cons (qv 3) (qa_cons qe_int (qa_cons qe_int (qa_cons qe_int (qa_cons qe_int qa_nil)))))) qa_nil))) (qa_cons (qe_fn D__law_any (hr.mono (by omega)) hg TkD.none (qa_cons (qv 0) (qa_cons (qe_lst (qa_cons (qv 1) (qa_cons (qv 12) qa_nil))) qa_nil))) qa_nil))))))) qss_nil) (qss_one (qs_ret (qe_tup (qa_cons (qv 2) (qa_cons (qv 3) (qa_cons (qv 1) qa_nil)))))))))))))), pl ds h Q E' hs⟩
/-! ### law -/
abbrev s_law : Stmt := atS PySem.Challenge.pw_tellsless_k63_machines_refused 54
abbrev N_law : List Str := [("_law_script" : Str), ("_law_hand_here" : Str), ("_law_kept" : Str), ("_law_turn" : Str), ("_law_rows_here" : Str), ("_law_bend" : Str), ("_law_worlds" : Str), ("_law_words" : Str), ("_law_part" : Str), ("_law_machine" : Str), ("_law_one" : Str), ("_law_parts" : Str)]
theorem sc_law : FnScope N_law [("_law_script" : Str)] (defScope s_law) := ⟨rfl, rfl, rfl, by decide +kernel, rfl, by decide +kernel, by decide +kernel⟩
def b_law_1 (P : Program) (w : World) (K : PySem.W.Frag) (W : En → XD) : CS := (cSeq (cAsg (cFn sp_l_edged (fun _ => noX) (cCons (cVar 1) cNil)) (cGTup 3 (cGCons (cName 6) (cGCons (cName 7) (cGCons (cName 4) cGNil))))) (cSeq (cAsg (cFn (sp_l_told K) (fun _ => noX) (cCons (cVar 6) (cCons (cVar 7) (cCons (cVar 4) cNil)))) (cGTup 2 (cGCons (cName 8) (cGCons (cName 9) cGNil)))) (cSeq (cIfS (cNot (cT (cFn sp_l_is (fun _ => noX) (cCons (cVar 8) (cCons (cFn sp_l_due (fun _ => noX) (cCons (cVar 6) (cCons (cVar 7) (cCons (cVar 4) cNil)))) cNil))))) (cRet (cC (.bl false))) cNext) (cIfS (cAnd (cT (cOp cIsNot (cVar 9) (cC .non))) (cNot (cT (cFn sp_l_is (fun _ => noX) (cCons (cLst (cCons (cFld K (cVar 9) "worlds") (cCons (cFld K (cVar 9) "words") (cCons (cFld K (cVar 9) "rows") cNil)))) (cCons (cLst (cCons (cVar 6) (cCons (cVar 7) (cCons (cVar 4) cNil)))) cNil)))))) (cRet (cC (.bl false))) cNext))))
def b_law_3 (P : Program) (w : World) (K : PySem.W.Frag) (W : En → XD) : CS := (cIfS (cT (cOp cIs (cFn sp_l_due (fun _ => noX) (cCons (cVar 6) (cCons (cVar 7) (cCons (cVar 4) cNil)))) (cC .non))) (cSet 4 (cFn sp_l_spoilt (fun _ => noX) (cCons (cVar 1) (cCons (cVar 4) (cCons (cVar 6) (cCons (cVar 7) cNil)))))) cNext)
def b_law_2 (P : Program) (w : World) (K : PySem.W.Frag) (W : En → XD) : CS := (cSeq (cAsg (cTup (cCons (cOp cAdd (cC (.int 1)) (cFn sp_l_draw (fun _ => noX) (cCons (cVar 1) (cCons (cC (.int 5)) cNil)))) (cCons (cOp cAdd (cC (.int 1)) (cFn sp_l_draw (fun _ => noX) (cCons (cVar 1) (cCons (cC (.int 6)) cNil)))) cNil))) (cGTup 2 (cGCons (cName 6) (cGCons (cName 7) cGNil)))) (cSeq (cSet 4 (cFn sp_l_rows (fun _ => noX) (cCons (cVar 1) (cCons (cVar 6) (cCons (cVar 7) (cCons (cOp cAdd (cC (.int 1)) (cFn sp_l_draw (fun _ => noX) (cCons (cVar 1) (cCons (cC (.int 4)) cNil)))) (cCons (cOp cAdd (cC (.int 1)) (cFn sp_l_draw (fun _ => noX) (cCons (cVar 1) (cCons (cC (.int 6)) cNil)))) cNil))))))) (cSeq (cFor (cRng1 (cCons (cFn sp_l_draw (fun _ => noX) (cCons (cVar 1) (cCons (cC (.int 3)) cNil))) cNil)) (cName 5) (b_law_3 P w K W)) (cSeq (cIfS (cT (cOp cEq (cFn sp_l_draw (fun _ => noX) (cCons (cVar 1) (cCons (cC (.int 8)) cNil))) (cC (.int 0)))) (cSet 6 (cFn sp_l_any (fun _ => noX) (cCons (cVar 1) (cCons (cLst (cCons (cC (.int 0)) (cCons (cC (.int 6)) (cCons (cFn sp_l_odd (fun _ => noX) (cCons (cVar 1) cNil)) cNil)))) cNil)))) cNext) (cSeq (cIfS (cT (cOp cEq (cFn sp_l_draw (fun _ => noX) (cCons (cVar 1) (cCons (cC (.int 8)) cNil))) (cC (.int 0)))) (cSet 7 (cFn sp_l_any (fun _ => noX) (cCons (cVar 1) (cCons (cLst (cCons (cC (.int 0)) (cCons (cC (.int 7)) (cCons (cFn sp_l_odd (fun _ => noX) (cCons (cVar 1) cNil)) cNil)))) cNil)))) cNext) (cSeq (cAsg (cFn (sp_l_told K) (fun _ => noX) (cCons (cVar 6) (cCons (cVar 7) (cCons (cVar 4) cNil)))) (cGTup 2 (cGCons (cName 8) (cGCons (cName 9) cGNil)))) (cSeq (cIfS (cNot (cT (cFn sp_l_is (fun _ => noX) (cCons (cVar 8) (cCons (cFn sp_l_due (fun _ => noX) (cCons (cVar 6) (cCons (cVar 7) (cCons (cVar 4) cNil)))) cNil))))) (cRet (cC (.bl false))) cNext) (cIfS (cT (cOp cIsNot (cVar 9) (cC .non))) (cSeq (cIfS (cNot (cT (cFn sp_l_is (fun _ => noX) (cCons (cLst (cCons (cFld K (cVar 9) "worlds") (cCons (cFld K (cVar 9) "words") (cCons (cFld K (cVar 9) "rows") cNil)))) (cCons (cLst (cCons (cVar 6) (cCons (cVar 7) (cCons (cVar 4) cNil)))) cNil))))) (cRet (cC (.bl false))) cNext) (cSeq (cIfS (cOr (cT (cOp (cNeI (He.ga K "Machine") (sp_Machine_eq K)) (cVar 9) (cMake (He.ga K "Machine") (sp_Machine_init K) (fun _ => noX) (cCons (cVar 6) (cCons (cVar 7) (cCons (cCall cTuple (cCons (cCall cList (cCons (cVar 4) cNil)) cNil)) cNil)))))) (cOr (cT (cOp (cEqI K (He.ga K "Machine") (sp_Machine_eq K)) (cVar 9) (cVar 4))) (cT (cOp (cEqI K (He.ga K "Machine") (sp_Machine_eq K)) (cVar 9) (cC (.int 0)))))) (cRet (cC (.bl false))) cNext) (cSeq (cIfS (cT (cCall (cBools fun bs => bs.any id) (cCons (cLc (cSrcA P w (cVar 2)) (.many [10, 11]) cYes (cOp cNe (cOp (cEqI K (He.ga K "Machine") (sp_Machine_eq K)) (cVar 9) (cVar 10)) (cOp cEq (cTup (cCons (cVar 6) (cCons (cVar 7) (cCons (cVar 4) cNil)))) (cVar 11))) [10, 11]) cNil))) (cRet (cC (.bl false))) cNext) (cDrop (cLm (cVar 2) (cCons (cTup (cCons (cVar 9) (cCons (cTup (cCons (cVar 6) (cCons (cVar 7) (cCons (cVar 4) cNil)))) cNil))) cNil) cApp))))) cNext))))))))
def t_law (P : Program) (w : World) (K : PySem.W.Frag) (W : En → XD) : CS := (cSeq (cSet 1 (cFn sp_l_hand (fun _ => noX) (cCons (cVar 0) cNil))) (cSeq (cSet 2 (cLst cNil)) (cSeq (cFor (cRng1 (cCons (cC (.int 40)) cNil)) (cName 3) (b_law_1 P w K W)) (cSeq (cFor (cRng1 (cCons (cC (.int 8)) cNil)) (cName 3) (b_law_2 P w K W)) (cRet (cC (.bl true)))))))
theorem w_law {P : Program} {w : World} {K : PySem.W.Frag} {mg : Str → Option Value} {base : Heap} {f : Addr} {fd : FuncData} (L : Lib mg) (D__law_hand : Dn P w K mg base "_law_hand" 1 [("_law_script" : Str)] sp_l_hand) (D__law_edged : Dn P w K mg base "_law_edged" 10 [("_law_hand_here" : Str)] sp_l_edged) (D__law_told : Dn P w K mg base "_law_told" 10 [("_law_worlds" : Str), ("_law_words" : Str), ("_law_rows_here" : Str)] (sp_l_told K)) (D__law_due : Dn P w K mg base "_law_due" 5 [("_law_worlds" : Str), ("_law_words" : Str), ("_law_rows_here" : Str)] sp_l_due) (D__law_is : Dn P w K mg base "_law_is" 1 [("_law_told_here" : Str), ("_law_due_here" : Str)] sp_l_is) (D__law_draw : Dn P w K mg base "_law_draw" 1 [("_law_hand_here" : Str), ("_law_many" : Str)] sp_l_draw) (D__law_rows : Dn P w K mg base "_law_rows" 4 [("_law_hand_here" : Str), ("_law_worlds" : Str), ("_law_words" : Str), ("_law_asked" : Str), ("_law_standings" : Str)] sp_l_rows) (D__law_spoilt : Dn P w K mg base "_law_spoilt" 10 [("_law_hand_here" : Str), ("_law_rows_here" : Str), ("_law_worlds" : Str), ("_law_words" : Str)] sp_l_spoilt) (D__law_odd : Dn P w K mg base "_law_odd" 4 [("_law_hand_here" : Str)] sp_l_odd) (D__law_any : Dn P w K mg base "_law_any" 2 [("_law_hand_here" : Str), ("_law_things" : Str)] sp_l_any) (D_Machine : Dm P w K mg base "Machine" (He.ga K "Machine") 8 [("self" : Str), ("worlds" : Str), ("words" : Str), ("rows" : Str)] (sp_Machine_init K)) (C_eq : ∃ f fd, PySem.W.findIn K (.ref (He.ga K "Machine")) "__eq__" = some (some (.ref f)) ∧ PySem.W.isFn K (.ref f) = true ∧ neB K (He.ga K "Machine") f = true ∧ Binds K fd [("self" : Str), ("other" : Str)] [] ∧ GF P w K mg base 1 f fd [("self" : Str), ("other" : Str)] (sp_Machine_eq K))
    (F : Fun K "law" "law" s_law f fd) (ln : ∀ ds h Q E, sp_law ds h Q E → ds.length = 1)
    (pl : ∀ ds h Q E', sp_law ds h Q E' → t_law P w K (fun _ => noX) { nx := fun _ h' => Q .non h', rt := Q } (startD N_law ds) h) : GF P w K mg base 20 f fd [("_law_script" : Str)] sp_law := by
  refine gf_of (k := 19) F sc_law ln fun cdv A outer s H E ds h Q E' hr hg kx hs => ?_
  · have ru := room_u hr
    obtain ⟨feq, fdeq, hs_eq, hf_eq, ne_eq, hb_eq, F_eq⟩ := C_eq
    exact ⟨t_law P w K (fun _ => noX), (qss_cons (qs_set sc_law.nd rfl (by first | exact .inl rfl | exact .inr rfl) (qe_fn D__law_hand (hr.mono (by omega)) hg TkD.none (qa_cons (qv 0) qa_nil))) (qss_cons (qs_set sc_law.nd rfl (by first | exact .inl rfl | exact .inr rfl) (qe_lst qa_nil)) (qss_cons (qs_for (passes_of rfl) rfl (qi_range1 rfl (L.n "range") (qa_cons qe_int qa_nil)) (qg_name sc_law.nd rfl (by first | exact .inl rfl | exact .inr rfl)) (qss_cons (qs_asg (qe_fn D__law_edged (hr.mono (by omega)) hg TkD.none (qa_cons (qv 1) qa_nil)) (qg_tup rfl (qgs_cons (qg_name sc_law.nd rfl (by first | exact .inl rfl | exact .inr rfl)) (qgs_cons (qg_name sc_law.nd rfl (by first | exact .inl rfl | exact .inr rfl)) (qgs_cons (qg_name sc_law.nd rfl (by first | exact .inl rfl | exact .inr rfl)) qgs_nil))))) (qss_cons (qs_asg (qe_fn D__law_told (hr.mono (by omega)) hg TkD.none (qa_cons (qv 6) (qa_cons (qv 7) (qa_cons (qv 4) qa_nil)))) (qg_tup rfl (qgs_cons (qg_name sc_law.nd rfl (by first | exact .inl rfl | exact .inr rfl)) (qgs_cons (qg_name sc_law.nd rfl (by first | exact .inl rfl | exact .inr rfl)) qgs_nil)))) (qss_cons (qs_if (qt_not (qt_val (qe_fn D__law_is (hr.mono (by omega)) hg TkD.none (qa_cons (qv 8) (qa_cons (qe_fn D__law_due (hr.mono (by omega)) hg TkD.none (qa_cons (qv 6) (qa_cons (qv 7) (qa_cons (qv 4) qa_nil)))) qa_nil))))) (qss_one (qs_ret qe_bl)) qss_nil) (qss_one (qs_if (QW.t (qw_and (qt_cmp od_isNot (qv 9) qe_non) (qw_and1 (qt_not (qt_val (qe_fn D__law_is (hr.mono (by omega)) hg TkD.none (qa_cons (qe_lst (qa_cons (qe_fld (qv 9) rfl) (qa_cons (qe_fld (qv 9) rfl) (qa_cons (qe_fld (qv 9) rfl) qa_nil)))) (qa_cons (qe_lst (qa_cons (qv 6) (qa_cons (qv 7) (qa_cons (qv 4) qa_nil)))) qa_nil)))))))) (qss_one (qs_ret qe_bl)) qss_nil)))))) (qss_cons (qs_for (passes_of rfl) rfl (qi_range1 rfl (L.n "range") (qa_cons qe_int qa_nil)) (qg_name sc_law.nd rfl (by first | exact .inl rfl | exact .inr rfl)) (qss_cons (qs_asg (qe_tup (qa_cons (qe_op od_add qe_int (qe_fn D__law_draw (hr.mono (by omega)) hg TkD.none (qa_cons (qv 1) (qa_cons qe_int qa_nil)))) (qa_cons (qe_op od_add qe_int (qe_fn D__law_draw (hr.mono (by omega)) hg TkD.none (qa_cons (qv 1) (qa_cons qe_int qa_nil)))) qa_nil))) (qg_tup rfl (qgs_cons (qg_name sc_law.nd rfl (by first | exact .inl rfl | exact .inr rfl)) (qgs_cons (qg_name sc_law.nd rfl (by first | exact .inl rfl | exact .inr rfl)) qgs_nil)))) (qss_cons (qs_set sc_law.nd rfl (by first | exact .inl rfl | exact .inr rfl) (qe_fn D__law_rows (hr.mono (by omega)) hg TkD.none (qa_cons (qv 1) (qa_cons (qv 6) (qa_cons (qv 7) (qa_cons (qe_op od_add qe_int (qe_fn D__law_draw (hr.mono (by omega)) hg TkD.none (qa_cons (qv 1) (qa_cons qe_int qa_nil)))) (qa_cons (qe_op od_add qe_int (qe_fn D__law_draw (hr.mono (by omega)) hg TkD.none (qa_cons (qv 1) (qa_cons qe_int qa_nil)))) qa_nil))))))) (qss_cons (qs_for (passes_of rfl) rfl (qi_range1 rfl (L.n "range") (qa_cons (qe_fn D__law_draw (hr.mono (by omega)) hg TkD.none (qa_cons (qv 1) (qa_cons qe_int qa_nil))) qa_nil)) (qg_name sc_law.nd rfl (by first | exact .inl rfl | exact .inr rfl)) (qss_one (qs_if (qt_cmp od_is (qe_fn D__law_due (hr.mono (by omega)) hg TkD.none (qa_cons (qv 6) (qa_cons (qv 7) (qa_cons (qv 4) qa_nil)))) qe_non) (qss_one (qs_set sc_law.nd rfl (by first | exact .inl rfl | exact .inr rfl) (qe_fn D__law_spoilt (hr.mono (by omega)) hg TkD.none (qa_cons (qv 1) (qa_cons (qv 4) (qa_cons (qv 6) (qa_cons (qv 7) qa_nil))))))) qss_nil))) (qss_cons (qs_if (qt_cmp (od_eq (uu ru)) (qe_fn D__law_draw (hr.mono (by omega)) hg TkD.none (qa_cons (qv 1) (qa_cons qe_int qa_nil))) qe_int) (qss_one (qs_set sc_law.nd rfl (by first | exact .inl rfl | exact .inr rfl) (qe_fn D__law_any (hr.mono (by omega)) hg TkD.none (qa_cons (qv 1) (qa_cons (qe_lst (qa_cons qe_int (qa_cons qe_int (qa_cons (qe_fn D__law_odd (hr.mono (by omega)) hg TkD.none (qa_cons (qv 1) qa_nil)) qa_nil)))) qa_nil))))) qss_nil) (qss_cons (qs_if (qt_cmp (od_eq (uu ru)) (qe_fn D__law_draw (hr.mono (by omega)) hg TkD.none (qa_cons (qv 1) (qa_cons qe_int qa_nil))) qe_int) (qss_one (qs_set sc_law.nd rfl (by first | exact .inl rfl | exact .inr rfl) (qe_fn D__law_any (hr.mono (by omega)) hg TkD.none (qa_cons (qv 1) (qa_cons (qe_lst (qa_cons qe_int (qa_cons qe_int (qa_cons (qe_fn D__law_odd (hr.mono (by omega)) hg TkD.none (qa_cons (qv 1) qa_nil)) qa_nil)))) qa_nil))))) qss_nil) (qss_cons (qs_asg (qe_fn D__law_told (hr.mono (by omega)) hg TkD.none (qa_cons (qv 6) (qa_cons (qv 7) (qa_cons (qv 4) qa_nil)))) (qg_tup rfl (qgs_cons (qg_name sc_law.nd rfl (by first | exact .inl rfl | exact .inr rfl)) (qgs_cons (qg_name sc_law.nd rfl (by first | exact .inl rfl | exact .inr rfl)) qgs_nil)))) (qss_cons (qs_if (qt_not (qt_val (qe_fn D__law_is (hr.mono (by omega)) hg TkD.none (qa_cons (qv 8) (qa_cons (qe_fn D__law_due (hr.mono (by omega)) hg TkD.none (qa_cons (qv 6) (qa_cons (qv 7) (qa_cons (qv 4) qa_nil)))) qa_nil))))) (qss_one (qs_ret qe_bl)) qss_nil) (qss_one (qs_if (qt_cmp od_isNot (qv 9) qe_non) (qss_cons (qs_if (qt_not (qt_val (qe_fn D__law_is (hr.mono (by omega)) hg TkD.none (qa_cons (qe_lst (qa_cons (qe_fld (qv 9) rfl) (qa_cons (qe_fld (qv 9) rfl) (qa_cons (qe_fld (qv 9) rfl) qa_nil)))) (qa_cons (qe_lst (qa_cons (qv 6) (qa_cons (qv 7) (qa_cons (qv 4) qa_nil)))) qa_nil))))) (qss_one (qs_ret qe_bl)) qss_nil) (qss_cons (qs_if (QW.t (qw_or (qt_cmp (od_neI F_eq (hr.mono (by omega)) hg hb_eq ne_eq) (qv 9) (qe_mk D_Machine (hr.mono (by omega)) hg TkD.none (qa_cons (qv 6) (qa_cons (qv 7) (qa_cons (qe_callTy cd_tuple rfl (L.n "tuple") b_tuple (qa_cons (qe_callTy cd_list rfl (L.n "list") b_list (qa_cons (qv 4) qa_nil)) qa_nil)) qa_nil))))) (qw_or (qt_cmp (od_eqI F_eq (hr.mono (by omega)) hg hb_eq hs_eq hf_eq) (qv 9) (qv 4)) (qw_or1 (qt_cmp (od_eqI F_eq (hr.mono (by omega)) hg hb_eq hs_eq hf_eq) (qv 9) qe_int))))) (qss_one (qs_ret qe_bl)) qss_nil) (qss_cons (qs_if (qt_val (qe_callB (cd_any rfl) rfl (L.n "any") b_any (qa_cons (qe_lc (own := [("_law_one", 10), ("_law_parts", 11)]) rfl sc_law.nd (qi_any (qv 2)) (show BlkOk N_law (defScope s_law) _ [("_law_one", 10), ("_law_parts", 11)] from ⟨rfl, by decide +kernel, by decide +kernel, by decide +kernel, by decide +kernel⟩) (by decide) (fun _ _ _ _ _ => (tg_many rfl (tg_cons sc_law.nd rfl (.inl rfl) (tg_cons sc_law.nd rfl (.inl rfl) tg_nil)))) (fun _ _ _ _ _ => qts_nil) (fun _ _ _ _ _ => (qe_cmp (od_ne (uu ru)) (qe_cmp (od_eqI F_eq (hr.mono (by omega)) hg hb_eq hs_eq hf_eq) (qv 9) (qv 10)) (qe_cmp (od_eq (uu ru)) (qe_tup (qa_cons (qv 6) (qa_cons (qv 7) (qa_cons (qv 4) qa_nil)))) (qv 11))))) qa_nil))) (qss_one (qs_ret qe_bl)) qss_nil) (qss_one (qs_expr (qe_lm PySem.F.slot_list_append PySem.F.type_list_append md_append (qv 2) (qa_cons (qe_tup (qa_cons (qv 9) (qa_cons (qe_tup (qa_cons (qv 6) (qa_cons (qv 7) (qa_cons (qv 4) qa_nil)))) qa_nil))) qa_nil))))))) qss_nil)))))))))) (qss_one (qs_ret qe_bl)))))), pl ds h Q E' hs⟩
end K63

-- K63L
set_option Elab.async false
set_option linter.all false
set_option maxRecDepth 100000
set_option maxHeartbeats 4000000
/-! K63L: the plain laws of the class and of the try. -/
namespace K63
open PySem PySem.Spec PyProof.Rows L2 PD
section
variable {P : Program} {w : World} {K : PySem.W.Frag} {W : En → XD} {h : HD} {Q : DK} {Z : DE} {E : XD}
theorem due_w {nw wo rows : D} (c : inW nw 1 5 = false) : due nw wo rows = some (.tup [.str "worlds"]) := by
  cases nw with
  | int n => cases wo <;> exact if_neg (by rw [c]; decide)
  | _ => cases wo <;> rfl
theorem due_o {nw wo rows : D} (c : inW nw 1 5 = true) (c2 : inW wo 1 6 = false) : due nw wo rows = some (.tup [.str "words"]) := by
  obtain ⟨n, rfl, _⟩ := inW_int c
  cases wo with
  | int m => exact (if_pos c).trans (if_neg (by rw [c2]; decide))
  | _ => exact if_pos c
theorem due_r {nw wo rows : D} (c : inW nw 1 5 = true) (c2 : inW wo 1 6 = true) (c3 : areRows rows = false) : due nw wo rows = some (.tup [.str "rows"]) := by
  obtain ⟨n, rfl, _⟩ := inW_int c
  obtain ⟨m, rfl, _⟩ := inW_int c2
  exact (if_pos c).trans ((if_pos c2).trans (if_neg (by rw [c3]; decide)))
theorem due_k {n m : Int} {rs : List D} (c : inW (.int n) 1 5 = true) (c2 : inW (.int m) 1 6 = true) (c3 : areRows (.tup rs) = true) : due (.int n) (.int m) (.tup rs) = rowBad n m rs.length 0 rs :=
  (if_pos c).trans ((if_pos c2).trans (if_pos c3))
theorem rows_is {x : D} (c : areRows x = true) : ∃ rs, x = .tup rs := by
  cases x with
  | tup rs => exact ⟨rs, rfl⟩
  | _ => cases c
theorem p_Machine_init (hC : Cls K (He.ga K "Machine")) (h1 : NoAttr K (He.ga K "Machine") "worlds") (h2 : NoAttr K (He.ga K "Machine") "words") (h3 : NoAttr K (He.ga K "Machine") "rows")
    (ds : List D) (h : HD) (Q : DK) (E : XD) (hs : sp_Machine_init K ds h Q E) : t_Machine_init P w K (fun _ => E) { nx := fun _ h' => Q .non h', rt := Q } (startD N_Machine_init ds) h := by
  obtain ⟨a, x, C, dx, nw, wo, rows, rfl, rfl, hx, k1, k2, k3, q⟩ := hs
  obtain ⟨z1, kz1⟩ := k1.kd
  obtain ⟨z2, kz2⟩ := k2.kd
  refine ⟨nw, 1, 5, z1, rfl, kz1, ifB (c := !inW nw 1 5) (fun c => ?_) (fun c => ?_)⟩
  · have c' : inW nw 1 5 = false := by simpa using c
    have := q h (.refl x h)
    rw [due_w c'] at this
    exact ⟨by show 1 ≤ sizeLine; decide, this hx⟩
  have c1 : inW nw 1 5 = true := by simpa using c
  refine ⟨wo, 1, 6, z2, rfl, kz2, ifB (c := !inW wo 1 6) (fun c => ?_) (fun c => ?_)⟩
  · have c' : inW wo 1 6 = false := by simpa using c
    have := q h (.refl x h)
    rw [due_o c1 c'] at this
    exact ⟨by show 1 ≤ sizeLine; decide, this hx⟩
  have c2 : inW wo 1 6 = true := by simpa using c
  refine ⟨a, rows, rfl, k3, fun h' x1 => ifB (c := !areRows rows) (fun c => ?_) (fun c => ?_)⟩
  · have c' : areRows rows = false := by simpa using c
    have := q h' x1.b
    rw [due_r c1 c2 c'] at this
    exact ⟨by show 1 ≤ sizeLine; decide, this (x1 _ _ hx)⟩
  have c3 : areRows rows = true := by simpa using c
  obtain ⟨rs, rfl⟩ := rows_is c3
  obtain ⟨n, rfl, _⟩ := inW_int c1
  obtain ⟨m, rfl, _⟩ := inW_int c2
  refine ⟨a, n, m, rs, rfl, c3, Kn.ex x1.b k3, fun h2' x2 => ?_⟩
  have x12 := x1.trans x2
  have hx2 := x12 _ _ hx
  have dk := due_k (n := n) (m := m) c1 c2 c3
  cases hb : rowBad n m rs.length 0 rs with
  | some p =>
    have := q h2' x12.b
    rw [dk, hb] at this
    exact this hx2
  | none =>
    refine ⟨_, dx, [], hx2, hC, h1, by decide, ?_⟩
    refine ⟨_, dx, [("worlds", .int n)], updD_same, hC, h2, by show 1 < 1000; decide, ?_⟩
    refine ⟨_, dx, [("worlds", .int n), ("words", .int m)], updD_same, hC, h3, by show 2 < 1000; decide, ?_⟩
    have := q _ ((x12.b.trans (ExB.setN hx2 (fun _ z => by cases z) (a := x) (o := .ins (He.ga K "Machine") dx [("worlds", .int n)]))).trans ((ExB.setN updD_same (fun _ z => by cases z) (a := x) (o := .ins (He.ga K "Machine") dx [("worlds", .int n), ("words", .int m)])).trans (ExB.setN updD_same (fun _ z => by cases z) (a := x) (o := .ins (He.ga K "Machine") dx (fldsM (.int n) (.int m) (.tup rs))))))
    rw [dk, hb] at this
    exact this updD_same
theorem isM_fld {h : HD} {x : Addr} {nw wo rows : D} (hC : Cls K (He.ga K "Machine")) (h1 : NoAttr K (He.ga K "Machine") "worlds") (h2 : NoAttr K (He.ga K "Machine") "words") (h3 : NoAttr K (He.ga K "Machine") "rows") (m : isM K h x nw wo rows) {t : CE} {ρ : En} (ht : ∀ k : DK, k (.ref x) h → t ρ h k) (Q : DK) (q : Q (.tup [nw, wo, rows]) h) :
    cTup (cCons (cFld K t "worlds") (cCons (cFld K t "words") (cCons (cFld K t "rows") cNil))) ρ h Q := by
  obtain ⟨dx, e⟩ := m
  refine ht _ ⟨_, dx, _, _, e, hC, h1, rfl, ?_⟩
  refine ht _ ⟨_, dx, _, _, e, hC, h2, rfl, ?_⟩
  exact ht _ ⟨_, dx, _, _, e, hC, h3, rfl, by show 3 ≤ sizeLine; decide, q⟩
theorem p_Machine_eq (hC : Cls K (He.ga K "Machine")) (h1 : NoAttr K (He.ga K "Machine") "worlds") (h2 : NoAttr K (He.ga K "Machine") "words") (h3 : NoAttr K (He.ga K "Machine") "rows") (hI : IsiC K (He.ga K "Machine")) (hk : PySem.W.kitOne K (.ref (He.ga K "Machine")) (.ref (He.ga K "Machine")) = some true)
    (hk2 : ∀ z : Kd, z = .int ∨ z = .tup → PySem.W.kitOne K (.type z.name) (.ref (He.ga K "Machine")) = some false)
    (ds : List D) (h : HD) (Q : DK) (E : XD) (hs : sp_Machine_eq K ds h Q E) : t_Machine_eq P w K (fun _ => noX) { nx := fun _ h' => Q .non h', rt := Q } (startD N_Machine_eq ds) h := by
  rcases hs with ⟨x, y, nw, wo, rows, nw', wo', rows', rfl, m, m', s, s', q⟩ | ⟨x, y, z, nw, wo, rows, rfl, m, hz, zk, q⟩
  · obtain ⟨dy, ey⟩ := id m'
    refine .inr ⟨y, _, dy, _, true, rfl, ey, hI, hk, ifF (c := !true) rfl ?_⟩
    show cOp cEq (cTup (cCons (cFld K (cVar 0) "worlds") (cCons (cFld K (cVar 0) "words") (cCons (cFld K (cVar 0) "rows") cNil)))) (cTup (cCons (cFld K (cVar 1) "worlds") (cCons (cFld K (cVar 1) "words") (cCons (cFld K (cVar 1) "rows") cNil)))) [some (.ref x), some (.ref y)] h Q
    unfold cOp
    refine isM_fld hC h1 h2 h3 m (t := cVar 0) (ρ := [some (.ref x), some (.ref y)]) (fun k kk => kk) _ ?_
    refine isM_fld hC h1 h2 h3 m' (t := cVar 1) (ρ := [some (.ref x), some (.ref y)]) (fun k kk => kk) _ ?_
    exact ⟨s, s', q⟩
  · exact .inl ⟨z, false, hz, hk2 z zk, ifT (c := !false) rfl q⟩
theorem p_l_told (hm : PySem.W.exmOne K (.ref (He.ga K "BadMachine")) (.ref (He.ga K "HouseError")) = some true) (hI : ExcI K (He.ga K "BadMachine")) (hk : PySem.W.kitOne K (.ref (He.ga K "BadMachine")) (.ref (He.ga K "BadMachine")) = some true)
    (ds : List D) (h : HD) (Q : DK) (E : XD) (hs : sp_l_told K ds h Q E) : t_l_told P w K (fun _ => noX) { nx := fun _ h' => Q .non h', rt := Q } (startD N_l_told ds) h := by
  obtain ⟨a, nw, wo, rows, rfl, k1, k2, k3, q⟩ := hs
  intro x dx nx nd ne
  have x0 : Ex h (updD h x (.ins (He.ga K "Machine") dx [])) := .new nx
  refine ⟨a, x, _, dx, nw, wo, rows, rfl, rfl, updD_same, Kn.ex x0.b k1, Kn.ex x0.b k2, Kn.ex x0.b k3, fun h' xb => ?_⟩
  have xh : Ex h h' := fun b o e => by
    have nb : b ≠ x := fun z => by rw [z, nx] at e; cases e
    exact xb b o nb (x0 b o e)
  have qq := q h' xh
  cases hd : due nw wo rows with
  | some p =>
    rw [hd] at qq
    refine fun _ => ⟨true, hm, fun _ e ne => ?_, fun z => by cases z⟩
    refine ⟨_, _, true, rfl, hI, rfl, hk, ifT (c := true) rfl ⟨rfl, rfl, _, p, rfl, rfl, by show 2 ≤ sizeLine; decide, qq⟩⟩
  | none =>
    rw [hd] at qq
    exact fun e => ⟨rfl, by show 2 ≤ sizeLine; decide, qq x nx ⟨dx, e⟩⟩
end
end K63

-- K63M
set_option Elab.async false
set_option linter.all false
set_option maxRecDepth 100000
set_option maxHeartbeats 4000000
/-! K63M: the plain laws of the law's own judge. -/
namespace K63
open PySem PySem.Spec PyProof.Rows L2 PD
section
variable {P : Program} {w : World} {K : PySem.W.Frag} {W : En → XD} {h : HD} {Q : DK} {Z : DE} {E : XD}
theorem red_iff {p q : Int} (hp : 0 < p) (hq : 0 < q) : redI p q = (p, q) ↔ gcdI p q = 1 := by
  have g0 := gcdI_pos (t := p) hq
  constructor
  · intro e
    have e1 : p / gcdI p q = p := congrArg Prod.fst e
    have e2 : gcdI p q * (p / gcdI p q) ≤ p := Int.mul_ediv_self_le (by omega)
    rw [e1] at e2
    have : gcdI p q ≤ 1 := Int.le_of_mul_le_mul_right (by omega) hp
    omega
  · intro e
    unfold redI
    rw [e, Int.ediv_one, Int.ediv_one]
theorem e30 : (10 : Int) ^ (30 : Int).toNat = N30 := by decide
theorem step_bad {wo st : Int} {u v y : D} (e : inW u 0 (wo - 1) = true → inW y 0 (st - 1) = true → isSh v = false) : isStep wo st (.tup [u, v, y]) = false := by
  show (inW u 0 (wo - 1) && (isSh v && inW y 0 (st - 1))) = false
  cases h1 : inW u 0 (wo - 1) with
  | false => rfl
  | true =>
    cases h2 : inW y 0 (st - 1) with
    | false => rw [Bool.and_false, Bool.and_false]
    | true => rw [e h1 h2]; rfl
theorem sh_two {v : D} (h : szd v 2 2 = false) : isSh v = false := by
  cases c : isSh v with
  | false => rfl
  | true =>
    obtain ⟨t, b, rfl, _⟩ := isSh_shape c
    cases h
theorem ls_step {a : Addr} {wo st : Int} {x all : D} {o5 : Option D} {h : HD} {Y : DE} (hk : Kn a N30 h x) (q1 : isStep wo st x = true → ∀ o5, Y.nx [some all, some (.int wo), some (.int st), some x, none, o5, none] h) (q2 : isStep wo st x = false → Y.rt (.bl false) h) :
    b_l_are_steps_1 P w K W Y [some all, some (.int wo), some (.int st), some x, none, o5, none] h := by
  obtain ⟨z, kz⟩ := hk.kd
  refine ⟨x, 3, 3, z, rfl, kz, ?_⟩
  rcases three_or x with ⟨u, v, y, rfl⟩ | ⟨n1, n2⟩
  · obtain ⟨k1, k2, k3, _⟩ := hk
    obtain ⟨z1, kz1⟩ := k1.kd
    obtain ⟨z2, kz2⟩ := k2.kd
    obtain ⟨z3, kz3⟩ := k3.kd
    refine ifF (c := !szd (.tup [u, v, y]) 3 3) rfl ?_
    refine .inl ⟨u, rfl, u, 0, wo - 1, z1, rfl, kz1, ifB (c := !inW u 0 (wo - 1)) (fun c => ?_) (fun c => ?_)⟩
    · exact q2 (step_bad fun e => by rw [e] at c; cases c)
    have c1 : inW u 0 (wo - 1) = true := by simpa using c
    refine .inl ⟨v, rfl, .inl ⟨y, rfl, y, 0, st - 1, z3, rfl, kz3, ifB (c := !inW y 0 (st - 1)) (fun c => ?_) (fun c => ?_)⟩⟩
    · exact ifT rfl (q2 (step_bad fun _ e => by rw [e] at c; cases c))
    have c2 : inW y 0 (st - 1) = true := by simpa using c
    refine ⟨v, 2, 2, z2, rfl, kz2, ifB (c := !szd v 2 2) (fun c => ?_) (fun c => ?_)⟩
    · exact q2 (step_bad fun _ _ => sh_two (by simpa using c))
    rcases two_or v with ⟨p, q, rfl⟩ | ⟨n1, _⟩
    · obtain ⟨kp, kq, _⟩ := k2
      obtain ⟨zp, kzp⟩ := kp.kd
      obtain ⟨zq, kzq⟩ := kq.kd
      have iss : isSh (.tup [p, q]) = true → ∃ t b, p = .int t ∧ q = .int b ∧ 0 < t ∧ t ≤ b := fun e => by
        obtain ⟨t, b, e1, e2⟩ := isSh_shape e
        injection e1 with e1
        injection e1 with e3 e4
        injection e4 with e4 _
        exact ⟨t, b, e3, e4, e2⟩
      refine .inl ⟨p, rfl, ⟨by decide, by decide, by decide⟩, p, 1, _, zp, rfl, kzp, ?_⟩
      rw [e30]
      refine ifB (c := !inW p 1 N30) (fun cN => ?_) (fun cN => ?_)
      · refine ifT rfl (q2 (step_bad fun _ _ => ?_))
        cases cs : isSh (.tup [p, q]) with
        | false => rfl
        | true =>
          obtain ⟨t, b, rfl, rfl, t0, tb⟩ := iss cs
          have : inW (.int t) 1 N30 = true := by
            show (decide (1 ≤ t) && decide (t ≤ N30)) = true
            have := kp.2
            simp
            omega
          rw [this] at cN; cases cN
      have cp : inW p 1 N30 = true := by simpa using cN
      obtain ⟨t, rfl, t1, t2⟩ := inW_int cp
      refine .inl ⟨q, rfl, ⟨by decide, by decide, by decide⟩, q, 1, _, zq, rfl, kzq, ?_⟩
      rw [e30]
      refine ifB (c := !inW q 1 N30) (fun cN => ?_) (fun cN => ?_)
      · refine q2 (step_bad fun _ _ => ?_)
        cases cs : isSh (.tup [.int t, q]) with
        | false => rfl
        | true =>
          obtain ⟨t', b, _, rfl, t0, tb⟩ := iss cs
          have : inW (.int b) 1 N30 = true := by
            show (decide (1 ≤ b) && decide (b ≤ N30)) = true
            have := kq.2
            simp
            omega
          rw [this] at cN; cases cN
      have cq : inW q 1 N30 = true := by simpa using cN
      obtain ⟨b, rfl, b1, b2⟩ := inW_int cq
      have nb : b.natAbs.log2 < 9000 := by
        have := few_small (i := b) (by omega) 100 (by have := n30; have e : N30 = 1000000000000000000000000000000 := rfl; omega) (by decide)
        omega
      refine .inl ⟨_, rfl, .inl ⟨_, rfl, t, b, rfl, by omega, nb, shp_pr _, shp_pr (t, b), ?_⟩⟩
      have e1 : eqD (prD2 (redI t b)) (.tup [.int t, .int b]) = decide (redI t b = (t, b)) := eqD_pr _ _ _
      show (fun k h1 => _) (!eqD (prD2 (redI t b)) (.tup [.int t, .int b])) h
      rw [e1]
      have full : isStep wo st (.tup [u, .tup [.int t, .int b], y]) = (decide (gcdI t b = 1) && decide (t ≤ b)) := by
        show (inW u 0 (wo - 1) && (isSh (.tup [.int t, .int b]) && inW y 0 (st - 1))) = _
        rw [c1, c2, Bool.true_and, Bool.and_true]
        show ((decide (0 < b) && decide (gcdI t b = 1)) && (decide (0 < t) && decide (t ≤ b))) = _
        rw [decide_eq_true (show 0 < b by omega), decide_eq_true (show 0 < t by omega), Bool.true_and, Bool.true_and]
      refine ifB (c := !decide (redI t b = (t, b))) (fun c => ?_) (fun c => ?_)
      · have n : ¬ gcdI t b = 1 := fun e => by
          rw [decide_eq_true ((red_iff (by omega) (by omega)).mpr e)] at c
          cases c
        exact ifT rfl (q2 (by rw [full, decide_eq_false n]; rfl))
      · have e : gcdI t b = 1 := (red_iff (by omega) (by omega)).mp (by simpa using c)
        refine .inl ⟨_, rfl, .inl ⟨_, rfl, trivial, ifB (c := decide (b < t)) (fun c => ?_) (fun c => ?_)⟩⟩
        · have : b < t := of_decide_eq_true c
          exact q2 (by rw [full, decide_eq_false (show ¬ t ≤ b by omega), Bool.and_false])
        · have : ¬ b < t := of_decide_eq_false c
          exact q1 (by rw [full, decide_eq_true e, decide_eq_true (show t ≤ b by omega)]; rfl) _
    · rw [n1] at c; cases c
  · refine ifT (c := !szd x 3 3) (by rw [n1]; rfl) ?_
    exact ifT rfl (q2 (n2 wo st))
theorem ls_loop {a : Addr} {wo st : Int} {all : D} {h : HD} : ∀ (xs : List D) (o3 o5 : Option D), KnA a N30 h xs → (xs.all (isStep wo st) = true → ∀ o3 o5, Z.nx [some all, some (.int wo), some (.int st), o3, none, o5, none] h) → (xs.all (isStep wo st) = false → Z.rt (.bl false) h) →
    cLoop (fun _ => True) (cName 3) (b_l_are_steps_1 P w K W) Z xs [some all, some (.int wo), some (.int st), o3, none, o5, none] h
  | [], o3, o5, _, q1, _ => ⟨trivial, q1 rfl o3 o5⟩
  | x :: xs, o3, o5, hk, q1, q2 => by
    refine ⟨trivial, ?_⟩
    refine ls_step (K := K) (W := W) hk.1 (fun e o5 => ?_) (fun e => ?_)
    · have e2 : (x :: xs).all (isStep wo st) = xs.all (isStep wo st) := by rw [List.all_cons, e, Bool.true_and]
      rw [e2] at q1 q2
      exact ls_loop xs _ o5 hk.2 q1 q2
    · exact q2 (by rw [List.all_cons, e, Bool.false_and])
theorem count_nodup : ∀ L : List (Int × Int), (∀ p ∈ L, L.countP (fun z => decide (z = p)) = 1) ↔ L.Nodup
  | [] => by simp
  | q :: qs => by
    have zero : ∀ p : Int × Int, qs.countP (fun z => decide (z = p)) = 0 ↔ p ∉ qs := fun p => by
      rw [List.countP_eq_zero]
      simp
      exact ⟨fun h m => h p.1 p.2 m rfl, fun h a b m e => h (e ▸ m)⟩
    rw [List.nodup_cons, ← count_nodup qs]
    constructor
    · intro hh
      have h1 := hh q List.mem_cons_self
      rw [List.countP_cons_of_pos (by simp)] at h1
      have nq : q ∉ qs := (zero q).mp (by omega)
      refine ⟨nq, fun p hp => ?_⟩
      have h2 := hh p (List.mem_cons_of_mem _ hp)
      rw [List.countP_cons_of_neg (by simp; exact fun e => nq (e ▸ hp))] at h2
      exact h2
    · rintro ⟨nq, hh⟩ p hp
      rcases List.mem_cons.mp hp with e | hp
      · subst e
        rw [List.countP_cons_of_pos (by simp), (zero p).mpr nq]
      · rw [List.countP_cons_of_neg (by simp; exact fun e => nq (e ▸ hp))]
        exact hh p hp
theorem eqD_ky (p q : Int × Int) : eqD (kyD p) (kyD q) = decide (p = q) := eqD_pr p q.1 q.2
theorem rfs_ky : ∀ L : List (Int × Int), rfs (L.map kyD) = true
  | [] => rfl
  | p :: L => by
    show (rf (kyD p) && rfs (L.map kyD)) = true
    rw [rfs_ky L]; rfl
theorem p_l_are_steps (ds : List D) (h : HD) (Q : DK) (E : XD) (hs : sp_l_are_steps ds h Q E) : t_l_are_steps P w K W { nx := fun _ h' => Q .non h', rt := Q } (startD N_l_are_steps ds) h := by
  obtain ⟨a, wo, st, x, rfl, hk, q⟩ := hs
  obtain ⟨z, kz⟩ := hk.kd
  refine ⟨x, 1, 12, z, rfl, kz, ?_⟩
  refine ifB (c := !szd x 1 12) (fun c => ?_) (fun c => ?_)
  · have c' : szd x 1 12 = false := by simpa using c
    have e : areSteps wo st x = false := by
      unfold areSteps
      split
      · rw [c', Bool.false_and, Bool.false_and]
      · rfl
    have := q h (.refl h)
    rw [e] at this
    exact this
  have c' : szd x 1 12 = true := by simpa using c
  cases x with
  | tup xs =>
    obtain ⟨l1, l2⟩ := len12 c'
    have hz : xs.length ≤ sizeLine := by rw [sizeLine_eq]; omega
    have q' : ∀ h', Ex h h' → Q (.bl ((xs.all (isStep wo st)) && (decide ((xs.map pairOf).Nodup) && decide (sumI (xs.map shOf) = (1, 1))))) h' := fun h' xx => by
      have := q h' xx
      rw [show areSteps wo st (.tup xs) = ((xs.all (isStep wo st)) && (decide ((xs.map pairOf).Nodup) && decide (sumI (xs.map shOf) = (1, 1)))) by
        show (szd (.tup xs) 1 12 && (xs.all (isStep wo st)) && (decide ((xs.map pairOf).Nodup) && decide (sumI (xs.map shOf) = (1, 1)))) = _
        rw [c', Bool.true_and]] at this
      exact this
    refine .inl (ls_loop (K := K) (W := W) xs none none hk (fun c2 o3 o5 => ?_) (fun c2 => ?_))
    · have shp_ : ∀ x ∈ xs, ∃ u t b g, x = stD u t b g := fun x hx => by
        obtain ⟨u, t, b, g, e, _⟩ := step_shape (List.all_eq_true.mp c2 x hx)
        exact ⟨u, t, b, g, e⟩
      refine .inl ⟨hz, map_loop (fun r => kyD (pairOf r)) trivial xs [] (fun r hr k kk => ?_) fun p np => ?_⟩
      · obtain ⟨u, t, b, g, rfl⟩ := shp_ r hr
        exact .inl ⟨_, rfl, .inl ⟨_, rfl, by show 2 ≤ sizeLine; decide, kk⟩⟩
      have el : ([] ++ xs.map fun r => kyD (pairOf r)) = (xs.map pairOf).map kyD := by simp
      rw [el]
      have x1 : Ex h (updD h p (.lst ((xs.map pairOf).map kyD))) := .new np
      refine .inl ⟨_, updD_same, by rw [List.length_map, List.length_map]; exact hz, map_loop (fun r => D.bl (decide (((xs.map pairOf).map kyD).countP (fun z => eqD z r) = 1))) updD_same _ [] (fun r hr k kk => ?_) fun p2 np2 => ?_⟩
      · refine ⟨⟨p, _, rfl, updD_same⟩, _, updD_same, rfs_ky _, ?_, shp_int _, shp_int _, ?_⟩
        · obtain ⟨y, _, rfl⟩ := List.mem_map.mp hr
          exact shp_pr y
        · rw [eqD_int]
          have : decide (((((xs.map pairOf).map kyD).countP (fun z => eqD z r) : Nat) : Int) = 1) = decide (((xs.map pairOf).map kyD).countP (fun z => eqD z r) = 1) := decide_eq_decide.mpr (by omega)
          rw [this]
          exact kk
      have x2 := x1.new' (o := .lst ([] ++ ((xs.map pairOf).map kyD).map fun r => D.bl (decide (((xs.map pairOf).map kyD).countP (fun z => eqD z r) = 1)))) np2
      refine ⟨((xs.map pairOf).map kyD).map fun r => decide (((xs.map pairOf).map kyD).countP (fun z => eqD z r) = 1), by rw [updD_same, map_bl], ?_⟩
      have ea : ((((xs.map pairOf).map kyD).map fun r => decide (((xs.map pairOf).map kyD).countP (fun z => eqD z r) = 1)).all id) = decide ((xs.map pairOf).Nodup) := by
        rw [all_id]
        refine Bool.eq_iff_iff.mpr ?_
        rw [List.all_eq_true, decide_eq_true_eq, ← count_nodup]
        have cc : ∀ y : Int × Int, ((xs.map pairOf).map kyD).countP (fun z => eqD z (kyD y)) = (xs.map pairOf).countP (fun z => decide (z = y)) := fun y => by
          rw [List.countP_map]
          congr 1
          funext z
          exact eqD_ky z y
        constructor
        · intro hh y hy
          have := of_decide_eq_true (hh (kyD y) (List.mem_map_of_mem hy))
          rw [cc] at this
          exact this
        · intro hh r hr
          obtain ⟨y, hy, rfl⟩ := List.mem_map.mp hr
          rw [cc]
          exact decide_eq_true (hh y hy)
      refine ifB (c := (((xs.map pairOf).map kyD).map fun r => decide (((xs.map pairOf).map kyD).countP (fun z => eqD z r) = 1)).all id) (fun c => ?_) (fun c => ?_)
      · rw [ea] at c
        refine .inl ⟨hz, map_loop (fun r => prD2 (shOf r)) trivial xs [] (fun r hr k kk => ?_) fun p3 np3 => ?_⟩
        · obtain ⟨u, t, b, g, rfl⟩ := shp_ r hr
          exact .inl ⟨_, rfl, kk⟩
        · have x3 := x2.new' (o := .lst ([] ++ xs.map fun r => prD2 (shOf r))) np3
          have el2 : ([] ++ xs.map fun r => prD2 (shOf r)) = (xs.map shOf).map prD2 := by simp
          refine ⟨p3, xs.map shOf, rfl, by rw [updD_same, el2], ?_, ?_⟩
          · exact sum_few _ 1 (0, 1) (by decide) (by decide) (by decide) (by decide) (by rw [List.length_map]; omega) (sh_bound hk c2)
          · refine ⟨by show 2 ≤ sizeLine; decide, shp_pr _, shp_pr (1, 1), ?_⟩
            rw [eqD_pr]
            have := q' _ x3
            rw [c2, c, Bool.true_and, Bool.true_and] at this
            exact this
      · rw [ea] at c
        have := q' _ x2
        rw [c2, c, Bool.true_and, Bool.false_and] at this
        exact this
    · have := q' h (.refl h)
      rw [c2, Bool.false_and] at this
      exact this
  | _ => cases c'
end
end K63

-- K63N
set_option Elab.async false
set_option linter.all false
set_option maxRecDepth 100000
set_option maxHeartbeats 4000000
/-! K63N: the law's own judge. -/
namespace K63
open PySem PySem.Spec PyProof.Rows L2 PD
section
variable {P : Program} {w : World} {K : PySem.W.Frag} {W : En → XD} {h : HD} {Q : DK} {Z : DE} {E : XD}
def rgF : Nat → Nat → List D
  | _, 0 => []
  | i, n + 1 => .int (i : Nat) :: rgF (i + 1) n
theorem rgF_eq : ∀ n i : Nat, (List.range' i n).map (fun j => D.int (j : Nat)) = rgF i n
  | 0, _ => rfl
  | n + 1, i => by rw [List.range'_succ, List.map_cons, rgF_eq n (i + 1)]; rfl
theorem rgD_eq (n : Nat) : rgD 0 n = rgF 0 n := by
  unfold rgD
  rw [← rgF_eq n 0, List.range_eq_range']
  exact List.map_congr_left fun j _ => by rw [Int.zero_add]
theorem drop_get {xs : List D} {i n : Nat} (e : i + (n + 1) = xs.length) : ∃ x, xs[i]? = some x ∧ xs.drop i = x :: xs.drop (i + 1) ∧ atI xs (i : Nat) = some x := by
  have hi : i < xs.length := by omega
  exact ⟨xs[i], List.getElem?_eq_getElem hi, List.drop_eq_getElem_cons hi, atI_nat (List.getElem?_eq_getElem hi)⟩
theorem d3 {a : Addr} {nw wo : Int} {rs ys : List D} {s q : Nat} {o7 : Option D} : ∀ (n i : Nat) (o6 : Option D) (h : HD), i + n = ys.length → KnA a N30 h ys →
    (worldBad wo (rs.length : Nat) s q i (ys.drop i) = none → ∀ o6 h', Ex h h' → Z.nx [some (.int nw), some (.int wo), some (.tup rs), some (.int s), some (.int q), some (.tup ys), o6, o7] h') →
    (∀ p, worldBad wo (rs.length : Nat) s q i (ys.drop i) = some p → ∀ h', Ex h h' → Z.rt p h') →
    cLoop (fun _ => True) (cName 6) (b_l_due_3 P w K W) Z (rgF i n) [some (.int nw), some (.int wo), some (.tup rs), some (.int s), some (.int q), some (.tup ys), o6, o7] h
  | 0, i, o6, h, e, _, q1, _ => ⟨trivial, q1 (by rw [List.drop_eq_nil_of_le (by omega)]; rfl) o6 h (.refl h)⟩
  | n + 1, i, o6, h, e, hk, q1, q2 => by
    obtain ⟨x, ex, ed, ea⟩ := drop_get e
    rw [ed] at q1 q2
    refine ⟨trivial, .inl ⟨x, ea, .inl ⟨a, wo, (rs.length : Nat), x, rfl, KnA.all.mp hk x (List.mem_of_getElem? ex), fun h1 x1 => ?_⟩⟩⟩
    unfold worldBad at q1 q2
    refine ifB (c := !areSteps wo (rs.length : Nat) x) (fun c => ?_) (fun c => ?_)
    · have c' : areSteps wo (rs.length : Nat) x = false := by simpa using c
      rw [if_neg (by rw [c']; decide)] at q2
      exact ⟨by show 4 ≤ sizeLine; decide, q2 _ rfl h1 x1⟩
    · have c' : areSteps wo (rs.length : Nat) x = true := by simpa using c
      rw [if_pos c'] at q1 q2
      exact d3 n (i + 1) _ h1 (by omega) (KnA.ex x1.b hk) (fun e o6 h' x' => q1 e o6 h' (x1.trans x')) fun p e h' x' => q2 p e h' (x1.trans x')
theorem d2 {a : Addr} {nw wo : Int} {rs ys : List D} {s : Nat} {o7 : Option D} (hs : atI rs (s : Nat) = some (.tup ys)) (n0 : 0 ≤ nw) (n5 : nw ≤ 5) : ∀ (n i : Nat) (o4 o5 o6 : Option D) (h : HD), i + n = ys.length → KnA a N30 h ys →
    (questBad nw wo (rs.length : Nat) s i (ys.drop i) = none → ∀ o4 o5 o6 h', Ex h h' → Z.nx [some (.int nw), some (.int wo), some (.tup rs), some (.int s), o4, o5, o6, o7] h') →
    (∀ p, questBad nw wo (rs.length : Nat) s i (ys.drop i) = some p → ∀ h', Ex h h' → Z.rt p h') →
    cLoop (fun _ => True) (cName 4) (b_l_due_2 P w K W) Z (rgF i n) [some (.int nw), some (.int wo), some (.tup rs), some (.int s), o4, o5, o6, o7] h
  | 0, i, o4, o5, o6, h, e, _, q1, _ => ⟨trivial, q1 (by rw [List.drop_eq_nil_of_le (by omega)]; rfl) o4 o5 o6 h (.refl h)⟩
  | n + 1, i, o4, o5, o6, h, e, hk, q1, q2 => by
    obtain ⟨x, ex, ed, ea⟩ := drop_get e
    rw [ed] at q1 q2
    have kx := KnA.all.mp hk x (List.mem_of_getElem? ex)
    obtain ⟨z, kz⟩ := kx.kd
    refine ⟨trivial, .inl ⟨.tup ys, hs, .inl ⟨x, ea, x, nw, nw, z, rfl, kz, ?_⟩⟩⟩
    rw [szd_tup]
    have bad : tupN x nw = false → questBad nw wo (rs.length : Nat) s i (x :: ys.drop (i + 1)) = some (partD s i (-1)) := fun c => by
      unfold questBad
      cases x with
      | tup zs => exact if_neg (by rw [show decide ((zs.length : Int) = nw) = false from c]; decide)
      | _ => rfl
    refine ifB (c := !tupN x nw) (fun c => ?_) (fun c => ?_)
    · exact ⟨by show 4 ≤ sizeLine; decide, q2 _ (bad (by simpa using c)) h (.refl h)⟩
    · have c' : tupN x nw = true := by simpa using c
      cases x with
      | tup zs =>
        have lz : (zs.length : Int) = nw := of_decide_eq_true c'
        have e1 : questBad nw wo (rs.length : Nat) s i (.tup zs :: ys.drop (i + 1)) = (match worldBad wo (rs.length : Nat) s i 0 zs with
          | some p => some p
          | none => questBad nw wo (rs.length : Nat) s (i + 1) (ys.drop (i + 1))) := if_pos c'
        rw [e1] at q1 q2
        have go : cLoop (fun _ => True) (cName 6) (b_l_due_3 P w K W) { Z with nx := cLoop (fun _ => True) (cName 4) (b_l_due_2 P w K W) Z (rgF (i + 1) n), ct := cLoop (fun _ => True) (cName 4) (b_l_due_2 P w K W) Z (rgF (i + 1) n), bk := Z.nx } (rgD 0 nw.toNat) [some (.int nw), some (.int wo), some (.tup rs), some (.int s), some (.int i), some (.tup zs), o6, o7] h := by
          rw [rgD_eq]
          refine d3 (a := a) nw.toNat 0 o6 h (by omega) kx (fun e o6 h' x' => ?_) fun p e h' x' => ?_
          · rw [List.drop_zero] at e
            rw [e] at q1 q2
            exact d2 hs n0 n5 n (i + 1) _ _ o6 h' (by omega) (KnA.ex x'.b hk) (fun e2 o4 o5 o6 h2 x2 => q1 e2 o4 o5 o6 h2 (x'.trans x2)) fun p e2 h2 x2 => q2 p e2 h2 (x'.trans x2)
          · rw [List.drop_zero] at e
            rw [e] at q2
            exact q2 p rfl h' x'
        exact ⟨by omega, by omega, go⟩
      | _ => cases c'
theorem d1 {a : Addr} {nw wo : Int} {rs : List D} {o7 : Option D} (c : areRows (.tup rs) = true) (n0 : 0 ≤ nw) (n5 : nw ≤ 5) : ∀ (n i : Nat) (o3 o4 o5 o6 : Option D) (h : HD), i + n = rs.length → KnA a N30 h rs →
    (rowBad nw wo (rs.length : Nat) i (rs.drop i) = none → ∀ ρ h', Ex h h' → Z.nx ρ h') →
    (∀ p, rowBad nw wo (rs.length : Nat) i (rs.drop i) = some p → ∀ h', Ex h h' → Z.rt p h') →
    cLoop (fun _ => True) (cName 3) (b_l_due_1 P w K W) Z (rgF i n) [some (.int nw), some (.int wo), some (.tup rs), o3, o4, o5, o6, o7] h
  | 0, i, o3, o4, o5, o6, h, e, _, q1, _ => ⟨trivial, q1 (by rw [List.drop_eq_nil_of_le (by omega)]; rfl) _ h (.refl h)⟩
  | n + 1, i, o3, o4, o5, o6, h, e, hk, q1, q2 => by
    obtain ⟨x, ex, ed, ea⟩ := drop_get e
    rw [ed] at q1 q2
    obtain ⟨ys, rfl, l4, le⟩ := rows_tup c x (List.mem_of_getElem? ex)
    obtain ⟨r0, e0, _, a0⟩ := drop_get (xs := rs) (i := 0) (n := rs.length - 1) (by omega)
    obtain ⟨zs, rfl, _, lz⟩ := rows_tup c r0 (List.mem_of_getElem? e0)
    have kx : Kn a N30 h (.tup ys) := KnA.all.mp hk _ (List.mem_of_getElem? ex)
    have e1 : rowBad nw wo (rs.length : Nat) i (.tup ys :: rs.drop (i + 1)) = (match questBad nw wo (rs.length : Nat) i 0 ys with
      | some p => some p
      | none => rowBad nw wo (rs.length : Nat) (i + 1) (rs.drop (i + 1))) := rfl
    rw [e1] at q1 q2
    have go : cLoop (fun _ => True) (cName 4) (b_l_due_2 P w K W) { Z with nx := cLoop (fun _ => True) (cName 3) (b_l_due_1 P w K W) Z (rgF (i + 1) n), ct := cLoop (fun _ => True) (cName 3) (b_l_due_1 P w K W) Z (rgF (i + 1) n), bk := Z.nx } (rgD 0 ((zs.length : Int)).toNat) [some (.int nw), some (.int wo), some (.tup rs), some (.int i), o4, o5, o6, o7] h := by
      rw [rgD_eq]
      refine d2 (a := a) (s := i) ea n0 n5 _ 0 o4 o5 o6 h (by show 0 + ((zs.length : Int)).toNat = ys.length; omega) kx (fun e o4 o5 o6 h' x' => ?_) fun p e h' x' => ?_
      · rw [List.drop_zero] at e
        rw [e] at q1 q2
        exact d1 c n0 n5 n (i + 1) _ o4 o5 o6 h' (by omega) (KnA.ex x'.b hk) (fun e2 ρ h2 x2 => q1 e2 ρ h2 (x'.trans x2)) fun p e2 h2 x2 => q2 p e2 h2 (x'.trans x2)
      · rw [List.drop_zero] at e
        rw [e] at q2
        exact q2 p rfl h' x'
    exact ⟨trivial, .inl ⟨.tup zs, a0, .inl ⟨by omega, by omega, go⟩⟩⟩
theorem len6 {xs : List D} (c : szd (.tup xs) 1 6 = true) : 1 ≤ xs.length ∧ xs.length ≤ 6 := by
  have : (decide ((1 : Int) ≤ (xs.length : Int)) && decide ((xs.length : Int) ≤ 6)) = true := c
  simp at this
  omega
theorem p_l_due (ds : List D) (h : HD) (Q : DK) (E : XD) (hs : sp_l_due ds h Q E) : t_l_due P w K W { nx := fun _ h' => Q .non h', rt := Q } (startD N_l_due ds) h := by
  obtain ⟨a, nw, wo, rows, rfl, k1, k2, k3, q⟩ := hs
  obtain ⟨z1, kz1⟩ := k1.kd
  obtain ⟨z2, kz2⟩ := k2.kd
  obtain ⟨z3, kz3⟩ := k3.kd
  refine ⟨nw, 1, 5, z1, rfl, kz1, ifB (c := !inW nw 1 5) (fun c => ?_) (fun c => ?_)⟩
  · have := q h (.refl h)
    rw [due_w (by simpa using c)] at this
    exact ⟨by show 1 ≤ sizeLine; decide, this⟩
  have c1 : inW nw 1 5 = true := by simpa using c
  refine ⟨wo, 1, 6, z2, rfl, kz2, ifB (c := !inW wo 1 6) (fun c => ?_) (fun c => ?_)⟩
  · have := q h (.refl h)
    rw [due_o c1 (by simpa using c)] at this
    exact ⟨by show 1 ≤ sizeLine; decide, this⟩
  have c2 : inW wo 1 6 = true := by simpa using c
  have rowsBad : areRows rows = false → ∀ h', Ex h h' → Q (.tup [.str "rows"]) h' := fun e h' x => by
    have := q h' x
    rw [due_r c1 c2 e] at this
    exact this
  refine ⟨rows, 1, 6, z3, rfl, kz3, ifB (c := !szd rows 1 6) (fun c => ?_) (fun c => ?_)⟩
  · have c' : szd rows 1 6 = false := by simpa using c
    refine ⟨by show 1 ≤ sizeLine; decide, rowsBad ?_ h (.refl h)⟩
    unfold areRows
    split
    · rw [c']; rfl
    · rfl
  have c3 : szd rows 1 6 = true := by simpa using c
  cases rows with
  | tup rs =>
    obtain ⟨l1, l6⟩ := len6 c3
    have hz : rs.length ≤ sizeLine := by rw [sizeLine_eq]; omega
    have ar : areRows (.tup rs) = ((rs.all fun r => szd r 1 4) && rs.all fun r => decide (lenT r = lenT (rs.headD .non))) := by
      show (szd (.tup rs) 1 6 && (rs.all fun r => szd r 1 4) && rs.all fun r => decide (lenT r = lenT (rs.headD .non))) = _
      rw [c3, Bool.true_and]
    refine .inl ⟨hz, map_loop (fun r => D.bl (szd r 1 4)) trivial rs [] (fun r hr k kk => ?_) fun p np => ?_⟩
    · obtain ⟨zr, kr⟩ := (KnA.all.mp k3 r hr).kd
      exact ⟨r, 1, 4, zr, rfl, kr, kk⟩
    have x1 : Ex h (updD h p (.lst ([] ++ rs.map fun r => D.bl (szd r 1 4)))) := .new np
    refine ⟨rs.map fun r => szd r 1 4, by rw [updD_same, map_bl], ?_⟩
    refine ifB (c := !((rs.map fun r => szd r 1 4).all id)) (fun c => ?_) (fun c => ?_)
    · have c4 : (rs.all fun r => szd r 1 4) = false := by rw [← all_id]; simpa using c
      exact ⟨by show 1 ≤ sizeLine; decide, rowsBad (by rw [ar, c4]; rfl) _ x1⟩
    have c4 : (rs.all fun r => szd r 1 4) = true := by rw [← all_id]; simpa using c
    refine .inl ⟨hz, map_loop (fun r => D.bl (!decide (lenT r = lenT (rs.headD .non)))) trivial rs [] (fun r hr k kk => ?_) fun p2 np2 => ?_⟩
    · obtain ⟨ys, rfl⟩ := lenA (List.all_eq_true.mp c4 r hr)
      obtain ⟨r0, e0, _, a0⟩ := drop_get (xs := rs) (i := 0) (n := rs.length - 1) (by omega)
      obtain ⟨y0, rfl⟩ := lenA (List.all_eq_true.mp c4 r0 (List.mem_of_getElem? e0))
      refine .inl (.inl ⟨.tup y0, a0, .inl ⟨shp_int _, shp_int _, ?_⟩⟩)
      have hd : rs.headD .non = .tup y0 := by
        cases rs with
        | nil => cases e0
        | cons u us => cases e0; rfl
      show k (.bl (!eqD (.int ((ys.length : Nat) : Int)) (.int ((y0.length : Nat) : Int)))) _
      rw [eqD_int]
      have : decide ((ys.length : Int) = (y0.length : Int)) = decide (lenT (.tup ys) = lenT (rs.headD .non)) := by
        rw [hd]
        exact decide_eq_decide.mpr (by show (ys.length : Int) = (y0.length : Int) ↔ ys.length = y0.length; omega)
      rw [this]
      exact kk
    have x2 := x1.new' (o := .lst ([] ++ rs.map fun r => D.bl (!decide (lenT r = lenT (rs.headD .non))))) np2
    refine ⟨rs.map fun r => !decide (lenT r = lenT (rs.headD .non)), by rw [updD_same, map_bl], ?_⟩
    have ea : ((rs.map fun r => !decide (lenT r = lenT (rs.headD .non))).any id) = !(rs.all fun r => decide (lenT r = lenT (rs.headD .non))) := by
      rw [any_id, List.not_all_eq_any_not]
    refine ifB (c := (rs.map fun r => !decide (lenT r = lenT (rs.headD .non))).any id) (fun c => ?_) (fun c => ?_)
    · rw [ea] at c
      exact ⟨by show 1 ≤ sizeLine; decide, rowsBad (by rw [ar, c4, Bool.true_and]; simpa using c) _ x2⟩
    · rw [ea] at c
      have c5 : areRows (.tup rs) = true := by rw [ar, c4, Bool.true_and]; simpa using c
      obtain ⟨n, rfl, n1, n5⟩ := inW_int c1
      obtain ⟨m, rfl, _⟩ := inW_int c2
      have dk := due_k (n := n) (m := m) c1 c2 c5
      have go : cLoop (fun _ => True) (cName 3) (b_l_due_1 P w K W) { nx := cRet (cC .non) { nx := fun _ h' => Q .non h', rt := Q }, rt := Q } (rgD 0 ((rs.length : Int)).toNat) [some (.int n), some (.int m), some (.tup rs), none, none, none, none, none] (updD (updD h p (.lst ([] ++ rs.map fun r => D.bl (szd r 1 4)))) p2 (.lst ([] ++ rs.map fun r => D.bl (!decide (lenT r = lenT (rs.headD .non)))))) := by
        rw [rgD_eq]
        refine d1 (a := a) c5 (by omega) n5 _ 0 none none none none _ (by show 0 + ((rs.length : Int)).toNat = rs.length; omega) (KnA.ex x2.b k3) (fun e ρ h' x' => ?_) fun p e h' x' => ?_
        · rw [List.drop_zero] at e
          have := q h' (x2.trans x')
          rw [dk, e] at this
          exact this
        · rw [List.drop_zero] at e
          have := q h' (x2.trans x')
          rw [dk, e] at this
          exact this
      exact .inl ⟨by omega, by omega, go⟩
  | _ => cases c3
end
end K63

-- K63O
set_option Elab.async false
set_option linter.all false
set_option maxRecDepth 100000
set_option maxHeartbeats 4000000
/-! K63O: the drawing of odd things. -/
namespace K63
open PySem PySem.Spec PyProof.Rows L2 PD
section
variable {P : Program} {w : World} {K : PySem.W.Frag} {W : En → XD} {h : HD} {Q : DK} {Z : DE} {E : XD}
theorem ne_fresh {h : HD} {a p : Addr} (ha : h a ≠ none) (np : h p = none) : p ≠ a := fun z => ha (z ▸ np)
theorem Kn.fresh {a p : Addr} {N : Int} {h : HD} (np : h p = none) (ha : h a ≠ none) (xs : List D) : Kn a N (updD h p (.lst xs)) (.ref p) := ⟨ne_fresh ha np, .inl ⟨xs, updD_same⟩⟩
theorem upd_some {h : HD} {a p : Addr} {o : OB} (np : h p = none) (ha : h a ≠ none) : updD h p o a ≠ none := by
  rw [updD_ne (Ne.symm (ne_fresh ha np))]; exact ha
theorem ExB.hand {a : Addr} {b : Nat} {h h' : HD} (H : Hand h a b) (x : Ex h h') : Hand h' a b := H.ex x
theorem draw_ok {a : Addr} {b : Nat} {m : Int} {h : HD} {Q : DK} (H : Hand h a b) (hb : b ≤ 10 ^ 15) (m0 : 0 < m) (m1 : m < 1000) (q : ∀ h' i, ExB a h h' → Hand h' a (b + 1) → 0 ≤ i → i < m → Q (.int i) h') : sp_l_draw [.ref a, .int m] h Q noX :=
  ⟨a, b, m, rfl, H, hb, m0, by
    have := few_small (i := m) (by omega) 10 (by have := p10; omega) (by decide)
    omega, q⟩
theorem any_lst {a p : Addr} {b : Nat} {xs : List D} {h : HD} {Q : DK} (H : Hand h a b) (hb : b ≤ 10 ^ 15) (np : h p = none) (ne : xs ≠ []) (hl : xs.length ≤ 1000) (q : ∀ h' y, ExB a h h' → Hand h' a (b + 1) → y ∈ xs → Q y h') : sp_l_any [.ref a, .ref p] (updD h p (.lst xs)) Q noX := by
  have x1 : Ex h (updD h p (.lst xs)) := .new np
  exact ⟨a, b, .ref p, xs, rfl, H.ex x1, hb, ne, hl, .inr ⟨p, rfl, ne_fresh H.ne np, updD_same⟩, fun h' y x2 H2 hy => q h' y (x1.b.trans x2) H2 hy⟩
theorem deep_loop {a : Addr} : ∀ (n i : Nat) (b : Nat) (x : D) (o : Option D) (h : HD), Hand h a b → b + n ≤ 10 ^ 15 → Kn a 100 h x → (∀ h' x o, ExB a h h' → Hand h' a (b + n) → Kn a 100 h' x → Z.nx [some (.ref a), some x, o] h') →
    cLoop (fun _ => True) (cName 2) (b_l_deep_1 P w K W) Z (rgF i n) [some (.ref a), some x, o] h
  | 0, i, b, x, o, h, H, hb, hk, q => ⟨trivial, q h x o (.refl a h) H hk⟩
  | n + 1, i, b, x, o, h, H, hb, hk, q => by
    refine ⟨trivial, by show 1 ≤ sizeLine; decide, fun p1 np1 => ⟨by show 1 ≤ sizeLine; decide, fun p2 np2 => ⟨by show 3 ≤ sizeLine; decide, fun p3 np3 => ?_⟩⟩⟩
    have ha := H.ne
    have x1 : Ex h (updD h p1 (.lst [x])) := .new np1
    have x2 := x1.new' (o := .dK [(.inl 0, x)]) np2
    have x3 := x2.new' (o := .lst [.ref p1, .tup [x], .ref p2]) np3
    have a1 := upd_some (o := .lst [x]) np1 ha
    have a2 := upd_some (o := .dK [(.inl 0, x)]) np2 a1
    have n1 : p1 ≠ a := ne_fresh ha np1
    have n2 : p2 ≠ a := ne_fresh a1 np2
    have n3 : p3 ≠ a := ne_fresh a2 np3
    have e1 : updD (updD (updD h p1 (.lst [x])) p2 (.dK [(.inl 0, x)])) p3 (.lst [.ref p1, .tup [x], .ref p2]) p1 = some (.lst [x]) := (Ex.new np3) _ _ ((Ex.new np2) _ _ updD_same)
    have e2 : updD (updD (updD h p1 (.lst [x])) p2 (.dK [(.inl 0, x)])) p3 (.lst [.ref p1, .tup [x], .ref p2]) p2 = some (.dK [(.inl 0, x)]) := (Ex.new np3) _ _ updD_same
    refine ⟨a, b, 3, rfl, H.ex x3, by omega, by decide, by decide, fun h' j xb Hh j0 j3 => ?_⟩
    have xx : ExB a h h' := x3.b.trans xb
    have fin : ∀ y, Kn a 100 h' y → cLoop (fun _ => True) (cName 2) (b_l_deep_1 P w K W) Z (rgF (i + 1) n) [some (.ref a), some y, some (.int (i : Nat))] h' := fun y ky =>
      deep_loop n (i + 1) (b + 1) y _ h' Hh (by omega) ky fun h2 x o xb2 H2 k2 => q h2 x o (xx.trans xb2) (H2.le (by omega)) k2
    have el : h' p3 = some (.lst [.ref p1, .tup [x], .ref p2]) := xb p3 _ n3 updD_same
    rcases (show j = 0 ∨ j = 1 ∨ j = 2 by omega) with rfl | rfl | rfl
    · exact .inl ⟨_, _, el, rfl, fin _ ⟨n1, .inl ⟨_, xb p1 _ n1 e1⟩⟩⟩
    · exact .inl ⟨_, _, el, rfl, fin _ ⟨Kn.ex xx hk, trivial⟩⟩
    · exact .inl ⟨_, _, el, rfl, fin _ ⟨n2, .inr ⟨_, xb p2 _ n2 e2⟩⟩⟩
theorem p_l_deep (ds : List D) (h : HD) (Q : DK) (E : XD) (hs : sp_l_deep ds h Q E) : t_l_deep P w K W { nx := fun _ h' => Q .non h', rt := Q } (startD N_l_deep ds) h := by
  obtain ⟨a, b, rfl, H, hb, q⟩ := hs
  have h15 : (10 : Nat) ^ 15 = 1000000000000000 := by decide
  have h12 : (10 : Nat) ^ 12 = 1000000000000 := by decide
  have h13 : (10 : Nat) ^ 13 = 10000000000000 := by decide
  have h14 : (10 : Nat) ^ 14 = 100000000000000 := by decide
  refine ⟨by show 0 ≤ sizeLine; decide, by show 3 ≤ sizeLine; decide, fun p np => ?_⟩
  refine any_lst H (by omega) np (by simp) (by decide) fun h1 y x1 H1 hy => ?_
  have ky : Kn a 100 h1 y := by
    rcases List.mem_cons.mp hy with rfl | hy
    · exact trivial
    rcases List.mem_cons.mp hy with rfl | hy
    · exact trivial
    rcases List.mem_cons.mp hy with rfl | hy
    · exact ⟨by decide, by decide⟩
    · cases hy
  refine ⟨a, b + 1, 12, rfl, H1, by omega, by decide, by decide, fun h2 i x2 H2 i0 i1 => ?_⟩
  refine ⟨by omega, by omega, ?_⟩
  rw [rgD_eq]
  refine deep_loop _ 0 _ y none h2 H2 (by omega) (Kn.ex x2 ky) fun h3 x o x3 H3 k3 => ?_
  exact q h3 x ((x1.trans x2).trans x3) (H3.le (by omega)) k3
theorem e29 : (10 : Int) ^ (29 : Int).toNat = 10 ^ 29 := by decide
theorem p_l_odd (ds : List D) (h : HD) (Q : DK) (E : XD) (hs : sp_l_odd ds h Q E) : t_l_odd P w K W { nx := fun _ h' => Q .non h', rt := Q } (startD N_l_odd ds) h := by
  obtain ⟨a, b, rfl, H, hb, q⟩ := hs
  have h15 : (10 : Nat) ^ 15 = 1000000000000000 := by decide
  have h12 : (10 : Nat) ^ 12 = 1000000000000 := by decide
  have h13 : (10 : Nat) ^ 13 = 10000000000000 := by decide
  have h14 : (10 : Nat) ^ 14 = 100000000000000 := by decide
  refine ⟨by show 0 ≤ sizeLine; decide, fun p1 np1 p2 np2 => ⟨by show 0 ≤ sizeLine; decide, by show 1 ≤ sizeLine; decide, by show 0 ≤ sizeLine; decide, by show 1 ≤ sizeLine; decide, ⟨by decide, by decide, by decide⟩, ?_⟩⟩
  have ha := H.ne
  have x1 : Ex h (updD h p1 (.lst [])) := .new np1
  have x2 := x1.new' (o := .dK []) np2
  have n1 : p1 ≠ a := ne_fresh ha np1
  have n2 : p2 ≠ a := ne_fresh (upd_some np1 ha) np2
  refine ⟨a, b, rfl, H.ex x2, by omega, fun h1 y xb H1 ky => ⟨by show 12 ≤ sizeLine; decide, fun p3 np3 => ?_⟩⟩
  refine any_lst H1 (by omega) np3 (by simp) (by show 12 ≤ 1000; decide) fun h2 u x3 H2 hu => ?_
  refine q h2 u ((x2.b.trans xb).trans x3) (H2.le (by omega)) ?_
  have big : (100 : Int) ≤ 10 ^ 29 := by decide
  have all : ∀ u ∈ ([.non, .int 0, .int (-1), .bl true, .str "0", .ref p1, .ref p2, .tup [], .tup [.int 0], .tup [.tup []], .int ((10 : Int) ^ (29 : Int).toNat), y] : List D), Kn a (10 ^ 29) h2 u := by
    refine KnA.all.mp ⟨trivial, ⟨by decide, by decide⟩, ⟨by decide, by decide⟩, trivial, trivial, ?_, ?_, trivial, ⟨⟨by decide, by decide⟩, trivial⟩, ⟨trivial, trivial⟩, ?_, ?_, trivial⟩
    · exact ⟨n1, .inl ⟨[], x3 p1 _ n1 (xb p1 _ n1 ((Ex.new np2) _ _ updD_same))⟩⟩
    · exact ⟨n2, .inr ⟨[], x3 p2 _ n2 (xb p2 _ n2 updD_same)⟩⟩
    · rw [e29]; exact ⟨by decide, by decide⟩
    · exact Kn.ex x3 (Kn.le big ky)
  exact all u hu
end
end K63

-- K63Q
set_option Elab.async false
set_option linter.all false
set_option maxRecDepth 100000
set_option maxHeartbeats 4000000
/-! K63Q: putting; steps drawn, rows drawn. -/
namespace K63
open PySem PySem.Spec PyProof.Rows L2 PD
section
variable {P : Program} {w : World} {K : PySem.W.Frag} {W : En → XD} {h : HD} {Q : DK} {Z : DE} {E : XD}
theorem sIx_nat (n d i : Nat) : HT.sIx n d (some ((i : Nat) : Int)) = min i n := by
  unfold HT.sIx
  simp
  try omega
theorem cut_lo (xs : List D) (i : Nat) : PD.cutD xs none (some ((i : Nat) : Int)) = xs.take i := by
  unfold PD.cutD
  rw [sIx_nat, show HT.sIx xs.length 0 none = 0 from rfl, List.drop_zero, Nat.sub_zero]
  by_cases c : i ≤ xs.length
  · rw [Nat.min_eq_left c]
  · rw [Nat.min_eq_right (by omega), List.take_length, List.take_of_length_le (by omega)]
theorem cut_hi (xs : List D) (i : Nat) : PD.cutD xs (some ((i : Nat) : Int)) none = xs.drop i := by
  unfold PD.cutD
  rw [sIx_nat, show HT.sIx xs.length xs.length none = xs.length from rfl]
  by_cases c : i ≤ xs.length
  · rw [Nat.min_eq_left c, List.take_of_length_le (by rw [List.length_drop]; omega)]
  · rw [Nat.min_eq_right (by omega), List.drop_length, List.take_nil, List.drop_eq_nil_of_le (by omega)]
theorem getD_get {xs : List D} {i : Nat} (hi : i < xs.length) : xs.getD i .non = xs[i] := by
  simp [List.getD, List.getElem?_eq_getElem hi]
theorem p_l_put (n : Nat) (ds : List D) (h : HD) (Q : DK) (E : XD) (hs : sp_l_put (n + 1) ds h Q E) : t_l_put P w K n W { nx := fun _ h' => Q .non h', rt := Q } (startD N_l_put ds) h := by
  obtain ⟨x, p, y, rfl, hl, hp, q⟩ := hs
  refine .inl ⟨shp_int _, shp_int _, ?_⟩
  show (fun k h1 => _) (eqD (.int ((p.map fun i => D.int (i : Nat)).length : Nat)) (.int 0)) h
  rw [eqD_int, List.length_map]
  cases p with
  | nil => exact ifT rfl q
  | cons i p =>
    refine ifF (by simp; omega) ?_
    cases x with
    | tup xs =>
      obtain ⟨hi, h100, hp⟩ := hp
      have e0 : atI ((i :: p).map fun i => D.int (i : Nat)) 0 = some (.int (i : Nat)) := atI_nat (j := 0) rfl
      have ex : xs[i]? = some (xs.getD i .non) := by rw [List.getElem?_eq_getElem hi, getD_get hi]
      refine .inl ⟨_, e0, ?_⟩
      refine .inl ⟨_, e0, .inl ⟨xs.getD i .non, atI_nat ex, ?_⟩⟩
      have e1 : PD.cutD ((i :: p).map fun i => D.int (i : Nat)) (some 1) none = p.map fun i => D.int (i : Nat) := cut_hi _ 1
      refine ⟨xs.getD i .non, p, y, by rw [e1], by rw [List.length_cons] at hl; omega, hp, ?_⟩
      refine ⟨by show 1 ≤ sizeLine; decide, ?_⟩
      rw [cut_lo]
      refine ⟨by rw [List.length_take, sizeLine_eq]; show min i xs.length + 1 ≤ _; omega, .inl ⟨_, e0, ?_⟩⟩
      show cAdd (.tup (xs.take i ++ [putD2 (xs.getD i .non) p y])) (.tup (PD.cutD xs (some (((i : Nat) : Int) + 1)) none)) h Q
      rw [show (((i : Nat) : Int) + 1) = ((i + 1 : Nat) : Int) by omega, cut_hi]
      refine ⟨by rw [List.length_append, List.length_take, List.length_drop, sizeLine_eq]; show min i xs.length + 1 + _ ≤ _; omega, ?_⟩
      have : xs.take i ++ [putD2 (xs.getD i .non) p y] ++ xs.drop (i + 1) = xs.set i (putD2 (xs.getD i .non) p y) := by
        rw [List.set_eq_take_append_cons_drop, if_pos hi, List.append_assoc, List.singleton_append]
      rw [this]
      exact q
    | _ => exact hp.elim
theorem Kn.set {a : Addr} {N : Int} {h : HD} {xs : List D} {y : D} {i : Nat} (k : KnA a N h xs) (ky : Kn a N h y) : KnA a N h (xs.set i y) := KnA.all.mpr fun x hx => by
  rcases List.mem_or_eq_of_mem_set hx with m | rfl
  · exact KnA.all.mp k x m
  · exact ky
theorem Kn.put {a : Addr} {N : Int} {h : HD} {y : D} (ky : Kn a N h y) : ∀ (p : List Nat) (x : D), Kn a N h x → pathOk x p → Kn a N h (putD2 x p y)
  | [], x, _, _ => by cases x <;> exact ky
  | i :: p, .tup xs, kx, ⟨hi, _, hp⟩ => by
    show KnA a N h (xs.set i (putD2 (xs.getD i .non) p y))
    refine Kn.set kx (Kn.put ky p _ ?_ hp)
    rw [getD_get hi]
    exact KnA.all.mp kx _ (List.getElem_mem hi)
  | _ :: _, .non, _, h => h.elim
  | _ :: _, .bl _, _, h => h.elim
  | _ :: _, .int _, _, h => h.elim
  | _ :: _, .str _, _, h => h.elim
  | _ :: _, .fl _, _, h => h.elim
  | _ :: _, .ref _, _, h => h.elim
  | _ :: _, .ty _, _, h => h.elim
end
end K63

-- K63P
set_option Elab.async false
set_option linter.all false
set_option maxRecDepth 100000
set_option maxHeartbeats 4000000
/-! K63P: the drawing of the steps of a row. -/
namespace K63
open PySem PySem.Spec PyProof.Rows L2 PD
/-- a word and a standing -/
def kp (x : D) : Prop := ∃ i j : Int, x = .tup [.int i, .int j] ∧ 0 ≤ i ∧ i ≤ 10 ∧ 0 ≤ j ∧ j ≤ 10
theorem kp.ky {x : D} (k : kp x) : kyT x = true ∧ (nk x).depth ≤ 8 := by
  obtain ⟨i, j, rfl, _⟩ := k
  exact ⟨rfl, by show (NestedKey.tup [.num i, .num j]).depth ≤ 8; simp [NestedKey.depth, NestedKey.depthAll]⟩
theorem rgF_len : ∀ n i : Nat, (rgF i n).length = n
  | 0, _ => rfl
  | n + 1, i => by show (rgF (i + 1) n).length + 1 = n + 1; rw [rgF_len n]
theorem rgF_mem {x : D} : ∀ {n i : Nat}, x ∈ rgF i n → ∃ j : Nat, x = .int (j : Nat) ∧ i ≤ j ∧ j < i + n
  | 0, _, h => by cases h
  | n + 1, i, h => by
    rcases List.mem_cons.mp h with rfl | h
    · exact ⟨i, rfl, by omega, by omega⟩
    · obtain ⟨j, e, a, b⟩ := rgF_mem h
      exact ⟨j, e, by omega, by omega⟩
/-- counts by pairs -/
def KV (M : Int) (kvs : List (D × D)) : Prop := ∀ p ∈ kvs, kp p.1 ∧ ∃ v : Int, p.2 = .int v ∧ 1 ≤ v ∧ v ≤ M
theorem KV.le {M N : Int} {kvs : List (D × D)} (k : KV M kvs) (h : M ≤ N) : KV N kvs := fun p hp => by
  obtain ⟨a, v, e, x, y⟩ := k p hp
  exact ⟨a, v, e, x, by omega⟩
theorem KV.put {M : Int} {kvs : List (D × D)} {y : D} {v : Int} (k : KV M kvs) (hy : kp y) (v0 : 1 ≤ v) (v1 : v ≤ M) : KV M (putK' kvs y (.int v)) := by
  unfold putK'
  split
  · intro p hp
    obtain ⟨q, hq, rfl⟩ := List.mem_map.mp hp
    split
    · exact ⟨(k q hq).1, v, rfl, v0, v1⟩
    · exact k q hq
  · intro p hp
    rcases List.mem_append.mp hp with hp | hp
    · exact k p hp
    · rcases List.mem_cons.mp hp with rfl | hp
      · exact ⟨hy, v, rfl, v0, v1⟩
      · cases hp
theorem put_len {kvs : List (D × D)} {y z : D} : (putK' kvs y z).length ≤ kvs.length + 1 ∧ putK' kvs y z ≠ [] := by
  unfold putK'
  split
  · rename_i e
    refine ⟨by simp, fun z => ?_⟩
    have : kvs = [] := by simpa using z
    rw [this] at e
    cases e
  · exact ⟨by simp, by simp⟩
theorem valD_mem {kvs : List (D × D)} {y d : D} (e : valD kvs y = some d) : ∃ p ∈ kvs, p.2 = d := by
  unfold valD at e
  cases q : kvs.find? fun p => keq p.1 y with
  | none => rw [q] at e; cases e
  | some p =>
    rw [q] at e
    exact ⟨p, List.mem_of_find?_eq_some q, by simpa using e⟩
theorem KV.get {M : Int} {kvs : List (D × D)} {y : D} (k : KV M kvs) (M0 : 0 ≤ M) : ∃ v : Int, (valD kvs y).getD (.int 0) = .int v ∧ 0 ≤ v ∧ v ≤ M := by
  cases e : valD kvs y with
  | none => exact ⟨0, rfl, by omega, M0⟩
  | some d =>
    obtain ⟨p, hp, rfl⟩ := valD_mem e
    obtain ⟨_, v, e2, a, b⟩ := k p hp
    exact ⟨v, e2, by omega, b⟩
def vN (kvs : List (D × D)) (x : D) : Int := match valD kvs x with
  | some (.int i) => i
  | _ => 0
theorem KV.at {M : Int} {kvs : List (D × D)} {x : D} (k : KV M kvs) (hx : x ∈ kvs.map (·.1)) : kp x ∧ valD kvs x = some (.int (vN kvs x)) ∧ 1 ≤ vN kvs x ∧ vN kvs x ≤ M := by
  obtain ⟨p, hp, rfl⟩ := List.mem_map.mp hx
  cases e : valD kvs p.1 with
  | none =>
    unfold valD at e
    have e2 : (kvs.find? fun q => keq q.1 p.1) = none := by simpa using e
    exact absurd (keq_iff.mpr rfl : keq p.1 p.1 = true) (by have := List.find?_eq_none.mp e2 p hp; simpa using this)
  | some d =>
    obtain ⟨q, hq, rfl⟩ := valD_mem e
    obtain ⟨_, v, e2, a, b⟩ := k q hq
    have ev : vN kvs p.1 = v := by unfold vN; rw [e, e2]
    rw [ev]
    exact ⟨(k p hp).1, by rw [e2], a, b⟩
theorem sum_bd : ∀ (ns : List Int) (M : Int), (∀ x ∈ ns, 1 ≤ x ∧ x ≤ M) → (ns.length : Int) ≤ ns.sum ∧ ns.sum ≤ M * (ns.length : Int)
  | [], M, _ => by simp
  | x :: xs, M, h => by
    have ih := sum_bd xs M fun y hy => h y (List.mem_cons_of_mem _ hy)
    have hx := h x List.mem_cons_self
    rw [List.sum_cons, List.length_cons]
    push_cast
    rw [Int.mul_add]
    omega
theorem red_bd {v b M : Int} (v0 : 0 ≤ v) (v1 : v ≤ M) (b0 : 0 ≤ b) (b1 : b ≤ M) : 0 ≤ (redI v b).1 ∧ (redI v b).1 ≤ M ∧ 0 ≤ (redI v b).2 ∧ (redI v b).2 ≤ M := by
  have g0 : 0 ≤ gcdI v b := Int.natCast_nonneg _
  have q1 := Int.ediv_le_self (gcdI v b) v0
  have q2 := Int.ediv_le_self (gcdI v b) b0
  exact ⟨Int.ediv_nonneg v0 g0, by show v / gcdI v b ≤ M; omega, Int.ediv_nonneg b0 g0, by show b / gcdI v b ≤ M; omega⟩
theorem _root_.PD.ExB.upd {a p : Addr} {h h' : HD} {o : OB} (np : h p = none) (x : ExB a h h') : ExB a h (updD h' p o) := ⟨fun b u n e => by
  rw [updD_ne (fun z => by rw [z, np] at e; cases e)]; exact x b u n e, fun d ds e => by
  rw [updD_ne (fun z => by rw [z, np] at e; cases e)]; exact x.head d ds e⟩
/-- a thing that did not stand when the hand did is not of the hand -/
theorem _root_.PD.Hand.put {a p : Addr} {b b' : Nat} {h h' : HD} {o : OB} (H : Hand h a b) (np : h p = none) (x : ExB a h h') (H' : Hand h' a b') : Hand (updD h' p o) a b' := by
  obtain ⟨c, ns, i, g, st, n, e1, e2, r⟩ := H
  obtain ⟨c', ns', i', g', st', n', e1', e2', r'⟩ := H'
  obtain ⟨ds, e3⟩ := x.head _ _ e1
  have : c' = c := by
    have z := e1'.symm.trans e3
    cases z
    rfl
  subst this
  refine ⟨c', ns', i', g', st', n', ?_, ?_, r'⟩
  · rw [updD_ne (fun z => by rw [z, np] at e1; cases e1)]; exact e1'
  · rw [updD_ne (fun z => by rw [z, np] at e2; cases e2)]; exact e2'
theorem _root_.PD.Hand.upd {a p : Addr} {b : Nat} {h : HD} {o : OB} (H : Hand h a b) (ho : ∀ xs, h p ≠ some (.lst xs)) : Hand (updD h p o) a b := by
  obtain ⟨c, ns, i, g, st, n, e1, e2, r⟩ := H
  refine ⟨c, ns, i, g, st, n, ?_, ?_, r⟩
  · rw [updD_ne (fun z => ho _ (z ▸ e1))]; exact e1
  · rw [updD_ne (fun z => ho _ (z ▸ e2))]; exact e2
theorem _root_.PD.isDN.nl {P : Program} {w : World} {h : HD} {p : Addr} {kvs : List (D × D)} (e : isDN P w h p kvs) : ∀ xs, h p ≠ some (.lst xs) := by
  intro xs
  rcases e with e | ⟨o, ys, e⟩ <;> rw [e] <;> simp
theorem _root_.PD.isDN.exb {P : Program} {w : World} {h h' : HD} {a p : Addr} {kvs : List (D × D)} (e : isDN P w h p kvs) (n : p ≠ a) (x : ExB a h h') : isDN P w h' p kvs := by
  rcases e with e | ⟨o, ys, e⟩
  · exact .inl (x p _ n e)
  · exact .inr ⟨o, ys, x p _ n e⟩
section
variable {P : Program} {w : World} {K : PySem.W.Frag} {W : En → XD} {h : HD} {Q : DK} {Z : DE} {E : XD}
theorem steps_pairs {a d : Addr} {wo st : Int} (s0 : 0 < st) (s6 : st ≤ 7) : ∀ (n i : Nat) (p : Addr) (xs : List D) (o3 : Option D) (h : HD), h a ≠ none → p ≠ a → h p = some (.lst xs) → (∀ x ∈ xs, kp x) → xs.length ≤ 7 * i → i + n ≤ 7 → (0 < n ∨ xs ≠ []) →
    (∀ p xs o3 h', Ex h h' → p ≠ a → h' p = some (.lst xs) → (∀ x ∈ xs, kp x) → xs.length ≤ 49 → xs ≠ [] → Z.nx [some (.ref a), some (.int wo), some (.int st), o3, none, none, some (.ref p), some (.ref d), none, none] h') →
    cLoop (fun _ => True) (cName 3) (b_l_steps_1 P w K W) Z (rgF i n) [some (.ref a), some (.int wo), some (.int st), o3, none, none, some (.ref p), some (.ref d), none, none] h
  | 0, i, p, xs, o3, h, ha, np, e, k, l, b, ne, q => ⟨trivial, q p xs o3 h (.refl h) np e k (by omega) (ne.elim (fun z => absurd z (Nat.lt_irrefl 0)) id)⟩
  | n + 1, i, p, xs, o3, h, ha, np, e, k, l, b, ne, q => by
    have ln : (rgD 0 st.toNat).length ≤ sizeLine := by rw [rgD_eq, rgF_len, sizeLine_eq]; omega
    refine ⟨trivial, by omega, by omega, ln, map_loop (fun x => D.tup [.int (i : Nat), x]) trivial _ [] (fun x hx k kk => ⟨by show 2 ≤ sizeLine; decide, kk⟩) fun r nr => ?_⟩
    have x1 : Ex h (updD h r (.lst ([] ++ (rgD 0 st.toNat).map fun x => D.tup [.int (i : Nat), x]))) := .new nr
    have er : ([] ++ (rgD 0 st.toNat).map fun x => D.tup [.int (i : Nat), x]) = (rgF 0 st.toNat).map fun x => D.tup [.int (i : Nat), x] := by rw [rgD_eq, List.nil_append]
    have lr : ((rgF 0 st.toNat).map fun x => D.tup [.int (i : Nat), x]).length = st.toNat := by rw [List.length_map, rgF_len]
    rw [er] at x1
    rw [er]
    refine ⟨xs, _, x1 _ _ e, updD_same, by rw [lr, sizeLine_eq]; omega, fun s ns => ?_⟩
    have x2 := x1.new' (o := .lst (xs ++ (rgF 0 st.toNat).map fun x => D.tup [.int (i : Nat), x])) ns
    have hh : ∀ x ∈ xs ++ (rgF 0 st.toNat).map (fun x => D.tup [.int (i : Nat), x]), kp x := fun x hx => by
      rcases List.mem_append.mp hx with hx | hx
      · exact k x hx
      · obtain ⟨y, hy, rfl⟩ := List.mem_map.mp hx
        obtain ⟨j, rfl, _, j2⟩ := rgF_mem hy
        exact ⟨_, _, rfl, by omega, by omega, by omega, by omega⟩
    refine steps_pairs s0 s6 n (i + 1) s _ _ _ (upd_some ns (upd_some nr ha)) (ne_fresh (upd_some nr ha) ns) updD_same hh (by rw [List.length_append, lr]; omega) (by omega) (.inr fun z => ?_) fun p xs o3 h' x' => q p xs o3 h' (x2.trans x')
    have := congrArg List.length z
    rw [List.length_append, lr] at this
    simp at this
    omega
theorem steps_turns {a d p : Addr} {wo st : Int} {ps : List D} {o3 : Option D} (na : d ≠ a) (pa : p ≠ a) (pd : p ≠ d) (pk : ∀ x ∈ ps, kp x) (pl : ps.length ≤ 49) (pn : ps ≠ []) : ∀ (n : Nat) (i b : Nat) (kvs : List (D × D)) (o4 o8 : Option D) (h : HD), Hand h a b → b + n ≤ 10 ^ 15 → h p = some (.lst ps) → isDN P w h d kvs → KV (i : Nat) kvs → kvs.length ≤ i → i + n ≤ 5 → (0 < n ∨ kvs ≠ []) →
    (∀ kvs o4 o8 h', (∀ g, g d = none → ExB a g h → ExB a g h') → Hand h' a (b + n) → isDN P w h' d kvs → KV 5 kvs → kvs.length ≤ 5 → kvs ≠ [] → Z.nx [some (.ref a), some (.int wo), some (.int st), o3, o4, none, some (.ref p), some (.ref d), o8, none] h') →
    cLoop (fun _ => True) (cName 4) (b_l_steps_2 P w K W) Z (rgF i n) [some (.ref a), some (.int wo), some (.int st), o3, o4, none, some (.ref p), some (.ref d), o8, none] h
  | 0, i, b, kvs, o4, o8, h, H, hb, ep, ed, kv, l, bd, ne, q => ⟨trivial, q kvs o4 o8 h (fun _ _ x => x) H ed (kv.le (by omega)) (by omega) (ne.elim (fun z => absurd z (Nat.lt_irrefl 0)) id)⟩
  | n + 1, i, b, kvs, o4, o8, h, H, hb, ep, ed, kv, l, bd, ne, q => by
    refine ⟨trivial, a, b, .ref p, ps, rfl, H, by omega, pn, by omega, .inr ⟨p, rfl, pa, ep⟩, fun h1 y x1 H1 hy => ?_⟩
    have ky := pk y hy
    have ed1 := ed.exb na x1
    obtain ⟨v, ev, v0, v1⟩ := kv.get (y := y) (by omega)
    refine ⟨kvs, ed1, kvs, ed1, ky.ky.1, ky.ky.2, ?_⟩
    rw [ev]
    refine .inr ⟨kvs, ed1, ky.ky.1, ky.ky.2, by rw [sizeLine_eq]; omega, ?_⟩
    have pu := put_len (kvs := kvs) (y := y) (z := .int (v + 1))
    have ep2 : updD h1 d (.dN P w (putK' kvs y (.int (v + 1)))) p = some (.lst ps) := by rw [updD_ne pd]; exact x1 p _ pa ep
    refine steps_turns na pa pd pk pl pn n (i + 1) (b + 1) _ _ _ _ (H1.upd ed1.nl) (by omega) ep2 (.inl updD_same) ((kv.le (by omega)).put ky (by omega) (by omega)) (by omega) (by omega) (.inr pu.2) fun kvs o4 o8 h' g H' e' k' l' n' => q kvs o4 o8 h' (fun u nu x => g u nu ((x.trans x1).upd nu)) (H'.le (by omega)) e' k' l' n'
/-- the step of a pair -/
def stepD (kvs : List (D × D)) (V : Int) (x : D) : D := match x with
  | .tup [i, j] => .tup [i, prD2 (redI (vN kvs x) V), j]
  | _ => .non
theorem p_l_steps (ds : List D) (h : HD) (Q : DK) (E : XD) (hs : sp_l_steps ds h Q E) : t_l_steps P w K W { nx := fun _ h' => Q .non h', rt := Q } (startD N_l_steps ds) h := by
  obtain ⟨a, b, wo, st, rfl, H, hb, w0, w6, s0, s6, q⟩ := hs
  have h15 : (10 : Nat) ^ 15 = 1000000000000000 := by decide
  have h12 : (10 : Nat) ^ 12 = 1000000000000 := by decide
  have h13 : (10 : Nat) ^ 13 = 10000000000000 := by decide
  have h14 : (10 : Nat) ^ 14 = 100000000000000 := by decide
  refine ⟨by show 0 ≤ sizeLine; decide, fun p np d nd => ⟨by show 2 ≤ sizeLine; decide, rfl, ?_⟩⟩
  have ha := H.ne
  have x1 : Ex h (updD h p (.lst [])) := .new np
  have x2 := x1.new' (o := .dN P w []) nd
  have n1 : p ≠ a := ne_fresh ha np
  have n2 : d ≠ a := ne_fresh (upd_some np ha) nd
  have nd0 : h d = none := by
    by_cases z : d = p
    · rw [z, updD_same] at nd; cases nd
    · rw [updD_ne z] at nd; exact nd
  have ep : updD (updD h p (.lst [])) d (.dN P w []) p = some (.lst []) := (Ex.new nd) _ _ updD_same
  refine ⟨rfl, by show -(2 ^ 62) ≤ wo; omega, by show wo < 2 ^ 62; omega, ?_⟩
  rw [rgD_eq]
  refine steps_pairs s0 (by omega) wo.toNat 0 p [] none _ (upd_some nd (upd_some np ha)) n1 ep (fun x hx => by cases hx) (Nat.zero_le _) (by omega) (.inl (by omega)) fun p1 ps o3 h1 y1 pa e1 k1 l1 ne1 => ?_
  have ed : h1 d = some (.dN P w []) := y1 _ _ updD_same
  have pd : p1 ≠ d := fun z => by rw [z, ed] at e1; cases e1
  have H1 := (H.ex x2).ex y1
  refine ⟨a, b, 5, rfl, H1, by omega, by decide, by decide, fun h2 t x3 H2 t0 t1 => ?_⟩
  refine ⟨by omega, by omega, ?_⟩
  rw [rgD_eq]
  refine steps_turns n2 pa pd k1 l1 ne1 (1 + t).toNat 0 (b + 1) [] none none h2 H2 (by omega) (x3 _ _ pa e1) (.inl (x3 _ _ n2 ed)) (fun p hp => by cases hp) (Nat.zero_le _) (by omega) (.inl (by omega)) fun kvs o4 o8 h3 g H3 e3 k3 l3 n3 => ?_
  have x4 : ExB a h h3 := g h nd0 ((x2.trans y1).b.trans x3)
  have lk : (kvs.map (·.1)).length ≤ sizeLine := by rw [List.length_map, sizeLine_eq]; omega
  refine .inr ⟨kvs, e3, fun o xs => ⟨lk, map_loop (fun x => D.int (vN kvs x)) updD_same _ [] (fun x hx k kk => ?_) fun r nr => ?_⟩⟩
  · obtain ⟨kx, vx, _⟩ := k3.at hx
    exact .inr ⟨kvs, _, .inr ⟨o, xs, updD_same⟩, kx.ky.1, kx.ky.2, vx, kk⟩
  have hns : ∀ y ∈ (kvs.map (·.1)).map (vN kvs), 1 ≤ y ∧ y ≤ 5 := fun y hy => by
    obtain ⟨x, hx, rfl⟩ := List.mem_map.mp hy
    exact (k3.at hx).2.2
  have sb := sum_bd _ 5 hns
  have ll : ((kvs.map (·.1)).map (vN kvs)).length = kvs.length := by simp
  rw [ll] at sb
  have l0 : 0 < kvs.length := List.length_pos_iff.mpr n3
  refine ⟨(kvs.map (·.1)).map (vN kvs), by rw [updD_same]; simp, ?_⟩
  generalize hV : ((kvs.map (·.1)).map (vN kvs)).sum = V at sb
  have e4 : isDN P w (updD (updD h3 d (.lkN P w o xs kvs)) r (.lst ([] ++ (kvs.map (·.1)).map fun x => D.int (vN kvs x)))) d kvs := .inr ⟨o, xs, (Ex.new nr) _ _ updD_same⟩
  refine .inr ⟨kvs, e4, fun o' xs' => ⟨lk, map_loop (stepD kvs V) updD_same _ [] (fun x hx k kk => ?_) fun r2 nr2 => ?_⟩⟩
  · obtain ⟨kx, vx, v1, v2⟩ := k3.at hx
    obtain ⟨i, j, rfl, _⟩ := id kx
    have lv : V.natAbs.log2 < 9000 := by
      have := few_small (i := V) (by omega) 10 (by have := p10; omega) (by decide)
      omega
    exact .inl ⟨_, atI_nat (j := 0) rfl, .inr ⟨kvs, _, .inr ⟨o', xs', updD_same⟩, kx.ky.1, kx.ky.2, vx, ⟨_, V, rfl, by omega, lv, .inl ⟨_, atI_nat (j := 1) rfl, by show 3 ≤ sizeLine; decide, kk⟩⟩⟩⟩
  refine ⟨_, updD_same, ?_⟩
  rw [List.nil_append]
  have xf : ExB a h (updD (updD (updD (updD h3 d (.lkN P w o xs kvs)) r (.lst ([] ++ (kvs.map (·.1)).map fun x => D.int (vN kvs x)))) d (.lkN P w o' xs' kvs)) r2 (.lst ((kvs.map (·.1)).map (stepD kvs V)))) := by
    have z1 : ExB a h (updD h3 d (.lkN P w o xs kvs)) := x4.upd nd0
    have z2 := z1.trans (Ex.new (o := .lst ([] ++ (kvs.map (·.1)).map fun x => D.int (vN kvs x))) nr).b
    have z3 := z2.upd (o := .lkN P w o' xs' kvs) nd0
    exact z3.trans (Ex.new nr2).b
  have Hf : Hand (updD (updD (updD (updD h3 d (.lkN P w o xs kvs)) r (.lst ([] ++ (kvs.map (·.1)).map fun x => D.int (vN kvs x)))) d (.lkN P w o' xs' kvs)) r2 (.lst ((kvs.map (·.1)).map (stepD kvs V)))) a (b + 1 + (1 + t).toNat) :=
    Hand.ex (Hand.upd (Hand.ex (Hand.upd H3 e3.nl) (Ex.new nr)) e4.nl) (Ex.new nr2)
  refine q _ _ xf (Hf.le (by omega)) (by simpa using n3) (by simp; omega) (KnA.all.mpr fun y hy => ?_)
  obtain ⟨x, hx, rfl⟩ := List.mem_map.mp hy
  obtain ⟨kx, vx, v1, v2⟩ := k3.at hx
  obtain ⟨i, j, rfl, i0, i1, j0, j1⟩ := kx
  have rb := red_bd (v := vN kvs (.tup [.int i, .int j])) (b := V) (M := 100) (by omega) (by omega) (by omega) (by omega)
  exact ⟨⟨by omega, by omega⟩, ⟨⟨by omega, rb.2.1⟩, ⟨by omega, rb.2.2.2⟩, trivial⟩, ⟨by omega, by omega⟩, trivial⟩
end
end K63

-- K63R
set_option Elab.async false
set_option linter.all false
set_option maxRecDepth 100000
set_option maxHeartbeats 4000000
/-! K63R: the drawing of rows. -/
namespace K63
open PySem PySem.Spec PyProof.Rows L2 PD
theorem KnA.app {a : Addr} {N : Int} {h : HD} {xs ys : List D} (k : KnA a N h xs) (l : KnA a N h ys) : KnA a N h (xs ++ ys) := KnA.all.mpr fun x hx => by
  rcases List.mem_append.mp hx with hx | hx
  · exact KnA.all.mp k x hx
  · exact KnA.all.mp l x hx
theorem KnA.rep {a : Addr} {N : Int} {h : HD} {xs : List D} {n : Nat} (k : KnA a N h xs) : KnA a N h (List.replicate n xs).flatten := KnA.all.mpr fun x hx => by
  obtain ⟨l, hl, hx⟩ := List.mem_flatten.mp hx
  rw [(List.mem_replicate.mp hl).2] at hx
  exact KnA.all.mp k x hx
mutual
/-- a list was changed -/
theorem Kn.upd {a p : Addr} {N : Int} {h : HD} {ys zs : List D} (e : h p = some (.lst ys)) : ∀ {d : D}, Kn a N h d → Kn a N (updD h p (.lst zs)) d
  | .non, _ => trivial
  | .bl _, _ => trivial
  | .int _, k => k
  | .str _, _ => trivial
  | .tup xs, k => KnA.upd e (xs := xs) k
  | .fl _, _ => trivial
  | .ref b, k => by
    obtain ⟨n, q⟩ := k
    by_cases z : b = p
    · rw [z] at n ⊢
      exact ⟨n, .inl ⟨zs, updD_same⟩⟩
    · exact ⟨n, by rw [updD_ne z]; exact q⟩
  | .ty _, k => k
theorem KnA.upd {a p : Addr} {N : Int} {h : HD} {ys zs : List D} (e : h p = some (.lst ys)) : ∀ {xs : List D}, KnA a N h xs → KnA a N (updD h p (.lst zs)) xs
  | [], _ => trivial
  | d :: xs, k => ⟨Kn.upd e k.1, KnA.upd e k.2⟩
end
section
variable {P : Program} {w : World} {K : PySem.W.Frag} {W : En → XD} {h : HD} {Q : DK} {Z : DE} {E : XD}
theorem rows_comp {a : Addr} {nw wo st : Int} {o3 o5 o6 o7 o8 o9 : Option D} (w0 : 0 < wo) (w6 : wo ≤ 6) (s0 : 0 < st) (s6 : st ≤ 6) : ∀ (n i b : Nat) (acc : List D) (h : HD), Hand h a b → b + 11 * n ≤ 10 ^ 14 → KnA a 100 h acc →
    (∀ p acc' h', ExB a h h' → Hand h' a (b + 11 * n) → KnA a 100 h' acc' → acc'.length = acc.length + n → h' p = none → Q (.ref p) (updD h' p (.lst acc'))) →
    cLcGo (fun _ => True) (.one 10) cYes (cFn sp_l_steps (fun _ => noX) (cCons (cVar 0) (cCons (cVar 2) (cCons (cVar 4) cNil)))) [some (.ref a), some (.int nw), some (.int wo), o3, some (.int st), o5, o6, o7, o8, o9, none] Q (rgF i n) acc h
  | 0, i, b, acc, h, H, hb, k, q => ⟨trivial, fun p np => q p acc h (.refl a h) H k rfl np⟩
  | n + 1, i, b, acc, h, H, hb, k, q => ⟨trivial, a, b, wo, st, rfl, H, by omega, w0, w6, s0, s6, fun h1 xs x1 H1 ne l12 kx =>
      rows_comp w0 w6 s0 s6 n (i + 1) (b + 11) (acc ++ [.tup xs]) h1 H1 (by omega) ((KnA.ex x1 k).app ⟨kx, trivial⟩) fun p acc' h' x' H' k' l' np => q p acc' h' (x1.trans x') (H'.le (by omega)) k' (by rw [l', List.length_append]; simp; omega) np⟩
theorem rows_in {a r7 : Addr} {h1 : HD} {b1 : Nat} {nw wo qs st : Int} {o5 o6 : Option D} (J : Hand h1 a b1) (n7 : h1 r7 = none) (v0 : 0 < nw) (v5 : nw ≤ 5) (w0 : 0 < wo) (w6 : wo ≤ 6) (s0 : 0 < st) (s6 : st ≤ 6) : ∀ (n i b : Nat) (xs : List D) (o8 o9 : Option D) (h : HD), Hand h a b → b + 60 * n ≤ 10 ^ 13 → ExB a h1 h → h r7 = some (.lst xs) → KnA a 100 h xs → xs.length ≤ i → i + n ≤ 4 →
    (∀ xs o8 o9 h', ExB a h1 h' → Hand h' a (b + 60 * n) → h' r7 = some (.lst xs) → KnA a 100 h' xs → Z.nx [some (.ref a), some (.int nw), some (.int wo), some (.int qs), some (.int st), o5, o6, some (.ref r7), o8, o9, none] h') →
    cLoop (fun _ => True) (cName 8) (b_l_rows_2 P w K W) Z (rgF i n) [some (.ref a), some (.int nw), some (.int wo), some (.int qs), some (.int st), o5, o6, some (.ref r7), o8, o9, none] h
  | 0, i, b, xs, o8, o9, h, H, hb, x, e, k, l, bd, q => ⟨trivial, q xs o8 o9 h x H e k⟩
  | n + 1, i, b, xs, o8, o9, h, H, hb, x, e, k, l, bd, q => by
    have na : r7 ≠ a := ne_fresh J.ne n7
    have ln : (rgD 0 nw.toNat).length ≤ sizeLine := by rw [rgD_eq, rgF_len, sizeLine_eq]; omega
    have h12 : (10 : Nat) ^ 12 = 1000000000000 := by decide
    have h13 : (10 : Nat) ^ 13 = 10000000000000 := by decide
    have h14 : (10 : Nat) ^ 14 = 100000000000000 := by decide
    have h15 : (10 : Nat) ^ 15 = 1000000000000000 := by decide
    have fin : ∀ (y : D) (o9 : Option D) (h' : HD), ExB a h h' → Hand h' a (b + 60) → Kn a 100 h' y → ∃ ds, h' r7 = some (.lst ds) ∧ ds.length < sizeLine ∧ cLoop (fun _ => True) (cName 8) (b_l_rows_2 P w K W) Z (rgF (i + 1) n) [some (.ref a), some (.int nw), some (.int wo), some (.int qs), some (.int st), o5, o6, some (.ref r7), some (.int (i : Nat)), o9, none] (updD h' r7 (.lst (ds ++ [y]))) := fun y o9 h' x' H' ky => by
      have e' := x' _ _ na e
      refine ⟨xs, e', by rw [sizeLine_eq]; omega, ?_⟩
      have X : ExB a h1 (updD h' r7 (.lst (xs ++ [y]))) := (x.trans x').upd n7
      have kk : KnA a 100 h' (xs ++ [y]) := (KnA.ex x' k).app ⟨ky, trivial⟩
      exact rows_in J n7 v0 v5 w0 w6 s0 s6 n (i + 1) (b + 60) (xs ++ [y]) _ _ _ (J.put n7 (x.trans x') H') (by omega) X updD_same (KnA.upd e' kk) (by simp; omega) (by omega) fun xs o8 o9 h' a1 a2 a3 a4 => q xs o8 o9 h' a1 (a2.le (by omega)) a3 a4
    refine ⟨trivial, by omega, by omega, ln, ?_⟩
    show cLcGo (fun _ => True) (.one 10) cYes (cFn sp_l_steps (fun _ => noX) (cCons (cVar 0) (cCons (cVar 2) (cCons (cVar 4) cNil)))) [some (.ref a), some (.int nw), some (.int wo), some (.int qs), some (.int st), o5, o6, some (.ref r7), some (.int (i : Nat)), o9, none] _ (rgD 0 nw.toNat) [] h
    rw [rgD_eq]
    refine rows_comp w0 w6 s0 s6 nw.toNat 0 b [] h H (by omega) trivial fun p acc h2 x2 H2 k2 l2 np => ?_
    have x3 : ExB a h (updD h2 p (.lst acc)) := x2.trans (Ex.new np).b
    have H3 := H2.ex (Ex.new (o := .lst acc) np)
    have pa : p ≠ a := ne_fresh H2.ne np
    have l2' : acc.length = nw.toNat := by simpa using l2
    refine ⟨⟨r7, xs, rfl, x3 _ _ na e⟩, a, b + 11 * nw.toNat, 3, rfl, H3, by omega, by decide, by decide, fun h4 j x4 H4 j0 j1 => ?_⟩
    have ea : h4 p = some (.lst acc) := x4 _ _ pa updD_same
    have ka : KnA a 100 h4 acc := KnA.ex ((Ex.new np).b.trans x4) k2
    refine ⟨shp_int _, shp_int _, ifB (fun _ => ?_) (fun _ => ?_)⟩
    · obtain ⟨d, ed, _, ad⟩ := drop_get (xs := acc) (i := 0) (n := acc.length - 1) (by omega)
      refine .inl ⟨acc, d, ea, ad, by show 1 ≤ sizeLine; decide, by omega, by omega, by show 1 ≤ 1000; decide, ?_⟩
      exact fin _ _ h4 (x3.trans x4) (H4.le (by omega)) (KnA.rep (xs := [d]) ⟨KnA.all.mp ka d (List.mem_of_getElem? ed), trivial⟩)
    · refine ⟨acc, ea, ?_⟩
      exact fin _ _ h4 (x3.trans x4) (H4.le (by omega)) ka
theorem rows_out {a r5 : Addr} {h1 : HD} {b1 : Nat} {nw wo qs st : Int} (J : Hand h1 a b1) (n5 : h1 r5 = none) (v0 : 0 < nw) (v5 : nw ≤ 5) (w0 : 0 < wo) (w6 : wo ≤ 6) (q0 : 0 < qs) (q4 : qs ≤ 4) (s0 : 0 < st) (s6 : st ≤ 6) : ∀ (n i b : Nat) (xs : List D) (o6 o7 o8 o9 : Option D) (h : HD), Hand h a b → b + 240 * n ≤ 10 ^ 13 → ExB a h1 h → h r5 = some (.lst xs) → KnA a 100 h xs → xs.length ≤ i → i + n ≤ 6 →
    (∀ xs ρ h', ExB a h1 h' → Hand h' a (b + 240 * n) → h' r5 = some (.lst xs) → KnA a 100 h' xs → ρ[5]? = some (some (.ref r5)) → Z.nx ρ h') →
    cLoop (fun _ => True) (cName 6) (b_l_rows_1 P w K W) Z (rgF i n) [some (.ref a), some (.int nw), some (.int wo), some (.int qs), some (.int st), some (.ref r5), o6, o7, o8, o9, none] h
  | 0, i, b, xs, o6, o7, o8, o9, h, H, hb, x, e, k, l, bd, q => ⟨trivial, q xs _ h x H e k rfl⟩
  | n + 1, i, b, xs, o6, o7, o8, o9, h, H, hb, x, e, k, l, bd, q => by
    have na : r5 ≠ a := ne_fresh J.ne n5
    have h12 : (10 : Nat) ^ 12 = 1000000000000 := by decide
    have h13 : (10 : Nat) ^ 13 = 10000000000000 := by decide
    have h14 : (10 : Nat) ^ 14 = 100000000000000 := by decide
    refine ⟨trivial, by show 0 ≤ sizeLine; decide, fun r7 n7 => ⟨by omega, by omega, ?_⟩⟩
    rw [rgD_eq]
    have H2 := H.ex (Ex.new (o := .lst []) n7)
    refine rows_in H n7 v0 v5 w0 w6 s0 s6 qs.toNat 0 b [] _ _ _ H2 (by omega) (Ex.new n7).b updD_same trivial (Nat.zero_le _) (by omega) fun ys o8 o9 h3 x3 H3 e3 k3 => ?_
    have e5 := x3 _ _ na e
    refine ⟨⟨r5, xs, rfl, e5⟩, ys, e3, xs, e5, by rw [sizeLine_eq]; omega, ?_⟩
    have X : ExB a h1 (updD h3 r5 (.lst (xs ++ [.tup ys]))) := (x.trans x3).upd n5
    have kk : KnA a 100 h3 (xs ++ [.tup ys]) := (KnA.ex x3 k).app ⟨k3, trivial⟩
    exact rows_out J n5 v0 v5 w0 w6 q0 q4 s0 s6 n (i + 1) (b + 240) (xs ++ [.tup ys]) _ _ _ _ _ (J.put n5 (x.trans x3) (H3.le (by omega))) (by omega) X updD_same (KnA.upd e5 kk) (by simp; omega) (by omega) fun xs ρ h' a1 a2 a3 a4 a5 => q xs ρ h' a1 (a2.le (by omega)) a3 a4 a5
theorem p_l_rows (ds : List D) (h : HD) (Q : DK) (E : XD) (hs : sp_l_rows ds h Q E) : t_l_rows P w K W { nx := fun _ h' => Q .non h', rt := Q } (startD N_l_rows ds) h := by
  obtain ⟨a, b, nw, wo, qs, st, rfl, H, hb, v0, v5, w0, w6, q0, q4, s0, s6, q⟩ := hs
  have h12 : (10 : Nat) ^ 12 = 1000000000000 := by decide
  have h13 : (10 : Nat) ^ 13 = 10000000000000 := by decide
  refine ⟨by show 0 ≤ sizeLine; decide, fun r5 n5 => ⟨by omega, by omega, ?_⟩⟩
  rw [rgD_eq]
  have H2 := H.ex (Ex.new (o := .lst []) n5)
  refine rows_out H n5 v0 v5 w0 w6 q0 q4 s0 s6 st.toNat 0 b [] _ _ _ _ _ H2 (by omega) (Ex.new n5).b updD_same trivial (Nat.zero_le _) (by omega) fun xs ρ h3 x3 H3 e3 k3 eρ => ?_
  show cVar 5 ρ h3 _
  unfold cVar
  rw [eρ]
  exact ⟨xs, e3, q h3 (.tup xs) x3 (H3.le (by omega)) k3⟩
end
end K63

-- K63T
set_option Elab.async false
set_option linter.all false
set_option maxRecDepth 100000
set_option maxHeartbeats 4000000
/-! K63T: steps at the edge. -/
namespace K63
open PySem PySem.Spec PyProof.Rows L2 PD
section
variable {P : Program} {w : World} {K : PySem.W.Frag} {W : En → XD} {h : HD} {Q : DK} {Z : DE} {E : XD}
theorem lz {n : Nat} (h : Nat.ble n 1000 = true) : n ≤ sizeLine := Nat.le_trans (Nat.le_of_ble_eq_true h) (by decide)
theorem any_kn {a p : Addr} {b : Nat} {N : Int} {xs : List D} {h : HD} {Q : DK} (H : Hand h a b) (hb : b ≤ 10 ^ 15) (np : h p = none) (ne : xs ≠ []) (hl : xs.length ≤ 1000) (k : KnA a N h xs) (q : ∀ h' y, ExB a h h' → Hand h' a (b + 1) → Kn a N h' y → Q y h') : sp_l_any [.ref a, .ref p] (updD h p (.lst xs)) Q noX :=
  any_lst H hb np ne hl fun h' y x H' hy => q h' y x H' (Kn.ex x (KnA.all.mp k y hy))
theorem edge_pairs {a : Addr} {wo st : Int} {o3 o4 o5 : Option D} (s0 : 0 < st) (s6 : st ≤ 7) : ∀ (n i : Nat) (p : Addr) (xs : List D) (o7 : Option D) (h : HD), h a ≠ none → p ≠ a → h p = some (.lst xs) → (∀ x ∈ xs, kp x) → xs.length ≤ 7 * i → i + n ≤ 7 →
    (∀ p xs o7 h', Ex h h' → p ≠ a → h' p = some (.lst xs) → (∀ x ∈ xs, kp x) → xs.length ≤ 49 → Z.nx [some (.ref a), some (.int wo), some (.int st), o3, o4, o5, some (.ref p), o7, none] h') →
    cLoop (fun _ => True) (cName 7) (b_l_edge_steps_1 P w K W) Z (rgF i n) [some (.ref a), some (.int wo), some (.int st), o3, o4, o5, some (.ref p), o7, none] h
  | 0, i, p, xs, o7, h, ha, np, e, k, l, b, q => ⟨trivial, q p xs o7 h (.refl h) np e k (by omega)⟩
  | n + 1, i, p, xs, o7, h, ha, np, e, k, l, b, q => by
    have ln : (rgD 0 st.toNat).length ≤ sizeLine := by rw [rgD_eq, rgF_len, sizeLine_eq]; omega
    refine ⟨trivial, by omega, by omega, ln, map_loop (fun x => D.tup [.int (i : Nat), x]) trivial _ [] (fun x hx k kk => ⟨by show 2 ≤ sizeLine; decide, kk⟩) fun r nr => ?_⟩
    have x1 : Ex h (updD h r (.lst ([] ++ (rgD 0 st.toNat).map fun x => D.tup [.int (i : Nat), x]))) := .new nr
    have er : ([] ++ (rgD 0 st.toNat).map fun x => D.tup [.int (i : Nat), x]) = (rgF 0 st.toNat).map fun x => D.tup [.int (i : Nat), x] := by rw [rgD_eq, List.nil_append]
    have lr : ((rgF 0 st.toNat).map fun x => D.tup [.int (i : Nat), x]).length = st.toNat := by rw [List.length_map, rgF_len]
    rw [er] at x1
    rw [er]
    refine ⟨xs, _, x1 _ _ e, updD_same, by rw [lr, sizeLine_eq]; omega, fun s ns => ?_⟩
    have x2 := x1.new' (o := .lst (xs ++ (rgF 0 st.toNat).map fun x => D.tup [.int (i : Nat), x])) ns
    have hh : ∀ x ∈ xs ++ (rgF 0 st.toNat).map (fun x => D.tup [.int (i : Nat), x]), kp x := fun x hx => by
      rcases List.mem_append.mp hx with hx | hx
      · exact k x hx
      · obtain ⟨y, hy, rfl⟩ := List.mem_map.mp hx
        obtain ⟨j, rfl, _, j2⟩ := rgF_mem hy
        exact ⟨_, _, rfl, by omega, by omega, by omega, by omega⟩
    exact edge_pairs s0 s6 n (i + 1) s _ _ _ (upd_some ns (upd_some nr ha)) (ne_fresh (upd_some nr ha) ns) updD_same hh (by rw [List.length_append, lr]; omega) (by omega) fun p xs o7 h' x' => q p xs o7 h' (x2.trans x')
def edgeD (m : Int) (x : D) : D := match x with
  | .tup [i, j] => .tup [i, .tup [.int 1, .int (12 + m)], j]
  | _ => .non
theorem p_l_edge_steps (ds : List D) (h : HD) (Q : DK) (E : XD) (hs : sp_l_edge_steps ds h Q E) : t_l_edge_steps P w K W { nx := fun _ h' => Q .non h', rt := Q } (startD N_l_edge_steps ds) h := by
  obtain ⟨a, b, wo, st, rfl, H, hb, w0, w6, s0, s7, q⟩ := hs
  have h15 : (10 : Nat) ^ 15 = 1000000000000000 := by decide
  have h13 : (10 : Nat) ^ 13 = 10000000000000 := by decide
  refine ⟨a, b, 8, rfl, H, by omega, by decide, by decide, fun h1 i x1 H1 i0 i8 => ⟨a, b + 1, 2, rfl, H1, by omega, by decide, by decide, fun h2 m x2 H2 m0 m2 => ⟨by show 2 ≤ sizeLine; decide, by show 3 ≤ sizeLine; decide, rfl, ?_⟩⟩⟩
  have x12 := x1.trans x2
  refine ⟨rfl, shp_int _, shp_int _, ifB (fun _ => ?_) (fun _ => ?_)⟩
  · refine ⟨by show 0 ≤ sizeLine; decide, fun p np => ⟨by show -(2 ^ 62) ≤ wo; omega, by show wo < 2 ^ 62; omega, ?_⟩⟩
    rw [rgD_eq]
    refine edge_pairs s0 s7 wo.toNat 0 p [] none _ (upd_some np H2.ne) (ne_fresh H2.ne np) updD_same (fun x hx => by cases hx) (Nat.zero_le _) (by omega) fun p xs o7 h3 x3 pa e3 k3 l3 => ?_
    have mem : ∀ x ∈ PD.cutD xs none (some (12 + m)), x ∈ xs := fun x hx => List.mem_of_mem_drop (List.mem_of_mem_take hx)
    have lc : (PD.cutD xs none (some (12 + m))).length ≤ 49 := by
      unfold PD.cutD
      rw [List.length_take, List.length_drop]
      omega
    refine .inl ⟨xs, e3, fun r nr => ⟨_, updD_same, by rw [sizeLine_eq]; exact Nat.le_trans lc (by decide), map_loop (edgeD m) updD_same _ [] (fun x hx k kk => ?_) fun r2 nr2 => ?_⟩⟩
    · obtain ⟨i, j, rfl, _⟩ := k3 x (mem x hx)
      exact ⟨rfl, by show 2 ≤ sizeLine; decide, by show 3 ≤ sizeLine; decide, kk⟩
    refine ⟨_, updD_same, ?_⟩
    refine q _ _ (((x12.trans (Ex.new np).b).trans x3.b).trans ((Ex.new nr).trans (Ex.new nr2)).b) (((((H2.ex (Ex.new np)).ex x3).ex (Ex.new nr)).ex (Ex.new nr2)).le (by omega)) (KnA.all.mpr fun y hy => ?_)
    rw [List.nil_append] at hy
    obtain ⟨x, hx, rfl⟩ := List.mem_map.mp hy
    obtain ⟨i, j, rfl, _⟩ := k3 x (mem x hx)
    show Kn a 100 _ (.tup [.int i, .tup [.int 1, .int (12 + m)], .int j])
    (simp only [Kn, KnA, prD2, and_true, true_and]; try omega)
  refine ⟨shp_int _, shp_int _, ifB (fun _ => ?_) (fun _ => ?_)⟩
  · refine ⟨lz rfl, lz rfl, lz rfl, lz rfl, lz rfl, lz rfl, lz rfl, lz rfl, lz rfl, lz rfl, lz rfl, lz rfl, fun p np => ?_⟩
    exact any_kn H2 (by omega) np (by simp) (by show 4 ≤ 1000; decide) (by simp only [Kn, KnA, and_true, true_and]; try omega) fun h' y x H' ky => q h' y (x12.trans x) (H'.le (by omega)) ky
  refine ⟨shp_int _, shp_int _, ifB (fun _ => ?_) (fun _ => ?_)⟩
  · refine ⟨lz rfl, fun p np => ?_⟩
    refine any_kn (N := 100) H2 (by omega) np (by simp) (by show 4 ≤ 1000; decide) (by simp only [Kn, KnA, and_true, true_and]; try omega) fun h' y x H' ky => ⟨lz rfl, lz rfl, q h' _ (x12.trans x) (H'.le (by omega)) ?_⟩
    simp only [Kn, KnA, and_true, true_and, ky]
    try omega
  refine ⟨shp_int _, shp_int _, ifB (fun _ => ?_) (fun _ => ?_)⟩
  · refine ⟨lz rfl, fun p np => ?_⟩
    refine any_kn (N := 100) H2 (by omega) np (by simp) (by show 4 ≤ 1000; decide) (by simp only [Kn, KnA, and_true, true_and]; try omega) fun h' y x H' ky => ⟨lz rfl, lz rfl, q h' _ (x12.trans x) (H'.le (by omega)) ?_⟩
    simp only [Kn, KnA, and_true, true_and, ky]
    try omega
  refine ⟨shp_int _, shp_int _, ifB (fun _ => ?_) (fun _ => ?_)⟩
  · refine ⟨by show 2 ≤ sizeLine; decide, by show 3 ≤ sizeLine; decide, by show 2 ≤ sizeLine; decide, by show 3 ≤ sizeLine; decide, by show 2 ≤ sizeLine; decide, q _ _ x12 (H2.le (by omega)) ?_⟩
    (simp only [Kn, KnA, prD2, and_true, true_and]; try omega)
  refine ⟨shp_int _, shp_int _, ifB (fun _ => ?_) (fun _ => ?_)⟩
  · refine ⟨by show 2 ≤ sizeLine; decide, by show 3 ≤ sizeLine; decide, by show 2 ≤ sizeLine; decide, by show 3 ≤ sizeLine; decide, by show 2 ≤ sizeLine; decide, q _ _ x12 (H2.le (by omega)) ?_⟩
    (simp only [Kn, KnA, prD2, and_true, true_and]; try omega)
  refine ⟨shp_int _, shp_int _, ifB (fun _ => ?_) (fun _ => ?_)⟩
  · refine ⟨by show 2 ≤ sizeLine; decide, by show 3 ≤ sizeLine; decide, by show 2 ≤ sizeLine; decide, by show 3 ≤ sizeLine; decide, by show 2 ≤ sizeLine; decide, q _ _ x12 (H2.le (by omega)) ?_⟩
    (simp only [Kn, KnA, prD2, and_true, true_and]; try omega)
  refine ⟨lz rfl, lz rfl, lz rfl, lz rfl, lz rfl, lz rfl, lz rfl, lz rfl, fun r nr => ⟨lz rfl, lz rfl, lz rfl, fun p np => ?_⟩⟩
  have kr := Kn.fresh (N := 100) nr H2.ne [.tup [.int 0, .tup [.int 1, .int 1], .int 0]]
  refine any_kn (N := 100) (H2.ex (Ex.new nr)) (by omega) np (by simp) (by show 5 ≤ 1000; decide) ⟨(by simp only [Kn, KnA, and_true, true_and]; try omega), (by simp only [Kn, KnA, and_true, true_and]; try omega), (by simp only [Kn, KnA, and_true, true_and]; try omega), kr, (by simp only [Kn, KnA, and_true, true_and]; try omega), trivial⟩ fun h' y x H' ky => q h' y (x12.trans ((Ex.new nr).b.trans x)) (H'.le (by omega)) ky
end
end K63

-- K63U
set_option Elab.async false
set_option linter.all false
set_option maxRecDepth 100000
set_option maxHeartbeats 4000000
/-! K63U: machines at the edge. -/
namespace K63
open PySem PySem.Spec PyProof.Rows L2 PD
theorem rep1 {x : D} {n : Nat} : (List.replicate n [x]).flatten = List.replicate n x := List.flatten_replicate_singleton
theorem KnA.cut {a : Addr} {N : Int} {h : HD} {xs : List D} {lo hi : Option Int} (k : KnA a N h xs) : KnA a N h (PD.cutD xs lo hi) := KnA.all.mpr fun x hx => KnA.all.mp k x (List.mem_of_mem_drop (List.mem_of_mem_take hx))
theorem cut_len {xs : List D} {lo hi : Option Int} : (PD.cutD xs lo hi).length ≤ xs.length := by
  unfold PD.cutD
  rw [List.length_take, List.length_drop]
  omega
theorem KnA.repl {a : Addr} {N : Int} {h : HD} {x : D} {n : Nat} (k : Kn a N h x) : KnA a N h (List.replicate n x) := KnA.all.mpr fun y hy => by
  rw [(List.mem_replicate.mp hy).2]; exact k
theorem getD_rep {x : D} {n i : Nat} (h : i < n) : (List.replicate n x).getD i .non = x := by
  rw [getD_get (by rw [List.length_replicate]; exact h), List.getElem_replicate]
def plainD : D := .tup [.tup [.int 0, .tup [.int 1, .int 1], .int 0]]
def rowsD (v as st : Nat) : List D := List.replicate st (.tup (List.replicate as (.tup (List.replicate v plainD))))
theorem rows_kn {a : Addr} {h : HD} {v as st : Nat} : KnA a 100 h (rowsD v as st) :=
  KnA.repl (KnA.repl (x := .tup (List.replicate v plainD)) (KnA.repl (x := plainD) (by simp only [plainD, Kn, KnA, and_true, true_and]; omega)))
theorem rows_path {v as st i j l : Nat} (hi : i < st) (hj : j < as) (hl : l < v) (l1 : st ≤ 100) (l2 : as ≤ 100) (l3 : v ≤ 100) : pathOk (.tup (rowsD v as st)) [i, j, l] ∧ pathOk (.tup (rowsD v as st)) [i, j] := by
  unfold rowsD
  have e1 := getD_rep (x := .tup (List.replicate as (.tup (List.replicate v plainD)))) hi
  have e2 := getD_rep (x := .tup (List.replicate v plainD)) hj
  refine ⟨⟨by simpa using hi, by simpa using l1, ?_⟩, ⟨by simpa using hi, by simpa using l1, ?_⟩⟩
  · rw [e1]
    refine ⟨by simpa using hj, by simpa using l2, ?_⟩
    rw [e2]
    exact ⟨by simpa using hl, by simpa using l3, trivial⟩
  · rw [e1]
    exact ⟨by simpa using hj, by simpa using l2, trivial⟩
theorem lg {m : Int} (h0 : 0 ≤ m) (h1 : m ≤ 100) : m.natAbs.log2 < 9000 := by
  have := few_small (i := m) h0 10 (by have := p10; omega) (by decide)
  omega
section
variable {P : Program} {w : World} {K : PySem.W.Frag} {W : En → XD} {h : HD} {Q : DK} {Z : DE} {E : XD}
theorem p_l_edged (ds : List D) (h : HD) (Q : DK) (E : XD) (hs : sp_l_edged ds h Q E) : t_l_edged P w K W { nx := fun _ h' => Q .non h', rt := Q } (startD N_l_edged ds) h := by
  obtain ⟨a, b, rfl, H, hb, q⟩ := hs
  have h15 : (10 : Nat) ^ 15 = 1000000000000000 := by decide
  have h13 : (10 : Nat) ^ 13 = 10000000000000 := by decide
  have h12 : (10 : Nat) ^ 12 = 1000000000000 := by decide
  refine ⟨lz rfl, fun p1 np1 => any_lst H (by omega) np1 (by simp) (by show 3 ≤ 1000; decide) fun h1 y1 x1 H1 hy1 => ⟨lz rfl, fun p2 np2 => any_lst H1 (by omega) np2 (by simp) (by show 3 ≤ 1000; decide) fun h2 y2 x2 H2 hy2 => ?_⟩⟩
  obtain ⟨v, rfl, v1, v5⟩ : ∃ v : Int, y1 = .int v ∧ 1 ≤ v ∧ v ≤ 5 := by
    simp only [List.mem_cons, List.not_mem_nil, or_false] at hy1
    rcases hy1 with rfl | rfl | rfl
    · exact ⟨1, rfl, by omega, by omega⟩
    · exact ⟨2, rfl, by omega, by omega⟩
    · exact ⟨5, rfl, by omega, by omega⟩
  obtain ⟨wo, rfl, w2, w6⟩ : ∃ v : Int, y2 = .int v ∧ 2 ≤ v ∧ v ≤ 6 := by
    simp only [List.mem_cons, List.not_mem_nil, or_false] at hy2
    rcases hy2 with rfl | rfl | rfl
    · exact ⟨2, rfl, by omega, by omega⟩
    · exact ⟨5, rfl, by omega, by omega⟩
    · exact ⟨6, rfl, by omega, by omega⟩
  have x12 := x1.trans x2
  refine ⟨a, b + 2, 9, rfl, H2, by omega, by decide, by decide, fun h3 i x3 H3 i0 i9 => ⟨a, b + 3, 2, rfl, H3, by omega, by decide, by decide, fun h4 m x4 H4 m0 m2 => ⟨lz rfl, lz rfl, lz rfl, ?_⟩⟩⟩
  have x14 := (x12.trans x3).trans x4
  have hm : (if (2 : Int) < i then (2 : Int) else i) = 0 ∨ (if (2 : Int) < i then (2 : Int) else i) = 1 ∨ (if (2 : Int) < i then (2 : Int) else i) = 2 := by split <;> omega
  obtain ⟨st, est, s3, s7⟩ : ∃ st : Int, atI [D.int 3, .int (6 + m), .int 3] (if (2 : Int) < i then (2 : Int) else i) = some (.int st) ∧ 3 ≤ st ∧ st ≤ 7 := by
    rcases hm with e | e | e <;> rw [e]
    · exact ⟨3, rfl, by omega, by omega⟩
    · exact ⟨6 + m, rfl, by omega, by omega⟩
    · exact ⟨3, rfl, by omega, by omega⟩
  obtain ⟨as, eas, a2, a5⟩ : ∃ st : Int, atI [D.int (4 + m), .int 2, .int 2] (if (2 : Int) < i then (2 : Int) else i) = some (.int st) ∧ 2 ≤ st ∧ st ≤ 5 := by
    rcases hm with e | e | e <;> rw [e]
    · exact ⟨4 + m, rfl, by omega, by omega⟩
    · exact ⟨2, rfl, by omega, by omega⟩
    · exact ⟨2, rfl, by omega, by omega⟩
  refine ⟨lz rfl, fun p3 np3 => .inl ⟨_, _, updD_same, est, lz rfl, fun p4 np4 => .inl ⟨_, _, updD_same, eas, ?_⟩⟩⟩
  obtain ⟨v, rfl⟩ := Int.eq_ofNat_of_zero_le (show 0 ≤ v by omega)
  obtain ⟨st, rfl⟩ := Int.eq_ofNat_of_zero_le (show 0 ≤ st by omega)
  obtain ⟨as, rfl⟩ := Int.eq_ofNat_of_zero_le (show 0 ≤ as by omega)
  refine ⟨lz rfl, by omega, by omega, by show 1 ≤ 1000; decide, lz rfl, by omega, by omega, by show 1 ≤ 1000; decide, lz rfl, by omega, by omega, by show 1 ≤ 1000; decide, ?_⟩
  have er : (D.tup (List.replicate (Int.toNat (st : Nat)) [D.tup (List.replicate (Int.toNat (as : Nat)) [D.tup (List.replicate (Int.toNat (v : Nat)) [plainD]).flatten]).flatten]).flatten) = .tup (rowsD v as st) := by
    rw [rep1, rep1, rep1]
    rfl
  have x5 : Ex h4 (updD (updD h4 p3 (.lst [.int 3, .int (6 + m), .int 3])) p4 (.lst [.int (4 + m), .int 2, .int 2])) := (Ex.new np3).new' np4
  have H5 := H4.ex x5
  generalize (updD (updD h4 p3 (.lst [.int 3, .int (6 + m), .int 3])) p4 (.lst [.int (4 + m), .int 2, .int 2])) = h5 at *
  show cSeq _ _ _ [some (.ref a), some (D.tup (List.replicate (Int.toNat (st : Nat)) [D.tup (List.replicate (Int.toNat (as : Nat)) [D.tup (List.replicate (Int.toNat (v : Nat)) [plainD]).flatten]).flatten]).flatten), some (.int (v : Nat)), some (.int wo), some (.int i), some (.int m), some plainD, some (.int (st : Nat)), some (.int (as : Nat)), none, none, none, none] h5
  rw [er]
  have x15 := x14.trans x5.b
  have lr : (rowsD v as st).length = st := by unfold rowsD; rw [List.length_replicate]
  have rk : ∀ h, KnA a 100 h (rowsD v as st) := fun h => rows_kn
  refine ⟨a, b + 4, (st : Nat), rfl, H5, by omega, by omega, lg (by omega) (by omega), fun h6 j1 x6 H6 j10 j11 => ⟨a, b + 5, (as : Nat), rfl, H6, by omega, by omega, lg (by omega) (by omega), fun h7 j2 x7 H7 j20 j21 => ⟨a, b + 6, (v : Nat), rfl, H7, by omega, by omega, lg (by omega) (by omega), fun h8 j3 x8 H8 j30 j31 => ?_⟩⟩⟩
  obtain ⟨j1, rfl⟩ := Int.eq_ofNat_of_zero_le j10
  obtain ⟨j2, rfl⟩ := Int.eq_ofNat_of_zero_le j20
  obtain ⟨j3, rfl⟩ := Int.eq_ofNat_of_zero_le j30
  have x18 := ((x15.trans x6).trans x7).trans x8
  have pp := rows_path (v := v) (as := as) (st := st) (i := j1) (j := j2) (l := j3) (by omega) (by omega) (by omega) (by omega) (by omega) (by omega)
  have kv : ∀ h, Kn a 100 h (.int (v : Nat)) := fun h => ⟨by omega, by omega⟩
  have kw : ∀ h, Kn a 100 h (.int wo) := fun h => ⟨by omega, by omega⟩
  refine ⟨trivial, ifB (fun _ => ?_) (fun _ => ?_)⟩
  · refine ⟨lz rfl, a, b + 7, wo, (st : Nat), rfl, H8, by omega, by omega, w6, by omega, s7, fun h9 y x9 H9 ky => ⟨.tup (rowsD v as st), [j1, j2, j3], y, rfl, by show 3 < 8; decide, pp.1, lz rfl, q h9 _ _ _ (x18.trans x9) (H9.le (by omega)) (kv _) (kw _) (Kn.put ky _ _ (rk _) pp.1)⟩⟩
  refine ⟨shp_int _, shp_int _, ifB (fun _ => ?_) (fun _ => ?_)⟩
  · refine ⟨lz rfl, lz rfl, lz rfl, fun p np => any_lst H8 (by omega) np (by simp) (by show 3 ≤ 1000; decide) fun h9 y x9 H9 hy => ?_⟩
    obtain ⟨k, rfl, k0, k6⟩ : ∃ k : Int, y = .int k ∧ 0 ≤ k ∧ k ≤ 6 := by
      simp only [List.mem_cons, List.not_mem_nil, or_false] at hy
      rcases hy with rfl | rfl | rfl
      · exact ⟨_, rfl, by omega, by omega⟩
      · exact ⟨_, rfl, by omega, by omega⟩
      · exact ⟨_, rfl, by omega, by omega⟩
    have kp : Kn a 100 h9 (.tup (List.replicate k.toNat [plainD]).flatten) := KnA.rep (xs := [plainD]) ⟨by simp only [plainD, Kn, KnA, and_true, true_and]; omega, trivial⟩
    exact ⟨k0, by omega, by show 1 ≤ 1000; decide, .tup (rowsD v as st), [j1, j2], _, rfl, by show 2 < 8; decide, pp.2, lz rfl, q h9 _ _ _ (x18.trans x9) (H9.le (by omega)) (kv _) (kw _) (Kn.put kp _ _ (rk _) pp.2)⟩
  refine ⟨shp_int _, shp_int _, ifB (fun _ => ?_) (fun _ => ?_)⟩
  · have at0 : atI (rowsD v as st) 0 = some (.tup (List.replicate as (.tup (List.replicate v plainD)))) := by
      have e : (rowsD v as st)[0]? = some (.tup (List.replicate as (.tup (List.replicate v plainD)))) := by
        unfold rowsD
        rw [List.getElem?_replicate, if_pos (by omega)]
      exact atI_nat (j := 0) e
    have k0 : ∀ h, Kn a 100 h (.tup (List.replicate as (.tup (List.replicate v plainD)))) := fun h => KnA.all.mp (rk h) _ (by unfold rowsD; exact List.mem_replicate.mpr ⟨by omega, rfl⟩)
    have ln := cut_len (xs := rowsD v as st) (lo := none) (hi := some 1)
    refine ⟨lz rfl, lz rfl, by omega, by omega, by show 1 ≤ 1000; decide, lz rfl, .inl ⟨_, at0, lz rfl, by show (PD.cutD (rowsD v as st) none (some 1)).length + 1 ≤ sizeLine; rw [sizeLine_eq]; omega, lz rfl, fun p np => ?_⟩⟩
    refine any_kn (N := 100) H8 (by omega) np (by simp) (by show 4 ≤ 1000; decide) ⟨KnA.rep (xs := [.tup []]) ⟨trivial, trivial⟩, trivial, (KnA.cut (rk _)).app ⟨KnA.cut (k0 _), trivial⟩, KnA.cut (rk _), trivial⟩ fun h9 y x9 H9 ky => ?_
    refine ⟨lz rfl, fun p np => any_kn (N := 100) H9 (by omega) np (by simp) (by show 4 ≤ 1000; decide) (by simp only [Kn, KnA, and_true, true_and]; try omega) fun h10 u x10 H10 ku => ⟨lz rfl, fun p np => any_kn (N := 100) H10 (by omega) np (by simp) (by show 5 ≤ 1000; decide) (by simp only [Kn, KnA, and_true, true_and]; try omega) fun h11 t x11 H11 kt => ⟨lz rfl, fun p np => any_kn (N := 100) H11 (by omega) np (by simp) (by show 2 ≤ 1000; decide) ⟨rk _, Kn.ex (x10.trans x11) ky, trivial⟩ fun h12 z x12 H12 kz => ⟨lz rfl, q h12 _ _ _ (x18.trans (x9.trans (x10.trans (x11.trans x12)))) (H12.le (by omega)) (Kn.ex (x11.trans x12) ku) (Kn.ex x12 kt) kz⟩⟩⟩⟩
  exact ⟨lz rfl, q h8 _ _ _ x18 (H8.le (by omega)) (kv _) (kw _) (rk _)⟩
end
end K63

-- K63V
set_option Elab.async false
set_option linter.all false
set_option maxRecDepth 100000
set_option maxHeartbeats 4000000
/-! K63V: rows that are as they should be. -/
namespace K63
open PySem PySem.Spec PyProof.Rows L2 PD
def GoodSs (x : D) : Prop := ∃ ss, x = .tup ss ∧ 1 ≤ ss.length ∧ ss.length ≤ 12 ∧ ∀ s ∈ ss, ∃ u t b g, s = stD u t b g ∧ 0 < t ∧ t ≤ b
def GoodQ (nw : Int) (x : D) : Prop := ∃ zs, x = .tup zs ∧ (zs.length : Int) = nw ∧ ∀ z ∈ zs, GoodSs z
def GoodR (nw : Int) (q : Nat) (x : D) : Prop := ∃ ys, x = .tup ys ∧ ys.length = q ∧ ∀ y ∈ ys, GoodQ nw y
def Good (nw : Int) (rs : List D) (q : Nat) : Prop := 1 ≤ rs.length ∧ rs.length ≤ 6 ∧ 1 ≤ q ∧ q ≤ 4 ∧ ∀ r ∈ rs, GoodR nw q r
theorem steps_good {wo st : Int} {x : D} (h : areSteps wo st x = true) : GoodSs x := by
  cases x with
  | tup xs =>
    have h' : (szd (.tup xs) 1 12 && (xs.all (isStep wo st)) && (decide ((xs.map pairOf).Nodup) && decide (sumI (xs.map shOf) = (1, 1)))) = true := h
    rw [Bool.and_eq_true, Bool.and_eq_true] at h'
    obtain ⟨l1, l2⟩ := len12 h'.1.1
    exact ⟨xs, rfl, l1, l2, fun s hs => step_shape (List.all_eq_true.mp h'.1.2 s hs)⟩
  | _ => cases h
theorem worldBad_none {wo st s q : Int} : ∀ {xs : List D} {i : Nat}, worldBad wo st s q i xs = none → ∀ x ∈ xs, GoodSs x
  | [], _, _, x, hx => by cases hx
  | y :: ys, i, h, x, hx => by
    unfold worldBad at h
    cases c : areSteps wo st y with
    | true =>
      rw [if_pos c] at h
      rcases List.mem_cons.mp hx with rfl | hx
      · exact steps_good c
      · exact worldBad_none h x hx
    | false => rw [if_neg (by rw [c]; decide)] at h; cases h
theorem questBad_none {nw wo st s : Int} : ∀ {xs : List D} {i : Nat}, questBad nw wo st s i xs = none → ∀ x ∈ xs, GoodQ nw x
  | [], _, _, x, hx => by cases hx
  | y :: ys, i, h, x, hx => by
    cases y with
    | tup zs =>
      have e : questBad nw wo st s i (.tup zs :: ys) = if decide ((zs.length : Int) = nw) = true then (match worldBad wo st s i 0 zs with
        | some p => some p
        | none => questBad nw wo st s (i + 1) ys) else some (partD s i (-1)) := rfl
      rw [e] at h
      by_cases c : (zs.length : Int) = nw
      · rw [if_pos (decide_eq_true c)] at h
        cases cw : worldBad wo st s i 0 zs with
        | some p => rw [cw] at h; cases h
        | none =>
          rw [cw] at h
          rcases List.mem_cons.mp hx with rfl | hx
          · exact ⟨zs, rfl, c, worldBad_none cw⟩
          · exact questBad_none h x hx
      · rw [if_neg (by rw [decide_eq_false c]; decide)] at h; cases h
    | _ => cases h
theorem rowBad_none {nw wo st : Int} : ∀ {xs : List D} {i : Nat}, rowBad nw wo st i xs = none → ∀ ys, .tup ys ∈ xs → ∀ y ∈ ys, GoodQ nw y
  | [], _, _, x, hx => by cases hx
  | y :: ys, i, h, x, hx => by
    cases y with
    | tup zs =>
      have e : rowBad nw wo st i (.tup zs :: ys) = (match questBad nw wo st i 0 zs with
        | some p => some p
        | none => rowBad nw wo st (i + 1) ys) := rfl
      rw [e] at h
      cases c : questBad nw wo st i 0 zs with
      | some p => rw [c] at h; cases h
      | none =>
        rw [c] at h
        rcases List.mem_cons.mp hx with z | hx
        · cases z; exact questBad_none c
        · exact rowBad_none h x hx
    | _ =>
      rcases List.mem_cons.mp hx with z | hx
      · cases z
      · exact rowBad_none (i := i + 1) h x hx
theorem due_good {nw wo : Int} {rows : D} (h : due (.int nw) (.int wo) rows = none) : ∃ rs q, rows = .tup rs ∧ 1 ≤ nw ∧ nw ≤ 5 ∧ 1 ≤ wo ∧ wo ≤ 6 ∧ Good nw rs q := by
  cases c1 : inW (.int nw) 1 5 with
  | false => rw [due_w c1] at h; cases h
  | true =>
  cases c2 : inW (.int wo) 1 6 with
  | false => rw [due_o c1 c2] at h; cases h
  | true =>
  cases c3 : areRows rows with
  | false => rw [due_r c1 c2 c3] at h; cases h
  | true =>
  obtain ⟨rs, rfl⟩ := rows_is c3
  rw [due_k c1 c2 c3] at h
  obtain ⟨n, en, n1, n5⟩ := inW_int c1
  obtain ⟨m, em, m1, m6⟩ := inW_int c2
  cases en
  cases em
  have c' : (szd (.tup rs) 1 6 && (rs.all fun r => szd r 1 4) && rs.all fun r => decide (lenT r = lenT (rs.headD .non))) = true := c3
  rw [Bool.and_eq_true, Bool.and_eq_true] at c'
  obtain ⟨l1, l6⟩ := len6 c'.1.1
  obtain ⟨r0, e0, _, _⟩ := drop_get (xs := rs) (i := 0) (n := rs.length - 1) (by omega)
  obtain ⟨y0, rfl, y4, ye⟩ := rows_tup c3 r0 (List.mem_of_getElem? e0)
  have y1 : 1 ≤ y0.length := by
    have : (decide ((1 : Int) ≤ (y0.length : Int)) && decide ((y0.length : Int) ≤ 4)) = true := List.all_eq_true.mp c'.1.2 _ (List.mem_of_getElem? e0)
    simp at this
    omega
  refine ⟨rs, y0.length, rfl, n1, n5, m1, m6, l1, l6, y1, y4, fun r hr => ?_⟩
  obtain ⟨ys, rfl, z4, ze⟩ := rows_tup c3 r hr
  exact ⟨ys, rfl, by omega, rowBad_none h ys hr⟩
end K63

-- K63W
set_option Elab.async false
set_option linter.all false
set_option maxRecDepth 100000
set_option maxHeartbeats 12000000
/-! K63W: rows spoilt. -/
namespace K63
open PySem PySem.Spec PyProof.Rows L2 PD
theorem p110 : (1000000000000000000000000000000 : Int) < ((2 ^ 110 : Nat) : Int) := by decide
theorem p110b : (2000000000000000000000000000000 : Int) < ((2 ^ 110 : Nat) : Int) := by decide
section
variable {P : Program} {w : World} {K : PySem.W.Frag} {W : En → XD} {h : HD} {Q : DK} {Z : DE} {E : XD}
theorem nat_get {xs : List D} {j : Int} (h0 : 0 ≤ j) (h1 : j < (xs.length : Int)) : ∃ (i : Nat) (x : D), j = (i : Nat) ∧ i < xs.length ∧ x ∈ xs ∧ xs.getD i .non = x ∧ atI xs (i : Nat) = some x := by
  obtain ⟨i, rfl⟩ := Int.eq_ofNat_of_zero_le h0
  have hi : i < xs.length := by omega
  exact ⟨i, xs[i], rfl, hi, List.getElem_mem hi, getD_get hi, atI_nat (List.getElem?_eq_getElem hi)⟩
theorem p_l_spoilt (ds : List D) (h : HD) (Q : DK) (E : XD) (hs : sp_l_spoilt ds h Q E) : t_l_spoilt P w K W { nx := fun _ h' => Q .non h', rt := Q } (startD N_l_spoilt ds) h := by
  obtain ⟨a, b, N, rows, nw, wo, rfl, H, hb, kr, N10, N30', dn, q⟩ := hs
  obtain ⟨rs, qn, rfl, n1, n5, m1, m6, l1, l6, q1, q4, gd⟩ := due_good dn
  have h15 : (10 : Nat) ^ 15 = 1000000000000000 := by decide
  have h13 : (10 : Nat) ^ 13 = 10000000000000 := by decide
  have h12 : (10 : Nat) ^ 12 = 1000000000000 := by decide
  have zl := sizeLine_eq
  obtain ⟨i0, r0, e0, _, hr0, _, at0⟩ := nat_get (xs := rs) (j := 0) (by omega) (by omega)
  rw [← e0] at at0
  obtain ⟨y0, rfl, ly0, gy0⟩ := gd r0 hr0
  refine .inl ⟨a, b, (rs.length : Nat), rfl, H, by omega, by omega, lg (by omega) (by omega), fun h1 s x1 H1 s0 s1 => .inl ⟨.tup y0, at0, .inl ⟨a, b + 1, (y0.length : Nat), rfl, H1, by omega, by omega, lg (by omega) (by omega), fun h2 u x2 H2 u0 u1 => ?_⟩⟩⟩
  refine ⟨a, b + 2, nw, rfl, H2, by omega, by omega, lg (by omega) (by omega), fun h3 v x3 H3 v0 v1 => ?_⟩
  obtain ⟨s, rS, rfl, sl, hrS, gS, atS⟩ := nat_get s0 s1
  obtain ⟨ys, rfl, lys, gys⟩ := gd rS hrS
  obtain ⟨u, rQ, rfl, ul, hrQ, gQ, atQ⟩ := nat_get (xs := ys) u0 (by omega)
  obtain ⟨zs, rfl, lzs, gzs⟩ := gys rQ hrQ
  obtain ⟨v, rW, rfl, vl, hrW, gW, atW⟩ := nat_get (xs := zs) v0 (by omega)
  obtain ⟨ss, rfl, ss1, ss12, gss⟩ := gzs rW hrW
  refine .inl ⟨.tup ys, atS, .inl ⟨.tup zs, atQ, .inl ⟨.tup ss, atW, ?_⟩⟩⟩
  refine .inl ⟨a, b + 3, (ss.length : Nat), rfl, H3, by omega, by omega, lg (by omega) (by omega), fun h4 at' x4 H4 t0 t1 => ⟨lz rfl, ?_⟩⟩
  refine ⟨a, b + 4, 12, rfl, H4, by omega, by omega, lg (by omega) (by omega), fun h5 k x5 H5 k0 k1 => ?_⟩
  have x15 := (((x1.trans x2).trans x3).trans x4).trans x5
  obtain ⟨t, rT, rfl, tl, hrT, gT, atT⟩ := nat_get t0 t1
  obtain ⟨wd, tp, bt, gl, rfl, tp0, tpb⟩ := gss rT hrT
  have hb : b ≤ 1000000000000 := hb
  generalize hM : max (2 * N) (10 ^ 29) = M at q
  have NM : N ≤ M := by omega
  have M29 : (100000000000000000000000000000 : Int) ≤ M := by omega
  have M2 : 2 * N ≤ M := by omega
  have odd : ∀ h' y, Kn a (10 ^ 29) h' y → Kn a M h' y := fun h' y ky => Kn.le (show (10 : Int) ^ 29 ≤ M by omega) ky
  clear hM h15 h13 h12 s0 s1 u0 u1 v0 v1
  have N30'' : N ≤ 1000000000000000000000000000000 := N30'
  clear N30'
  have krs : ∀ h', ExB a h h' → KnA a M h' rs := fun h' x => Kn.ex x (Kn.le NM kr)
  have kys : ∀ h', ExB a h h' → KnA a M h' ys := fun h' x => KnA.all.mp (krs h' x) _ hrS
  have kzs : ∀ h', ExB a h h' → KnA a M h' zs := fun h' x => KnA.all.mp (kys h' x) _ hrQ
  have kss : ∀ h', ExB a h h' → KnA a M h' ss := fun h' x => KnA.all.mp (kzs h' x) _ hrW
  have ky0 : ∀ h', ExB a h h' → KnA a M h' y0 := fun h' x => KnA.all.mp (krs h' x) _ hr0
  have e3 : pathOk (.tup rs) [s, u, v] := ⟨sl, by omega, by rw [gS]; exact ⟨ul, by omega, by rw [gQ]; exact ⟨vl, by omega, trivial⟩⟩⟩
  have e2 : pathOk (.tup rs) [s, u] := ⟨sl, by omega, by rw [gS]; exact ⟨ul, by omega, trivial⟩⟩
  have e1 : pathOk (.tup rs) [s] := ⟨sl, by omega, trivial⟩
  have e4 : pathOk (.tup rs) [s, u, v, t] := ⟨sl, by omega, by rw [gS]; exact ⟨ul, by omega, by rw [gQ]; exact ⟨vl, by omega, by rw [gW]; exact ⟨tl, by omega, trivial⟩⟩⟩⟩
  have e5 : ∀ i : Nat, i < 3 → pathOk (.tup rs) [s, u, v, t, i] := fun i hi => ⟨sl, by omega, by rw [gS]; exact ⟨ul, by omega, by rw [gQ]; exact ⟨vl, by omega, by rw [gW]; exact ⟨tl, by omega, by rw [gT]; exact ⟨hi, by show 3 ≤ 100; decide, trivial⟩⟩⟩⟩⟩
  have fin : ∀ h' y, ExB a h h' → Hand h' a (b + 1000) → Kn a M h' y → Q y h' := fun h' y x H' ky => q h' y x (H'.le (by omega)) ky
  have put : ∀ h' y p, ExB a h h' → Hand h' a (b + 1000) → Kn a M h' y → pathOk (.tup rs) p → Q (putD2 (.tup rs) p y) h' := fun h' y p x H' ky hp => fin h' _ x H' (Kn.put ky p _ (krs h' x) hp)
  show cSeq _ _ _ [some (.ref a), some (.tup rs), some (.int nw), some (.int wo), some (.int ((v : Nat) : Int)), some (.tup ss), some (.int ((t : Nat) : Int)), some (.tup [.int ((s : Nat) : Int), .int ((u : Nat) : Int), .int ((v : Nat) : Int)]), some (.int k), some (.int ((s : Nat) : Int)), some (.int ((u : Nat) : Int)), none, none, none, none, none, none, none] h5
  refine ⟨shp_int _, shp_int _, ifB (fun _ => ?_) (fun _ => ?_)⟩
  · refine fun p1 np1 => ⟨lz rfl, .inl ⟨.tup y0, at0, lz rfl, ?_⟩⟩
    refine ⟨by show rs.length + 1 ≤ sizeLine; omega, by decide, by decide, by omega, lz rfl, fun p2 np2 => ⟨lz rfl, by show rs.length + 1 ≤ sizeLine; omega, a, b + 5, rfl, (H5.ex (Ex.new np1)).ex (Ex.new np2), by omega, fun h6 y x6 H6 ky => ⟨lz rfl, fun p3 np3 => ?_⟩⟩⟩
    have X : ExB a h h6 := ((x15.trans (Ex.new np1).b).trans (Ex.new np2).b).trans x6
    have m1 : p1 ≠ a := ne_fresh H5.ne np1
    have m2 : p2 ≠ a := ne_fresh (upd_some np1 H5.ne) np2
    have kp1 : Kn a M h6 (.ref p1) := ⟨m1, .inl ⟨rs, x6 _ _ m1 ((Ex.new np2) _ _ updD_same)⟩⟩
    have kp2 : Kn a M h6 (.ref p2) := ⟨m2, .inl ⟨[], x6 _ _ m2 updD_same⟩⟩
    exact any_kn (N := M) H6 (by omega) np3 (by simp) (by show 6 ≤ 1000; decide) ⟨kp1, trivial, (krs h6 X).app ⟨KnA.cut (ky0 h6 X), trivial⟩, KnA.cut (KnA.rep (krs h6 X)), (krs h6 X).app ⟨kp2, trivial⟩, odd _ _ ky, trivial⟩ fun h7 z x7 H7 kz => fin h7 z (X.trans x7) (H7.le (by omega)) kz
  refine ⟨shp_int _, shp_int _, ifB (fun _ => ?_) (fun _ => ?_)⟩
  · refine .inl ⟨.tup y0, at0, .inl ⟨.tup y0, at0, by omega, .inl ⟨.tup ys, atS, fun p1 np1 => ⟨a, b + 5, rfl, H5.ex (Ex.new np1), by omega, fun h6 y x6 H6 ky => ⟨lz rfl, fun p2 np2 => ?_⟩⟩⟩⟩⟩
    have X : ExB a h h6 := (x15.trans (Ex.new np1).b).trans x6
    have m1 : p1 ≠ a := ne_fresh H5.ne np1
    have kp1 : Kn a M h6 (.ref p1) := ⟨m1, .inl ⟨ys, x6 _ _ m1 updD_same⟩⟩
    exact any_kn (N := M) H6 (by omega) np2 (by simp) (by show 3 ≤ 1000; decide) ⟨(ky0 h6 X).app (ky0 h6 X), kp1, odd _ _ ky, trivial⟩ fun h7 z x7 H7 kz => ⟨.tup rs, [s], z, rfl, by show 1 < 8; decide, e1, put h7 z [s] (X.trans x7) (H7.le (by omega)) kz e1⟩
  refine ⟨shp_int _, shp_int _, ifB (fun _ => ?_) (fun _ => ?_)⟩
  · have cl := cut_len (xs := zs) (lo := none) (hi := some 1)
    refine .inl ⟨.tup ys, atS, .inl ⟨.tup zs, atQ, by show zs.length + (PD.cutD zs none (some 1)).length ≤ sizeLine; omega, fun p1 np1 => ⟨a, b + 5, rfl, H5.ex (Ex.new np1), by omega, fun h6 y x6 H6 ky => ⟨lz rfl, fun p2 np2 => ?_⟩⟩⟩⟩
    have X : ExB a h h6 := (x15.trans (Ex.new np1).b).trans x6
    have m1 : p1 ≠ a := ne_fresh H5.ne np1
    have kp1 : Kn a M h6 (.ref p1) := ⟨m1, .inl ⟨zs, x6 _ _ m1 updD_same⟩⟩
    exact any_kn (N := M) H6 (by omega) np2 (by simp) (by show 4 ≤ 1000; decide) ⟨(kzs h6 X).app (KnA.cut (kzs h6 X)), KnA.cut (kzs h6 X), kp1, odd _ _ ky, trivial⟩ fun h7 z x7 H7 kz => ⟨.tup rs, [s, u], z, rfl, by show 2 < 8; decide, e2, put h7 z [s, u] (X.trans x7) (H7.le (by omega)) kz e2⟩
  refine ⟨shp_int _, shp_int _, ifB (fun _ => ?_) (fun _ => ?_)⟩
  · have cl := cut_len (xs := ss) (lo := none) (hi := some 1)
    refine ⟨by decide, by decide, by show 13 ≤ sizeLine; exact lz rfl, map_loop (fun x => D.tup [x, .tup [.int 1, .int 13], .int 0]) trivial _ [] (fun x hx k kk => ⟨lz rfl, lz rfl, kk⟩) fun p0 np0 => ⟨_, updD_same, by show ss.length + (PD.cutD ss none (some 1)).length ≤ sizeLine; omega, fun p1 np1 => ⟨a, b + 5, rfl, (H5.ex (Ex.new np0)).ex (Ex.new np1), by omega, fun h6 y x6 H6 ky => ⟨lz rfl, fun p2 np2 => ?_⟩⟩⟩⟩
    have X : ExB a h h6 := ((x15.trans (Ex.new np0).b).trans (Ex.new np1).b).trans x6
    have m1 : p1 ≠ a := ne_fresh (upd_some np0 H5.ne) np1
    have kp1 : Kn a M h6 (.ref p1) := ⟨m1, .inl ⟨ss, x6 _ _ m1 updD_same⟩⟩
    have km : KnA a M h6 ([] ++ (rgD 0 (13 : Int).toNat).map fun x => D.tup [x, .tup [.int 1, .int 13], .int 0]) := KnA.all.mpr fun z hz => by
      rw [List.nil_append] at hz
      obtain ⟨x, hx, rfl⟩ := List.mem_map.mp hz
      rw [rgD_eq] at hx
      obtain ⟨j, rfl, _, j2⟩ := rgF_mem hx
      have : (13 : Int).toNat = 13 := rfl
      simp only [Kn, KnA, and_true, true_and]
      omega
    exact any_kn (N := M) H6 (by omega) np2 (by simp) (by show 5 ≤ 1000; decide) ⟨(kss h6 X).app (KnA.cut (kss h6 X)), KnA.cut (kss h6 X), kp1, km, odd _ _ ky, trivial⟩ fun h7 z x7 H7 kz => ⟨.tup rs, [s, u, v], z, rfl, by show 3 < 8; decide, e3, put h7 z [s, u, v] (X.trans x7) (H7.le (by omega)) kz e3⟩
  obtain ⟨kw, ⟨kt, kb, _⟩, kg, _⟩ : Kn a N h (stD wd tp bt gl) := KnA.all.mp (KnA.all.mp (KnA.all.mp (KnA.all.mp kr _ hrS) _ hrQ) _ hrW) _ hrT
  have ktb : tp ≤ N ∧ bt ≤ N := ⟨kt.2, kb.2⟩
  refine .inl ⟨stD wd tp bt gl, atT, rfl, rfl, ?_⟩
  show cSeq _ _ _ [some (.ref a), some (.tup rs), some (.int nw), some (.int wo), some (.int ((v : Nat) : Int)), some (.tup ss), some (.int ((t : Nat) : Int)), some (.tup [.int ((s : Nat) : Int), .int ((u : Nat) : Int), .int ((v : Nat) : Int)]), some (.int k), some (.int ((s : Nat) : Int)), some (.int ((u : Nat) : Int)), none, none, some (.int wd), some (.tup [.int tp, .int bt]), some (.int gl), none, none] h5
  refine ⟨shp_int _, shp_int _, ifB (fun _ => ?_) (fun _ => ?_)⟩
  · have c2 : ∀ x : Int, 0 ≤ x → x ≤ 1000000000000000000000000000000 → CMulW 2 x := fun x x0 x1 => small_mul 10 110 (by decide) (by decide) x0 (by have := p110; omega) (by decide)
    refine ⟨lz rfl, .inl ⟨_, atI_nat (j := 0) rfl, c2 tp (by omega) (by omega), .inl ⟨_, atI_nat (j := 1) rfl, c2 bt (by omega) (by omega), lz rfl, lz rfl, lz rfl, lz rfl, lz rfl, fun p1 np1 => ⟨a, b + 5, rfl, H5.ex (Ex.new np1), by omega, fun h6 y x6 H6 ky => ⟨lz rfl, fun p2 np2 => ⟨lz rfl, lz rfl, ?_⟩⟩⟩⟩⟩⟩
    have X : ExB a h h6 := (x15.trans (Ex.new np1).b).trans x6
    have m1 : p1 ≠ a := ne_fresh H5.ne np1
    have kp1 : Kn a M h6 (.ref p1) := ⟨m1, .inl ⟨[.int 1, .int 1], x6 _ _ m1 updD_same⟩⟩
    have k1 : ∀ i j : Int, -10 ≤ i → i ≤ M → -10 ≤ j → j ≤ M → Kn a M h6 (.tup [.int i, .int j]) := fun i j i0 i1 j0 j1 => ⟨⟨by omega, i1⟩, ⟨by omega, j1⟩, trivial⟩
    exact any_kn (N := M) H6 (by omega) np2 (by simp) (by show 8 ≤ 1000; decide) ⟨k1 _ _ (by omega) (by omega) (by omega) (by omega), k1 _ _ (by omega) (by omega) (by omega) (by omega), k1 _ _ (by omega) (by omega) (by omega) (by omega), k1 _ _ (by omega) (by omega) (by omega) (by omega), ⟨trivial, ⟨by omega, by omega⟩, trivial⟩, kp1, ⟨by omega, by omega⟩, odd _ _ ky, trivial⟩ fun h7 z x7 H7 kz => ⟨.tup rs, [s, u, v, t, 1], z, rfl, by show 5 < 8; decide, e5 1 (by decide), put h7 z _ (X.trans x7) (H7.le (by omega)) kz (e5 1 (by decide))⟩
  refine ⟨shp_int _, shp_int _, ifB (fun _ => ?_) (fun _ => ?_)⟩
  · refine ⟨lz rfl, lz rfl, a, b + 5, rfl, H5, by omega, fun h6 y x6 H6 ky => ⟨lz rfl, fun p2 np2 => ?_⟩⟩
    have X := x15.trans x6
    exact any_kn (N := M) H6 (by omega) np2 (by simp) (by show 6 ≤ 1000; decide) ⟨⟨by omega, by omega⟩, ⟨by omega, by omega⟩, trivial, trivial, trivial, odd _ _ ky, trivial⟩ fun h7 z x7 H7 kz => ⟨.tup rs, [s, u, v, t, 0], z, rfl, by show 5 < 8; decide, e5 0 (by decide), put h7 z _ (X.trans x7) (H7.le (by omega)) kz (e5 0 (by decide))⟩
  refine ⟨shp_int _, shp_int _, ifB (fun _ => ?_) (fun _ => ?_)⟩
  · refine ⟨lz rfl, lz rfl, .inl ⟨a, b + 5, rfl, H5, by omega, fun h6 y x6 H6 ky => ⟨lz rfl, fun p2 np2 => ?_⟩⟩⟩
    have X := x15.trans x6
    exact any_kn (N := M) H6 (by omega) np2 (by simp) (by show 5 ≤ 1000; decide) ⟨⟨by omega, by omega⟩, ⟨by omega, by omega⟩, trivial, trivial, odd _ _ ky, trivial⟩ fun h7 z x7 H7 kz => ⟨.tup rs, [s, u, v, t, 2], z, rfl, by show 5 < 8; decide, e5 2 (by decide), put h7 z _ (X.trans x7) (H7.le (by omega)) kz (e5 2 (by decide))⟩
  refine ⟨shp_int _, shp_int _, ifB (fun _ => ?_) (fun _ => ?_)⟩
  · have cb : CMulW 2 bt := small_mul 10 110 (by decide) (by decide) (by omega) (by have := p110; omega) (by decide)
    have lg2 : (2 * bt).natAbs.log2 < 9000 := by
      have := few_small (i := 2 * bt) (by omega) 110 (by have := p110b; omega) (by decide)
      omega
    have c1 := cut_len (xs := ss) (lo := none) (hi := some ((t : Nat) : Int))
    have c2 := cut_len (xs := ss) (lo := some ((t : Nat) + 1 : Int)) (hi := none)
    have rb := red_bd (v := tp) (b := 2 * bt) (M := M) (by omega) (by omega) (by omega) (by omega)
    have kst : Kn a M h5 (.tup [.int wd, prD2 (redI tp (2 * bt)), .int gl]) := ⟨⟨by have := kw.1; omega, by have := kw.2; omega⟩, ⟨⟨by omega, rb.2.1⟩, ⟨by omega, rb.2.2.2⟩, trivial⟩, ⟨by have := kg.1; omega, by have := kg.2; omega⟩, trivial⟩
    refine .inl ⟨_, atI_nat (j := 0) rfl, .inl ⟨_, atI_nat (j := 1) rfl, cb, tp, 2 * bt, rfl, by omega, lg2, lz rfl, lz rfl, lz rfl, ?_, ?_, .tup rs, [s, u, v], _, rfl, by show 3 < 8; decide, e3, put h5 _ [s, u, v] x15 (H5.le (by omega)) (((KnA.cut (kss h5 x15)).app (show KnA a M h5 [_, _] from ⟨kst, kst, trivial⟩)).app (KnA.cut (kss h5 x15))) e3⟩⟩
    · show (PD.cutD ss none (some ((t : Nat) : Int))).length + 2 ≤ sizeLine
      omega
    · show ((PD.cutD ss none (some ((t : Nat) : Int))) ++ [_, _]).length + (PD.cutD ss (some ((t : Nat) + 1 : Int)) none).length ≤ sizeLine
      rw [List.length_append]
      show (PD.cutD ss none (some ((t : Nat) : Int))).length + 2 + _ ≤ _
      omega
  refine ⟨shp_int _, shp_int _, ifB (fun _ => ?_) (fun _ => ?_)⟩
  · refine ⟨lz rfl, lz rfl, fun p1 np1 => ⟨lz rfl, lz rfl, fun p2 np2 => ⟨lz rfl, lz rfl, ?_⟩⟩⟩
    have X : ExB a h (updD h5 p1 (.lst [.int wd, .tup [.int tp, .int bt], .int gl])) := x15.trans (Ex.new np1).b
    have kw' : ∀ h', Kn a M h' (.int wd) := fun h' => ⟨by have := kw.1; omega, by have := kw.2; omega⟩
    have kg' : ∀ h', Kn a M h' (.int gl) := fun h' => ⟨by have := kg.1; omega, by have := kg.2; omega⟩
    have ks' : ∀ h', Kn a M h' (.tup [.int tp, .int bt]) := fun h' => ⟨⟨by omega, by omega⟩, ⟨by omega, by omega⟩, trivial⟩
    exact any_kn (N := M) (H5.ex (Ex.new np1)) (by omega) np2 (by simp) (by show 4 ≤ 1000; decide) ⟨⟨kw' _, ks' _, trivial⟩, Kn.fresh np1 H5.ne _, ⟨ks' _, kw' _, kg' _, trivial⟩, ⟨by omega, by omega⟩, trivial⟩ fun h7 z x7 H7 kz => ⟨.tup rs, [s, u, v, t], z, rfl, by show 4 < 8; decide, e4, put h7 z _ (X.trans x7) (H7.le (by omega)) kz e4⟩
  exact fin h5 _ x15 (H5.le (by omega)) (krs h5 x15)
end
end K63

-- PdS
set_option Elab.async false
set_option linter.all false
set_option maxRecDepth 100000
set_option maxHeartbeats 4000000
/-! PdS: data of few signs: what repr and == ask of it. -/
namespace PD
open PySem PySem.Spec PyProof.Rows L2
/-- the text of x has at most L signs; x is at most d deep -/
structure Sm (L d : Nat) (x : D) : Prop where
  rf : PD.rf x = true
  sh : (toP x).showable = true
  len : (toP x).shown.length ≤ L
  dep : (toP x).depth ≤ d
  lay : (toP x).canLay0 = true
theorem Sm.le {L M d e : Nat} {x : D} (s : Sm L d x) (h : L ≤ M) (g : d ≤ e) : Sm M e x := ⟨s.rf, s.sh, Nat.le_trans s.len h, Nat.le_trans s.dep g, s.lay⟩
theorem Sm.shp {L d : Nat} {x : D} (s : Sm L d x) (h : d ≤ 64) : PD.shp x := ⟨s.rf, by
  show ((toP x).canLay0 && decide ((toP x).depth ≤ 64)) = true
  rw [s.lay, decide_eq_true (Nat.le_trans s.dep h)]; rfl⟩
theorem sm_int {i : Int} (h : i.natAbs < 10 ^ 31) : Sm 32 0 (.int i) := by
  refine ⟨rfl, ?_, ?_, Nat.le_refl _, rfl⟩
  · show decide (i.natAbs.log2 < 1920) = true
    have h2 : i.natAbs < 2 ^ 110 := Nat.lt_trans h (by decide)
    have := few_log h2 (by decide)
    exact decide_eq_true (by omega)
  · show (Str.ofString (toString i)).length ≤ 32
    rw [PySem.ofString_length]
    exact int_text_length_le10 (by decide) h
theorem sm_non : Sm 32 0 .non := ⟨rfl, rfl, by decide +kernel, Nat.le_refl _, rfl⟩
theorem sm_bl (b : Bool) : Sm 32 0 (.bl b) := ⟨rfl, rfl, by cases b <;> decide +kernel, Nat.le_refl _, rfl⟩
theorem sms {L d : Nat} : ∀ {xs : List D}, (∀ x ∈ xs, Sm L d x) → rfs xs = true ∧ PyData.showableAll (toPs xs) = true ∧ ((PyData.shownAll (toPs xs)).map (·.length)).sum + 2 * (PyData.shownAll (toPs xs)).length ≤ (L + 2) * xs.length ∧ PyData.depthAll (toPs xs) ≤ d ∧ PyData.canLayAll0 (toPs xs) = true
  | [], _ => ⟨rfl, rfl, Nat.le_refl _, Nat.zero_le _, rfl⟩
  | x :: xs, h => by
    have s := h x (List.mem_cons_self ..)
    obtain ⟨a, b, c, e, f⟩ := sms (xs := xs) fun y hy => h y (List.mem_cons_of_mem _ hy)
    refine ⟨?_, ?_, ?_, ?_, ?_⟩
    · show (PD.rf x && rfs xs) = true
      rw [s.rf, a]; rfl
    · show ((toP x).showable && PyData.showableAll (toPs xs)) = true
      rw [s.sh, b]; rfl
    · show (((toP x).shown :: PyData.shownAll (toPs xs)).map (·.length)).sum + 2 * ((toP x).shown :: PyData.shownAll (toPs xs)).length ≤ (L + 2) * (xs.length + 1)
      rw [List.map_cons, List.sum_cons, List.length_cons, Nat.mul_add, Nat.mul_add]
      have := s.len
      omega
    · show max (toP x).depth (PyData.depthAll (toPs xs)) ≤ d
      have := s.dep
      omega
    · show ((toP x).canLay0 && PyData.canLayAll0 (toPs xs)) = true
      rw [s.lay, f]; rfl
theorem sm_tup {L d : Nat} {xs : List D} (h : ∀ x ∈ xs, Sm L d x) : Sm ((L + 2) * xs.length + 3) (d + 1) (.tup xs) := by
  obtain ⟨a, b, c, e, f⟩ := sms h
  refine ⟨a, b, ?_, by show PyData.depthAll (toPs xs) + 1 ≤ d + 1; omega, f⟩
  show (tupleText (PyData.shownAll (toPs xs))).length ≤ _
  have := tupleText_len_le (PyData.shownAll (toPs xs))
  omega
theorem sm_tupN {L d n : Nat} {xs : List D} (hn : xs.length ≤ n) (h : ∀ x ∈ xs, Sm L d x) : Sm ((L + 2) * n + 3) (d + 1) (.tup xs) :=
  (sm_tup h).le (Nat.add_le_add_right (Nat.mul_le_mul_left _ hn) 3) (Nat.le_refl _)
theorem is_facts {L d : Nat} {x : D} {h : HD} (s : Sm L d x) (hL : L ≤ 10000000) (hd : d ≤ 100) : den h x (toP x) ∧ (toP x).showable = true ∧ (toP x).shown.length ≤ sizeLine ∧ (toP x).depth ≤ 100 :=
  ⟨.inl ⟨s.rf, rfl⟩, s.sh, Nat.le_trans s.len (by rw [sizeLine_eq]; omega), Nat.le_trans s.dep hd⟩
/-- two like things are found like -/
theorem is_same {L d : Nat} {x : D} {h : HD} {Q : DK} (s : Sm L d x) (hL : L ≤ 10000000) (hd : d ≤ 100) (q : Q (.bl true) h) : sp_l_is [x, x] h Q noX := by
  have z : L ≤ sizeLine := by rw [sizeLine_eq]; omega
  refine ⟨x, x, toP x, toP x, rfl, .inl ⟨s.rf, rfl⟩, .inl ⟨s.rf, rfl⟩, s.sh, s.sh, Nat.le_trans s.len z, Nat.le_trans s.len z, Nat.le_trans s.dep hd, Nat.le_trans s.dep hd, ?_⟩
  rw [decide_eq_true rfl]; exact q
/-- two lists of like things are found like -/
theorem is_sameL {L d : Nat} {xs : List D} {p p' : Addr} {h : HD} {Q : DK} (e : h p = some (.lst xs)) (e' : h p' = some (.lst xs)) (s : ∀ x ∈ xs, Sm L d x) (hL : (L + 2) * xs.length + 3 ≤ 10000000) (hd : d + 1 ≤ 100) (q : Q (.bl true) h) : sp_l_is [.ref p, .ref p'] h Q noX := by
  obtain ⟨a, b, c, e1, f⟩ := sms s
  have l : (PyData.list (toPs xs)).shown.length ≤ sizeLine := by
    show (listText (PyData.shownAll (toPs xs))).length ≤ _
    have := listText_len_le (PyData.shownAll (toPs xs))
    rw [sizeLine_eq]; omega
  have dd : (PyData.list (toPs xs)).depth ≤ 100 := by
    show PyData.depthAll (toPs xs) + 1 ≤ 100
    omega
  refine ⟨.ref p, .ref p', .list (toPs xs), .list (toPs xs), rfl, .inr ⟨p, xs, rfl, e, a, rfl⟩, .inr ⟨p', xs, rfl, e', a, rfl⟩, b, b, l, l, dd, dd, ?_⟩
  rw [decide_eq_true rfl]; exact q
theorem eqD_self (x : D) : eqD x x = true := PySem.SeqAt.eqv_refl_plain _ (plain_toP x)
end PD

-- K63X
set_option Elab.async false
set_option linter.all false
set_option maxRecDepth 100000
set_option maxHeartbeats 8000000
/-! K63X: the law itself. -/
namespace K63
open PySem PySem.Spec PyProof.Rows L2 PD
theorem n31 {i : Int} (h0 : -N30 ≤ i) (h1 : i ≤ N30) : i.natAbs < 10 ^ 31 := by
  have : (10 : Nat) ^ 31 = 10000000000000000000000000000000 := by decide
  have h0' : -1000000000000000000000000000000 ≤ i := h0
  have h1' : i ≤ 1000000000000000000000000000000 := h1
  omega
theorem st_sm {a : Addr} {h : HD} {u t b g : Int} (k : Kn a N30 h (stD u t b g)) : Sm 222 2 (stD u t b g) := by
  obtain ⟨⟨u0, u1⟩, ⟨⟨t0, t1⟩, ⟨b0, b1⟩, _⟩, ⟨g0, g1⟩, _⟩ := k
  have pr : Sm 71 1 (.tup [.int t, .int b]) := sm_tupN (L := 32) (d := 0) (n := 2) (Nat.le_refl _) fun x hx => by
    simp only [List.mem_cons, List.not_mem_nil, or_false] at hx
    rcases hx with rfl | rfl
    · exact sm_int (n31 t0 t1)
    · exact sm_int (n31 b0 b1)
  refine sm_tupN (L := 71) (d := 1) (n := 3) (Nat.le_refl _) fun x hx => ?_
  simp only [List.mem_cons, List.not_mem_nil, or_false] at hx
  rcases hx with rfl | rfl | rfl
  · exact (sm_int (n31 u0 u1)).le (by decide) (by decide)
  · exact pr
  · exact (sm_int (n31 g0 g1)).le (by decide) (by decide)
theorem good_sm {a : Addr} {h : HD} {nw : Int} {rs : List D} {q : Nat} (n5 : nw ≤ 5) (gd : Good nw rs q) (k : KnA a N30 h rs) : Sm 400000 6 (.tup rs) := by
  obtain ⟨_, l6, _, q4, gr⟩ := gd
  refine (sm_tupN (L := 53883) (d := 5) (n := 6) l6 fun r hr => ?_).le (by decide) (by decide)
  obtain ⟨ys, rfl, ly, gy⟩ := gr r hr
  have ky : KnA a N30 h ys := KnA.all.mp k _ hr
  refine sm_tupN (L := 13468) (d := 4) (n := 4) (by omega) fun y hy => ?_
  obtain ⟨zs, rfl, lz, gz⟩ := gy y hy
  have kz : KnA a N30 h zs := KnA.all.mp ky _ hy
  refine sm_tupN (L := 2691) (d := 3) (n := 5) (by omega) fun z hz => ?_
  obtain ⟨ss, rfl, _, ls, gs⟩ := gz z hz
  have ks : KnA a N30 h ss := KnA.all.mp kz _ hz
  refine sm_tupN (L := 222) (d := 2) (n := 12) ls fun s hs => ?_
  obtain ⟨u, t, b, g, rfl, _⟩ := gs s hs
  exact st_sm (KnA.all.mp ks _ hs)
theorem due_int {nw wo rows : D} (e : due nw wo rows = none) : ∃ n m, nw = .int n ∧ wo = .int m := by
  cases c1 : inW nw 1 5 with
  | false => rw [due_w c1] at e; cases e
  | true =>
  cases c2 : inW wo 1 6 with
  | false => rw [due_o c1 c2] at e; cases e
  | true =>
  obtain ⟨n, en, _⟩ := inW_int c1
  obtain ⟨m, em, _⟩ := inW_int c2
  exact ⟨n, m, en, em⟩
theorem due_sm3 {a : Addr} {h : HD} {nw wo rows : D} (e : due nw wo rows = none) (k1 : Kn a N30 h nw) (k2 : Kn a N30 h wo) (k3 : Kn a N30 h rows) : (∃ rs, rows = .tup rs) ∧ ∀ x ∈ [nw, wo, rows], Sm 400000 6 x := by
  obtain ⟨n, m, rfl, rfl⟩ := due_int e
  obtain ⟨rs, q, rfl, _, n5, _, _, gd⟩ := due_good e
  refine ⟨⟨rs, rfl⟩, fun x hx => ?_⟩
  simp only [List.mem_cons, List.not_mem_nil, or_false] at hx
  rcases hx with rfl | rfl | rfl
  · exact (sm_int (n31 k1.1 k1.2)).le (by decide) (by decide)
  · exact (sm_int (n31 k2.1 k2.2)).le (by decide) (by decide)
  · exact good_sm n5 gd k3
theorem worldBad_some {wo st s q : Int} : ∀ {xs : List D} {i : Nat} {p : D}, worldBad wo st s q i xs = some p → ∃ j : Nat, p = partD s q j ∧ j < i + xs.length
  | [], _, _, h => by cases h
  | y :: ys, i, p, h => by
    unfold worldBad at h
    cases c : areSteps wo st y with
    | true =>
      rw [if_pos c] at h
      obtain ⟨j, e, l⟩ := worldBad_some h
      exact ⟨j, e, by rw [List.length_cons]; omega⟩
    | false =>
      rw [if_neg (by rw [c]; decide)] at h
      exact ⟨i, (Option.some.inj h).symm, by rw [List.length_cons]; omega⟩
theorem questBad_some {nw wo st s : Int} (n5 : nw ≤ 5) : ∀ {xs : List D} {i : Nat} {p : D}, questBad nw wo st s i xs = some p → ∃ (j : Nat) (v : Int), p = partD s j v ∧ j < i + xs.length ∧ -1 ≤ v ∧ v ≤ 5
  | [], _, _, h => by cases h
  | y :: ys, i, p, h => by
    have bad : ∀ y : D, (∀ zs, y ≠ .tup zs) → questBad nw wo st s i (y :: ys) = some (partD s i (-1)) := fun y hy => by
      cases y with
      | tup zs => exact absurd rfl (hy zs)
      | _ => rfl
    by_cases ht : ∃ zs, y = .tup zs
    · obtain ⟨zs, rfl⟩ := ht
      have e : questBad nw wo st s i (.tup zs :: ys) = if decide ((zs.length : Int) = nw) = true then (match worldBad wo st s i 0 zs with
        | some p => some p
        | none => questBad nw wo st s (i + 1) ys) else some (partD s i (-1)) := rfl
      rw [e] at h
      by_cases c : (zs.length : Int) = nw
      · rw [if_pos (decide_eq_true c)] at h
        cases cw : worldBad wo st s i 0 zs with
        | some p' =>
          rw [cw] at h
          cases h
          obtain ⟨j, e, l⟩ := worldBad_some cw
          exact ⟨i, j, e, by rw [List.length_cons]; omega, by omega, by omega⟩
        | none =>
          rw [cw] at h
          obtain ⟨j, v, e, l, r⟩ := questBad_some n5 h
          exact ⟨j, v, e, by rw [List.length_cons]; omega, r⟩
      · rw [if_neg (by rw [decide_eq_false c]; decide)] at h
        exact ⟨i, -1, (Option.some.inj h).symm, by rw [List.length_cons]; omega, by omega, by omega⟩
    · rw [bad y fun zs z => ht ⟨zs, z⟩] at h
      exact ⟨i, -1, (Option.some.inj h).symm, by rw [List.length_cons]; omega, by omega, by omega⟩
theorem rowBad_some {nw wo st : Int} (n5 : nw ≤ 5) : ∀ {xs : List D} {i : Nat} {p : D}, (∀ r ∈ xs, ∃ ys, r = .tup ys ∧ ys.length ≤ 4) → rowBad nw wo st i xs = some p → ∃ (l j : Nat) (v : Int), p = partD l j v ∧ l < i + xs.length ∧ j ≤ 4 ∧ -1 ≤ v ∧ v ≤ 5
  | [], _, _, _, h => by cases h
  | y :: ys, i, p, g, h => by
    obtain ⟨zs, rfl, z4⟩ := g y (List.mem_cons_self ..)
    have e : rowBad nw wo st i (.tup zs :: ys) = (match questBad nw wo st i 0 zs with
      | some p => some p
      | none => rowBad nw wo st (i + 1) ys) := rfl
    rw [e] at h
    cases c : questBad nw wo st i 0 zs with
    | some p' =>
      rw [c] at h
      cases h
      obtain ⟨j, v, e, l, r⟩ := questBad_some n5 c
      exact ⟨i, j, v, e, by rw [List.length_cons]; omega, by omega, r⟩
    | none =>
      rw [c] at h
      obtain ⟨l, j, v, e, ll, r⟩ := rowBad_some n5 (fun r hr => g r (List.mem_cons_of_mem _ hr)) h
      exact ⟨l, j, v, e, by rw [List.length_cons]; omega, r⟩
theorem due_some {nw wo rows p : D} (e : due nw wo rows = some p) : (∃ ps, p = .tup ps) ∧ Sm 300 1 p := by
  have t1 : ∀ s : Str, Sm 32 0 (.str s) → Sm 300 1 (.tup [.str s]) := fun s hs => (sm_tupN (L := 32) (d := 0) (n := 1) (Nat.le_refl _) fun x hx => by
    simp only [List.mem_cons, List.not_mem_nil, or_false] at hx
    subst hx
    exact hs).le (by decide) (by decide)
  have s1 : Sm 32 0 (.str "worlds") := ⟨rfl, rfl, by decide +kernel, Nat.le_refl _, by decide +kernel⟩
  have s2 : Sm 32 0 (.str "words") := ⟨rfl, rfl, by decide +kernel, Nat.le_refl _, by decide +kernel⟩
  have s3 : Sm 32 0 (.str "rows") := ⟨rfl, rfl, by decide +kernel, Nat.le_refl _, by decide +kernel⟩
  have s4 : Sm 32 0 (.str "row") := ⟨rfl, rfl, by decide +kernel, Nat.le_refl _, by decide +kernel⟩
  cases c1 : inW nw 1 5 with
  | false => rw [due_w c1] at e; cases e; exact ⟨⟨_, rfl⟩, t1 _ s1⟩
  | true =>
  cases c2 : inW wo 1 6 with
  | false => rw [due_o c1 c2] at e; cases e; exact ⟨⟨_, rfl⟩, t1 _ s2⟩
  | true =>
  cases c3 : areRows rows with
  | false => rw [due_r c1 c2 c3] at e; cases e; exact ⟨⟨_, rfl⟩, t1 _ s3⟩
  | true =>
  obtain ⟨n, rfl, n1, n5⟩ := inW_int c1
  obtain ⟨m, rfl, m1, m6⟩ := inW_int c2
  obtain ⟨rs, rfl⟩ := rows_is c3
  rw [due_k c1 c2 c3] at e
  have c' : (szd (.tup rs) 1 6 && (rs.all fun r => szd r 1 4) && rs.all fun r => decide (lenT r = lenT (rs.headD .non))) = true := c3
  rw [Bool.and_eq_true, Bool.and_eq_true] at c'
  obtain ⟨l1, l6⟩ := len6 c'.1.1
  obtain ⟨l, j, v, rfl, ll, j4, v0, v5⟩ := rowBad_some n5 (fun r hr => by
    obtain ⟨ys, e, y4, _⟩ := rows_tup c3 r hr
    exact ⟨ys, e, y4⟩) e
  refine ⟨⟨_, rfl⟩, (sm_tupN (L := 32) (d := 0) (n := 4) (Nat.le_refl _) fun x hx => ?_).le (by decide) (by decide)⟩
  have : (10 : Nat) ^ 31 = 10000000000000000000000000000000 := by decide
  simp only [List.mem_cons, List.not_mem_nil, or_false] at hx
  rcases hx with rfl | rfl | rfl | rfl
  · exact s4
  · exact sm_int (by omega)
  · exact sm_int (by omega)
  · exact sm_int (by omega)

section
variable {P : Program} {w : World} {K : PySem.W.Frag} {W : En → XD} {h : HD} {Q : DK} {Z : DE} {E : XD}
theorem tell {T : CS} {a : Addr} {o0 o2 o3 o5 o8 o9 o10 o11 : Option D} {nw wo rows : D} (k1 : Kn a N30 h nw) (k2 : Kn a N30 h wo) (k3 : Kn a N30 h rows)
    (q1 : ∀ p h', Ex h h' → due nw wo rows = some p → T Z [o0, some (.ref a), o2, o3, some rows, o5, some nw, some wo, some p, some .non, o10, o11] h')
    (q2 : ∀ x h', Ex h h' → due nw wo rows = none → h x = none → isM K h' x nw wo rows → T Z [o0, some (.ref a), o2, o3, some rows, o5, some nw, some wo, some .non, some (.ref x), o10, o11] h') :
    cSeq (cAsg (cFn (sp_l_told K) (fun _ => noX) (cCons (cVar 6) (cCons (cVar 7) (cCons (cVar 4) cNil)))) (cGTup 2 (cGCons (cName 8) (cGCons (cName 9) cGNil)))) (cSeq (cIfS (cNot (cT (cFn sp_l_is (fun _ => noX) (cCons (cVar 8) (cCons (cFn sp_l_due (fun _ => noX) (cCons (cVar 6) (cCons (cVar 7) (cCons (cVar 4) cNil)))) cNil))))) (cRet (cC (.bl false))) cNext) T)
      Z [o0, some (.ref a), o2, o3, some rows, o5, some nw, some wo, o8, o9, o10, o11] h := by
  refine ⟨a, nw, wo, rows, rfl, k1, k2, k3, fun h1 x1 => ?_⟩
  have d2 : ∀ (x m : D) (h' : HD), Ex h h' → Sm 300 1 (optD (due nw wo rows)) → x = optD (due nw wo rows) → (∀ h2, Ex h h2 → Ex h' h2 → T Z [o0, some (.ref a), o2, o3, some rows, o5, some nw, some wo, some x, some m, o10, o11] h2) →
      cSeq (cIfS (cNot (cT (cFn sp_l_is (fun _ => noX) (cCons (cVar 8) (cCons (cFn sp_l_due (fun _ => noX) (cCons (cVar 6) (cCons (cVar 7) (cCons (cVar 4) cNil)))) cNil))))) (cRet (cC (.bl false))) cNext) T Z [o0, some (.ref a), o2, o3, some rows, o5, some nw, some wo, some x, some m, o10, o11] h' := fun x m h' xh sm ex q => by
    refine ⟨a, nw, wo, rows, rfl, Kn.ex xh.b k1, Kn.ex xh.b k2, Kn.ex xh.b k3, fun h2 x2 => ?_⟩
    subst ex
    obtain ⟨f1, f2, f3, f4⟩ := is_facts (h := h2) sm (by decide) (by decide)
    exact ⟨_, _, _, _, rfl, f1, f1, f2, f2, f3, f3, f4, f4, ifF (c := !decide (_ = _)) (by simp) (q h2 (xh.trans x2) x2)⟩
  cases hd : due nw wo rows with
  | some p =>
    refine ⟨rfl, rfl, ?_⟩
    exact d2 p .non h1 x1 (by rw [hd]; exact (due_some hd).2) (by rw [hd]; rfl) fun h2 x2 _ => q1 p h2 x2 hd
  | none =>
    refine fun x nx m => ⟨rfl, rfl, ?_⟩
    refine d2 .non (.ref x) h1 x1 (by rw [hd]; exact sm_non.le (by decide) (by decide)) (by rw [hd]; rfl) fun h2 x2 x12 => q2 x h2 x2 hd nx ?_
    obtain ⟨dx, e⟩ := m
    exact ⟨dx, x12 _ _ e⟩
theorem same3 (hC : Cls K (He.ga K "Machine")) (h1 : NoAttr K (He.ga K "Machine") "worlds") (h2 : NoAttr K (He.ga K "Machine") "words") (h3 : NoAttr K (He.ga K "Machine") "rows") {a x : Addr} {o0 o1 o2 o3 o5 o8 o10 o11 : Option D} {nw wo rows : D} {k : DK}
    (e : due nw wo rows = none) (k1 : Kn a N30 h nw) (k2 : Kn a N30 h wo) (k3 : Kn a N30 h rows) (m : isM K h x nw wo rows) (q : ∀ h', Ex h h' → k (.bl true) h') :
    cFn sp_l_is (fun _ => noX) (cCons (cLst (cCons (cFld K (cVar 9) "worlds") (cCons (cFld K (cVar 9) "words") (cCons (cFld K (cVar 9) "rows") cNil)))) (cCons (cLst (cCons (cVar 6) (cCons (cVar 7) (cCons (cVar 4) cNil)))) cNil))
      [o0, o1, o2, o3, some rows, o5, some nw, some wo, o8, some (.ref x), o10, o11] h k := by
  obtain ⟨dx, ex⟩ := m
  refine ⟨_, dx, _, _, ex, hC, h1, rfl, ⟨_, dx, _, _, ex, hC, h2, rfl, ⟨_, dx, _, _, ex, hC, h3, rfl, lz rfl, fun p1 np1 => ⟨lz rfl, fun p2 np2 => ?_⟩⟩⟩⟩
  have x2 : Ex (updD h p1 (.lst [nw, wo, rows])) (updD (updD h p1 (.lst [nw, wo, rows])) p2 (.lst [nw, wo, rows])) := .new np2
  refine is_sameL (x2 _ _ updD_same) updD_same (due_sm3 e k1 k2 k3).2 (by show (400000 + 2) * 3 + 3 ≤ 10000000; decide) (by decide) (q _ ((Ex.new np1).trans x2))
theorem p_lp1 (hC : Cls K (He.ga K "Machine")) (c1 : NoAttr K (He.ga K "Machine") "worlds") (c2 : NoAttr K (He.ga K "Machine") "words") (c3 : NoAttr K (He.ga K "Machine") "rows") {a kp : Addr} {o0 o10 o11 : Option D} {ok : HD → Prop} (hok : ∀ h, ok h) (nk : kp ≠ a) :
    ∀ (xs : List D) (b : Nat) (o3 o4 o5 o6 o7 o8 o9 : Option D) (h : HD), Hand h a b → b + 100 * xs.length ≤ 10 ^ 12 → h kp = some (.lst []) →
      (∀ h' o3 o4 o5 o6 o7 o8 o9, ExB a h h' → Hand h' a (b + 100 * xs.length) → h' kp = some (.lst []) → Z.nx [o0, some (.ref a), some (.ref kp), o3, o4, o5, o6, o7, o8, o9, o10, o11] h') →
      cLoop ok (cName 3) (b_law_1 P w K W) Z xs [o0, some (.ref a), some (.ref kp), o3, o4, o5, o6, o7, o8, o9, o10, o11] h
  | [], b, o3, o4, o5, o6, o7, o8, o9, h, H, hb, e, q => ⟨hok h, q h _ _ _ _ _ _ _ (.refl _ _) H e⟩
  | x :: xs, b, o3, o4, o5, o6, o7, o8, o9, h, H, hb, e, q => by
    rw [List.length_cons] at hb
    refine ⟨hok h, a, b, rfl, H, by omega, fun h1 nw wo rows x1 H1 k1 k2 k3 => ⟨rfl, rfl, ?_⟩⟩
    have l100 : (100 : Int) ≤ N30 := by decide
    have k1 := Kn.le l100 k1
    have k2 := Kn.le l100 k2
    have k3 := Kn.le l100 k3
    have nxt : ∀ h' o8 o9, Ex h1 h' → cLoop ok (cName 3) (b_law_1 P w K W) Z xs [o0, some (.ref a), some (.ref kp), some x, some rows, o5, some nw, some wo, o8, o9, o10, o11] h' := fun h' o8 o9 x' =>
      p_lp1 hC c1 c2 c3 hok nk xs (b + 100) _ _ _ _ _ _ _ h' (H1.ex x') (by omega) (x' _ _ (x1 kp _ nk e)) fun h2 o3 o4 o5 o6 o7 o8 o9 x2 H2 e2 => q h2 _ _ _ _ _ _ _ ((x1.trans x'.b).trans x2) (H2.le (by rw [List.length_cons]; omega)) e2
    refine tell k1 k2 k3 (fun p h2 x2 hd => ?_) (fun m h2 x2 hd nm mm => ?_)
    · exact nxt h2 _ _ x2
    · exact same3 hC c1 c2 c3 hd (Kn.ex x2.b k1) (Kn.ex x2.b k2) (Kn.ex x2.b k3) mm fun h3 x3 => nxt h3 _ _ (x2.trans x3)
end
end K63

-- K63Y
set_option Elab.async false
set_option linter.all false
set_option maxRecDepth 100000
set_option maxHeartbeats 8000000
/-! K63Y: the law itself, its second loop. -/
namespace K63
open PySem PySem.Spec PyProof.Rows L2 PD
section
variable {P : Program} {w : World} {K : PySem.W.Frag} {W : En → XD} {h : HD} {Q : DK} {Z : DE} {E : XD}
theorem bend {a : Addr} {ok : HD → Prop} (hok : ∀ h, ok h) {o0 o2 o3 o8 o9 o10 o11 : Option D} {nw wo : Int} (kn : -N30 ≤ nw ∧ nw ≤ N30) (kw : -N30 ≤ wo ∧ wo ≤ N30) : ∀ (xs : List D) (b : Nat) (M : Int) (rows : D) (o5 : Option D) (h : HD), Hand h a b → b + 2000 * xs.length ≤ 10 ^ 12 → Kn a M h rows → 10 ^ 29 ≤ M → M * (2 : Int) ^ xs.length ≤ N30 →
    (∀ h' rows o5, ExB a h h' → Hand h' a (b + 2000 * xs.length) → Kn a N30 h' rows → Z.nx [o0, some (.ref a), o2, o3, some rows, o5, some (.int nw), some (.int wo), o8, o9, o10, o11] h') →
    cLoop ok (cName 5) (b_law_3 P w K W) Z xs [o0, some (.ref a), o2, o3, some rows, o5, some (.int nw), some (.int wo), o8, o9, o10, o11] h
  | [], b, M, rows, o5, h, H, hb, k, m0, m1, q => ⟨hok h, q h rows o5 (.refl _ _) H (Kn.le (by simpa using m1) k)⟩
  | x :: xs, b, M, rows, o5, h, H, hb, k, m0, m1, q => by
    rw [List.length_cons] at hb
    rw [List.length_cons, Int.pow_succ] at m1
    have p0 : (0 : Int) < (2 : Int) ^ xs.length := Int.pow_pos (by decide)
    have m2 : (2 * M) * (2 : Int) ^ xs.length ≤ N30 := by
      have : (2 * M) * (2 : Int) ^ xs.length = M * ((2 : Int) ^ xs.length * 2) := by rw [Int.mul_comm 2 M, Int.mul_assoc, Int.mul_comm 2]
      rw [this]; exact m1
    have e29 : (10 : Int) ^ 29 = 100000000000000000000000000000 := by decide
    have m3 : 2 * M ≤ N30 := by
      have : 2 * M * 1 ≤ (2 * M) * (2 : Int) ^ xs.length := Int.mul_le_mul_of_nonneg_left p0 (by omega)
      omega
    refine ⟨hok h, a, .int nw, .int wo, rows, rfl, kn, kw, Kn.le (by omega) k, fun h1 x1 => ?_⟩
    cases hd : due (.int nw) (.int wo) rows with
    | some p =>
      obtain ⟨⟨ps, rfl⟩, _⟩ := due_some hd
      exact bend hok kn kw xs b M rows (some x) h1 (H.ex x1) (by omega) (Kn.ex x1.b k) m0 (Int.le_trans (Int.mul_le_mul_of_nonneg_right (by omega) (Int.le_of_lt p0)) m2) fun h' rows' o5 x' H' k' => q h' rows' o5 (x1.b.trans x') (H'.le (by rw [List.length_cons]; omega)) k'
    | none =>
      refine ⟨a, b, M, rows, nw, wo, rfl, H.ex x1, by omega, Kn.ex x1.b k, by omega, by omega, hd, fun h2 y x2 H2 k2 => ?_⟩
      rw [show max (2 * M) (10 ^ 29) = 2 * M by omega] at k2
      exact bend hok kn kw xs (b + 2000) (2 * M) y (some x) h2 H2 (by omega) k2 (by omega) m2 fun h' rows' o5 x' H' k' => q h' rows' o5 ((x1.b.trans x2).trans x') (H'.le (by rw [List.length_cons]; omega)) k'
/-- now and then another number -/
theorem maybe {a : Addr} {b i : Nat} {z : Int} {x : D} {ρ : En} (H : Hand h a b) (hb : b ≤ 10 ^ 12) (z0 : 0 ≤ z) (z1 : z ≤ 10) (e1 : ρ[1]? = some (some (.ref a))) (ei : ρ[i]? = some (some x)) (kx : Kn a N30 h x)
    (q : ∀ h' y, ExB a h h' → Hand h' a (b + 300) → Kn a N30 h' y → Z.nx (ρ.set i (some y)) h') :
    cIfS (cT (cOp cEq (cFn sp_l_draw (fun _ => noX) (cCons (cVar 1) (cCons (cC (.int 8)) cNil))) (cC (.int 0)))) (cSet i (cFn sp_l_any (fun _ => noX) (cCons (cVar 1) (cCons (cLst (cCons (cC (.int 0)) (cCons (cC (.int z)) (cCons (cFn sp_l_odd (fun _ => noX) (cCons (cVar 1) cNil)) cNil)))) cNil)))) cNext Z ρ h := by
  have h15 : (10 : Nat) ^ 15 = 1000000000000000 := by decide
  have h13 : (10 : Nat) ^ 13 = 10000000000000 := by decide
  have h12 : (10 : Nat) ^ 12 = 1000000000000 := by decide
  show cVar 1 ρ h _
  rw [cVar_eq e1]
  refine draw_ok H (by omega) (by decide) (by decide) (fun h1 j x1 H1 j0 j1 => ?_)
  refine ⟨shp_int _, shp_int _, ifB (fun _ => ?_) (fun _ => ?_)⟩
  · dsimp only [cSet, cFn, cCons, cLst, cC, cNil]
    rw [cVar_eq e1]
    rw [cVar_eq e1]
    refine ⟨a, b + 1, rfl, H1, by omega, fun h2 y x2 H2 ky => ⟨lz rfl, fun p np => ?_⟩⟩
    have e29 : (10 : Int) ^ 29 = 100000000000000000000000000000 := by decide
    exact any_kn (N := N30) H2 (by omega) np (by simp) (by show 3 ≤ 1000; decide) ⟨⟨by decide, by decide⟩, ⟨by show -1000000000000000000000000000000 ≤ z; omega, by show z ≤ 1000000000000000000000000000000; omega⟩, Kn.le (show (10 : Int) ^ 29 ≤ N30 by decide) ky, trivial⟩ fun h3 y x3 H3 ky => q h3 y ((x1.trans x2).trans x3) (H3.le (by omega)) ky
  · have := q h1 x x1 (H1.le (by omega)) (Kn.ex x1 kx)
    rwa [show ρ.set i (some x) = ρ from by
      obtain ⟨hi, e⟩ := List.getElem?_eq_some_iff.mp ei
      rw [← e, List.set_getElem_self]] at this
/-- a machine that is kept -/
def KeptD (K : PySem.W.Frag) (h : HD) (y : D) : Prop := ∃ x nw wo rows, y = .tup [.ref x, .tup [nw, wo, rows]] ∧ isM K h x nw wo rows ∧ shp (.tup [nw, wo, rows])
theorem KeptD.ex {a : Addr} {b : Nat} {h' : HD} {y : D} (H : Hand h a b) (x : ExB a h h') (k : KeptD K h y) : KeptD K h' y := by
  obtain ⟨m, nw, wo, rows, e, ⟨dx, ex⟩, s⟩ := k
  obtain ⟨c, ns, p, g, st, n, eh, _⟩ := H
  exact ⟨m, nw, wo, rows, e, ⟨dx, x m _ (fun z => by rw [z, eh] at ex; cases ex) ex⟩, s⟩
theorem KeptD.upd {p : Addr} {xs ys : List D} {y : D} (e : h p = some (.lst xs)) (k : KeptD K h y) : KeptD K (updD h p (.lst ys)) y := by
  obtain ⟨m, nw, wo, rows, e2, ⟨dx, ex⟩, s⟩ := k
  exact ⟨m, nw, wo, rows, e2, ⟨dx, by rw [updD_ne (fun z => by rw [z, e] at ex; cases ex)]; exact ex⟩, s⟩
theorem any_false {xs : List D} (f : D → Bool) (hf : ∀ x ∈ xs, f x = false) : (xs.map f).any id = false := by
  rw [List.any_map, List.any_eq_false]
  intro x hx
  simp [hf x hx]
/-- behind the machine: what == and != tell -/
theorem eqs (hT : PySem.W.notFirst K (He.ga K "Machine") (.type "tuple") = true) (hI : PySem.W.notFirst K (He.ga K "Machine") (.type "int") = true) (hM : PySem.W.notFirst K (He.ga K "Machine") (.ref (He.ga K "Machine")) = true)
    {a kp x : Addr} {b : Nat} {ks : List D} {o0 o3 o5 o8 o10 o11 : Option D} {nw wo rows : D} (H : Hand h a b) (nk : kp ≠ a) (ek : h kp = some (.lst ks)) (lk : ks.length ≤ 100) (kk : ∀ y ∈ ks, KeptD K h y)
    (e : due nw wo rows = none) (k1 : Kn a N30 h nw) (k2 : Kn a N30 h wo) (k3 : Kn a N30 h rows) (m : isM K h x nw wo rows) (q : ∀ h' y, Ex h h' → KeptD K h' y → h' kp = some (.lst ks) → Z.nx [o0, some (.ref a), some (.ref kp), o3, some rows, o5, some nw, some wo, o8, some (.ref x), o10, o11] (updD h' kp (.lst (ks ++ [y])))) :
    (cSeq (cIfS (cOr (cT (cOp (cNeI (He.ga K "Machine") (sp_Machine_eq K)) (cVar 9) (cMake (He.ga K "Machine") (sp_Machine_init K) (fun _ => noX) (cCons (cVar 6) (cCons (cVar 7) (cCons (cCall cTuple (cCons (cCall cList (cCons (cVar 4) cNil)) cNil)) cNil)))))) (cOr (cT (cOp (cEqI K (He.ga K "Machine") (sp_Machine_eq K)) (cVar 9) (cVar 4))) (cT (cOp (cEqI K (He.ga K "Machine") (sp_Machine_eq K)) (cVar 9) (cC (.int 0)))))) (cRet (cC (.bl false))) cNext) (cSeq (cIfS (cT (cCall (cBools fun bs => bs.any id) (cCons (cLc (cSrcA P w (cVar 2)) (.many [10, 11]) cYes (cOp cNe (cOp (cEqI K (He.ga K "Machine") (sp_Machine_eq K)) (cVar 9) (cVar 10)) (cOp cEq (cTup (cCons (cVar 6) (cCons (cVar 7) (cCons (cVar 4) cNil)))) (cVar 11))) [10, 11]) cNil))) (cRet (cC (.bl false))) cNext) (cDrop (cLm (cVar 2) (cCons (cTup (cCons (cVar 9) (cCons (cTup (cCons (cVar 6) (cCons (cVar 7) (cCons (cVar 4) cNil)))) cNil))) cNil) cApp))))
      Z [o0, some (.ref a), some (.ref kp), o3, some rows, o5, some nw, some wo, o8, some (.ref x), o10, o11] h := by
  obtain ⟨⟨rs, rfl⟩, sm⟩ := due_sm3 e k1 k2 k3
  have sh : shp (.tup [nw, wo, .tup rs]) := (sm_tup sm).shp (by decide)
  refine fun p1 np1 => ⟨rs, updD_same, ?_⟩
  have x1 : Ex h (updD h p1 (.lst rs)) := .new np1
  intro y dy ny nd ne
  have x2 : Ex h (updD (updD h p1 (.lst rs)) y (.ins (He.ga K "Machine") dy [])) := x1.new' ny
  refine ⟨a, y, _, dy, nw, wo, .tup rs, rfl, rfl, updD_same, Kn.ex x2.b k1, Kn.ex x2.b k2, Kn.ex x2.b k3, fun h3 x3 => ?_⟩
  rw [e]
  intro ey
  have nh : h y = none := by
    cases z : h y with
    | none => rfl
    | some o => rw [x1 _ _ z] at ny; cases ny
  have xh : Ex h h3 := fun c o ec => x3 c o (fun z => by rw [z, nh] at ec; cases ec) (x2 c o ec)
  have H3 := H.ex xh
  have m3 : isM K h3 x nw wo (.tup rs) := by
    obtain ⟨dx, ex⟩ := m
    exact ⟨dx, xh _ _ ex⟩
  have my : isM K h3 y nw wo (.tup rs) := ⟨dy, ey⟩
  obtain ⟨dx3, ex3⟩ := id m3
  refine ⟨rfl, ⟨x, dx3, _, rfl, ex3⟩, ⟨y, dy, _, rfl, ey⟩, .inl ⟨x, y, nw, wo, .tup rs, nw, wo, .tup rs, rfl, m3, my, sh, sh, true, by rw [eqD_self], ?_⟩⟩
  refine ⟨⟨x, dx3, _, rfl, ex3⟩, ⟨.type "tuple", rfl, hT⟩, .inr ⟨x, .tup rs, .tup, nw, wo, .tup rs, rfl, m3, rfl, .inr rfl, trivial, ?_⟩⟩
  refine ⟨⟨x, dx3, _, rfl, ex3⟩, ⟨.type "int", rfl, hI⟩, .inr ⟨x, .int 0, .int, nw, wo, .tup rs, rfl, m3, rfl, .inl rfl, trivial, ?_⟩⟩
  have ek3 := xh kp _ ek
  have kk3 : ∀ z ∈ ks, KeptD K h3 z := fun z hz => (kk z hz).ex H xh.b
  refine .inl ⟨ks, ek3, by show ks.length ≤ sizeLine; rw [sizeLine_eq]; omega, map_loop (fun z => D.bl ((fun z : D => match z with
    | .tup [_, parts] => !eqD (.bl (eqD (.tup [nw, wo, .tup rs]) parts)) (.bl (eqD (.tup [nw, wo, .tup rs]) parts))
    | _ => false) z)) ek3 ks [] (fun z hz k kz => ?_) fun p4 np4 => ?_⟩
  · obtain ⟨mx, nw', wo', rows', rfl, mm, ss⟩ := kk3 z hz
    obtain ⟨dm, em⟩ := id mm
    refine ⟨rfl, ⟨x, dx3, _, rfl, ex3⟩, ⟨.ref (He.ga K "Machine"), ⟨_, dm, _, em, rfl⟩, hM⟩, .inl ⟨x, mx, nw, wo, .tup rs, nw', wo', rows', rfl, m3, mm, sh, ss, trivial, ?_⟩⟩
    exact ⟨lz rfl, sh, ss, shp_bl _, shp_bl _, kz⟩
  · refine ⟨_, by rw [updD_same, map_bl], ?_⟩
    refine ifF (any_false _ fun z hz => ?_) ?_
    · obtain ⟨mx, nw', wo', rows', rfl, mm, ss⟩ := kk3 z hz
      show (!eqD _ _) = false
      rw [eqD_self]; rfl
    · have x4 : Ex h3 (updD h3 p4 (.lst ([] ++ ks.map fun z => D.bl ((fun z : D => match z with
        | .tup [_, parts] => !eqD (.bl (eqD (.tup [nw, wo, .tup rs]) parts)) (.bl (eqD (.tup [nw, wo, .tup rs]) parts))
        | _ => false) z)))) := .new np4
      refine ⟨⟨kp, ks, rfl, x4 _ _ ek3⟩, lz rfl, lz rfl, ks, x4 _ _ ek3, by rw [sizeLine_eq]; omega, ?_⟩
      exact q _ _ (xh.trans x4) ⟨x, nw, wo, .tup rs, rfl, ⟨dx3, x4 _ _ ex3⟩, sh⟩ (x4 _ _ ek3)
end
end K63

-- K63Z
set_option Elab.async false
set_option linter.all false
set_option maxRecDepth 100000
set_option maxHeartbeats 8000000
/-! K63Z: the law itself, whole. -/
namespace K63
open PySem PySem.Spec PyProof.Rows L2 PD
section
variable {P : Program} {w : World} {K : PySem.W.Frag} {W : En → XD} {h : HD} {Q : DK} {Z : DE} {E : XD}
theorem rgD_len (n : Nat) : (rgD 0 n).length = n := by rw [rgD_eq, rgF_len]
theorem p_lp2 (hC : Cls K (He.ga K "Machine")) (c1 : NoAttr K (He.ga K "Machine") "worlds") (c2 : NoAttr K (He.ga K "Machine") "words") (c3 : NoAttr K (He.ga K "Machine") "rows")
    (hT : PySem.W.notFirst K (He.ga K "Machine") (.type "tuple") = true) (hI : PySem.W.notFirst K (He.ga K "Machine") (.type "int") = true) (hM : PySem.W.notFirst K (He.ga K "Machine") (.ref (He.ga K "Machine")) = true)
    {a kp : Addr} {o0 : Option D} {ok : HD → Prop} (hok : ∀ h, ok h) {h0 : HD} {b0 : Nat} (J : Hand h0 a b0) (nk : h0 kp = none) (q : ∀ h' ρ, Z.nx ρ h') :
    ∀ (xs : List D) (b : Nat) (ks : List D) (o3 o4 o5 o6 o7 o8 o9 o10 o11 : Option D) (h : HD), Hand h a b → b + 100000 * xs.length ≤ 10 ^ 11 → ExB a h0 h → h kp = some (.lst ks) → ks.length + xs.length ≤ 100 → (∀ y ∈ ks, KeptD K h y) →
      cLoop ok (cName 3) (b_law_2 P w K W) Z xs [o0, some (.ref a), some (.ref kp), o3, o4, o5, o6, o7, o8, o9, o10, o11] h
  | [], b, ks, o3, o4, o5, o6, o7, o8, o9, o10, o11, h, H, hb, x0, e, lk, kk => ⟨hok h, q _ _⟩
  | x :: xs, b, ks, o3, o4, o5, o6, o7, o8, o9, o10, o11, h, H, hb, x0, e, lk, kk => by
    rw [List.length_cons] at hb lk
    have h15 : (10 : Nat) ^ 15 = 1000000000000000 := by decide
    have h12 : (10 : Nat) ^ 12 = 1000000000000 := by decide
    have h11 : (10 : Nat) ^ 11 = 100000000000 := by decide
    have hb : b + 100000 * (xs.length + 1) ≤ 100000000000 := hb
    have na : kp ≠ a := fun z => by rw [z] at nk; exact J.ne nk
    have nxt : ∀ h' ks' o4 o5 o6 o7 o8 o9, Hand h' a (b + 100000) → ExB a h0 h' → h' kp = some (.lst ks') → ks'.length ≤ ks.length + 1 → (∀ y ∈ ks', KeptD K h' y) → cLoop ok (cName 3) (b_law_2 P w K W) Z xs [o0, some (.ref a), some (.ref kp), some x, o4, o5, o6, o7, o8, o9, o10, o11] h' := fun h' ks' o4 o5 o6 o7 o8 o9 H' x' e' l' k' =>
      p_lp2 hC c1 c2 c3 hT hI hM hok J nk q xs (b + 100000) ks' _ _ _ _ _ _ _ _ _ h' H' (by omega) x' e' (by omega) k'
    refine ⟨hok h, ?_⟩
    refine ⟨a, _, 5, rfl, H, by omega, by decide, lg (by decide) (by decide), fun h1 i x1 H1 i0 i1 => ?_⟩
    refine ⟨a, _, 6, rfl, H1, by omega, by decide, lg (by decide) (by decide), fun h2 j x2 H2 j0 j1 => ⟨lz rfl, rfl, rfl, ?_⟩⟩
    refine ⟨a, _, 4, rfl, H2, by omega, by decide, lg (by decide) (by decide), fun h3 qn x3 H3 q0 q1 => ?_⟩
    refine ⟨a, _, 6, rfl, H3, by omega, by decide, lg (by decide) (by decide), fun h4 sn x4 H4 s0 s1 => ?_⟩
    refine ⟨a, b + 4, 1 + i, 1 + j, 1 + qn, 1 + sn, rfl, H4, by omega, by omega, by omega, by omega, by omega, by omega, by omega, by omega, by omega, fun h5 rows x5 H5 k5 => ?_⟩
    refine ⟨a, _, 3, rfl, H5, by omega, by decide, lg (by decide) (by decide), fun h6 n x6 H6 n0 n1 => ⟨by omega, by omega, ?_⟩⟩
    have kn : -N30 ≤ 1 + i ∧ 1 + i ≤ N30 := ⟨by show -1000000000000000000000000000000 ≤ 1 + i; omega, by show 1 + i ≤ 1000000000000000000000000000000; omega⟩
    have kw : -N30 ≤ 1 + j ∧ 1 + j ≤ N30 := ⟨by show -1000000000000000000000000000000 ≤ 1 + j; omega, by show 1 + j ≤ 1000000000000000000000000000000; omega⟩
    have x16 := ((((x1.trans x2).trans x3).trans x4).trans x5).trans x6
    have ln := rgD_len n.toNat
    refine bend (fun _ => trivial) kn kw (rgD 0 n.toNat) (b + 10005) (10 ^ 29) rows _ h6 (H6.le (by omega)) (by rw [ln]; omega) (Kn.le (by decide) (Kn.ex x6 k5)) (Int.le_refl _) ?_ fun h7 rows' o5 x7 H7 k7 => ?_
    · rw [ln]
      have : n = 0 ∨ n = 1 ∨ n = 2 := by omega
      rcases this with rfl | rfl | rfl <;> decide
    rw [ln] at H7
    refine maybe (i := 6) (z := 6) (x := .int (1 + i)) (ρ := [o0, some (.ref a), some (.ref kp), some x, some rows', o5, some (.int (1 + i)), some (.int (1 + j)), o8, o9, o10, o11]) H7 (by omega) (by decide) (by decide) rfl rfl kn fun h8 y6 x8 H8 k8 => ?_
    refine maybe (i := 7) (z := 7) (x := .int (1 + j)) (ρ := [o0, some (.ref a), some (.ref kp), some x, some rows', o5, some y6, some (.int (1 + j)), o8, o9, o10, o11]) H8 (by omega) (by decide) (by decide) rfl rfl kw fun h9 y7 x9 H9 k9 => ?_
    have X9 := ((x16.trans x7).trans x8).trans x9
    have k7' := Kn.ex (x8.trans x9) k7
    have k8' := Kn.ex x9 k8
    refine tell k8' k9 k7' (fun p h10 x10 hd => ?_) (fun m h10 x10 hd nm mm => ?_)
    · have X := X9.trans x10.b
      exact nxt h10 ks _ _ _ _ _ _ ((H9.ex x10).le (by omega)) (x0.trans X) (X kp _ na e) (by omega) fun y hy => (kk y hy).ex H X
    · refine same3 hC c1 c2 c3 hd (Kn.ex x10.b k8') (Kn.ex x10.b k9) (Kn.ex x10.b k7') mm fun h11 x11 => ?_
      have xx := x10.trans x11
      have X := X9.trans xx.b
      have m11 : isM K h11 m y6 y7 rows' := by
        obtain ⟨dx, ex⟩ := mm
        exact ⟨dx, x11 _ _ ex⟩
      have H11 := H9.ex xx
      refine eqs hT hI hM H11 na (X kp _ na e) (by omega) (fun y hy => (kk y hy).ex H X) hd (Kn.ex xx.b k8') (Kn.ex xx.b k9) (Kn.ex xx.b k7') m11 fun h12 y x12 ky e12 => ?_
      have X12 := X.trans x12.b
      refine nxt _ (ks ++ [y]) _ _ _ _ _ _ (((H11.ex x12).le (by omega)) |> fun z => Hand.put J nk (x0.trans X12) z) ((x0.trans X12).upd nk) updD_same (by rw [List.length_append]; exact Nat.le_refl _) fun z hz => ?_
      rcases List.mem_append.mp hz with hz | hz
      · exact (((kk z hz).ex H X12)).upd e12
      · rw [List.mem_singleton] at hz
        subst hz
        exact ky.upd e12
theorem p_law (hC : Cls K (He.ga K "Machine")) (c1 : NoAttr K (He.ga K "Machine") "worlds") (c2 : NoAttr K (He.ga K "Machine") "words") (c3 : NoAttr K (He.ga K "Machine") "rows")
    (hT : PySem.W.notFirst K (He.ga K "Machine") (.type "tuple") = true) (hI : PySem.W.notFirst K (He.ga K "Machine") (.type "int") = true) (hM : PySem.W.notFirst K (He.ga K "Machine") (.ref (He.ga K "Machine")) = true)
    (ds : List D) (h : HD) (Q : DK) (E : XD) (hs : sp_law ds h Q E) : t_law P w K W { nx := fun _ h' => Q .non h', rt := Q } (startD N_law ds) h := by
  obtain ⟨ns, rfl, hl, _, q⟩ := hs
  refine ⟨ns, rfl, hl, fun h1 a x1 na H1 => ⟨lz rfl, fun kp nk => ?_⟩⟩
  have nka : kp ≠ a := fun z => by rw [z] at nk; exact H1.ne nk
  have e0 : updD h1 kp (.lst []) kp = some (.lst []) := updD_same
  refine ⟨by decide, by decide, ?_⟩
  refine p_lp1 hC c1 c2 c3 (fun _ => trivial) nka (rgD 0 (40 : Int).toNat) 0 _ _ _ _ _ _ _ _ (H1.ex (Ex.new nk)) (by rw [rgD_len]; decide) e0 fun h2 o3 o4 o5 o6 o7 o8 o9 x2 H2 e2 => ?_
  refine ⟨by decide, by decide, ?_⟩
  exact p_lp2 hC c1 c2 c3 hT hI hM (fun _ => trivial) H1 nk (fun h' ρ => q h') (rgD 0 (8 : Int).toNat) _ [] _ _ _ _ _ _ _ _ _ h2 H2 (by rw [rgD_len, rgD_len]; decide) ((Ex.new nk).b.trans x2) e2 (by rw [rgD_len]; decide) fun y hy => (by cases hy)
end
end K63

-- K63A
set_option Elab.async false
set_option linter.all false
set_option maxRecDepth 100000
set_option maxHeartbeats 4000000
/-! printed by gen.py: the walks of the defs -/
namespace K63
open PySem PySem.Spec PyProof.Rows L2 PD

/-! ### is_integer -/
abbrev s_is_integer : Stmt := atS PySem.Challenge.pw_tellsless_k63_machines_refused 4
abbrev N_is_integer : List Str := [("thing" : Str)]
theorem sc_is_integer : FnScope N_is_integer [("thing" : Str)] (defScope s_is_integer) := ⟨rfl, rfl, rfl, by decide +kernel, rfl, by decide +kernel, by decide +kernel⟩
theorem w_is_integer {P : Program} {w : World} {K : PySem.W.Frag} {mg : Str → Option Value} {base : Heap} {f : Addr} {fd : FuncData} (L : Lib mg) 
    (F : Fun K "is_integer" "is_integer" s_is_integer f fd) (ln : ∀ ds h Q E, sp_is_integer ds h Q E → ds.length = 1)
    (pl : ∀ ds h Q E', sp_is_integer ds h Q E' → t_is_integer P w K (fun _ => noX) { nx := fun _ h' => Q .non h', rt := Q } (startD N_is_integer ds) h) : GF P w K mg base 1 f fd [("thing" : Str)] sp_is_integer := by
  refine gf_of (k := 0) F sc_is_integer ln fun cdv A outer s H E ds h Q E' hr hg kx hs => ?_
  · have ru := room_u hr
    exact ⟨t_is_integer P w K (fun _ => noX), (qss_one (qs_ret (qe_and (qe_callB cd_isi rfl (L.n "isinstance") b_isinstance (qa_cons (qv 0) (qa_cons (qe_ty (L.n "int") b_int) qa_nil))) (qe_one (qe_not (qe_callB cd_isi rfl (L.n "isinstance") b_isinstance (qa_cons (qv 0) (qa_cons (qe_ty (L.n "bool") b_bool) qa_nil)))))))), pl ds h Q E' hs⟩
/-! ### is_within -/
abbrev s_is_within : Stmt := atS PySem.Challenge.pw_tellsless_k63_machines_refused 5
abbrev N_is_within : List Str := [("thing" : Str), ("least" : Str), ("most" : Str)]
theorem sc_is_within : FnScope N_is_within [("thing" : Str), ("least" : Str), ("most" : Str)] (defScope s_is_within) := ⟨rfl, rfl, rfl, by decide +kernel, rfl, by decide +kernel, by decide +kernel⟩
theorem w_is_within {P : Program} {w : World} {K : PySem.W.Frag} {mg : Str → Option Value} {base : Heap} {f : Addr} {fd : FuncData} (L : Lib mg) (D_is_integer : Dn P w K mg base "is_integer" 1 [("thing" : Str)] sp_is_integer)
    (F : Fun K "is_within" "is_within" s_is_within f fd) (ln : ∀ ds h Q E, sp_is_within ds h Q E → ds.length = 3)
    (pl : ∀ ds h Q E', sp_is_within ds h Q E' → t_is_within P w K (fun _ => noX) { nx := fun _ h' => Q .non h', rt := Q } (startD N_is_within ds) h) : GF P w K mg base 2 f fd [("thing" : Str), ("least" : Str), ("most" : Str)] sp_is_within := by
  refine gf_of (k := 1) F sc_is_within ln fun cdv A outer s H E ds h Q E' hr hg kx hs => ?_
  · have ru := room_u hr
    exact ⟨t_is_within P w K (fun _ => noX), (qss_one (qs_ret (qe_and (qe_fn D_is_integer (hr.mono (by omega)) hg TkD.none (qa_cons (qv 0) qa_nil)) (qe_one (qe_chain od_le od_le (qv 1) (qv 0) (qv 2)))))), pl ds h Q E' hs⟩
/-! ### is_sized -/
abbrev s_is_sized : Stmt := atS PySem.Challenge.pw_tellsless_k63_machines_refused 6
abbrev N_is_sized : List Str := [("thing" : Str), ("least" : Str), ("most" : Str)]
theorem sc_is_sized : FnScope N_is_sized [("thing" : Str), ("least" : Str), ("most" : Str)] (defScope s_is_sized) := ⟨rfl, rfl, rfl, by decide +kernel, rfl, by decide +kernel, by decide +kernel⟩
theorem w_is_sized {P : Program} {w : World} {K : PySem.W.Frag} {mg : Str → Option Value} {base : Heap} {f : Addr} {fd : FuncData} (L : Lib mg) 
    (F : Fun K "is_sized" "is_sized" s_is_sized f fd) (ln : ∀ ds h Q E, sp_is_sized ds h Q E → ds.length = 3)
    (pl : ∀ ds h Q E', sp_is_sized ds h Q E' → t_is_sized P w K (fun _ => noX) { nx := fun _ h' => Q .non h', rt := Q } (startD N_is_sized ds) h) : GF P w K mg base 1 f fd [("thing" : Str), ("least" : Str), ("most" : Str)] sp_is_sized := by
  refine gf_of (k := 0) F sc_is_sized ln fun cdv A outer s H E ds h Q E' hr hg kx hs => ?_
  · have ru := room_u hr
    exact ⟨t_is_sized P w K (fun _ => noX), (qss_one (qs_ret (qe_and (qe_callB cd_isi rfl (L.n "isinstance") b_isinstance (qa_cons (qv 0) (qa_cons (qe_ty (L.n "tuple") b_tuple) qa_nil))) (qe_one (qe_chain od_le od_le (qv 1) (qe_callB cd_lenA rfl (L.n "len") b_len (qa_cons (qv 0) qa_nil)) (qv 2)))))), pl ds h Q E' hs⟩
/-! ### is_pair -/
abbrev s_is_pair : Stmt := atS PySem.Challenge.pw_tellsless_k63_machines_refused 7
abbrev N_is_pair : List Str := [("thing" : Str)]
theorem sc_is_pair : FnScope N_is_pair [("thing" : Str)] (defScope s_is_pair) := ⟨rfl, rfl, rfl, by decide +kernel, rfl, by decide +kernel, by decide +kernel⟩
theorem w_is_pair {P : Program} {w : World} {K : PySem.W.Frag} {mg : Str → Option Value} {base : Heap} {f : Addr} {fd : FuncData} (L : Lib mg) 
    (F : Fun K "is_pair" "is_pair" s_is_pair f fd) (ln : ∀ ds h Q E, sp_is_pair ds h Q E → ds.length = 1)
    (pl : ∀ ds h Q E', sp_is_pair ds h Q E' → t_is_pair P w K (fun _ => noX) { nx := fun _ h' => Q .non h', rt := Q } (startD N_is_pair ds) h) : GF P w K mg base 1 f fd [("thing" : Str)] sp_is_pair := by
  refine gf_of (k := 0) F sc_is_pair ln fun cdv A outer s H E ds h Q E' hr hg kx hs => ?_
  · have ru := room_u hr
    exact ⟨t_is_pair P w K (fun _ => noX), (qss_one (qs_ret (qe_and (qe_callB cd_isi rfl (L.n "isinstance") b_isinstance (qa_cons (qv 0) (qa_cons (qe_ty (L.n "tuple") b_tuple) qa_nil))) (qe_one (qe_cmp (od_eq (uu ru)) (qe_callB cd_lenA rfl (L.n "len") b_len (qa_cons (qv 0) qa_nil)) qe_int))))), pl ds h Q E' hs⟩
/-! ### is_triple -/
abbrev s_is_triple : Stmt := atS PySem.Challenge.pw_tellsless_k63_machines_refused 8
abbrev N_is_triple : List Str := [("thing" : Str)]
theorem sc_is_triple : FnScope N_is_triple [("thing" : Str)] (defScope s_is_triple) := ⟨rfl, rfl, rfl, by decide +kernel, rfl, by decide +kernel, by decide +kernel⟩
theorem w_is_triple {P : Program} {w : World} {K : PySem.W.Frag} {mg : Str → Option Value} {base : Heap} {f : Addr} {fd : FuncData} (L : Lib mg) 
    (F : Fun K "is_triple" "is_triple" s_is_triple f fd) (ln : ∀ ds h Q E, sp_is_triple ds h Q E → ds.length = 1)
    (pl : ∀ ds h Q E', sp_is_triple ds h Q E' → t_is_triple P w K (fun _ => noX) { nx := fun _ h' => Q .non h', rt := Q } (startD N_is_triple ds) h) : GF P w K mg base 1 f fd [("thing" : Str)] sp_is_triple := by
  refine gf_of (k := 0) F sc_is_triple ln fun cdv A outer s H E ds h Q E' hr hg kx hs => ?_
  · have ru := room_u hr
    exact ⟨t_is_triple P w K (fun _ => noX), (qss_one (qs_ret (qe_and (qe_callB cd_isi rfl (L.n "isinstance") b_isinstance (qa_cons (qv 0) (qa_cons (qe_ty (L.n "tuple") b_tuple) qa_nil))) (qe_one (qe_cmp (od_eq (uu ru)) (qe_callB cd_lenA rfl (L.n "len") b_len (qa_cons (qv 0) qa_nil)) qe_int))))), pl ds h Q E' hs⟩
/-! ### divisor -/
abbrev s_divisor : Stmt := atS PySem.Challenge.pw_tellsless_k63_machines_refused 12
abbrev N_divisor : List Str := [("one" : Str), ("other" : Str)]
theorem sc_divisor : FnScope N_divisor [("one" : Str), ("other" : Str)] (defScope s_divisor) := ⟨rfl, rfl, rfl, by decide +kernel, rfl, by decide +kernel, by decide +kernel⟩
theorem w_divisor {P : Program} {w : World} {K : PySem.W.Frag} {mg : Str → Option Value} {base : Heap} {f : Addr} {fd : FuncData} (L : Lib mg) 
    (F : Fun K "divisor" "divisor" s_divisor f fd) (ln : ∀ ds h Q E, sp_divisor ds h Q E → ds.length = 2)
    (pl : ∀ ds h Q E', sp_divisor ds h Q E' → t_divisor P w K (fun _ => noX) { nx := fun _ h' => Q .non h', rt := Q } (startD N_divisor ds) h) : GF P w K mg base 1 f fd [("one" : Str), ("other" : Str)] sp_divisor := by
  refine gf_of (k := 0) F sc_divisor ln fun cdv A outer s H E ds h Q E' hr hg kx hs => ?_
  · have ru := room_u hr
    exact ⟨t_divisor P w K (fun _ => noX), (qss_cons (qs_par rfl sc_divisor.nd rfl rfl (by decide) rfl rfl (qa_cons (qe_callB cd_abs rfl (L.n "abs") b_abs (qa_cons (qv 0) qa_nil)) (qa_cons (qe_callB cd_abs rfl (L.n "abs") b_abs (qa_cons (qv 1) qa_nil)) qa_nil)) (by rfl)) (qss_cons (qs_while (passes_of rfl) (qt_cmp (od_ne (uu ru)) (qv 1) qe_int) (qss_one (qs_par rfl sc_divisor.nd rfl rfl (by decide) rfl rfl (qa_cons (qv 1) (qa_cons (qe_op od_mod (qv 0) (qv 1)) qa_nil)) (by rfl)))) (qss_one (qs_ret (qv 0))))), pl ds h Q E' hs⟩
/-! ### lowest -/
abbrev s_lowest : Stmt := atS PySem.Challenge.pw_tellsless_k63_machines_refused 13
abbrev N_lowest : List Str := [("top" : Str), ("bottom" : Str), ("common" : Str)]
theorem sc_lowest : FnScope N_lowest [("top" : Str), ("bottom" : Str)] (defScope s_lowest) := ⟨rfl, rfl, rfl, by decide +kernel, rfl, by decide +kernel, by decide +kernel⟩
theorem w_lowest {P : Program} {w : World} {K : PySem.W.Frag} {mg : Str → Option Value} {base : Heap} {f : Addr} {fd : FuncData} (L : Lib mg) (D_divisor : Dn P w K mg base "divisor" 1 [("one" : Str), ("other" : Str)] sp_divisor)
    (F : Fun K "lowest" "lowest" s_lowest f fd) (ln : ∀ ds h Q E, sp_lowest ds h Q E → ds.length = 2)
    (pl : ∀ ds h Q E', sp_lowest ds h Q E' → t_lowest P w K (fun _ => noX) { nx := fun _ h' => Q .non h', rt := Q } (startD N_lowest ds) h) : GF P w K mg base 2 f fd [("top" : Str), ("bottom" : Str)] sp_lowest := by
  refine gf_of (k := 1) F sc_lowest ln fun cdv A outer s H E ds h Q E' hr hg kx hs => ?_
  · have ru := room_u hr
    exact ⟨t_lowest P w K (fun _ => noX), (qss_cons (qs_set sc_lowest.nd rfl (by first | exact .inl rfl | exact .inr rfl) (qe_if (qt_cmp od_gt (qv 1) qe_int) (qe_fn D_divisor (hr.mono (by omega)) hg TkD.none (qa_cons (qv 0) (qa_cons (qv 1) qa_nil))) (qe_un ud_neg (qe_fn D_divisor (hr.mono (by omega)) hg TkD.none (qa_cons (qv 0) (qa_cons (qv 1) qa_nil)))))) (qss_one (qs_ret (qe_tup (qa_cons (qe_op od_fdiv (qv 0) (qv 2)) (qa_cons (qe_op od_fdiv (qv 1) (qv 2)) qa_nil)))))), pl ds h Q E' hs⟩
/-! ### plus -/
abbrev s_plus : Stmt := atS PySem.Challenge.pw_tellsless_k63_machines_refused 14
abbrev N_plus : List Str := [("one" : Str), ("other" : Str)]
theorem sc_plus : FnScope N_plus [("one" : Str), ("other" : Str)] (defScope s_plus) := ⟨rfl, rfl, rfl, by decide +kernel, rfl, by decide +kernel, by decide +kernel⟩
theorem w_plus {P : Program} {w : World} {K : PySem.W.Frag} {mg : Str → Option Value} {base : Heap} {f : Addr} {fd : FuncData} (L : Lib mg) (D_lowest : Dn P w K mg base "lowest" 2 [("top" : Str), ("bottom" : Str)] sp_lowest)
    (F : Fun K "plus" "plus" s_plus f fd) (ln : ∀ ds h Q E, sp_plus ds h Q E → ds.length = 2)
    (pl : ∀ ds h Q E', sp_plus ds h Q E' → t_plus P w K (fun _ => noX) { nx := fun _ h' => Q .non h', rt := Q } (startD N_plus ds) h) : GF P w K mg base 3 f fd [("one" : Str), ("other" : Str)] sp_plus := by
  refine gf_of (k := 2) F sc_plus ln fun cdv A outer s H E ds h Q E' hr hg kx hs => ?_
  · have ru := room_u hr
    exact ⟨t_plus P w K (fun _ => noX), (qss_one (qs_ret (qe_fn D_lowest (hr.mono (by omega)) hg TkD.none (qa_cons (qe_op od_add (qe_op od_mul (qe_ix (xd_any (uu ru)) (qv 0) qe_int (fun _ _ => rfl)) (qe_ix (xd_any (uu ru)) (qv 1) qe_int (fun _ _ => rfl))) (qe_op od_mul (qe_ix (xd_any (uu ru)) (qv 1) qe_int (fun _ _ => rfl)) (qe_ix (xd_any (uu ru)) (qv 0) qe_int (fun _ _ => rfl)))) (qa_cons (qe_op od_mul (qe_ix (xd_any (uu ru)) (qv 0) qe_int (fun _ _ => rfl)) (qe_ix (xd_any (uu ru)) (qv 1) qe_int (fun _ _ => rfl))) qa_nil))))), pl ds h Q E' hs⟩
/-! ### total -/
abbrev s_total : Stmt := atS PySem.Challenge.pw_tellsless_k63_machines_refused 15
abbrev N_total : List Str := [("fractions" : Str), ("found" : Str), ("one" : Str)]
theorem sc_total : FnScope N_total [("fractions" : Str)] (defScope s_total) := ⟨rfl, rfl, rfl, by decide +kernel, rfl, by decide +kernel, by decide +kernel⟩
theorem w_total {P : Program} {w : World} {K : PySem.W.Frag} {mg : Str → Option Value} {base : Heap} {f : Addr} {fd : FuncData} (L : Lib mg) (D_plus : Dn P w K mg base "plus" 3 [("one" : Str), ("other" : Str)] sp_plus) (g_NOUGHT : GD K mg "NOUGHT" (.tup [(.int 0), (.int 1)]))
    (F : Fun K "total" "total" s_total f fd) (ln : ∀ ds h Q E, sp_total ds h Q E → ds.length = 1)
    (pl : ∀ ds h Q E', sp_total ds h Q E' → t_total P w K (fun _ => noX) { nx := fun _ h' => Q .non h', rt := Q } (startD N_total ds) h) : GF P w K mg base 4 f fd [("fractions" : Str)] sp_total := by
  refine gf_of (k := 3) F sc_total ln fun cdv A outer s H E ds h Q E' hr hg kx hs => ?_
  · have ru := room_u hr
    exact ⟨t_total P w K (fun _ => noX), (qss_cons (qs_set sc_total.nd rfl (by first | exact .inl rfl | exact .inr rfl) (qe_gd g_NOUGHT)) (qss_cons (qs_for (passes_of rfl) rfl (qi_any (qv 0)) (qg_name sc_total.nd rfl (by first | exact .inl rfl | exact .inr rfl)) (qss_one (qs_set sc_total.nd rfl (by first | exact .inl rfl | exact .inr rfl) (qe_fn D_plus (hr.mono (by omega)) hg TkD.none (qa_cons (qv 1) (qa_cons (qv 2) qa_nil)))))) (qss_one (qs_ret (qv 1))))), pl ds h Q E' hs⟩
/-! ### is_fraction -/
abbrev s_is_fraction : Stmt := atS PySem.Challenge.pw_tellsless_k63_machines_refused 16
abbrev N_is_fraction : List Str := [("thing" : Str)]
theorem sc_is_fraction : FnScope N_is_fraction [("thing" : Str)] (defScope s_is_fraction) := ⟨rfl, rfl, rfl, by decide +kernel, rfl, by decide +kernel, by decide +kernel⟩
theorem w_is_fraction {P : Program} {w : World} {K : PySem.W.Frag} {mg : Str → Option Value} {base : Heap} {f : Addr} {fd : FuncData} (L : Lib mg) (D_is_integer : Dn P w K mg base "is_integer" 1 [("thing" : Str)] sp_is_integer) (D_is_pair : Dn P w K mg base "is_pair" 1 [("thing" : Str)] sp_is_pair) (D_divisor : Dn P w K mg base "divisor" 1 [("one" : Str), ("other" : Str)] sp_divisor)
    (F : Fun K "is_fraction" "is_fraction" s_is_fraction f fd) (ln : ∀ ds h Q E, sp_is_fraction ds h Q E → ds.length = 1)
    (pl : ∀ ds h Q E', sp_is_fraction ds h Q E' → t_is_fraction P w K (fun _ => noX) { nx := fun _ h' => Q .non h', rt := Q } (startD N_is_fraction ds) h) : GF P w K mg base 2 f fd [("thing" : Str)] sp_is_fraction := by
  refine gf_of (k := 1) F sc_is_fraction ln fun cdv A outer s H E ds h Q E' hr hg kx hs => ?_
  · have ru := room_u hr
    exact ⟨t_is_fraction P w K (fun _ => noX), (qss_cons (qs_if (QW.t (qw_or (qt_not (qt_val (qe_fn D_is_pair (hr.mono (by omega)) hg TkD.none (qa_cons (qv 0) qa_nil)))) (qw_or (qt_not (qt_val (qe_fn D_is_integer (hr.mono (by omega)) hg TkD.none (qa_cons (qe_ix (xd_any (uu ru)) (qv 0) qe_int (fun _ _ => rfl)) qa_nil)))) (qw_or1 (qt_not (qt_val (qe_fn D_is_integer (hr.mono (by omega)) hg TkD.none (qa_cons (qe_ix (xd_any (uu ru)) (qv 0) qe_int (fun _ _ => rfl)) qa_nil)))))))) (qss_one (qs_ret qe_bl)) qss_nil) (qss_one (qs_ret (qe_and (qe_cmp od_gt (qe_ix (xd_any (uu ru)) (qv 0) qe_int (fun _ _ => rfl)) qe_int) (qe_one (qe_cmp (od_eq (uu ru)) (qe_fn D_divisor (hr.mono (by omega)) hg TkD.none (qa_cons (qe_ix (xd_any (uu ru)) (qv 0) qe_int (fun _ _ => rfl)) (qa_cons (qe_ix (xd_any (uu ru)) (qv 0) qe_int (fun _ _ => rfl)) qa_nil))) qe_int)))))), pl ds h Q E' hs⟩
/-! ### is_share -/
abbrev s_is_share : Stmt := atS PySem.Challenge.pw_tellsless_k63_machines_refused 17
abbrev N_is_share : List Str := [("thing" : Str)]
theorem sc_is_share : FnScope N_is_share [("thing" : Str)] (defScope s_is_share) := ⟨rfl, rfl, rfl, by decide +kernel, rfl, by decide +kernel, by decide +kernel⟩
theorem w_is_share {P : Program} {w : World} {K : PySem.W.Frag} {mg : Str → Option Value} {base : Heap} {f : Addr} {fd : FuncData} (L : Lib mg) (D_is_fraction : Dn P w K mg base "is_fraction" 2 [("thing" : Str)] sp_is_fraction)
    (F : Fun K "is_share" "is_share" s_is_share f fd) (ln : ∀ ds h Q E, sp_is_share ds h Q E → ds.length = 1)
    (pl : ∀ ds h Q E', sp_is_share ds h Q E' → t_is_share P w K (fun _ => noX) { nx := fun _ h' => Q .non h', rt := Q } (startD N_is_share ds) h) : GF P w K mg base 3 f fd [("thing" : Str)] sp_is_share := by
  refine gf_of (k := 2) F sc_is_share ln fun cdv A outer s H E ds h Q E' hr hg kx hs => ?_
  · have ru := room_u hr
    exact ⟨t_is_share P w K (fun _ => noX), (qss_one (qs_ret (qe_and (qe_fn D_is_fraction (hr.mono (by omega)) hg TkD.none (qa_cons (qv 0) qa_nil)) (qe_one (qe_chain (od_lt (u0 ru)) od_le qe_int (qe_ix (xd_any (uu ru)) (qv 0) qe_int (fun _ _ => rfl)) (qe_ix (xd_any (uu ru)) (qv 0) qe_int (fun _ _ => rfl))))))), pl ds h Q E' hs⟩
/-! ### are_shares -/
abbrev s_are_shares : Stmt := atS PySem.Challenge.pw_tellsless_k63_machines_refused 18
abbrev N_are_shares : List Str := [("things" : Str), ("one" : Str)]
theorem sc_are_shares : FnScope N_are_shares [("things" : Str)] (defScope s_are_shares) := ⟨rfl, rfl, rfl, by decide +kernel, rfl, by decide +kernel, by decide +kernel⟩
theorem w_are_shares {P : Program} {w : World} {K : PySem.W.Frag} {mg : Str → Option Value} {base : Heap} {f : Addr} {fd : FuncData} (L : Lib mg) (D_total : Dn P w K mg base "total" 4 [("fractions" : Str)] sp_total) (D_is_share : Dn P w K mg base "is_share" 3 [("thing" : Str)] sp_is_share) (g_ONE : GD K mg "ONE" (.tup [(.int 1), (.int 1)]))
    (F : Fun K "are_shares" "are_shares" s_are_shares f fd) (ln : ∀ ds h Q E, sp_are_shares ds h Q E → ds.length = 1)
    (pl : ∀ ds h Q E', sp_are_shares ds h Q E' → t_are_shares P w K (fun _ => noX) { nx := fun _ h' => Q .non h', rt := Q } (startD N_are_shares ds) h) : GF P w K mg base 5 f fd [("things" : Str)] sp_are_shares := by
  refine gf_of (k := 4) F sc_are_shares ln fun cdv A outer s H E ds h Q E' hr hg kx hs => ?_
  · have ru := room_u hr
    exact ⟨t_are_shares P w K (fun _ => noX), (qss_one (qs_ret (qe_and (qe_callB (cd_all rfl) rfl (L.n "all") b_all (qa_cons (qe_lc (own := [("one", 1)]) rfl sc_are_shares.nd (qi_any (qv 0)) (show BlkOk N_are_shares (defScope s_are_shares) _ [("one", 1)] from ⟨rfl, by decide +kernel, by decide +kernel, by decide +kernel, by decide +kernel⟩) (by decide) (fun _ _ _ _ _ => (tg_one sc_are_shares.nd rfl (.inl rfl) (K := _))) (fun _ _ _ _ _ => qts_nil) (fun _ _ _ _ _ => (qe_fn D_is_share (hr.mono (by omega)) hg TkD.none (qa_cons (qv 1) qa_nil)))) qa_nil)) (qe_one (qe_cmp (od_eq (uu ru)) (qe_fn D_total (hr.mono (by omega)) hg TkD.none (qa_cons (qv 0) qa_nil)) (qe_gd g_ONE)))))), pl ds h Q E' hs⟩
/-! ### _law_hand -/
abbrev s_l_hand : Stmt := atS PySem.Challenge.pw_tellsless_k63_machines_refused 31
abbrev N_l_hand : List Str := [("_law_script" : Str), ("_law_cells" : Str), ("_law_cell" : Str)]
theorem sc_l_hand : FnScope N_l_hand [("_law_script" : Str)] (defScope s_l_hand) := ⟨rfl, rfl, rfl, by decide +kernel, rfl, by decide +kernel, by decide +kernel⟩
theorem w_l_hand {P : Program} {w : World} {K : PySem.W.Frag} {mg : Str → Option Value} {base : Heap} {f : Addr} {fd : FuncData} (L : Lib mg) 
    (F : Fun K "_law_hand" "_law_hand" s_l_hand f fd) (ln : ∀ ds h Q E, sp_l_hand ds h Q E → ds.length = 1)
    (pl : ∀ ds h Q E', sp_l_hand ds h Q E' → t_l_hand P w K (fun _ => noX) { nx := fun _ h' => Q .non h', rt := Q } (startD N_l_hand ds) h) : GF P w K mg base 1 f fd [("_law_script" : Str)] sp_l_hand := by
  refine gf_of (k := 0) F sc_l_hand ln fun cdv A outer s H E ds h Q E' hr hg kx hs => ?_
  · have ru := room_u hr
    exact ⟨t_l_hand P w K (fun _ => noX), (qss_cons (qs_setLc (own := [("_law_cell", 2)]) rfl sc_l_hand.nd rfl rfl (sw_true rfl rfl rfl rfl) (qi_any (qe_slice (qv 0) qo_none (qo_some qe_int))) (show BlkOk N_l_hand (defScope s_l_hand) _ [("_law_cell", 2)] from ⟨rfl, by decide +kernel, by decide +kernel, by decide +kernel, by decide +kernel⟩) (by decide) (fun _ _ _ _ _ => (tg_one sc_l_hand.nd rfl (.inl rfl) (K := _))) (fun _ _ _ _ _ => qts_nil) (fun _ _ _ _ _ => (qe_callB cd_abs rfl (L.n "abs") b_abs (qa_cons (qe_callTy cd_int rfl (L.n "int") b_int (qa_cons (qv 2) qa_nil)) qa_nil)))) (qss_one (qs_ret (qe_lst (qa_cons (qv 1) (qa_cons qe_int (qa_cons qe_int (qa_cons (qe_op od_add qe_int (qe_callB cd_lenA rfl (L.n "len") b_len (qa_cons (qv 1) qa_nil))) (qa_cons qe_int qa_nil))))))))), pl ds h Q E' hs⟩
/-! ### _law_draw -/
abbrev s_l_draw : Stmt := atS PySem.Challenge.pw_tellsless_k63_machines_refused 32
abbrev N_l_draw : List Str := [("_law_hand_here" : Str), ("_law_many" : Str), ("_law_number_here" : Str), ("_law_cell" : Str), ("_law_digit" : Str)]
theorem sc_l_draw : FnScope N_l_draw [("_law_hand_here" : Str), ("_law_many" : Str)] (defScope s_l_draw) := ⟨rfl, rfl, rfl, by decide +kernel, rfl, by decide +kernel, by decide +kernel⟩
theorem w_l_draw {P : Program} {w : World} {K : PySem.W.Frag} {mg : Str → Option Value} {base : Heap} {f : Addr} {fd : FuncData} (L : Lib mg) 
    (F : Fun K "_law_draw" "_law_draw" s_l_draw f fd) (ln : ∀ ds h Q E, sp_l_draw ds h Q E → ds.length = 2)
    (pl : ∀ ds h Q E', sp_l_draw ds h Q E' → t_l_draw P w K (fun _ => noX) { nx := fun _ h' => Q .non h', rt := Q } (startD N_l_draw ds) h) : GF P w K mg base 1 f fd [("_law_hand_here" : Str), ("_law_many" : Str)] sp_l_draw := by
  refine gf_of (k := 0) F sc_l_draw ln fun cdv A outer s H E ds h Q E' hr hg kx hs => ?_
  · have ru := room_u hr
    exact ⟨t_l_draw P w K (fun _ => noX), (qss_cut (qs_if (QW.t (qw_and (qt_cmp (od_eq (uu ru)) (qe_ix (xd_any (uu ru)) (qv 0) qe_int (fun _ _ => rfl)) qe_int) (qw_and1 (qt_cmp (od_lt (u0 ru)) (qe_ix (xd_any (uu ru)) (qv 0) qe_int (fun _ _ => rfl)) (qe_callB cd_lenA rfl (L.n "len") b_len (qa_cons (qe_ix (xd_any (uu ru)) (qv 0) qe_int (fun _ _ => rfl)) qa_nil)))))) (qss_cons (qs_set sc_l_draw.nd rfl (by first | exact .inl rfl | exact .inr rfl) (qe_ix (xd_any (uu ru)) (qe_ix (xd_any (uu ru)) (qv 0) qe_int (fun _ _ => rfl)) (qe_ix (xd_any (uu ru)) (qv 0) qe_int (fun _ _ => rfl)) (fun _ _ => rfl))) (qss_cons (qs_asg (qe_op od_add (qe_ix (xd_any (uu ru)) (qv 0) qe_int (fun _ _ => rfl)) qe_int) (qg_sub (qv 0) qe_int (sd_any (uu ru)))) (qss_cons (qs_asg (qe_op od_mod (qe_callTy cd_int rfl (L.n "int") b_int (qa_cons (qe_op od_add (qe_op od_add (qe_op od_mul (qe_ix (xd_any (uu ru)) (qv 0) qe_int (fun _ _ => rfl)) qe_int) (qv 3)) qe_int) qa_nil)) qe_int) (qg_sub (qv 0) qe_int (sd_any (uu ru)))) (qss_one (qs_if (qt_cmp od_ge (qv 3) (qe_op od_pow qe_int qe_int)) (qss_one (qs_asg (qv 3) (qg_sub (qv 0) qe_int (sd_any (uu ru))))) qss_nil))))) qss_nil) (qss_cons (qs_if (qt_cmp od_gt (qe_ix (xd_any (uu ru)) (qv 0) qe_int (fun _ _ => rfl)) qe_int) (qss_cons (qs_set sc_l_draw.nd rfl (by first | exact .inl rfl | exact .inr rfl) (qe_op od_mod (qe_callTy cd_int rfl (L.n "int") b_int (qa_cons (qe_ix (xd_any (uu ru)) (qv 0) qe_int (fun _ _ => rfl)) qa_nil)) (qv 1))) (qss_cons (qs_asg (qe_op od_fdiv (qe_ix (xd_any (uu ru)) (qv 0) qe_int (fun _ _ => rfl)) (qv 1)) (qg_sub (qv 0) qe_int (sd_any (uu ru)))) (qss_one (qs_ret (qv 4))))) qss_nil) (qss_cons (qs_asg (qe_op od_add (qe_ix (xd_any (uu ru)) (qv 0) qe_int (fun _ _ => rfl)) qe_int) (qg_sub (qv 0) qe_int (sd_any (uu ru)))) (qss_cons (qs_set sc_l_draw.nd rfl (by first | exact .inl rfl | exact .inr rfl) (qe_op od_mod (qe_callTy cd_int rfl (L.n "int") b_int (qa_cons (qe_op od_mul (qe_callTy cd_int rfl (L.n "int") b_int (qa_cons (qe_op od_add (qe_ix (xd_any (uu ru)) (qv 0) qe_int (fun _ _ => rfl)) (qe_op od_mul qe_int (qe_ix (xd_any (uu ru)) (qv 0) qe_int (fun _ _ => rfl)))) qa_nil)) qe_int) qa_nil)) qe_int)) (qss_cons (qs_set sc_l_draw.nd rfl (by first | exact .inl rfl | exact .inr rfl) (qe_op od_mod (qe_callTy cd_int rfl (L.n "int") b_int (qa_cons (qe_op od_mul (qv 2) (qe_op od_add (qe_op od_fdiv (qv 2) qe_int) qe_int)) qa_nil)) qe_int)) (qss_cons (qs_set sc_l_draw.nd rfl (by first | exact .inl rfl | exact .inr rfl) (qe_op od_mod (qe_callTy cd_int rfl (L.n "int") b_int (qa_cons (qe_op od_mul (qv 2) (qe_op od_add (qe_op od_fdiv (qv 2) qe_int) qe_int)) qa_nil)) qe_int)) (qss_one (qs_ret (qe_op od_mod (qe_callTy cd_int rfl (L.n "int") b_int (qa_cons (qe_op od_fdiv (qv 2) qe_int) qa_nil)) (qv 1)))))))))), pl ds h Q E' hs⟩
/-! ### _law_any -/
abbrev s_l_any : Stmt := atS PySem.Challenge.pw_tellsless_k63_machines_refused 33
abbrev N_l_any : List Str := [("_law_hand_here" : Str), ("_law_things" : Str)]
theorem sc_l_any : FnScope N_l_any [("_law_hand_here" : Str), ("_law_things" : Str)] (defScope s_l_any) := ⟨rfl, rfl, rfl, by decide +kernel, rfl, by decide +kernel, by decide +kernel⟩
theorem w_l_any {P : Program} {w : World} {K : PySem.W.Frag} {mg : Str → Option Value} {base : Heap} {f : Addr} {fd : FuncData} (L : Lib mg) (D__law_draw : Dn P w K mg base "_law_draw" 1 [("_law_hand_here" : Str), ("_law_many" : Str)] sp_l_draw)
    (F : Fun K "_law_any" "_law_any" s_l_any f fd) (ln : ∀ ds h Q E, sp_l_any ds h Q E → ds.length = 2)
    (pl : ∀ ds h Q E', sp_l_any ds h Q E' → t_l_any P w K (fun _ => noX) { nx := fun _ h' => Q .non h', rt := Q } (startD N_l_any ds) h) : GF P w K mg base 2 f fd [("_law_hand_here" : Str), ("_law_things" : Str)] sp_l_any := by
  refine gf_of (k := 1) F sc_l_any ln fun cdv A outer s H E ds h Q E' hr hg kx hs => ?_
  · have ru := room_u hr
    exact ⟨t_l_any P w K (fun _ => noX), (qss_one (qs_ret (qe_ix (xd_any (uu ru)) (qv 1) (qe_fn D__law_draw (hr.mono (by omega)) hg TkD.none (qa_cons (qv 0) (qa_cons (qe_callB cd_lenA rfl (L.n "len") b_len (qa_cons (qv 1) qa_nil)) qa_nil))) (fun _ _ => rfl)))), pl ds h Q E' hs⟩
/-! ### _law_is -/
abbrev s_l_is : Stmt := atS PySem.Challenge.pw_tellsless_k63_machines_refused 34
abbrev N_l_is : List Str := [("_law_told_here" : Str), ("_law_due_here" : Str)]
theorem sc_l_is : FnScope N_l_is [("_law_told_here" : Str), ("_law_due_here" : Str)] (defScope s_l_is) := ⟨rfl, rfl, rfl, by decide +kernel, rfl, by decide +kernel, by decide +kernel⟩
theorem w_l_is {P : Program} {w : World} {K : PySem.W.Frag} {mg : Str → Option Value} {base : Heap} {f : Addr} {fd : FuncData} (L : Lib mg) 
    (F : Fun K "_law_is" "_law_is" s_l_is f fd) (ln : ∀ ds h Q E, sp_l_is ds h Q E → ds.length = 2)
    (pl : ∀ ds h Q E', sp_l_is ds h Q E' → t_l_is P w K (fun _ => noX) { nx := fun _ h' => Q .non h', rt := Q } (startD N_l_is ds) h) : GF P w K mg base 1 f fd [("_law_told_here" : Str), ("_law_due_here" : Str)] sp_l_is := by
  refine gf_of (k := 0) F sc_l_is ln fun cdv A outer s H E ds h Q E' hr hg kx hs => ?_
  · have ru := room_u hr
    exact ⟨t_l_is P w K (fun _ => noX), (qss_one (qs_ret (qe_cmp od_eqS (qe_callB (cd_repr hg (uu ru)) rfl (L.n "repr") b_repr (qa_cons (qv 0) qa_nil)) (qe_callB (cd_repr hg (uu ru)) rfl (L.n "repr") b_repr (qa_cons (qv 1) qa_nil))))), pl ds h Q E' hs⟩
/-! ### _law_low -/
abbrev s_l_low : Stmt := atS PySem.Challenge.pw_tellsless_k63_machines_refused 35
abbrev N_l_low : List Str := [("_law_top" : Str), ("_law_bottom" : Str), ("_law_one" : Str), ("_law_other" : Str)]
theorem sc_l_low : FnScope N_l_low [("_law_top" : Str), ("_law_bottom" : Str)] (defScope s_l_low) := ⟨rfl, rfl, rfl, by decide +kernel, rfl, by decide +kernel, by decide +kernel⟩
theorem w_l_low {P : Program} {w : World} {K : PySem.W.Frag} {mg : Str → Option Value} {base : Heap} {f : Addr} {fd : FuncData} (L : Lib mg) 
    (F : Fun K "_law_low" "_law_low" s_l_low f fd) (ln : ∀ ds h Q E, sp_l_low ds h Q E → ds.length = 2)
    (pl : ∀ ds h Q E', sp_l_low ds h Q E' → t_l_low P w K (fun _ => noX) { nx := fun _ h' => Q .non h', rt := Q } (startD N_l_low ds) h) : GF P w K mg base 1 f fd [("_law_top" : Str), ("_law_bottom" : Str)] sp_l_low := by
  refine gf_of (k := 0) F sc_l_low ln fun cdv A outer s H E ds h Q E' hr hg kx hs => ?_
  · have ru := room_u hr
    exact ⟨t_l_low P w K (fun _ => noX), (qss_cons (qs_par rfl sc_l_low.nd rfl rfl (by decide) rfl rfl (qa_cons (qe_callB cd_abs rfl (L.n "abs") b_abs (qa_cons (qv 0) qa_nil)) (qa_cons (qv 1) qa_nil)) (by rfl)) (qss_cons (qs_while (passes_of rfl) (qt_cmp od_gt (qv 3) qe_int) (qss_one (qs_par rfl sc_l_low.nd rfl rfl (by decide) rfl rfl (qa_cons (qv 3) (qa_cons (qe_op od_mod (qe_callTy cd_int rfl (L.n "int") b_int (qa_cons (qv 2) qa_nil)) (qv 3)) qa_nil)) (by rfl)))) (qss_one (qs_ret (qe_tup (qa_cons (qe_op od_fdiv (qv 0) (qv 2)) (qa_cons (qe_op od_fdiv (qv 1) (qv 2)) qa_nil))))))), pl ds h Q E' hs⟩
/-! ### _law_plus -/
abbrev s_l_plus : Stmt := atS PySem.Challenge.pw_tellsless_k63_machines_refused 36
abbrev N_l_plus : List Str := [("_law_one" : Str), ("_law_other" : Str)]
theorem sc_l_plus : FnScope N_l_plus [("_law_one" : Str), ("_law_other" : Str)] (defScope s_l_plus) := ⟨rfl, rfl, rfl, by decide +kernel, rfl, by decide +kernel, by decide +kernel⟩
theorem w_l_plus {P : Program} {w : World} {K : PySem.W.Frag} {mg : Str → Option Value} {base : Heap} {f : Addr} {fd : FuncData} (L : Lib mg) (D__law_low : Dn P w K mg base "_law_low" 1 [("_law_top" : Str), ("_law_bottom" : Str)] sp_l_low)
    (F : Fun K "_law_plus" "_law_plus" s_l_plus f fd) (ln : ∀ ds h Q E, sp_plus ds h Q E → ds.length = 2)
    (pl : ∀ ds h Q E', sp_plus ds h Q E' → t_l_plus P w K (fun _ => noX) { nx := fun _ h' => Q .non h', rt := Q } (startD N_l_plus ds) h) : GF P w K mg base 2 f fd [("_law_one" : Str), ("_law_other" : Str)] sp_plus := by
  refine gf_of (k := 1) F sc_l_plus ln fun cdv A outer s H E ds h Q E' hr hg kx hs => ?_
  · have ru := room_u hr
    exact ⟨t_l_plus P w K (fun _ => noX), (qss_one (qs_ret (qe_fn D__law_low (hr.mono (by omega)) hg TkD.none (qa_cons (qe_op od_add (qe_op od_mul (qe_ix (xd_any (uu ru)) (qv 0) qe_int (fun _ _ => rfl)) (qe_ix (xd_any (uu ru)) (qv 1) qe_int (fun _ _ => rfl))) (qe_op od_mul (qe_ix (xd_any (uu ru)) (qv 1) qe_int (fun _ _ => rfl)) (qe_ix (xd_any (uu ru)) (qv 0) qe_int (fun _ _ => rfl)))) (qa_cons (qe_op od_mul (qe_ix (xd_any (uu ru)) (qv 0) qe_int (fun _ _ => rfl)) (qe_ix (xd_any (uu ru)) (qv 1) qe_int (fun _ _ => rfl))) qa_nil))))), pl ds h Q E' hs⟩
/-! ### _law_sum -/
abbrev s_l_sum : Stmt := atS PySem.Challenge.pw_tellsless_k63_machines_refused 38
abbrev N_l_sum : List Str := [("_law_some" : Str), ("_law_found" : Str), ("_law_one" : Str)]
theorem sc_l_sum : FnScope N_l_sum [("_law_some" : Str)] (defScope s_l_sum) := ⟨rfl, rfl, rfl, by decide +kernel, rfl, by decide +kernel, by decide +kernel⟩
theorem w_l_sum {P : Program} {w : World} {K : PySem.W.Frag} {mg : Str → Option Value} {base : Heap} {f : Addr} {fd : FuncData} (L : Lib mg) (D__law_plus : Dn P w K mg base "_law_plus" 2 [("_law_one" : Str), ("_law_other" : Str)] sp_plus)
    (F : Fun K "_law_sum" "_law_sum" s_l_sum f fd) (ln : ∀ ds h Q E, sp_total ds h Q E → ds.length = 1)
    (pl : ∀ ds h Q E', sp_total ds h Q E' → t_l_sum P w K (fun _ => noX) { nx := fun _ h' => Q .non h', rt := Q } (startD N_l_sum ds) h) : GF P w K mg base 3 f fd [("_law_some" : Str)] sp_total := by
  refine gf_of (k := 2) F sc_l_sum ln fun cdv A outer s H E ds h Q E' hr hg kx hs => ?_
  · have ru := room_u hr
    exact ⟨t_l_sum P w K (fun _ => noX), (qss_cons (qs_set sc_l_sum.nd rfl (by first | exact .inl rfl | exact .inr rfl) (qe_tup (qa_cons qe_int (qa_cons qe_int qa_nil)))) (qss_cons (qs_for (passes_of rfl) rfl (qi_any (qv 0)) (qg_name sc_l_sum.nd rfl (by first | exact .inl rfl | exact .inr rfl)) (qss_one (qs_set sc_l_sum.nd rfl (by first | exact .inl rfl | exact .inr rfl) (qe_fn D__law_plus (hr.mono (by omega)) hg TkD.none (qa_cons (qv 1) (qa_cons (qv 2) qa_nil)))))) (qss_one (qs_ret (qv 1))))), pl ds h Q E' hs⟩
end K63

-- PdU
set_option Elab.async false
set_option linter.all false
set_option maxRecDepth 100000
set_option maxHeartbeats 4000000
/-! PdU: what the ends of the laws look up of the text, as Bools. -/
namespace PD
open PySem PySem.Spec PyProof.Rows L2
theorem gf_no {P : Program} {w : World} {K : PySem.W.Frag} {mg : Str → Option Value} {base : Heap} {k : Nat} {f : Addr} {fd : FuncData} {ps : List Str} {sp : SpD} (n : ∀ ds h Q E, ¬ sp ds h Q E) : GF P w K mg base k f fd ps sp :=
  ⟨fun ds h Q E q => absurd q (n _ _ _ _), fun A outer s H args us vs Q E hr hg he hb hv ⟨ds, h, Q', E', a, b, c, d, e⟩ => absurd c (n _ _ _ _)⟩
theorem band {a b : Bool} (h : (a && b) = true) : a = true ∧ b = true := Bool.and_eq_true_iff.mp h
def oexB (K : PySem.W.Frag) (C : Addr) : Bool := (match K.lookup C with
  | some ⟨.type "type", _, .cls cd, sl⟩ => (match cd.mro, sl.toList with
    | .ref C' :: bm, [_, _, _, _, some (.builtin n), _] => C' == C && n == "ValueError.__new__" && !cd.hasDel && cd.hasDict && PySem.HandSPX.refsVE bm
    | _, _ => false)
  | _ => false) && (decide (PySem.W.findIn K (.ref C) "__setattr__" = some (some (.builtin "object.__setattr__"))) && (decide (PySem.W.subIn K (.ref C) (.type "BaseException") = some true) && (decide (PySem.W.typeIn K (.ref C) = some (.type "type")) && PySem.W.keepIn K (.ref C))))
theorem oexB_ok {K : PySem.W.Frag} {C : Addr} (h : oexB K C = true) : OexC K C := by
  obtain ⟨q, h⟩ := band h
  obtain ⟨h1, h⟩ := band h
  obtain ⟨h2, h⟩ := band h
  obtain ⟨h3, h4⟩ := band h
  refine ⟨?_, of_decide_eq_true h1, of_decide_eq_true h2, of_decide_eq_true h3, h4⟩
  split at q
  · rename_i dd cd sl ho
    split at q
    · rename_i C' bm k0 k1 k2 k3 n k5 hm hs
      simp only [Bool.and_eq_true, beq_iff_eq, Bool.not_eq_true'] at q
      obtain ⟨⟨⟨⟨rfl, rfl⟩, hdel⟩, hd⟩, ht⟩ := q
      obtain ⟨nm, bs, mro, ns, qn, hd', sn, sub, ab, col, del⟩ := cd
      dsimp only at hm hdel hd
      subst hm hdel hd
      have hsl : sl = #[k0, k1, k2, k3, some (.builtin "ValueError.__new__"), k5] := by
        obtain ⟨l⟩ := sl
        simp only at hs
        rw [hs]
      subst hsl
      exact ⟨nm, qn, ns, bs, bm, sn, sub, ab, col, dd, k0, k1, k2, k3, k5, ho, ht⟩
    · cases q
  · cases q
def exciB (K : PySem.W.Frag) (C : Addr) : Bool := (PySem.W.clsIn K C).isSome && (decide (PySem.W.findIn K (.ref C) "__getattribute__" = some (some (.builtin "BaseException.__getattribute__"))) && (decide (PySem.W.findIn K (.ref C) "__getattr__" = some none) && (decide (PySem.W.subIn K (.ref C) (.type "BaseException") = some true) &&
  (decide (PySem.W.findIn K (.ref C) "__class__" = some (some (.builtin "object.__class__"))) && (decide (PySem.W.specialIn K (.builtin "object.__class__") "__get__" = some (some (.builtin "getset_descriptor.__get__"))) && (decide (PySem.W.takesIn K (.builtin "object.__class__") = some true) && decide (PySem.W.mroIn K C (.type "object") = some true)))))))
theorem exciB_ok {K : PySem.W.Frag} {C : Addr} (h : exciB K C = true) : ExcI K C := by
  obtain ⟨h1, h⟩ := band h
  obtain ⟨h2, h⟩ := band h
  obtain ⟨h3, h⟩ := band h
  obtain ⟨h4, h⟩ := band h
  obtain ⟨h5, h⟩ := band h
  obtain ⟨h6, h⟩ := band h
  obtain ⟨h7, h8⟩ := band h
  exact ⟨h1, of_decide_eq_true h2, of_decide_eq_true h3, of_decide_eq_true h4, of_decide_eq_true h5, of_decide_eq_true h6, of_decide_eq_true h7, of_decide_eq_true h8⟩
def isicB (K : PySem.W.Frag) (C : Addr) : Bool := decide (PySem.W.findIn K (.ref C) "__class__" = some (some (.builtin "object.__class__"))) && (decide (PySem.W.specialIn K (.builtin "object.__class__") "__get__" = some (some (.builtin "getset_descriptor.__get__"))) && (decide (PySem.W.takesIn K (.builtin "object.__class__") = some true) && decide (PySem.W.mroIn K C (.type "object") = some true)))
theorem isicB_ok {K : PySem.W.Frag} {C : Addr} (c : Cls K C) (h : isicB K C = true) : IsiC K C := by
  obtain ⟨h5, h⟩ := band h
  obtain ⟨h6, h⟩ := band h
  obtain ⟨h7, h8⟩ := band h
  exact ⟨c, of_decide_eq_true h5, of_decide_eq_true h6, of_decide_eq_true h7, of_decide_eq_true h8⟩
/-- one of the Bools that are told -/
theorem all_at {bs : List Bool} (h : bs.all id = true) (i : Nat) {b : Bool} (e : bs[i]? = some b) : b = true := List.all_eq_true.mp h b (List.mem_of_getElem? e)
theorem isFn_ty {K : PySem.W.Frag} {v : Value} (h : PySem.W.isFn K v = true) : PySem.W.typeIn K v = some (.type "function") := by
  unfold PySem.W.isFn at h
  exact eq_of_beq h
/-- an own error class with an __init__ that keeps its argument -/
theorem de_of {P : Program} {w : World} {K : PySem.W.Frag} {mg : Str → Option Value} {base : Heap} {x f pn qual : Str} {C : Addr} {st : Stmt} {fd : FuncData} {N : List Str} {p1 p2 p3 pos : Pos} (T : OexC K C) (hno : PySem.W.findIn K (.ref C) f = some none) (M : Meth K C "__init__" (He.ma K C "__init__")) (m : mg x = some (.ref C))
    (b : Binds K fd [("self" : Str), pn] []) (F : Fun K "__init__" qual st (He.ma K C "__init__") fd) (S : FnScope N [("self" : Str), pn] (defScope st)) (hN : N = [("self" : Str), pn]) (hb : defBody st = [.Assign [.Attribute (.Name "self" p1) f p2] (.Name pn p3) pos]) (v0 : Vis (defScope st) "self") (v1 : Vis (defScope st) pn)
    (d1 : (pn == ("__debug__" : Str)) = false) (c1 : (pn == ("__classdict__" : Str)) = false) : De K P w mg base x C f pn :=
  ⟨_, fd, T, hno, M.at_, isFn_ty M.fn, m, b, fn_init F S hN hb v0 v1 d1 c1⟩
end PD

-- K63E
set_option Elab.async false
set_option linter.all false
set_option maxRecDepth 100000
set_option maxHeartbeats 0
/-! printed by gend.py: the law's end -/
namespace K63
open PySem PySem.Spec PyProof.Rows L2 PD
def d_is_integer : He.DefD := ⟨("is_integer", none), "is_integer", "is_integer", defArgs s_is_integer, defBody s_is_integer, defScope s_is_integer, [], []⟩
def d_is_within : He.DefD := ⟨("is_within", none), "is_within", "is_within", defArgs s_is_within, defBody s_is_within, defScope s_is_within, [], []⟩
def d_is_sized : He.DefD := ⟨("is_sized", none), "is_sized", "is_sized", defArgs s_is_sized, defBody s_is_sized, defScope s_is_sized, [], []⟩
def d_is_pair : He.DefD := ⟨("is_pair", none), "is_pair", "is_pair", defArgs s_is_pair, defBody s_is_pair, defScope s_is_pair, [], []⟩
def d_is_triple : He.DefD := ⟨("is_triple", none), "is_triple", "is_triple", defArgs s_is_triple, defBody s_is_triple, defScope s_is_triple, [], []⟩
def d_divisor : He.DefD := ⟨("divisor", none), "divisor", "divisor", defArgs s_divisor, defBody s_divisor, defScope s_divisor, [], []⟩
def d_lowest : He.DefD := ⟨("lowest", none), "lowest", "lowest", defArgs s_lowest, defBody s_lowest, defScope s_lowest, [], []⟩
def d_plus : He.DefD := ⟨("plus", none), "plus", "plus", defArgs s_plus, defBody s_plus, defScope s_plus, [], []⟩
def d_total : He.DefD := ⟨("total", none), "total", "total", defArgs s_total, defBody s_total, defScope s_total, [], []⟩
def d_is_fraction : He.DefD := ⟨("is_fraction", none), "is_fraction", "is_fraction", defArgs s_is_fraction, defBody s_is_fraction, defScope s_is_fraction, [], []⟩
def d_is_share : He.DefD := ⟨("is_share", none), "is_share", "is_share", defArgs s_is_share, defBody s_is_share, defScope s_is_share, [], []⟩
def d_are_shares : He.DefD := ⟨("are_shares", none), "are_shares", "are_shares", defArgs s_are_shares, defBody s_are_shares, defScope s_are_shares, [], []⟩
def d_l_hand : He.DefD := ⟨("_law_hand", none), "_law_hand", "_law_hand", defArgs s_l_hand, defBody s_l_hand, defScope s_l_hand, [], []⟩
def d_l_draw : He.DefD := ⟨("_law_draw", none), "_law_draw", "_law_draw", defArgs s_l_draw, defBody s_l_draw, defScope s_l_draw, [], []⟩
def d_l_any : He.DefD := ⟨("_law_any", none), "_law_any", "_law_any", defArgs s_l_any, defBody s_l_any, defScope s_l_any, [], []⟩
def d_l_is : He.DefD := ⟨("_law_is", none), "_law_is", "_law_is", defArgs s_l_is, defBody s_l_is, defScope s_l_is, [], []⟩
def d_l_low : He.DefD := ⟨("_law_low", none), "_law_low", "_law_low", defArgs s_l_low, defBody s_l_low, defScope s_l_low, [], []⟩
def d_l_plus : He.DefD := ⟨("_law_plus", none), "_law_plus", "_law_plus", defArgs s_l_plus, defBody s_l_plus, defScope s_l_plus, [], []⟩
def d_l_sum : He.DefD := ⟨("_law_sum", none), "_law_sum", "_law_sum", defArgs s_l_sum, defBody s_l_sum, defScope s_l_sum, [], []⟩
def d_are_rows : He.DefD := ⟨("are_rows", none), "are_rows", "are_rows", defArgs s_are_rows, defBody s_are_rows, defScope s_are_rows, [], []⟩
def d_is_step : He.DefD := ⟨("is_step", none), "is_step", "is_step", defArgs s_is_step, defBody s_is_step, defScope s_is_step, [], []⟩
def d_are_steps : He.DefD := ⟨("are_steps", none), "are_steps", "are_steps", defArgs s_are_steps, defBody s_are_steps, defScope s_are_steps, [], []⟩
def d_check_rows : He.DefD := ⟨("check_rows", none), "check_rows", "check_rows", defArgs s_check_rows, defBody s_check_rows, defScope s_check_rows, [], []⟩
def d_Machine_init : He.DefD := ⟨("Machine", some "__init__"), "__init__", "Machine.__init__", defArgs s_Machine_init, defBody s_Machine_init, defScope s_Machine_init, [], []⟩
def d_Machine_eq : He.DefD := ⟨("Machine", some "__eq__"), "__eq__", "Machine.__eq__", defArgs s_Machine_eq, defBody s_Machine_eq, defScope s_Machine_eq, [], []⟩
def d_l_steps : He.DefD := ⟨("_law_steps", none), "_law_steps", "_law_steps", defArgs s_l_steps, defBody s_l_steps, defScope s_l_steps, [], []⟩
def d_l_rows : He.DefD := ⟨("_law_rows", none), "_law_rows", "_law_rows", defArgs s_l_rows, defBody s_l_rows, defScope s_l_rows, [], []⟩
def d_l_deep : He.DefD := ⟨("_law_deep", none), "_law_deep", "_law_deep", defArgs s_l_deep, defBody s_l_deep, defScope s_l_deep, [], []⟩
def d_l_odd : He.DefD := ⟨("_law_odd", none), "_law_odd", "_law_odd", defArgs s_l_odd, defBody s_l_odd, defScope s_l_odd, [], []⟩
def d_l_put : He.DefD := ⟨("_law_put", none), "_law_put", "_law_put", defArgs s_l_put, defBody s_l_put, defScope s_l_put, [], []⟩
def d_l_spoilt : He.DefD := ⟨("_law_spoilt", none), "_law_spoilt", "_law_spoilt", defArgs s_l_spoilt, defBody s_l_spoilt, defScope s_l_spoilt, [], []⟩
def d_l_number : He.DefD := ⟨("_law_number", none), "_law_number", "_law_number", defArgs s_l_number, defBody s_l_number, defScope s_l_number, [], []⟩
def d_l_tuple : He.DefD := ⟨("_law_tuple", none), "_law_tuple", "_law_tuple", defArgs s_l_tuple, defBody s_l_tuple, defScope s_l_tuple, [], []⟩
def d_l_are_steps : He.DefD := ⟨("_law_are_steps", none), "_law_are_steps", "_law_are_steps", defArgs s_l_are_steps, defBody s_l_are_steps, defScope s_l_are_steps, [], []⟩
def d_l_due : He.DefD := ⟨("_law_due", none), "_law_due", "_law_due", defArgs s_l_due, defBody s_l_due, defScope s_l_due, [], []⟩
def d_l_told : He.DefD := ⟨("_law_told", none), "_law_told", "_law_told", defArgs s_l_told, defBody s_l_told, defScope s_l_told, [], []⟩
def d_l_edge_steps : He.DefD := ⟨("_law_edge_steps", none), "_law_edge_steps", "_law_edge_steps", defArgs s_l_edge_steps, defBody s_l_edge_steps, defScope s_l_edge_steps, [], []⟩
def d_l_edged : He.DefD := ⟨("_law_edged", none), "_law_edged", "_law_edged", defArgs s_l_edged, defBody s_l_edged, defScope s_l_edged, [], []⟩
def d_law : He.DefD := ⟨("law", none), "law", "law", defArgs s_law, defBody s_law, defScope s_law, [], []⟩
abbrev s_BadMachine_init : Stmt := inCls (atS PySem.Challenge.pw_tellsless_k63_machines_refused 2) 0
def d_BadMachine_init : He.DefD := ⟨("BadMachine", some "__init__"), "__init__", "BadMachine.__init__", defArgs s_BadMachine_init, defBody s_BadMachine_init, defScope s_BadMachine_init, [], []⟩
def fn : List He.DefD := [d_is_integer, d_is_within, d_is_sized, d_is_pair, d_is_triple, d_divisor, d_lowest, d_plus, d_total, d_is_fraction, d_is_share, d_are_shares, d_l_hand, d_l_draw, d_l_any, d_l_is, d_l_low, d_l_plus, d_l_sum, d_are_rows, d_is_step, d_are_steps, d_check_rows, d_Machine_init, d_Machine_eq, d_l_steps, d_l_rows, d_l_deep, d_l_odd, d_l_put] ++ ([d_l_spoilt, d_l_number, d_l_tuple, d_l_are_steps, d_l_due, d_l_told, d_l_edge_steps, d_l_edged, d_law, d_BadMachine_init])
def fa : List He.Fa := libNames.map He.Fa.free ++ ([.glo "is_integer", .glo "is_within", .glo "is_sized", .glo "is_pair", .glo "is_triple", .glo "divisor", .glo "lowest", .glo "plus", .glo "total", .glo "is_fraction", .glo "is_share", .glo "are_shares", .glo "_law_hand", .glo "_law_draw", .glo "_law_any", .glo "_law_is", .glo "_law_low", .glo "_law_plus", .glo "_law_sum", .glo "are_rows", .glo "is_step", .glo "are_steps", .glo "check_rows", .glo "Machine", .glo "_law_steps", .glo "_law_rows", .glo "_law_deep", .glo "_law_odd", .glo "_law_put", .glo "_law_spoilt"] ++ ([.glo "_law_number", .glo "_law_tuple", .glo "_law_are_steps", .glo "_law_due", .glo "_law_told", .glo "_law_edge_steps", .glo "_law_edged", .glo "law", .glo "BadMachine", .glo "HouseError", .glo "NOUGHT", .glo "ONE", .int "MOST_ASKED" 4, .int "MOST_STANDINGS" 6, .int "MOST_TRIPLES" 12, .int "MOST_WORLDS" 5, .int "MOST_WORDS" 6, .cls "Machine", .noat "Machine" "worlds", .noat "Machine" "words", .noat "Machine" "rows", .mkr "Machine", .meth "Machine" "__eq__", .noat "BadMachine" "part", .meth "BadMachine" "__init__"]))
def exL (K : PySem.W.Frag) : List Bool := [neB K (He.ga K "Machine") (He.ma K (He.ga K "Machine") "__eq__"), isicB K (He.ga K "Machine"), decide (PySem.W.kitOne K (.ref (He.ga K "Machine")) (.ref (He.ga K "Machine")) = some true), decide (PySem.W.kitOne K (.type "int") (.ref (He.ga K "Machine")) = some false), decide (PySem.W.kitOne K (.type "tuple") (.ref (He.ga K "Machine")) = some false), PySem.W.notFirst K (He.ga K "Machine") (.type "tuple"), PySem.W.notFirst K (He.ga K "Machine") (.type "int"), PySem.W.notFirst K (He.ga K "Machine") (.ref (He.ga K "Machine")), decide (PySem.W.kitOne K (.ref (He.ga K "BadMachine")) (.ref (He.ga K "BadMachine")) = some true), decide (PySem.W.exmOne K (.ref (He.ga K "BadMachine")) (.ref (He.ga K "HouseError")) = some true), He.tupB K "NOUGHT" [.int 0, .int 1], He.tupB K "ONE" [.int 1, .int 1], oexB K (He.ga K "BadMachine"), xfB K (He.ga K "BadMachine"), exciB K (He.ga K "BadMachine")]
def ex (K : PySem.W.Frag) : Bool := (exL K).all id
abbrev R : PySem.W.OpenRow := PySem.W.OpenLaw.row PySem.Challenge.rw_tellsless_k63_machines_refused
abbrev hk : PySem.W.Hook := He.hookX 5 fa fn [] [] ex
def ob (s : PySem.W.SharedT) : He.AlX := He.obsX 5 fa fn [] [] ex (HandSHeadRun.getT s)
theorem ob_eq (s : PySem.W.SharedT) : ob s = hk.obs s.abs := He.obsX_eq (HandSHeadRun.getT_eq s)
def loose : List Str := (["HouseError", "BadMachine", "is_integer", "is_within", "is_sized", "is_pair", "is_triple", "NOUGHT", "ONE", "divisor", "lowest", "plus", "total", "is_fraction", "is_share", "are_shares", "MOST_WORLDS", "MOST_WORDS", "MOST_STANDINGS", "MOST_ASKED", "MOST_TRIPLES", "are_rows", "is_step", "are_steps", "check_rows", "Machine", "_law_hand", "_law_draw", "_law_any", "_law_is"] : List Str) ++ ((["_law_low", "_law_plus", "_law_times", "_law_sum", "_law_steps", "_law_rows", "_law_behind", "_law_first", "_law_deep", "_law_odd", "_law_put", "_law_spoilt", "_law_number", "_law_tuple", "_law_are_steps", "_law_due", "_law_told", "_law_edge_steps", "_law_edged"] : List Str))
theorem run (w : World) : HandSHeadRun.RunEq R (PySem.W.view R.prog [54]) hk ob 4000 loose w := by
  intro os
  kernel_rfl
theorem facts {P : Program} {w : World} {K : PySem.W.Frag} {h : Heap} {mg : Str → Option Value} {f : Addr} (X : K.In h) (G : h.Ns mainGlobals mg) (hfa : mg ("law" : Str) = some (.ref f)) (c : He.SaysX fa fn [] [] ex w h K) :
    ∃ fd : FuncData, (∀ (s : Shared) (v : Value), BindsTo s fd ⟨[v], []⟩ [("_law_script", v)]) ∧ ∀ base : Heap, K.In base → base.Ns mainGlobals mg → GF P w K mg base 20 f fd [("_law_script" : Str)] sp_law := by
  have cd := c.t.d
  have cm : (exL K).all id = true := c.more
  have L : Lib mg := ⟨fun x hx => He.free_ok X G (cd.facts (List.mem_append_left _ (List.mem_map_of_mem hx)))⟩
  have G_is_integer : mg "is_integer" = some (.ref (He.ga K "is_integer")) := He.glo_ok X G (cd.fact 20 (f := .glo "is_integer") rfl)
  have G_is_within : mg "is_within" = some (.ref (He.ga K "is_within")) := He.glo_ok X G (cd.fact 21 (f := .glo "is_within") rfl)
  have G_is_sized : mg "is_sized" = some (.ref (He.ga K "is_sized")) := He.glo_ok X G (cd.fact 22 (f := .glo "is_sized") rfl)
  have G_is_pair : mg "is_pair" = some (.ref (He.ga K "is_pair")) := He.glo_ok X G (cd.fact 23 (f := .glo "is_pair") rfl)
  have G_is_triple : mg "is_triple" = some (.ref (He.ga K "is_triple")) := He.glo_ok X G (cd.fact 24 (f := .glo "is_triple") rfl)
  have G_divisor : mg "divisor" = some (.ref (He.ga K "divisor")) := He.glo_ok X G (cd.fact 25 (f := .glo "divisor") rfl)
  have G_lowest : mg "lowest" = some (.ref (He.ga K "lowest")) := He.glo_ok X G (cd.fact 26 (f := .glo "lowest") rfl)
  have G_plus : mg "plus" = some (.ref (He.ga K "plus")) := He.glo_ok X G (cd.fact 27 (f := .glo "plus") rfl)
  have G_total : mg "total" = some (.ref (He.ga K "total")) := He.glo_ok X G (cd.fact 28 (f := .glo "total") rfl)
  have G_is_fraction : mg "is_fraction" = some (.ref (He.ga K "is_fraction")) := He.glo_ok X G (cd.fact 29 (f := .glo "is_fraction") rfl)
  have G_is_share : mg "is_share" = some (.ref (He.ga K "is_share")) := He.glo_ok X G (cd.fact 30 (f := .glo "is_share") rfl)
  have G_are_shares : mg "are_shares" = some (.ref (He.ga K "are_shares")) := He.glo_ok X G (cd.fact 31 (f := .glo "are_shares") rfl)
  have G__law_hand : mg "_law_hand" = some (.ref (He.ga K "_law_hand")) := He.glo_ok X G (cd.fact 32 (f := .glo "_law_hand") rfl)
  have G__law_draw : mg "_law_draw" = some (.ref (He.ga K "_law_draw")) := He.glo_ok X G (cd.fact 33 (f := .glo "_law_draw") rfl)
  have G__law_any : mg "_law_any" = some (.ref (He.ga K "_law_any")) := He.glo_ok X G (cd.fact 34 (f := .glo "_law_any") rfl)
  have G__law_is : mg "_law_is" = some (.ref (He.ga K "_law_is")) := He.glo_ok X G (cd.fact 35 (f := .glo "_law_is") rfl)
  have G__law_low : mg "_law_low" = some (.ref (He.ga K "_law_low")) := He.glo_ok X G (cd.fact 36 (f := .glo "_law_low") rfl)
  have G__law_plus : mg "_law_plus" = some (.ref (He.ga K "_law_plus")) := He.glo_ok X G (cd.fact 37 (f := .glo "_law_plus") rfl)
  have G__law_sum : mg "_law_sum" = some (.ref (He.ga K "_law_sum")) := He.glo_ok X G (cd.fact 38 (f := .glo "_law_sum") rfl)
  have G_are_rows : mg "are_rows" = some (.ref (He.ga K "are_rows")) := He.glo_ok X G (cd.fact 39 (f := .glo "are_rows") rfl)
  have G_is_step : mg "is_step" = some (.ref (He.ga K "is_step")) := He.glo_ok X G (cd.fact 40 (f := .glo "is_step") rfl)
  have G_are_steps : mg "are_steps" = some (.ref (He.ga K "are_steps")) := He.glo_ok X G (cd.fact 41 (f := .glo "are_steps") rfl)
  have G_check_rows : mg "check_rows" = some (.ref (He.ga K "check_rows")) := He.glo_ok X G (cd.fact 42 (f := .glo "check_rows") rfl)
  have G_Machine : mg "Machine" = some (.ref (He.ga K "Machine")) := He.glo_ok X G (cd.fact 43 (f := .glo "Machine") rfl)
  have G__law_steps : mg "_law_steps" = some (.ref (He.ga K "_law_steps")) := He.glo_ok X G (cd.fact 44 (f := .glo "_law_steps") rfl)
  have G__law_rows : mg "_law_rows" = some (.ref (He.ga K "_law_rows")) := He.glo_ok X G (cd.fact 45 (f := .glo "_law_rows") rfl)
  have G__law_deep : mg "_law_deep" = some (.ref (He.ga K "_law_deep")) := He.glo_ok X G (cd.fact 46 (f := .glo "_law_deep") rfl)
  have G__law_odd : mg "_law_odd" = some (.ref (He.ga K "_law_odd")) := He.glo_ok X G (cd.fact 47 (f := .glo "_law_odd") rfl)
  have G__law_put : mg "_law_put" = some (.ref (He.ga K "_law_put")) := He.glo_ok X G (cd.fact 48 (f := .glo "_law_put") rfl)
  have G__law_spoilt : mg "_law_spoilt" = some (.ref (He.ga K "_law_spoilt")) := He.glo_ok X G (cd.fact 49 (f := .glo "_law_spoilt") rfl)
  have G__law_number : mg "_law_number" = some (.ref (He.ga K "_law_number")) := He.glo_ok X G (cd.fact 50 (f := .glo "_law_number") rfl)
  have G__law_tuple : mg "_law_tuple" = some (.ref (He.ga K "_law_tuple")) := He.glo_ok X G (cd.fact 51 (f := .glo "_law_tuple") rfl)
  have G__law_are_steps : mg "_law_are_steps" = some (.ref (He.ga K "_law_are_steps")) := He.glo_ok X G (cd.fact 52 (f := .glo "_law_are_steps") rfl)
  have G__law_due : mg "_law_due" = some (.ref (He.ga K "_law_due")) := He.glo_ok X G (cd.fact 53 (f := .glo "_law_due") rfl)
  have G__law_told : mg "_law_told" = some (.ref (He.ga K "_law_told")) := He.glo_ok X G (cd.fact 54 (f := .glo "_law_told") rfl)
  have G__law_edge_steps : mg "_law_edge_steps" = some (.ref (He.ga K "_law_edge_steps")) := He.glo_ok X G (cd.fact 55 (f := .glo "_law_edge_steps") rfl)
  have G__law_edged : mg "_law_edged" = some (.ref (He.ga K "_law_edged")) := He.glo_ok X G (cd.fact 56 (f := .glo "_law_edged") rfl)
  have G_law : mg "law" = some (.ref (He.ga K "law")) := He.glo_ok X G (cd.fact 57 (f := .glo "law") rfl)
  have G_BadMachine : mg "BadMachine" = some (.ref (He.ga K "BadMachine")) := He.glo_ok X G (cd.fact 58 (f := .glo "BadMachine") rfl)
  have G_HouseError : mg "HouseError" = some (.ref (He.ga K "HouseError")) := He.glo_ok X G (cd.fact 59 (f := .glo "HouseError") rfl)
  have G_NOUGHT : mg "NOUGHT" = some (.ref (He.ga K "NOUGHT")) := He.glo_ok X G (cd.fact 60 (f := .glo "NOUGHT") rfl)
  have G_ONE : mg "ONE" = some (.ref (He.ga K "ONE")) := He.glo_ok X G (cd.fact 61 (f := .glo "ONE") rfl)
  have X_ne_Machine : (neB K (He.ga K "Machine") (He.ma K (He.ga K "Machine") "__eq__")) = true := all_at cm 0 rfl
  have X_isic : (isicB K (He.ga K "Machine")) = true := all_at cm 1 rfl
  have X_kk : (decide (PySem.W.kitOne K (.ref (He.ga K "Machine")) (.ref (He.ga K "Machine")) = some true)) = true := all_at cm 2 rfl
  have X_ki : (decide (PySem.W.kitOne K (.type "int") (.ref (He.ga K "Machine")) = some false)) = true := all_at cm 3 rfl
  have X_kt : (decide (PySem.W.kitOne K (.type "tuple") (.ref (He.ga K "Machine")) = some false)) = true := all_at cm 4 rfl
  have X_nfT : (PySem.W.notFirst K (He.ga K "Machine") (.type "tuple")) = true := all_at cm 5 rfl
  have X_nfI : (PySem.W.notFirst K (He.ga K "Machine") (.type "int")) = true := all_at cm 6 rfl
  have X_nfM : (PySem.W.notFirst K (He.ga K "Machine") (.ref (He.ga K "Machine"))) = true := all_at cm 7 rfl
  have X_kb : (decide (PySem.W.kitOne K (.ref (He.ga K "BadMachine")) (.ref (He.ga K "BadMachine")) = some true)) = true := all_at cm 8 rfl
  have X_exm : (decide (PySem.W.exmOne K (.ref (He.ga K "BadMachine")) (.ref (He.ga K "HouseError")) = some true)) = true := all_at cm 9 rfl
  have X_t_NOUGHT : (He.tupB K "NOUGHT" [.int 0, .int 1]) = true := all_at cm 10 rfl
  have X_t_ONE : (He.tupB K "ONE" [.int 1, .int 1]) = true := all_at cm 11 rfl
  have X_oex_BadMachine : (oexB K (He.ga K "BadMachine")) = true := all_at cm 12 rfl
  have X_xf_BadMachine : (xfB K (He.ga K "BadMachine")) = true := all_at cm 13 rfl
  have X_exci_BadMachine : (exciB K (He.ga K "BadMachine")) = true := all_at cm 14 rfl
  have g_NOUGHT : GD K mg "NOUGHT" (.tup [(.int 0), (.int 1)]) := GD.pair G_NOUGHT (fun H => He.tupB_ok X_t_NOUGHT H)
  have g_ONE : GD K mg "ONE" (.tup [(.int 1), (.int 1)]) := GD.pair G_ONE (fun H => He.tupB_ok X_t_ONE H)
  have g_MOST_ASKED : GD K mg "MOST_ASKED" (.int 4) := GD.int (He.int_ok X G (cd.fact 62 (f := .int "MOST_ASKED" 4) rfl))
  have g_MOST_STANDINGS : GD K mg "MOST_STANDINGS" (.int 6) := GD.int (He.int_ok X G (cd.fact 63 (f := .int "MOST_STANDINGS" 6) rfl))
  have g_MOST_TRIPLES : GD K mg "MOST_TRIPLES" (.int 12) := GD.int (He.int_ok X G (cd.fact 64 (f := .int "MOST_TRIPLES" 12) rfl))
  have g_MOST_WORLDS : GD K mg "MOST_WORLDS" (.int 5) := GD.int (He.int_ok X G (cd.fact 65 (f := .int "MOST_WORLDS" 5) rfl))
  have g_MOST_WORDS : GD K mg "MOST_WORDS" (.int 6) := GD.int (He.int_ok X G (cd.fact 66 (f := .int "MOST_WORDS" 6) rfl))
  have g_Machine : GD K mg "Machine" (.ref (He.ga K "Machine")) := GD.ref G_Machine
  have g_BadMachine : GD K mg "BadMachine" (.ref (He.ga K "BadMachine")) := GD.ref G_BadMachine
  have g_HouseError : GD K mg "HouseError" (.ref (He.ga K "HouseError")) := GD.ref G_HouseError
  have C_Machine : Cls K (He.ga K "Machine") := He.cls_ok (cd.fact 67 (f := .cls "Machine") rfl)
  have N_Machine_worlds : NoAttr K (He.ga K "Machine") "worlds" := He.noat_ok (cd.fact 68 (f := .noat "Machine" "worlds") rfl)
  have N_Machine_words : NoAttr K (He.ga K "Machine") "words" := He.noat_ok (cd.fact 69 (f := .noat "Machine" "words") rfl)
  have N_Machine_rows : NoAttr K (He.ga K "Machine") "rows" := He.noat_ok (cd.fact 70 (f := .noat "Machine" "rows") rfl)
  have K_Machine : Mk K (He.ga K "Machine") (He.ma K (He.ga K "Machine") "__init__") := He.mkr_ok (cd.fact 71 (f := .mkr "Machine") rfl)
  have M_Machine_eq : Meth K (He.ga K "Machine") "__eq__" (He.ma K (He.ga K "Machine") "__eq__") := He.meth_ok (cd.fact 72 (f := .meth "Machine" "__eq__") rfl)
  obtain ⟨fd_is_integer, F_is_integer⟩ : ∃ fd, FnT K "is_integer" "is_integer" s_is_integer (He.ga K "is_integer") fd := cd.def_ 0 (d := d_is_integer) rfl
  obtain ⟨fd_is_within, F_is_within⟩ : ∃ fd, FnT K "is_within" "is_within" s_is_within (He.ga K "is_within") fd := cd.def_ 1 (d := d_is_within) rfl
  obtain ⟨fd_is_sized, F_is_sized⟩ : ∃ fd, FnT K "is_sized" "is_sized" s_is_sized (He.ga K "is_sized") fd := cd.def_ 2 (d := d_is_sized) rfl
  obtain ⟨fd_is_pair, F_is_pair⟩ : ∃ fd, FnT K "is_pair" "is_pair" s_is_pair (He.ga K "is_pair") fd := cd.def_ 3 (d := d_is_pair) rfl
  obtain ⟨fd_is_triple, F_is_triple⟩ : ∃ fd, FnT K "is_triple" "is_triple" s_is_triple (He.ga K "is_triple") fd := cd.def_ 4 (d := d_is_triple) rfl
  obtain ⟨fd_divisor, F_divisor⟩ : ∃ fd, FnT K "divisor" "divisor" s_divisor (He.ga K "divisor") fd := cd.def_ 5 (d := d_divisor) rfl
  obtain ⟨fd_lowest, F_lowest⟩ : ∃ fd, FnT K "lowest" "lowest" s_lowest (He.ga K "lowest") fd := cd.def_ 6 (d := d_lowest) rfl
  obtain ⟨fd_plus, F_plus⟩ : ∃ fd, FnT K "plus" "plus" s_plus (He.ga K "plus") fd := cd.def_ 7 (d := d_plus) rfl
  obtain ⟨fd_total, F_total⟩ : ∃ fd, FnT K "total" "total" s_total (He.ga K "total") fd := cd.def_ 8 (d := d_total) rfl
  obtain ⟨fd_is_fraction, F_is_fraction⟩ : ∃ fd, FnT K "is_fraction" "is_fraction" s_is_fraction (He.ga K "is_fraction") fd := cd.def_ 9 (d := d_is_fraction) rfl
  obtain ⟨fd_is_share, F_is_share⟩ : ∃ fd, FnT K "is_share" "is_share" s_is_share (He.ga K "is_share") fd := cd.def_ 10 (d := d_is_share) rfl
  obtain ⟨fd_are_shares, F_are_shares⟩ : ∃ fd, FnT K "are_shares" "are_shares" s_are_shares (He.ga K "are_shares") fd := cd.def_ 11 (d := d_are_shares) rfl
  obtain ⟨fd_l_hand, F_l_hand⟩ : ∃ fd, FnT K "_law_hand" "_law_hand" s_l_hand (He.ga K "_law_hand") fd := cd.def_ 12 (d := d_l_hand) rfl
  obtain ⟨fd_l_draw, F_l_draw⟩ : ∃ fd, FnT K "_law_draw" "_law_draw" s_l_draw (He.ga K "_law_draw") fd := cd.def_ 13 (d := d_l_draw) rfl
  obtain ⟨fd_l_any, F_l_any⟩ : ∃ fd, FnT K "_law_any" "_law_any" s_l_any (He.ga K "_law_any") fd := cd.def_ 14 (d := d_l_any) rfl
  obtain ⟨fd_l_is, F_l_is⟩ : ∃ fd, FnT K "_law_is" "_law_is" s_l_is (He.ga K "_law_is") fd := cd.def_ 15 (d := d_l_is) rfl
  obtain ⟨fd_l_low, F_l_low⟩ : ∃ fd, FnT K "_law_low" "_law_low" s_l_low (He.ga K "_law_low") fd := cd.def_ 16 (d := d_l_low) rfl
  obtain ⟨fd_l_plus, F_l_plus⟩ : ∃ fd, FnT K "_law_plus" "_law_plus" s_l_plus (He.ga K "_law_plus") fd := cd.def_ 17 (d := d_l_plus) rfl
  obtain ⟨fd_l_sum, F_l_sum⟩ : ∃ fd, FnT K "_law_sum" "_law_sum" s_l_sum (He.ga K "_law_sum") fd := cd.def_ 18 (d := d_l_sum) rfl
  obtain ⟨fd_are_rows, F_are_rows⟩ : ∃ fd, FnT K "are_rows" "are_rows" s_are_rows (He.ga K "are_rows") fd := cd.def_ 19 (d := d_are_rows) rfl
  obtain ⟨fd_is_step, F_is_step⟩ : ∃ fd, FnT K "is_step" "is_step" s_is_step (He.ga K "is_step") fd := cd.def_ 20 (d := d_is_step) rfl
  obtain ⟨fd_are_steps, F_are_steps⟩ : ∃ fd, FnT K "are_steps" "are_steps" s_are_steps (He.ga K "are_steps") fd := cd.def_ 21 (d := d_are_steps) rfl
  obtain ⟨fd_check_rows, F_check_rows⟩ : ∃ fd, FnT K "check_rows" "check_rows" s_check_rows (He.ga K "check_rows") fd := cd.def_ 22 (d := d_check_rows) rfl
  obtain ⟨fd_Machine_init, F_Machine_init⟩ : ∃ fd, FnT K "__init__" "Machine.__init__" s_Machine_init (He.ma K (He.ga K "Machine") "__init__") fd := cd.def_ 23 (d := d_Machine_init) rfl
  obtain ⟨fd_Machine_eq, F_Machine_eq⟩ : ∃ fd, FnT K "__eq__" "Machine.__eq__" s_Machine_eq (He.ma K (He.ga K "Machine") "__eq__") fd := cd.def_ 24 (d := d_Machine_eq) rfl
  obtain ⟨fd_l_steps, F_l_steps⟩ : ∃ fd, FnT K "_law_steps" "_law_steps" s_l_steps (He.ga K "_law_steps") fd := cd.def_ 25 (d := d_l_steps) rfl
  obtain ⟨fd_l_rows, F_l_rows⟩ : ∃ fd, FnT K "_law_rows" "_law_rows" s_l_rows (He.ga K "_law_rows") fd := cd.def_ 26 (d := d_l_rows) rfl
  obtain ⟨fd_l_deep, F_l_deep⟩ : ∃ fd, FnT K "_law_deep" "_law_deep" s_l_deep (He.ga K "_law_deep") fd := cd.def_ 27 (d := d_l_deep) rfl
  obtain ⟨fd_l_odd, F_l_odd⟩ : ∃ fd, FnT K "_law_odd" "_law_odd" s_l_odd (He.ga K "_law_odd") fd := cd.def_ 28 (d := d_l_odd) rfl
  obtain ⟨fd_l_put, F_l_put⟩ : ∃ fd, FnT K "_law_put" "_law_put" s_l_put (He.ga K "_law_put") fd := cd.def_ 29 (d := d_l_put) rfl
  obtain ⟨fd_l_spoilt, F_l_spoilt⟩ : ∃ fd, FnT K "_law_spoilt" "_law_spoilt" s_l_spoilt (He.ga K "_law_spoilt") fd := cd.def_ 30 (d := d_l_spoilt) rfl
  obtain ⟨fd_l_number, F_l_number⟩ : ∃ fd, FnT K "_law_number" "_law_number" s_l_number (He.ga K "_law_number") fd := cd.def_ 31 (d := d_l_number) rfl
  obtain ⟨fd_l_tuple, F_l_tuple⟩ : ∃ fd, FnT K "_law_tuple" "_law_tuple" s_l_tuple (He.ga K "_law_tuple") fd := cd.def_ 32 (d := d_l_tuple) rfl
  obtain ⟨fd_l_are_steps, F_l_are_steps⟩ : ∃ fd, FnT K "_law_are_steps" "_law_are_steps" s_l_are_steps (He.ga K "_law_are_steps") fd := cd.def_ 33 (d := d_l_are_steps) rfl
  obtain ⟨fd_l_due, F_l_due⟩ : ∃ fd, FnT K "_law_due" "_law_due" s_l_due (He.ga K "_law_due") fd := cd.def_ 34 (d := d_l_due) rfl
  obtain ⟨fd_l_told, F_l_told⟩ : ∃ fd, FnT K "_law_told" "_law_told" s_l_told (He.ga K "_law_told") fd := cd.def_ 35 (d := d_l_told) rfl
  obtain ⟨fd_l_edge_steps, F_l_edge_steps⟩ : ∃ fd, FnT K "_law_edge_steps" "_law_edge_steps" s_l_edge_steps (He.ga K "_law_edge_steps") fd := cd.def_ 36 (d := d_l_edge_steps) rfl
  obtain ⟨fd_l_edged, F_l_edged⟩ : ∃ fd, FnT K "_law_edged" "_law_edged" s_l_edged (He.ga K "_law_edged") fd := cd.def_ 37 (d := d_l_edged) rfl
  obtain ⟨fd_law, F_law⟩ : ∃ fd, FnT K "law" "law" s_law (He.ga K "law") fd := cd.def_ 38 (d := d_law) rfl
  obtain ⟨fd_BadMachine_init, F_BadMachine_init⟩ : ∃ fd, FnT K "__init__" "BadMachine.__init__" s_BadMachine_init (He.ma K (He.ga K "BadMachine") "__init__") fd := cd.def_ 39 (d := d_BadMachine_init) rfl
  have e := hfa.symm.trans G_law
  cases e
  have b := FunD.bindsA (ps := [("_law_script" : Str)]) F_law fun _ _ _ _ _ _ us hl => match us, hl with | [_], _ => rfl
  refine ⟨fd_law, fun s v => b s [v] rfl, fun base _ _ => ?_⟩
  have xn_BadMachine : PySem.W.findIn K (.ref (He.ga K "BadMachine")) "part" = some none := He.noat_ok (cd.fact 73 (f := .noat "BadMachine" "part") rfl)
  have E_BadMachine : De K P w mg base "BadMachine" (He.ga K "BadMachine") "part" "part" := de_of (oexB_ok X_oex_BadMachine) xn_BadMachine (He.meth_ok (cd.fact 74 (f := .meth "BadMachine" "__init__") rfl)) G_BadMachine (F_BadMachine_init.bindsN fun _ _ _ _ _ _ us hl => match us, hl with | [_, _], _ => rfl) (fun_of F_BadMachine_init) (N := [("self" : Str), ("part" : Str)]) ⟨rfl, rfl, rfl, by decide +kernel, rfl, by decide +kernel, by decide +kernel⟩ rfl rfl (.inl rfl) (.inl rfl) (by decide +kernel) (by decide +kernel)
  have I_Machine := isicB_ok C_Machine X_isic
  have D_is_integer : Dn P w K mg base "is_integer" 1 [("thing" : Str)] sp_is_integer := dn_of G_is_integer F_is_integer.kp (F_is_integer.bindsN fun _ _ _ _ _ _ us hl => match us, hl with | [_], _ => rfl) (w_is_integer (L := L) (F := fun_of F_is_integer) (ln := (fun ds h Q E hs => by obtain ⟨_, _, rfl, _⟩ := hs; rfl)) (pl := p_is_integer))
  have D_is_within : Dn P w K mg base "is_within" 2 [("thing" : Str), ("least" : Str), ("most" : Str)] sp_is_within := dn_of G_is_within F_is_within.kp (F_is_within.bindsN fun _ _ _ _ _ _ us hl => match us, hl with | [_, _, _], _ => rfl) (w_is_within (L := L) (D_is_integer := D_is_integer) (F := fun_of F_is_within) (ln := (fun ds h Q E hs => by obtain ⟨_, _, _, _, rfl, _⟩ := hs; rfl)) (pl := p_is_within))
  have D_is_sized : Dn P w K mg base "is_sized" 1 [("thing" : Str), ("least" : Str), ("most" : Str)] sp_is_sized := dn_of G_is_sized F_is_sized.kp (F_is_sized.bindsN fun _ _ _ _ _ _ us hl => match us, hl with | [_, _, _], _ => rfl) (w_is_sized (L := L) (F := fun_of F_is_sized) (ln := (fun ds h Q E hs => by obtain ⟨_, _, _, _, rfl, _⟩ := hs; rfl)) (pl := p_is_sized))
  have D_is_pair : Dn P w K mg base "is_pair" 1 [("thing" : Str)] sp_is_pair := dn_of G_is_pair F_is_pair.kp (F_is_pair.bindsN fun _ _ _ _ _ _ us hl => match us, hl with | [_], _ => rfl) (w_is_pair (L := L) (F := fun_of F_is_pair) (ln := (fun ds h Q E hs => by obtain ⟨_, _, rfl, _⟩ := hs; rfl)) (pl := p_is_pair))
  have D_is_triple : Dn P w K mg base "is_triple" 1 [("thing" : Str)] sp_is_triple := dn_of G_is_triple F_is_triple.kp (F_is_triple.bindsN fun _ _ _ _ _ _ us hl => match us, hl with | [_], _ => rfl) (w_is_triple (L := L) (F := fun_of F_is_triple) (ln := (fun ds h Q E hs => by obtain ⟨_, _, rfl, _⟩ := hs; rfl)) (pl := p_is_triple))
  have D_divisor : Dn P w K mg base "divisor" 1 [("one" : Str), ("other" : Str)] sp_divisor := dn_of G_divisor F_divisor.kp (F_divisor.bindsN fun _ _ _ _ _ _ us hl => match us, hl with | [_, _], _ => rfl) (w_divisor (L := L) (F := fun_of F_divisor) (ln := (fun ds h Q E hs => by obtain ⟨_, _, rfl, _⟩ := hs; rfl)) (pl := p_divisor))
  have D_lowest : Dn P w K mg base "lowest" 2 [("top" : Str), ("bottom" : Str)] sp_lowest := dn_of G_lowest F_lowest.kp (F_lowest.bindsN fun _ _ _ _ _ _ us hl => match us, hl with | [_, _], _ => rfl) (w_lowest (L := L) (D_divisor := D_divisor) (F := fun_of F_lowest) (ln := (fun ds h Q E hs => by obtain ⟨_, _, rfl, _⟩ := hs; rfl)) (pl := p_lowest))
  have D_plus : Dn P w K mg base "plus" 3 [("one" : Str), ("other" : Str)] sp_plus := dn_of G_plus F_plus.kp (F_plus.bindsN fun _ _ _ _ _ _ us hl => match us, hl with | [_, _], _ => rfl) (w_plus (L := L) (D_lowest := D_lowest) (F := fun_of F_plus) (ln := (fun ds h Q E hs => by obtain ⟨_, _, rfl, _⟩ := hs; rfl)) (pl := p_plus))
  have D_total : Dn P w K mg base "total" 4 [("fractions" : Str)] sp_total := dn_of G_total F_total.kp (F_total.bindsN fun _ _ _ _ _ _ us hl => match us, hl with | [_], _ => rfl) (w_total (L := L) (D_plus := D_plus) (g_NOUGHT := g_NOUGHT) (F := fun_of F_total) (ln := (fun ds h Q E hs => by obtain ⟨_, _, rfl, _⟩ := hs; rfl)) (pl := p_total))
  have D_is_fraction : Dn P w K mg base "is_fraction" 2 [("thing" : Str)] sp_is_fraction := dn_of G_is_fraction F_is_fraction.kp (F_is_fraction.bindsN fun _ _ _ _ _ _ us hl => match us, hl with | [_], _ => rfl) (w_is_fraction (L := L) (D_is_integer := D_is_integer) (D_is_pair := D_is_pair) (D_divisor := D_divisor) (F := fun_of F_is_fraction) (ln := (fun ds h Q E hs => by obtain ⟨_, rfl, _⟩ := hs; rfl)) (pl := p_is_fraction))
  have D_is_share : Dn P w K mg base "is_share" 3 [("thing" : Str)] sp_is_share := dn_of G_is_share F_is_share.kp (F_is_share.bindsN fun _ _ _ _ _ _ us hl => match us, hl with | [_], _ => rfl) (w_is_share (L := L) (D_is_fraction := D_is_fraction) (F := fun_of F_is_share) (ln := (fun ds h Q E hs => by obtain ⟨_, rfl, _⟩ := hs; rfl)) (pl := p_is_share))
  have D_are_shares : Dn P w K mg base "are_shares" 5 [("things" : Str)] sp_are_shares := dn_of G_are_shares F_are_shares.kp (F_are_shares.bindsN fun _ _ _ _ _ _ us hl => match us, hl with | [_], _ => rfl) (w_are_shares (L := L) (D_total := D_total) (D_is_share := D_is_share) (g_ONE := g_ONE) (F := fun_of F_are_shares) (ln := (fun ds h Q E hs => by obtain ⟨_, _, rfl, _⟩ := hs; rfl)) (pl := p_are_shares))
  have D__law_hand : Dn P w K mg base "_law_hand" 1 [("_law_script" : Str)] sp_l_hand := dn_of G__law_hand F_l_hand.kp (F_l_hand.bindsN fun _ _ _ _ _ _ us hl => match us, hl with | [_], _ => rfl) (w_l_hand (L := L) (F := fun_of F_l_hand) (ln := (fun ds h Q E hs => by obtain ⟨_, rfl, _⟩ := hs; rfl)) (pl := p_l_hand))
  have D__law_draw : Dn P w K mg base "_law_draw" 1 [("_law_hand_here" : Str), ("_law_many" : Str)] sp_l_draw := dn_of G__law_draw F_l_draw.kp (F_l_draw.bindsN fun _ _ _ _ _ _ us hl => match us, hl with | [_, _], _ => rfl) (w_l_draw (L := L) (F := fun_of F_l_draw) (ln := (fun ds h Q E hs => by obtain ⟨_, _, _, rfl, _⟩ := hs; rfl)) (pl := p_l_draw))
  have D__law_any : Dn P w K mg base "_law_any" 2 [("_law_hand_here" : Str), ("_law_things" : Str)] sp_l_any := dn_of G__law_any F_l_any.kp (F_l_any.bindsN fun _ _ _ _ _ _ us hl => match us, hl with | [_, _], _ => rfl) (w_l_any (L := L) (D__law_draw := D__law_draw) (F := fun_of F_l_any) (ln := (fun ds h Q E hs => by obtain ⟨_, _, _, _, rfl, _⟩ := hs; rfl)) (pl := p_l_any))
  have D__law_is : Dn P w K mg base "_law_is" 1 [("_law_told_here" : Str), ("_law_due_here" : Str)] sp_l_is := dn_of G__law_is F_l_is.kp (F_l_is.bindsN fun _ _ _ _ _ _ us hl => match us, hl with | [_, _], _ => rfl) (w_l_is (L := L) (F := fun_of F_l_is) (ln := (fun ds h Q E hs => by obtain ⟨_, _, _, _, rfl, _⟩ := hs; rfl)) (pl := p_l_is))
  have D__law_low : Dn P w K mg base "_law_low" 1 [("_law_top" : Str), ("_law_bottom" : Str)] sp_l_low := dn_of G__law_low F_l_low.kp (F_l_low.bindsN fun _ _ _ _ _ _ us hl => match us, hl with | [_, _], _ => rfl) (w_l_low (L := L) (F := fun_of F_l_low) (ln := (fun ds h Q E hs => by obtain ⟨_, _, rfl, _⟩ := hs; rfl)) (pl := p_l_low))
  have D__law_plus : Dn P w K mg base "_law_plus" 2 [("_law_one" : Str), ("_law_other" : Str)] sp_plus := dn_of G__law_plus F_l_plus.kp (F_l_plus.bindsN fun _ _ _ _ _ _ us hl => match us, hl with | [_, _], _ => rfl) (w_l_plus (L := L) (D__law_low := D__law_low) (F := fun_of F_l_plus) (ln := (fun ds h Q E hs => by obtain ⟨_, _, rfl, _⟩ := hs; rfl)) (pl := p_l_plus))
  have D__law_sum : Dn P w K mg base "_law_sum" 3 [("_law_some" : Str)] sp_total := dn_of G__law_sum F_l_sum.kp (F_l_sum.bindsN fun _ _ _ _ _ _ us hl => match us, hl with | [_], _ => rfl) (w_l_sum (L := L) (D__law_plus := D__law_plus) (F := fun_of F_l_sum) (ln := (fun ds h Q E hs => by obtain ⟨_, _, rfl, _⟩ := hs; rfl)) (pl := p_l_sum))
  have D_are_rows : Dn P w K mg base "are_rows" 3 [("thing" : Str)] sp_are_rows := dn_of G_are_rows F_are_rows.kp (F_are_rows.bindsN fun _ _ _ _ _ _ us hl => match us, hl with | [_], _ => rfl) (w_are_rows (L := L) (D_is_sized := D_is_sized) (g_MOST_ASKED := g_MOST_ASKED) (g_MOST_STANDINGS := g_MOST_STANDINGS) (F := fun_of F_are_rows) (ln := (fun ds h Q E hs => by obtain ⟨_, _, rfl, _⟩ := hs; rfl)) (pl := p_are_rows))
  have D_is_step : Dn P w K mg base "is_step" 4 [("words" : Str), ("standings" : Str), ("thing" : Str)] sp_is_step := dn_of G_is_step F_is_step.kp (F_is_step.bindsN fun _ _ _ _ _ _ us hl => match us, hl with | [_, _, _], _ => rfl) (w_is_step (L := L) (D_is_within := D_is_within) (D_is_triple := D_is_triple) (D_is_share := D_is_share) (F := fun_of F_is_step) (ln := (fun ds h Q E hs => by obtain ⟨_, _, _, _, rfl, _⟩ := hs; rfl)) (pl := p_is_step))
  have D_are_steps : Dn P w K mg base "are_steps" 6 [("words" : Str), ("standings" : Str), ("thing" : Str)] sp_are_steps := dn_of G_are_steps F_are_steps.kp (F_are_steps.bindsN fun _ _ _ _ _ _ us hl => match us, hl with | [_, _, _], _ => rfl) (w_are_steps (L := L) (D_is_step := D_is_step) (D_is_sized := D_is_sized) (D_are_shares := D_are_shares) (g_MOST_TRIPLES := g_MOST_TRIPLES) (F := fun_of F_are_steps) (ln := (fun ds h Q E hs => by obtain ⟨_, _, _, _, rfl, _⟩ := hs; rfl)) (pl := p_are_steps))
  have D_check_rows : Dn P w K mg base "check_rows" 7 [("worlds" : Str), ("words" : Str), ("rows" : Str)] (sp_check_rows K) := dn_of G_check_rows F_check_rows.kp (F_check_rows.bindsN fun _ _ _ _ _ _ us hl => match us, hl with | [_, _, _], _ => rfl) (w_check_rows (L := L) (D_is_sized := D_is_sized) (D_are_steps := D_are_steps) (E_BadMachine := E_BadMachine) (F := fun_of F_check_rows) (ln := (fun ds h Q E hs => by obtain ⟨_, _, _, _, rfl, _⟩ := hs; rfl)) (pl := p_check_rows))
  have F1_Machine_init : GF P w K mg base 8 (He.ma K (He.ga K "Machine") "__init__") fd_Machine_init [("self" : Str), ("worlds" : Str), ("words" : Str), ("rows" : Str)] (sp_Machine_init K) := w_Machine_init (L := L) (D_is_within := D_is_within) (D_are_rows := D_are_rows) (D_check_rows := D_check_rows) (g_MOST_WORLDS := g_MOST_WORLDS) (g_MOST_WORDS := g_MOST_WORDS) (E_BadMachine := E_BadMachine) (F := fun_of F_Machine_init) (ln := (fun ds h Q E hs => by obtain ⟨_, _, _, _, _, _, _, rfl, _⟩ := hs; rfl)) (pl := (p_Machine_init C_Machine N_Machine_worlds N_Machine_words N_Machine_rows))
  have D_Machine : Dm P w K mg base "Machine" (He.ga K "Machine") 8 [("self" : Str), ("worlds" : Str), ("words" : Str), ("rows" : Str)] (sp_Machine_init K) := ⟨_, fd_Machine_init, K_Machine, G_Machine, (F_Machine_init.bindsN fun _ _ _ _ _ _ us hl => match us, hl with | [_, _, _, _], _ => rfl), F1_Machine_init⟩
  have F1_Machine_eq : GF P w K mg base 1 (He.ma K (He.ga K "Machine") "__eq__") fd_Machine_eq [("self" : Str), ("other" : Str)] (sp_Machine_eq K) := w_Machine_eq (L := L) (g_Machine := g_Machine) (F := fun_of F_Machine_eq) (ln := (fun ds h Q E hs => by rcases hs with ⟨_, _, _, _, _, _, _, _, rfl, _⟩ | ⟨_, _, _, _, _, _, rfl, _⟩ <;> rfl)) (pl := (p_Machine_eq C_Machine N_Machine_worlds N_Machine_words N_Machine_rows I_Machine (of_decide_eq_true X_kk) (fun z hz => by rcases hz with rfl | rfl; exact of_decide_eq_true X_ki; exact of_decide_eq_true X_kt)))
  have C_eq : ∃ f fd, PySem.W.findIn K (.ref (He.ga K "Machine")) "__eq__" = some (some (.ref f)) ∧ PySem.W.isFn K (.ref f) = true ∧ neB K (He.ga K "Machine") f = true ∧ Binds K fd [("self" : Str), ("other" : Str)] [] ∧ GF P w K mg base 1 f fd [("self" : Str), ("other" : Str)] (sp_Machine_eq K) := ⟨_, fd_Machine_eq, M_Machine_eq.at_, M_Machine_eq.fn, X_ne_Machine, (F_Machine_eq.bindsN fun _ _ _ _ _ _ us hl => match us, hl with | [_, _], _ => rfl), F1_Machine_eq⟩
  have D__law_steps : Dn P w K mg base "_law_steps" 3 [("_law_hand_here" : Str), ("_law_words" : Str), ("_law_standings" : Str)] sp_l_steps := dn_of G__law_steps F_l_steps.kp (F_l_steps.bindsN fun _ _ _ _ _ _ us hl => match us, hl with | [_, _, _], _ => rfl) (w_l_steps (L := L) (D__law_draw := D__law_draw) (D__law_any := D__law_any) (D__law_low := D__law_low) (F := fun_of F_l_steps) (ln := (fun ds h Q E hs => by obtain ⟨_, _, _, _, rfl, _⟩ := hs; rfl)) (pl := p_l_steps))
  have D__law_rows : Dn P w K mg base "_law_rows" 4 [("_law_hand_here" : Str), ("_law_worlds" : Str), ("_law_words" : Str), ("_law_asked" : Str), ("_law_standings" : Str)] sp_l_rows := dn_of G__law_rows F_l_rows.kp (F_l_rows.bindsN fun _ _ _ _ _ _ us hl => match us, hl with | [_, _, _, _, _], _ => rfl) (w_l_rows (L := L) (D__law_steps := D__law_steps) (D__law_draw := D__law_draw) (F := fun_of F_l_rows) (ln := (fun ds h Q E hs => by obtain ⟨_, _, _, _, _, _, rfl, _⟩ := hs; rfl)) (pl := p_l_rows))
  have D__law_deep : Dn P w K mg base "_law_deep" 3 [("_law_hand_here" : Str)] sp_l_deep := dn_of G__law_deep F_l_deep.kp (F_l_deep.bindsN fun _ _ _ _ _ _ us hl => match us, hl with | [_], _ => rfl) (w_l_deep (L := L) (D__law_any := D__law_any) (D__law_draw := D__law_draw) (F := fun_of F_l_deep) (ln := (fun ds h Q E hs => by obtain ⟨_, _, rfl, _⟩ := hs; rfl)) (pl := p_l_deep))
  have D__law_odd : Dn P w K mg base "_law_odd" 4 [("_law_hand_here" : Str)] sp_l_odd := dn_of G__law_odd F_l_odd.kp (F_l_odd.bindsN fun _ _ _ _ _ _ us hl => match us, hl with | [_], _ => rfl) (w_l_odd (L := L) (D__law_deep := D__law_deep) (D__law_any := D__law_any) (F := fun_of F_l_odd) (ln := (fun ds h Q E hs => by obtain ⟨_, _, rfl, _⟩ := hs; rfl)) (pl := p_l_odd))
  have R_l_put : ∀ n, Dn P w K mg base "_law_put" (n) [("_law_thing" : Str), ("_law_path" : Str), ("_law_item" : Str)] ((sp_l_put (n))) := fun n => by
    induction n with
    | zero => exact dn_of G__law_put F_l_put.kp (F_l_put.bindsN fun _ _ _ _ _ _ us hl => match us, hl with | [_, _, _], _ => rfl) (gf_no (fun ds h Q E ⟨_, _, _, _, l, _⟩ => absurd l (Nat.not_lt_zero _)))
    | succ n ih => exact dn_of G__law_put F_l_put.kp (F_l_put.bindsN fun _ _ _ _ _ _ us hl => match us, hl with | [_, _, _], _ => rfl) (w_l_put (L := L) (D__law_put := ih) (F := fun_of F_l_put) (ln := (fun ds h Q E hs => by obtain ⟨_, _, _, rfl, _⟩ := hs; rfl)) (pl := (p_l_put n)))
  have D__law_put : Dn P w K mg base "_law_put" 9 [("_law_thing" : Str), ("_law_path" : Str), ("_law_item" : Str)] (sp_l_put 8) := (R_l_put 8).mono (by decide)
  have D__law_spoilt : Dn P w K mg base "_law_spoilt" 10 [("_law_hand_here" : Str), ("_law_rows_here" : Str), ("_law_worlds" : Str), ("_law_words" : Str)] sp_l_spoilt := dn_of G__law_spoilt F_l_spoilt.kp (F_l_spoilt.bindsN fun _ _ _ _ _ _ us hl => match us, hl with | [_, _, _, _], _ => rfl) (w_l_spoilt (L := L) (D__law_draw := D__law_draw) (D__law_odd := D__law_odd) (D__law_any := D__law_any) (D__law_put := D__law_put) (D__law_low := D__law_low) (F := fun_of F_l_spoilt) (ln := (fun ds h Q E hs => by obtain ⟨_, _, _, _, _, _, rfl, _⟩ := hs; rfl)) (pl := p_l_spoilt))
  have D__law_number : Dn P w K mg base "_law_number" 1 [("_law_thing" : Str), ("_law_least" : Str), ("_law_most" : Str)] sp_l_number := dn_of G__law_number F_l_number.kp (F_l_number.bindsN fun _ _ _ _ _ _ us hl => match us, hl with | [_, _, _], _ => rfl) (w_l_number (L := L) (F := fun_of F_l_number) (ln := (fun ds h Q E hs => by obtain ⟨_, _, _, _, rfl, _⟩ := hs; rfl)) (pl := p_l_number))
  have D__law_tuple : Dn P w K mg base "_law_tuple" 1 [("_law_thing" : Str), ("_law_least" : Str), ("_law_most" : Str)] sp_l_tuple := dn_of G__law_tuple F_l_tuple.kp (F_l_tuple.bindsN fun _ _ _ _ _ _ us hl => match us, hl with | [_, _, _], _ => rfl) (w_l_tuple (L := L) (F := fun_of F_l_tuple) (ln := (fun ds h Q E hs => by obtain ⟨_, _, _, _, rfl, _⟩ := hs; rfl)) (pl := p_l_tuple))
  have D__law_are_steps : Dn P w K mg base "_law_are_steps" 4 [("_law_thing" : Str), ("_law_words" : Str), ("_law_standings" : Str)] sp_l_are_steps := dn_of G__law_are_steps F_l_are_steps.kp (F_l_are_steps.bindsN fun _ _ _ _ _ _ us hl => match us, hl with | [_, _, _], _ => rfl) (w_l_are_steps (L := L) (D__law_tuple := D__law_tuple) (D__law_number := D__law_number) (D__law_low := D__law_low) (D__law_sum := D__law_sum) (F := fun_of F_l_are_steps) (ln := (fun ds h Q E hs => by obtain ⟨_, _, _, _, rfl, _⟩ := hs; rfl)) (pl := p_l_are_steps))
  have D__law_due : Dn P w K mg base "_law_due" 5 [("_law_worlds" : Str), ("_law_words" : Str), ("_law_rows_here" : Str)] sp_l_due := dn_of G__law_due F_l_due.kp (F_l_due.bindsN fun _ _ _ _ _ _ us hl => match us, hl with | [_, _, _], _ => rfl) (w_l_due (L := L) (D__law_number := D__law_number) (D__law_tuple := D__law_tuple) (D__law_are_steps := D__law_are_steps) (F := fun_of F_l_due) (ln := (fun ds h Q E hs => by obtain ⟨_, _, _, _, rfl, _⟩ := hs; rfl)) (pl := p_l_due))
  have D__law_told : Dn P w K mg base "_law_told" 10 [("_law_worlds" : Str), ("_law_words" : Str), ("_law_rows_here" : Str)] (sp_l_told K) := dn_of G__law_told F_l_told.kp (F_l_told.bindsN fun _ _ _ _ _ _ us hl => match us, hl with | [_, _, _], _ => rfl) (w_l_told (L := L) (D_Machine := D_Machine) (g_BadMachine := g_BadMachine) (m_HouseError := G_HouseError) (xf_BadMachine := xfB_ok X_xf_BadMachine) (xn_BadMachine := xn_BadMachine) (F := fun_of F_l_told) (ln := (fun ds h Q E hs => by obtain ⟨_, _, _, _, rfl, _⟩ := hs; rfl)) (pl := (p_l_told (of_decide_eq_true X_exm) (exciB_ok X_exci_BadMachine) (of_decide_eq_true X_kb))))
  have D__law_edge_steps : Dn P w K mg base "_law_edge_steps" 4 [("_law_hand_here" : Str), ("_law_words" : Str), ("_law_standings" : Str)] sp_l_edge_steps := dn_of G__law_edge_steps F_l_edge_steps.kp (F_l_edge_steps.bindsN fun _ _ _ _ _ _ us hl => match us, hl with | [_, _, _], _ => rfl) (w_l_edge_steps (L := L) (D__law_draw := D__law_draw) (D__law_any := D__law_any) (F := fun_of F_l_edge_steps) (ln := (fun ds h Q E hs => by obtain ⟨_, _, _, _, rfl, _⟩ := hs; rfl)) (pl := p_l_edge_steps))
  have D__law_edged : Dn P w K mg base "_law_edged" 10 [("_law_hand_here" : Str)] sp_l_edged := dn_of G__law_edged F_l_edged.kp (F_l_edged.bindsN fun _ _ _ _ _ _ us hl => match us, hl with | [_], _ => rfl) (w_l_edged (L := L) (D__law_any := D__law_any) (D__law_draw := D__law_draw) (D__law_edge_steps := D__law_edge_steps) (D__law_put := D__law_put) (F := fun_of F_l_edged) (ln := (fun ds h Q E hs => by obtain ⟨_, _, rfl, _⟩ := hs; rfl)) (pl := p_l_edged))
  exact w_law (L := L) (D__law_hand := D__law_hand) (D__law_edged := D__law_edged) (D__law_told := D__law_told) (D__law_due := D__law_due) (D__law_is := D__law_is) (D__law_draw := D__law_draw) (D__law_rows := D__law_rows) (D__law_spoilt := D__law_spoilt) (D__law_odd := D__law_odd) (D__law_any := D__law_any) (D_Machine := D_Machine) (C_eq := C_eq) (F := fun_of F_law) (ln := (fun ds h Q E hs => by obtain ⟨_, rfl, _⟩ := hs; rfl)) (pl := (p_law C_Machine N_Machine_worlds N_Machine_words N_Machine_rows X_nfT X_nfI X_nfM))
end K63
open PySem PySem.W PySem.Calls PyProof.Rows
theorem PySem.Challenge.cw_tellsless_k63_machines_refused_holds : PySem.Challenge.rw_tellsless_k63_machines_refused.Holds := by
  w_on; o_law
  refine HandSHeadRun.head_any (r := OpenLaw.row PySem.Challenge.rw_tellsless_k63_machines_refused) (q := view (OpenLaw.row PySem.Challenge.rw_tellsless_k63_machines_refused).prog [54]) (H := K63.hk) (ob := K63.ob) (M := 4000) (loose := K63.loose) (d := HandSHeadRun.topDef (OpenLaw.row PySem.Challenge.rw_tellsless_k63_machines_refused).prog 54) (kwd := []) K63.ob_eq
    (by kernel_rfl) (fun s => by kernel_rfl) K63.run (by kernel_rfl) (by kernel_rfl) (by kernel_rfl) (by rfl) (by first | assumption | decide +kernel) (by decide +kernel) ⟨rfl, rfl, rfl, rfl, rfl, by decide +kernel⟩ ?hw ?hc
  case hw => w_witness2
  case hc =>
    refine PD.walk_ofG (l := PySem.Challenge.rw_tellsless_k63_machines_refused) (n := 63) (k := 20) (x := "_law_script") rfl (by decide) (by kernel_rfl) ⟨by decide, by decide, by decide⟩ ?F
    intro w mg fa h Y G hmg0
    obtain ⟨K, KX, c⟩ := Y
    have hmg : mg ("law" : PySem.Str) = some (.ref fa) := by
      have e : (HandSHeadRun.topDef (OpenLaw.row PySem.Challenge.rw_tellsless_k63_machines_refused).prog 54).name = ("law" : PySem.Str) := by kernel_rfl
      rw [← e]
      exact hmg0
    obtain ⟨fd, hb, hF⟩ := K63.facts (P := (PySem.Challenge.rw_tellsless_k63_machines_refused).prog) (w := w) KX G hmg c
    exact ⟨K, fd, K63.sp_law, KX, hb, fun ns hl _ => ⟨ns, rfl, hl, rfl, fun _ => rfl⟩, hF⟩
