import PyProof.Rows.All
import Wide.All
import OpenK.AllK
import Wide.FinOn
import HandS.ForMost
import HandS.Exc
import KE.KDictKeyed
import KE.SortData
import HandS.TupAny
import HandS.IsInst
import HandS.RaiseMore
import KE.DataMinMax
import PyProof.ListStr
import PyProof.P3In
import KE.GoesNew
import KE.KUnpack
import KE.GoesMore
import HandS.Ends
import HandS.Dict
import HandS.Conv
import KE.KDictCopyH
import HandS.TupLen
import KE.KDictSum
import PyProof.TupleOfSeq
import HandS.More
import HandS.TupMul
import PyProof.ReprLen
import HandS.ExcInit
import HandS.ForExc
import HandS.TryOnly
import HandS.ExcField
import KE.KExcIs
import HandS.ExcIs
import KE.KDictPairs
import HandS.Text
import PyProof.StrLawsIn
import PyProof.EqKinds
import PyProof.P3Eq
import HandS.SetFor
import HandS.Strs
import PyProof.SumWalk
import HandS.ExcValue
import KE.IntTextLaws
import KE.GoesRaise
import HandS.StrSplit
import HandS.ReplaceLit
import KE.DataCmp
import HandS.TupSets
import HandS.SetTxt0
import PySem.Challenge.RW_risingsheets_k03_bounds_of_plans
set_option Elab.async false
set_option linter.all false
set_option maxRecDepth 100000
set_option maxHeartbeats 4000000
namespace Rz
open PySem PySem.Spec PyProof.Rows L2
abbrev PD := PyData
mutual
def imm : PD → Bool
  | .list _ => false
  | .dict _ => false
  | .tuple ds => immAll ds
  | .none => true
  | .bool _ => true
  | .int _ => true
  | .str _ => true
def immAll : List PD → Bool
  | [] => true
  | d :: ds => imm d && immAll ds
end
theorem immAll_iff : ∀ {ds : List PD}, immAll ds = true ↔ ∀ d ∈ ds, imm d = true
  | [] => by simp [immAll]
  | d :: ds => by simp [immAll, immAll_iff (ds := ds)]
mutual
def keyOf : PD → Option NestedKey
  | .none => some .none
  | .bool b => some (.num (if b then 1 else 0))
  | .int i => some (.num i)
  | .str x => some (.text x)
  | .tuple ds => (keyAll ds).map .tup
  | .list _ => none
  | .dict _ => none
def keyAll : List PD → Option (List NestedKey)
  | [] => some []
  | d :: ds => match keyOf d, keyAll ds with
    | some k, some ks => some (k :: ks)
    | _, _ => none
end
def isTupD : PD → Bool
  | .tuple _ => true
  | _ => false
/-- an int or a text -/
def keyF : PD → Option L2.Key
  | .int i => some (.inl i)
  | .str x => some (.inr x)
  | _ => none
/-- keys that one dict can hold: all keys, of one kind, none twice -/
structure KeysOk (ks : List PD) : Prop where
  key : ∀ k ∈ ks, ∃ n, keyOf k = some n ∧ n.depth ≤ 8
  one : (∀ k ∈ ks, (keyF k).isSome = true) ∨ (∀ k ∈ ks, isTupD k = true)
  nd : (ks.map keyOf).Nodup
/-- a dict's own object -/
def dRaw (a : Addr) (es : List DictEntry) (ep : Nat) : HO :=
  .ext fun h => (a == sysModules) = false ∧ es.length ≤ sizeLine ∧ ∃ o, h.get? a = some o ∧ o.ExactDict ∧ o.data = .dict es.toArray ep
def hashD (w : World) (d : PD) : Int := ((keyOf d).getD .none).hash w
def insKey : PD := .dict []
def insTag (C : Addr) : PD := .tuple [.int (2 ^ 2000), .int C]
/-- marked as an instance -/
def isIns : List (PD × PD) → Bool
  | (.dict [], .tuple (x :: _)) :: _ => !x.showable
  | _ => false
theorem isIns_tag {C : Addr} {kvs : List (PD × PD)} : isIns ((insKey, insTag C) :: kvs) = true := by
  show (!PyData.showable (.int (2 ^ 2000))) = true
  decide +kernel
mutual
/-- no instance within -/
def noIns : PD → Bool
  | .list ds => noInsAll ds
  | .tuple ds => noInsAll ds
  | .dict kvs => !isIns kvs && noInsKv kvs
  | .none => true
  | .bool _ => true
  | .int _ => true
  | .str _ => true
def noInsAll : List PD → Bool
  | [] => true
  | d :: ds => noIns d && noInsAll ds
def noInsKv : List (PD × PD) → Bool
  | [] => true
  | (k, d) :: r => noIns k && noIns d && noInsKv r
end
theorem isIns_show : ∀ {kvs : List (PD × PD)}, PyData.showableKv kvs = true → isIns kvs = false
  | [], _ => rfl
  | (k, d) :: r, h => by
    rw [PyData.showableKv, Bool.and_eq_true, Bool.and_eq_true] at h
    unfold isIns
    split
    · rename_i x xs _ e
      cases e
      have := h.1.2
      rw [PyData.showable, PyData.showableAll, Bool.and_eq_true] at this
      rw [this.1]; rfl
    · rfl
mutual
theorem noIns_show : ∀ {d : PD}, d.showable = true → noIns d = true
  | .none, _ => rfl
  | .bool _, _ => rfl
  | .int _, _ => rfl
  | .str _, _ => rfl
  | .list ds, h => by rw [noIns]; exact noInsAll_show (by rw [PyData.showable] at h; exact h)
  | .tuple ds, h => by rw [noIns]; exact noInsAll_show (by rw [PyData.showable] at h; exact h)
  | .dict kvs, h => by
    rw [PyData.showable] at h
    rw [noIns, isIns_show h]
    exact noInsKv_show h
theorem noInsAll_show : ∀ {ds : List PD}, PyData.showableAll ds = true → noInsAll ds = true
  | [], _ => rfl
  | d :: ds, h => by
    rw [PyData.showableAll, Bool.and_eq_true] at h
    rw [noInsAll, noIns_show h.1, noInsAll_show h.2]; rfl
theorem noInsKv_show : ∀ {kvs : List (PD × PD)}, PyData.showableKv kvs = true → noInsKv kvs = true
  | [], _ => rfl
  | (k, d) :: r, h => by
    rw [PyData.showableKv, Bool.and_eq_true, Bool.and_eq_true] at h
    rw [noInsKv, noIns_show h.1.1, noIns_show h.1.2, noInsKv_show h.2]; rfl
end
mutual
theorem noIns_noDict : ∀ {d : PD}, d.hasDict = false → noIns d = true
  | .none, _ => rfl
  | .bool _, _ => rfl
  | .int _, _ => rfl
  | .str _, _ => rfl
  | .list ds, h => by rw [noIns]; exact noInsAll_noDict (by rw [PyData.hasDict] at h; exact h)
  | .tuple ds, h => by rw [noIns]; exact noInsAll_noDict (by rw [PyData.hasDict] at h; exact h)
  | .dict kvs, h => by rw [PyData.hasDict] at h; cases h
theorem noInsAll_noDict : ∀ {ds : List PD}, PyData.hasDictAll ds = false → noInsAll ds = true
  | [], _ => rfl
  | d :: ds, h => by
    rw [PyData.hasDictAll, Bool.or_eq_false_iff] at h
    rw [noInsAll, noIns_noDict h.1, noInsAll_noDict h.2]; rfl
end
theorem noIns_lay {d : PD} (h : d.canLay0 = true) : noIns d = true := noIns_noDict (PyData.hasDict_of_canLay d h)
theorem noInsAll_lay : ∀ {ds : List PD}, PyData.canLayAll0 ds = true → noInsAll ds = true
  | [], _ => rfl
  | d :: ds, h => by
    rw [PyData.canLayAll0, Bool.and_eq_true] at h
    rw [noInsAll, noIns_lay h.1, noInsAll_lay h.2]; rfl
theorem noInsAll_iff : ∀ {ds : List PD}, noInsAll ds = true ↔ ∀ d ∈ ds, noIns d = true
  | [] => by simp [noInsAll]
  | d :: ds => by simp [noInsAll, noInsAll_iff (ds := ds)]
mutual
theorem noIns_alike : ∀ {d : PD}, PySem.W.alike d d = true → noIns d = true
  | .none, _ => rfl
  | .bool _, _ => rfl
  | .int _, _ => rfl
  | .str _, _ => rfl
  | .list ds, h => by rw [noIns]; exact noInsAll_alike (by rw [PySem.W.alike] at h; exact h)
  | .tuple ds, h => by rw [noIns]; exact noInsAll_alike (by rw [PySem.W.alike] at h; exact h)
  | .dict kvs, h => by simp [PySem.W.alike] at h
theorem noInsAll_alike : ∀ {ds : List PD}, PySem.W.alikeAll ds ds = true → noInsAll ds = true
  | [], _ => rfl
  | d :: ds, h => by
    rw [PySem.W.alikeAll, Bool.and_eq_true] at h
    rw [noInsAll, noIns_alike h.1, noInsAll_alike h.2]; rfl
end
/-- the built-in classes that isinstance is asked for -/
def isiOk (T : String) : Bool := ["int", "bool", "str", "list", "tuple"].contains T
/-- what a class must have whose instances stand as data; ns: names of attributes -/
structure InsC (K : PySem.W.Frag) (C : Addr) (ns : List Str) : Prop where
  cl : Cls K C
  ty : ∀ (H : Hp) (a dx : Addr) (fs : List (Str × V)), H a = some (.ins C dx fs) → TyOf K H (.ref a) (.ref C)
  no : ∀ T, isiOk T = true → PySem.W.kitOne K (.ref C) (.type T) = some false
  na : ∀ f ∈ ns, NoAttr K C f
  nd : ns.Nodup
section
variable (w : World) (K : PySem.W.Frag)
mutual
inductive Rep (H : Hp) : V → PD → Prop
  | non : Rep H .non .none
  | bl (b : Bool) : Rep H (.bl b) (.bool b)
  | int (i : Int) : Rep H (.int i) (.int i)
  | str (x : Str) : Rep H (.str x) (.str x)
  | lst {a : Addr} {xs : List V} {ds : List PD} : H a = some (.lst xs) → Reps H xs ds → Rep H (.ref a) (.list ds)
  | tup {a : Addr} {xs : List V} {ds : List PD} : SqT K H a xs → Reps H xs ds → Rep H (.ref a) (.tuple ds)
  | dct {a : Addr} {es : List DictEntry} {ep : Nat} {kvs : List (PD × PD)} : H a = some (dRaw a es ep) → RepsE H es kvs → KeysOk (kvs.map (·.1)) → Rep H (.ref a) (.dict kvs)
  | ins {a C dx : Addr} {fs : List (Str × V)} {kvs : List (PD × PD)} : H a = some (.ins C dx fs) → H dx = some (.own a) → InsC K C (fs.map (·.1)) → RepsI H C fs kvs → Rep H (.ref a) (.dict kvs)
inductive Reps (H : Hp) : List V → List PD → Prop
  | nil : Reps H [] []
  | cons {v : V} {vs : List V} {d : PD} {ds : List PD} : Rep H v d → Reps H vs ds → Reps H (v :: vs) (d :: ds)
inductive RepsE (H : Hp) : List DictEntry → List (PD × PD) → Prop
  | nil : RepsE H [] []
  | cons {e : DictEntry} {es : List DictEntry} {k d : PD} {kvs : List (PD × PD)} {kv dv : V} : e.hash = hashD w k → RelV kv e.key → Rep H kv k → RelV dv e.val → Rep H dv d → RepsE H es kvs → RepsE H (e :: es) ((k, d) :: kvs)
inductive RepsI (H : Hp) : Addr → List (Str × V) → List (PD × PD) → Prop
  | hd {C : Addr} {fs : List (Str × V)} {kvs : List (PD × PD)} : RepsF H fs kvs → RepsI H C fs ((insKey, insTag C) :: kvs)
inductive RepsF (H : Hp) : List (Str × V) → List (PD × PD) → Prop
  | nil : RepsF H [] []
  | cons {n : Str} {v : V} {fs : List (Str × V)} {d : PD} {kvs : List (PD × PD)} : Rep H v d → RepsF H fs kvs → RepsF H ((n, v) :: fs) ((.str n, d) :: kvs)
end
end
/-- a heap within another one -/
def Le (G H : Hp) : Prop := ∀ a o, G a = some o → H a = some o
theorem Le.refl (H : Hp) : Le H H := fun _ _ h => h
theorem Le.trans {A B C : Hp} (h : Le A B) (g : Le B C) : Le A C := fun a o e => g a o (h a o e)
theorem Le.upd {H : Hp} {p : Addr} {o : HO} (h : H p = none) : Le H (upd H p o) := fun a x e => by
  by_cases q : a = p
  · subst q; rw [h] at e; cases e
  · rw [upd_ne q]; exact e
theorem Le.upd2 {G H : Hp} {p : Addr} {o : HO} (l : Le G H) : Le (L2.upd G p o) (L2.upd H p o) := fun a x e => by
  by_cases q : a = p
  · subst q; rw [upd_same] at e ⊢; exact e
  · rw [upd_ne q] at e ⊢; exact l a x e
theorem Le.none {G H : Hp} (l : Le G H) {a : Addr} (h : H a = Option.none) : G a = Option.none := by
  cases e : G a with
  | none => rfl
  | some o => rw [l a o e] at h; cases h
variable {w : World} {K : PySem.W.Frag} {H H' G G' : Hp} {a p : Addr}
theorem Le.rd (l : Le H H') {u : HO} (h : Rd H a u) : Rd H' a u := h.elim (fun e => .inl (l _ _ e)) fun ⟨o, e⟩ => .inr ⟨o, l _ _ e⟩
theorem Le.sqL (l : Le H H') {xs : List V} (h : SqL K H a xs) : SqL K H' a xs := h.elim (fun e => .inl (l.rd e)) .inr
theorem Le.sqT (l : Le H H') {xs : List V} (h : SqT K H a xs) : SqT K H' a xs := h.elim (fun e => .inl (l.rd e)) .inr
mutual
theorem Rep.mono (l : Le H H') : ∀ {d : PD} {v : V}, Rep w K H v d → Rep w K H' v d
  | .none, _, h => by cases h; exact .non
  | .bool _, _, h => by cases h; exact .bl _
  | .int _, _, h => by cases h; exact .int _
  | .str _, _, h => by cases h; exact .str _
  | .list ds, _, h => by cases h with | lst s r => exact .lst (l _ _ s) (Reps.mono l r)
  | .tuple ds, _, h => by cases h with | tup s r => exact .tup (l.sqT s) (Reps.mono l r)
  | .dict kvs, _, h => by
    cases h with
    | dct s r k => exact .dct (l _ _ s) (RepsE.mono l r) k
    | ins s1 s2 c r => exact .ins (l _ _ s1) (l _ _ s2) c (RepsI.mono l r)
theorem Reps.mono (l : Le H H') : ∀ {ds : List PD} {vs : List V}, Reps w K H vs ds → Reps w K H' vs ds
  | [], _, h => by cases h; exact .nil
  | _ :: _, _, h => by cases h with | cons a b => exact .cons (Rep.mono l a) (Reps.mono l b)
theorem RepsE.mono (l : Le H H') : ∀ {ds : List (PD × PD)} {vs : List DictEntry}, RepsE w K H vs ds → RepsE w K H' vs ds
  | [], _, h => by cases h; exact .nil
  | (k, d) :: r, _, h => by cases h with | cons e1 e2 e3 e4 e5 e6 => exact .cons e1 e2 (Rep.mono l e3) e4 (Rep.mono l e5) (RepsE.mono l e6)
theorem RepsI.mono (l : Le H H') : ∀ {ds : List (PD × PD)} {C : Addr} {vs : List (Str × V)}, RepsI w K H C vs ds → RepsI w K H' C vs ds
  | [], _, _, h => by cases h
  | (k, d) :: r, _, _, h => by cases h with | hd q => exact .hd (RepsF.mono l q)
theorem RepsF.mono (l : Le H H') : ∀ {ds : List (PD × PD)} {vs : List (Str × V)}, RepsF w K H vs ds → RepsF w K H' vs ds
  | [], _, h => by cases h; exact .nil
  | (k, d) :: r, _, h => by cases h with | cons q e => exact .cons (Rep.mono l q) (RepsF.mono l e)
end
theorem Rep.keyed {v : V} {kvs : List (PD × PD)} (h : Rep w K H v (.dict kvs)) (n : isIns kvs = false) : ∃ a es ep, v = .ref a ∧ H a = some (dRaw a es ep) ∧ RepsE w K H es kvs ∧ KeysOk (kvs.map (·.1)) := by
  cases h with
  | dct s r k => exact ⟨_, _, _, rfl, s, r, k⟩
  | ins _ _ _ r => cases r; rw [isIns_tag] at n; cases n
theorem RepsF.of : ∀ {fs : List (Str × V)} {ds : List PD}, Reps w K H (fs.map (·.2)) ds → RepsF w K H fs (((fs.map (·.1)).zip ds).map fun p => (.str p.1, p.2))
  | [], [], _ => .nil
  | (n, v) :: fs, d :: ds, h => by cases h with | cons a b => exact .cons a (RepsF.of b)
  | [], _ :: _, h => by cases h
  | _ :: _, [], h => by cases h
theorem RepsF.lookup {f : Str} {d : PD} : ∀ {fs : List (Str × V)} {kvs : List (Str × PD)}, RepsF w K H fs (kvs.map fun p => (.str p.1, p.2)) → kvs.lookup f = some d → ∃ v, fs.lookup f = some v ∧ Rep w K H v d
  | fs, [], _, h => by cases h
  | fs, (n, d') :: kvs, r, h => by
    cases r with
    | @cons _ v fs _ _ r1 r2 =>
      rw [List.lookup_cons] at h ⊢
      split at h
      · rename_i e; cases h; exact ⟨v, by rw [e], r1⟩
      · rename_i e; rw [e]; exact RepsF.lookup r2 h
theorem Reps.length : ∀ {ds : List PD} {vs : List V}, Reps w K H vs ds → vs.length = ds.length
  | [], _, h => by cases h; rfl
  | _ :: _, _, h => by cases h with | cons a b => simp [Reps.length b]
theorem Reps.append : ∀ {ds es : List PD} {vs us : List V}, Reps w K H vs ds → Reps w K H us es → Reps w K H (vs ++ us) (ds ++ es)
  | [], _, _, _, h, g => by cases h; exact g
  | _ :: _, _, _, _, h, g => by cases h with | cons a b => exact .cons a (Reps.append b g)
theorem Reps.get : ∀ {ds : List PD} {vs : List V} {i : Nat} {d : PD}, Reps w K H vs ds → ds[i]? = some d → ∃ v, vs[i]? = some v ∧ Rep w K H v d
  | [], _, _, _, _, e => by simp at e
  | x :: ds, _, 0, d, h, e => by cases h with | cons a b => simp at e; subst e; exact ⟨_, rfl, a⟩
  | x :: ds, _, i + 1, d, h, e => by
    cases h with
    | cons a b => obtain ⟨v, h1, h2⟩ := Reps.get (i := i) b (by simpa using e); exact ⟨v, by simpa using h1, h2⟩
theorem Reps.take : ∀ {ds : List PD} {vs : List V} (n : Nat), Reps w K H vs ds → Reps w K H (vs.take n) (ds.take n)
  | _, _, 0, _ => .nil
  | [], _, n + 1, h => by cases h; exact .nil
  | _ :: _, _, n + 1, h => by cases h with | cons a b => exact .cons a (Reps.take n b)
theorem Reps.drop : ∀ {ds : List PD} {vs : List V} (n : Nat), Reps w K H vs ds → Reps w K H (vs.drop n) (ds.drop n)
  | _, _, 0, h => h
  | [], _, n + 1, h => by cases h; exact .nil
  | _ :: _, _, n + 1, h => by cases h with | cons a b => exact Reps.drop n b
theorem Reps.ints : ∀ {ns : List Int}, Reps w K H (ns.map V.int) (ns.map .int)
  | [] => .nil
  | _ :: _ => .cons (.int _) Reps.ints
inductive OD where
  | lf (d : PD)
  | ls (xs : List OD)
  | dc (kvs : List (PD × OD))
mutual
def OD.val : OD → PD
  | .lf d => d
  | .ls xs => .list (ODvals xs)
  | .dc kvs => .dict (ODvalsE kvs)
def ODvals : List OD → List PD
  | [] => []
  | o :: os => o.val :: ODvals os
def ODvalsE : List (PD × OD) → List (PD × PD)
  | [] => []
  | (k, o) :: r => (k, o.val) :: ODvalsE r
end
theorem ODvalsE_keys : ∀ kvs : List (PD × OD), (ODvalsE kvs).map (·.1) = kvs.map (·.1)
  | [] => rfl
  | (k, o) :: r => by rw [ODvalsE]; simp [ODvalsE_keys r]
section
variable (w : World) (K : PySem.W.Frag)
mutual
/-- in H stands a tree of one's own, its shared parts in G; F: its addresses -/
inductive Own (H G : Hp) : V → OD → List Addr → Prop
  | lf {v : V} {d : PD} : Rep w K G v d → Own H G v (.lf d) []
  | ls {a : Addr} {vs : List V} {xs : List OD} {F : List Addr} : H a = some (.lst vs) → Owns H G vs xs F → Own H G (.ref a) (.ls xs) (a :: F)
  | dc {a : Addr} {es : List DictEntry} {ep : Nat} {kvs : List (PD × OD)} {F : List Addr} : H a = some (dRaw a es ep) → OwnsE H G es kvs F → KeysOk (kvs.map (·.1)) → Own H G (.ref a) (.dc kvs) (a :: F)
inductive Owns (H G : Hp) : List V → List OD → List Addr → Prop
  | nil : Owns H G [] [] []
  | cons {v : V} {vs : List V} {o : OD} {os : List OD} {F F' : List Addr} : Own H G v o F → Owns H G vs os F' → Owns H G (v :: vs) (o :: os) (F ++ F')
inductive OwnsE (H G : Hp) : List DictEntry → List (PD × OD) → List Addr → Prop
  | nil : OwnsE H G [] [] []
  | cons {e : DictEntry} {es : List DictEntry} {k : PD} {o : OD} {kvs : List (PD × OD)} {kv dv : V} {F F' : List Addr} : e.hash = hashD w k → RelV kv e.key → Rep w K G kv k → RelV dv e.val → Own H G dv o F → OwnsE H G es kvs F' →
      OwnsE H G (e :: es) ((k, o) :: kvs) (F ++ F')
end
end
mutual
theorem Own.rep (l : Le G H) : ∀ {o : OD} {v : V} {F : List Addr}, Own w K H G v o F → Rep w K H v o.val
  | .lf d, _, _, h => by cases h with | lf r => rw [OD.val]; exact r.mono l
  | .ls xs, _, _, h => by cases h with | ls e r => rw [OD.val]; exact .lst e (Owns.rep l r)
  | .dc kvs, _, _, h => by cases h with | dc e r k => rw [OD.val]; exact .dct e (OwnsE.rep l r) (by rw [ODvalsE_keys]; exact k)
theorem Owns.rep (l : Le G H) : ∀ {os : List OD} {vs : List V} {F : List Addr}, Owns w K H G vs os F → Reps w K H vs (ODvals os)
  | [], _, _, h => by cases h; exact .nil
  | _ :: _, _, _, h => by cases h with | cons a b => rw [ODvals]; exact .cons (Own.rep l a) (Owns.rep l b)
theorem OwnsE.rep (l : Le G H) : ∀ {os : List (PD × OD)} {es : List DictEntry} {F : List Addr}, OwnsE w K H G es os F → RepsE w K H es (ODvalsE os)
  | [], _, _, h => by cases h; exact .nil
  | (_, _) :: _, _, _, h => by cases h with | cons e1 e2 e3 e4 e5 e6 => rw [ODvalsE]; exact .cons e1 e2 (e3.mono l) e4 (Own.rep l e5) (OwnsE.rep l e6)
end
mutual
/-- it stands while its own addresses are kept, the shared part grows -/
theorem Own.at (g : Le G G') : ∀ {o : OD} {v : V} {F : List Addr}, Own w K H G v o F → (∀ a ∈ F, ∀ x, H a = some x → H' a = some x) → Own w K H' G' v o F
  | .lf d, _, _, h, k => by cases h with | lf r => exact .lf (r.mono g)
  | .ls xs, _, _, h, k => by cases h with | ls e r => exact .ls (k _ List.mem_cons_self _ e) (Owns.at g r fun a m => k a (List.mem_cons_of_mem _ m))
  | .dc kvs, _, _, h, k => by cases h with | dc e r q => exact .dc (k _ List.mem_cons_self _ e) (OwnsE.at g r fun a m => k a (List.mem_cons_of_mem _ m)) q
theorem Owns.at (g : Le G G') : ∀ {os : List OD} {vs : List V} {F : List Addr}, Owns w K H G vs os F → (∀ a ∈ F, ∀ x, H a = some x → H' a = some x) → Owns w K H' G' vs os F
  | [], _, _, h, k => by cases h; exact .nil
  | _ :: _, _, _, h, k => by cases h with | cons a b => exact .cons (Own.at g a fun x m => k x (List.mem_append_left _ m)) (Owns.at g b fun x m => k x (List.mem_append_right _ m))
theorem OwnsE.at (g : Le G G') : ∀ {os : List (PD × OD)} {es : List DictEntry} {F : List Addr}, OwnsE w K H G es os F → (∀ a ∈ F, ∀ x, H a = some x → H' a = some x) → OwnsE w K H' G' es os F
  | [], _, _, h, k => by cases h; exact .nil
  | (_, _) :: _, _, _, h, k => by cases h with | cons e1 e2 e3 e4 e5 e6 => exact .cons e1 e2 (e3.mono g) e4 (Own.at g e5 fun x m => k x (List.mem_append_left _ m)) (OwnsE.at g e6 fun x m => k x (List.mem_append_right _ m))
end
/-- what stands at an owned address -/
def OwnKind (o : Option HO) : Prop := (∃ vs, o = some (.lst vs)) ∨ (∃ a es ep, o = some (dRaw a es ep)) ∨ (∃ C dx fs, o = some (.ins C dx fs)) ∨ ∃ x, o = some (.own x)
mutual
theorem Own.kind : ∀ {o : OD} {v : V} {F : List Addr}, Own w K H G v o F → ∀ a ∈ F, OwnKind (H a)
  | .lf d, _, _, h, a, m => by cases h; cases m
  | .ls xs, _, _, h, a, m => by
    cases h with
    | ls e r =>
      rcases List.mem_cons.mp m with q | q
      · subst q; exact .inl ⟨_, e⟩
      · exact Owns.kind r a q
  | .dc kvs, _, _, h, a, m => by
    cases h with
    | dc e r _ =>
      rcases List.mem_cons.mp m with q | q
      · subst q; exact .inr (.inl ⟨_, _, _, e⟩)
      · exact OwnsE.kind r a q
theorem Owns.kind : ∀ {os : List OD} {vs : List V} {F : List Addr}, Owns w K H G vs os F → ∀ a ∈ F, OwnKind (H a)
  | [], _, _, h, a, m => by cases h; cases m
  | _ :: _, _, _, h, a, m => by
    cases h with
    | cons x y => exact (List.mem_append.mp m).elim (Own.kind x a) (Owns.kind y a)
theorem OwnsE.kind : ∀ {os : List (PD × OD)} {es : List DictEntry} {F : List Addr}, OwnsE w K H G es os F → ∀ a ∈ F, OwnKind (H a)
  | [], _, _, h, a, m => by cases h; cases m
  | (_, _) :: _, _, _, h, a, m => by
    cases h with
    | cons e1 e2 e3 e4 e5 e6 => exact (List.mem_append.mp m).elim (Own.kind e5 a) (OwnsE.kind e6 a)
end
theorem OwnKind.some {o : Option HO} (h : OwnKind o) : o ≠ none := by
  rcases h with ⟨_, e⟩ | ⟨_, _, _, e⟩ | ⟨_, _, _, e⟩ | ⟨_, e⟩ <;> rw [e] <;> simp
theorem OwnKind.noTup {o : Option HO} (h : OwnKind o) : (∀ xs, o ≠ Option.some (.tup xs)) ∧ (∀ u x, o ≠ Option.some (.frz u x)) ∧ ∀ fs, o ≠ Option.some (.xd fs) := by
  rcases h with ⟨_, e⟩ | ⟨_, _, _, e⟩ | ⟨_, _, _, e⟩ | ⟨_, e⟩ <;> subst e <;> exact ⟨fun xs h => (by cases h), fun u x h => (by cases h), fun fs h => (by cases h)⟩
theorem Owns.leaves : ∀ {ds : List PD} {vs : List V}, Reps w K G vs ds → Owns w K H G vs (ds.map .lf) []
  | [], _, h => by cases h; exact .nil
  | _ :: _, _, h => by cases h with | cons a b => exact .cons (F := []) (F' := []) (.lf a) (Owns.leaves b)
theorem Owns.append {F' : List Addr} : ∀ {xs ys : List OD} {vs us : List V} {F : List Addr}, Owns w K H G vs xs F → Owns w K H G us ys F' → Owns w K H G (vs ++ us) (xs ++ ys) (F ++ F')
  | [], _, _, _, _, h, g => by cases h; exact g
  | _ :: _, _, _, _, _, h, g => by cases h with | cons a b => rw [List.append_assoc]; exact .cons a (Owns.append b g)
mutual
def immO : OD → Bool
  | .lf d => imm d
  | .ls xs => immOs xs
  | .dc kvs => immOe kvs
def immOs : List OD → Bool
  | [] => true
  | o :: os => immO o && immOs os
def immOe : List (PD × OD) → Bool
  | [] => true
  | (k, o) :: r => imm k && immO o && immOe r
end
def absT (G H : Hp) : Hp := fun a => match G a with
  | some o => some o
  | none => match H a with
    | some (.tup xs) => some (.tup xs)
    | some (.frz o (.tup xs)) => some (.frz o (.tup xs))
    | some (.xd fs) => some (.xd fs)
    | _ => none
theorem absT_ge : Le G (absT G H) := fun a o e => by unfold absT; rw [e]
theorem absT_le (l : Le G H) : Le (absT G H) H := fun a o e => by
  unfold absT at e
  cases g : G a with
  | some x => rw [g] at e; cases e; exact l a _ g
  | none =>
    rw [g] at e
    dsimp only at e
    split at e
    · rename_i q; cases e; exact q
    · rename_i q; cases e; exact q
    · rename_i q; cases e; exact q
    · cases e
theorem absT_own (h : OwnKind (H a)) (n : G a = none) : absT G H a = none := by
  unfold absT
  rw [n]
  dsimp only
  split
  · rename_i q; exact absurd q (h.noTup.1 _)
  · rename_i q; exact absurd q (h.noTup.2.1 _ _)
  · rename_i q; exact absurd q (h.noTup.2.2 _)
  · rfl
theorem absT_rd {xs : List V} (h : Rd H a (.tup xs)) (l : Le G H) : Rd (absT G H) a (.tup xs) := by
  unfold Rd absT
  cases g : G a with
  | some x =>
    have := l a x g
    rcases h with e | ⟨o, e⟩
    · rw [e] at this; cases this; exact .inl rfl
    · rw [e] at this; cases this; exact .inr ⟨o, rfl⟩
  | none =>
    rcases h with e | ⟨o, e⟩
    · rw [e]; exact .inl rfl
    · rw [e]; exact .inr ⟨o, rfl⟩
theorem absT_sqT {xs : List V} (h : SqT K H a xs) (l : Le G H) : SqT K (absT G H) a xs := h.elim (fun e => .inl (absT_rd e l)) .inr
mutual
theorem Rep.abs (l : Le G H) : ∀ {d : PD} {v : V}, Rep w K H v d → imm d = true → Rep w K (absT G H) v d
  | .none, _, h, _ => by cases h; exact .non
  | .bool _, _, h, _ => by cases h; exact .bl _
  | .int _, _, h, _ => by cases h; exact .int _
  | .str _, _, h, _ => by cases h; exact .str _
  | .list ds, _, h, i => by simp [imm] at i
  | .tuple ds, _, h, i => by cases h with | tup s r => rw [imm] at i; exact .tup (absT_sqT s l) (Reps.abs l r i)
  | .dict kvs, _, h, i => by simp [imm] at i
theorem Reps.abs (l : Le G H) : ∀ {ds : List PD} {vs : List V}, Reps w K H vs ds → immAll ds = true → Reps w K (absT G H) vs ds
  | [], _, h, _ => by cases h; exact .nil
  | _ :: _, _, h, i => by
    cases h with
    | cons a b => rw [immAll, Bool.and_eq_true] at i; exact .cons (Rep.abs l a i.1) (Reps.abs l b i.2)
end
mutual
theorem Own.abs (g : Le G H) (l : Le G' H) : ∀ {o : OD} {v : V} {F : List Addr}, Own w K H G' v o F → immO o = true → Own w K H (absT G H) v o F
  | .lf d, _, _, h, i => by
    cases h with
    | lf r =>
      rw [immO] at i
      exact .lf ((r.mono l).abs g i)
  | .ls xs, _, _, h, i => by cases h with | ls e r => rw [immO] at i; exact .ls e (Owns.abs g l r i)
  | .dc kvs, _, _, h, i => by cases h with | dc e r k => rw [immO] at i; exact .dc e (OwnsE.abs g l r i) k
theorem Owns.abs (g : Le G H) (l : Le G' H) : ∀ {o : List OD} {v : List V} {F : List Addr}, Owns w K H G' v o F → immOs o = true → Owns w K H (absT G H) v o F
  | [], _, _, h, _ => by cases h; exact .nil
  | _ :: _, _, _, h, i => by
    cases h with
    | cons a b => rw [immOs, Bool.and_eq_true] at i; exact .cons (Own.abs g l a i.1) (Owns.abs g l b i.2)
theorem OwnsE.abs (g : Le G H) (l : Le G' H) : ∀ {o : List (PD × OD)} {v : List DictEntry} {F : List Addr}, OwnsE w K H G' v o F → immOe o = true → OwnsE w K H (absT G H) v o F
  | [], _, _, h, _ => by cases h; exact .nil
  | (_, _) :: _, _, _, h, i => by
    cases h with
    | cons e1 e2 e3 e4 e5 e6 =>
      rw [immOe, Bool.and_eq_true, Bool.and_eq_true] at i
      exact .cons e1 e2 ((e3.mono l).abs g i.1.1) e4 (Own.abs g l e5 i.1.2) (OwnsE.abs g l e6 i.2)
end
end Rz
namespace Rz
open PySem PySem.Spec PyProof.Rows L2
def intL (ns : List Int) : List OD := ns.map fun i => .lf (.int i)
abbrev wellO (cs : List Int) (a b : Int) : OD := .ls [.ls (intL cs), .lf (.int a), .lf (.int b)]
def WellP (o : OD) : Prop := ∃ cs a b, o = wellO cs a b
theorem immOs_intL : ∀ ns : List Int, immOs (intL ns) = true
  | [] => rfl
  | n :: ns => by
    show (imm (.int n) && immOs (intL ns)) = true
    rw [immOs_intL ns]; rfl
theorem well_imm (o : OD) (h : WellP o) : immO o = true := by
  obtain ⟨cs, a, b, rfl⟩ := h
  show (immOs (intL cs) && (true && (true && true))) = true
  rw [immOs_intL]; rfl
/-- an error: its class, its fields -/
structure Er where
  cls : Value
  flds : List (Str × PD)
/-- a slot: not told, shared data, a tree of one's own, a well, the script, an error in hand, an instance of one's own -/
inductive SV where
  | un
  | sh (d : PD)
  | ow (o : OD)
  | wl
  | sc (ns : List Int)
  | ex (er : Er)
  | io (C : Addr) (fs : List (Str × OD))
def isOw : SV → Bool
  | .ow _ => true
  | .io _ _ => true
  | _ => false
abbrev FP := Nat → List Addr
abbrev Sg := L2.St
/-- a state from which errors are told -/
structure Bs where
  ρ : List SV
  σ : Sg
  H : Hp
  G : Hp
  F : FP
structure Par where
  w : World
  K : PySem.W.Frag
  wp : OD → Prop
  wi : ∀ o, wp o → immO o = true
  pin : Nat → Bool
  bs : Option Bs
  ee : List SV → Er → Prop
  xa : Option (Addr × Option Addr × Value)
abbrev PaW (w : World) (K : PySem.W.Frag) : Par := ⟨w, K, WellP, well_imm, fun _ => false, none, fun _ _ => False, none⟩
/-- where nothing is raised -/
abbrev Par.nb (P : Par) : Par := ⟨P.w, P.K, P.wp, P.wi, fun _ => false, none, fun _ _ => False, none⟩
/-- within a try -/
abbrev Par.tr (P : Par) (b : Bs) (ee : List SV → Er → Prop) : Par := ⟨P.w, P.K, P.wp, P.wi, P.pin, some b, ee, P.xa⟩
def ErOk (P : Par) (G : Hp) (d : Option Addr) (er : Er) : Prop := match d with
  | none => er.flds = []
  | some a => ∃ fs : List (Str × V), G a = some (.xd fs) ∧ fs.map (·.1) = er.flds.map (·.1) ∧ Reps P.w P.K G (fs.map (·.2)) (er.flds.map (·.2))
def SlotOk (P : Par) (H G : Hp) : SV → Option (Option V) → List Addr → Prop
  | .un, _, F => F = []
  | .sh d, x, F => (∃ v, x = some (some v) ∧ Rep P.w P.K G v d) ∧ F = []
  | .ow o, x, F => ∃ v, x = some (some v) ∧ Own P.w P.K H G v o F
  | .wl, x, F => ∃ v o, x = some (some v) ∧ Own P.w P.K H G v o F ∧ P.wp o
  | .sc ns, x, F => (∃ a, x = some (some (.ref a)) ∧ SqL P.K G a (ns.map V.int)) ∧ F = []
  | .ex er, x, F => (∃ a d, P.xa = some (a, d, er.cls) ∧ x = some (some (.ref a)) ∧ ErOk P G d er) ∧ F = []
  | .io C fs, x, F => ∃ a dx vs L, x = some (some (.ref a)) ∧ H a = some (.ins C dx ((fs.map (·.1)).zip vs)) ∧ H dx = some (.own a) ∧ Owns P.w P.K H G vs (fs.map (·.2)) L ∧ InsC P.K C (fs.map (·.1)) ∧ F = a :: dx :: L
def inW (ρ : List SV) (F : FP) (a : Addr) : Prop := ∃ i, ρ[i]? = some .wl ∧ a ∈ F i
def inF (F : FP) (a : Addr) : Prop := ∃ i, a ∈ F i
variable {P : Par} {ρ ρ' ρ1 ρ2 : List SV} {σ σ' σ1 σ2 : Sg} {H H' H0 H1 H2 G G' G0 G1 G2 : Hp} {F F' F0 F1 F2 : FP} {a p : Addr}
structure StE (ρ : List SV) (H G : Hp) (F : FP) (H' G' : Hp) (F' : FP) : Prop where
  gle : Le G G'
  ex : ∀ a, H a ≠ none → H' a ≠ none
  keep : ∀ a o, H a = some o → ¬ inW ρ F a → H' a = some o
  gnew : ∀ a, OwnKind (H a) → ¬ inW ρ F a → G a = none → G' a = none
  fnew : ∀ i a, a ∈ F' i → a ∈ F i ∨ (ρ[i]? = some .wl ∧ H a = none)
  fsame : ∀ (i : Nat) s, ρ[i]? = some s → isOw s = true → F' i = F i
theorem StE.refl : StE ρ H G F H G F := ⟨Le.refl _, fun _ e => e, fun _ _ e _ => e, fun _ _ _ e => e, fun _ _ m => .inl m, fun _ _ _ _ => rfl⟩
theorem StE.nw (s : StE ρ H G F H' G' F') (h : H a ≠ none) (n : ¬ inW ρ F a) : ¬ inW ρ F' a := fun ⟨i, e, m⟩ =>
  (s.fnew i a m).elim (fun q => n ⟨i, e, q⟩) fun q => h q.2
theorem StE.same (s : StE ρ H G F H' G' F') (h : H a ≠ none) (n : ¬ inW ρ F a) : H' a = H a := by
  cases q : H a with
  | none => exact absurd q h
  | some o => exact s.keep a o q n
theorem StE.trans (s : StE ρ H G F H1 G1 F1) (t : StE ρ H1 G1 F1 H2 G2 F2) : StE ρ H G F H2 G2 F2 where
  gle := s.gle.trans t.gle
  ex := fun a h => t.ex a (s.ex a h)
  keep := fun a o e n => t.keep a o (s.keep a o e n) (s.nw (by rw [e]; simp) n)
  gnew := fun a k n e => t.gnew a (by rw [s.same k.some n]; exact k) (s.nw k.some n) (s.gnew a k n e)
  fnew := fun i a m => by
    rcases t.fnew i a m with q | ⟨q1, q2⟩
    · exact s.fnew i a q
    · refine .inr ⟨q1, ?_⟩
      cases q : H a with
      | none => rfl
      | some o => exact absurd q2 (s.ex a (by rw [q]; simp))
  fsame := fun i o e z => (t.fsame i o e z).trans (s.fsame i o e z)
structure StS (ρ : List SV) (σ : Sg) (H G : Hp) (F : FP) (ρ' : List SV) (σ' : Sg) (H' G' : Hp) (F' : FP) : Prop where
  gle : Le G G'
  ex : ∀ a, H a ≠ none → H' a ≠ none
  keep : ∀ a o, H a = some o → ¬ inF F a → H' a = some o
  gnew : ∀ a, OwnKind (H a) → ¬ inF F a → G a = none → G' a = none
  fnew : ∀ i a, a ∈ F' i → a ∈ F i ∨ (∃ j, a ∈ F j ∧ ρ[j]? ≠ some .wl) ∨ H a = none
  wls : ∀ i : Nat, ρ[i]? = some .wl → ρ'[i]? = some .wl ∧ σ'[i]? = σ[i]?
theorem inW.inF (h : inW ρ F a) : inF F a := let ⟨i, _, m⟩ := h; ⟨i, m⟩
theorem StS.refl : StS ρ σ H G F ρ σ H G F := ⟨Le.refl _, fun _ e => e, fun _ _ e _ => e, fun _ _ _ e => e, fun _ _ m => .inl m, fun _ e => ⟨e, rfl⟩⟩
theorem StE.st (s : StE ρ H G F H' G' F') : StS ρ σ H G F ρ σ H' G' F' where
  gle := s.gle
  ex := s.ex
  keep := fun a o e n => s.keep a o e fun q => n q.inF
  gnew := fun a k n e => s.gnew a k (fun q => n q.inF) e
  fnew := fun i a m => (s.fnew i a m).elim .inl fun q => .inr (.inr q.2)
  wls := fun _ e => ⟨e, rfl⟩
theorem StS.nf (s : StS ρ σ H G F ρ' σ' H' G' F') (h : H a ≠ none) (n : ¬ inF F a) : ¬ inF F' a := fun ⟨i, m⟩ =>
  (s.fnew i a m).elim (fun q => n ⟨i, q⟩) fun q => q.elim (fun ⟨j, q, _⟩ => n ⟨j, q⟩) fun q => h q
theorem StS.same (s : StS ρ σ H G F ρ' σ' H' G' F') (h : H a ≠ none) (n : ¬ inF F a) : H' a = H a := by
  cases q : H a with
  | none => exact absurd q h
  | some o => exact s.keep a o q n
theorem StS.trans (s : StS ρ σ H G F ρ1 σ1 H1 G1 F1) (t : StS ρ1 σ1 H1 G1 F1 ρ2 σ2 H2 G2 F2) : StS ρ σ H G F ρ2 σ2 H2 G2 F2 where
  gle := s.gle.trans t.gle
  ex := fun a h => t.ex a (s.ex a h)
  keep := fun a o e n => t.keep a o (s.keep a o e n) (s.nf (by rw [e]; simp) n)
  gnew := fun a k n e => t.gnew a (by rw [s.same k.some n]; exact k) (s.nf k.some n) (s.gnew a k n e)
  fnew := fun i a m => by
    rcases t.fnew i a m with q | ⟨j, q, nj⟩ | q
    · exact s.fnew i a q
    · rcases s.fnew j a q with q' | q' | q'
      · exact .inr (.inl ⟨j, q', fun e => nj (s.wls j e).1⟩)
      · exact .inr (.inl q')
      · exact .inr (.inr q')
    · cases z : H a with
      | none => exact .inr (.inr rfl)
      | some o => exact absurd q (s.ex a (by rw [z]; simp))
  wls := fun i e => by
    obtain ⟨e1, e2⟩ := s.wls i e
    obtain ⟨e3, e4⟩ := t.wls i e1
    exact ⟨e3, e4.trans e2⟩
def Par.At (P : Par) (ρ : List SV) (σ : Sg) (H G : Hp) (F : FP) : Prop := match P.bs with
  | none => True
  | some b => StS b.ρ b.σ b.H b.G b.F ρ σ H G F
theorem Par.At.start (h : P.bs = some ⟨ρ, σ, H, G, F⟩) : P.At ρ σ H G F := by unfold Par.At; rw [h]; exact StS.refl
theorem Par.At.none (h : P.bs = Option.none) : P.At ρ σ H G F := by unfold Par.At; rw [h]; trivial
theorem Par.At.step (h : P.At ρ σ H G F) (s : StS ρ σ H G F ρ' σ' H' G' F') : P.At ρ' σ' H' G' F' := by
  unfold Par.At at h ⊢
  split
  · trivial
  · rename_i b e
    rw [e] at h
    exact h.trans s
structure StOk (P : Par) (ρ : List SV) (σ : Sg) (H G : Hp) (F : FP) : Prop where
  le : Le G H
  slot : ∀ i sv, ρ[i]? = some sv → SlotOk P H G sv σ[i]? (F i)
  out : ∀ i, ρ[i]? = none → F i = []
  nd : ∀ i, (F i).Nodup
  dj : ∀ i j a, a ∈ F i → a ∈ F j → i = j
  off : ∀ i a, a ∈ F i → G a = none
  len : ρ.length ≤ σ.length
  er : P.At ρ σ H G F
theorem ErOk.mono {d : Option Addr} {er : Er} (h : ErOk P G d er) (g : Le G G') : ErOk P G' d er := by
  unfold ErOk at h ⊢
  split
  · exact h
  · obtain ⟨fs, e, k, r⟩ := h
    exact ⟨fs, g _ _ e, k, r.mono g⟩
theorem SlotOk.kind {sv : SV} {x : Option (Option V)} {L : List Addr} (h : SlotOk P H G sv x L) : ∀ a ∈ L, OwnKind (H a) := by
  cases sv with
  | un => intro a m; rw [show L = [] from h] at m; cases m
  | sh d => intro a m; rw [h.2] at m; cases m
  | ow o => obtain ⟨v, _, q⟩ := h; exact q.kind
  | wl => obtain ⟨v, o, _, q, _⟩ := h; exact q.kind
  | sc ns => intro a m; rw [h.2] at m; cases m
  | ex er => intro a m; rw [h.2] at m; cases m
  | io C fs =>
    obtain ⟨a, dx, vs, Fs, _, h1, h2, h3, _, rfl⟩ := h
    intro b m
    rcases List.mem_cons.mp m with e | m
    · rw [e]; exact .inr (.inr (.inl ⟨_, _, _, h1⟩))
    · rcases List.mem_cons.mp m with e | m
      · rw [e]; exact .inr (.inr (.inr ⟨_, h2⟩))
      · exact h3.kind b m
theorem StOk.kind (S : StOk P ρ σ H G F) {i : Nat} (m : a ∈ F i) : OwnKind (H a) := by
  cases e : ρ[i]? with
  | none => rw [S.out i e] at m; cases m
  | some sv => exact (S.slot i sv e).kind a m
theorem StOk.there (S : StOk P ρ σ H G F) {i : Nat} (m : a ∈ F i) : H a ≠ none := (S.kind m).some
theorem StOk.ne (S : StOk P ρ σ H G F) {i : Nat} (m : a ∈ F i) (n : H p = none) : a ≠ p := by
  intro z; subst z; exact S.there m n
theorem OwnKind.ne (k : OwnKind (H a)) (n : H p = none) : a ≠ p := by
  intro z; subst z; exact k.some n
theorem SlotOk.at {sv : SV} {x : Option (Option V)} {L : List Addr} (h : SlotOk P H G sv x L) (g : Le G G') (k : ∀ a ∈ L, ∀ o, H a = some o → H' a = some o) : SlotOk P H' G' sv x L := by
  cases sv with
  | un => exact h
  | sh d => obtain ⟨⟨v, e, r⟩, f⟩ := h; exact ⟨⟨v, e, r.mono g⟩, f⟩
  | ow o => obtain ⟨v, e, q⟩ := h; exact ⟨v, e, q.at g k⟩
  | wl => obtain ⟨v, o, e, q, z⟩ := h; exact ⟨v, o, e, q.at g k, z⟩
  | sc ns => obtain ⟨⟨v, e, r⟩, f⟩ := h; exact ⟨⟨v, e, g.sqL r⟩, f⟩
  | ex er => obtain ⟨⟨a, d, e1, e2, r⟩, f⟩ := h; exact ⟨⟨a, d, e1, e2, r.mono g⟩, f⟩
  | io C fs =>
    obtain ⟨a, dx, vs, Fs, e, h1, h2, h3, ic, rfl⟩ := h
    exact ⟨a, dx, vs, Fs, e, k _ List.mem_cons_self _ h1, k _ (List.mem_cons_of_mem _ List.mem_cons_self) _ h2, h3.at g fun b m => k b (List.mem_cons_of_mem _ (List.mem_cons_of_mem _ m)), ic, rfl⟩
inductive Rv where
  | cl (d : PD)
  | dr (d : PD)
  | fr (o : OD)
  | wl
  | ws (i : Nat)
  | sc (ns : List Int)
def Rv.val : Rv → PD
  | .cl d => d
  | .dr d => d
  | .fr o => o.val
  | .wl => .none
  | .ws _ => .none
  | .sc _ => .none
def Rv.data : Rv → Bool
  | .cl _ => true
  | .dr _ => true
  | .fr _ => true
  | _ => false
structure FrOk (P : Par) (H G : Hp) (F : FP) (v : V) (o : OD) (L : List Addr) : Prop where
  own : Own P.w P.K H G v o L
  nd : L.Nodup
  off : ∀ a ∈ L, G a = none ∧ ¬ inF F a
def RvOk (P : Par) (ρ : List SV) (σ : Sg) (H G : Hp) (F : FP) (v : V) : Rv → List Addr → Prop
  | .cl d, L => Rep P.w P.K G v d ∧ L = []
  | .dr d, L => (∃ Hd, Le Hd H ∧ (∀ a, Hd a ≠ none → ¬ inW ρ F a) ∧ Rep P.w P.K Hd v d) ∧ L = []
  | .fr o, L => FrOk P H G F v o L
  | .wl, L => ∃ o, FrOk P H G F v o L ∧ P.wp o
  | .ws i, L => (ρ[i]? = some .wl ∧ σ[i]? = some (some v)) ∧ L = []
  | .sc ns, L => (∃ a, v = .ref a ∧ SqL P.K G a (ns.map V.int)) ∧ L = []
theorem RvOk.rep {v : V} {r : Rv} {L : List Addr} (h : RvOk P ρ σ H G F v r L) (d : r.data = true) (l : Le G H) : Rep P.w P.K H v r.val := by
  cases r with
  | cl d => exact h.1.mono l
  | dr d => obtain ⟨⟨Hd, l', _, r⟩, _⟩ := h; exact r.mono l'
  | fr o => exact h.own.rep l
  | wl => cases d
  | ws i => cases d
  | sc ns => cases d
theorem FrOk.step {v : V} {o : OD} {L : List Addr} (h : FrOk P H G F v o L) (s : StE ρ H G F H' G' F') : FrOk P H' G' F' v o L where
  own := h.own.at s.gle fun a m x e => s.keep a x e fun q => (h.off a m).2 q.inF
  nd := h.nd
  off := fun a m => by
    have k := h.own.kind a m
    obtain ⟨n1, n2⟩ := h.off a m
    refine ⟨s.gnew a k (fun q => n2 q.inF) n1, fun ⟨i, q⟩ => ?_⟩
    rcases s.fnew i a q with z | z
    · exact n2 ⟨i, z⟩
    · exact k.some z.2
theorem RvOk.step {v : V} {r : Rv} {L : List Addr} (h : RvOk P ρ σ H G F v r L) (s : StE ρ H G F H' G' F') : RvOk P ρ σ H' G' F' v r L := by
  cases r with
  | cl d => exact ⟨h.1.mono s.gle, h.2⟩
  | dr d =>
    obtain ⟨⟨Hd, l, n, r⟩, e⟩ := h
    refine ⟨⟨Hd, fun a o q => s.keep a o (l a o q) (n a (by rw [q]; simp)), fun a q => ?_, r⟩, e⟩
    have ha : H a ≠ none := by
      cases z : Hd a with
      | none => exact absurd z q
      | some o => rw [l a o z]; simp
    exact s.nw ha (n a q)
  | fr o => exact FrOk.step h s
  | wl => obtain ⟨o, h, z⟩ := h; exact ⟨o, h.step s, z⟩
  | ws i => exact h
  | sc ns => obtain ⟨⟨a, e, r⟩, f⟩ := h; exact ⟨⟨a, e, s.gle.sqL r⟩, f⟩
/-- a new object -/
theorem StE.push {o : HO} (n : H p = none) : StE ρ H G F (upd H p o) G F where
  gle := Le.refl _
  ex := fun a h => by
    by_cases e : a = p
    · subst e; exact absurd n h
    · rw [upd_ne e]; exact h
  keep := fun a x e _ => Le.upd n a x e
  gnew := fun _ _ _ e => e
  fnew := fun _ _ m => .inl m
  fsame := fun _ _ _ _ => rfl
theorem StOk.push (S : StOk P ρ σ H G F) {o : HO} (n : H p = none) : StOk P ρ σ (upd H p o) G F where
  le := S.le.trans (Le.upd n)
  slot := fun i sv e => (S.slot i sv e).at (Le.refl _) fun a m x q => by
    rw [upd_ne (S.ne m n)]; exact q
  out := S.out
  nd := S.nd
  dj := S.dj
  off := S.off
  len := S.len
  er := S.er.step (StE.push n).st
/-- .. that is shared -/
theorem StE.pushG {o : HO} (n : H p = none) (l : Le G H) : StE ρ H G F (upd H p o) (upd G p o) F where
  gle := Le.upd (l.none n)
  ex := fun a h => by
    by_cases e : a = p
    · subst e; exact absurd n h
    · rw [upd_ne e]; exact h
  keep := fun a x e _ => Le.upd n a x e
  gnew := fun a k _ e => by rw [upd_ne (k.ne n)]; exact e
  fnew := fun _ _ m => .inl m
  fsame := fun _ _ _ _ => rfl
theorem StOk.pushG (S : StOk P ρ σ H G F) {o : HO} (n : H p = none) : StOk P ρ σ (upd H p o) (upd G p o) F where
  le := S.le.upd2
  slot := fun i sv e => (S.slot i sv e).at (Le.upd (S.le.none n)) fun a m x q => by
    rw [upd_ne (S.ne m n)]; exact q
  out := S.out
  nd := S.nd
  dj := S.dj
  off := fun i a m => by
    rw [upd_ne (S.ne m n)]; exact S.off i a m
  len := S.len
  er := S.er.step (StE.pushG n S.le).st
/-- the tuples join the shared part -/
theorem StE.abs : StE ρ H G F H (absT G H) F := ⟨absT_ge, fun _ h => h, fun _ _ e _ => e, fun a k _ e => absT_own k e, fun _ _ m => .inl m, fun _ _ _ _ => rfl⟩
theorem StOk.abs (S : StOk P ρ σ H G F) : StOk P ρ σ H (absT G H) F where
  le := absT_le S.le
  slot := fun i sv e => (S.slot i sv e).at absT_ge fun _ _ _ q => q
  out := S.out
  nd := S.nd
  dj := S.dj
  off := fun i a m => absT_own (S.kind m) (S.off i a m)
  len := S.len
  er := S.er.step StE.abs.st
/-- the addresses at L join it -/
def addG (G H : Hp) (L : List Addr) : Hp := fun a => if a ∈ L then H a else G a
theorem addG_ge {L : List Addr} (h : ∀ a ∈ L, G a = none) : Le G (addG G H L) := fun a o e => by
  unfold addG
  by_cases m : a ∈ L
  · rw [h a m] at e; cases e
  · rw [if_neg m]; exact e
theorem addG_le {L : List Addr} (l : Le G H) : Le (addG G H L) H := fun a o e => by
  unfold addG at e
  by_cases m : a ∈ L
  · rw [if_pos m] at e; exact e
  · rw [if_neg m] at e; exact l a o e
theorem addG_ne {L : List Addr} (h : a ∉ L) : addG G H L a = G a := by unfold addG; rw [if_neg h]
theorem addG_eq {L : List Addr} (h : a ∈ L) : addG G H L a = H a := by unfold addG; rw [if_pos h]
mutual
theorem Own.addG {M : List Addr} : ∀ {o : OD} {v : V} {L : List Addr}, Own P.w P.K H G v o L → (∀ a ∈ L, a ∈ M) → Le G (Rz.addG G H M) → Rep P.w P.K (Rz.addG G H M) v o.val
  | .lf d, _, _, h, k, g => by cases h with | lf r => rw [OD.val]; exact r.mono g
  | .ls xs, _, _, h, k, g => by
    cases h with
    | ls e r => rw [OD.val]; exact .lst (by rw [addG_eq (k _ List.mem_cons_self)]; exact e) (Owns.addG r (fun a m => k a (List.mem_cons_of_mem _ m)) g)
  | .dc kvs, _, _, h, k, g => by
    cases h with
    | dc e r q => rw [OD.val]; exact .dct (by rw [addG_eq (k _ List.mem_cons_self)]; exact e) (OwnsE.addG r (fun a m => k a (List.mem_cons_of_mem _ m)) g) (by rw [ODvalsE_keys]; exact q)
theorem Owns.addG {M : List Addr} : ∀ {os : List OD} {vs : List V} {L : List Addr}, Owns P.w P.K H G vs os L → (∀ a ∈ L, a ∈ M) → Le G (Rz.addG G H M) → Reps P.w P.K (Rz.addG G H M) vs (ODvals os)
  | [], _, _, h, _, _ => by cases h; exact .nil
  | _ :: _, _, _, h, k, g => by
    cases h with
    | cons a b => rw [ODvals]; exact .cons (Own.addG a (fun x m => k x (List.mem_append_left _ m)) g) (Owns.addG b (fun x m => k x (List.mem_append_right _ m)) g)
theorem OwnsE.addG {M : List Addr} : ∀ {os : List (PD × OD)} {es : List DictEntry} {L : List Addr}, OwnsE P.w P.K H G es os L → (∀ a ∈ L, a ∈ M) → Le G (Rz.addG G H M) → RepsE P.w P.K (Rz.addG G H M) es (ODvalsE os)
  | [], _, _, h, _, _ => by cases h; exact .nil
  | (_, _) :: _, _, _, h, k, g => by
    cases h with
    | cons e1 e2 e3 e4 e5 e6 => rw [ODvalsE]; exact .cons e1 e2 (e3.mono g) e4 (Own.addG e5 (fun x m => k x (List.mem_append_left _ m)) g) (OwnsE.addG e6 (fun x m => k x (List.mem_append_right _ m)) g)
end
theorem StOk.addG {L : List Addr} (S : StOk P ρ σ H G F) (h : ∀ a ∈ L, G a = none ∧ ¬ inF F a) (er : P.At ρ σ H (addG G H L) F) : StOk P ρ σ H (addG G H L) F where
  le := addG_le S.le
  slot := fun i sv e => (S.slot i sv e).at (addG_ge fun a m => (h a m).1) fun _ _ _ q => q
  out := S.out
  nd := S.nd
  dj := S.dj
  off := fun i a m => by rw [addG_ne (fun z => (h a z).2 ⟨i, m⟩)]; exact S.off i a m
  len := S.len
  er := er
theorem StE.addG {L : List Addr} (s : StE ρ H G F H' G' F') (h : ∀ a ∈ L, G' a = none ∧ ¬ inF F' a) (n : ∀ a ∈ L, H a = none) : StE ρ H G F H' (addG G' H' L) F' where
  gle := s.gle.trans (addG_ge fun a m => (h a m).1)
  ex := s.ex
  keep := s.keep
  gnew := fun a k nw e => by rw [addG_ne (fun z => k.some (n a z))]; exact s.gnew a k nw e
  fnew := s.fnew
  fsame := s.fsame
/-- a reading over slots and data -/
abbrev TD := List SV → (Rv → Prop) → Prop
/-- where an evaluation stands that began at H0 -/
structure Sit (P : Par) (ρ : List SV) (σ : Sg) (H0 G0 : Hp) (F0 : FP) (H G : Hp) (F : FP) : Prop where
  st : StOk P ρ σ H G F
  ev : StE ρ H0 G0 F0 H G F
  at0 : P.At ρ σ H0 G0 F0
abbrev New (H : Hp) (L : List Addr) : Prop := ∀ a ∈ L, H a = none
def Kont (P : Par) (ρ : List SV) (σ : Sg) (H0 G0 : Hp) (F0 : FP) (Q : Rv → Prop) (Q' : VK) : Prop :=
  ∀ v r H G F L, Sit P ρ σ H0 G0 F0 H G F → RvOk P ρ σ H G F v r L → New H0 L → Q r → Q' v H
def TEof (P : Par) (t : TD) : TE := fun σ H Q' => ∃ ρ G F Q, StOk P ρ σ H G F ∧ t ρ Q ∧ Kont P ρ σ H G F Q Q'
/-- .. of a test -/
abbrev TDt := List SV → (Bool → Prop) → Prop
def TTof (P : Par) (t : TDt) : TT := fun σ H Q' => ∃ ρ G F Q, StOk P ρ σ H G F ∧ t ρ Q ∧ ∀ b H' G' F', Sit P ρ σ H G F H' G' F' → Q b → Q' b H'
/-- .. of arguments -/
inductive RvsOk (P : Par) (ρ : List SV) (σ : Sg) (H G : Hp) (F : FP) : List V → List Rv → List Addr → Prop
  | nil : RvsOk P ρ σ H G F [] [] []
  | cons {v : V} {vs : List V} {r : Rv} {rs : List Rv} {L L' : List Addr} : RvOk P ρ σ H G F v r L → RvsOk P ρ σ H G F vs rs L' → (∀ a ∈ L, a ∉ L') → RvsOk P ρ σ H G F (v :: vs) (r :: rs) (L ++ L')
abbrev TDa := List SV → (List Rv → Prop) → Prop
def TAof (P : Par) (t : TDa) : TA := fun σ H Q' => ∃ ρ G F Q, StOk P ρ σ H G F ∧ t ρ Q ∧
  ∀ vs rs H' G' F' L, Sit P ρ σ H G F H' G' F' → RvsOk P ρ σ H' G' F' vs rs L → New H L → Q rs → Q' vs H'
theorem Sit.refl (S : StOk P ρ σ H G F) : Sit P ρ σ H G F H G F := ⟨S, .refl, S.er⟩
theorem Sit.trans (s : Sit P ρ σ H0 G0 F0 H1 G1 F1) (t : Sit P ρ σ H1 G1 F1 H2 G2 F2) : Sit P ρ σ H0 G0 F0 H2 G2 F2 := ⟨t.st, s.ev.trans t.ev, s.at0⟩
theorem StE.new {L : List Addr} (s : StE ρ H0 G0 F0 H1 G1 F1) (n : New H1 L) : New H0 L := fun a m => by
  cases z : H0 a with
  | none => rfl
  | some o => exact absurd (n a m) (s.ex a (by rw [z]; simp))
theorem New.app {L L' : List Addr} (a : New H L) (b : New H L') : New H (L ++ L') := fun x m => (List.mem_append.mp m).elim (a x) (b x)
theorem RvsOk.step {vs : List V} {rs : List Rv} {L : List Addr} (h : RvsOk P ρ σ H G F vs rs L) (s : StE ρ H G F H' G' F') : RvsOk P ρ σ H' G' F' vs rs L := by
  induction h with
  | nil => exact .nil
  | cons a _ d ih => exact .cons (a.step s) ih d
theorem RvOk.there {v : V} {r : Rv} {L : List Addr} (h : RvOk P ρ σ H G F v r L) : ∀ a ∈ L, OwnKind (H a) := by
  cases r with
  | cl d => intro a m; rw [h.2] at m; cases m
  | dr d => intro a m; rw [h.2] at m; cases m
  | fr o => exact h.own.kind
  | wl => obtain ⟨o, h, _⟩ := h; exact h.own.kind
  | ws i => intro a m; rw [h.2] at m; cases m
  | sc ns => intro a m; rw [h.2] at m; cases m
theorem RvsOk.there {vs : List V} {rs : List Rv} {L : List Addr} (h : RvsOk P ρ σ H G F vs rs L) : ∀ a ∈ L, OwnKind (H a) := by
  induction h with
  | nil => intro a m; cases m
  | cons x _ _ ih => intro a m; exact (List.mem_append.mp m).elim (x.there a) (ih a)
theorem StE.apart {L1 L2 : List Addr} {v : V} {r : Rv} (h : RvOk P ρ σ H G F v r L1) (n : New H L2) : ∀ a ∈ L1, a ∉ L2 := fun a m1 m2 => (h.there a m1).some (n a m2)
/-- the values of a pair of expressions -/
def BinR (P : Par) (R : Rv → Rv → (Rv → Prop) → Prop) (r : R2) : Prop :=
  ∀ (ρ : List SV) (σ : Sg) (H0 G0 : Hp) (F0 : FP) (H G : Hp) (F : FP) (x y : V) (r1 r2 : Rv) (L1 L2 : List Addr) (Q : Rv → Prop) (Q' : VK), Sit P ρ σ H0 G0 F0 H G F → RvOk P ρ σ H G F x r1 L1 → RvOk P ρ σ H G F y r2 L2 → New H0 L1 → New H0 L2 → (∀ a ∈ L1, a ∉ L2) →
    R r1 r2 Q → Kont P ρ σ H0 G0 F0 Q Q' → r x y H Q'
theorem te_bin {t1 t2 : TD} {R : Rv → Rv → (Rv → Prop) → Prop} {r : R2} (hr : BinR P R r) {σ : Sg} {H : Hp} {Q' : VK}
    (h : TEof P (fun ρ Q => t1 ρ fun a => t2 ρ fun b => R a b Q) σ H Q') : tOp r (TEof P t1) (TEof P t2) σ H Q' := by
  obtain ⟨ρ, G, F, Q, S, ht, k⟩ := h
  refine ⟨ρ, G, F, _, S, ht, fun x r1 H1 G1 F1 L1 s1 o1 n1 q1 => ⟨ρ, G1, F1, _, s1.st, q1, fun y r2 H2 G2 F2 L2 s2 o2 n2 q2 => ?_⟩⟩
  exact hr ρ σ H G F H2 G2 F2 x y r1 r2 L1 L2 Q Q' (s1.trans s2) (o1.step s2.ev) o2 n1 (s1.ev.new n2) (StE.apart o1 n2) q2 k
def UnR' (P : Par) (R : Rv → (Rv → Prop) → Prop) (r : V → Hp → VK → Prop) : Prop :=
  ∀ (ρ : List SV) (σ : Sg) (H0 G0 : Hp) (F0 : FP) (H G : Hp) (F : FP) (x : V) (r1 : Rv) (L1 : List Addr) (Q : Rv → Prop) (Q' : VK), Sit P ρ σ H0 G0 F0 H G F → RvOk P ρ σ H G F x r1 L1 → New H0 L1 → R r1 Q → Kont P ρ σ H0 G0 F0 Q Q' → r x H Q'
theorem te_un {t : TD} {R : Rv → (Rv → Prop) → Prop} {r : V → Hp → VK → Prop} (hr : UnR' P R r) {σ : Sg} {H : Hp} {Q' : VK}
    (h : TEof P (fun ρ Q => t ρ fun a => R a Q) σ H Q') : tUn r (TEof P t) σ H Q' := by
  obtain ⟨ρ, G, F, Q, S, ht, k⟩ := h
  exact ⟨ρ, G, F, _, S, ht, fun x r1 H1 G1 F1 L1 s1 o1 n1 q1 => hr ρ σ H G F H1 G1 F1 x r1 L1 Q Q' s1 o1 n1 q1 k⟩
/-- .. of arguments -/
def ArgR (P : Par) (R : List Rv → (Rv → Prop) → Prop) (r : List V → Hp → VK → Prop) : Prop :=
  ∀ (ρ : List SV) (σ : Sg) (H0 G0 : Hp) (F0 : FP) (H G : Hp) (F : FP) (xs : List V) (rs : List Rv) (L1 : List Addr) (Q : Rv → Prop) (Q' : VK), Sit P ρ σ H0 G0 F0 H G F → RvsOk P ρ σ H G F xs rs L1 → New H0 L1 → R rs Q → Kont P ρ σ H0 G0 F0 Q Q' → r xs H Q'
theorem te_args {t : TDa} {R : List Rv → (Rv → Prop) → Prop} {r : List V → Hp → VK → Prop} (hr : ArgR P R r) {σ : Sg} {H : Hp} {Q' : VK}
    (h : TEof P (fun ρ Q => t ρ fun a => R a Q) σ H Q') : TAof P t σ H (fun vs H1 => r vs H1 Q') := by
  obtain ⟨ρ, G, F, Q, S, ht, k⟩ := h
  exact ⟨ρ, G, F, _, S, ht, fun xs rs H1 G1 F1 L1 s1 o1 n1 q1 => hr ρ σ H G F H1 G1 F1 xs rs L1 Q Q' s1 o1 n1 q1 k⟩
theorem ta_nil {σ : Sg} {H : Hp} {Q' : List V → Hp → Prop} (h : TAof P (fun _ Q => Q []) σ H Q') : tNil σ H Q' := by
  obtain ⟨ρ, G, F, Q, S, ht, k⟩ := h
  exact k [] [] H G F [] (.refl S) .nil (fun _ m => (nomatch m)) ht
theorem ta_cons {t : TD} {u : TDa} {σ : Sg} {H : Hp} {Q' : List V → Hp → Prop} (h : TAof P (fun ρ Q => t ρ fun r => u ρ fun rs => Q (r :: rs)) σ H Q') : tCons (TEof P t) (TAof P u) σ H Q' := by
  obtain ⟨ρ, G, F, Q, S, ht, k⟩ := h
  refine ⟨ρ, G, F, _, S, ht, fun x r1 H1 G1 F1 L1 s1 o1 n1 q1 => ⟨ρ, G1, F1, _, s1.st, q1, fun ys r2 H2 G2 F2 L2 s2 o2 n2 q2 => ?_⟩⟩
  exact k (x :: ys) (r1 :: r2) H2 G2 F2 (L1 ++ L2) (s1.trans s2) (.cons (o1.step s2.ev) o2 (StE.apart o1 n2)) (n1.app (s1.ev.new n2)) q2
def Rv.soft : Rv → Bool
  | .dr _ => true
  | _ => false
/-- where the parts of a result come from: of the shared part, or (soft) of what stands but the wells -/
def Src (P : Par) (ρ : List SV) (H G : Hp) (F : FP) (b : Bool) (vs : List V) (ds : List PD) : Prop :=
  match b with
  | false => Reps P.w P.K G vs ds
  | true => ∃ Hd, Le Hd H ∧ (∀ a, Hd a ≠ none → ¬ inW ρ F a) ∧ Reps P.w P.K Hd vs ds
theorem Sit.free {L : List Addr} (s : Sit P ρ σ H0 G0 F0 H G F) (h : ∀ a ∈ L, G a = none ∧ ¬ inF F a) (n : New H0 L) : Sit P ρ σ H0 G0 F0 H (addG G H L) F := ⟨s.st.addG h (s.at0.step (s.ev.addG h n).st), s.ev.addG h n, s.at0⟩
theorem RvOk.gmono {v : V} {r : Rv} {L : List Addr} (h : RvOk P ρ σ H G F v r L) (g : Le G G') (k : ∀ a ∈ L, G' a = G a) : RvOk P ρ σ H G' F v r L := by
  have fr : ∀ {o}, FrOk P H G F v o L → FrOk P H G' F v o L := fun h => ⟨h.own.at g fun _ _ _ e => e, h.nd, fun a m => ⟨(k a m).trans (h.off a m).1, (h.off a m).2⟩⟩
  cases r with
  | cl d => exact ⟨h.1.mono g, h.2⟩
  | dr d => exact h
  | fr o => exact fr h
  | wl => obtain ⟨o, h, z⟩ := h; exact ⟨o, fr h, z⟩
  | ws i => exact h
  | sc ns => obtain ⟨⟨a, e, r⟩, f⟩ := h; exact ⟨⟨a, e, g.sqL r⟩, f⟩
theorem RvsOk.gmono {vs : List V} {rs : List Rv} {L : List Addr} (h : RvsOk P ρ σ H G F vs rs L) (g : Le G G') (k : ∀ a ∈ L, G' a = G a) : RvsOk P ρ σ H G' F vs rs L := by
  induction h with
  | nil => exact .nil
  | cons a _ d ih => exact .cons (a.gmono g fun x m => k x (List.mem_append_left _ m)) (ih fun x m => k x (List.mem_append_right _ m)) d
theorem norm1 {v : V} {r : Rv} {L : List Addr} (s : Sit P ρ σ H0 G0 F0 H G F) (h : RvOk P ρ σ H G F v r L) (d : r.data = true) (n : New H0 L) :
    ∃ G', Sit P ρ σ H0 G0 F0 H G' F ∧ Le G G' ∧ (∀ a, a ∉ L → G' a = G a) ∧ Src P ρ H G' F r.soft [v] [r.val] := by
  cases r with
  | cl d => exact ⟨G, s, .refl _, fun _ _ => rfl, .cons h.1 .nil⟩
  | dr d =>
    obtain ⟨⟨Hd, l, nw, r⟩, _⟩ := h
    exact ⟨G, s, .refl _, fun _ _ => rfl, Hd, l, nw, .cons r .nil⟩
  | fr o =>
    have g := addG_ge (H := H) fun a m => (FrOk.off h a m).1
    exact ⟨addG G H L, s.free (FrOk.off h) n, g, fun a m => addG_ne m, .cons (Own.addG h.own (fun _ m => m) g) .nil⟩
  | wl => cases d
  | ws i => cases d
  | sc ns => cases d
theorem Src.gmono {b : Bool} {vs : List V} {ds : List PD} (h : Src P ρ H G F b vs ds) (g : Le G G') : Src P ρ H G' F b vs ds := by
  cases b with
  | false => exact Reps.mono g h
  | true => exact h
theorem Src.soften {b c : Bool} {vs : List V} {ds : List PD} (S : StOk P ρ σ H G F) (h : Src P ρ H G F b vs ds) (e : b = true → c = true) : Src P ρ H G F c vs ds := by
  cases b with
  | true => rw [e rfl]; exact h
  | false =>
    cases c with
    | false => exact h
    | true => exact ⟨G, S.le, fun a q ⟨i, _, m⟩ => q (S.off i a m), h⟩
/-- two heaps that avoid the wells -/
def join (A B : Hp) : Hp := fun a => match A a with
  | some o => some o
  | none => B a
theorem join_l (A B : Hp) : Le A (join A B) := fun a o e => by unfold join; rw [e]
theorem join_r {A B : Hp} (l : Le A H) (m : Le B H) : Le B (join A B) := fun a o e => by
  unfold join
  cases q : A a with
  | none => exact e
  | some x => have := l a x q; rw [m a o e] at this; exact this.symm
theorem join_le {A B : Hp} (l : Le A H) (m : Le B H) : Le (join A B) H := fun a o e => by
  unfold join at e
  cases q : A a with
  | none => rw [q] at e; exact m a o e
  | some x => rw [q] at e; cases e; exact l a _ q
theorem join_n {A B : Hp} {p : Addr → Prop} (l : ∀ a, A a ≠ none → ¬ p a) (m : ∀ a, B a ≠ none → ¬ p a) : ∀ a, join A B a ≠ none → ¬ p a := fun a h => by
  unfold join at h
  cases q : A a with
  | none => rw [q] at h; exact m a h
  | some x => exact l a (by rw [q]; simp)
theorem Src.append {b : Bool} {vs us : List V} {ds es : List PD} (h : Src P ρ H G F b vs ds) (g : Src P ρ H G F b us es) : Src P ρ H G F b (vs ++ us) (ds ++ es) := by
  cases b with
  | false => exact Reps.append h g
  | true =>
    obtain ⟨A, l1, n1, r1⟩ := h
    obtain ⟨B, l2, n2, r2⟩ := g
    exact ⟨join A B, join_le l1 l2, join_n n1 n2, Reps.append (Reps.mono (join_l A B) r1) (Reps.mono (join_r l1 l2) r2)⟩
theorem Src.rep {b : Bool} {vs : List V} {ds : List PD} (h : Src P ρ H G F b vs ds) (l : Le G H) : Reps P.w P.K H vs ds := by
  cases b with
  | false => exact Reps.mono l h
  | true => obtain ⟨A, l1, _, r⟩ := h; exact Reps.mono l1 r
theorem normAll {vs : List V} {rs : List Rv} {L : List Addr} : ∀ {G : Hp}, Sit P ρ σ H0 G0 F0 H G F → RvsOk P ρ σ H G F vs rs L → (∀ r ∈ rs, r.data = true) → New H0 L →
    ∃ G', Sit P ρ σ H0 G0 F0 H G' F ∧ Le G G' ∧ (∀ a, a ∉ L → G' a = G a) ∧ Src P ρ H G' F (rs.any Rv.soft) vs (rs.map Rv.val) := by
  intro G s h
  induction h with
  | nil => exact fun _ _ => ⟨G, s, .refl _, fun _ _ => rfl, Reps.nil⟩
  | cons a b dj ih =>
    rename_i v vs r rs L L'
    intro d n
    obtain ⟨G2, s2, g2, k2, q2⟩ := ih (fun x m => d x (List.mem_cons_of_mem _ m)) fun x m => n x (List.mem_append_right _ m)
    have a2 := a.gmono g2 fun x m => k2 x (dj x m)
    obtain ⟨G3, s3, g3, k3, q3⟩ := norm1 s2 a2 (d _ List.mem_cons_self) fun x m => n x (List.mem_append_left _ m)
    refine ⟨G3, s3, g2.trans g3, fun x m => (k3 x fun z => m (List.mem_append_left _ z)).trans (k2 x fun z => m (List.mem_append_right _ z)), ?_⟩
    have e1 := q3.soften s3.st (c := (r :: rs).any Rv.soft) fun z => by simp [z]
    have e2 := (q2.gmono g3).soften s3.st (c := (r :: rs).any Rv.soft) fun z => by simp [z]
    exact e1.append e2
def mk (soft : Bool) (d : PD) : Rv := if (soft && !imm d) = true then .dr d else .cl d
def mkL (soft : Bool) (ds : List PD) : Rv := if (soft && !immAll ds) = true then .dr (.list ds) else .fr (.ls (ds.map .lf))
theorem Kont.val {Q : Rv → Prop} {Q' : VK} {v : V} {d : PD} (k : Kont P ρ σ H0 G0 F0 Q Q') (s : Sit P ρ σ H0 G0 F0 H G F) (h : Rep P.w P.K G v d) (q : Q (.cl d)) : Q' v H :=
  k v (.cl d) H G F [] s ⟨h, rfl⟩ (fun _ m => nomatch m) q
/-- a part of what stands -/
theorem Kont.part {Q : Rv → Prop} {Q' : VK} {v : V} {d : PD} {b : Bool} (k : Kont P ρ σ H0 G0 F0 Q Q') (s : Sit P ρ σ H0 G0 F0 H G F) (h : Src P ρ H G F b [v] [d]) (q : Q (mk b d)) : Q' v H := by
  unfold mk at q
  split at q
  · rename_i e
    rw [Bool.and_eq_true] at e
    obtain ⟨rfl, e⟩ := e
    obtain ⟨Hd, l, n, r⟩ := h
    cases r with
    | cons r _ => exact k v (.dr d) H G F [] s ⟨⟨Hd, l, n, r⟩, rfl⟩ (fun _ m => nomatch m) q
  · rename_i e
    cases b with
    | false => cases h with | cons r _ => exact k.val s r q
    | true =>
      have i : imm d = true := by simpa using e
      obtain ⟨Hd, l, n, r⟩ := h
      cases r with
      | cons r _ => exact k.val ⟨s.st.abs, s.ev.trans .abs, s.at0⟩ ((r.mono l).abs s.st.le i) q
/-- a new tuple -/
theorem Kont.tup {Q : Rv → Prop} {Q' : VK} {vs : List V} {ds : List PD} {b : Bool} (k : Kont P ρ σ H0 G0 F0 Q Q') (s : Sit P ρ σ H0 G0 F0 H G F) (h : Src P ρ H G F b vs ds) (q : Q (mk b (.tuple ds))) (n : H p = none) :
    Q' (.ref p) (upd H p (.tup vs)) := by
  have hard : ∀ {G1 : Hp}, Sit P ρ σ H0 G0 F0 H G1 F → Reps P.w P.K G1 vs ds → Q (.cl (.tuple ds)) → Q' (.ref p) (upd H p (.tup vs)) := fun {G1} s1 r q =>
    k.val ⟨s1.st.pushG n, s1.ev.trans (.pushG n s1.st.le), s1.at0⟩ (.tup (.of upd_same) (Reps.mono (Le.upd (s1.st.le.none n)) r)) q
  unfold mk at q
  split at q
  · rename_i e
    rw [Bool.and_eq_true] at e
    obtain ⟨rfl, e⟩ := e
    obtain ⟨Hd, l, nw, r⟩ := h
    refine k (.ref p) (.dr (.tuple ds)) _ G F [] ⟨s.st.push n, s.ev.trans (.push n), s.at0⟩ ⟨⟨upd Hd p (.tup vs), l.upd2, fun a h => ?_, .tup (.of upd_same) (Reps.mono (Le.upd (l.none n)) r)⟩, rfl⟩ (fun _ m => nomatch m) q
    by_cases z : a = p
    · subst z; exact fun ⟨i, _, m⟩ => s.st.there m n
    · rw [upd_ne z] at h; exact nw a h
  · rename_i e
    cases b with
    | false => exact hard s h q
    | true =>
      have i : imm (.tuple ds) = true := by simpa using e
      rw [imm] at i
      obtain ⟨Hd, l, _, r⟩ := h
      exact hard ⟨s.st.abs, s.ev.trans .abs, s.at0⟩ ((Reps.mono l r).abs s.st.le i) q
/-- a new list -/
theorem Kont.lst {Q : Rv → Prop} {Q' : VK} {vs : List V} {ds : List PD} {b : Bool} (k : Kont P ρ σ H0 G0 F0 Q Q') (s : Sit P ρ σ H0 G0 F0 H G F) (h : Src P ρ H G F b vs ds) (q : Q (mkL b ds)) (n : H p = none) :
    Q' (.ref p) (upd H p (.lst vs)) := by
  have hard : ∀ {G1 : Hp}, Sit P ρ σ H0 G0 F0 H G1 F → Reps P.w P.K G1 vs ds → Q (.fr (.ls (ds.map .lf))) → Q' (.ref p) (upd H p (.lst vs)) := fun {G1} s1 r q => by
    have z : FrOk P (upd H p (.lst vs)) G1 F (.ref p) (.ls (ds.map .lf)) [p] := ⟨.ls upd_same (Owns.leaves r), (by simp), fun a m => by
        obtain rfl : a = p := by simpa using m
        exact ⟨s1.st.le.none n, fun ⟨i, m⟩ => s1.st.there m n⟩⟩
    refine k (.ref p) (.fr (.ls (ds.map .lf))) _ G1 F [p] ⟨s1.st.push n, s1.ev.trans (.push n), s1.at0⟩ z (fun a m => ?_) q
    · obtain rfl : a = p := by simpa using m
      exact s1.ev.new (L := [a]) (fun x mx => by obtain rfl : x = a := by simpa using mx
                                                 exact n) a (by simp)
  unfold mkL at q
  split at q
  · rename_i e
    rw [Bool.and_eq_true] at e
    obtain ⟨rfl, e⟩ := e
    obtain ⟨Hd, l, nw, r⟩ := h
    refine k (.ref p) (.dr (.list ds)) _ G F [] ⟨s.st.push n, s.ev.trans (.push n), s.at0⟩ ⟨⟨upd Hd p (.lst vs), l.upd2, fun a h => ?_, .lst upd_same (Reps.mono (Le.upd (l.none n)) r)⟩, rfl⟩ (fun _ m => nomatch m) q
    by_cases z : a = p
    · subst z; exact fun ⟨i, _, m⟩ => s.st.there m n
    · rw [upd_ne z] at h; exact nw a h
  · rename_i e
    cases b with
    | false => exact hard s h q
    | true =>
      have i : immAll ds = true := by simpa using e
      obtain ⟨Hd, l, _, r⟩ := h
      exact hard ⟨s.st.abs, s.ev.trans .abs, s.at0⟩ ((Reps.mono l r).abs s.st.le i) q
end Rz
namespace Rz
open PySem PySem.Spec PyProof.Rows L2
theorem pe_imp {X : Cx} {e : Expr} {t t' : TE} (h : PE X e t) (i : ∀ σ H Q, t' σ H Q → t σ H Q) : PE X e t' := ⟨fun pins s σ H Q I w => h.run pins s σ H Q I (i _ _ _ w)⟩
theorem pt_imp {X : Cx} {e : Expr} {t t' : TT} (h : PT X e t) (i : ∀ σ H Q, t' σ H Q → t σ H Q) : PT X e t' := ⟨fun pins s σ H Q I w => h.run pins s σ H Q I (i _ _ _ w)⟩
theorem pw_imp {X : Cx} {e : Expr} {t t' : TT} (h : PW X e t) (i : ∀ σ H Q, t' σ H Q → t σ H Q) : PW X e t' := ⟨fun wh pins s σ H Q I w => h.run wh pins s σ H Q I (i _ _ _ w)⟩
theorem pa_imp {X : Cx} {e : List Expr} {t t' : TA} (h : PA X e t) (i : ∀ σ H Q, t' σ H Q → t σ H Q) : PA X e t' := ⟨fun pos pins s σ H Q I w => h.run pos pins s σ H Q I (i _ _ _ w)⟩
theorem pss_imp {X : Cx} {e : List Stmt} {t t' : TS} (h : PSs X e t) (i : ∀ D σ H, t' D σ H → t D σ H) : PSs X e t' := ⟨fun pins s σ H D I w => h.run pins s σ H D I (i _ _ _ w)⟩
theorem ps_imp {X : Cx} {e : Stmt} {t t' : TS} (h : PS X e t) (i : ∀ D σ H, t' D σ H → t D σ H) : PS X e t' := ⟨fun pins s σ H D I w => h.run pins s σ H D I (i _ _ _ w)⟩
/-- what is known of a body's context -/
structure CxF (X : Cx) (P : Par) : Prop where
  nb : P.nb = PaW P.w P.K
  po : PassesOwn (model X.prog X.w) X.A X.env X.xe
  w : X.w = P.w
  K : X.K = P.K
  calm : X.calm = true
  nd : X.N.Nodup
  un : X.A.units + 80 < cLine
  gu : X.A.guards = some []
abbrev JE (X : Cx) (P : Par) (e : Expr) (t : TD) : Prop := PE X e (TEof P t)
abbrev JT (X : Cx) (P : Par) (e : Expr) (t : TDt) : Prop := PT X e (TTof P t)
abbrev JW (X : Cx) (P : Par) (e : Expr) (t : TDt) : Prop := PW X e (TTof P t)
abbrev JA (X : Cx) (P : Par) (es : List Expr) (t : TDa) : Prop := PA X es (TAof P t)
variable {X : Cx} {P : Par} {a b c e : Expr} {es : List Expr} {pos : Pos} {t t1 t2 t3 : TD} {u u1 u2 : TDt}
def rd : SV → Option Rv
  | .un => none
  | .sh d => some (.cl d)
  | .ow o => some (.dr o.val)
  | .wl => none
  | .sc ns => some (.sc ns)
  | .ex _ => none
  | .io _ _ => none
theorem je_var {i : Nat} {x : Str} (hN : X.N[i]? = some x) (hv : Vis X.env.scope x) (hd : (x == ("__debug__" : Str)) = false) (hcd : (x == ("__classdict__" : Str)) = false) :
    JE X P (.Name x pos) (fun ρ Q => ∃ r, (ρ[i]?.bind rd) = some r ∧ Q r) := by
  refine pe_imp (pe_var hN hv hd hcd) fun σ H Q' h => ?_
  obtain ⟨ρ, G, F, Q, S, ⟨r, er, q⟩, k⟩ := h
  cases e : ρ[i]? with
  | none => rw [e] at er; cases er
  | some sv =>
    rw [e] at er
    have sl := S.slot i sv e
    cases sv with
    | un => cases er
    | wl => cases er
    | ex _ => cases er
    | io _ _ => cases er
    | sc ns =>
      cases er
      obtain ⟨⟨p, ev, r⟩, _⟩ := sl
      exact ⟨.ref p, ev, k (.ref p) (.sc ns) H G F [] (.refl S) ⟨⟨p, rfl, r⟩, rfl⟩ (fun _ m => nomatch m) q⟩
    | sh d =>
      cases er
      obtain ⟨⟨v, ev, r⟩, _⟩ := sl
      exact ⟨v, ev, k v (.cl d) H G F [] (.refl S) ⟨r, rfl⟩ (fun _ m => nomatch m) q⟩
    | ow o =>
      cases er
      obtain ⟨v, ev, r⟩ := sl
      have g := addG_ge (H := H) (L := F i) fun a m => S.off i a m
      refine ⟨v, ev, k v (.dr o.val) H G F [] (.refl S) ⟨⟨addG G H (F i), addG_le S.le, fun a h => ?_, Own.addG r (fun _ m => m) g⟩, rfl⟩ (fun _ m => nomatch m) q⟩
      rintro ⟨j, ej, mj⟩
      by_cases mi : a ∈ F i
      · have := S.dj i j a mi mj
        subst this
        rw [e] at ej; cases ej
      · rw [addG_ne mi] at h
        exact h (S.off j a mj)
/-- a well's name, as an argument -/
theorem je_ws {i : Nat} {x : Str} (hN : X.N[i]? = some x) (hv : Vis X.env.scope x) (hd : (x == ("__debug__" : Str)) = false) (hcd : (x == ("__classdict__" : Str)) = false) :
    JE X P (.Name x pos) (fun ρ Q => ρ[i]? = some .wl ∧ Q (.ws i)) := by
  refine pe_imp (pe_var hN hv hd hcd) fun σ H Q' h => ?_
  obtain ⟨ρ, G, F, Q, S, ⟨e, q⟩, k⟩ := h
  obtain ⟨v, o, ev, _⟩ := S.slot i _ e
  exact ⟨v, ev, k v (.ws i) H G F [] (.refl S) ⟨⟨e, ev⟩, rfl⟩ (fun _ m => nomatch m) q⟩
theorem je_cst {v : V} {d : PD} (h : PE X e (tC v)) (r : ∀ H, Rep P.w P.K H v d) : JE X P e (fun _ Q => Q (.cl d)) := by
  refine pe_imp h fun σ H Q' h => ?_
  obtain ⟨ρ, G, F, Q, S, q, k⟩ := h
  exact k.val (.refl S) (r G) q
theorem je_int {i : Int} {j} : JE X P (.Constant (.int i) j pos) (fun _ Q => Q (.cl (.int i))) := je_cst pe_int fun _ => .int i
theorem je_bl {i : Bool} {j} : JE X P (.Constant (.bool i) j pos) (fun _ Q => Q (.cl (.bool i))) := je_cst pe_bl fun _ => .bl i
theorem je_str {x : Str} {j} : JE X P (.Constant (.str x) j pos) (fun _ Q => Q (.cl (.str x))) := je_cst pe_str fun _ => .str x
theorem je_non {j} : JE X P (.Constant .none j pos) (fun _ Q => Q (.cl .none)) := je_cst pe_non fun _ => .non
/-- an operator of two values, by its rule -/
structure DOp (X : Cx) (P : Par) (f : Value → Value → Sem Value) (R : Rv → Rv → (Rv → Prop) → Prop) : Prop where
  ex : ∃ r, OpR X f r ∧ BinR P R r
theorem je_bin {op : Operator} {R : Rv → Rv → (Rv → Prop) → Prop} (ho : DOp X P (binaryOp op) R) (ha : JE X P a t1) (hb : JE X P b t2) :
    JE X P (.BinOp a op b pos) (fun ρ Q => t1 ρ fun x => t2 ρ fun y => R x y Q) := by
  obtain ⟨r, h1, h2⟩ := ho.ex
  exact pe_imp (pe_op h1 ha hb) fun σ H Q' h => te_bin h2 h
theorem je_cmp {op : CmpOp} {R : Rv → Rv → (Rv → Prop) → Prop} (ho : DOp X P (compareOp op) R) (ha : JE X P a t1) (hb : JE X P b t2) (hm : behindInMarks op b = false) :
    JE X P (.Compare a [op] [b] pos) (fun ρ Q => t1 ρ fun x => t2 ρ fun y => R x y Q) := by
  obtain ⟨r, h1, h2⟩ := ho.ex
  exact pe_imp (pe_cmpR h1 ha hb hm) fun σ H Q' h => te_bin h2 h
/-- the answer's truth -/
abbrev isB (r : Rv) (Q : Bool → Prop) : Prop := ∃ k, r = .cl (.bool k) ∧ Q k
theorem jt_of {te : TE} {t : TD} (h : PT X e (tTest te)) (i : ∀ σ H Q, TEof P t σ H Q → te σ H Q) : JT X P e (fun ρ Q => t ρ fun r => isB r Q) := by
  refine pt_imp h fun σ H Q' hw => i σ H _ ?_
  obtain ⟨ρ, G, F, Q, S, q, k⟩ := hw
  refine ⟨ρ, G, F, _, S, q, fun v r H' G' F' L s o n q => ?_⟩
  obtain ⟨kk, rfl, q⟩ := q
  obtain ⟨o, _⟩ := o
  cases o
  exact ⟨kk, rfl, k kk H' G' F' s q⟩
theorem jt_cmp {op : CmpOp} {R : Rv → Rv → (Rv → Prop) → Prop} (ho : DOp X P (compareOp op) R) (ha : JE X P a t1) (hb : JE X P b t2) (hm : behindInMarks op b = false) :
    JT X P (.Compare a [op] [b] pos) (fun ρ Q => t1 ρ fun x => t2 ρ fun y => R x y fun z => isB z Q) := by
  obtain ⟨r, h1, h2⟩ := ho.ex
  exact jt_of (t := fun ρ Q => t1 ρ fun x => t2 ρ fun y => R x y Q) (pt_cmpR h1 ha hb hm) fun σ H Q' h => te_bin h2 h
theorem RvOk.int {ρ : List SV} {σ : Sg} {H G : Hp} {F : FP} {v : V} {r : Rv} {L : List Addr} {i : Int} (h : RvOk P ρ σ H G F v r L) (l : Le G H) (e : r.val = .int i) : v = .int i := by
  have d : r.data = true := by cases r <;> first | rfl | (cases e)
  have q := h.rep d l
  rw [e] at q; cases q; rfl
theorem RvOk.str {ρ : List SV} {σ : Sg} {H G : Hp} {F : FP} {v : V} {r : Rv} {L : List Addr} {i : Str} (h : RvOk P ρ σ H G F v r L) (l : Le G H) (e : r.val = .str i) : v = .str i := by
  have d : r.data = true := by cases r <;> first | rfl | (cases e)
  have q := h.rep d l
  rw [e] at q; cases q; rfl
theorem RvOk.bl {ρ : List SV} {σ : Sg} {H G : Hp} {F : FP} {v : V} {r : Rv} {L : List Addr} {i : Bool} (h : RvOk P ρ σ H G F v r L) (l : Le G H) (e : r.val = .bool i) : v = .bl i := by
  have d : r.data = true := by cases r <;> first | rfl | (cases e)
  have q := h.rep d l
  rw [e] at q; cases q; rfl
theorem Rv.data_of {r : Rv} (h : r.val ≠ .none) : r.data = true := by cases r <;> first | rfl | exact absurd rfl h
/-- two ints -/
theorem dop_ints {f : Value → Value → Sem Value} {C : Int → Int → Prop} {g : Int → Int → PD} {gv : Int → Int → V} (h : OpR X f (rI C gv)) (r : ∀ i j H, Rep P.w P.K H (gv i j) (g i j)) :
    DOp X P f (fun x y Q => ∃ i j, x.val = .int i ∧ y.val = .int j ∧ C i j ∧ Q (.cl (g i j))) := by
  refine ⟨_, h, ?_⟩
  intro ρ σ H0 G0 F0 H G F x y r1 r2 L1 L2 Q Q' s o1 o2 n1 n2 dj q k
  obtain ⟨i, j, e1, e2, c, q⟩ := q
  exact ⟨i, j, o1.int s.st.le e1, o2.int s.st.le e2, c, k.val s (r i j G) q⟩
theorem dop_ints0 {f : Value → Value → Sem Value} {g : Int → Int → PD} {gv : Int → Int → V} (h : OpR X f (rI0 gv)) (r : ∀ i j H, Rep P.w P.K H (gv i j) (g i j)) :
    DOp X P f (fun x y Q => ∃ i j, x.val = .int i ∧ y.val = .int j ∧ Q (.cl (g i j))) := by
  refine ⟨_, h, ?_⟩
  intro ρ σ H0 G0 F0 H G F x y r1 r2 L1 L2 Q Q' s o1 o2 n1 n2 dj q k
  obtain ⟨i, j, e1, e2, q⟩ := q
  exact ⟨i, j, o1.int s.st.le e1, o2.int s.st.le e2, k.val s (r i j G) q⟩
theorem DOp.imp {f : Value → Value → Sem Value} {R R' : Rv → Rv → (Rv → Prop) → Prop} (h : DOp X P f R) (i : ∀ x y Q, R' x y Q → R x y Q) : DOp X P f R' := by
  obtain ⟨r, h1, h2⟩ := h.ex
  exact ⟨r, h1, fun ρ σ H0 G0 F0 H G F x y r1 r2 L1 L2 Q Q' s o1 o2 n1 n2 dj q k => h2 ρ σ H0 G0 F0 H G F x y r1 r2 L1 L2 Q Q' s o1 o2 n1 n2 dj (i _ _ _ q) k⟩
theorem DOp.or {f : Value → Value → Sem Value} {R R' : Rv → Rv → (Rv → Prop) → Prop} (h : DOp X P f R) (h' : DOp X P f R') : DOp X P f (fun x y Q => R x y Q ∨ R' x y Q) := by
  obtain ⟨r, h1, h2⟩ := h.ex
  obtain ⟨r', h1', h2'⟩ := h'.ex
  refine ⟨_, h1.or h1', ?_⟩
  intro ρ σ H0 G0 F0 H G F x y r1 r2 L1 L2 Q Q' s o1 o2 n1 n2 dj q k
  rcases q with q | q
  · exact .inl (h2 ρ σ H0 G0 F0 H G F x y r1 r2 L1 L2 Q Q' s o1 o2 n1 n2 dj q k)
  · exact .inr (h2' ρ σ H0 G0 F0 H G F x y r1 r2 L1 L2 Q Q' s o1 o2 n1 n2 dj q k)
theorem dop_strs {f : Value → Value → Sem Value} {C : Str → Str → Prop} {g : Str → Str → PD} {gv : Str → Str → V} (h : OpR X f (fun x y H Q => ∃ i j, x = .str i ∧ y = .str j ∧ C i j ∧ Q (gv i j) H)) (r : ∀ i j H, Rep P.w P.K H (gv i j) (g i j)) :
    DOp X P f (fun x y Q => ∃ i j, x.val = .str i ∧ y.val = .str j ∧ C i j ∧ Q (.cl (g i j))) := by
  refine ⟨_, h, ?_⟩
  intro ρ σ H0 G0 F0 H G F x y r1 r2 L1 L2 Q Q' s o1 o2 n1 n2 dj q k
  obtain ⟨i, j, e1, e2, c, q⟩ := q
  exact ⟨i, j, o1.str s.st.le e1, o2.str s.st.le e2, c, k.val s (r i j G) q⟩
theorem dop_strs0 {f : Value → Value → Sem Value} {g : Str → Str → PD} {gv : Str → Str → V} (h : OpR X f (fun x y H Q => ∃ i j, x = .str i ∧ y = .str j ∧ Q (gv i j) H)) (r : ∀ i j H, Rep P.w P.K H (gv i j) (g i j)) :
    DOp X P f (fun x y Q => ∃ i j, x.val = .str i ∧ y.val = .str j ∧ Q (.cl (g i j))) := by
  refine ⟨_, h, ?_⟩
  intro ρ σ H0 G0 F0 H G F x y r1 r2 L1 L2 Q Q' s o1 o2 n1 n2 dj q k
  obtain ⟨i, j, e1, e2, q⟩ := q
  exact ⟨i, j, o1.str s.st.le e1, o2.str s.st.le e2, k.val s (r i j G) q⟩
/-- both operands let go -/
theorem norm2 {ρ : List SV} {σ : Sg} {H0 G0 H G : Hp} {F0 F : FP} {x y : V} {r1 r2 : Rv} {L1 L2 : List Addr} (s : Sit P ρ σ H0 G0 F0 H G F) (o1 : RvOk P ρ σ H G F x r1 L1) (o2 : RvOk P ρ σ H G F y r2 L2)
    (n1 : New H0 L1) (n2 : New H0 L2) (dj : ∀ a ∈ L1, a ∉ L2) (d1 : r1.data = true) (d2 : r2.data = true) :
    ∃ G', Sit P ρ σ H0 G0 F0 H G' F ∧ Src P ρ H G' F r1.soft [x] [r1.val] ∧ Src P ρ H G' F r2.soft [y] [r2.val] := by
  obtain ⟨G1, s1, g1, k1, q1⟩ := norm1 s o1 d1 n1
  obtain ⟨G2, s2, g2, k2, q2⟩ := norm1 s1 (o2.gmono g1 fun a m => k1 a fun z => dj a z m) d2 n2
  exact ⟨G2, s2, q1.gmono g2, q2⟩
theorem Src.tuple {ρ : List SV} {H G : Hp} {F : FP} {b : Bool} {x : V} {ds : List PD} (h : Src P ρ H G F b [x] [.tuple ds]) (l : Le G H) : ∃ a xs, x = .ref a ∧ SqT P.K H a xs ∧ Src P ρ H G F b xs ds := by
  cases b with
  | false =>
    cases h with
    | cons r _ => cases r with | tup sq r => exact ⟨_, _, rfl, l.sqT sq, r⟩
  | true =>
    obtain ⟨Hd, l', n, h⟩ := h
    cases h with
    | cons r _ => cases r with | tup sq r => exact ⟨_, _, rfl, l'.sqT sq, Hd, l', n, r⟩
theorem Src.list {ρ : List SV} {H G : Hp} {F : FP} {b : Bool} {x : V} {ds : List PD} (h : Src P ρ H G F b [x] [.list ds]) (l : Le G H) : ∃ a xs, x = .ref a ∧ H a = some (.lst xs) ∧ Src P ρ H G F b xs ds := by
  cases b with
  | false =>
    cases h with
    | cons r _ => cases r with | lst sq r => exact ⟨_, _, rfl, l _ _ sq, r⟩
  | true =>
    obtain ⟨Hd, l', n, h⟩ := h
    cases h with
    | cons r _ => cases r with | lst sq r => exact ⟨_, _, rfl, l' _ _ sq, Hd, l', n, r⟩
theorem Src.len {ρ : List SV} {H G : Hp} {F : FP} {b : Bool} {vs : List V} {ds : List PD} (h : Src P ρ H G F b vs ds) : vs.length = ds.length := by
  cases b with
  | false => exact Reps.length h
  | true => obtain ⟨_, _, _, h⟩ := h; exact Reps.length h
def oAdd (x y : Rv) (Q : Rv → Prop) : Prop := match x.val, y.val with
  | .int i, .int j => Q (.cl (.int (i + j)))
  | .str i, .str j => i.length + j.length ≤ sizeLine ∧ Q (.cl (.str (i ++ j)))
  | .tuple a, .tuple b => a.length + b.length ≤ sizeLine ∧ Q (mk (x.soft || y.soft) (.tuple (a ++ b)))
  | .list a, .list b => a.length + b.length ≤ sizeLine ∧ Q (mkL (x.soft || y.soft) (a ++ b))
  | _, _ => False
theorem dop_addT (F : CxF X P) : DOp X P (binaryOp .Add) (fun x y Q => ∃ a b, x.val = .tuple a ∧ y.val = .tuple b ∧ a.length + b.length ≤ sizeLine ∧ Q (mk (x.soft || y.soft) (.tuple (a ++ b)))) := by
  refine ⟨_, op_catA, ?_⟩
  intro ρ σ H0 G0 F0 H G F' x y r1 r2 L1 L2 Q Q' s o1 o2 n1 n2 dj q k
  obtain ⟨da, db, e1, e2, hz, q⟩ := q
  obtain ⟨G', s', q1, q2⟩ := norm2 s o1 o2 n1 n2 dj (Rv.data_of (by rw [e1]; simp)) (Rv.data_of (by rw [e2]; simp))
  rw [e1] at q1; rw [e2] at q2
  have p1 := q1.soften s'.st (c := r1.soft || r2.soft) fun z => by simp [z]
  have p2 := q2.soften s'.st (c := r1.soft || r2.soft) fun z => by simp [z]
  obtain ⟨a, xs, rfl, sa, ra⟩ := p1.tuple s'.st.le
  obtain ⟨b, ys, rfl, sb, rb⟩ := p2.tuple s'.st.le
  have la := ra.len
  have lb := rb.len
  refine ⟨a, b, xs, ys, rfl, rfl, by rw [F.K]; exact sa, by rw [F.K]; exact sb, by omega, fun z => ?_, fun _ z => ?_, fun _ _ p n => ?_⟩
  · subst z
    have z : da = [] := by cases da with | nil => rfl | cons _ _ => simp at la
    subst z
    exact k.part s' p2 q
  · subst z
    have z : db = [] := by cases db with | nil => rfl | cons _ _ => simp at lb
    subst z
    rw [List.append_nil] at q
    exact k.part s' p1 q
  · exact k.tup s' (ra.append rb) q n
theorem dop_addL (F : CxF X P) : DOp X P (binaryOp .Add) (fun x y Q => ∃ a b, x.val = .list a ∧ y.val = .list b ∧ a.length + b.length ≤ sizeLine ∧ Q (mkL (x.soft || y.soft) (a ++ b))) := by
  refine ⟨_, op_cat, ?_⟩
  intro ρ σ H0 G0 F0 H G F' x y r1 r2 L1 L2 Q Q' s o1 o2 n1 n2 dj q k
  obtain ⟨da, db, e1, e2, hz, q⟩ := q
  obtain ⟨G', s', q1, q2⟩ := norm2 s o1 o2 n1 n2 dj (Rv.data_of (by rw [e1]; simp)) (Rv.data_of (by rw [e2]; simp))
  rw [e1] at q1; rw [e2] at q2
  have p1 := q1.soften s'.st (c := r1.soft || r2.soft) fun z => by simp [z]
  have p2 := q2.soften s'.st (c := r1.soft || r2.soft) fun z => by simp [z]
  obtain ⟨a, xs, rfl, sa, ra⟩ := p1.list s'.st.le
  obtain ⟨b, ys, rfl, sb, rb⟩ := p2.list s'.st.le
  have la := ra.len
  have lb := rb.len
  exact ⟨a, b, xs, ys, rfl, rfl, sa, sb, by omega, fun p n => k.lst s' (ra.append rb) q n⟩
theorem dop_add (F : CxF X P) : DOp X P (binaryOp .Add) oAdd := by
  refine ((dop_ints0 (g := fun i j => .int (i + j)) op_add fun _ _ _ => .int _).or ((dop_strs (g := fun i j => .str (i ++ j)) op_add_str fun _ _ _ => .str _).or ((dop_addT F).or (dop_addL F)))).imp fun x y Q h => ?_
  unfold oAdd at h
  split at h
  · rename_i e1 e2; exact .inl ⟨_, _, e1, e2, h⟩
  · rename_i e1 e2; exact .inr (.inl ⟨_, _, e1, e2, h⟩)
  · rename_i e1 e2; exact .inr (.inr (.inl ⟨_, _, e1, e2, h⟩))
  · rename_i e1 e2; exact .inr (.inr (.inr ⟨_, _, e1, e2, h⟩))
  · exact h.elim
end Rz
namespace Rz
open PySem PySem.Spec PyProof.Rows L2
section
variable {X : Cx} {w : World} {K : PySem.W.Frag} {pins : List (Addr × Obj)} {σ : Sg} {H : Hp} {s : Shared}
mutual
theorem Rep.reads (I : Inv X pins σ H s) (hK : X.K = K) : ∀ {d : PD} {v : V} {u : Value}, Rep w K H v d → RelV v u → noIns d = true → ∃ as, Reads s.heap u d as
  | .none, _, _, h, r, _ => by cases h; cases r; exact ⟨_, .none⟩
  | .bool b, _, _, h, r, _ => by cases h; cases r; exact ⟨_, .bool b⟩
  | .int i, _, _, h, r, _ => by cases h; obtain ⟨t, rfl⟩ := r; exact ⟨_, .int i t⟩
  | .str x, _, _, h, r, _ => by cases h; obtain ⟨t, rfl⟩ := r; exact ⟨_, .str x t⟩
  | .list ds, _, _, h, r, ni => by
    rw [noIns] at ni
    cases h with
    | lst e q =>
      cases r
      obtain ⟨its, rv, ⟨o, n, ho, hc, _, hd⟩, _⟩ := I.list (.of e)
      obtain ⟨as, z⟩ := Reps.reads I hK q rv ni
      exact ⟨_, .list ho hc hd (by simpa using z)⟩
  | .tuple ds, _, _, h, r, ni => by
    rw [noIns] at ni
    cases h with
    | tup e q =>
      cases r
      obtain ⟨its, rv, ⟨o, ho, hc, n, hd⟩, _⟩ := I.tuple (by rw [hK]; exact e)
      obtain ⟨as, z⟩ := Reps.reads I hK q rv ni
      exact ⟨_, .tuple ho hc hd (by simpa using z)⟩
  | .dict kvs, _, _, h, r, ni => by
    rw [noIns, Bool.and_eq_true] at ni
    cases h with
    | dct e q _ =>
      cases r
      obtain ⟨⟨_, _, o, ho, hx, hd⟩, _⟩ := I.hok _ _ e
      obtain ⟨as, bs, z1, z2⟩ := RepsE.reads I hK q ni.2
      exact ⟨_, .dict ho hx.1 hd (by simpa using z1) (by simpa using z2)⟩
    | ins _ _ _ q => cases q; rw [isIns_tag] at ni; cases ni.1
theorem Reps.reads (I : Inv X pins σ H s) (hK : X.K = K) : ∀ {ds : List PD} {vs : List V} {us : List Value}, Reps w K H vs ds → Vals vs us → noInsAll ds = true → ∃ as, ReadsAll s.heap us ds as
  | [], _, _, h, r, _ => by cases h; cases r; exact ⟨_, .nil⟩
  | _ :: _, _, _, h, r, ni => by
    rw [noInsAll, Bool.and_eq_true] at ni
    cases h with
    | cons a b =>
      cases r with
      | cons r1 r2 =>
        obtain ⟨as, q1⟩ := Rep.reads I hK a r1 ni.1
        obtain ⟨bs, q2⟩ := Reps.reads I hK b r2 ni.2
        exact ⟨_, .cons q1 q2⟩
theorem RepsE.reads (I : Inv X pins σ H s) (hK : X.K = K) : ∀ {kvs : List (PD × PD)} {es : List DictEntry}, RepsE w K H es kvs → noInsKv kvs = true → ∃ as bs, ReadsAll s.heap (es.map (·.key)) (kvs.map (·.1)) as ∧ ReadsAll s.heap (es.map (·.val)) (kvs.map (·.2)) bs
  | [], _, h, _ => by cases h; exact ⟨_, _, .nil, .nil⟩
  | (_, _) :: _, _, h, ni => by
    rw [noInsKv, Bool.and_eq_true, Bool.and_eq_true] at ni
    cases h with
    | cons e1 e2 e3 e4 e5 e6 =>
      obtain ⟨as, q1⟩ := Rep.reads I hK e3 e2 ni.1.1
      obtain ⟨bs, q2⟩ := Rep.reads I hK e5 e4 ni.1.2
      obtain ⟨as', bs', q3, q4⟩ := RepsE.reads I hK e6 ni.2
      exact ⟨_, _, .cons q1 q3, .cons q2 q4⟩
end
end
variable {X : Cx} {P : Par} {a b c e : Expr} {es : List Expr} {pos : Pos} {t t1 t2 t3 : TD} {u u1 u2 : TDt} {ta : TDa}
variable {ρ : List SV} {σ : Sg} {H0 G0 H G : Hp} {F0 F : FP}
/-- an operator over data that gives a bool and leaves the heap -/
theorem dop_data {f : Value → Value → Sem Value} {C : PD → PD → Prop} {g : PD → PD → Bool}
    (h : ∀ (pins : List (Addr × Obj)) (s : Shared) (σ : Sg) (H : Hp) (x y : V) (v u : Value) (d e : PD) (Q : VK), Inv X pins σ H s → RelV x v → RelV y u → Rep P.w P.K H x d → Rep P.w P.K H y e → C d e → Q (.bl (g d e)) H →
      wpAny (model X.prog X.w) X.A (f v u) (EP X pins σ Q) X.xe s) :
    DOp X P f (fun x y Q => x.data = true ∧ y.data = true ∧ C x.val y.val ∧ Q (.cl (.bool (g x.val y.val)))) := by
  refine ⟨fun x y H Q => ∃ d e, Rep P.w P.K H x d ∧ Rep P.w P.K H y e ∧ C d e ∧ Q (.bl (g d e)) H, ?_, ?_⟩
  · intro pins s σ H x y v u Q I rx ry ⟨d, e, r1, r2, c, q⟩
    exact h pins s σ H x y v u d e Q I rx ry r1 r2 c q
  · intro ρ σ H0 G0 F0 H G F x y r1 r2 L1 L2 Q Q' s o1 o2 n1 n2 dj q k
    obtain ⟨d1, d2, c, q⟩ := q
    exact ⟨_, _, o1.rep d1 s.st.le, o2.rep d2 s.st.le, c, k.val s (.bl _) q⟩
abbrev oEq (x y : Rv) (Q : Rv → Prop) : Prop := x.data = true ∧ y.data = true ∧ (SeqAt.shaped x.val = true ∧ SeqAt.shaped y.val = true) ∧ Q (.cl (.bool (PyData.eqv x.val y.val)))
abbrev oNe (x y : Rv) (Q : Rv → Prop) : Prop := x.data = true ∧ y.data = true ∧ (SeqAt.shaped x.val = true ∧ SeqAt.shaped y.val = true) ∧ Q (.cl (.bool (!PyData.eqv x.val y.val)))
theorem dop_eq (F : CxF X P) : DOp X P (compareOp .Eq) oEq := dop_data (C := fun d e => SeqAt.shaped d = true ∧ SeqAt.shaped e = true) (g := fun d e => PyData.eqv d e) fun pins s σ H x y v u d e Q I rx ry r1 r2 c q => by
  obtain ⟨as, z1⟩ := r1.reads I F.K rx (noIns_lay (SeqAt.canLay_of_shaped c.1))
  obtain ⟨bs, z2⟩ := r2.reads I F.K ry (noIns_lay (SeqAt.canLay_of_shaped c.2))
  exact SeqAt.compareEq_shaped z1 z2 c.1 c.2 (by have := F.un; omega) ⟨.bl _, H, I, rfl, q⟩
theorem dop_ne (F : CxF X P) : DOp X P (compareOp .NotEq) oNe := dop_data (C := fun d e => SeqAt.shaped d = true ∧ SeqAt.shaped e = true) (g := fun d e => !PyData.eqv d e) fun pins s σ H x y v u d e Q I rx ry r1 r2 c q => by
  obtain ⟨as, z1⟩ := r1.reads I F.K rx (noIns_lay (SeqAt.canLay_of_shaped c.1))
  obtain ⟨bs, z2⟩ := r2.reads I F.K ry (noIns_lay (SeqAt.canLay_of_shaped c.2))
  exact SeqAt.compareNe_shaped z1 z2 c.1 c.2 (by have := F.un; omega) ⟨.bl _, H, I, rfl, q⟩
def strLt (a b : Str) : Bool := decide (a.cps.toList < b.cps.toList)
/-- <, <=, >, >= of ints, of texts -/
def cmpD (op : CmpOp) (x y : PD) : Option Bool := match op, x, y with
  | .Lt, .int i, .int j => some (decide (i < j))
  | .LtE, .int i, .int j => some (decide (i ≤ j))
  | .Gt, .int i, .int j => some (decide (j < i))
  | .GtE, .int i, .int j => some (decide (j ≤ i))
  | .Lt, .str i, .str j => some (strLt i j)
  | .LtE, .str i, .str j => some (!strLt j i)
  | .Gt, .str i, .str j => some (strLt j i)
  | .GtE, .str i, .str j => some (!strLt i j)
  | _, _, _ => none
def cmpV (op : CmpOp) (x y : V) : Option Bool := match op, x, y with
  | .Lt, .int i, .int j => some (decide (i < j))
  | .LtE, .int i, .int j => some (decide (i ≤ j))
  | .Gt, .int i, .int j => some (decide (j < i))
  | .GtE, .int i, .int j => some (decide (j ≤ i))
  | .Lt, .str i, .str j => some (strLt i j)
  | .LtE, .str i, .str j => some (!strLt j i)
  | .Gt, .str i, .str j => some (strLt j i)
  | .GtE, .str i, .str j => some (!strLt i j)
  | _, _, _ => none
def rCmp (op : CmpOp) : R2 := fun x y H Q => ∃ k, cmpV op x y = some k ∧ Q (.bl k) H
theorem op_cmp (op : CmpOp) : OpR X (compareOp op) (rCmp op) := by
  intro pins s σ H x y v u Q I rx ry ⟨k, e, q⟩
  unfold cmpV at e
  split at e <;> cases e
  · exact op_lt pins s σ H _ _ v u Q I rx ry ⟨_, _, rfl, rfl, q⟩
  · exact op_le pins s σ H _ _ v u Q I rx ry ⟨_, _, rfl, rfl, q⟩
  · exact op_gt pins s σ H _ _ v u Q I rx ry ⟨_, _, rfl, rfl, q⟩
  · exact op_ge pins s σ H _ _ v u Q I rx ry ⟨_, _, rfl, rfl, q⟩
  · exact op_lt_str pins s σ H _ _ v u Q I rx ry ⟨_, _, rfl, rfl, q⟩
  · exact op_le_str pins s σ H _ _ v u Q I rx ry ⟨_, _, rfl, rfl, q⟩
  · exact op_gt_str pins s σ H _ _ v u Q I rx ry ⟨_, _, rfl, rfl, q⟩
  · exact op_ge_str pins s σ H _ _ v u Q I rx ry ⟨_, _, rfl, rfl, q⟩
theorem cmpV_of {op : CmpOp} {x y : V} {r1 r2 : Rv} {L1 L2 : List Addr} {k : Bool} (o1 : RvOk P ρ σ H G F x r1 L1) (o2 : RvOk P ρ σ H G F y r2 L2) (l : Le G H) (h : cmpD op r1.val r2.val = some k) : cmpV op x y = some k := by
  unfold cmpD at h
  split at h <;> first
    | (rename_i e1 e2; rw [o1.int l e1, o2.int l e2]; exact h)
    | (rename_i e1 e2; rw [o1.str l e1, o2.str l e2]; exact h)
    | cases h
abbrev oCmp (op : CmpOp) (x y : Rv) (Q : Rv → Prop) : Prop := ∃ k, cmpD op x.val y.val = some k ∧ Q (.cl (.bool k))
theorem dop_cmp (op : CmpOp) : DOp X P (compareOp op) (oCmp op) := by
  refine ⟨_, op_cmp op, ?_⟩
  intro ρ σ H0 G0 F0 H G F x y r1 r2 L1 L2 Q Q' s o1 o2 n1 n2 dj ⟨kk, e, q⟩ k
  exact ⟨kk, cmpV_of o1 o2 s.st.le e, k.val s (.bl _) q⟩
/-- a < b <= c -/
theorem je_chain {op op' : CmpOp} (ha : JE X P a t1) (hb : JE X P b t2) (hc : JE X P c t3) (hm : lastMarks [op, op'] [b, c] = false) :
    JE X P (.Compare a [op, op'] [b, c] pos) (fun ρ Q => t1 ρ fun x => t2 ρ fun y => ∃ k, cmpD op x.val y.val = some k ∧ if k = true then t3 ρ fun z => oCmp op' y z Q else Q (.cl (.bool false))) := by
  refine pe_imp (pe_chain (op_cmp op) (op_cmp op') ha hb hc hm) fun σ H Q' h => ?_
  obtain ⟨ρ, G, F, Q, S, ht, k⟩ := h
  refine ⟨ρ, G, F, _, S, ht, fun x r1 H1 G1 F1 L1 s1 o1 n1 q1 => ⟨ρ, G1, F1, _, s1.st, q1, fun y r2 H2 G2 F2 L2 s2 o2 n2 q2 => ?_⟩⟩
  obtain ⟨kk, e, q2⟩ := q2
  refine ⟨kk, cmpV_of (o1.step s2.ev) o2 s2.st.le e, kk, rfl, ?_⟩
  cases kk with
  | false => exact k.val (s1.trans s2) (.bl _) q2
  | true =>
    refine ⟨ρ, G2, F2, _, s2.st, q2, fun z r3 H3 G3 F3 L3 s3 o3 n3 q3 => ?_⟩
    obtain ⟨kk, e, q3⟩ := q3
    exact ⟨kk, cmpV_of (o2.step s3.ev) o3 s3.st.le e, k.val ((s1.trans s2).trans s3) (.bl _) q3⟩
theorem jt_chain {op op' : CmpOp} (ha : JE X P a t1) (hb : JE X P b t2) (hc : JE X P c t3) (hm : lastMarks [op, op'] [b, c] = false) :
    JT X P (.Compare a [op, op'] [b, c] pos) (fun ρ Q => t1 ρ fun x => t2 ρ fun y => ∃ k, cmpD op x.val y.val = some k ∧ if k = true then t3 ρ fun z => ∃ k, cmpD op' y.val z.val = some k ∧ Q k else Q false) := by
  refine pt_imp (pt_chain (op_cmp op) (op_cmp op') ha hb hc hm) fun σ H Q' h => ?_
  obtain ⟨ρ, G, F, Q, S, ht, k⟩ := h
  refine ⟨ρ, G, F, _, S, ht, fun x r1 H1 G1 F1 L1 s1 o1 n1 q1 => ⟨ρ, G1, F1, _, s1.st, q1, fun y r2 H2 G2 F2 L2 s2 o2 n2 q2 => ?_⟩⟩
  obtain ⟨kk, e, q2⟩ := q2
  refine ⟨kk, cmpV_of (o1.step s2.ev) o2 s2.st.le e, kk, rfl, ?_⟩
  cases kk with
  | false => exact ⟨_, rfl, k false H2 G2 F2 (s1.trans s2) q2⟩
  | true =>
    refine ⟨ρ, G2, F2, _, s2.st, q2, fun z r3 H3 G3 F3 L3 s3 o3 n3 q3 => ?_⟩
    obtain ⟨kk, e, q3⟩ := q3
    exact ⟨kk, cmpV_of (o2.step s3.ev) o3 s3.st.le e, _, rfl, k kk H3 G3 F3 ((s1.trans s2).trans s3) q3⟩
theorem jw_and1 (ha : JT X P a u) : JW X P (.BoolOp .And [a] pos) u := pw_and1 ha
theorem jw_or1 (ha : JT X P a u) : JW X P (.BoolOp .Or [a] pos) u := pw_or1 ha
theorem jw_and (ha : JT X P a u1) (hb : JW X P (.BoolOp .And (b :: es) pos) u2) : JW X P (.BoolOp .And (a :: b :: es) pos) (fun ρ Q => u1 ρ fun k => if k = true then u2 ρ Q else Q false) := by
  refine pw_imp (pw_and ha hb) fun σ H Q' h => ?_
  obtain ⟨ρ, G, F, Q, S, ht, k⟩ := h
  refine ⟨ρ, G, F, _, S, ht, fun c H1 G1 F1 s1 q1 => ?_⟩
  cases c with
  | true => exact ⟨ρ, G1, F1, _, s1.st, q1, fun d H2 G2 F2 s2 q2 => k d H2 G2 F2 (s1.trans s2) q2⟩
  | false => exact k false H1 G1 F1 s1 q1
theorem jw_or (ha : JT X P a u1) (hb : JW X P (.BoolOp .Or (b :: es) pos) u2) : JW X P (.BoolOp .Or (a :: b :: es) pos) (fun ρ Q => u1 ρ fun k => if k = true then Q true else u2 ρ Q) := by
  refine pw_imp (pw_or ha hb) fun σ H Q' h => ?_
  obtain ⟨ρ, G, F, Q, S, ht, k⟩ := h
  refine ⟨ρ, G, F, _, S, ht, fun c H1 G1 F1 s1 q1 => ?_⟩
  cases c with
  | false => exact ⟨ρ, G1, F1, _, s1.st, q1, fun d H2 G2 F2 s2 q2 => k d H2 G2 F2 (s1.trans s2) q2⟩
  | true => exact k true H1 G1 F1 s1 q1
theorem jt_not (ha : JT X P a u) : JT X P (.UnaryOp .Not a pos) (fun ρ Q => u ρ fun k => Q (!k)) := by
  refine pt_imp (L2.pt_not ha) fun σ H Q' h => ?_
  obtain ⟨ρ, G, F, Q, S, ht, k⟩ := h
  exact ⟨ρ, G, F, _, S, ht, fun c H1 G1 F1 s1 q1 => k (!c) H1 G1 F1 s1 q1⟩
/-- as values: bools -/
theorem je_one {op} (ha : JE X P a t) : JE X P (.BoolOp op [a] pos) t := pe_one ha
theorem je_and (ha : JE X P a t1) (hb : JE X P (.BoolOp .And (b :: es) pos) t2) : JE X P (.BoolOp .And (a :: b :: es) pos) (fun ρ Q => t1 ρ fun x => isB x fun k => if k = true then t2 ρ Q else Q (.cl (.bool false))) := by
  refine pe_imp (L2.pe_and ha hb) fun σ H Q' h => ?_
  obtain ⟨ρ, G, F, Q, S, ht, k⟩ := h
  refine ⟨ρ, G, F, _, S, ht, fun x r1 H1 G1 F1 L1 s1 o1 n1 q1 => ?_⟩
  obtain ⟨c, rfl, q1⟩ := q1
  refine ⟨c, o1.bl s1.st.le rfl, ?_⟩
  cases c with
  | true => exact ⟨ρ, G1, F1, _, s1.st, q1, fun v r2 H2 G2 F2 L2 s2 o2 n2 q2 => k v r2 H2 G2 F2 L2 (s1.trans s2) o2 (s1.ev.new n2) q2⟩
  | false => exact k.val s1 (.bl _) q1
theorem je_notV (ha : JE X P a t) : JE X P (.UnaryOp .Not a pos) (fun ρ Q => t ρ fun x => isB x fun k => Q (.cl (.bool (!k)))) := by
  refine pe_imp (L2.pe_not ha) fun σ H Q' h => ?_
  obtain ⟨ρ, G, F, Q, S, ht, k⟩ := h
  refine ⟨ρ, G, F, _, S, ht, fun x r1 H1 G1 F1 L1 s1 o1 n1 q1 => ?_⟩
  obtain ⟨c, rfl, q1⟩ := q1
  exact ⟨c, o1.bl s1.st.le rfl, k.val s1 (.bl _) q1⟩
theorem je_if (hc : JT X P c u) (ha : JE X P a t1) (hb : JE X P b t2) : JE X P (.IfExp c a b pos) (fun ρ Q => u ρ fun k => if k = true then t1 ρ Q else t2 ρ Q) := by
  refine pe_imp (pe_ifExp hc ha hb) fun σ H Q' h => ?_
  obtain ⟨ρ, G, F, Q, S, ht, k⟩ := h
  refine ⟨ρ, G, F, _, S, ht, fun c H1 G1 F1 s1 q1 => ?_⟩
  cases c with
  | true => exact ⟨ρ, G1, F1, _, s1.st, q1, fun v r2 H2 G2 F2 L2 s2 o2 n2 q2 => k v r2 H2 G2 F2 L2 (s1.trans s2) o2 (s1.ev.new n2) q2⟩
  | false => exact ⟨ρ, G1, F1, _, s1.st, q1, fun v r2 H2 G2 F2 L2 s2 o2 n2 q2 => k v r2 H2 G2 F2 L2 (s1.trans s2) o2 (s1.ev.new n2) q2⟩
/-- by truth -/
def truD : PD → Bool
  | .none => false
  | .bool b => b
  | .int i => i != 0
  | .str y => (y.length : Int) != 0
  | .list xs => !xs.isEmpty
  | .tuple xs => !xs.isEmpty
  | .dict _ => false
def truOk : PD → Prop
  | .str y => y.length ≤ sizeLine
  | .dict _ => False
  | _ => True
theorem jt_truth (F : CxF X P) (ha : JE X P a t) (he : ∀ whole, isTrue a X.env whole = (do let v ← whole; standAt a.pos; holding [v] (truthy v))) : JT X P a (fun ρ Q => t ρ fun x => x.data = true ∧ truOk x.val ∧ Q (truD x.val)) := by
  refine pt_imp (pt_truth ha he) fun σ H Q' h => ?_
  obtain ⟨ρ, G, F', Q, S, ht, k⟩ := h
  refine ⟨ρ, G, F', _, S, ht, fun x r1 H1 G1 F1 L1 s1 o1 n1 q1 => ?_⟩
  obtain ⟨d, c, q⟩ := q1
  have r := o1.rep d s1.st.le
  refine ⟨truD r1.val, ?_, k _ H1 G1 F1 s1 q⟩
  rw [F.K]
  generalize r1.val = z at r c
  cases r with
  | non => rfl
  | bl b => rfl
  | int i => rfl
  | str y => exact ⟨c, rfl⟩
  | lst e r => exact .inl ⟨_, .of e, by cases r <;> rfl⟩
  | tup e r => exact .inr (.inl ⟨_, e, by cases r <;> rfl⟩)
  | dct e r _ => exact c.elim
  | ins _ _ _ _ => exact c.elim
def allData (rs : List Rv) : Bool := rs.all Rv.data
def anySoft (rs : List Rv) : Bool := rs.any Rv.soft
def vals (rs : List Rv) : List PD := rs.map Rv.val
theorem je_tup {x1} (h : JA X P es ta) : JE X P (.Tuple es x1 pos) (fun ρ Q => ta ρ fun rs => allData rs = true ∧ rs.length ≤ sizeLine ∧ Q (mk (anySoft rs) (.tuple (vals rs)))) := by
  refine pe_imp (pe_tup h) fun σ H Q' h => ?_
  obtain ⟨ρ, G, F, Q, S, ht, k⟩ := h
  refine ⟨ρ, G, F, _, S, ht, fun vs rs H1 G1 F1 L1 s1 o1 n1 q1 => ?_⟩
  obtain ⟨d, z, q⟩ := q1
  obtain ⟨G2, s2, _, _, r2⟩ := normAll s1 o1 (fun r m => List.all_eq_true.mp d r m) n1
  have l := r2.len
  refine ⟨by rw [l, List.length_map]; exact z, fun p n => k.tup s2 r2 q n⟩
/-- a list: its parts that are lists of one's own stay one's own -/
def partO : Rv → OD
  | .fr o => o
  | r => .lf r.val
def mkLst (rs : List Rv) : Rv := if (anySoft rs && !immAll (vals rs)) = true then .dr (.list (vals rs)) else .fr (.ls (rs.map partO))
end Rz
namespace Rz
open PySem PySem.Spec PyProof.Rows L2
variable {X : Cx} {P : Par} {a b c e : Expr} {es : List Expr} {pos : Pos} {t t1 t2 t3 : TD} {u u1 u2 : TDt} {ta : TDa}
variable {ρ : List SV} {σ : Sg} {H0 G0 H G G' : Hp} {F0 F : FP}
theorem parts_own {vs : List V} {rs : List Rv} {L : List Addr} (l : Le G H) (h : RvsOk P ρ σ H G F vs rs L) (d : allData rs = true) (i : ∀ r ∈ rs, r.soft = true → imm r.val = true) :
    Owns P.w P.K H (absT G H) vs (rs.map partO) L ∧ L.Nodup ∧ ∀ a ∈ L, G a = none ∧ ¬ inF F a := by
  induction h with
  | nil => exact ⟨.nil, List.nodup_nil, fun _ m => nomatch m⟩
  | @cons v vs r rs L L' x _ dj ih =>
    rw [allData, List.all_cons, Bool.and_eq_true] at d
    obtain ⟨o2, n2, f2⟩ := ih d.2 fun r m => i r (List.mem_cons_of_mem _ m)
    have one : Own P.w P.K H (absT G H) v (partO r) L ∧ L.Nodup ∧ ∀ a ∈ L, G a = none ∧ ¬ inF F a := by
      cases r with
      | cl d => obtain ⟨r, rfl⟩ := x; exact ⟨.lf (r.mono absT_ge), List.nodup_nil, fun _ m => nomatch m⟩
      | dr dd =>
        obtain ⟨⟨Hd, l', _, r⟩, rfl⟩ := x
        exact ⟨.lf ((r.mono l').abs l (i (.dr dd) List.mem_cons_self rfl)), List.nodup_nil, fun _ m => nomatch m⟩
      | fr o => exact ⟨(FrOk.own x).at absT_ge fun _ _ _ e => e, FrOk.nd x, FrOk.off x⟩
      | wl => exact nomatch d.1
      | ws i => exact nomatch d.1
      | sc ns => exact nomatch d.1
    obtain ⟨o1, n1, f1⟩ := one
    refine ⟨.cons o1 o2, List.nodup_append.mpr ⟨n1, n2, fun a m b m' e => dj a m (e ▸ m')⟩, fun a m => ?_⟩
    rcases List.mem_append.mp m with q | q
    · exact f1 a q
    · exact f2 a q
theorem je_lst (h : JA X P es ta) : JE X P (.List es pos) (fun ρ Q => ta ρ fun rs => allData rs = true ∧ rs.length ≤ sizeLine ∧ Q (mkLst rs)) := by
  refine pe_imp (pe_lst h) fun σ H Q' h => ?_
  obtain ⟨ρ, G, F, Q, S, ht, k⟩ := h
  refine ⟨ρ, G, F, _, S, ht, fun vs rs H1 G1 F1 L1 s1 o1 n1 q1 => ?_⟩
  obtain ⟨d, z, q⟩ := q1
  have lz : vs.length = rs.length := by
    obtain ⟨G2, s2, _, _, r2⟩ := normAll s1 o1 (fun r m => List.all_eq_true.mp d r m) n1
    rw [r2.len, List.length_map]
  refine ⟨by rw [lz]; exact z, fun p n => ?_⟩
  unfold mkLst at q
  split at q
  · rename_i e
    rw [Bool.and_eq_true] at e
    obtain ⟨G2, s2, _, _, r2⟩ := normAll s1 o1 (fun r m => List.all_eq_true.mp d r m) n1
    rw [show rs.any Rv.soft = true from e.1] at r2
    refine k.lst s2 r2 ?_ n
    unfold mkL
    rw [if_pos (by rw [Bool.true_and]; exact e.2)]
    exact q
  · rename_i e
    have i : ∀ r ∈ rs, r.soft = true → imm r.val = true := fun r m z => by
      have h1 : anySoft rs = true := List.any_eq_true.mpr ⟨r, m, z⟩
      rw [h1, Bool.true_and] at e
      have h2 : immAll (vals rs) = true := by
        cases q : immAll (vals rs) with
        | true => rfl
        | false => rw [q] at e; exact absurd rfl e
      exact immAll_iff.mp h2 _ (List.mem_map_of_mem m)
    obtain ⟨o, nd, off⟩ := parts_own s1.st.le o1 d i
    have s2 : Sit P ρ σ H G F H1 (absT G1 H1) F1 := ⟨s1.st.abs, s1.ev.trans .abs, s1.at0⟩
    have np : ∀ a ∈ L1, a ≠ p := fun a m => (o1.there a m).ne n
    have fr : FrOk P (upd H1 p (.lst vs)) (absT G1 H1) F1 (.ref p) (.ls (rs.map partO)) (p :: L1) := by
      refine ⟨.ls upd_same (o.at (.refl _) fun a m x e => by rw [upd_ne (np a m)]; exact e), List.nodup_cons.mpr ⟨fun m => np p m rfl, nd⟩, fun a m => ?_⟩
      rcases List.mem_cons.mp m with q | q
      · subst q
        exact ⟨s2.st.le.none n, fun ⟨i, m⟩ => s2.st.there m n⟩
      · exact ⟨absT_own (o1.there a q) (off a q).1, (off a q).2⟩
    refine k (.ref p) (.fr (.ls (rs.map partO))) _ (absT G1 H1) F1 (p :: L1) ⟨s2.st.push n, s2.ev.trans (.push n), s2.at0⟩ fr (fun a m => ?_) q
    rcases List.mem_cons.mp m with q | q
    · subst q
      exact s1.ev.new (L := [a]) (fun x mx => by obtain rfl : x = a := by simpa using mx
                                                 exact n) a (by simp)
    · exact n1 a q
theorem Src.get {b : Bool} {vs : List V} {ds : List PD} {i : Nat} {d : PD} (h : Src P ρ H G F b vs ds) (e : ds[i]? = some d) : ∃ v, vs[i]? = some v ∧ Src P ρ H G F b [v] [d] := by
  cases b with
  | false => obtain ⟨v, e1, r⟩ := Reps.get h e; exact ⟨v, e1, .cons r .nil⟩
  | true =>
    obtain ⟨Hd, l, n, h⟩ := h
    obtain ⟨v, e1, r⟩ := Reps.get h e
    exact ⟨v, e1, Hd, l, n, .cons r .nil⟩
theorem atI_map {ds : List PD} {vs : List V} {i : Int} {d : PD} (h : atI ds i = some d) (l : vs.length = ds.length) : ∃ j : Nat, ds[j]? = some d ∧ ∀ v, vs[j]? = some v → atI vs i = some v := by
  unfold atI at h ⊢
  rw [l]
  cases e : ixN ds.length i with
  | none => rw [e] at h; cases h
  | some j => rw [e] at h; exact ⟨j, h, fun v q => q⟩
structure DIx (X : Cx) (P : Par) (R : Rv → Rv → (Rv → Prop) → Prop) : Prop where
  ex : ∃ r, IxR X r ∧ BinR P R r
theorem DIx.imp {R R' : Rv → Rv → (Rv → Prop) → Prop} (h : DIx X P R) (i : ∀ x y Q, R' x y Q → R x y Q) : DIx X P R' := by
  obtain ⟨r, h1, h2⟩ := h.ex
  exact ⟨r, h1, fun ρ σ H0 G0 F0 H G F x y r1 r2 L1 L2 Q Q' s o1 o2 n1 n2 dj q k => h2 ρ σ H0 G0 F0 H G F x y r1 r2 L1 L2 Q Q' s o1 o2 n1 n2 dj (i _ _ _ q) k⟩
theorem DIx.or {R R' : Rv → Rv → (Rv → Prop) → Prop} (h : DIx X P R) (h' : DIx X P R') : DIx X P (fun x y Q => R x y Q ∨ R' x y Q) := by
  obtain ⟨r, h1, h2⟩ := h.ex
  obtain ⟨r', h1', h2'⟩ := h'.ex
  refine ⟨_, h1.or h1', ?_⟩
  intro ρ σ H0 G0 F0 H G F x y r1 r2 L1 L2 Q Q' s o1 o2 n1 n2 dj q k
  rcases q with q | q
  · exact .inl (h2 ρ σ H0 G0 F0 H G F x y r1 r2 L1 L2 Q Q' s o1 o2 n1 n2 dj q k)
  · exact .inr (h2' ρ σ H0 G0 F0 H G F x y r1 r2 L1 L2 Q Q' s o1 o2 n1 n2 dj q k)
theorem dix_list (F : CxF X P) : DIx X P (fun x y Q => ∃ ds i d, x.val = .list ds ∧ y.val = .int i ∧ atI ds i = some d ∧ Q (mk x.soft d)) := by
  refine ⟨_, ix_list, ?_⟩
  intro ρ σ H0 G0 F0 H G F' x y r1 r2 L1 L2 Q Q' s o1 o2 n1 n2 dj q k
  obtain ⟨ds, i, d, e1, e2, e3, q⟩ := q
  have ey := o2.int s.st.le e2
  obtain ⟨G', s', g', k', q1⟩ := norm1 s o1 (Rv.data_of (by rw [e1]; simp)) n1
  rw [e1] at q1
  obtain ⟨p, xs, rfl, sp, r⟩ := q1.list s'.st.le
  obtain ⟨j, e4, e5⟩ := atI_map e3 r.len
  obtain ⟨v, e6, r6⟩ := r.get e4
  exact ⟨p, xs, i, v, rfl, ey, .of sp, e5 v e6, k.part s' r6 q⟩
theorem dix_tup (F : CxF X P) : DIx X P (fun x y Q => ∃ ds i d, x.val = .tuple ds ∧ y.val = .int i ∧ atI ds i = some d ∧ Q (mk x.soft d)) := by
  refine ⟨_, ix_tup, ?_⟩
  intro ρ σ H0 G0 F0 H G F' x y r1 r2 L1 L2 Q Q' s o1 o2 n1 n2 dj q k
  obtain ⟨ds, i, d, e1, e2, e3, q⟩ := q
  have ey := o2.int s.st.le e2
  obtain ⟨G', s', g', k', q1⟩ := norm1 s o1 (Rv.data_of (by rw [e1]; simp)) n1
  rw [e1] at q1
  obtain ⟨p, xs, rfl, sp, r⟩ := q1.tuple s'.st.le
  obtain ⟨j, e4, e5⟩ := atI_map e3 r.len
  obtain ⟨v, e6, r6⟩ := r.get e4
  exact ⟨p, xs, i, v, rfl, ey, by rw [F.K]; exact sp, e5 v e6, k.part s' r6 q⟩
theorem dix_str : DIx X P (fun x y Q => ∃ z i ch, x.val = .str z ∧ y.val = .int i ∧ z.length ≤ sizeLine ∧ atI z.cps.toList i = some ch ∧ Q (.cl (.str ⟨#[ch]⟩))) := by
  refine ⟨_, ix_str, ?_⟩
  intro ρ σ H0 G0 F0 H G F' x y r1 r2 L1 L2 Q Q' s o1 o2 n1 n2 dj q k
  obtain ⟨z, i, ch, e1, e2, hz, e3, q⟩ := q
  exact ⟨z, i, ch, o1.str s.st.le e1, o2.int s.st.le e2, hz, e3, k.val s (.str _) q⟩
def oIx (x y : Rv) (Q : Rv → Prop) : Prop := match x.val, y.val with
  | .list ds, .int i => ∃ d, atI ds i = some d ∧ Q (mk x.soft d)
  | .tuple ds, .int i => ∃ d, atI ds i = some d ∧ Q (mk x.soft d)
  | .str z, .int i => z.length ≤ sizeLine ∧ ∃ ch, atI z.cps.toList i = some ch ∧ Q (.cl (.str ⟨#[ch]⟩))
  | _, _ => False
theorem dix (F : CxF X P) : DIx X P oIx := ((dix_list F).or ((dix_tup F).or dix_str)).imp fun x y Q h => by
  unfold oIx at h
  split at h
  · rename_i e1 e2; obtain ⟨d, e3, q⟩ := h; exact .inl ⟨_, _, d, e1, e2, e3, q⟩
  · rename_i e1 e2; obtain ⟨d, e3, q⟩ := h; exact .inr (.inl ⟨_, _, d, e1, e2, e3, q⟩)
  · rename_i e1 e2; obtain ⟨z, d, e3, q⟩ := h; exact .inr (.inr ⟨_, _, d, e1, e2, z, e3, q⟩)
  · exact h.elim
theorem je_ix {R : Rv → Rv → (Rv → Prop) → Prop} (ho : DIx X P R) (ha : JE X P a t1) (hb : JE X P b t2) (hs : PlainIx b) : JE X P (.Subscript a b pos) (fun ρ Q => t1 ρ fun x => t2 ρ fun y => R x y Q) := by
  obtain ⟨r, h1, h2⟩ := ho.ex
  exact pe_imp (pe_ix h1 ha hb hs) fun σ H Q' h => te_bin h2 h
/-- an optional bound -/
abbrev TDo := List SV → (Option Int → Prop) → Prop
def TOof (P : Par) (t : TDo) : TO := fun σ H Q' => ∃ ρ G F Q, StOk P ρ σ H G F ∧ t ρ Q ∧ ∀ b H' G' F', Sit P ρ σ H G F H' G' F' → Q b → Q' b H'
theorem po_imp {o : Option Expr} {t t' : TO} (h : PO X o t) (i : ∀ σ H Q, t' σ H Q → t σ H Q) : PO X o t' := ⟨fun pins s σ H Q I w => h.run pins s σ H Q I (i _ _ _ w)⟩
theorem jo_none : PO X none (TOof P fun _ Q => Q none) := po_imp po_none fun σ H Q' h => by
  obtain ⟨ρ, G, F, Q, S, ht, k⟩ := h
  exact k none H G F (.refl S) ht
theorem jo_some (h : JE X P e t) : PO X (some e) (TOof P fun ρ Q => t ρ fun x => ∃ i, x.val = .int i ∧ Q (some i)) := po_imp (po_some h) fun σ H Q' h => by
  obtain ⟨ρ, G, F, Q, S, ht, k⟩ := h
  refine ⟨ρ, G, F, _, S, ht, fun x r1 H1 G1 F1 L1 s1 o1 n1 q1 => ?_⟩
  obtain ⟨i, e, q⟩ := q1
  exact ⟨i, o1.int s1.st.le e, k (some i) H1 G1 F1 s1 q⟩
def cut {α : Type} (xs : List α) (lo hi : Option Int) : List α := (xs.drop (HT.sIx xs.length 0 lo)).take (HT.sIx xs.length xs.length hi - HT.sIx xs.length 0 lo)
def oSlD (x : Rv) (lo hi : Option Int) (Q : Rv → Prop) : Prop := match x.val with
  | .list ds => Q (mkL x.soft (cut ds lo hi))
  | .tuple ds => Q (mk x.soft (.tuple (cut ds lo hi)))
  | .str z => z.length ≤ sizeLine ∧ Q (.cl (.str (cutS z lo hi)))
  | _ => False
def oSl (x : Rv) (lo hi : Option Int) (Q : Rv → Prop) : Prop := match x with
  | .sc ns => Q (.fr (.ls ((cut ns lo hi).map fun i => .lf (.int i))))
  | x => oSlD x lo hi Q
theorem cut_v {ds : List PD} {vs : List V} {lo hi : Option Int} (l : vs.length = ds.length) : cutV vs lo hi = (vs.drop (HT.sIx ds.length 0 lo)).take (HT.sIx ds.length ds.length hi - HT.sIx ds.length 0 lo) := by
  unfold cutV; rw [l]
theorem Src.cut {b : Bool} {vs : List V} {ds : List PD} (h : Src P ρ H G F b vs ds) (lo hi : Option Int) : Src P ρ H G F b (cutV vs lo hi) (Rz.cut ds lo hi) := by
  rw [cut_v h.len]
  cases b with
  | false => exact Reps.take _ (Reps.drop _ h)
  | true => obtain ⟨Hd, l, n, h⟩ := h; exact ⟨Hd, l, n, Reps.take _ (Reps.drop _ h)⟩
theorem cut_all {α : Type} {ds : List α} {lo hi : Option Int} (h : HT.sIx ds.length 0 lo = 0 ∧ HT.sIx ds.length ds.length hi = ds.length) : cut ds lo hi = ds := by
  unfold cut; rw [h.1, h.2]; simp
theorem je_slice {lo hi : Option Expr} {p2 : Pos} {tl th : TDo} (F : CxF X P) (he : JE X P e t) (hl : PO X lo (TOof P tl)) (hh : PO X hi (TOof P th)) :
    JE X P (.Subscript e (.Slice lo hi none p2) pos) (fun ρ Q => t ρ fun x => tl ρ fun l => th ρ fun u => oSl x l u Q) := by
  refine pe_imp (pe_slice (SlR.or sl_list (SlR.or sl_tupA sl_str)) he hl hh) fun σ H Q' h => ?_
  obtain ⟨ρ, G, F', Q, S, ht, k⟩ := h
  refine ⟨ρ, G, F', _, S, ht, fun x r1 H1 G1 F1 L1 s1 o1 n1 q1 => ⟨ρ, G1, F1, _, s1.st, q1, fun l H2 G2 F2 s2 q2 => ⟨ρ, G2, F2, _, s2.st, q2, fun u H3 G3 F3 s3 q3 => ?_⟩⟩⟩
  have s4 := (s1.trans s2).trans s3
  have o4 := (o1.step s2.ev).step s3.ev
  have sc : (∃ ns, r1 = .sc ns) ∨ oSl r1 l u Q = oSlD r1 l u Q := by
    cases r1 with
    | sc ns => exact .inl ⟨ns, rfl⟩
    | _ => exact .inr rfl
  rcases sc with ⟨ns, rfl⟩ | sc
  · obtain ⟨⟨p, rfl, h⟩, _⟩ := o4
    have q3 : Q (.fr (.ls ((cut ns l u).map fun i => .lf (.int i)))) := q3
    refine .inl ⟨p, _, rfl, by rw [F.K]; exact s4.st.le.sqL h, fun p n => ?_⟩
    have e : cutV (ns.map V.int) l u = (cut ns l u).map V.int := by
      unfold cutV cut
      rw [List.map_take, List.map_drop, List.length_map]
    rw [e]
    refine k.lst s4 (b := false) (ds := (cut ns l u).map .int) Reps.ints ?_ n
    unfold mkL
    rw [if_neg (by simp), List.map_map]
    exact q3
  rw [sc] at q3
  unfold oSlD at q3
  split at q3
  · rename_i ds e1
    obtain ⟨G5, s5, _, _, r5⟩ := norm1 s4 o4 (Rv.data_of (by rw [e1]; simp)) n1
    rw [e1] at r5
    obtain ⟨p, xs, rfl, sp, r⟩ := r5.list s5.st.le
    exact .inl ⟨p, xs, rfl, .of sp, fun p n => k.lst s5 (r.cut l u) q3 n⟩
  · rename_i ds e1
    obtain ⟨G5, s5, _, _, r5⟩ := norm1 s4 o4 (Rv.data_of (by rw [e1]; simp)) n1
    rw [e1] at r5
    obtain ⟨p, xs, rfl, sp, r⟩ := r5.tuple s5.st.le
    refine .inr (.inl ⟨p, xs, rfl, by rw [F.K]; exact sp, fun z => ?_, fun _ p n => k.tup s5 (r.cut l u) q3 n⟩)
    rw [cut_all (by rw [← r.len]; exact z)] at q3
    exact k.part s5 r5 q3
  · obtain ⟨hz, q⟩ := q3
    rename_i z e1
    exact .inr (.inr ⟨z, o4.str s4.st.le e1, hz, k.val s4 (.str _) q⟩)
  · exact q3.elim
theorem je_neg (ha : JE X P a t) : JE X P (.UnaryOp .USub a pos) (fun ρ Q => t ρ fun x => ∃ i, x.val = .int i ∧ Q (.cl (.int (-i)))) := by
  refine pe_imp (pe_un un_neg ha) fun σ H Q' h => te_un (R := fun x Q => ∃ i, x.val = .int i ∧ Q (.cl (.int (-i)))) ?_ h
  intro ρ σ H0 G0 F0 H G F x r1 L1 Q Q' s o1 n1 ⟨i, e, q⟩ k
  exact ⟨i, o1.int s.st.le e, k.val s (.int _) q⟩
structure DCall (X : Cx) (P : Par) (f : Value) (R : List Rv → (Rv → Prop) → Prop) : Prop where
  ex : ∃ r, CallR X f r ∧ ArgR P R r
theorem DCall.imp {f : Value} {R R' : List Rv → (Rv → Prop) → Prop} (h : DCall X P f R) (i : ∀ x Q, R' x Q → R x Q) : DCall X P f R' := by
  obtain ⟨r, h1, h2⟩ := h.ex
  exact ⟨r, h1, fun ρ σ H0 G0 F0 H G F x rs L1 Q Q' s o1 n1 q k => h2 ρ σ H0 G0 F0 H G F x rs L1 Q Q' s o1 n1 (i _ _ q) k⟩
theorem DCall.or {f : Value} {R R' : List Rv → (Rv → Prop) → Prop} (h : DCall X P f R) (h' : DCall X P f R') : DCall X P f (fun x Q => R x Q ∨ R' x Q) := by
  obtain ⟨r, h1, h2⟩ := h.ex
  obtain ⟨r', h1', h2'⟩ := h'.ex
  refine ⟨fun xs H Q => r xs H Q ∨ r' xs H Q, fun pins s σ H xs us Q I rv q => ?_, ?_⟩
  · rcases q with q | q
    · exact h1 pins s σ H xs us Q I rv q
    · exact h1' pins s σ H xs us Q I rv q
  · intro ρ σ H0 G0 F0 H G F x rs L1 Q Q' s o1 n1 q k
    rcases q with q | q
    · exact .inl (h2 ρ σ H0 G0 F0 H G F x rs L1 Q Q' s o1 n1 q k)
    · exact .inr (h2' ρ σ H0 G0 F0 H G F x rs L1 Q Q' s o1 n1 q k)
theorem je_callB {id : String} {x : Str} {p : Pos} {R : List Rv → (Rv → Prop) → Prop} (hc : DCall X P (.builtin id) R) (hg : Gl X x) (hm : X.mg x = none) (hv : bootBuiltins x = some (.builtin id)) (ha : JA X P (e :: es) ta)
    (hn : x ≠ "__name__") (hdb : (x == ("__debug__" : Str)) = false) (he : starEach (e :: es) X.env = (false, eval e X.env) :: starEach es X.env) (hpl : (backTo pos (starEach es X.env)).any (·.1) = false) :
    JE X P (.Call (.Name x p) (e :: es) [] pos) (fun ρ Q => ta ρ fun rs => R rs Q) := by
  obtain ⟨r, h1, h2⟩ := hc.ex
  exact pe_imp (pe_callB h1 hg hm hv ha hn hdb he hpl) fun σ H Q' h => te_args h2 h
theorem je_callTy {T : String} {x : Str} {p : Pos} {R : List Rv → (Rv → Prop) → Prop} (hc : DCall X P (.type T) R) (hg : Gl X x) (hm : X.mg x = none) (hv : bootBuiltins x = some (.type T)) (ha : JA X P (e :: es) ta)
    (hn : x ≠ "__name__") (hdb : (x == ("__debug__" : Str)) = false) (he : starEach (e :: es) X.env = (false, eval e X.env) :: starEach es X.env) (hpl : (backTo pos (starEach es X.env)).any (·.1) = false) :
    JE X P (.Call (.Name x p) (e :: es) [] pos) (fun ρ Q => ta ρ fun rs => R rs Q) := by
  obtain ⟨r, h1, h2⟩ := hc.ex
  exact pe_imp (pe_callTy h1 hg hm hv ha hn hdb he hpl) fun σ H Q' h => te_args h2 h
end Rz
namespace Rz
open PySem PySem.Spec PyProof.Rows L2
variable {X : Cx} {P : Par} {ρ : List SV} {σ : Sg} {H0 G0 H G G' : Hp} {F0 F : FP}
/-- one argument -/
theorem dcall1 {f : Value} {R : Rv → (Rv → Prop) → Prop} {r : V → Hp → VK → Prop} (h : CallR X f (fun xs H Q => ∃ x, xs = [x] ∧ r x H Q)) (h2 : UnR' P R r) : DCall X P f (fun rs Q => ∃ x, rs = [x] ∧ R x Q) := by
  refine ⟨_, h, ?_⟩
  intro ρ σ H0 G0 F0 H G F xs rs L1 Q Q' s o1 n1 ⟨x, e, q⟩ k
  subst e
  cases o1 with
  | cons a b dj =>
    cases b
    exact ⟨_, rfl, h2 ρ σ H0 G0 F0 H G F _ x _ Q Q' s a (fun a m => n1 a (List.mem_append_left _ m)) q k⟩
theorem dcall2 {f : Value} {R : Rv → Rv → (Rv → Prop) → Prop} {r : R2} (h : CallR X f (fun xs H Q => ∃ x y, xs = [x, y] ∧ r x y H Q)) (h2 : BinR P R r) : DCall X P f (fun rs Q => ∃ x y, rs = [x, y] ∧ R x y Q) := by
  refine ⟨_, h, ?_⟩
  intro ρ σ H0 G0 F0 H G F xs rs L1 Q Q' s o1 n1 ⟨x, y, e, q⟩ k
  subst e
  cases o1 with
  | cons a b dj =>
    cases b with
    | cons b c dj2 =>
      cases c
      exact ⟨_, _, rfl, h2 ρ σ H0 G0 F0 H G F _ _ x y _ _ Q Q' s a b (fun a m => n1 a (List.mem_append_left _ m)) (fun a m => n1 a (List.mem_append_right _ (List.mem_append_left _ m))) (fun a m z => dj a m (List.mem_append_left _ z)) q k⟩
theorem callr1 {f : Value} {r : V → Hp → VK → Prop} (h : ∀ (pins : List (Addr × Obj)) (s : Shared) (σ : Sg) (H : Hp) (x : V) (v : Value) (Q : VK), Inv X pins σ H s → RelV x v → r x H Q → wpAny (model X.prog X.w) X.A (call f [v]) (EP X pins σ Q) X.xe s) :
    CallR X f (fun xs H Q => ∃ x, xs = [x] ∧ r x H Q) := by
  intro pins s σ H xs us Q I rv ⟨x, e, q⟩
  subst e
  obtain ⟨u, rfl, ru⟩ := vals1 rv
  exact h pins s σ H x u Q I ru q
theorem callr1' {f : Value} {r : List V → Hp → VK → Prop} (h : CallR X f r) : CallR X f (fun xs H Q => ∃ x, xs = [x] ∧ r [x] H Q) := by
  intro pins s σ H xs us Q I rv ⟨x, e, q⟩
  subst e
  exact h pins s σ H [x] us Q I rv q
theorem callr2' {f : Value} {r : List V → Hp → VK → Prop} (h : CallR X f r) : CallR X f (fun xs H Q => ∃ x y, xs = [x, y] ∧ r [x, y] H Q) := by
  intro pins s σ H xs us Q I rv ⟨x, y, e, q⟩
  subst e
  exact h pins s σ H [x, y] us Q I rv q
def lenD : PD → Option Nat
  | .str y => if y.length ≤ sizeLine then some y.length else none
  | .list xs => some xs.length
  | .tuple xs => some xs.length
  | _ => none
def lenR : Rv → Option Nat
  | .sc ns => some ns.length
  | r => lenD r.val
abbrev bLen (x : Rv) (Q : Rv → Prop) : Prop := ∃ n : Nat, lenR x = some n ∧ Q (.cl (.int n))
theorem dc_len (F : CxF X P) : DCall X P (.builtin "len") (fun rs Q => ∃ x, rs = [x] ∧ bLen x Q) := dcall1 (callr1' call_len) <| by
  intro ρ σ H0 G0 F0 H G F' x r1 L1 Q Q' s o1 n1 ⟨n, e, q⟩ k
  refine ⟨x, n, rfl, ?_, k.val s (.int _) q⟩
  have sc : (∃ ns, r1 = .sc ns) ∨ lenR r1 = lenD r1.val := by
    cases r1 with
    | sc ns => exact .inl ⟨ns, rfl⟩
    | _ => exact .inr rfl
  rcases sc with ⟨ns, rfl⟩ | sc
  · cases e
    obtain ⟨⟨p, rfl, h⟩, _⟩ := o1
    exact .inl ⟨_, by rw [F.K]; exact s.st.le.sqL h, by rw [List.length_map]⟩
  rw [sc] at e
  have r := o1.rep (Rv.data_of (by intro z; rw [z] at e; cases e)) s.st.le
  generalize r1.val = d at e r
  cases r with
  | str y =>
    simp only [lenD] at e
    by_cases h : y.length ≤ sizeLine
    · rw [if_pos h] at e; cases e; exact ⟨h, rfl⟩
    · rw [if_neg h] at e; cases e
  | lst h r => cases e; exact .inl ⟨_, .of h, r.length.symm⟩
  | tup h r => cases e; exact .inr ⟨_, by rw [F.K]; exact h, r.length.symm⟩
  | non => cases e
  | bl _ => cases e
  | int _ => cases e
  | dct _ _ _ => cases e
  | ins _ _ _ _ => cases e
def bTuple (x : Rv) (Q : Rv → Prop) : Prop := match x.val with
  | .list ds => Q (mk x.soft (.tuple ds))
  | .tuple ds => Q (mk x.soft (.tuple ds))
  | _ => False
theorem dc_tuple (F : CxF X P) : DCall X P (.type "tuple") (fun rs Q => ∃ x, rs = [x] ∧ bTuple x Q) := dcall1 (callr1' call_tuple_of) <| by
  intro ρ σ H0 G0 F0 H G F' x r1 L1 Q Q' s o1 n1 q k
  unfold bTuple at q
  split at q
  · rename_i ds e1
    obtain ⟨G5, s5, _, _, r5⟩ := norm1 s o1 (Rv.data_of (by rw [e1]; simp)) n1
    rw [e1] at r5
    obtain ⟨p, xs, rfl, sp, r⟩ := r5.list s5.st.le
    exact ⟨p, xs, rfl, .inl ⟨.of sp, fun l n => k.tup s5 r q n⟩⟩
  · rename_i ds e1
    obtain ⟨G5, s5, _, _, r5⟩ := norm1 s o1 (Rv.data_of (by rw [e1]; simp)) n1
    rw [e1] at r5
    obtain ⟨p, xs, rfl, sp, r⟩ := r5.tuple s5.st.le
    exact ⟨p, xs, rfl, .inr ⟨by rw [F.K]; exact sp, k.part s5 r5 q⟩⟩
  · exact q.elim
theorem dc_listS (F : CxF X P) : DCall X P (.type "list") (fun rs Q => ∃ x, rs = [x] ∧ ∃ ds, (x.val = .list ds ∨ x.val = .tuple ds) ∧ Q (mkL x.soft ds)) := dcall1 (callr1' call_list_of) <| by
  intro ρ σ H0 G0 F0 H G F' x r1 L1 Q Q' s o1 n1 ⟨ds, e, q⟩ k
  rcases e with e1 | e1
  · obtain ⟨G5, s5, _, _, r5⟩ := norm1 s o1 (Rv.data_of (by rw [e1]; simp)) n1
    rw [e1] at r5
    obtain ⟨p, xs, rfl, sp, r⟩ := r5.list s5.st.le
    exact ⟨p, xs, rfl, .inl (.of sp), fun l n => k.lst s5 r q n⟩
  · obtain ⟨G5, s5, _, _, r5⟩ := norm1 s o1 (Rv.data_of (by rw [e1]; simp)) n1
    rw [e1] at r5
    obtain ⟨p, xs, rfl, sp, r⟩ := r5.tuple s5.st.le
    exact ⟨p, xs, rfl, .inr (by rw [F.K]; exact sp), fun l n => k.lst s5 r q n⟩
/-- the signs of a text -/
def signs (z : Str) : List PD := z.cps.toList.map fun c => .str ⟨#[c]⟩
theorem reps_strs {w : World} {K : PySem.W.Frag} : ∀ l : List Str, Reps w K H (l.map V.str) (l.map .str)
  | [] => .nil
  | _ :: r => .cons (.str _) (reps_strs r)
theorem vals_by : ∀ {xs : List V} {us : List Value}, xs.length = us.length → (∀ (i : Nat) x u, xs[i]? = some x → us[i]? = some u → RelV x u) → Vals xs us
  | [], [], _, _ => .nil
  | [], _ :: _, h, _ => by simp at h
  | _ :: _, [], h, _ => by simp at h
  | x :: xs, u :: us, h, k => .cons (k 0 x u rfl rfl) (vals_by (by simpa using h) fun i y v e1 e2 => k (i + 1) y v (by simpa using e1) (by simpa using e2))
theorem vals_signs {z : Str} {acc : Array Value} (h : ItemsOf (SignAt z) acc z.cps.size) : Vals ((z.cps.toList.map fun c => (⟨#[c]⟩ : Str)).map V.str) acc.toList := by
  obtain ⟨h1, h2⟩ := h
  refine vals_by (by simp [h1]) fun i x u e1 e2 => ?_
  obtain ⟨c, t, e3, rfl⟩ := h2 i u (by simpa using e2)
  rw [List.map_map, List.getElem?_map] at e1
  rw [Array.getElem?_toList, e3] at e1
  cases e1
  exact ⟨t, rfl⟩
theorem dc_listT (F : CxF X P) : DCall X P (.type "list") (fun rs Q => ∃ x, rs = [x] ∧ ∃ z, x.val = .str z ∧ z.length ≤ sizeLine ∧ Q (.fr (.ls ((signs z).map .lf)))) := dcall1 (r := fun x H Q => ∃ z, x = .str z ∧ z.length ≤ sizeLine ∧ ∀ p, H p = none → Q (.ref p) (upd H p (.lst ((z.cps.toList.map fun c => (⟨#[c]⟩ : Str)).map V.str))))
  (callr1 fun pins s σ H x v Q I rx ⟨z, e, hz, q⟩ => by
    subst e
    obtain ⟨t, rfl⟩ := rx
    refine call_list_str (I.ok.hd F.calm) z t (fun h' tk acc c hk e it => ?_) hz
    have hn : H s.heap.objs.size = none := I.hok.fresh (Nat.le_refl _)
    refine ⟨.ref s.heap.objs.size, _, I.laid (t' := tk) (o := .lst ((z.cps.toList.map fun c => (⟨#[c]⟩ : Str)).map V.str)) hk (Nat.le_refl _) ⟨?_, acc.toList, c, vals_signs it, ?_⟩, rfl, q _ hn⟩
    · simpa [Str.length] using hz
    · simpa using e) <| by
  intro ρ σ H0 G0 F0 H G F' x r1 L1 Q Q' s o1 n1 ⟨z, e, hz, q⟩ k
  refine ⟨z, o1.str s.st.le e, hz, fun p n => k.lst (b := false) (ds := signs z) s ?_ q n⟩
  unfold signs
  have h := reps_strs (H := G) (w := P.w) (K := P.K) (z.cps.toList.map fun c => (⟨#[c]⟩ : Str))
  have e : (z.cps.toList.map fun c => (⟨#[c]⟩ : Str)).map PyData.str = z.cps.toList.map fun c => PyData.str ⟨#[c]⟩ := by rw [List.map_map]; rfl
  rw [e] at h
  exact h
def bList (x : Rv) (Q : Rv → Prop) : Prop := match x.val with
  | .list ds => Q (mkL x.soft ds)
  | .tuple ds => Q (mkL x.soft ds)
  | .str z => z.length ≤ sizeLine ∧ Q (.fr (.ls ((signs z).map .lf)))
  | _ => False
theorem dc_list (F : CxF X P) : DCall X P (.type "list") (fun rs Q => ∃ x, rs = [x] ∧ bList x Q) := ((dc_listS F).or (dc_listT F)).imp fun rs Q ⟨x, e, h⟩ => by
  unfold bList at h
  split at h
  · rename_i e1; exact .inl ⟨x, e, _, .inl e1, h⟩
  · rename_i e1; exact .inl ⟨x, e, _, .inr e1, h⟩
  · rename_i e1; exact .inr ⟨x, e, _, e1, h⟩
  · exact h.elim
def intsOf : List PD → Option (List Int)
  | [] => some []
  | .int i :: r => (intsOf r).map (i :: ·)
  | _ :: _ => none
def boolsOf : List PD → Option (List Bool)
  | [] => some []
  | .bool i :: r => (boolsOf r).map (i :: ·)
  | _ :: _ => none
theorem intsOf_eq : ∀ {ds : List PD} {ns : List Int}, intsOf ds = some ns → ds = ns.map .int
  | [], ns, h => by cases h; rfl
  | .int i :: r, ns, h => by
    simp only [intsOf, Option.map_eq_some_iff] at h
    obtain ⟨m, h1, rfl⟩ := h
    rw [intsOf_eq h1]; rfl
  | .none :: _, _, h | .bool _ :: _, _, h | .str _ :: _, _, h | .list _ :: _, _, h | .tuple _ :: _, _, h | .dict _ :: _, _, h => by cases h
theorem boolsOf_eq : ∀ {ds : List PD} {ns : List Bool}, boolsOf ds = some ns → ds = ns.map .bool
  | [], ns, h => by cases h; rfl
  | .bool i :: r, ns, h => by
    simp only [boolsOf, Option.map_eq_some_iff] at h
    obtain ⟨m, h1, rfl⟩ := h
    rw [boolsOf_eq h1]; rfl
  | .none :: _, _, h | .int _ :: _, _, h | .str _ :: _, _, h | .list _ :: _, _, h | .tuple _ :: _, _, h | .dict _ :: _, _, h => by cases h
theorem intsOf_map : ∀ ns : List Int, intsOf (ns.map .int) = some ns
  | [] => rfl
  | n :: r => by simp [intsOf, intsOf_map r]
theorem reps_ints {w : World} {K : PySem.W.Frag} : ∀ {ns : List Int} {vs : List V}, Reps w K H vs (ns.map .int) → vs = ns.map V.int
  | [], _, h => by cases h; rfl
  | _ :: _, _, h => by cases h with | cons a b => cases a; rw [reps_ints b]; rfl
theorem reps_bools {w : World} {K : PySem.W.Frag} : ∀ {ns : List Bool} {vs : List V}, Reps w K H vs (ns.map .bool) → vs = ns.map V.bl
  | [], _, h => by cases h; rfl
  | _ :: _, _, h => by cases h with | cons a b => cases a; rw [reps_bools b]; rfl
abbrev bSum (x : Rv) (Q : Rv → Prop) : Prop := ∃ ds ns, x.val = .list ds ∧ intsOf ds = some ns ∧ Q (.cl (.int ns.sum))
abbrev bAll (x : Rv) (Q : Rv → Prop) : Prop := ∃ ds ns, x.val = .list ds ∧ boolsOf ds = some ns ∧ Q (.cl (.bool (ns.all id)))
theorem dc_sum (F : CxF X P) : DCall X P (.builtin "sum") (fun rs Q => ∃ x, rs = [x] ∧ bSum x Q) := dcall1 (callr1' (cr_sum F.calm)) <| by
  intro ρ σ H0 G0 F0 H G F' x r1 L1 Q Q' s o1 n1 ⟨ds, ns, e1, e2, q⟩ k
  have r := o1.rep (Rv.data_of (by rw [e1]; simp)) s.st.le
  rw [e1, intsOf_eq e2] at r
  cases r with
  | lst h r => rw [reps_ints r] at h; exact ⟨_, ns, rfl, .of h, k.val s (.int _) q⟩
theorem dc_all (F : CxF X P) : DCall X P (.builtin "all") (fun rs Q => ∃ x, rs = [x] ∧ bAll x Q) := dcall1 (callr1' (cr_all F.calm)) <| by
  intro ρ σ H0 G0 F0 H G F' x r1 L1 Q Q' s o1 n1 ⟨ds, ns, e1, e2, q⟩ k
  have r := o1.rep (Rv.data_of (by rw [e1]; simp)) s.st.le
  rw [e1, boolsOf_eq e2] at r
  cases r with
  | lst h r => rw [reps_bools r] at h; exact ⟨_, ns, rfl, .of h, k.val s (.bl _) q⟩
abbrev bAbs (x : Rv) (Q : Rv → Prop) : Prop := ∃ i : Int, x.val = .int i ∧ Q (.cl (.int (if i < 0 then -i else i)))
theorem dc_abs : DCall X P (.builtin "abs") (fun rs Q => ∃ x, rs = [x] ∧ bAbs x Q) := dcall1 (callr1' call_abs) <| by
  intro ρ σ H0 G0 F0 H G F' x r1 L1 Q Q' s o1 n1 ⟨i, e1, q⟩ k
  exact ⟨i, by rw [o1.int s.st.le e1], k.val s (.int _) q⟩
def bInt (x : Rv) (Q : Rv → Prop) : Prop := match x.val with
  | .int i => Q (.cl (.int i))
  | .bool b => Q (.cl (.int (if b then 1 else 0)))
  | .str z => z.length ≤ 640 ∧ ∃ n, PySem.intText? z = some n ∧ Q (.cl (.int n))
  | _ => False
theorem CallR.or {f : Value} {r r' : List V → Hp → VK → Prop} (h : CallR X f r) (h' : CallR X f r') : CallR X f (fun xs H Q => r xs H Q ∨ r' xs H Q) := by
  intro pins s σ H xs us Q I rv q
  rcases q with q | q
  · exact h pins s σ H xs us Q I rv q
  · exact h' pins s σ H xs us Q I rv q
theorem dc_int : DCall X P (.type "int") (fun rs Q => ∃ x, rs = [x] ∧ bInt x Q) := dcall1 (callr1' (CallR.or call_int1 call_int_str)) <| by
  intro ρ σ H0 G0 F0 H G F' x r1 L1 Q Q' s o1 n1 q k
  unfold bInt at q
  split at q
  · rename_i i e; exact .inl (.inl ⟨i, by rw [o1.int s.st.le e], k.val s (.int _) q⟩)
  · rename_i i e; exact .inl (.inr ⟨i, by rw [o1.bl s.st.le e], k.val s (.int _) q⟩)
  · rename_i z e; obtain ⟨hz, n, e2, q⟩ := q; exact .inr ⟨z, n, by rw [o1.str s.st.le e], e2, hz, k.val s (.int _) q⟩
  · exact q.elim
abbrev bMax2 (x y : Rv) (Q : Rv → Prop) : Prop := ∃ i j : Int, x.val = .int i ∧ y.val = .int j ∧ Q (.cl (.int (if j > i then j else i)))
theorem dc_max2 (F : CxF X P) : DCall X P (.builtin "max") (fun rs Q => ∃ x y, rs = [x, y] ∧ bMax2 x y Q) := dcall2 (callr2' (call_max2 F.calm)) <| by
  intro ρ σ H0 G0 F0 H G F x y r1 r2 L1 L2 Q Q' s o1 o2 n1 n2 dj ⟨i, j, e1, e2, q⟩ k
  exact ⟨i, j, by rw [o1.int s.st.le e1, o2.int s.st.le e2], k.val s (.int _) q⟩
/-- the base's own table of modules is no list -/
abbrev bRepr (x : Rv) (Q : Rv → Prop) : Prop := x.data = true ∧ x.val.showable = true ∧ x.val.hasDict = false ∧ x.val.depth ≤ 64 ∧ x.val.shown.length ≤ sizeLine ∧ Q (.cl (.str x.val.shown))
theorem dc_repr (F : CxF X P) : DCall X P (.builtin "repr") (fun rs Q => ∃ x, rs = [x] ∧ bRepr x Q) := dcall1 (r := fun x H Q => ∃ d : PD, Rep P.w P.K H x d ∧ d.showable = true ∧ d.hasDict = false ∧ d.depth ≤ 64 ∧ d.shown.length ≤ sizeLine ∧ Q (.str d.shown) H)
  (callr1 fun pins s σ H x v Q I rx ⟨d, r, h1, h2, h3, h4, q⟩ => by
    obtain ⟨as, rr⟩ := r.reads I F.K rx (noIns_show h1)
    have go : ∀ a, v = .ref a → wpAny (model X.prog X.w) X.A (call (.builtin "repr") [v]) (EP X pins σ Q) X.xe s := fun a e => by
      subst e
      exact repr_of_reads' rr h1 (fun z => by rw [h2] at z; cases z) F.gu (by have := F.un; omega) (fun _ _ e => e) (fun h' u tk hk => ⟨.str d.shown, H, I.kept (t' := tk) hk, ⟨u, rfl⟩, q⟩) h4
    cases r with
    | non => cases rx; exact PySem.P.repr_of_none ⟨.str _, H, I.tok _, ⟨_, rfl⟩, q⟩
    | bl b => cases rx; exact PySem.P.repr_of_bool ⟨.str _, H, I.tok _, ⟨_, by cases b <;> rfl⟩, q⟩
    | int i =>
      obtain ⟨t, rfl⟩ := rx
      exact PySem.P.repr_of_int (by simpa [PyData.showable] using h1) ⟨.str _, H, I.tok _, ⟨_, rfl⟩, q⟩
    | str z =>
      obtain ⟨t, rfl⟩ := rx
      exact PySem.P.repr_of_str ⟨.str _, H, I.tok _, ⟨_, rfl⟩, q⟩ h4
    | lst _ _ => cases rx; exact go _ rfl
    | tup _ _ => cases rx; exact go _ rfl
    | dct _ _ _ => rw [PyData.hasDict] at h2; cases h2
    | ins _ _ _ _ => rw [PyData.hasDict] at h2; cases h2) <| by
  intro ρ σ H0 G0 F0 H G F' x r1 L1 Q Q' s o1 n1 ⟨d, h1, h2, h3, h4, q⟩ k
  exact ⟨_, o1.rep d s.st.le, h1, h2, h3, h4, k.val s (.str _) q⟩
end Rz
namespace Rz
open PySem PySem.Spec PyProof.Rows L2
variable {X : Cx} {P : Par} {ρ : List SV} {σ : Sg} {H0 G0 H G G' : Hp} {F0 F : FP} {a b c e : Expr} {es : List Expr} {pos : Pos} {t t1 t2 t3 : TD} {ta : TDa}
def strIn (a b : Str) : Bool := !(Builtin.Str.occurrences b a 0 b.length 1).isEmpty
def inD (d : PD) (ds : List PD) : Bool := ds.any fun z => PyData.eqv z d
def oIn (neg : Bool) (x y : Rv) (Q : Rv → Prop) : Prop := x.data = true ∧ match x.val, y.val with
  | .str i, .str j => Q (.cl (.bool (strIn i j ^^ neg)))
  | d, .list ds => SeqAt.shaped d = true ∧ PyData.canLayAll0 ds = true ∧ Q (.cl (.bool (inD d ds ^^ neg)))
  | d, .tuple ds => SeqAt.shaped d = true ∧ PyData.canLayAll0 ds = true ∧ Q (.cl (.bool (inD d ds ^^ neg)))
  | _, _ => False
theorem op_inA (F : CxF X P) : OpR X (compareOp .In) (fun x y H Q => (∃ i j, x = .str i ∧ y = .str j ∧ Q (.bl (strIn i j)) H) ∨
    ∃ d ds, Rep P.w P.K H x d ∧ (Rep P.w P.K H y (.list ds) ∨ Rep P.w P.K H y (.tuple ds)) ∧ SeqAt.shaped d = true ∧ PyData.canLayAll0 ds = true ∧ Q (.bl (inD d ds)) H) := by
  intro pins s σ H x y v u Q I rx ry q
  rcases q with ⟨i, j, e1, e2, q⟩ | ⟨d, ds, r1, r2, h1, h2, q⟩
  · exact op_in_str pins s σ H x y v u Q I rx ry ⟨i, j, e1, e2, q⟩
  · obtain ⟨as, z1⟩ := r1.reads I F.K rx (noIns_lay (SeqAt.canLay_of_shaped h1))
    have hu : X.A.units + 65 < cLine := by have := F.un; omega
    rcases r2 with r2 | r2 <;> obtain ⟨bs, z2⟩ := r2.reads I F.K ry (by rw [noIns]; exact noInsAll_lay h2)
    · exact SeqAt.in_list_reads z2 z1 h2 (SeqAt.canLay_of_shaped h1) (room_in_shaped h1 hu) ⟨.bl _, H, I, rfl, q⟩
    · exact SeqAt.in_tuple_reads z2 z1 h2 (SeqAt.canLay_of_shaped h1) (room_in_shaped h1 hu) ⟨.bl _, H, I, rfl, q⟩
theorem binr_in {g : Bool → Bool} {neg : Bool} (hg : ∀ k, g k = (k ^^ neg)) : BinR P (oIn neg) (fun x y H Q => (∃ i j, x = .str i ∧ y = .str j ∧ Q (.bl (g (strIn i j))) H) ∨
    ∃ d ds, Rep P.w P.K H x d ∧ (Rep P.w P.K H y (.list ds) ∨ Rep P.w P.K H y (.tuple ds)) ∧ SeqAt.shaped d = true ∧ PyData.canLayAll0 ds = true ∧ Q (.bl (g (inD d ds))) H) := by
  intro ρ σ H0 G0 F0 H G F x y r1 r2 L1 L2 Q Q' s o1 o2 n1 n2 dj ⟨d1, q⟩ k
  split at q
  · rename_i i j e1 e2
    exact .inl ⟨i, j, o1.str s.st.le e1, o2.str s.st.le e2, by rw [hg]; exact k.val s (.bl _) q⟩
  · rename_i ds e2
    obtain ⟨h1, h2, q⟩ := q
    exact .inr ⟨_, ds, o1.rep d1 s.st.le, .inl (by have := o2.rep (Rv.data_of (by rw [e2]; simp)) s.st.le; rw [e2] at this; exact this), h1, h2, by rw [hg]; exact k.val s (.bl _) q⟩
  · rename_i ds e2
    obtain ⟨h1, h2, q⟩ := q
    exact .inr ⟨_, ds, o1.rep d1 s.st.le, .inr (by have := o2.rep (Rv.data_of (by rw [e2]; simp)) s.st.le; rw [e2] at this; exact this), h1, h2, by rw [hg]; exact k.val s (.bl _) q⟩
  · exact q.elim
theorem dop_in (F : CxF X P) : DOp X P (compareOp .In) (oIn false) := ⟨_, op_inA F, binr_in (g := id) fun k => by simp⟩
def tyName : PD → String
  | .none => "NoneType"
  | .bool _ => "bool"
  | .int _ => "int"
  | .str _ => "str"
  | .list _ => "list"
  | .tuple _ => "tuple"
  | .dict _ => "dict"
/-- whether data is of a built-in class -/
def isTy (T : String) (d : PD) : Bool := tyName d == T || (T == "int" && tyName d == "bool")
theorem kit_tab : (["NoneType", "bool", "int", "str", "list", "tuple", "dict"].all fun n => ["int", "bool", "str", "list", "tuple"].all fun T => kitB n T == some (n == T || (T == "int" && n == "bool"))) = true := by decide +kernel
theorem kit_isTy {K : PySem.W.Frag} {T : String} (h : isiOk T = true) (d : PD) : PySem.W.kitOne K (.type (tyName d)) (.type T) = some (isTy T d) := by
  have h1 := List.all_eq_true.mp kit_tab (tyName d) (by cases d <;> simp [tyName])
  have h2 := List.all_eq_true.mp h1 T (by simpa [isiOk] using h)
  exact kit_ty (eq_of_beq h2)
theorem isTy_dict {T : String} (h : isiOk T = true) {kvs : List (PD × PD)} : isTy T (.dict kvs) = false := by
  have t : (["int", "bool", "str", "list", "tuple"].all fun T => !(("dict" == T) || (T == "int" && "dict" == "bool"))) = true := by decide +kernel
  have := List.all_eq_true.mp t T (by simpa [isiOk] using h)
  simpa [isTy, tyName] using this
abbrev bIsi (T : String) (x : Rv) (Q : Rv → Prop) : Prop := x.data = true ∧ Q (.cl (.bool (isTy T x.val)))
theorem tyX_of {K : PySem.W.Frag} {w : World} {x : V} {d : PD} (r : Rep w K H x d) (nd : ∀ kvs, d ≠ .dict kvs) : TyX K H x (.type (tyName d)) := by
  cases r with
  | non => exact .base .non
  | bl b => exact .base (.bl b)
  | int i => exact .base (.int i)
  | str z => exact .base (.str z)
  | lst e _ => exact .base (.lst e)
  | tup e _ =>
    rcases e with (e | ⟨o, e⟩) | ⟨o, its, n, e, c, _⟩
    · exact .base (.tup e)
    · exact .fTuple e
    · exact .kTuple e c
  | dct _ _ _ => exact absurd rfl (nd _)
  | ins _ _ _ _ => exact absurd rfl (nd _)
theorem rk_isi (F : CxF X P) {T : String} (h : isiOk T = true) : CallR X (.builtin "isinstance") (fun xs H Q => ∃ x d, xs = [x, .ty T] ∧ Rep P.w P.K H x d ∧ Q (.bl (isTy T d)) H) := by
  intro pins s σ H xs us Q I rv ⟨x, d, e, r, q⟩
  subst e
  by_cases nd : ∀ kvs, d ≠ .dict kvs
  · exact call_isi pins s σ H _ us Q I rv ⟨x, .ty T, _, _, _, rfl, .ty T, by rw [F.K]; exact tyX_of r nd, kit_isTy h d, q⟩
  · obtain ⟨kvs, rfl⟩ : ∃ kvs, d = .dict kvs := by
      cases d <;> first | exact ⟨_, rfl⟩ | (exfalso; apply nd; intro kvs z; cases z)
    obtain ⟨u1, u2, rfl, r1, r2⟩ := vals2 rv
    cases (show u2 = Value.type T from r2)
    cases r with
    | dct e _ _ =>
      cases r1
      obtain ⟨⟨_, _, o, ho, hx, hd⟩, _⟩ := I.hok _ _ e
      exact PySem.W.kia_one PySem.W.kitx_dict I.kIn ⟨o, ho, hx.1⟩ (kit_isTy (K := X.K) h (.dict kvs)) (fun z => nomatch z) fun tk => ⟨.bl _, H, I.tok tk, rfl, q⟩
    | ins e1 e2 ic _ =>
      rw [isTy_dict h] at q
      rw [← F.K] at ic
      exact isinst_ok I r1 (ic.ty _ _ _ _ e1) (ic.no T h) fun tk => ⟨.bl _, H, I.tok tk, rfl, q⟩
/-- isinstance(e, T) -/
theorem je_isi (F : CxF X P) {T : String} {x : Str} {p p2 : Pos} {y : Str} (h : isiOk T = true) (hx : x = "isinstance") (hg : Gl X x) (hm : X.mg x = none) (hgT : Gl X y) (hmT : X.mg y = none) (hvT : bootBuiltins y = some (.type T)) (hy : (y == ("__debug__" : Str)) = false) (hyn : y ≠ "__name__")
    (ha : JE X P e t) (he : starEach [e, .Name y p2] X.env = (false, eval e X.env) :: starEach [.Name y p2] X.env) (hpl : (backTo pos (starEach [.Name y p2] X.env)).any (·.1) = false) :
    JE X P (.Call (.Name x p) [e, .Name y p2] [] pos) (fun ρ Q => t ρ fun r => bIsi T r Q) := by
  subst hx
  refine pe_imp (pe_callB (rk_isi F h) hg hm (by decide +kernel) (pa_cons ha (pa_cons (pe_bltn hgT hmT hvT (v := .ty T) rfl hyn hy) pa_nil) he) (by decide) (by decide) he hpl) fun σ H Q' h => ?_
  obtain ⟨ρ, G, F, Q, S, ht, k⟩ := h
  refine ⟨ρ, G, F, _, S, ht, fun x r1 H1 G1 F1 L1 s1 o1 n1 q1 => ?_⟩
  obtain ⟨d, q⟩ := q1
  exact ⟨x, _, rfl, o1.rep d s1.st.le, k.val s1 (.bl _) q⟩
def sortOk (ds : List PD) : Prop := PySem.W.AllAlike ds ∧ PySem.W.Sortable ds ∧ ∀ d ∈ ds, d.depth ≤ 16
def sortD (ds : List PD) : List PD := ds.mergeSort (PySem.W.dataLe false id)
theorem each_of {A B : Type} {R : A → B → Prop} : ∀ {as : List A} {bs : List B}, as.length = bs.length → (∀ (i : Nat) a b, as[i]? = some a → bs[i]? = some b → R a b) → PySem.W.EachIs R as bs
  | [], [], _, _ => .nil
  | [], _ :: _, h, _ => by simp at h
  | _ :: _, [], h, _ => by simp at h
  | x :: xs, y :: ys, h, k => .cons (k 0 x y rfl rfl) (each_of (by simpa using h) fun i a b e1 e2 => k (i + 1) a b (by simpa using e1) (by simpa using e2))
theorem rk_sorted (F : CxF X P) : CallR X (.builtin "sorted") (fun xs H Q => ∃ a vs ds, xs = [.ref a] ∧ H a = some (.lst vs) ∧ vs.length = ds.length ∧ Reps P.w P.K H vs ds ∧ sortOk ds ∧ ∀ p (us : List V), H p = none → us = ((vs.zip ds).mergeSort (PySem.W.dataLe false Prod.snd)).map Prod.fst → Q (.ref p) (upd H p (.lst us))) := by
  intro pins s σ H xs us Q I rv ⟨a, vs, ds, e, ha, hl, r, ⟨h1, h2, h3⟩, q⟩
  subst e
  obtain ⟨u, rfl, ru⟩ := vals1 rv
  cases ru
  obtain ⟨its, rvs, pl, hz⟩ := I.list (.of ha)
  obtain ⟨as, rr⟩ := r.reads I F.K rvs (noInsAll_iff.mpr fun d m => noIns_alike (h1 d m d m))
  have lv := rvs.length
  have em : (vs.zip ds).map Prod.snd = ds := by rw [List.map_snd_zip]; omega
  have e1 : PySem.W.EachIs (fun u (b : V × PD) => RelV b.1 u) its (vs.zip ds) := each_of (by rw [List.length_zip]; omega) fun i u b e1 e2 => by
    rw [List.getElem?_zip_eq_some] at e2
    obtain ⟨u', e3, r3⟩ := rvs.get e2.1
    rw [e1] at e3; cases e3; exact r3
  have e2 : PySem.W.EachIs (fun v (b : V × PD) => ∃ as, Reads s.heap v b.2 as) its (vs.zip ds) := PySem.W.readsAll_each Prod.snd (by rw [em]; exact rr)
  refine PySem.W.sorted_data (enc := Prod.snd) pl.isList e1 e2 (by rw [em]; exact h1) (by rw [em]; exact h2) (by rw [List.length_zip]; omega) (fun b m => ?_) fun out ho hs => ?_
  · have m' : b.2 ∈ ds := by rw [← em]; exact List.mem_map_of_mem m
    have := h3 _ m'
    have := F.un
    omega
  · have hn : H (s.heap.objs.size + 1) = none := I.hok.fresh (Nat.le_succ _)
    obtain ⟨ep, ea⟩ := sortedAll_at s.heap its out.toArray
    have hv : Vals (((vs.zip ds).mergeSort (PySem.W.dataLe false Prod.snd)).map Prod.fst) out := by
      refine vals_by (by rw [List.length_map, List.length_mergeSort]; rw [ho]) fun i x u e3 e4 => ?_
      rw [List.getElem?_map] at e3
      obtain ⟨b, e5, rfl⟩ := Option.map_eq_some_iff.mp e3
      exact hs.zip (u, b) (by
        obtain ⟨j1, g1⟩ := List.getElem?_eq_some_iff.mp e4
        obtain ⟨j2, g2⟩ := List.getElem?_eq_some_iff.mp e5
        refine List.mem_iff_getElem?.mpr ⟨i, ?_⟩
        rw [List.getElem?_zip_eq_some]
        exact ⟨e4, e5⟩)
    refine ⟨.ref (s.heap.objs.size + 1), _, I.laid (t' := s.toks) (o := .lst (((vs.zip ds).mergeSort (PySem.W.dataLe false Prod.snd)).map Prod.fst)) (fun _ _ => sortedAll_old) (Nat.le_succ _) ⟨?_, out, ep, hv, ea⟩, rfl, q _ _ hn rfl⟩
    rw [List.length_map, List.length_mergeSort, List.length_zip]
    omega
theorem Src.sorted {bb : Bool} {vs : List V} {ds : List PD} (h : Src P ρ H G F bb vs ds) : Src P ρ H G F bb (((vs.zip ds).mergeSort (PySem.W.dataLe false Prod.snd)).map Prod.fst) (sortD ds) := by
  have l := h.len
  have em : (vs.zip ds).map Prod.snd = ds := by rw [List.map_snd_zip]; omega
  have es : sortD ds = ((vs.zip ds).mergeSort (PySem.W.dataLe false Prod.snd)).map Prod.snd := by
    have z := PySem.W.sort_maps (r := PySem.W.dataLe false Prod.snd) (s := PySem.W.dataLe false id) (l := vs.zip ds) Prod.snd (fun a _ b _ => rfl)
    rw [em] at z
    exact z.symm
  rw [es]
  have all : ∀ {w : World} {K : PySem.W.Frag} {Hd : Hp}, Reps w K Hd vs ds → ∀ zs : List (V × PD), (∀ z ∈ zs, z ∈ vs.zip ds) → Reps w K Hd (zs.map Prod.fst) (zs.map Prod.snd) := by
    intro w K Hd r zs
    induction zs with
    | nil => intro _; exact .nil
    | cons z zs ih =>
      intro hm
      refine .cons ?_ (ih fun x m => hm x (List.mem_cons_of_mem _ m))
      obtain ⟨i, hi⟩ := List.mem_iff_getElem?.mp (hm z List.mem_cons_self)
      rw [List.getElem?_zip_eq_some] at hi
      obtain ⟨v, e1, r1⟩ := r.get hi.2
      rw [hi.1] at e1; cases e1; exact r1
  have mm : ∀ z ∈ (vs.zip ds).mergeSort (PySem.W.dataLe false Prod.snd), z ∈ vs.zip ds := fun z m => List.mem_mergeSort.mp m
  cases bb with
  | false => exact all h _ mm
  | true => obtain ⟨Hd, l1, n, r⟩ := h; exact ⟨Hd, l1, n, all r _ mm⟩
def bSorted (x : Rv) (Q : Rv → Prop) : Prop := ∃ ds, x.val = .list ds ∧ sortOk ds ∧ Q (mkL x.soft (sortD ds))
theorem dc_sorted (F : CxF X P) : DCall X P (.builtin "sorted") (fun rs Q => ∃ x, rs = [x] ∧ bSorted x Q) := dcall1 (callr1' (rk_sorted F)) <| by
  intro ρ σ H0 G0 F0 H G F' x r1 L1 Q Q' s o1 n1 ⟨ds, e1, h, q⟩ k
  obtain ⟨G5, s5, _, _, r5⟩ := norm1 s o1 (Rv.data_of (by rw [e1]; simp)) n1
  rw [e1] at r5
  obtain ⟨p, xs, rfl, sp, r⟩ := r5.list s5.st.le
  refine ⟨p, xs, ds, rfl, sp, r.len, r.rep s5.st.le, h, fun p us n e => ?_⟩
  subst e
  exact k.lst s5 r.sorted q n
end Rz
namespace Rz
open PySem PySem.Spec PyProof.Rows L2
variable {X : Cx} {P : Par} {ρ ρ' ρ1 ρ2 : List SV} {σ σ' σ1 σ2 : Sg} {H0 G0 H G G' H' : Hp} {F0 F F' F1 F2 : FP} {a b c e : Expr} {es : List Expr} {pos : Pos} {t t1 t2 t3 : TD} {ta : TDa}
inductive Pat where
  | nm (i : Nat)
  | tp (ps : List Pat)
def slotFree (ρ : List SV) (i : Nat) : Bool := match ρ[i]? with
  | some .wl => false
  | some _ => true
  | none => false
mutual
def bindP : Pat → PD → List SV → Option (List SV)
  | .nm i, d, ρ => if slotFree ρ i then some (ρ.set i (.sh d)) else none
  | .tp ps, .tuple ds, ρ => bindPs ps ds ρ
  | .tp ps, .list ds, ρ => bindPs ps ds ρ
  | .tp _, _, _ => none
def bindPs : List Pat → List PD → List SV → Option (List SV)
  | [], [], ρ => some ρ
  | p :: ps, d :: ds, ρ => (bindP p d ρ).bind (bindPs ps ds)
  | _, _, _ => none
end
mutual
def Pat.slots : Pat → List Nat
  | .nm i => [i]
  | .tp ps => Pat.slotsAll ps
def Pat.slotsAll : List Pat → List Nat
  | [] => []
  | p :: ps => p.slots ++ Pat.slotsAll ps
end
structure Bound (P : Par) (ρ ρ' : List SV) (σ σ' : Sg) (F F' : FP) (sl : List Nat) (H G : Hp) : Prop where
  st : StOk P ρ' σ' H G F'
  sub : ∀ j a, a ∈ F' j → a ∈ F j
  len : σ'.length = σ.length
  rlen : ρ'.length = ρ.length
  same : ∀ j : Nat, j ∉ sl → σ'[j]? = σ[j]? ∧ ρ'[j]? = ρ[j]?
  wls : ∀ j : Nat, ρ[j]? = some .wl → ρ'[j]? = some .wl ∧ σ'[j]? = σ[j]?
  isSh : ∀ j ∈ sl, ∃ d, ρ'[j]? = some (.sh d)
theorem Bound.refl (S : StOk P ρ σ H G F) : Bound P ρ ρ σ σ F F [] H G := ⟨S, fun _ _ m => m, rfl, rfl, fun _ _ => ⟨rfl, rfl⟩, fun _ e => ⟨e, rfl⟩, fun _ m => nomatch m⟩
theorem Bound.trans {s1 s2 : List Nat} (a : Bound P ρ ρ1 σ σ1 F F1 s1 H G) (b : Bound P ρ1 ρ2 σ1 σ2 F1 F2 s2 H G) : Bound P ρ ρ2 σ σ2 F F2 (s1 ++ s2) H G where
  st := b.st
  sub := fun j x m => a.sub j x (b.sub j x m)
  len := b.len.trans a.len
  rlen := b.rlen.trans a.rlen
  same := fun j n => by
    rw [List.mem_append, not_or] at n
    obtain ⟨h1, h2⟩ := a.same j n.1
    obtain ⟨h3, h4⟩ := b.same j n.2
    exact ⟨h3.trans h1, h4.trans h2⟩
  wls := fun j e => by
    obtain ⟨h1, h2⟩ := a.wls j e
    obtain ⟨h3, h4⟩ := b.wls j h1
    exact ⟨h3, h4.trans h2⟩
  isSh := fun j m => by
    by_cases m2 : j ∈ s2
    · exact b.isSh j m2
    · rw [(b.same j m2).2]; exact a.isSh j ((List.mem_append.mp m).resolve_right m2)
/-- a slot's footprint exchanged -/
def updF (F : FP) (i : Nat) (L : List Addr) : FP := fun j => if j = i then L else F j
theorem updF_same {i : Nat} {L : List Addr} : updF F i L i = L := if_pos rfl
theorem updF_ne {i j : Nat} {L : List Addr} (h : j ≠ i) : updF F i L j = F j := if_neg h
theorem slotFree_lt {i : Nat} (h : slotFree ρ i = true) : i < ρ.length ∧ ρ[i]? ≠ some .wl := by
  unfold slotFree at h
  split at h
  · cases h
  · rename_i sv hn e
    exact ⟨(List.getElem?_eq_some_iff.mp e).1, fun z => by rw [e] at z; cases z; exact hn rfl⟩
  · cases h
theorem StS.set0 {i : Nat} {sv : SV} {x : Option V} (h : slotFree ρ i = true) : StS ρ σ H G F (ρ.set i sv) (σ.set i x) H G (updF F i []) :=
  ⟨.refl _, fun _ e => e, fun _ _ e _ => e, fun _ _ _ e => e, fun j a m => .inl (by
    by_cases hj : j = i
    · rw [hj, updF_same] at m; cases m
    · rw [updF_ne hj] at m; exact m), fun j e => by
    have n' : i ≠ j := fun z => (slotFree_lt h).2 (z ▸ e)
    exact ⟨(List.getElem?_set_ne n').trans e, List.getElem?_set_ne n'⟩⟩
/-- a slot is set -/
theorem StOk.set (S : StOk P ρ σ H G F) {i : Nat} {sv : SV} {v : V} {L : List Addr} (h : slotFree ρ i = true) (ok : SlotOk P H G sv (some (some v)) L) (nd : L.Nodup) (off : ∀ a ∈ L, G a = none ∧ ¬ inF F a) (er : P.At (ρ.set i sv) (σ.set i (some v)) H G (updF F i L)) :
    StOk P (ρ.set i sv) (σ.set i (some v)) H G (updF F i L) where
  le := S.le
  slot := fun j sv' e => by
    have hi := (slotFree_lt h).1
    by_cases hj : j = i
    · subst hj
      rw [List.getElem?_set_self hi] at e
      cases e
      rw [List.getElem?_set_self (Nat.lt_of_lt_of_le hi S.len), updF_same]
      exact ok
    · rw [List.getElem?_set_ne (Ne.symm hj)] at e
      rw [List.getElem?_set_ne (Ne.symm hj), updF_ne hj]
      exact S.slot j sv' e
  out := fun j e => by
    have hi := (slotFree_lt h).1
    by_cases hj : j = i
    · subst hj; rw [List.getElem?_set_self hi] at e; cases e
    · rw [List.getElem?_set_ne (Ne.symm hj)] at e
      rw [updF_ne hj]; exact S.out j e
  nd := fun j => by
    by_cases hj : j = i
    · subst hj; rw [updF_same]; exact nd
    · rw [updF_ne hj]; exact S.nd j
  dj := fun j k a m m' => by
    by_cases hj : j = i
    · by_cases hk : k = i
      · rw [hj, hk]
      · rw [hj, updF_same] at m
        rw [updF_ne hk] at m'
        exact absurd ⟨k, m'⟩ (off a m).2
    · by_cases hk : k = i
      · rw [hk, updF_same] at m'
        rw [updF_ne hj] at m
        exact absurd ⟨j, m⟩ (off a m').2
      · rw [updF_ne hj] at m
        rw [updF_ne hk] at m'
        exact S.dj j k a m m'
  off := fun j a m => by
    by_cases hj : j = i
    · rw [hj, updF_same] at m; exact (off a m).1
    · rw [updF_ne hj] at m; exact S.off j a m
  len := by rw [List.length_set, List.length_set]; exact S.len
  er := er
theorem bound_nm (S : StOk P ρ σ H G F) {i : Nat} {d : PD} {v : V} (h : slotFree ρ i = true) (r : Rep P.w P.K G v d) : Bound P ρ (ρ.set i (.sh d)) σ (σ.set i (some v)) F (updF F i []) [i] H G where
  st := S.set h ⟨⟨v, rfl, r⟩, rfl⟩ List.nodup_nil (fun _ m => nomatch m) (S.er.step (.set0 h))
  sub := fun j a m => by
    by_cases hj : j = i
    · rw [hj, updF_same] at m; cases m
    · rw [updF_ne hj] at m; exact m
  len := List.length_set
  rlen := List.length_set
  same := fun j n => by
    have n' : i ≠ j := fun e => n (by simp [e])
    exact ⟨List.getElem?_set_ne n', List.getElem?_set_ne n'⟩
  wls := fun j e => by
    have n' : i ≠ j := fun z => (slotFree_lt h).2 (z ▸ e)
    exact ⟨(List.getElem?_set_ne n').trans e, List.getElem?_set_ne n'⟩
  isSh := fun j m => by
    rw [List.mem_singleton.mp m]
    exact ⟨d, List.getElem?_set_self (slotFree_lt h).1⟩
def GP (P : Par) (pat : Pat) : TG := fun v σ H Q' => ∃ ρ G F d ρ', StOk P ρ σ H G F ∧ Rep P.w P.K G v d ∧ bindP pat d ρ = some ρ' ∧ ∀ σ' F', Bound P ρ ρ' σ σ' F F' pat.slots H G → Q' σ' H
def GPs (P : Par) (ps : List Pat) : TGs := fun vs σ H Q' => ∃ ρ G F ds ρ', StOk P ρ σ H G F ∧ Reps P.w P.K G vs ds ∧ bindPs ps ds ρ = some ρ' ∧ ∀ σ' F', Bound P ρ ρ' σ σ' F F' (Pat.slotsAll ps) H G → Q' σ' H
theorem pg_imp {t t' : TG} (h : PG X e t) (i : ∀ v σ H Q, t' v σ H Q → t v σ H Q) : PG X e t' := ⟨fun pins s σ H v u Q I r w => h.run pins s σ H v u Q I r (i _ _ _ _ w)⟩
theorem pgs_imp {t t' : TGs} (h : PGs X es t) (i : ∀ v σ H Q, t' v σ H Q → t v σ H Q) : PGs X es t' := ⟨fun pins s σ H v u Q I r w => h.run pins s σ H v u Q I r (i _ _ _ _ w)⟩
theorem jg_nm {i : Nat} {x : Str} (hN : X.N.Nodup) (hi : X.N[i]? = some x) (hx : Loc X.env.scope x) (hf : X.fn x = true ∨ X.env.scope.names.lookup x = some .local) : PG X (.Name x pos) (GP P (.nm i)) := by
  refine pg_imp (pg_name hN hi hx hf) fun v σ H Q' h => ?_
  obtain ⟨ρ, G, F, d, ρ', S, r, e, k⟩ := h
  rw [bindP] at e
  split at e
  · rename_i hs
    cases e
    exact k _ _ (bound_nm S hs r)
  · cases e
theorem jgs_nil : PGs X [] (GPs P []) := by
  refine pgs_imp pgs_nil fun vs σ H Q' h => ?_
  obtain ⟨ρ, G, F, ds, ρ', S, r, e, k⟩ := h
  cases ds with
  | nil => cases r; cases e; exact ⟨rfl, k _ _ (.refl S)⟩
  | cons d ds => cases e
theorem jgs_cons {p : Pat} {ps : List Pat} (h1 : PG X e (GP P p)) (h2 : PGs X es (GPs P ps)) (hs : (assignEach (e :: es) X.env).map (·.2) = assign e X.env :: (assignEach es X.env).map (·.2)) : PGs X (e :: es) (GPs P (p :: ps)) := by
  refine pgs_imp (pgs_cons h1 h2 hs) fun vs σ H Q' h => ?_
  obtain ⟨ρ, G, F, ds, ρ', S, r, e, k⟩ := h
  cases ds with
  | nil => cases e
  | cons d ds =>
    cases r with
    | cons r1 r2 =>
      rw [bindPs] at e
      obtain ⟨ρ1, e1, e2⟩ := Option.bind_eq_some_iff.mp e
      refine ⟨_, _, rfl, ρ, G, F, d, ρ1, S, r1, e1, fun σ1 F1 B1 => ⟨ρ1, G, F1, ds, ρ', B1.st, r2, e2, fun σ2 F2 B2 => k σ2 F2 ?_⟩⟩
      rw [Pat.slotsAll]
      exact B1.trans B2
/-- (a, b, ..) = a list of that length -/
def gLst (n : Nat) (t : TGs) : TG := fun v σ H Q => ∃ a xs, v = .ref a ∧ H a = some (.lst xs) ∧ xs.length = n ∧ t xs σ H Q
def gAlt (t u : TG) : TG := fun v σ H Q => t v σ H Q ∨ u v σ H Q
theorem pg_alt {t u : TG} (h1 : PG X e t) (h2 : PG X e u) : PG X e (gAlt t u) := ⟨fun pins s σ H v u Q I r hw => hw.elim (h1.run pins s σ H v u Q I r) (h2.run pins s σ H v u Q I r)⟩
theorem pg_lstT {k : Nat} {t : TGs} {n : Nat} (hc : X.calm = true) (h : PGs X es t) (hn : (assignEach es X.env).length = n) (hst : (assignEach es X.env).findIdx? (·.1) = none) : PG X (.Tuple es k pos) (gLst n t) := by
  refine ⟨fun pins s σ H v u Q I r hw => ?_⟩
  obtain ⟨a, xs, e1, hq, hl, hw⟩ := hw
  subst e1
  cases r
  obtain ⟨its, rv, ht, hz⟩ := I.list (.of hq)
  rw [assign_Tuple]
  refine wpAny_bind (wpAny_standAt ?_)
  unfold unpack
  have hz : (assignEach es X.env).length = its.toArray.size := by simp [hn, ← hl, rv.length]
  rw [hz, hst]
  refine wpAny_bind (wpAny_holding (PySem.W.kun_itemsOf (I.ok.hd hc) ht.isList fun h' hx => ?_))
  have I1 : Inv X pins σ H { s with heap := h' } := I.kept (t' := s.toks) fun b o e => hx b o (Nat.ne_of_lt (Heap.lt_size e)) e
  exact h.run pins _ σ H xs _ Q I1 (by simpa using rv) hw
theorem binds_len {ρ' : List SV} : ∀ (ps : List Pat) (ds : List PD) (ρ : List SV), bindPs ps ds ρ = some ρ' → ds.length = ps.length := by
  intro ps
  induction ps with
  | nil => intro ds ρ e; cases ds with | nil => rfl | cons _ _ => cases e
  | cons p ps ih =>
    intro ds ρ e
    cases ds with
    | nil => cases e
    | cons d ds =>
      rw [bindPs] at e
      obtain ⟨ρ1, _, e2⟩ := Option.bind_eq_some_iff.mp e
      simp [ih ds ρ1 e2]
theorem jg_tp {k : Nat} {ps : List Pat} (C : CxF X P) (h : PGs X es (GPs P ps)) (hn : (assignEach es X.env).length = ps.length) (hst : (assignEach es X.env).findIdx? (·.1) = none) : PG X (.Tuple es k pos) (GP P (.tp ps)) := by
  refine pg_imp (pg_alt (pg_tup C.calm h hn hst) (pg_lstT C.calm h hn hst)) fun v σ H Q' h => ?_
  obtain ⟨ρ, G, F, d, ρ', S, r, e, k⟩ := h
  cases d with
  | tuple ds =>
    rw [bindP] at e
    cases r with
    | tup sq r =>
      refine .inl ⟨_, _, rfl, by rw [C.K]; exact S.le.sqT sq, ?_, ρ, G, F, ds, ρ', S, r, e, fun σ' F' B => k σ' F' (by rw [Pat.slots]; exact B)⟩
      rw [r.length]
      exact binds_len ps ds ρ e
  | list ds =>
    rw [bindP] at e
    cases r with
    | lst hl r =>
      refine .inr ⟨_, _, rfl, S.le _ _ hl, ?_, ρ, G, F, ds, ρ', S, r, e, fun σ' F' B => k σ' F' (by rw [Pat.slots]; exact B)⟩
      rw [r.length]
      exact binds_len ps ds ρ e
  | _ => cases e
structure ItOk (P : Par) (J : It) (Hd : Hp) (ds : List PD) : Prop where
  go : ∀ i H, Le Hd H → i < ds.length → J.go i H
  stop : ∀ H, Le Hd H → J.stop ds.length H
  yld : ∀ i H x H' d, Le Hd H → ds[i]? = some d → J.yld i H x H' → (H' = H ∧ Rep P.w P.K Hd x d) ∨ ∃ T xs es, x = .ref T ∧ H T = none ∧ H' = upd H T (.tup xs) ∧ d = .tuple es ∧ Reps P.w P.K Hd xs es
/-- what is walked gives its items; the bool tells whether it may be a list of one's own -/
abbrev TDi := List SV → (Bool → List PD → Prop) → Prop
def TIof (P : Par) (it : TDi) : TI := fun σ H R' => ∃ ρ G F Q, StOk P ρ σ H G F ∧ it ρ Q ∧
  ∀ J b ds H' G' F' Hd, Sit P ρ σ H G F H' G' F' → Le Hd H' → (∀ a, Hd a ≠ none → ¬ inW ρ F' a) → (b = false → Le Hd G') → ItOk P J Hd ds → Q b ds → R' J H'
theorem pi_imp {tg iter : Expr} {t t' : TI} (h : PI X tg iter t) (i : ∀ σ H Q, t' σ H Q → t σ H Q) : PI X tg iter t' := ⟨fun pins s σ H R I w => h.run pins s σ H R I (i _ _ _ w)⟩
inductive SK where
  | l
  | t
def SqK (k : SK) (K : PySem.W.Frag) (H : Hp) (a : Addr) (xs : List V) : Prop := match k with
  | .l => H a = some (.lst xs)
  | .t => SqT K H a xs
def IsSq (k : SK) (h : Heap) (a : Addr) (its : Array Value) : Prop := match k with
  | .l => h.IsList a its
  | .t => h.IsTuple a its
def ItAt (k : SK) (h : Heap) (it a : Addr) (i : Nat) : Prop := match k with
  | .l => h.IsListIter it a i
  | .t => h.IsTupleIter it a i
def itObj (k : SK) (a : Addr) : Obj := match k with
  | .l => { cls := .type "list_iterator", data := .fields #[.ref a, .int 0 0] }
  | .t => { cls := .type "tuple_iterator", data := .fields #[.ref a, .int 0 0] }
theorem SqK.mono {k : SK} {K : PySem.W.Frag} {xs : List V} {p : Addr} (l : Le H H') (h : SqK k K H p xs) : SqK k K H' p xs := by
  cases k with
  | l => exact l _ _ h
  | t => exact l.sqT h
theorem Inv.sqk {pins : List (Addr × Obj)} {s : Shared} {k : SK} {p : Addr} {xs : List V} (I : Inv X pins σ H s) (h : SqK k X.K H p xs) : ∃ its : List Value, Vals xs its ∧ IsSq k s.heap p its.toArray ∧ p < s.heap.objs.size := by
  cases k with
  | l => obtain ⟨its, rv, pl, _⟩ := I.list (.of h); exact ⟨its, rv, pl.isList, pl.lt⟩
  | t => obtain ⟨its, rv, pl, _⟩ := I.tuple h; obtain ⟨o, ho, _⟩ := id pl; exact ⟨its, rv, pl, Heap.lt_size ho⟩
theorem Inv.sqk_inj {pins : List (Addr × Obj)} {s : Shared} {k : SK} {p : Addr} {xs ys : List V} (I : Inv X pins σ H s) (h : SqK k X.K H p xs) (g : SqK k X.K H p ys) : xs = ys := by
  cases k with
  | l => exact I.list_inj (.of h) (.of g)
  | t => exact I.tuple_inj h g
theorem beginsK {k : SK} {p : Addr} {its : Array Value} : PySem.Begins (.ref p) (itObj k p) fun h => IsSq k h p its := by
  cases k with
  | l => exact PySem.begins_list p its
  | t => exact PySem.begins_tuple p its
theorem itAt0 {k : SK} {h : Heap} {it p : Addr} (e : h.get? it = some (itObj k p)) : ItAt k h it p 0 := by
  cases k with
  | l => exact ⟨_, e, rfl, rfl⟩
  | t => exact ⟨_, e, rfl, rfl⟩
theorem drawsK {prog : Program} {w : World} {A : Around} {k : SK} (hh : A.handled = none) (it p : Addr) (hne : p ≠ it) (its : Array Value) :
    PySem.Draws prog w A it [it, p] its.size (fun i v => its[i]? = some v) (fun i h => ItAt k h it p i ∧ IsSq k h p its) := by
  cases k with
  | l => exact PySem.Draws.list hh it p hne its
  | t => exact PySem.Draws.tuple hh it p hne its
theorem ItAt.obj {k : SK} {h : Heap} {it p : Addr} {i : Nat} (st : ItAt k h it p i) : ∃ o, h.get? it = some o ∧ ∀ v, o.data ≠ .cell v := by
  cases k with
  | l => obtain ⟨o, e, c, d⟩ := st; exact ⟨o, e, fun v z => by rw [d] at z; cases z⟩
  | t => obtain ⟨o, e, c, d⟩ := st; exact ⟨o, e, fun v z => by rw [d] at z; cases z⟩
theorem ItAt.keep {k : SK} {h h' : Heap} {it p : Addr} {i : Nat} (st : ItAt k h it p i) (e : ∀ o, h.get? it = some o → h'.get? it = some o) : ItAt k h' it p i := by
  cases k with
  | l => exact Heap.IsListIter.at st e
  | t => exact Heap.IsTupleIter.at st e
/-- the items in new pairs with their numbers -/
def ItE (k : SK) (K : PySem.W.Frag) (a : Addr) (k0 : Int) : It :=
  ⟨fun i H => ∃ (xs : List V), SqK k K H a xs ∧ i < xs.length, fun i H v H' => ∃ T x, v = .ref T ∧ H T = none ∧ H' = upd H T (.tup [.int (k0 + (i : Nat)), x]) ∧ ∀ xs, SqK k K H a xs → xs[i]? = some x, fun i H => ∃ xs : List V, SqK k K H a xs ∧ xs.length = i⟩
theorem turn_enumK {Pg : Program} {w : World} {K : PySem.W.Frag} {elts : List Expr} {kk : Nat} {tpos : Pos} {k : SK} {k0 : Int} (p e it : Addr) (hne : e ≠ it) (hpe : p ≠ e) (hpi : p ≠ it) :
    Turn Pg w K (.Tuple elts kk tpos) (ItE k K p k0) [e, it] e (fun i h => (∃ old, IsEnum h e it (k0 + (i : Nat)) old) ∧ ItAt k h it p i) where
  mem := by simp
  obj := fun i h st b hb => by
    obtain ⟨⟨old, he⟩, hi⟩ := st
    have e' : b = e ∨ b = it := by simpa using hb
    rcases e' with z | z
    · rw [z]; exact ⟨_, he, fun v q => nomatch q⟩
    · rw [z]; exact hi.obj
  keep := fun i h h' st kp => let ⟨⟨old, he⟩, hi⟩ := st; ⟨⟨old, kp e (by simp) _ he⟩, hi.keep fun o q => kp it (by simp) o q⟩
  item := by
    intro X hP hw hK hc i pins s σ H E I hf st hg
    subst hP hw hK
    obtain ⟨xs, hq, hx⟩ := hg
    obtain ⟨its, rv, sq, _⟩ := Rz.Inv.sqk I hq
    have hl := rv.length
    have W := PySem.GoesN.enumFrom (elts := elts) (x1 := kk) (pos := tpos) k0 (drawsK (prog := X.prog) (w := X.w) (A := X.A.in1) (k := k) (I.ok.hd hc) it p hpi its.toArray) e hne (by simp [hne, Ne.symm hpe]) (by simp)
    refine wpAny_mono (W.goes i s (fun v s2 => ∃ x H', Inv X pins σ H' s2 ∧ RelV x v ∧ (ItE k X.K p k0).yld i H x H' ∧ ((∃ old, IsEnum s2.heap e it (k0 + ((i + 1 : Nat) : Int)) old) ∧ ItAt k s2.heap it p (i + 1)) ∧ ∀ b ∈ [e, it], H' b = none) E
      (by simp; omega) ⟨st.1, st.2, sq⟩ fun v h' tk hY st' hk htk => ?_) (fun _ _ q => q) fun _ _ q => q
    obtain ⟨T, t, u, rfl, hT, hu, hTup⟩ := hY
    obtain ⟨x, ex⟩ : ∃ x, xs[i]? = some x := ⟨xs[i], List.getElem?_eq_getElem hx⟩
    obtain ⟨u', eu, ru⟩ := rv.get ex
    have : u = u' := by
      have h1 : its[i]? = some u := by simpa using hu
      rw [eu] at h1; exact (Option.some.inj h1).symm
    subst this
    have hTlt : ∀ b ∈ [e, it], b < s.heap.objs.size := fun b hb => by
      have e' : b = e ∨ b = it := by simpa using hb
      rcases e' with z | z
      · obtain ⟨_, q⟩ := st.1; rw [z]; exact Heap.lt_size q
      · obtain ⟨o, q, _⟩ := st.2.obj; rw [z]; exact Heap.lt_size q
    have new : ObjOk X.prog X.w (upd H T (.tup [.int (k0 + (i : Nat)), x])) h' T (.tup [.int (k0 + (i : Nat)), x]) :=
      ⟨by show 2 ≤ sizeLine; decide, [.int (k0 + (i : Nat)) t, u], .cons ⟨_, rfl⟩ (.cons ru .nil), hTup⟩
    have I1 : Inv X pins σ (upd H T (.tup [.int (k0 + (i : Nat)), x])) { s with heap := h', toks := tk } := I.turnedNew (ch := [e, it]) (fun b o hb q => hk b o hb q) hf hT new
    refine ⟨.ref T, _, I1, rfl, ⟨T, x, rfl, I.hok.fresh hT, rfl, fun ys hy => by rw [Rz.Inv.sqk_inj I hy hq]; exact ex⟩, ⟨st'.1, st'.2.1⟩, fun b hb => ?_⟩
    rw [upd_ne (Nat.ne_of_lt (Nat.lt_of_lt_of_le (hTlt b hb) hT))]
    exact (hf b hb).1
  done := by
    intro X hP hw hK hc i pins s σ H E I hf st hg
    subst hP hw hK
    obtain ⟨xs, hq, hx⟩ := hg
    obtain ⟨its, rv, sq, _⟩ := Rz.Inv.sqk I hq
    have hl := rv.length
    have W := PySem.GoesN.enumFrom (elts := elts) (x1 := kk) (pos := tpos) k0 (drawsK (prog := X.prog) (w := X.w) (A := X.A.in1) (k := k) (I.ok.hd hc) it p hpi its.toArray) e hne (by simp [hne, Ne.symm hpe]) (by simp)
    have e1 : i = its.toArray.size := by simp; omega
    subst e1
    exact W.stops s (fun s1 => Inv X pins σ H s1) E ⟨st.1, st.2, sq⟩ fun h' tk hk htk => I.turnedL (ch := [e, it]) (fun b o hb q => hk b o hb q) hf
  self := fun A i s Q E st h => let ⟨⟨_, he⟩, _⟩ := st; wpAny_pyIter_enum he h
/-- the items of both in new pairs -/
def ItZ (k1 k2 : SK) (K : PySem.W.Frag) (a b : Addr) : It :=
  ⟨fun i H => ∃ (xs ys : List V), SqK k1 K H a xs ∧ SqK k2 K H b ys ∧ i < xs.length ∧ i < ys.length,
   fun i H v H' => ∃ T x y, v = .ref T ∧ H T = none ∧ H' = upd H T (.tup [x, y]) ∧ (∀ xs, SqK k1 K H a xs → xs[i]? = some x) ∧ ∀ ys, SqK k2 K H b ys → ys[i]? = some y,
   fun i H => ∃ xs ys : List V, SqK k1 K H a xs ∧ SqK k2 K H b ys ∧ min xs.length ys.length = i⟩
theorem turn_zipK {Pg : Program} {w : World} {K : PySem.W.Frag} {elts : List Expr} {kk : Nat} {tpos : Pos} {k1 k2 : SK} (p q z TI TO i1 i2 : Addr) (S : PySem.ZipSep2 z TI TO i1 i2 [i1, p] [i2, q]) (h1 : p ≠ i1) (h2 : q ≠ i2) :
    Turn Pg w K (.Tuple elts kk tpos) (ItZ k1 k2 K p q) [z, TI, TO, i1, i2] z (fun i h => IsZip h z TI TO .none ∧ PySem.IsTupOf2 h TI (.ref i1) (.ref i2) ∧ (∃ x y, PySem.IsTupOf2 h TO x y) ∧ ItAt k1 h i1 p i ∧ ItAt k2 h i2 q i) where
  mem := by simp
  obj := fun i h st b hb => by
    obtain ⟨hz, hTI, ⟨x0, y0, hTO⟩, g1, g2⟩ := st
    have e' : b = z ∨ b = TI ∨ b = TO ∨ b = i1 ∨ b = i2 := by simpa using hb
    rcases e' with e | e | e | e | e <;> rw [e]
    · exact ⟨_, hz, fun v q => nomatch q⟩
    · exact ⟨_, hTI, fun v q => nomatch q⟩
    · exact ⟨_, hTO, fun v q => nomatch q⟩
    · exact g1.obj
    · exact g2.obj
  keep := fun i h h' st kp => let ⟨hz, hTI, ⟨x0, y0, hTO⟩, g1, g2⟩ := st
    ⟨kp z (by simp) _ hz, kp TI (by simp) _ hTI, ⟨x0, y0, kp TO (by simp) _ hTO⟩, g1.keep fun o e => kp i1 (by simp) o e, g2.keep fun o e => kp i2 (by simp) o e⟩
  item := by
    intro X hP hw hK hc i pins s σ H E I hf st hg
    subst hP hw hK
    obtain ⟨xs, ys, hqx, hqy, hx, hy⟩ := hg
    obtain ⟨its, rv, sq, _⟩ := Rz.Inv.sqk I hqx
    obtain ⟨its2, rv2, sq2, _⟩ := Rz.Inv.sqk I hqy
    have hl := rv.length
    have hl2 := rv2.length
    obtain ⟨hz, hTI, hTO, g1, g2⟩ := st
    have W := PySem.GoesN.zip2 (elts := elts) (x1 := kk) (pos := tpos) S (drawsK (prog := X.prog) (w := X.w) (A := X.A.in1) (k := k1) (I.ok.hd hc) i1 p h1 its.toArray) (drawsK (prog := X.prog) (w := X.w) (A := X.A.in1) (k := k2) (I.ok.hd hc) i2 q h2 its2.toArray)
    refine wpAny_mono (W.goes i s (fun v s2 => ∃ x H', Inv X pins σ H' s2 ∧ RelV x v ∧ (ItZ k1 k2 X.K p q).yld i H x H' ∧ (IsZip s2.heap z TI TO .none ∧ PySem.IsTupOf2 s2.heap TI (.ref i1) (.ref i2) ∧ (∃ x y, PySem.IsTupOf2 s2.heap TO x y) ∧ ItAt k1 s2.heap i1 p (i + 1) ∧ ItAt k2 s2.heap i2 q (i + 1)) ∧ ∀ b ∈ [z, TI, TO, i1, i2], H' b = none) E
      (by simp; omega) ⟨hz, hTI, hTO, ⟨g1, sq⟩, ⟨g2, sq2⟩⟩ fun v h' tk hY st' hk htk => ?_) (fun _ _ q => q) fun _ _ q => q
    obtain ⟨T, u, u2, rfl, hT, hu, hu2, hTup⟩ := hY
    obtain ⟨x, ex⟩ : ∃ x, xs[i]? = some x := ⟨xs[i], List.getElem?_eq_getElem hx⟩
    obtain ⟨y, ey⟩ : ∃ y, ys[i]? = some y := ⟨ys[i], List.getElem?_eq_getElem hy⟩
    obtain ⟨u', eu, ru⟩ := rv.get ex
    obtain ⟨u2', eu2, ru2⟩ := rv2.get ey
    have e1 : u = u' := by
      have h1 : its[i]? = some u := by simpa using hu
      rw [eu] at h1; exact (Option.some.inj h1).symm
    have e2 : u2 = u2' := by
      have h1 : its2[i]? = some u2 := by simpa using hu2
      rw [eu2] at h1; exact (Option.some.inj h1).symm
    subst e1 e2
    have hTlt : ∀ b ∈ [z, TI, TO, i1, i2], b < s.heap.objs.size := fun b hb => by
      have e' : b = z ∨ b = TI ∨ b = TO ∨ b = i1 ∨ b = i2 := by simpa using hb
      rcases e' with e | e | e | e | e <;> rw [e]
      · exact Heap.lt_size hz
      · exact Heap.lt_size hTI
      · obtain ⟨_, _, hTO⟩ := hTO; exact Heap.lt_size hTO
      · obtain ⟨o, q, _⟩ := g1.obj; exact Heap.lt_size q
      · obtain ⟨o, q, _⟩ := g2.obj; exact Heap.lt_size q
    have new : ObjOk X.prog X.w (upd H T (.tup [x, y])) h' T (.tup [x, y]) := ⟨by show 2 ≤ sizeLine; decide, [u, u2], .cons ru (.cons ru2 .nil), hTup⟩
    have I1 : Inv X pins σ (upd H T (.tup [x, y])) { s with heap := h', toks := tk } := I.turnedNew (ch := [z, TI, TO, i1, i2]) (fun b o hb q => hk b o (fun m => hb (by
      have e' : b = z ∨ b = TO ∨ b = i1 ∨ b = i2 := by simpa using m
      rcases e' with e | e | e | e <;> simp [e])) q) hf hT new
    refine ⟨.ref T, _, I1, rfl, ⟨T, x, y, rfl, I.hok.fresh hT, rfl, fun zs hy => by rw [Rz.Inv.sqk_inj I hy hqx]; exact ex, fun zs hz => by rw [Rz.Inv.sqk_inj I hz hqy]; exact ey⟩, ⟨st'.1, st'.2.1, st'.2.2.1, st'.2.2.2.1.1, st'.2.2.2.2.1⟩, fun b hb => ?_⟩
    rw [upd_ne (Nat.ne_of_lt (Nat.lt_of_lt_of_le (hTlt b hb) hT))]
    exact (hf b hb).1
  done := by
    intro X hP hw hK hc i pins s σ H E I hf st hg
    subst hP hw hK
    obtain ⟨xs, ys, hqx, hqy, hx⟩ := hg
    obtain ⟨its, rv, sq, _⟩ := Rz.Inv.sqk I hqx
    obtain ⟨its2, rv2, sq2, _⟩ := Rz.Inv.sqk I hqy
    have hl := rv.length
    have hl2 := rv2.length
    obtain ⟨hz, hTI, hTO, g1, g2⟩ := st
    have W := PySem.GoesN.zip2 (elts := elts) (x1 := kk) (pos := tpos) S (drawsK (prog := X.prog) (w := X.w) (A := X.A.in1) (k := k1) (I.ok.hd hc) i1 p h1 its.toArray) (drawsK (prog := X.prog) (w := X.w) (A := X.A.in1) (k := k2) (I.ok.hd hc) i2 q h2 its2.toArray)
    have e1 : i = min its.toArray.size its2.toArray.size := by simp; omega
    subst e1
    exact W.stops s (fun s1 => Inv X pins σ H s1) E ⟨hz, hTI, hTO, ⟨g1, sq⟩, ⟨g2, sq2⟩⟩ fun h' tk hk htk => I.turnedL (ch := [z, TI, TO, i1, i2]) (fun b o hb q => hk b o (fun m => hb (by
      have e' : b = z ∨ b = TO ∨ b = i1 ∨ b = i2 := by simpa using m
      rcases e' with e | e | e | e <;> simp [e])) q) hf
  self := fun A i s Q E st h => wpAny_pyIter_zip st.1 h
/-- a list, a tuple, a text -/
theorem pi_any {tg e : Expr} {te : TE} (he : PE X e te) : PI X tg e (fun σ H R => te σ H fun x H1 => (∃ a, x = .ref a ∧ (∃ xs, SqL X.K H1 a xs) ∧ R (Itl X.K a) H1) ∨ (∃ a, x = .ref a ∧ (∃ xs, SqT X.K H1 a xs) ∧ R (Itt X.K a) H1) ∨ ∃ z, x = .str z ∧ R (Its z) H1) := by
  refine ⟨fun pins s σ H R I h => ?_⟩
  refine thn (he.run pins s σ H _ I h) fun v s1 ⟨x, H1, I1, r1, q1⟩ => ?_
  rcases q1 with ⟨p, rfl, ⟨xs, hq⟩, q⟩ | ⟨p, rfl, ⟨xs, hq⟩, q⟩ | ⟨z, rfl, q⟩
  · cases r1
    obtain ⟨its, rv, pl, hz⟩ := I1.list hq
    exact wpAny_pyIter_list pl.isList (pi_one (tk := s1.toks) I1 _ (turn_list p _) ⟨_, Heap.get?_push_size _ rfl, rfl, rfl⟩ q)
  · cases r1
    obtain ⟨its, rv, pl, hz⟩ := I1.tuple hq
    exact wpAny_pyIter_tuple (show s1.heap.IsTuple p its.toArray from pl) (pi_one (tk := s1.toks) I1 _ (turn_tuple p _) ⟨_, Heap.get?_push_size _ rfl, rfl, rfl⟩ q)
  · obtain ⟨t, rfl⟩ := r1
    refine wpAny_pyIter_strU ?_
    refine pi_one (tk := s1.toks) I1 _ (turn_str _ z t (strIterType z) ?_) ⟨_, Heap.get?_push_size _ rfl, rfl, rfl⟩ q
    unfold strIterType
    split <;> simp
end Rz
namespace Rz
open PySem PySem.Spec PyProof.Rows L2
variable {X : Cx} {P : Par} {ρ ρ' ρ1 ρ2 : List SV} {σ σ' σ1 σ2 : Sg} {H0 G0 H G G' H' : Hp} {F0 F F' F1 F2 : FP} {a b c e : Expr} {es : List Expr} {pos : Pos} {t t1 t2 t3 : TD} {ta : TDa}
theorem meets_enum1 {v : Value} {o : Obj} {I : Heap → Prop} (B : PySem.Begins v o I) : Meets (Builtin.«enumerate.__new__» ⟨[.type "enumerate", v], []⟩) (fun _ R s => I s.heap ∧
      R (.ok (.ret (.ref (s.heap.push o).objs.size))) { s with heap := (s.heap.push o).push { cls := .type "enumerate", data := .fields #[.none, .bool false, .ref s.heap.objs.size, rawInt 0, .none, .none] } }) :=
  .of_wp fun prog w A R s h => by
    obtain ⟨hp, g, d, tk, os⟩ := s
    obtain ⟨h1, h⟩ := h
    have hs := PySem.sub_enumerate
    have qb : ∀ {A' : Around} {E : Value → Shared → Prop} {Q : Value → Shared → Prop}, Q (.ref hp.objs.size) ⟨hp.push o, g, d, tk, os⟩ → wpAny (model prog w) A' (pyIter v) Q E ⟨hp, g, d, tk, os⟩ :=
      fun q => B.iter prog w _ _ ⟨hp, g, d, tk, os⟩ _ h1 q
    wp_walk using qb
    refine wpAny_stack_any fun st => wpAny_pure ?_
    split
    · rename_i c _ _ _ _ _
      cases (c == Value.type "enumerate")
      · wp_walk using qb
        exact ⟨_, rfl, h⟩
      · wp_walk using qb
        exact ⟨_, rfl, h⟩
    · wp_walk using qb
      exact ⟨_, rfl, h⟩
theorem call_enum1 {prog : Program} {w : World} {A : Around} {E : Value → Shared → Prop} {s : Shared} {v : Value} {o : Obj} {I : Heap → Prop} {Q : Value → Shared → Prop} (B : PySem.Begins v o I) (h1 : I s.heap)
    (h : ∀ h', IsEnum h' (s.heap.objs.size + 1) s.heap.objs.size 0 .none → h'.get? s.heap.objs.size = some o → (∀ b x, s.heap.get? b = some x → h'.get? b = some x) → Q (.ref (s.heap.objs.size + 1)) { s with heap := h' }) :
    wpAny (model prog w) A (call (.type "enumerate") [v]) Q E s := by
  refine callType_new PySem.F.called_enumerate (by decide) (PySem.F.typeCall_enumerate_1 _) (PySem.F.newCall_enumerate_1 _) (fun x => PySem.F.args_object_init_2 x _) PySem.F.entry_enumerate_new (meets_enum1 B) ⟨h1, ?_⟩
  have z : (s.heap.push o).objs.size = s.heap.objs.size + 1 := Heap.size_push ..
  show _ ∧ _
  rw [z]
  have e : IsEnum ((s.heap.push o).push { cls := .type "enumerate", data := .fields #[.none, .bool false, .ref s.heap.objs.size, rawInt 0, .none, .none] }) (s.heap.objs.size + 1) s.heap.objs.size 0 .none := by
    have q := Heap.get?_push_size (s.heap.push o) (o := { cls := .type "enumerate", data := .fields #[.none, .bool false, .ref s.heap.objs.size, rawInt 0, .none, .none] }) rfl
    rw [z] at q
    exact q
  exact ⟨⟨_, e, rfl⟩, h _ e (Heap.get?_push_of_some _ (Heap.get?_push_size _ B.free)) fun b x q => Heap.get?_push_of_some _ (Heap.get?_push_of_some _ q)⟩
/-- arguments of enumerate -/
def iEnumK (K : PySem.W.Frag) (ta : TA) : TI := fun σ H R => ta σ H fun vs H1 => ∃ (k : SK) (p : Addr) (xs : List V) (n : Int), SqK k K H1 p xs ∧ (vs = [.ref p] ∧ n = 0 ∨ vs = [.ref p, .int n]) ∧ -(2 ^ 62) ≤ n ∧ n < 2 ^ 62 ∧ R (ItE k K p n) H1
theorem pi_enumK {elts : List Expr} {kk : Nat} {tpos : Pos} {ta : TA} {p : Pos} (hg : Gl X "enumerate") (hm : X.mg "enumerate" = none) (ha : PA X (e :: es) ta)
    (hs : starEach (e :: es) X.env = (false, eval e X.env) :: starEach es X.env) (hpl : (backTo pos (starEach es X.env)).any (·.1) = false) :
    PI X (.Tuple elts kk tpos) (.Call (.Name "enumerate" p) (e :: es) [] pos) (iEnumK X.K ta) := by
  refine ⟨fun pins s σ H R I h => ?_⟩
  refine Call_ (ld_blt I hg hm boot_enumerate (PyProof.Rows.callWith_type1 (thn (ha.run pos pins s σ H _ I h) fun us s1 ⟨vs, H1, I1, r1, q1⟩ => ?_) hs hpl))
  obtain ⟨k, q, xs, n, hq, ex, n1, n2, qq⟩ := q1
  obtain ⟨its, rv, sq, lt⟩ := Rz.Inv.sqk I1 hq
  have fin : ∀ h', IsEnum h' (s1.heap.objs.size + 1) s1.heap.objs.size n .none → h'.get? s1.heap.objs.size = some (itObj k q) → (∀ b x, s1.heap.get? b = some x → h'.get? b = some x) →
      wpAny (model X.prog X.w) X.A (pyIter (.ref (s1.heap.objs.size + 1))) (PIE X pins σ (.Tuple elts kk tpos) R) X.xe { s1 with heap := h' } := fun h' he hit hk => wpAny_pyIter_enum he <| by
    have I2 : Inv X pins σ H1 { s1 with heap := h' } := I1.kept (t' := s1.toks) hk
    refine ⟨s1.heap.objs.size + 1, [s1.heap.objs.size + 1, s1.heap.objs.size], _, _, H1, rfl, I2, turn_enumK (k0 := n) (k := k) q (s1.heap.objs.size + 1) s1.heap.objs.size (Nat.succ_ne_self _) (Nat.ne_of_lt (Nat.lt_succ_of_lt lt)) (Nat.ne_of_lt lt),
      ⟨⟨.none, by simpa using he⟩, itAt0 hit⟩, fun b hb => ?_, qq⟩
    have e' : b = s1.heap.objs.size + 1 ∨ b = s1.heap.objs.size := by simpa using hb
    have hle : s1.heap.objs.size ≤ b := by
      rcases e' with z | z
      · rw [z]; exact Nat.le_add_right _ _
      · rw [z]; exact Nat.le_refl _
    exact I1.fpOk hle (I1.hok.fresh hle)
  rcases ex with ⟨rfl, rfl⟩ | rfl
  · cases r1 with
    | cons r rr =>
      cases rr
      cases r
      exact call_enum1 beginsK sq fin
  · cases r1 with
    | cons r rr =>
      cases rr with
      | cons r' rr =>
        cases rr
        cases r
        obtain ⟨t, rfl⟩ := r'
        exact PySem.enum_begins beginsK sq (by omega) (by omega) fun h' a b _ c => fin h' a b c
def iZipK (K : PySem.W.Frag) (ta : TA) : TI := fun σ H R => ta σ H fun vs H1 => ∃ (k1 k2 : SK) (p q : Addr) (xs ys : List V), SqK k1 K H1 p xs ∧ SqK k2 K H1 q ys ∧ vs = [.ref p, .ref q] ∧ R (ItZ k1 k2 K p q) H1
theorem pi_zipK {elts : List Expr} {kk : Nat} {tpos : Pos} {ta : TA} {p : Pos} (hg : Gl X "zip") (hm : X.mg "zip" = none) (ha : PA X (e :: es) ta)
    (hs : starEach (e :: es) X.env = (false, eval e X.env) :: starEach es X.env) (hpl : (backTo pos (starEach es X.env)).any (·.1) = false) :
    PI X (.Tuple elts kk tpos) (.Call (.Name "zip" p) (e :: es) [] pos) (iZipK X.K ta) := by
  refine ⟨fun pins s σ H R I h => ?_⟩
  refine Call_ (ld_blt I hg hm PyProof.Rows.boot_zip (PyProof.Rows.callWith_type1 (thn (ha.run pos pins s σ H _ I h) fun us s1 ⟨vs, H1, I1, r1, q1⟩ => ?_) hs hpl))
  obtain ⟨k1, k2, p1, p2, xs, ys, hq1, hq2, ex, qq⟩ := q1
  subst ex
  obtain ⟨its, rv, sq, lt⟩ := Rz.Inv.sqk I1 hq1
  obtain ⟨its2, rv2, sq2, lt2⟩ := Rz.Inv.sqk I1 hq2
  cases r1 with
  | cons r rr =>
    cases rr with
    | cons r' rr =>
      cases rr
      cases r
      cases r'
      refine PySem.zip_begins2 beginsK beginsK sq sq2 fun h' hz hTI hTO hi1 hi2 _ hk => wpAny_pyIter_zip hz ?_
      have I2 : Inv X pins σ H1 { s1 with heap := h' } := I1.kept (t' := s1.toks) hk
      refine ⟨s1.heap.objs.size + 4, [s1.heap.objs.size + 4, s1.heap.objs.size + 2, s1.heap.objs.size + 3, s1.heap.objs.size, s1.heap.objs.size + 1], _, _, H1, rfl, I2,
        turn_zipK (k1 := k1) (k2 := k2) p1 p2 _ _ _ _ _ (PySem.zip_sep2 (N := s1.heap.objs.size) (fp1 := [p1]) (fp2 := [p2]) (fun b m => by rw [List.mem_singleton.mp m]; exact lt) fun b m => by rw [List.mem_singleton.mp m]; exact lt2) (Nat.ne_of_lt lt) (Nat.ne_of_lt (Nat.lt_succ_of_lt lt2)),
        ⟨hz, hTI, ⟨_, _, hTO⟩, itAt0 hi1, itAt0 hi2⟩, fun b hb => ?_, qq⟩
      have hle : s1.heap.objs.size ≤ b := by
        have e' : b = s1.heap.objs.size + 4 ∨ b = s1.heap.objs.size + 2 ∨ b = s1.heap.objs.size + 3 ∨ b = s1.heap.objs.size ∨ b = s1.heap.objs.size + 1 := by simpa using hb
        rcases e' with z | z | z | z | z <;> rw [z]
        · exact Nat.le_add_right _ _
        · exact Nat.le_add_right _ _
        · exact Nat.le_add_right _ _
        · exact Nat.le_refl _
        · exact Nat.le_add_right _ _
      exact I1.fpOk hle (I1.hok.fresh hle)
def enumD : Int → List PD → List PD
  | _, [] => []
  | k, d :: ds => .tuple [.int k, d] :: enumD (k + 1) ds
theorem enumD_length : ∀ (ds : List PD) (k : Int), (enumD k ds).length = ds.length
  | [], _ => rfl
  | _ :: ds, k => by rw [enumD]; simp [enumD_length ds]
theorem enumD_get : ∀ {ds : List PD} {k : Int} {i : Nat} {d : PD}, (enumD k ds)[i]? = some d → ∃ x, ds[i]? = some x ∧ d = .tuple [.int (k + i), x]
  | [], _, _, _, h => by simp [enumD] at h
  | x :: ds, k, 0, d, h => by simp [enumD] at h; exact ⟨x, rfl, by simp [← h]⟩
  | x :: ds, k, i + 1, d, h => by
    rw [enumD] at h
    obtain ⟨y, h1, h2⟩ := enumD_get (ds := ds) (by simpa using h)
    refine ⟨y, by simpa using h1, ?_⟩
    rw [h2, show k + 1 + (i : Int) = k + ((i + 1 : Nat) : Int) by omega]
def zipD (ds es : List PD) : List PD := List.zipWith (fun a b => .tuple [a, b]) ds es
def rngD (lo c : Int) (n : Nat) : List PD := (List.range n).map fun i => .int (lo + (i : Nat) * c)
/-- the items of a list, of a tuple -/
def seqD : PD → Option (SK × List PD)
  | .list ds => some (.l, ds)
  | .tuple ds => some (.t, ds)
  | _ => none
def signsD (z : Str) : List PD := z.cps.toList.map fun c => .str ⟨#[c]⟩
theorem Src.seq {b : Bool} {x : V} {d : PD} {k : SK} {ds : List PD} (h : Src P ρ H G F b [x] [d]) (S : StOk P ρ σ H G F) (e : seqD d = some (k, ds)) :
    ∃ p xs Hd, x = .ref p ∧ SqK k P.K Hd p xs ∧ Reps P.w P.K Hd xs ds ∧ Le Hd H ∧ (∀ a, Hd a ≠ none → ¬ inW ρ F a) ∧ (b = false → Le Hd G) := by
  cases b with
  | false =>
    have n : ∀ a, G a ≠ none → ¬ inW ρ F a := fun a q ⟨i, _, m⟩ => q (S.off i a m)
    cases h with
    | cons r _ =>
      cases r with
      | lst sq r => cases e; exact ⟨_, _, G, rfl, sq, r, S.le, n, fun _ => .refl _⟩
      | tup sq r => cases e; exact ⟨_, _, G, rfl, sq, r, S.le, n, fun _ => .refl _⟩
      | _ => cases e
  | true =>
    obtain ⟨Hd, l, n, h⟩ := h
    cases h with
    | cons r _ =>
      cases r with
      | lst sq r => cases e; exact ⟨_, _, Hd, rfl, sq, r, l, n, fun z => nomatch z⟩
      | tup sq r => cases e; exact ⟨_, _, Hd, rfl, sq, r, l, n, fun z => nomatch z⟩
      | _ => cases e
variable {xs ys : List V} {ds es' : List PD} {Hd : Hp} {p q : Addr} {k k1 k2 : SK}
def itSeq (k : SK) (K : PySem.W.Frag) (p : Addr) : It := match k with
  | .l => Itl K p
  | .t => Itt K p
theorem getv_lt {xs : List V} {i : Nat} (h : i < xs.length) : ∃ x, xs[i]? = some x := ⟨xs[i], List.getElem?_eq_getElem h⟩
theorem itok_seq {J : It} (hk : SqK k P.K Hd p xs) (r : Reps P.w P.K Hd xs ds) (hJ : J = itSeq k P.K p) : ItOk P J Hd ds := by
  have len := r.length
  cases k with
  | l =>
    subst hJ
    refine ⟨fun i H l hi => ?_, fun H l => ⟨xs, .of (l _ _ hk), Nat.le_of_eq len⟩, fun i H x H' d l e y => ?_⟩
    · obtain ⟨x, e⟩ := getv_lt (xs := xs) (i := i) (by omega)
      exact ⟨xs, x, .of (l _ _ hk), e⟩
    · obtain ⟨e', y⟩ := y
      obtain ⟨v, e1, r1⟩ := r.get e
      have e2 := y xs (.of (l _ _ hk))
      rw [e1] at e2; cases e2
      exact .inl ⟨e', r1⟩
  | t =>
    subst hJ
    refine ⟨fun i H l hi => ?_, fun H l => ⟨xs, l.sqT hk, Nat.le_of_eq len⟩, fun i H x H' d l e y => ?_⟩
    · obtain ⟨x, e⟩ := getv_lt (xs := xs) (i := i) (by omega)
      exact ⟨xs, x, l.sqT hk, e⟩
    · obtain ⟨e', y⟩ := y
      obtain ⟨v, e1, r1⟩ := r.get e
      have e2 := y xs (l.sqT hk)
      rw [e1] at e2; cases e2
      exact .inl ⟨e', r1⟩
theorem itok_str {z : Str} : ItOk P (Its z) Hd (signsD z) := by
  have len : (signsD z).length = z.cps.size := by simp [signsD]
  refine ⟨fun i H l hi => by rw [len] at hi; exact hi, fun H l => Nat.le_of_eq len.symm, fun i H x H' d l e y => ?_⟩
  obtain ⟨e', c, e1, rfl⟩ := y
  refine .inl ⟨e', ?_⟩
  have : d = .str ⟨#[c]⟩ := by
    unfold signsD at e
    rw [List.getElem?_map] at e
    rw [← Array.getElem?_toList] at e1
    rw [e1] at e
    cases e; rfl
  rw [this]
  exact .str _
theorem itok_rng1 {lo : Int} {n : Nat} : ItOk P (Itr lo n) Hd (rngD lo 1 n) := by
  have len : (rngD lo 1 n).length = n := by simp [rngD]
  refine ⟨fun i H l hi => by rw [len] at hi; exact hi, fun H l => Nat.le_of_eq len.symm, fun i H x H' d l e y => ?_⟩
  obtain ⟨e', rfl⟩ := y
  refine .inl ⟨e', ?_⟩
  have hi : i < n := by rw [← len]; exact (List.getElem?_eq_some_iff.mp e).1
  have : d = .int (lo + (i : Nat)) := by
    unfold rngD at e
    rw [List.getElem?_map, List.getElem?_range hi] at e
    simp only [Int.mul_one] at e
    cases e; rfl
  rw [this]
  exact .int _
theorem itok_enum {n : Int} (hk : SqK k P.K Hd p xs) (r : Reps P.w P.K Hd xs ds) : ItOk P (ItE k P.K p n) Hd (enumD n ds) := by
  have len := r.length
  refine ⟨fun i H l hi => ⟨xs, hk.mono l, by rw [enumD_length] at hi; omega⟩, fun H l => ⟨xs, hk.mono l, by rw [enumD_length]; exact len⟩, fun i H x H' d l e y => ?_⟩
  obtain ⟨T, x, rfl, hT, e', y⟩ := y
  obtain ⟨d', e1, rfl⟩ := enumD_get e
  obtain ⟨v, e2, r2⟩ := r.get e1
  have e3 := y xs (hk.mono l)
  rw [e2] at e3; cases e3
  exact .inr ⟨T, _, _, rfl, hT, e', rfl, .cons (.int _) (.cons r2 .nil)⟩
theorem itok_zip (hk1 : SqK k1 P.K Hd p xs) (hk2 : SqK k2 P.K Hd q ys) (r1 : Reps P.w P.K Hd xs ds) (r2 : Reps P.w P.K Hd ys es') : ItOk P (ItZ k1 k2 P.K p q) Hd (zipD ds es') := by
  have len := r1.length
  have len2 := r2.length
  have lz : (zipD ds es').length = min ds.length es'.length := by simp [zipD]
  refine ⟨fun i H l hi => ⟨xs, ys, hk1.mono l, hk2.mono l, by omega, by omega⟩, fun H l => ⟨xs, ys, hk1.mono l, hk2.mono l, by omega⟩, fun i H x H' d l e y => ?_⟩
  obtain ⟨T, x, y', rfl, hT, e', y1, y2⟩ := y
  have hi : i < min ds.length es'.length := by rw [← lz]; exact (List.getElem?_eq_some_iff.mp e).1
  obtain ⟨da, ea⟩ : ∃ x, ds[i]? = some x := ⟨ds[i], List.getElem?_eq_getElem (by omega)⟩
  obtain ⟨db, eb⟩ : ∃ x, es'[i]? = some x := ⟨es'[i], List.getElem?_eq_getElem (by omega)⟩
  have : d = .tuple [da, db] := by
    unfold zipD at e
    rw [List.getElem?_zipWith, ea, eb] at e
    cases e; rfl
  subst this
  obtain ⟨v, e2, s1⟩ := r1.get ea
  obtain ⟨u, e3, s2⟩ := r2.get eb
  have e4 := y1 xs (hk1.mono l)
  have e5 := y2 ys (hk2.mono l)
  rw [e2] at e4; cases e4
  rw [e3] at e5; cases e5
  exact .inr ⟨T, _, _, rfl, hT, e', rfl, .cons s1 (.cons s2 .nil)⟩
abbrev JI (X : Cx) (P : Par) (tg e : Expr) (t : TDi) : Prop := PI X tg e (TIof P t)
def itAny (x : Rv) (Q : Bool → List PD → Prop) : Prop := match x.val with
  | .list ds => Q x.soft ds
  | .tuple ds => Q x.soft ds
  | .str z => Q false (signsD z)
  | _ => False
theorem ji_any {tg : Expr} (C : CxF X P) (h : JE X P e t) : JI X P tg e (fun ρ Q => t ρ fun x => itAny x Q) := by
  refine pi_imp (pi_any h) fun σ H R hw => ?_
  obtain ⟨ρ, G, F, Q, S, q, kk⟩ := hw
  refine ⟨ρ, G, F, _, S, q, fun v r H' G' F' L s o n q => ?_⟩
  have go : ∀ {k : SK} {ds : List PD}, seqD r.val = some (k, ds) → Q r.soft ds → ∃ p xs, v = .ref p ∧ SqK k P.K H' p xs ∧ R (itSeq k P.K p) H' := by
    intro k ds e q
    obtain ⟨G2, s2, _, _, r2⟩ := norm1 s o (Rv.data_of (by intro z; rw [z] at e; cases e)) n
    obtain ⟨p, xs, Hd, rfl, sq, r3, l, nw, g⟩ := r2.seq s2.st e
    exact ⟨p, xs, rfl, sq.mono l, kk _ r.soft ds H' G2 F' Hd s2 l nw g (itok_seq sq r3 rfl) q⟩
  unfold itAny at q
  split at q
  · rename_i ds e
    obtain ⟨p, xs, rfl, sq, q⟩ := go (k := .l) (by rw [e]; rfl) q
    exact .inl ⟨p, rfl, ⟨xs, .of sq⟩, by rw [C.K]; exact q⟩
  · rename_i ds e
    obtain ⟨p, xs, rfl, sq, q⟩ := go (k := .t) (by rw [e]; rfl) q
    exact .inr (.inl ⟨p, rfl, ⟨xs, by rw [C.K]; exact sq⟩, by rw [C.K]; exact q⟩)
  · rename_i z e
    exact .inr (.inr ⟨z, o.str s.st.le e, kk _ false _ H' G' F' G' s s.st.le (fun a q ⟨i, _, m⟩ => q (s.st.off i a m)) (fun _ => .refl _) itok_str q⟩)
  · exact q.elim
abbrev itEnum1 (x : Rv) (n : Int) (Q : Bool → List PD → Prop) : Prop := ∃ k ds, seqD x.val = some (k, ds) ∧ Q x.soft (enumD n ds)
abbrev itEnum (rs : List Rv) (Q : Bool → List PD → Prop) : Prop := (∃ x, rs = [x] ∧ itEnum1 x 0 Q) ∨ ∃ x y n, rs = [x, y] ∧ y.val = .int n ∧ -(2 ^ 62) ≤ n ∧ n < 2 ^ 62 ∧ itEnum1 x n Q
theorem ji_enum {elts : List Expr} {kk : Nat} {tpos : Pos} {p : Pos} (C : CxF X P) (hg : Gl X "enumerate") (hm : X.mg "enumerate" = none) (ha : JA X P (e :: es) ta)
    (hs : starEach (e :: es) X.env = (false, eval e X.env) :: starEach es X.env) (hpl : (backTo pos (starEach es X.env)).any (·.1) = false) :
    JI X P (.Tuple elts kk tpos) (.Call (.Name "enumerate" p) (e :: es) [] pos) (fun ρ Q => ta ρ fun rs => itEnum rs Q) := by
  refine pi_imp (pi_enumK hg hm ha hs hpl) fun σ H R hw => ?_
  obtain ⟨ρ, G, F, Q, S, q, kk⟩ := hw
  refine ⟨ρ, G, F, _, S, q, fun vs rs H' G' F' L s o n q => ?_⟩
  have go : ∀ {v : V} {r : Rv} {L : List Addr} {m : Int}, RvOk P ρ σ H' G' F' v r L → New H L → itEnum1 r m Q → ∃ k p xs, v = .ref p ∧ SqK k P.K H' p xs ∧ R (ItE k P.K p m) H' := by
    intro v r L m o n ⟨k, ds, e, q⟩
    obtain ⟨G2, s2, _, _, r2⟩ := norm1 s o (Rv.data_of (by intro z; rw [z] at e; cases e)) n
    obtain ⟨p, xs, Hd, rfl, sq, r3, l, nw, g⟩ := r2.seq s2.st e
    exact ⟨k, p, xs, rfl, sq.mono l, kk _ r.soft _ H' G2 F' Hd s2 l nw g (itok_enum sq r3) q⟩
  rcases q with ⟨x, rfl, q⟩ | ⟨x, y, m, rfl, e, m1, m2, q⟩
  · cases o with
    | cons a b _ =>
      cases b
      obtain ⟨k, p, xs, rfl, sq, q⟩ := go a (fun a m => n a (List.mem_append_left _ m)) q
      exact ⟨k, p, xs, 0, by rw [C.K]; exact sq, .inl ⟨rfl, rfl⟩, by decide, by decide, by rw [C.K]; exact q⟩
  · cases o with
    | cons a b _ =>
      cases b with
      | cons b c _ =>
        cases c
        obtain ⟨k, p, xs, rfl, sq, q⟩ := go a (fun a m => n a (List.mem_append_left _ m)) q
        have eb := b.int s.st.le e
        exact ⟨k, p, xs, m, by rw [C.K]; exact sq, .inr (by rw [eb]), m1, m2, by rw [C.K]; exact q⟩
abbrev itZip (rs : List Rv) (Q : Bool → List PD → Prop) : Prop := ∃ x y k1 k2 ds es, rs = [x, y] ∧ seqD x.val = some (k1, ds) ∧ seqD y.val = some (k2, es) ∧ Q (x.soft || y.soft) (zipD ds es)
theorem ji_zip {elts : List Expr} {kk : Nat} {tpos : Pos} {p : Pos} (C : CxF X P) (hg : Gl X "zip") (hm : X.mg "zip" = none) (ha : JA X P (e :: es) ta)
    (hs : starEach (e :: es) X.env = (false, eval e X.env) :: starEach es X.env) (hpl : (backTo pos (starEach es X.env)).any (·.1) = false) :
    JI X P (.Tuple elts kk tpos) (.Call (.Name "zip" p) (e :: es) [] pos) (fun ρ Q => ta ρ fun rs => itZip rs Q) := by
  refine pi_imp (pi_zipK hg hm ha hs hpl) fun σ H R hw => ?_
  obtain ⟨ρ, G, F, Q, S, q, kk⟩ := hw
  refine ⟨ρ, G, F, _, S, q, fun vs rs H' G' F' L s o n q => ?_⟩
  obtain ⟨x, y, k1, k2, ds, es, rfl, e1, e2, q⟩ := q
  cases o with
  | cons a b dj =>
    cases b with
    | cons b c _ =>
      cases c
      obtain ⟨G2, s2, r1, r2⟩ := norm2 s a b (fun z m => n z (List.mem_append_left _ m)) (fun z m => n z (List.mem_append_right _ (List.mem_append_left _ m))) (fun z m m' => dj z m (List.mem_append_left _ m'))
        (Rv.data_of (by intro z; rw [z] at e1; cases e1)) (Rv.data_of (by intro z; rw [z] at e2; cases e2))
      obtain ⟨p, xs, Hd, rfl, sq, r3, l, nw, g⟩ := r1.seq s2.st e1
      obtain ⟨p', xs', Hd', rfl, sq', r3', l', nw', g'⟩ := r2.seq s2.st e2
      have hj1 := join_l Hd Hd'
      have hj2 := join_r l l'
      have fin : R (ItZ k1 k2 P.K p p') H' := kk _ (x.soft || y.soft) _ H' G2 F' (join Hd Hd') s2 (join_le l l') (join_n nw nw') (fun z => by
        rw [Bool.or_eq_false_iff] at z
        exact join_le (g z.1) (g' z.2)) (itok_zip (sq.mono hj1) (sq'.mono hj2) (r3.mono hj1) (r3'.mono hj2)) q
      exact ⟨k1, k2, p, p', xs, xs', by rw [C.K]; exact sq.mono l, by rw [C.K]; exact sq'.mono l', rfl, by rw [C.K]; exact fin⟩
/-- range: the bounds small -/
def smallI (i : Int) : Prop := -(2 ^ 62) ≤ i ∧ i < 2 ^ 62
abbrev itRng1 (rs : List Rv) (Q : Bool → List PD → Prop) : Prop := ∃ x j, rs = [x] ∧ x.val = .int j ∧ smallI j ∧ Q false (rngD 0 1 j.toNat)
abbrev itRng2 (rs : List Rv) (Q : Bool → List PD → Prop) : Prop := ∃ x y i j, rs = [x, y] ∧ x.val = .int i ∧ y.val = .int j ∧ smallI i ∧ smallI j ∧ Q false (rngD i 1 (j - i).toNat)
theorem ti_end {J : It} {ds : List PD} {Q : Bool → List PD → Prop} {R : It → Hp → Prop} (s : Sit P ρ σ H0 G0 F0 H G F) (q : Q false ds) (i : ItOk P J G ds)
    (kk : ∀ (J : It) (b : Bool) (ds : List PD) (H' G' : Hp) (F' : FP) (Hd : Hp), Sit P ρ σ H0 G0 F0 H' G' F' → Le Hd H' → (∀ a, Hd a ≠ none → ¬ inW ρ F' a) → (b = false → Le Hd G') → ItOk P J Hd ds → Q b ds → R J H') : R J H :=
  kk J false ds H G F G s s.st.le (fun a q ⟨i, _, m⟩ => q (s.st.off i a m)) (fun _ => .refl _) i q
theorem ji_rng1 {tg : Expr} {p : Pos} (hg : Gl X "range") (hm : X.mg "range" = none) (ha : JA X P [a] ta) (hs : starEach [a] X.env = [(false, eval a X.env)]) :
    JI X P tg (.Call (.Name "range" p) [a] [] pos) (fun ρ Q => ta ρ fun rs => itRng1 rs Q) := by
  refine pi_imp (pi_range1 hg hm ha hs) fun σ H R hw => ?_
  obtain ⟨ρ, G, F, Q, S, q, kk⟩ := hw
  refine ⟨ρ, G, F, _, S, q, fun vs rs H' G' F' L s o n q => ?_⟩
  obtain ⟨x, j, rfl, e, ⟨m1, m2⟩, q⟩ := q
  cases o with
  | cons a b _ => cases b; exact ⟨j, by rw [a.int s.st.le e], m1, m2, ti_end s q itok_rng1 kk⟩
theorem ji_rng2 {tg : Expr} {p : Pos} (hg : Gl X "range") (hm : X.mg "range" = none) (ha : JA X P [a, b] ta) (hs : starEach [a, b] X.env = [(false, eval a X.env), (false, eval b X.env)]) (hs2 : starEach [b] X.env = [(false, eval b X.env)]) :
    JI X P tg (.Call (.Name "range" p) [a, b] [] pos) (fun ρ Q => ta ρ fun rs => itRng2 rs Q) := by
  refine pi_imp (pi_range2 hg hm ha hs hs2) fun σ H R hw => ?_
  obtain ⟨ρ, G, F, Q, S, q, kk⟩ := hw
  refine ⟨ρ, G, F, _, S, q, fun vs rs H' G' F' L s o n q => ?_⟩
  obtain ⟨x, y, i, j, rfl, e1, e2, ⟨m1, m2⟩, ⟨m3, m4⟩, q⟩ := q
  cases o with
  | cons a b _ => cases b with | cons b c _ => cases c; exact ⟨i, j, by rw [a.int s.st.le e1, b.int s.st.le e2], ⟨m1, m2, m3, m4⟩, ti_end s q itok_rng1 kk⟩
end Rz
namespace Rz
open PySem PySem.Spec PyProof.Rows L2
variable {X : Cx} {P : Par} {ρ ρ' ρ1 ρ2 : List SV} {σ σ' σ1 σ2 : Sg} {H0 G0 H G G' H' H1 G1 H2 G2 : Hp} {F0 F F' F1 F2 : FP} {a b c e : Expr} {es : List Expr} {pos : Pos} {t t1 t2 t3 : TD} {ta : TDa} {u : TDt}
/-- all but the wells told as shared -/
def frzS : SV → SV
  | .ow o => .sh o.val
  | .ex _ => .un
  | .io _ _ => .un
  | s => s
def hasOw (ρ : List SV) : Bool := ρ.any isOw
def wipeS (ρ : List SV) : List Nat → List SV
  | [] => ρ
  | v :: vs => (wipeS ρ vs).set v .un
def blkR (ρ : List SV) (vs : List Nat) : List SV := wipeS (ρ.map frzS) vs
def immRv : Rv → Bool
  | .cl d => imm d
  | .fr o => immO o
  | _ => false
def mkC (soft : Bool) (rs : List Rv) : Rv := if (soft && !rs.all immRv) = true then .dr (.list (vals rs)) else .fr (.ls (rs.map partO))
def lcD (pat : Pat) (u : TDt) (t : TD) (ρb : List SV) : List PD → List Rv → (List Rv → Prop) → Prop
  | [], acc, Q => Q acc
  | d :: ds, acc, Q => ∃ ρ1, bindP pat d ρb = some ρ1 ∧ u ρ1 fun b => if b = true then t ρ1 fun r => (r.data = true ∧ r.soft = false ∧ acc.length < sizeLine) ∧ lcD pat u t ρb ds (acc ++ [r]) Q else lcD pat u t ρb ds acc Q
abbrev lcT (it : TDi) (pat : Pat) (u : TDt) (t : TD) (vs : List Nat) : TD := fun ρ Q => it ρ fun b ds => vs.all (slotFree ρ) = true ∧ lcD pat u t (blkR ρ vs) ds [] fun rs => Q (mkC (b || hasOw ρ) rs)
theorem wipeS_length (ρ : List SV) : ∀ vs : List Nat, (wipeS ρ vs).length = ρ.length
  | [] => rfl
  | v :: vs => by rw [wipeS, List.length_set, wipeS_length ρ vs]
theorem wipeS_out : ∀ {vs : List Nat} {i : Nat}, i ∉ vs → (wipeS ρ vs)[i]? = ρ[i]?
  | [], _, _ => rfl
  | v :: vs, i, h => by
    rw [List.mem_cons, not_or] at h
    rw [wipeS, List.getElem?_set_ne (fun e => h.1 e.symm), wipeS_out h.2]
theorem wipeS_in : ∀ {vs : List Nat} {i : Nat}, i ∈ vs → i < ρ.length → (wipeS ρ vs)[i]? = some .un
  | v :: vs, i, h, l => by
    by_cases e : v = i
    · subst e
      rw [wipeS, List.getElem?_set_self (by rw [wipeS_length]; exact l)]
    · rw [wipeS, List.getElem?_set_ne e]
      exact wipeS_in ((List.mem_cons.mp h).resolve_left fun z => e z.symm) l
theorem wipe_out : ∀ {vs : List Nat} {i : Nat}, i ∉ vs → (wipe σ vs)[i]? = σ[i]?
  | [], _, _ => rfl
  | v :: vs, i, h => by
    rw [List.mem_cons, not_or] at h
    rw [wipe, List.getElem?_set_ne (fun e => h.1 e.symm), wipe_out h.2]
theorem wipe_in : ∀ {vs : List Nat} {i : Nat}, i ∈ vs → i < σ.length → (wipe σ vs)[i]? = some none
  | v :: vs, i, h, l => by
    by_cases e : v = i
    · subst e
      rw [wipe, List.getElem?_set_self (by rw [wipe_length]; exact l)]
    · rw [wipe, List.getElem?_set_ne e]
      exact wipe_in ((List.mem_cons.mp h).resolve_left fun z => e z.symm) l
theorem wipe_eq {vs : List Nat} (l : σ2.length = σ.length) (h : ∀ j, j ∉ vs → σ2[j]? = σ[j]?) : wipe σ2 vs = wipe σ vs := by
  apply List.ext_getElem?
  intro i
  by_cases m : i ∈ vs
  · by_cases hi : i < σ.length
    · rw [wipe_in m hi, wipe_in m (by rw [l]; exact hi)]
    · rw [List.getElem?_eq_none (by rw [wipe_length, l]; omega), List.getElem?_eq_none (by rw [wipe_length]; omega)]
  · rw [wipe_out m, wipe_out m, h i m]
theorem frz_wl {i : Nat} : (ρ.map frzS)[i]? = some .wl ↔ ρ[i]? = some .wl := by
  rw [List.getElem?_map]
  cases h : ρ[i]? with
  | none => simp
  | some sv => cases sv <;> simp [frzS]
theorem blk_wl {vs : List Nat} (h : vs.all (slotFree ρ) = true) {i : Nat} : (blkR ρ vs)[i]? = some .wl ↔ ρ[i]? = some .wl := by
  unfold blkR
  by_cases m : i ∈ vs
  · have q := slotFree_lt (List.all_eq_true.mp h i m)
    rw [wipeS_in m (by rw [List.length_map]; exact q.1)]
    constructor
    · intro z; cases z
    · intro z; exact absurd z q.2
  · rw [wipeS_out m, frz_wl]
open Classical in
noncomputable def blkG (ρ : List SV) (F : FP) (G Hd H : Hp) : Hp := fun a => if G a ≠ none ∨ Hd a ≠ none ∨ (inF F a ∧ ¬ inW ρ F a) then H a else none
open Classical in
noncomputable def blkF (ρ : List SV) (F : FP) : FP := fun i => if ρ[i]? = some .wl then F i else []
theorem blkG_le {Hd : Hp} : Le (blkG ρ F G Hd H) H := fun a o e => by
  unfold blkG at e
  split at e
  · exact e
  · cases e
theorem blkG_ge {Hd : Hp} (l : Le G H) : Le G (blkG ρ F G Hd H) := fun a o e => by
  unfold blkG
  rw [if_pos (.inl (by rw [e]; simp))]
  exact l a o e
theorem blkG_hd {Hd : Hp} (l : Le Hd H) : Le Hd (blkG ρ F G Hd H) := fun a o e => by
  unfold blkG
  rw [if_pos (.inr (.inl (by rw [e]; simp)))]
  exact l a o e
theorem blkF_wl {i : Nat} (h : ρ[i]? = some .wl) : blkF ρ F i = F i := if_pos h
theorem blkF_not {i : Nat} (h : ρ[i]? ≠ some .wl) : blkF ρ F i = [] := if_neg h
theorem StOk.noF (S : StOk P ρ σ H G F) {i : Nat} (h : ∀ s, ρ[i]? = some s → isOw s = false) (w : ρ[i]? ≠ some .wl) : F i = [] := by
  cases e : ρ[i]? with
  | none => exact S.out i e
  | some sv =>
    have q := S.slot i sv e
    cases sv with
    | un => exact q
    | sh d => exact q.2
    | ow o => exact absurd (h _ e) (by simp [isOw])
    | io C fs => exact absurd (h _ e) (by simp [isOw])
    | wl => exact absurd e w
    | sc ns => exact q.2
    | ex e0 => exact q.2
theorem StOk.blk {Hd : Hp} {vs : List Nat} (S : StOk P ρ σ H G F) (l : Le Hd H) (n : ∀ a, Hd a ≠ none → ¬ inW ρ F a) (h : vs.all (slotFree ρ) = true) : StOk P.nb (blkR ρ vs) (wipe σ vs) H (blkG ρ F G Hd H) (blkF ρ F) where
  le := blkG_le
  slot := fun i sv e => by
    by_cases m : i ∈ vs
    · have q := slotFree_lt (List.all_eq_true.mp h i m)
      unfold blkR at e
      rw [wipeS_in m (by rw [List.length_map]; exact q.1)] at e
      cases e
      exact blkF_not q.2
    · unfold blkR at e
      rw [wipeS_out m, List.getElem?_map] at e
      rw [wipe_out m]
      cases er : ρ[i]? with
      | none => rw [er] at e; cases e
      | some s0 =>
        rw [er] at e
        cases e
        have q := S.slot i s0 er
        cases s0 with
        | un => exact blkF_not (by rw [er]; intro z; cases z)
        | sh d => exact ⟨let ⟨v, e1, r⟩ := q.1; ⟨v, e1, r.mono (blkG_ge S.le)⟩, blkF_not (by rw [er]; intro z; cases z)⟩
        | ow o =>
          obtain ⟨v, e1, r⟩ := q
          refine ⟨⟨v, e1, ?_⟩, blkF_not (by rw [er]; intro z; cases z)⟩
          have g1 : Le G (Rz.addG G H (F i)) := addG_ge fun a m => S.off i a m
          refine (Own.addG r (fun _ m => m) g1).mono fun a o e2 => ?_
          unfold Rz.addG at e2
          unfold blkG
          by_cases m2 : a ∈ F i
          · rw [if_pos m2] at e2
            rw [if_pos (.inr (.inr ⟨⟨i, m2⟩, fun ⟨j, ej, mj⟩ => by
              have z := S.dj i j a m2 mj
              subst z
              rw [er] at ej; cases ej⟩))]
            exact e2
          · rw [if_neg m2] at e2
            rw [if_pos (.inl (by rw [e2]; simp))]
            exact S.le a o e2
        | wl =>
          obtain ⟨v, o, e1, r, z⟩ := q
          rw [blkF_wl er]
          exact ⟨v, o, e1, r.at (blkG_ge S.le) fun _ _ _ e => e, z⟩
        | sc ns => exact ⟨let ⟨v, e1, r⟩ := q.1; ⟨v, e1, (blkG_ge S.le).sqL r⟩, blkF_not (by rw [er]; intro z; cases z)⟩
        | ex e0 => exact blkF_not (by rw [er]; intro z; cases z)
        | io C fs => exact blkF_not (by rw [er]; intro z; cases z)
  out := fun i e => by
    unfold blkR at e
    rw [List.getElem?_eq_none_iff, wipeS_length, List.length_map, ← List.getElem?_eq_none_iff] at e
    exact blkF_not (by rw [e]; intro z; cases z)
  nd := fun i => by
    by_cases z : ρ[i]? = some .wl
    · rw [blkF_wl z]; exact S.nd i
    · rw [blkF_not z]; exact List.nodup_nil
  dj := fun i j a m m' => by
    by_cases z : ρ[i]? = some .wl
    · rw [blkF_wl z] at m
      by_cases z' : ρ[j]? = some .wl
      · rw [blkF_wl z'] at m'; exact S.dj i j a m m'
      · rw [blkF_not z'] at m'; cases m'
    · rw [blkF_not z] at m; cases m
  off := fun i a m => by
    by_cases z : ρ[i]? = some .wl
    · rw [blkF_wl z] at m
      have w : inW ρ F a := ⟨i, z, m⟩
      unfold blkG
      rw [if_neg]
      rintro (q | q | q)
      · exact q (S.off i a m)
      · exact n a q w
      · exact q.2 w
    · rw [blkF_not z] at m; cases m
  len := by
    unfold blkR
    rw [wipeS_length, List.length_map, wipe_length]; exact S.len
  er := trivial
theorem blk_inW {vs : List Nat} (h : vs.all (slotFree ρ) = true) {a : Addr} : inW (blkR ρ vs) (blkF ρ F) a ↔ inW ρ F a := by
  constructor
  · rintro ⟨i, e, m⟩
    have e' := (blk_wl h).mp e
    rw [blkF_wl e'] at m
    exact ⟨i, e', m⟩
  · rintro ⟨i, e, m⟩
    exact ⟨i, (blk_wl h).mpr e, by rw [blkF_wl e]; exact m⟩
theorem blk_now {vs : List Nat} {i : Nat} {s : SV} (e : (blkR ρ vs)[i]? = some s) : isOw s = false := by
  unfold blkR at e
  by_cases m : i ∈ vs
  · by_cases l : i < (ρ.map frzS).length
    · rw [wipeS_in m l] at e; cases e; rfl
    · rw [List.getElem?_eq_none (by rw [wipeS_length]; omega)] at e; cases e
  · rw [wipeS_out m, List.getElem?_map] at e
    cases q : ρ[i]? with
    | none => rw [q] at e; cases e
    | some sv => rw [q] at e; cases sv <;> cases e <;> rfl
theorem StE.wlc (s : StE ρ H G F H' G' F') (h : ∀ i : Nat, ρ[i]? = some .wl ↔ ρ1[i]? = some .wl) (no : ∀ (i : Nat) s, ρ1[i]? = some s → isOw s = false) : StE ρ1 H G F H' G' F' where
  gle := s.gle
  ex := s.ex
  keep := fun a o e n => s.keep a o e fun ⟨i, w, m⟩ => n ⟨i, (h i).mp w, m⟩
  gnew := fun a k n e => s.gnew a k (fun ⟨i, w, m⟩ => n ⟨i, (h i).mp w, m⟩) e
  fnew := fun i a m => (s.fnew i a m).elim .inl fun q => .inr ⟨(h i).mp q.1, q.2⟩
  fsame := fun i s e z => absurd z (by rw [no i s e]; simp)
open Classical in
noncomputable def backF (ρ : List SV) (F Fc : FP) : FP := fun i => if ρ[i]? = some .wl then Fc i else F i
open Classical in
/-- the shared part behind the block -/
noncomputable def backG (soft : Bool) (G Gc H : Hp) : Hp := if soft = true then absT G H else Gc
theorem hasOw_false {i : Nat} {s : SV} (h : hasOw ρ = false) (e : ρ[i]? = some s) : isOw s = false := by
  unfold hasOw at h
  rw [List.any_eq_false] at h
  have := h _ (List.mem_of_getElem? e)
  simpa using this
structure Back (P : Par) (ρ : List SV) (σ : Sg) (H1 G1 : Hp) (F1 : FP) (soft : Bool) (H Gc : Hp) (Fc : FP) : Prop where
  sit : Sit P ρ σ H1 G1 F1 H (backG soft G1 Gc H) (backF ρ F1 Fc)
  gle : Le G1 Gc
theorem StOk.back {Hd : Hp} {vs : List Nat} {b : Bool} {Gc : Hp} {Fc : FP} (S : StOk P ρ σ H1 G1 F1) (l : Le Hd H1) (n : ∀ a, Hd a ≠ none → ¬ inW ρ F1 a) (hb : b = false → Le Hd G1) (h : vs.all (slotFree ρ) = true)
    (Sb : StOk P.nb (blkR ρ vs) (wipe σ vs) H Gc Fc) (ev : StE (blkR ρ vs) H1 (blkG ρ F1 G1 Hd H1) (blkF ρ F1) H Gc Fc) : Back P ρ σ H1 G1 F1 (b || hasOw ρ) H Gc Fc := by
  have gc : Le G1 Gc := (blkG_ge S.le).trans ev.gle
  have nw : ∀ {a}, ¬ inW ρ F1 a → ¬ inW (blkR ρ vs) (blkF ρ F1) a := fun n z => n ((blk_inW h).mp z)
  have kp : ∀ a o, H1 a = some o → ¬ inW ρ F1 a → H a = some o := fun a o e n => ev.keep a o e (nw n)
  have lG : Le G1 H := fun a o e => Sb.le a o (gc a o e)
  have same : ∀ {a}, OwnKind (H1 a) → ¬ inW ρ F1 a → OwnKind (H a) := fun {a} k n => by
    cases e : H1 a with
    | none => exact absurd e k.some
    | some o => rw [kp a o e n, ← e]; exact k
  have owW : ∀ {i : Nat} {a : Addr}, a ∈ F1 i → ρ[i]? ≠ some .wl → ¬ inW ρ F1 a := fun {i a} m w ⟨j, ej, mj⟩ => by
    have z := S.dj i j a m mj
    subst z
    exact w ej
  have isow : ∀ {i : Nat} {a : Addr}, a ∈ F1 i → ρ[i]? ≠ some .wl → hasOw ρ = true := fun {i a} m w => by
    cases q : hasOw ρ with
    | true => rfl
    | false => rw [S.noF (fun s e => hasOw_false q e) w] at m; cases m
  have gle : Le G1 (backG (b || hasOw ρ) G1 Gc H) := by
    unfold backG
    split
    · exact absT_ge
    · exact gc
  have ble : Le (backG (b || hasOw ρ) G1 Gc H) H := by
    unfold backG
    split
    · exact absT_le lG
    · exact Sb.le
  have off : ∀ a, OwnKind (H a) → G1 a = none → ((b || hasOw ρ) = false → Gc a = none) → backG (b || hasOw ρ) G1 Gc H a = none := fun a k e g => by
    unfold backG
    split
    · exact absT_own k e
    · rename_i q; exact g (by simpa using q)
  have fnew : ∀ i a, a ∈ backF ρ F1 Fc i → a ∈ F1 i ∨ (ρ[i]? = some .wl ∧ H1 a = none) := fun i a m => by
    unfold backF at m
    split at m
    · rename_i w
      rcases ev.fnew i a m with q | q
      · rw [blkF_wl w] at q; exact .inl q
      · exact .inr ⟨w, q.2⟩
    · exact .inl m
  have bW : ∀ {i : Nat}, ρ[i]? = some .wl → backF ρ F1 Fc i = Fc i := fun w => if_pos w
  have bO : ∀ {i : Nat}, ρ[i]? ≠ some .wl → backF ρ F1 Fc i = F1 i := fun w => if_neg w
  have ev2 : StE ρ H1 G1 F1 H (backG (b || hasOw ρ) G1 Gc H) (backF ρ F1 Fc) := by
    refine ⟨gle, ev.ex, kp, fun a k w e => ?_, fnew, fun i o e z => bO (by rw [e]; intro q; cases q; cases z)⟩
    refine off a (same k w) e fun z => ?_
    rw [Bool.or_eq_false_iff] at z
    refine ev.gnew a k (nw w) ?_
    unfold blkG
    rw [if_neg]
    rintro (q | q | ⟨⟨i, q⟩, q'⟩)
    · exact q e
    · exact q ((hb z.1).none e)
    · by_cases wi : ρ[i]? = some .wl
      · exact q' ⟨i, wi, q⟩
      · have := isow q wi
        rw [z.2] at this; cases this
  refine ⟨⟨⟨ble, fun i sv e => ?_, fun i e => ?_, fun i => ?_, fun i j a m m' => ?_, fun i a m => ?_, S.len, S.er.step ev2.st⟩, ev2, S.er⟩, gc⟩
  · cases sv with
    | wl =>
      rw [bW e]
      have eb := (blk_wl h).mpr e
      obtain ⟨v, o, e1, r, z⟩ := Sb.slot i _ eb
      have ni : i ∉ vs := fun m => (slotFree_lt (List.all_eq_true.mp h i m)).2 e
      rw [wipe_out ni] at e1
      refine ⟨v, o, e1, ?_, z⟩
      unfold backG
      split
      · exact r.abs lG Sb.le (P.wi o z)
      · exact r
    | _ =>
      rw [bO (by rw [e]; intro z; cases z)]
      have w : ρ[i]? ≠ some .wl := by rw [e]; intro z; cases z
      exact (S.slot i _ e).at gle fun a m o q => kp a o q (owW m w)
  · rw [bO (by rw [e]; intro z; cases z)]; exact S.out i e
  · by_cases w : ρ[i]? = some .wl
    · rw [bW w]; exact Sb.nd i
    · rw [bO w]; exact S.nd i
  · have ex : ∀ {i : Nat} {a : Addr}, a ∈ F1 i → H1 a ≠ none := fun m => S.there m
    by_cases w : ρ[i]? = some .wl
    · rw [bW w] at m
      by_cases w' : ρ[j]? = some .wl
      · rw [bW w'] at m'; exact Sb.dj i j a m m'
      · rw [bO w'] at m'
        rcases ev.fnew i a m with q | q
        · rw [blkF_wl w] at q; exact S.dj i j a q m'
        · exact absurd q.2 (ex m')
    · rw [bO w] at m
      by_cases w' : ρ[j]? = some .wl
      · rw [bW w'] at m'
        rcases ev.fnew j a m' with q | q
        · rw [blkF_wl w'] at q; exact S.dj i j a m q
        · exact absurd q.2 (ex m)
      · rw [bO w'] at m'; exact S.dj i j a m m'
  · by_cases w : ρ[i]? = some .wl
    · rw [bW w] at m
      exact off a (Sb.kind m) (gc.none (Sb.off i a m)) fun _ => Sb.off i a m
    · rw [bO w] at m
      refine off a (same (S.kind m) (owW m w)) (S.off i a m) fun z => ?_
      have q := isow m w
      rw [q, Bool.or_true] at z; cases z
end Rz
namespace Rz
open PySem PySem.Spec PyProof.Rows L2
variable {X : Cx} {P : Par} {ρ ρ' ρ1 ρ2 : List SV} {σ σ' σ1 σ2 : Sg} {H0 G0 H G G' H' H1 G1 H2 G2 : Hp} {F0 F F' F1 F2 : FP} {a b c e : Expr} {es : List Expr} {pos : Pos} {t t1 t2 t3 : TD} {ta : TDa} {u : TDt}
theorem RvsOk.append {vs us : List V} {rs ss : List Rv} {L M : List Addr} (h : RvsOk P ρ σ H G F vs rs L) (g : RvsOk P ρ σ H G F us ss M) (d : ∀ a ∈ L, a ∉ M) : RvsOk P ρ σ H G F (vs ++ us) (rs ++ ss) (L ++ M) := by
  induction h with
  | nil => exact g
  | @cons v vs r rs L L' x _ dj ih =>
    rw [List.append_assoc]
    refine .cons x (ih fun a m => d a (List.mem_append_right _ m)) fun a m z => ?_
    rcases List.mem_append.mp z with z | z
    · exact dj a m z
    · exact d a (List.mem_append_left _ m) z
/-- hard data: read of the shared part, or fresh -/
def hardR (r : Rv) : Bool := r.data && !r.soft
theorem RvOk.hard {v : V} {r : Rv} {L : List Addr} (h : RvOk P ρ σ H G F v r L) (d : hardR r = true) : FrOk P H G F v (partO r) L := by
  cases r with
  | cl d => obtain ⟨r, rfl⟩ := h; exact ⟨.lf r, List.nodup_nil, fun _ m => nomatch m⟩
  | fr o => exact h
  | dr d => cases d
  | wl => cases d
  | ws i => cases d
  | sc ns => cases d
theorem RvsOk.hard {vs : List V} {rs : List Rv} {L : List Addr} (h : RvsOk P ρ σ H G F vs rs L) (d : rs.all hardR = true) : Owns P.w P.K H G vs (rs.map partO) L ∧ L.Nodup ∧ ∀ a ∈ L, G a = none ∧ ¬ inF F a := by
  induction h with
  | nil => exact ⟨.nil, List.nodup_nil, fun _ m => nomatch m⟩
  | @cons v vs r rs L L' x _ dj ih =>
    rw [List.all_cons, Bool.and_eq_true] at d
    obtain ⟨o2, n2, f2⟩ := ih d.2
    have o1 := x.hard d.1
    refine ⟨.cons o1.own o2, List.nodup_append.mpr ⟨o1.nd, n2, fun a m b m' e => dj a m (e ▸ m')⟩, fun a m => ?_⟩
    rcases List.mem_append.mp m with q | q
    · exact o1.off a q
    · exact f2 a q
theorem RvsOk.len {vs : List V} {rs : List Rv} {L : List Addr} (h : RvsOk P ρ σ H G F vs rs L) : vs.length = rs.length := by
  induction h with
  | nil => rfl
  | cons _ _ _ ih => simp [ih]
/-- values of hard parts stay beside another state of the slots -/
theorem RvOk.slots {v : V} {r : Rv} {L : List Addr} (h : RvOk P ρ σ H G F v r L) (d : hardR r = true) (k : ∀ a ∈ L, ¬ inF F' a) : RvOk P ρ1 σ1 H G F' v r L := by
  cases r with
  | cl d => exact h
  | fr o => exact ⟨FrOk.own h, FrOk.nd h, fun a m => ⟨(FrOk.off h a m).1, k a m⟩⟩
  | dr d => cases d
  | wl => cases d
  | ws i => cases d
  | sc ns => cases d
theorem RvsOk.slots {vs : List V} {rs : List Rv} {L : List Addr} (h : RvsOk P ρ σ H G F vs rs L) (d : rs.all hardR = true) (k : ∀ a ∈ L, ¬ inF F' a) : RvsOk P ρ1 σ1 H G F' vs rs L := by
  induction h with
  | nil => exact .nil
  | cons x _ dj ih =>
    rw [List.all_cons, Bool.and_eq_true] at d
    exact .cons (x.slots d.1 fun a m => k a (List.mem_append_left _ m)) (ih d.2 fun a m => k a (List.mem_append_right _ m)) dj
/-- a list of hard parts at D grows -/
theorem RvOk.updD {v : V} {r : Rv} {L : List Addr} {D : Addr} {o : HO} (h : RvOk P ρ σ H G F v r L) (d : hardR r = true) (k : ∀ a ∈ L, a ≠ D) : RvOk P ρ σ (upd H D o) G F v r L := by
  cases r with
  | cl d => exact h
  | fr o => exact ⟨(FrOk.own h).at (.refl _) fun a m x e => by rw [upd_ne (k a m)]; exact e, FrOk.nd h, FrOk.off h⟩
  | dr d => cases d
  | wl => cases d
  | ws i => cases d
  | sc ns => cases d
theorem RvsOk.updD {vs : List V} {rs : List Rv} {L : List Addr} {D : Addr} {o : HO} (h : RvsOk P ρ σ H G F vs rs L) (d : rs.all hardR = true) (k : ∀ a ∈ L, a ≠ D) : RvsOk P ρ σ (upd H D o) G F vs rs L := by
  induction h with
  | nil => exact .nil
  | cons x _ dj ih =>
    rw [List.all_cons, Bool.and_eq_true] at d
    exact .cons (x.updD d.1 fun a m => k a (List.mem_append_left _ m)) (ih d.2 fun a m => k a (List.mem_append_right _ m)) dj
theorem StOk.updD {D : Addr} {o : HO} (S : StOk P ρ σ H G F) (g : G D = none) (f : ¬ inF F D) (nb : P.bs = none) : StOk P ρ σ (upd H D o) G F where
  le := fun a x e => by
    rw [upd_ne (fun z => by rw [z, g] at e; cases e)]; exact S.le a x e
  slot := fun i sv e => (S.slot i sv e).at (.refl _) fun a m x q => by
    rw [upd_ne (fun z => by subst z; exact f ⟨i, m⟩)]; exact q
  out := S.out
  nd := S.nd
  dj := S.dj
  off := S.off
  len := S.len
  er := .none nb
theorem immRv_all : ∀ {rs : List Rv}, rs.all immRv = true → immOs (rs.map partO) = true
  | [], _ => rfl
  | r :: rs, h => by
    rw [List.all_cons, Bool.and_eq_true] at h
    rw [List.map_cons, immOs, Bool.and_eq_true]
    refine ⟨?_, immRv_all h.2⟩
    cases r with
    | cl d => exact h.1
    | fr o => exact h.1
    | _ => cases h.1
theorem parts_vals : ∀ {rs : List Rv}, ODvals (rs.map partO) = vals rs
  | [] => rfl
  | r :: rs => by
    rw [List.map_cons, ODvals, parts_vals]
    cases r <;> rfl
/-- where a comprehension's block stands: D its list -/
structure LcAt (P : Par) (ρb : List SV) (σb : Sg) (H1 Gb : Hp) (Fb : FP) (D : Addr) (H G : Hp) (F : FP) (vs : List V) (rs : List Rv) (L : List Addr) : Prop where
  st : StOk P ρb σb H G F
  ev : StE ρb H1 Gb Fb H G F
  atD : H D = some (.lst vs)
  gD : G D = none
  fD : ¬ inF F D
  nD : H1 D = none
  ok : RvsOk P ρb σb H G F vs rs L
  hd : rs.all hardR = true
  nw : New H1 L
  dL : D ∉ L
  nb : P.bs = none
theorem LcAt.start {D : Addr} {ρb : List SV} {σb : Sg} {Gb : Hp} {Fb : FP} (S : StOk P ρb σb H1 Gb Fb) (n : H1 D = none) (nb : P.bs = none) : LcAt P ρb σb H1 Gb Fb D (upd H1 D (.lst [])) Gb Fb [] [] [] where
  st := S.push n
  ev := StE.push n
  atD := upd_same
  gD := S.le.none n
  fD := fun ⟨i, m⟩ => S.there m n
  nD := n
  ok := .nil
  hd := rfl
  nw := fun _ m => nomatch m
  dL := List.not_mem_nil
  nb := nb
theorem LcAt.step {D : Addr} {ρb : List SV} {σb : Sg} {Gb : Hp} {Fb : FP} {vs : List V} {rs : List Rv} {L : List Addr} (h : LcAt P ρb σb H1 Gb Fb D H G F vs rs L) (S : StOk P ρb σb H' G' F') (s : StE ρb H G F H' G' F') : LcAt P ρb σb H1 Gb Fb D H' G' F' vs rs L := by
  have nd : ¬ inW ρb F D := fun w => h.fD w.inF
  refine ⟨S, h.ev.trans s, s.keep _ _ h.atD nd, s.gnew D (.inl ⟨_, h.atD⟩) nd h.gD, fun ⟨i, m⟩ => ?_, h.nD, h.ok.step s, h.hd, h.nw, h.dL, h.nb⟩
  rcases s.fnew i D m with q | q
  · exact h.fD ⟨i, q⟩
  · rw [h.atD] at q; cases q.2
theorem LcAt.add {D : Addr} {ρb : List SV} {σb : Sg} {Gb : Hp} {Fb : FP} {vs : List V} {rs : List Rv} {L L' : List Addr} {v : V} {r : Rv} (h : LcAt P ρb σb H1 Gb Fb D H G F vs rs L) (o : RvOk P ρb σb H G F v r L') (d : hardR r = true) (n : New H1 L') (dj : ∀ a ∈ L, a ∉ L') (dD : D ∉ L') :
    LcAt P ρb σb H1 Gb Fb D (upd H D (.lst (vs ++ [v]))) G F (vs ++ [v]) (rs ++ [r]) (L ++ (L' ++ [])) := by
  have hd2 : (rs ++ [r]).all hardR = true := by rw [List.all_append, h.hd]; simpa using d
  have nL : ∀ a ∈ L ++ (L' ++ []), a ≠ D := fun a m z => by
    subst z
    rw [List.append_nil] at m
    exact (List.mem_append.mp m).elim h.dL dD
  refine ⟨h.st.updD h.gD h.fD h.nb, ⟨h.ev.gle, fun a q => ?_, fun a o e w => ?_, h.ev.gnew, h.ev.fnew, h.ev.fsame⟩, upd_same, h.gD, h.fD, h.nD, (h.ok.append (.cons o .nil fun _ _ z => nomatch z) (fun a m m' => dj a m (by simpa using m'))).updD hd2 nL, hd2, ?_, fun m => nL _ m rfl, h.nb⟩
  · by_cases z : a = D
    · rw [z, upd_same]; intro q; cases q
    · rw [upd_ne z]; exact h.ev.ex a q
  · rw [upd_ne (fun z => by rw [z, h.nD] at e; cases e)]; exact h.ev.keep a o e w
  · rw [List.append_nil]; exact h.nw.app n
theorem Bound.ste {sl : List Nat} (B : Bound P ρ ρ' σ σ' F F' sl H G) (no : ∀ (i : Nat) s, ρ[i]? = some s → isOw s = false) : StE ρ H G F H G F' := ⟨.refl _, fun _ e => e, fun _ _ e _ => e, fun _ _ _ e => e, fun i a m => .inl (B.sub i a m), fun i s e z => absurd z (by rw [no i s e]; simp)⟩
theorem StOk.unbind {ρb : List SV} {σb : Sg} {Fc F3 : FP} {sl vs : List Nat} (S : StOk P ρ1 σ2 H' G' F') (B : Bound P ρb ρ1 σb σ2 Fc F3 sl H G) (hl : ρb.length ≤ σb.length) (hsl : ∀ j ∈ sl, j ∈ vs) (own : ∀ j ∈ vs, ρb[j]? = some .un) (nb : P.bs = none) : StOk P ρb σb H' G' F' where
  le := S.le
  slot := fun i sv e => by
    by_cases m : i ∈ sl
    · rw [own i (hsl i m)] at e
      cases e
      obtain ⟨d, ed⟩ := B.isSh i m
      exact (S.slot i _ ed).2
    · obtain ⟨e1, e2⟩ := B.same i m
      rw [← e1]
      exact S.slot i sv (e2.trans e)
  out := fun i e => S.out i (by
    rw [List.getElem?_eq_none_iff, B.rlen, ← List.getElem?_eq_none_iff]; exact e)
  nd := S.nd
  dj := S.dj
  off := S.off
  len := hl
  er := .none nb
theorem Bound.wlc {ρb : List SV} {σb : Sg} {Fc F3 : FP} {sl vs : List Nat} (B : Bound P ρb ρ1 σb σ2 Fc F3 sl H G) (hsl : ∀ j ∈ sl, j ∈ vs) (own : ∀ j ∈ vs, ρb[j]? = some .un) (i : Nat) : ρ1[i]? = some .wl ↔ ρb[i]? = some .wl := by
  by_cases m : i ∈ sl
  · obtain ⟨d, ed⟩ := B.isSh i m
    rw [ed, own i (hsl i m)]
    simp
  · rw [(B.same i m).2]
theorem tlc_imp {it : TDi} {pat : Pat} {vs : List Nat} {Q' : VK} (hsl : ∀ j ∈ pat.slots, j ∈ vs) (h : TEof P (lcT it pat u t vs) σ H Q') : tLc (TIof P it) (GP P.nb pat) (TTof P.nb u) (TEof P.nb t) vs σ H Q' := by
  obtain ⟨ρ, G, F, Q, S, ht, k⟩ := h
  refine ⟨ρ, G, F, _, S, ht, fun J b ds H1 G1 F1 Hd s l nw hb io q => ?_⟩
  obtain ⟨hv, q⟩ := q
  intro D nD
  have S1 := s.st.blk l nw hv
  have own : ∀ j ∈ vs, (blkR ρ vs)[j]? = some .un := fun j m => by
    unfold blkR
    exact wipeS_in m (by rw [List.length_map]; exact (slotFree_lt (List.all_eq_true.mp hv j m)).1)
  refine ⟨fun i m H2 => m = ds.length - i ∧ i ≤ ds.length ∧ ∃ G2 F2 vv rs L, LcAt P.nb (blkR ρ vs) (wipe σ vs) H1 (blkG ρ F1 G1 Hd H1) (blkF ρ F1) D H2 G2 F2 vv rs L ∧ lcD pat u t (blkR ρ vs) (ds.drop i) rs (fun rs => Q (mkC (b || hasOw ρ) rs)), ⟨_, rfl, Nat.zero_le _, _, _, _, _, _, .start S1 nD rfl, q⟩, ?_⟩
  rintro i m H2 ⟨rfl, hi, G2, F2, vv, rs, L, A, q⟩
  have lG : Le Hd G2 := (blkG_hd l).trans A.ev.gle
  have lH : Le Hd H2 := lG.trans A.st.le
  by_cases hlt : i < ds.length
  · refine .inr ⟨io.go i H2 lH hlt, fun H' => ∃ G2 F2 vv rs L, LcAt P.nb (blkR ρ vs) (wipe σ vs) H1 (blkG ρ F1 G1 Hd H1) (blkF ρ F1) D H' G2 F2 vv rs L ∧ lcD pat u t (blkR ρ vs) (ds.drop (i + 1)) rs (fun rs => Q (mkC (b || hasOw ρ) rs)),
      fun H' x => ⟨ds.length - (i + 1), by omega, rfl, hlt, x⟩, fun x H' y => ?_⟩
    rw [List.drop_eq_getElem_cons hlt] at q
    obtain ⟨ρ1, eb, q⟩ := q
    have st : ∃ G3, LcAt P.nb (blkR ρ vs) (wipe σ vs) H1 (blkG ρ F1 G1 Hd H1) (blkF ρ F1) D H' G3 F2 vv rs L ∧ Rep P.w P.K G3 x ds[i] := by
      rcases io.yld i H2 x H' ds[i] lH (List.getElem?_eq_getElem hlt) y with ⟨rfl, r⟩ | ⟨T, xs, es, rfl, hT, rfl, ed, r⟩
      · exact ⟨G2, A, r.mono lG⟩
      · refine ⟨upd G2 T (.tup xs), A.step (A.st.pushG hT) (StE.pushG hT A.st.le), ?_⟩
        rw [ed]
        exact .tup (.of upd_same) (Reps.mono (lG.trans (Le.upd (A.st.le.none hT))) r)
    obtain ⟨G3, A3, r3⟩ := st
    refine ⟨blkR ρ vs, G3, F2, ds[i], ρ1, A3.st, r3, eb, fun σ2 F3 B => ⟨?_, ρ1, G3, F3, _, B.st, q, fun bb H4 G4 F4 s4 q4 => ?_⟩⟩
    · refine wipe_eq (B.len.trans (wipe_length σ vs)) fun j n => ?_
      rw [(B.same j fun z => n (hsl j z)).1, wipe_out n]
    · have W := B.wlc hsl own
      have A4 : LcAt P.nb (blkR ρ vs) (wipe σ vs) H1 (blkG ρ F1 G1 Hd H1) (blkF ρ F1) D H4 G4 F4 vv rs L := A3.step (s4.st.unbind B S1.len hsl own rfl) ((B.ste fun _ _ e => blk_now e).trans (s4.ev.wlc W fun _ _ e => blk_now e))
      cases bb with
      | false =>
        show if false = true then _ else _
        rw [if_neg (by simp)] at q4 ⊢
        exact ⟨G4, F4, vv, rs, L, A4, q4⟩
      | true =>
        show if true = true then _ else _
        rw [if_pos rfl] at q4 ⊢
        refine ⟨ρ1, G4, F4, _, s4.st, q4, fun y r H5 G5 F5 L' s5 o5 n5 q5 => ?_⟩
        obtain ⟨⟨d1, d2, d3⟩, q5⟩ := q5
        have A5 := A4.step (s5.st.unbind B S1.len hsl own rfl) (s5.ev.wlc W fun _ _ e => blk_now e)
        have hr : hardR r = true := by unfold hardR; rw [d1, d2]; rfl
        refine ⟨vv, A5.atD, by rw [A5.ok.len]; exact d3, G5, F5, vv ++ [y], rs ++ [r], _, A5.add (o5.slots hr fun a m => ((o5.hard hr).off a m).2) hr ?_ ?_ ?_, q5⟩
        · exact A4.ev.new n5
        · exact fun a m m' => (A4.ok.there a m).some (n5 a m')
        · intro z
          have := n5 D z
          rw [A4.atD] at this; cases this
  · have e : i = ds.length := by omega
    subst e
    refine .inl ⟨io.stop H2 lH, ?_⟩
    rw [List.drop_length] at q
    have q : Q (mkC (b || hasOw ρ) rs) := q
    have Bk := s.st.back l nw hb hv A.st A.ev
    have inF1 : ∀ {a : Addr} {i : Nat}, a ∈ backF ρ F1 F2 i → a ∈ F2 i ∨ (a ∈ F1 i ∧ H1 a ≠ none) := fun {a i} m => by
      unfold backF at m
      split at m
      · exact .inl m
      · exact .inr ⟨m, s.st.there m⟩
    obtain ⟨ow, nd, off⟩ := A.ok.hard A.hd
    have offB : ∀ a ∈ D :: L, ¬ inF (backF ρ F1 F2) a := fun a m ⟨j, mj⟩ => by
      rcases inF1 mj with z | z
      · rcases List.mem_cons.mp m with e | m
        · subst e; exact A.fD ⟨j, z⟩
        · exact (off a m).2 ⟨j, z⟩
      · rcases List.mem_cons.mp m with e | m
        · subst e; exact z.2 A.nD
        · exact z.2 (A.nw a m)
    have newB : New H1 (D :: L) := fun a m => (List.mem_cons.mp m).elim (fun e => e ▸ A.nD) (A.nw a)
    have gD2 : G1 D = none := s.st.le.none A.nD
    have g1H : Le G1 H2 := Bk.gle.trans A.st.le
    unfold mkC at q
    split at q
    · rename_i so
      rw [Bool.and_eq_true] at so
      refine k (.ref D) (.dr (.list (vals rs))) H2 _ _ [] ⟨Bk.sit.st, s.ev.trans Bk.sit.ev, s.at0⟩ ⟨⟨Rz.addG G2 H2 (D :: L), addG_le A.st.le, fun a h => ?_, ?_⟩, rfl⟩ (fun _ m => nomatch m) q
      · rintro ⟨j, ej, mj⟩
        have e2 : a ∈ F2 j := by
          unfold backF at mj
          rw [if_pos ej] at mj; exact mj
        have n2 : a ∉ D :: L := fun m => offB a m ⟨j, mj⟩
        rw [addG_ne n2] at h
        exact h (A.st.off j a e2)
      · have ge : Le G2 (Rz.addG G2 H2 (D :: L)) := addG_ge fun a m => (List.mem_cons.mp m).elim (fun e => e ▸ A.gD) fun m => (off a m).1
        refine .lst (xs := vv) (by rw [addG_eq List.mem_cons_self]; exact A.atD) ?_
        have := Owns.addG ow (fun a m => List.mem_cons_of_mem D m) ge
        rw [parts_vals] at this
        exact this
    · rename_i so
      refine k (.ref D) (.fr (.ls (rs.map partO))) H2 _ _ (D :: L) ⟨Bk.sit.st, s.ev.trans Bk.sit.ev, s.at0⟩ ⟨.ls A.atD ?_, List.nodup_cons.mpr ⟨A.dL, nd⟩, fun a m => ⟨?_, offB a m⟩⟩ (s.ev.new newB) q
      · unfold backG
        split
        · rename_i sb
          rw [sb, Bool.true_and] at so
          exact ow.abs g1H A.st.le (immRv_all (by simpa using so))
        · exact ow
      · have kd : OwnKind (H2 a) := (List.mem_cons.mp m).elim (fun e => e ▸ .inl ⟨_, A.atD⟩) (A.ok.there a)
        have ng : G2 a = none := (List.mem_cons.mp m).elim (fun e => e ▸ A.gD) fun m => (off a m).1
        unfold backG
        split
        · exact absT_own kd (Bk.gle.none ng)
        · exact ng
end Rz
namespace Rz
open PySem PySem.Spec PyProof.Rows L2
variable {X : Cx} {P : Par} {ρ ρ' ρ0 ρ1 ρ2 : List SV} {σ σ' σ0 σ1 σ2 : Sg} {H0 G0 H G G' H' H1 G1 H2 G2 : Hp} {F0 F F' F1 F2 : FP} {a b c e : Expr} {es : List Expr} {pos : Pos} {t t1 t2 t3 : TD} {ta : TDa} {u : TDt}
/-- a comprehension as a value -/
theorem je_lc {elt tg iter : Expr} {ifs : List Expr} {scope : Scope} {own : List (Str × Nat)} {it : TDi} {pat : Pat} (C : CxF X P) (hi : JI X P tg iter it) (ok : BlkOk X.N X.env.scope scope own)
    (hg : ∀ (s : Shared) (H : Hp) (C : Addr) (cl : List (Str × Addr)) (fp : List Addr), PG (X.blk s H scope (compEnvC scope cl C X.env) fp) tg (GP P.nb pat))
    (ht : ∀ (s : Shared) (H : Hp) (C : Addr) (cl : List (Str × Addr)) (fp : List Addr), PTs (X.blk s H scope (compEnvC scope cl C X.env) fp) ifs (TTof P.nb u))
    (he : ∀ (s : Shared) (H : Hp) (C : Addr) (cl : List (Str × Addr)) (fp : List Addr), JE (X.blk s H scope (compEnvC scope cl C X.env) fp) P.nb elt t) (hs : ∀ x, foldedSetIterable iter X.env x = pure x) (hsl : ∀ j ∈ pat.slots, j ∈ own.map (·.2)) :
    JE X P (.ListComp elt [⟨tg, iter, ifs, 0⟩] scope pos) (lcT it pat u t (own.map (·.2))) :=
  pe_imp (pe_lc C.calm C.nd hi ok hg ht he hs) fun _ _ _ h => tlc_imp hsl h
theorem pts_imp {ifs : List Expr} {t t' : TT} (h : PTs X ifs t) (i : ∀ σ H Q, t' σ H Q → t σ H Q) : PTs X ifs t' := ⟨fun pins s σ H Q I w => h.run pins s σ H Q I (i _ _ _ w)⟩
theorem jts_nil : PTs X [] (TTof P fun _ Q => Q true) := pts_imp pts_nil fun σ H Q' h => by
  obtain ⟨ρ, G, F, Q, S, q, k⟩ := h
  exact k true H G F (.refl S) q
theorem jts_one (h : JT X P c u) : PTs X [c] (TTof P u) := pts_one h
structure DEnds where
  nx : List SV → Prop
  rt : List SV → Rv → Prop
  bk : List SV → Prop := fun _ => False
  ct : List SV → Prop := fun _ => False
abbrev TDs := DEnds → List SV → Prop
structure SitS (P : Par) (ρ0 : List SV) (σ0 : Sg) (H0 G0 : Hp) (F0 : FP) (ρ : List SV) (σ : Sg) (H G : Hp) (F : FP) : Prop where
  st : StOk P ρ σ H G F
  ev : StS ρ0 σ0 H0 G0 F0 ρ σ H G F
  pin : ∀ i : Nat, P.pin i = true → σ[i]? = σ0[i]?
  at0 : P.At ρ0 σ0 H0 G0 F0
theorem SitS.mk' (at0 : P.At ρ0 σ0 H0 G0 F0) (st : P.At ρ σ H G F → StOk P ρ σ H G F) (ev : StS ρ0 σ0 H0 G0 F0 ρ σ H G F) (pin : ∀ i : Nat, P.pin i = true → σ[i]? = σ0[i]?) : SitS P ρ0 σ0 H0 G0 F0 ρ σ H G F := ⟨st (at0.step ev), ev, pin, at0⟩
theorem Sit.s (s : Sit P ρ σ H0 G0 F0 H G F) : SitS P ρ σ H0 G0 F0 ρ σ H G F := ⟨s.st, s.ev.st, fun _ _ => rfl, s.at0⟩
theorem SitS.refl (S : StOk P ρ σ H G F) : SitS P ρ σ H G F ρ σ H G F := ⟨S, .refl, fun _ _ => rfl, S.er⟩
theorem SitS.trans (s : SitS P ρ0 σ0 H0 G0 F0 ρ1 σ1 H1 G1 F1) (t : SitS P ρ1 σ1 H1 G1 F1 ρ2 σ2 H2 G2 F2) : SitS P ρ0 σ0 H0 G0 F0 ρ2 σ2 H2 G2 F2 := ⟨t.st, s.ev.trans t.ev, fun i h => (t.pin i h).trans (s.pin i h), s.at0⟩
/-- new, or of a slot of one's own -/
def RetL (ρ : List SV) (H : Hp) (F : FP) (L : List Addr) : Prop := ∀ a ∈ L, H a = none ∨ ∃ j, a ∈ F j ∧ ρ[j]? ≠ some .wl
theorem StS.retl {L : List Addr} (s : StS ρ σ H G F ρ1 σ1 H1 G1 F1) (h : RetL ρ1 H1 F1 L) : RetL ρ H F L := fun a m => by
  rcases h a m with q | ⟨j, q, w⟩
  · cases e : H a with
    | none => exact .inl rfl
    | some o => exact absurd q (s.ex a (by rw [e]; simp))
  · rcases s.fnew j a q with z | z | z
    · exact .inr ⟨j, z, fun e => w (s.wls j e).1⟩
    · exact .inr z
    · exact .inl z
structure KontS (P : Par) (ρ : List SV) (σ : Sg) (H G : Hp) (F : FP) (Dd : DEnds) (D : Ends) : Prop where
  nx : ∀ ρ' σ' H' G' F', SitS P ρ σ H G F ρ' σ' H' G' F' → Dd.nx ρ' → D.nx σ' H'
  rt : ∀ v r ρ' σ' H' G' F' L, SitS P ρ σ H G F ρ' σ' H' G' F' → RvOk P ρ' σ' H' G' F' v r L → RetL ρ H F L → Dd.rt ρ' r → D.rt v H'
  bk : ∀ ρ' σ' H' G' F', SitS P ρ σ H G F ρ' σ' H' G' F' → Dd.bk ρ' → D.bk σ' H'
  ct : ∀ ρ' σ' H' G' F', SitS P ρ σ H G F ρ' σ' H' G' F' → Dd.ct ρ' → D.ct σ' H'
def TSof (P : Par) (t : TDs) : TS := fun D σ H => ∃ ρ G F Dd, StOk P ρ σ H G F ∧ t Dd ρ ∧ KontS P ρ σ H G F Dd D
abbrev JS (X : Cx) (P : Par) (s : Stmt) (t : TDs) : Prop := PS X s (TSof P t)
abbrev JSs (X : Cx) (P : Par) (ss : List Stmt) (t : TDs) : Prop := PSs X ss (TSof P t)
theorem KontS.after {Dd : DEnds} {D : Ends} (k : KontS P ρ σ H G F Dd D) (s : SitS P ρ σ H G F ρ1 σ1 H1 G1 F1) : KontS P ρ1 σ1 H1 G1 F1 Dd D :=
  ⟨fun ρ' σ' H' G' F' z q => k.nx ρ' σ' H' G' F' (s.trans z) q, fun v r ρ' σ' H' G' F' L z o n q => k.rt v r ρ' σ' H' G' F' L (s.trans z) o (s.ev.retl n) q, fun ρ' σ' H' G' F' z q => k.bk ρ' σ' H' G' F' (s.trans z) q, fun ρ' σ' H' G' F' z q => k.ct ρ' σ' H' G' F' (s.trans z) q⟩
abbrev seqT (t u : TDs) : TDs := fun D ρ => t { D with nx := u D } ρ
variable {s1 s2 tb : TDs} {st : Stmt} {rest body ss1 ss2 : List Stmt}
theorem js_nil : JSs X P [] (fun D ρ => D.nx ρ) := pss_imp pss_nil fun D σ H h => by
  obtain ⟨ρ, G, F, Dd, S, q, k⟩ := h
  exact k.nx ρ σ H G F (.refl S) q
theorem js_cons (h1 : JS X P st s1) (h2 : JSs X P rest s2) : JSs X P (st :: rest) (seqT s1 s2) := pss_imp (pss_cons h1 h2) fun D σ H h => by
  obtain ⟨ρ, G, F, Dd, S, q, k⟩ := h
  exact ⟨ρ, G, F, _, S, q, ⟨fun ρ' σ' H' G' F' z q => ⟨ρ', G', F', Dd, z.st, q, k.after z⟩, k.rt, k.bk, k.ct⟩⟩
theorem js_ret (he : JE X P e t) : JS X P (.Return (some e) pos) (fun D ρ => t ρ fun r => D.rt ρ r) := ps_imp (ps_ret he) fun D σ H h => by
  obtain ⟨ρ, G, F, Dd, S, q, k⟩ := h
  exact ⟨ρ, G, F, _, S, q, fun v r H' G' F' L s o n q => k.rt v r ρ σ H' G' F' L s.s o (fun a m => .inl (n a m)) q⟩
abbrev ifT (c : TDt) (t u : TDs) : TDs := fun D ρ => c ρ fun b => if b = true then t D ρ else u D ρ
theorem js_if (hc : JT X P c u) (h1 : JSs X P ss1 s1) (h2 : JSs X P ss2 s2) : JS X P (.If c ss1 ss2 pos) (ifT u s1 s2) := ps_imp (ps_if hc h1 h2) fun D σ H h => by
  obtain ⟨ρ, G, F, Dd, S, q, k⟩ := h
  refine ⟨ρ, G, F, _, S, q, fun b H' G' F' s q => ?_⟩
  cases b with
  | true => exact ⟨ρ, G', F', Dd, s.st, q, k.after s.s⟩
  | false => exact ⟨ρ, G', F', Dd, s.st, q, k.after s.s⟩
def forT (pat : Pat) (tb : TDs) : List PD → TDs
  | [], D, ρ => D.nx ρ
  | d :: ds, D, ρ => ∃ ρ1, bindP pat d ρ = some ρ1 ∧ tb { D with nx := forT pat tb ds D, ct := forT pat tb ds D, bk := D.nx } ρ1
abbrev forS (it : TDi) (pat : Pat) (tb : TDs) : TDs := fun D ρ => it ρ fun b ds => b = false ∧ forT pat tb ds D ρ
theorem Bound.ev {sl : List Nat} (B : Bound P ρ ρ' σ σ' F F' sl H G) (er : P.At ρ σ H G F) (hp : ∀ j ∈ sl, P.pin j = false) : SitS P ρ σ H G F ρ' σ' H G F' := ⟨B.st, ⟨.refl _, fun _ e => e, fun _ _ e _ => e, fun _ _ _ e => e, fun i a m => .inl (B.sub i a m), B.wls⟩, fun i h => (B.same i fun m => by rw [hp i m] at h; cases h).1, er⟩
theorem js_for {tg iter : Expr} {it : TDi} {pat : Pat} (C : CxF X P) (hi : JI X P tg iter it) (hg : PG X tg (GP P pat)) (hb : JSs X P body tb) (hs : ∀ x, foldedSetIterable iter X.env x = pure x) (hpn : ∀ j ∈ pat.slots, P.pin j = false) :
    JS X P (.For tg iter body [] pos) (forS it pat tb) := ps_imp (ps_for C.po C.calm hi hg hb hs) fun D σ H h => by
  obtain ⟨ρ, G, F, Dd, S, q, k⟩ := h
  refine ⟨ρ, G, F, _, S, q, fun J b ds H1 G1 F1 Hd s l nw hb io q => ?_⟩
  obtain ⟨rfl, q⟩ := q
  have hg := hb rfl
  refine ⟨fun i m σ2 H2 => m = ds.length - i ∧ i ≤ ds.length ∧ ∃ ρ2 G2 F2, SitS P ρ σ H1 G1 F1 ρ2 σ2 H2 G2 F2 ∧ forT pat tb (ds.drop i) Dd ρ2, ⟨_, rfl, Nat.zero_le _, ρ, G1, F1, .refl s.st, q⟩, ?_⟩
  rintro i m σ2 H2 ⟨rfl, hi, ρ2, G2, F2, z, q⟩
  have lG : Le Hd G2 := hg.trans z.ev.gle
  have lH : Le Hd H2 := lG.trans z.st.le
  by_cases hlt : i < ds.length
  · refine .inr ⟨io.go i H2 lH hlt, fun σ' H' => ∃ ρ2 G2 F2, SitS P ρ σ H1 G1 F1 ρ2 σ' H' G2 F2 ∧ forT pat tb (ds.drop (i + 1)) Dd ρ2, fun σ' H' x => ⟨ds.length - (i + 1), by omega, rfl, hlt, x⟩, fun x H' y => ?_⟩
    rw [List.drop_eq_getElem_cons hlt] at q
    obtain ⟨ρ3, eb, q⟩ := q
    have st : ∃ G3, SitS P ρ σ H1 G1 F1 ρ2 σ2 H' G3 F2 ∧ Rep P.w P.K G3 x ds[i] := by
      rcases io.yld i H2 x H' ds[i] lH (List.getElem?_eq_getElem hlt) y with ⟨rfl, r⟩ | ⟨T, xs, es, rfl, hT, rfl, ed, r⟩
      · exact ⟨G2, z, r.mono lG⟩
      · refine ⟨upd G2 T (.tup xs), z.trans ⟨z.st.pushG hT, (StE.pushG hT z.st.le).st, fun _ _ => rfl, z.st.er⟩, ?_⟩
        rw [ed]
        exact .tup (.of upd_same) (Reps.mono (lG.trans (Le.upd (z.st.le.none hT))) r)
    obtain ⟨G3, z3, r3⟩ := st
    refine ⟨ρ2, G3, F2, ds[i], ρ3, z3.st, r3, eb, fun σ3 F3 B => ?_⟩
    have z4 := z3.trans (B.ev z3.st.er hpn)
    have kk : ∀ ρ' σ' H' G' F', SitS P ρ3 σ3 _ G3 F3 ρ' σ' H' G' F' → forT pat tb (ds.drop (i + 1)) Dd ρ' → ∃ ρ2 G2 F2, SitS P ρ σ H1 G1 F1 ρ2 σ' H' G2 F2 ∧ forT pat tb (ds.drop (i + 1)) Dd ρ2 := fun ρ' σ' H' G' F' z5 q => ⟨ρ', G', F', z4.trans z5, q⟩
    have ka := (k.after s.s).after z4
    exact ⟨ρ3, G3, F3, _, B.st, q, ⟨kk, ka.rt, ka.nx, kk⟩⟩
  · have e : i = ds.length := by omega
    subst e
    rw [List.drop_length] at q
    exact .inl ⟨io.stop H2 lH, (k.after s.s).nx ρ2 σ2 H2 G2 F2 z q⟩
end Rz
namespace Rz
open PySem PySem.Spec PyProof.Rows L2
variable {X : Cx} {P : Par} {ρ ρ' ρ0 ρ1 ρ2 : List SV} {σ σ' σ0 σ1 σ2 : Sg} {H0 G0 H G G' H' H1 G1 H2 G2 : Hp} {F0 F F' F1 F2 : FP} {a b c e : Expr} {es : List Expr} {pos : Pos} {t t1 t2 t3 : TD} {ta : TDa} {u : TDt}
/-- the kind of slot that keeps a value -/
def slotOf : Rv → Option SV
  | .cl d => some (.sh d)
  | .fr o => some (.ow o)
  | .wl => some .wl
  | _ => none
def setS (i : Nat) (r : Rv) (ρ : List SV) : Option (List SV) := if slotFree ρ i = true then (slotOf r).map (ρ.set i) else none
def setsS : List Nat → List Rv → List SV → Option (List SV)
  | [], [], ρ => some ρ
  | i :: is, r :: rs, ρ => (setS i r ρ).bind (setsS is rs)
  | _, _, _ => none
theorem slotOf_ok {r : Rv} {sv : SV} {v : V} {L : List Addr} (e : slotOf r = some sv) (h : RvOk P ρ σ H G F v r L) : SlotOk P H G sv (some (some v)) L ∧ L.Nodup ∧ ∀ a ∈ L, G a = none ∧ ¬ inF F a := by
  cases r with
  | cl d => cases e; exact ⟨⟨⟨v, rfl, h.1⟩, h.2⟩, by rw [h.2]; exact List.nodup_nil, fun a m => by rw [h.2] at m; cases m⟩
  | fr o => cases e; exact ⟨⟨v, rfl, FrOk.own h⟩, FrOk.nd h, FrOk.off h⟩
  | wl => cases e; obtain ⟨o, h, z⟩ := h; exact ⟨⟨v, o, rfl, h.own, z⟩, h.nd, h.off⟩
  | dr d => cases e
  | ws i => cases e
  | sc ns => cases e
theorem setS_some {i : Nat} {r : Rv} (e : setS i r ρ = some ρ') : slotFree ρ i = true ∧ ∃ sv, slotOf r = some sv ∧ ρ' = ρ.set i sv := by
  unfold setS at e
  split at e
  · rename_i h
    cases q : slotOf r with
    | none => rw [q] at e; cases e
    | some sv => rw [q] at e; cases e; exact ⟨h, sv, rfl, rfl⟩
  · cases e
theorem inF_upd {i : Nat} {L : List Addr} {x : Addr} (h : inF (updF F i L) x) : inF F x ∨ x ∈ L := by
  obtain ⟨j, m⟩ := h
  by_cases e : j = i
  · subst e; rw [updF_same] at m; exact .inr m
  · rw [updF_ne e] at m; exact .inl ⟨j, m⟩
theorem SitS.setR {i : Nat} {r : Rv} {v : V} {L : List Addr} (s : SitS P ρ0 σ0 H0 G0 F0 ρ σ H G F) (o : RvOk P ρ1 σ1 H G F v r L) (n : RetL ρ0 H0 F0 L) (hp : P.pin i = false) (e : setS i r ρ = some ρ') : SitS P ρ0 σ0 H0 G0 F0 ρ' (σ.set i (some v)) H G (updF F i L) := by
  obtain ⟨fr, sv, e1, rfl⟩ := setS_some e
  obtain ⟨ok, nd, off⟩ := slotOf_ok e1 o
  refine SitS.mk' s.at0 (fun er => s.st.set fr ok nd off er) ⟨s.ev.gle, s.ev.ex, s.ev.keep, s.ev.gnew, fun j a m => ?_, fun j w => ?_⟩ (fun j w => ?_)
  · by_cases z : j = i
    · subst z; rw [updF_same] at m; exact .inr ((n a m).elim .inr .inl)
    · rw [updF_ne z] at m; exact s.ev.fnew j a m
  · obtain ⟨w1, w2⟩ := s.ev.wls j w
    have ne : i ≠ j := fun z => (slotFree_lt fr).2 (z ▸ w1)
    exact ⟨(List.getElem?_set_ne ne).trans w1, (List.getElem?_set_ne ne).trans w2⟩
  · have ne : i ≠ j := fun z => by subst z; rw [hp] at w; cases w
    exact (List.getElem?_set_ne ne).trans (s.pin j w)
def setsV : Sg → List Nat → List V → Sg
  | σ, i :: is, v :: vs => setsV (σ.set i (some v)) is vs
  | σ, _, _ => σ
/-- values behind a store elsewhere -/
theorem RvOk.setF {i : Nat} {L M : List Addr} {v : V} {r : Rv} (h : RvOk P ρ σ H G F v r L) (hw : slotOf r ≠ none) (dj : ∀ a ∈ L, a ∉ M) : RvOk P ρ1 σ1 H G (updF F i M) v r L := by
  have fr : ∀ {o}, FrOk P H G F v o L → FrOk P H G (updF F i M) v o L := fun h => ⟨h.own, h.nd, fun a m => ⟨(h.off a m).1, fun z => (inF_upd z).elim (h.off a m).2 (dj a m)⟩⟩
  cases r with
  | cl d => exact h
  | fr o => exact fr h
  | wl => obtain ⟨o, h, z⟩ := h; exact ⟨o, fr h, z⟩
  | dr d => exact absurd rfl hw
  | ws i => exact absurd rfl hw
  | sc ns => exact absurd rfl hw
theorem setsS_ok : ∀ {is : List Nat} {rs : List Rv} {ρ ρ' : List SV}, setsS is rs ρ = some ρ' → rs.length = is.length ∧ ∀ r ∈ rs, slotOf r ≠ none
  | [], [], _, _, _ => ⟨rfl, fun _ m => nomatch m⟩
  | i :: is, r :: rs, ρ, ρ', e => by
    rw [setsS] at e
    obtain ⟨ρ1, e1, e2⟩ := Option.bind_eq_some_iff.mp e
    obtain ⟨h1, h2⟩ := setsS_ok e2
    obtain ⟨_, sv, e3, _⟩ := setS_some e1
    refine ⟨by simp [h1], fun x m => ?_⟩
    rcases List.mem_cons.mp m with z | z
    · subst z; rw [e3]; simp
    · exact h2 x z
  | [], _ :: _, _, _, e => by cases e
  | _ :: _, [], _, _, e => by cases e
theorem RvsOk.setF {i : Nat} {L M : List Addr} {vs : List V} {rs : List Rv} (h : RvsOk P ρ σ H G F vs rs L) (hw : ∀ r ∈ rs, slotOf r ≠ none) (dj : ∀ a ∈ M, a ∉ L) : RvsOk P ρ1 σ1 H G (updF F i M) vs rs L := by
  induction h with
  | nil => exact .nil
  | cons x _ d ih => exact .cons (x.setF (hw _ List.mem_cons_self) fun a m z => dj a z (List.mem_append_left _ m)) (ih (fun r m => hw r (List.mem_cons_of_mem _ m)) fun a m z => dj a m (List.mem_append_right _ z)) d
theorem SitS.setsR {is : List Nat} (hp : ∀ i ∈ is, P.pin i = false) : ∀ {rs : List Rv} {vs : List V} {L : List Addr} {ρ ρ' : List SV} {σ : Sg} {F : FP}, SitS P ρ0 σ0 H0 G0 F0 ρ σ H G F → RvsOk P ρ1 σ1 H G F vs rs L → New H0 L → setsS is rs ρ = some ρ' →
    ∃ F', SitS P ρ0 σ0 H0 G0 F0 ρ' (setsV σ is vs) H G F' := by
  induction is with
  | nil =>
    intro rs vs L ρ ρ' σ F s o n e
    cases rs with
    | nil => cases o; cases e; exact ⟨F, s⟩
    | cons _ _ => cases e
  | cons i is ih =>
    intro rs vs L ρ ρ' σ F s o n e
    cases rs with
    | nil => cases e
    | cons r rs =>
      obtain ⟨_, hw⟩ := setsS_ok e
      rw [setsS] at e
      obtain ⟨ρ2, e1, e2⟩ := Option.bind_eq_some_iff.mp e
      cases o with
      | cons a b d => exact ih (fun j m => hp j (List.mem_cons_of_mem _ m)) (s.setR a (fun x m => .inl (n x (List.mem_append_left _ m))) (hp i List.mem_cons_self) e1) (b.setF (fun r m => hw r (List.mem_cons_of_mem _ m)) d) (fun x m => n x (List.mem_append_right _ m)) e2
abbrev asgT (i : Nat) (t : TD) : TDs := fun D ρ => t ρ fun r => ∃ ρ', setS i r ρ = some ρ' ∧ D.nx ρ'
theorem tasg_imp {i : Nat} {D : Ends} {te : TE} (hp : P.pin i = false) (hi : ∀ σ H Q, TEof P t σ H Q → te σ H Q) (h : TSof P (asgT i t) D σ H) : tAsg te (gName i) D σ H := by
  obtain ⟨ρ, G, F, Dd, S, q, k⟩ := h
  refine hi _ _ _ ⟨ρ, G, F, _, S, q, fun v r H' G' F' L s o n q => ?_⟩
  obtain ⟨ρ', e, q⟩ := q
  exact k.nx ρ' _ H' G' _ (s.s.setR o (fun a m => .inl (n a m)) hp e) q
theorem js_set {i : Nat} {x : Str} {pos' : Pos} (C : CxF X P) (hi : X.N[i]? = some x) (hx : Loc X.env.scope x) (he : JE X P e t) (hs : swapsWith e (some (.Name x pos')) pos.line X.env = pure false) (hf : X.fn x = true ∨ X.env.scope.names.lookup x = some .local) (hp : P.pin i = false) :
    JS X P (.Assign [.Name x pos'] e pos) (asgT i t) := ps_imp (ps_set C.nd hi hx he hs hf) fun D σ H h => tasg_imp hp (fun _ _ _ h => h) h
theorem js_setLc {i : Nat} {y : Str} {py : Pos} {elt tg iter : Expr} {ifs : List Expr} {scope : Scope} {own : List (Str × Nat)} {pos spos : Pos} {it : TDi} {pat : Pat} (C : CxF X P) (hy : X.N[i]? = some y) (hyl : X.env.scope.names.lookup y = some .local)
    (hsw : swapsWith (.ListComp elt [⟨tg, iter, ifs, 0⟩] scope pos) (some (.Name y py)) spos.line X.env = pure true) (hi : JI X P tg iter it) (ok : BlkOk X.N X.env.scope scope own)
    (hg : ∀ (s : Shared) (H : Hp) (C : Addr) (cl : List (Str × Addr)) (fp : List Addr), PG (X.blk s H scope (compEnvC scope cl C X.env) fp) tg (GP P.nb pat))
    (ht : ∀ (s : Shared) (H : Hp) (C : Addr) (cl : List (Str × Addr)) (fp : List Addr), PTs (X.blk s H scope (compEnvC scope cl C X.env) fp) ifs (TTof P.nb u))
    (he : ∀ (s : Shared) (H : Hp) (C : Addr) (cl : List (Str × Addr)) (fp : List Addr), JE (X.blk s H scope (compEnvC scope cl C X.env) fp) P.nb elt t) (hs : ∀ x, foldedSetIterable iter X.env x = pure x) (hsl : ∀ j ∈ pat.slots, j ∈ own.map (·.2)) (hp : P.pin i = false) :
    JS X P (.Assign [.Name y py] (.ListComp elt [⟨tg, iter, ifs, 0⟩] scope pos) spos) (asgT i (lcT it pat u t (own.map (·.2)))) :=
  ps_imp (ps_setLc C.calm C.nd hy hyl hsw hi ok hg ht he hs) fun D σ H h => tasg_imp hp (fun _ _ _ h => tlc_imp hsl h) h
abbrev patT (pat : Pat) (t : TD) : TDs := fun D ρ => t ρ fun r => ∃ d ρ', r = .cl d ∧ bindP pat d ρ = some ρ' ∧ D.nx ρ'
theorem js_pat {tg : Expr} {pat : Pat} (he : JE X P e t) (hg : PG X tg (GP P pat)) (hs : swapsWithSole [tg] e pos.line X.env = pure false) (hw : swappedStores [tg] e X.env = pure none) (h1 : (assignEach [tg] X.env).map (·.2) = [assign tg X.env]) (hpn : ∀ j ∈ pat.slots, P.pin j = false) :
    JS X P (.Assign [tg] e pos) (patT pat t) := ps_imp (ps_asg he hg hs hw h1) fun D σ H h => by
  obtain ⟨ρ, G, F, Dd, S, q, k⟩ := h
  refine ⟨ρ, G, F, _, S, q, fun v r H' G' F' L s o n q => ?_⟩
  obtain ⟨d, ρ', rfl, e, q⟩ := q
  exact ⟨ρ, G', F', d, ρ', s.st, o.1, e, fun σ' F2 B => k.nx ρ' σ' H' G' F2 (s.s.trans (B.ev s.st.er hpn)) q⟩
def tMul (is : List Nat) (ta : TA) : TS := fun D σ H => ta σ H fun vs H1 => vs.length = is.length ∧ is.length ≤ sizeLine ∧ D.nx (setsV σ is vs) H1 ∧ ∀ p, H1 p = none → D.nx (setsV σ is vs) (upd H1 p (.tup vs))
theorem setsV_append : ∀ {is : List Nat} {vs : List V} {js : List Nat} {ws : List V} {σ : Sg}, is.length = vs.length → setsV σ (is ++ js) (vs ++ ws) = setsV (setsV σ is vs) js ws
  | [], [], _, _, _, _ => rfl
  | i :: is, v :: vs, js, ws, σ, h => by
    show setsV (σ.set i (some v)) (is ++ js) (vs ++ ws) = _
    rw [setsV_append (by simpa using h)]
    rfl
  | [], _ :: _, _, _, _, h => by simp at h
  | _ :: _, [], _, _, _, h => by simp at h
theorem setsV_set : ∀ {is : List Nat} {vs : List V} {σ : Sg} {i : Nat} {v : V}, i ∉ is → setsV (σ.set i (some v)) is vs = (setsV σ is vs).set i (some v)
  | [], _, _, _, _, _ => by cases ‹List V› <;> rfl
  | j :: is, [], _, _, _, _ => rfl
  | j :: is, w :: vs, σ, i, v, h => by
    rw [List.mem_cons, not_or] at h
    show setsV ((σ.set i (some v)).set j (some w)) is vs = _
    rw [List.set_comm _ _ h.1, setsV_set h.2]
    rfl
theorem setsV_rev : ∀ {is : List Nat} {vs : List V} {σ : Sg}, is.Nodup → is.length = vs.length → setsV σ is.reverse vs.reverse = setsV σ is vs
  | [], [], _, _, _ => rfl
  | i :: is, v :: vs, σ, nd, h => by
    rw [List.nodup_cons] at nd
    have h' : is.length = vs.length := by simpa using h
    rw [List.reverse_cons, List.reverse_cons, setsV_append (by simpa using h'), setsV_rev nd.2 h']
    show (setsV σ is vs).set i (some v) = setsV (σ.set i (some v)) is vs
    rw [setsV_set nd.1]
  | [], _ :: _, _, _, h => by simp at h
  | _ :: _, [], _, _, h => by simp at h
/-- slots and names belong together, as plain locals -/
def NmAll (X : Cx) : List Nat → List Str → Prop
  | [], [] => True
  | i :: is, x :: xs => (X.N[i]? = some x ∧ Loc X.env.scope x ∧ (X.fn x = true ∨ X.env.scope.names.lookup x = some .local)) ∧ NmAll X is xs
  | _, _ => False
theorem NmAll.append : ∀ {is js : List Nat} {xs ys : List Str}, NmAll X is xs → NmAll X js ys → NmAll X (is ++ js) (xs ++ ys)
  | [], _, [], _, _, h => h
  | i :: is, _, x :: xs, _, h, g => ⟨h.1, NmAll.append h.2 g⟩
theorem NmAll.rev : ∀ {is : List Nat} {xs : List Str}, NmAll X is xs → NmAll X is.reverse xs.reverse
  | [], [], _ => trivial
  | i :: is, x :: xs, h => by rw [List.reverse_cons, List.reverse_cons]; exact (NmAll.rev h.2).append ⟨h.1, trivial⟩
theorem NmAll.len : ∀ {is : List Nat} {xs : List Str}, NmAll X is xs → is.length = xs.length
  | [], [], _ => rfl
  | i :: is, x :: xs, h => by simp [NmAll.len h.2]
theorem stores_ok {pins : List (Addr × Obj)} {H : Hp} {Q : Unit → Shared → Prop} : ∀ {is : List Nat} {xs : List Str} {vs : List V} {us : List Value} {s : Shared} {σ : Sg}, X.N.Nodup → NmAll X is xs → Vals vs us → vs.length = is.length → Inv X pins σ H s →
    (∀ s', Inv X pins (setsV σ is vs) H s' → Q () s') → wpAny (model X.prog X.w) X.A (assignInOrder (xs.map fun n => bindName X.env n) us) Q X.xe s
  | [], [], [], _, s, σ, _, _, r, _, I, h => by cases r; exact assignInOrder_nil (h s I)
  | i :: is, x :: xs, v :: vs, _, s, σ, nd, hn, r, l, I, h => by
    cases r with
    | cons r rr =>
      obtain ⟨⟨h1, h2, h3⟩, hn⟩ := hn
      exact assignInOrder_cons (wpAny_bindName (store_ok I nd h1 h2 r (fun s2 I2 => stores_ok nd hn rr (by simpa using l) I2 h) h3))
  | _ :: _, _ :: _, [], _, _, _, _, _, _, l, _, _ => by simp at l
  | [], [], _ :: _, _, _, _, _, _, _, l, _, _ => by simp at l
theorem ps_mulS {ts : List Expr} {is : List Nat} {xs : List Str} {kt k2 : Nat} {pt pt2 : Pos} {ta : TA} (hc : X.calm = true) (nd : X.N.Nodup) (hn : NmAll X is xs) (ni : is.Nodup) (ha : PA X es ta)
    (hw : swappedStores [.Tuple ts kt pt] (.Tuple es k2 pt2) X.env = pure (some xs)) (hs : swapsWithSole [.Tuple ts kt pt] (.Tuple es k2 pt2) pos.line X.env = pure false) :
    PS X (.Assign [.Tuple ts kt pt] (.Tuple es k2 pt2) pos) (tMul is ta) := by
  refine ⟨fun pins s σ H D I h => ?_⟩
  rw [exec_Assign_arm, hs]
  refine wpAny_bind (wpAny_standAt (wpAny_bind (wpAny_pure ?_)))
  rw [if_neg Bool.false_ne_true]
  refine wpAny_bind (Tuple_ (thn (ha.run _ pins s σ H _ I h) fun us s1 ⟨vs, H1, I1, r1, l1, z1, q1, _⟩ => ?_))
  have lu : us.length = is.length := by rw [← r1.length]; exact l1
  refine wpAny_newObj_type ?_ (by show us.toArray.size ≤ sizeLine; rw [List.size_toArray, lu]; exact z1)
  have I2 : Inv X pins σ H1 { s1 with heap := s1.heap.push { cls := .type "tuple", data := .seq us.toArray } } := I1.kept (t' := s1.toks) fun b o e => Heap.get?_push_of_some _ e
  rw [hw]
  refine wpAny_bind (wpAny_pure ?_)
  have lx : xs.length = us.toArray.size := by rw [← hn.len, ← lu]; simp
  show wpAny (model X.prog X.w) X.A (do rule "assign.swapped-stores"; let items ← unpackItems (.ref s1.heap.objs.size) xs.length none; assignInOrder (xs.reverse.map fun n => bindName X.env n) items.reverse; pure Flow.next) _ _ _
  rw [lx]
  refine wpAny_bind (wpAny_rule (wpAny_bind (unpackItems_tuple (items := us.toArray) (I.ok.hd hc) (IsTup.new s1.heap _) fun h' hx' => ?_)))
  have I3 := I2.kept (h' := h') (t' := s1.toks) fun b o e => hx' b o (Nat.ne_of_lt (Heap.lt_size e)) e
  have rr : Vals vs.reverse us.toArray.toList.reverse := by
    rw [List.toList_toArray]
    exact r1.reverse
  refine wpAny_bind (stores_ok nd hn.rev rr (by simpa using l1) I3 fun s2 I4 => wpAny_pure ?_)
  rw [setsV_rev ni (by omega)] at I4
  exact ⟨_, H1, I4, q1⟩
/-- targets that are these names -/
def NmTs : List Expr → List Str → Prop
  | [], [] => True
  | .Name y _ :: ts, x :: xs => y = x ∧ NmTs ts xs
  | _, _ => False
def gNms (is : List Nat) : TGs := fun vs σ H Q => vs.length = is.length ∧ Q (setsV σ is vs) H
theorem pgs_nms : ∀ {ts : List Expr} {is : List Nat} {xs : List Str}, X.N.Nodup → NmAll X is xs → NmTs ts xs → PGs X ts (gNms is)
  | [], [], [], _, _, _ => pgs_imp pgs_nil fun vs σ H Q h => by
    obtain ⟨l, q⟩ := h
    cases vs with
    | nil => exact ⟨rfl, q⟩
    | cons _ _ => simp at l
  | .Name y p :: ts, i :: is, x :: xs, nd, hn, ht => by
    obtain ⟨rfl, ht⟩ := ht
    obtain ⟨⟨h1, h2, h3⟩, hn⟩ := hn
    refine pgs_imp (pgs_cons (pg_name nd h1 h2 h3) (pgs_nms nd hn ht) rfl) fun vs σ H Q h => ?_
    obtain ⟨l, q⟩ := h
    cases vs with
    | nil => simp at l
    | cons v vs => exact ⟨v, vs, rfl, by simpa using l, q⟩
  | [], i :: is, xs, _, hn, ht => by
    cases xs with
    | nil => exact hn.elim
    | cons _ _ => exact ht.elim
  | .Name y p :: ts, [], xs, _, hn, ht => by
    cases xs with
    | nil => exact ht.elim
    | cons _ _ => exact hn.elim
theorem nmTs_each (X : Cx) : ∀ {ts : List Expr} {xs : List Str}, NmTs ts xs → (assignEach ts X.env).length = xs.length ∧ (assignEach ts X.env).findIdx? (·.1) = none
  | [], [], _ => ⟨rfl, rfl⟩
  | .Name y p :: ts, x :: xs, h => by
    obtain ⟨h1, h2⟩ := nmTs_each X h.2
    have e : assignEach (.Name y p :: ts) X.env = (false, assign (.Name y p) X.env) :: assignEach ts X.env := rfl
    rw [e]
    refine ⟨by simp [h1], ?_⟩
    rw [List.findIdx?_cons, h2]
    rfl
abbrev mulT (is : List Nat) (ta : TDa) : TDs := fun D ρ => ta ρ fun rs => is.length ≤ sizeLine ∧ ∃ ρ', setsS is rs ρ = some ρ' ∧ D.nx ρ'
theorem tmul_imp {is : List Nat} {D : Ends} (hp : ∀ i ∈ is, P.pin i = false) (h : TSof P (mulT is ta) D σ H) : tMul is (TAof P ta) D σ H := by
  obtain ⟨ρ, G, F, Dd, S, q, k⟩ := h
  refine ⟨ρ, G, F, _, S, q, fun vs rs H' G' F' L s o n q => ?_⟩
  obtain ⟨z, ρ', e, q⟩ := q
  obtain ⟨F2, s2⟩ := s.s.setsR hp o n e
  refine ⟨by rw [o.len]; exact (setsS_ok e).1, z, k.nx ρ' _ H' G' F2 s2 q, fun p hq => ?_⟩
  exact k.nx ρ' _ _ G' F2 (s2.trans ⟨s2.st.push hq, (StE.push hq).st, fun _ _ => rfl, s2.st.er⟩) q
theorem js_mul {ts : List Expr} {is : List Nat} {xs : List Str} {kt k2 : Nat} {pt pt2 : Pos} (C : CxF X P) (hn : NmAll X is xs) (ht : NmTs ts xs) (ni : is.Nodup) (ha : JA X P es ta)
    (hw : swappedStores [.Tuple ts kt pt] (.Tuple es k2 pt2) X.env = pure (some xs) ∨ swappedStores [.Tuple ts kt pt] (.Tuple es k2 pt2) X.env = pure none) (hs : swapsWithSole [.Tuple ts kt pt] (.Tuple es k2 pt2) pos.line X.env = pure false) (hp : ∀ i ∈ is, P.pin i = false) :
    JS X P (.Assign [.Tuple ts kt pt] (.Tuple es k2 pt2) pos) (mulT is ta) := by
  rcases hw with hw | hw
  · exact ps_imp (ps_mulS C.calm C.nd hn ni ha hw hs) fun _ _ _ h => tmul_imp hp h
  · obtain ⟨l1, l2⟩ := nmTs_each X ht
    refine ps_imp (ps_asg (pe_tup ha) (pg_tup C.calm (pgs_nms C.nd hn ht) l1 l2) hs hw rfl) fun D σ H h => ?_
    obtain ⟨ρ, G, F, Dd, S, q, k⟩ := tmul_imp hp h
    have l := hn.len
    exact ⟨ρ, G, F, Dd, S, q, fun vs rs H' G' F' L s o n q => by
      obtain ⟨h1, h2, _, h3⟩ := k vs rs H' G' F' L s o n q
      exact ⟨by rw [h1]; exact h2, fun p hq => ⟨p, vs, rfl, .of upd_same, by omega, h1, h3 p hq⟩⟩⟩
end Rz
namespace Rz
open PySem PySem.Spec PyProof.Rows L2
variable {X : Cx} {P : Par} {ρ ρ' ρ0 ρ1 ρ2 : List SV} {σ σ' σ0 σ1 σ2 : Sg} {H0 G0 H G G' H' H1 G1 H2 G2 : Hp} {F0 F F' F1 F2 : FP} {a b c e : Expr} {es : List Expr} {pos : Pos} {t t1 t2 t3 : TD} {ta : TDa} {u : TDt} {w : World} {K : PySem.W.Frag}
def subO : OD → List Nat → Option OD
  | o, [] => some o
  | .ls xs, n :: p => (xs[n]?).bind fun x => subO x p
  | .dc kvs, n :: p => (kvs[n]?).bind fun x => subO x.2 p
  | .lf _, _ :: _ => none
def putO : OD → List Nat → OD → OD
  | _, [], o2 => o2
  | .ls xs, n :: p, o2 => match xs[n]? with
    | some x => .ls (xs.set n (putO x p o2))
    | none => .ls xs
  | .dc kvs, n :: p, o2 => match kvs[n]? with
    | some x => .dc (kvs.set n (x.1, putO x.2 p o2))
    | none => .dc kvs
  | .lf d, _ :: _, _ => .lf d
theorem subO_app : ∀ {p : List Nat} {o o1 : OD} {q : List Nat}, subO o p = some o1 → subO o (p ++ q) = subO o1 q
  | [], o, o1, q, h => by cases h; rfl
  | n :: p, .ls xs, o1, q, h => by
    rw [subO] at h
    obtain ⟨x, e1, e2⟩ := Option.bind_eq_some_iff.mp h
    show (xs[n]?).bind _ = _
    rw [e1]
    exact subO_app e2
  | n :: p, .dc kvs, o1, q, h => by
    rw [subO] at h
    obtain ⟨x, e1, e2⟩ := Option.bind_eq_some_iff.mp h
    show (kvs[n]?).bind _ = _
    rw [e1]
    exact subO_app e2
  | n :: p, .lf d, o1, q, h => by cases h
theorem putO_app : ∀ {p : List Nat} {o o1 : OD} {q : List Nat} {o2 : OD}, subO o p = some o1 → putO o (p ++ q) o2 = putO o p (putO o1 q o2)
  | [], o, o1, q, o2, h => by cases h; rfl
  | n :: p, .ls xs, o1, q, o2, h => by
    rw [subO] at h
    obtain ⟨x, e1, e2⟩ := Option.bind_eq_some_iff.mp h
    show putO (.ls xs) (n :: (p ++ q)) o2 = _
    rw [putO, putO, e1]
    simp only
    rw [putO_app e2]
  | n :: p, .dc kvs, o1, q, o2, h => by
    rw [subO] at h
    obtain ⟨x, e1, e2⟩ := Option.bind_eq_some_iff.mp h
    show putO (.dc kvs) (n :: (p ++ q)) o2 = _
    rw [putO, putO, e1]
    simp only
    rw [putO_app e2]
  | n :: p, .lf d, o1, q, o2, h => by cases h
theorem Owns.len : ∀ {xs : List OD} {vs : List V} {F : List Addr}, Owns w K H G vs xs F → vs.length = xs.length
  | [], _, _, h => by cases h; rfl
  | _ :: _, _, _, h => by cases h with | cons _ b => simp [Owns.len b]
theorem Owns.focus : ∀ {xs : List OD} {vs : List V} {F : List Addr} {n : Nat} {x : OD}, Owns w K H G vs xs F → F.Nodup → xs[n]? = some x →
    ∃ v L, vs[n]? = some v ∧ Own w K H G v x L ∧ L.Nodup ∧ (∀ a ∈ L, a ∈ F) ∧ ∀ H2 G2 o2 L2, Own w K H2 G2 v o2 L2 → L2.Nodup → Le G G2 → (∀ a ∈ F, a ∉ L → ∀ x, H a = some x → H2 a = some x) → (∀ a ∈ L2, a ∈ L ∨ a ∉ F) →
      ∃ F3, Owns w K H2 G2 vs (xs.set n o2) F3 ∧ F3.Nodup ∧ ∀ a ∈ F3, a ∈ L2 ∨ (a ∈ F ∧ a ∉ L)
  | [], _, _, _, _, _, _, e => by simp at e
  | y :: ys, _, _, 0, x, h, nd, e => by
    cases h with
    | @cons v vs _ _ Fa Fb o r =>
      obtain rfl : y = x := by simpa using e
      rw [List.nodup_append] at nd
      obtain ⟨n1, n2, n3⟩ := nd
      refine ⟨v, Fa, rfl, o, n1, fun a m => List.mem_append_left _ m, fun H2 G2 o2 L2 h2 d2 g kp s => ⟨L2 ++ Fb, .cons h2 (r.at g fun a m => kp a (List.mem_append_right _ m) fun z => n3 a z a m rfl), List.nodup_append.mpr ⟨d2, n2, fun a m b m' e => ?_⟩, fun a m => ?_⟩⟩
      · subst e
        rcases s a m with q | q
        · exact n3 a q a m' rfl
        · exact q (List.mem_append_right _ m')
      · rcases List.mem_append.mp m with q | q
        · exact .inl q
        · exact .inr ⟨List.mem_append_right _ q, fun z => n3 a z a q rfl⟩
  | y :: ys, _, _, n + 1, x, h, nd, e => by
    cases h with
    | @cons v vs _ _ Fa Fb o r =>
      rw [List.nodup_append] at nd
      obtain ⟨n1, n2, n3⟩ := nd
      obtain ⟨v1, L, e1, o1, d1, s1, bk⟩ := Owns.focus (n := n) r n2 (by simpa using e)
      refine ⟨v1, L, by simpa using e1, o1, d1, fun a m => List.mem_append_right _ (s1 a m), fun H2 G2 o2 L2 h2 d2 g kp s => ?_⟩
      obtain ⟨F3, q1, q2, q3⟩ := bk H2 G2 o2 L2 h2 d2 g (fun a m => kp a (List.mem_append_right _ m)) fun a m => (s a m).elim .inl fun z => .inr fun m' => z (List.mem_append_right _ m')
      refine ⟨Fa ++ F3, .cons (o.at g fun a m => kp a (List.mem_append_left _ m) fun z => n3 a m a (s1 a z) rfl) q1, List.nodup_append.mpr ⟨n1, q2, fun a m b m' e => ?_⟩, fun a m => ?_⟩
      · subst e
        rcases q3 a m' with z | z
        · rcases s a z with z | z
          · exact n3 a m a (s1 a z) rfl
          · exact z (List.mem_append_left _ m)
        · exact n3 a m a z.1 rfl
      · rcases List.mem_append.mp m with q | q
        · exact .inr ⟨List.mem_append_left _ q, fun z => n3 a q a (s1 a z) rfl⟩
        · exact (q3 a q).elim .inl fun z => .inr ⟨List.mem_append_right _ z.1, z.2⟩
theorem OwnsE.focus : ∀ {kvs : List (PD × OD)} {es : List DictEntry} {F : List Addr} {n : Nat} {x : PD × OD}, OwnsE w K H G es kvs F → F.Nodup → kvs[n]? = some x →
    ∃ e v L, es[n]? = some e ∧ RelV v e.val ∧ Own w K H G v x.2 L ∧ L.Nodup ∧ (∀ a ∈ L, a ∈ F) ∧ ∀ H2 G2 o2 L2, Own w K H2 G2 v o2 L2 → L2.Nodup → Le G G2 → (∀ a ∈ F, a ∉ L → ∀ x, H a = some x → H2 a = some x) → (∀ a ∈ L2, a ∈ L ∨ a ∉ F) →
      ∃ F3, OwnsE w K H2 G2 es (kvs.set n (x.1, o2)) F3 ∧ F3.Nodup ∧ ∀ a ∈ F3, a ∈ L2 ∨ (a ∈ F ∧ a ∉ L)
  | [], _, _, _, _, _, _, e => by simp at e
  | (k, y) :: ys, _, _, 0, x, h, nd, e => by
    cases h with
    | @cons en es _ _ _ kv dv Fa Fb e1 e2 e3 e4 o r =>
      obtain rfl : (k, y) = x := by simpa using e
      rw [List.nodup_append] at nd
      obtain ⟨n1, n2, n3⟩ := nd
      refine ⟨en, dv, Fa, rfl, e4, o, n1, fun a m => List.mem_append_left _ m, fun H2 G2 o2 L2 h2 d2 g kp s => ⟨L2 ++ Fb, .cons e1 e2 (e3.mono g) e4 h2 (r.at g fun a m => kp a (List.mem_append_right _ m) fun z => n3 a z a m rfl), List.nodup_append.mpr ⟨d2, n2, fun a m b m' e => ?_⟩, fun a m => ?_⟩⟩
      · subst e
        rcases s a m with q | q
        · exact n3 a q a m' rfl
        · exact q (List.mem_append_right _ m')
      · rcases List.mem_append.mp m with q | q
        · exact .inl q
        · exact .inr ⟨List.mem_append_right _ q, fun z => n3 a z a q rfl⟩
  | (k, y) :: ys, _, _, n + 1, x, h, nd, e => by
    cases h with
    | @cons en es _ _ _ kv dv Fa Fb e1 e2 e3 e4 o r =>
      rw [List.nodup_append] at nd
      obtain ⟨n1, n2, n3⟩ := nd
      obtain ⟨en1, v1, L, f1, f2, o1, d1, s1, bk⟩ := OwnsE.focus (n := n) r n2 (by simpa using e)
      refine ⟨en1, v1, L, by simpa using f1, f2, o1, d1, fun a m => List.mem_append_right _ (s1 a m), fun H2 G2 o2 L2 h2 d2 g kp s => ?_⟩
      obtain ⟨F3, q1, q2, q3⟩ := bk H2 G2 o2 L2 h2 d2 g (fun a m => kp a (List.mem_append_right _ m)) fun a m => (s a m).elim .inl fun z => .inr fun m' => z (List.mem_append_right _ m')
      refine ⟨Fa ++ F3, .cons e1 e2 (e3.mono g) e4 (o.at g fun a m => kp a (List.mem_append_left _ m) fun z => n3 a m a (s1 a z) rfl) q1, List.nodup_append.mpr ⟨n1, q2, fun a m b m' e => ?_⟩, fun a m => ?_⟩
      · subst e
        rcases q3 a m' with z | z
        · rcases s a z with z | z
          · exact n3 a m a (s1 a z) rfl
          · exact z (List.mem_append_left _ m)
        · exact n3 a m a z.1 rfl
      · rcases List.mem_append.mp m with q | q
        · exact .inr ⟨List.mem_append_left _ q, fun z => n3 a q a (s1 a z) rfl⟩
        · exact (q3 a q).elim .inl fun z => .inr ⟨List.mem_append_right _ z.1, z.2⟩
/-- v stands at a place of the tree of v0 -/
structure Foc (w : World) (K : PySem.W.Frag) (H G : Hp) (v0 : V) (o0 : OD) (L0 : List Addr) (p : List Nat) (v : V) (o : OD) (L : List Addr) : Prop where
  sub : subO o0 p = some o
  own : Own w K H G v o L
  nd : L.Nodup
  inn : ∀ a ∈ L, a ∈ L0
  back : ∀ H2 G2 o2 L2, Own w K H2 G2 v o2 L2 → L2.Nodup → Le G G2 → (∀ a ∈ L0, a ∉ L → ∀ x, H a = some x → H2 a = some x) → (∀ a ∈ L2, a ∈ L ∨ a ∉ L0) →
    ∃ L3, Own w K H2 G2 v0 (putO o0 p o2) L3 ∧ L3.Nodup ∧ ∀ a ∈ L3, a ∈ L2 ∨ (a ∈ L0 ∧ a ∉ L)
theorem Foc.here {v0 : V} {o0 : OD} {L0 : List Addr} (h : Own w K H G v0 o0 L0) (nd : L0.Nodup) : Foc w K H G v0 o0 L0 [] v0 o0 L0 :=
  ⟨rfl, h, nd, fun _ m => m, fun H2 G2 o2 L2 h2 d2 g kp s => ⟨L2, h2, d2, fun a m => .inl m⟩⟩
theorem Foc.at {v0 v : V} {o0 o : OD} {L0 L : List Addr} {p : List Nat} (f : Foc w K H G v0 o0 L0 p v o L) (g : Le G G') (k : ∀ a ∈ L0, ∀ x, H a = some x → H' a = some x) : Foc w K H' G' v0 o0 L0 p v o L :=
  ⟨f.sub, f.own.at g fun a m => k a (f.inn a m), f.nd, f.inn, fun H2 G2 o2 L2 h2 d2 g2 kp s => f.back H2 G2 o2 L2 h2 d2 (g.trans g2) (fun a m n x e => kp a m n x (k a m x e)) s⟩
theorem Foc.ix {v0 v : V} {o0 : OD} {xs : List OD} {L0 L : List Addr} {p : List Nat} {n : Nat} {x : OD} (f : Foc w K H G v0 o0 L0 p v (.ls xs) L) (e : xs[n]? = some x) :
    ∃ a vs v1 L1, v = .ref a ∧ H a = some (.lst vs) ∧ vs.length = xs.length ∧ vs[n]? = some v1 ∧ Foc w K H G v0 o0 L0 (p ++ [n]) v1 x L1 := by
  obtain ⟨sub, own, nd, inn, back⟩ := f
  cases own with
  | @ls a vs _ F0 ea r =>
    rw [List.nodup_cons] at nd
    obtain ⟨v1, L1, e1, o1, d1, s1, bk⟩ := r.focus nd.2 e
    refine ⟨a, vs, v1, L1, rfl, ea, r.len, e1, by rw [subO_app sub, subO, e]; rfl, o1, d1, fun b m => inn b (List.mem_cons_of_mem _ (s1 b m)), fun H2 G2 o2 L2 h2 d2 g kp s => ?_⟩
    have na : a ∉ L1 := fun m => nd.1 (s1 a m)
    obtain ⟨F3, q1, q2, q3⟩ := bk H2 G2 o2 L2 h2 d2 g (fun b m => kp b (inn b (List.mem_cons_of_mem _ m))) fun b m => (s b m).elim .inl fun z => .inr fun m' => z (inn b (List.mem_cons_of_mem _ m'))
    have na2 : a ∉ L2 := fun m => (s a m).elim na fun z => z (inn a List.mem_cons_self)
    have na3 : a ∉ F3 := fun m => (q3 a m).elim na2 fun z => nd.1 z.1
    obtain ⟨L3, r1, r2, r3⟩ := back H2 G2 (.ls (xs.set n o2)) (a :: F3) (.ls (kp a (inn a List.mem_cons_self) na _ ea) q1) (List.nodup_cons.mpr ⟨na3, q2⟩) g
      (fun b m z => kp b m fun m' => z (List.mem_cons_of_mem _ (s1 b m'))) fun b m => by
        rcases List.mem_cons.mp m with q | q
        · exact .inl (by rw [q]; exact List.mem_cons_self)
        · rcases q3 b q with z | z
          · exact (s b z).elim (fun z => .inl (List.mem_cons_of_mem _ (s1 b z))) .inr
          · exact .inl (List.mem_cons_of_mem _ z.1)
    refine ⟨L3, ?_, r2, fun b m => ?_⟩
    · rw [putO_app sub, putO, e]; exact r1
    · rcases r3 b m with z | z
      · rcases List.mem_cons.mp z with q | q
        · rw [q]; exact .inr ⟨inn a List.mem_cons_self, na⟩
        · exact (q3 b q).elim .inl fun z => .inr ⟨inn b (List.mem_cons_of_mem _ z.1), z.2⟩
      · exact .inr ⟨z.1, fun m' => z.2 (List.mem_cons_of_mem _ (s1 b m'))⟩
theorem keys_set {kvs : List (PD × OD)} {n : Nat} {x : PD × OD} {o2 : OD} (e : kvs[n]? = some x) : (kvs.set n (x.1, o2)).map (·.1) = kvs.map (·.1) := by
  rw [List.map_set]
  apply List.ext_getElem?
  intro i
  rw [List.getElem?_set]
  split
  · rename_i q
    subst q
    split
    · rw [List.getElem?_map, e]; rfl
    · rename_i q; rw [List.getElem?_eq_none (by omega)]
  · rfl
theorem Foc.key {v0 v : V} {o0 : OD} {kvs : List (PD × OD)} {L0 L : List Addr} {p : List Nat} {n : Nat} {x : PD × OD} (f : Foc w K H G v0 o0 L0 p v (.dc kvs) L) (e : kvs[n]? = some x) :
    ∃ a es ep F0 en v1 L1, v = .ref a ∧ H a = some (dRaw a es ep) ∧ OwnsE w K H G es kvs F0 ∧ KeysOk (kvs.map (·.1)) ∧ es[n]? = some en ∧ RelV v1 en.val ∧ Foc w K H G v0 o0 L0 (p ++ [n]) v1 x.2 L1 := by
  obtain ⟨sub, own, nd, inn, back⟩ := f
  cases own with
  | @dc a es ep _ F0 ea r ko =>
    rw [List.nodup_cons] at nd
    obtain ⟨en, v1, L1, e1, e2, o1, d1, s1, bk⟩ := r.focus nd.2 e
    refine ⟨a, es, ep, F0, en, v1, L1, rfl, ea, r, ko, e1, e2, by rw [subO_app sub, subO, e]; rfl, o1, d1, fun b m => inn b (List.mem_cons_of_mem _ (s1 b m)), fun H2 G2 o2 L2 h2 d2 g kp s => ?_⟩
    have na : a ∉ L1 := fun m => nd.1 (s1 a m)
    obtain ⟨F3, q1, q2, q3⟩ := bk H2 G2 o2 L2 h2 d2 g (fun b m => kp b (inn b (List.mem_cons_of_mem _ m))) fun b m => (s b m).elim .inl fun z => .inr fun m' => z (inn b (List.mem_cons_of_mem _ m'))
    have na2 : a ∉ L2 := fun m => (s a m).elim na fun z => z (inn a List.mem_cons_self)
    have na3 : a ∉ F3 := fun m => (q3 a m).elim na2 fun z => nd.1 z.1
    obtain ⟨L3, r1, r2, r3⟩ := back H2 G2 (.dc (kvs.set n (x.1, o2))) (a :: F3) (.dc (kp a (inn a List.mem_cons_self) na _ ea) q1 (by rw [keys_set e]; exact ko)) (List.nodup_cons.mpr ⟨na3, q2⟩) g
      (fun b m z => kp b m fun m' => z (List.mem_cons_of_mem _ (s1 b m'))) fun b m => by
        rcases List.mem_cons.mp m with q | q
        · exact .inl (by rw [q]; exact List.mem_cons_self)
        · rcases q3 b q with z | z
          · exact (s b z).elim (fun z => .inl (List.mem_cons_of_mem _ (s1 b z))) .inr
          · exact .inl (List.mem_cons_of_mem _ z.1)
    refine ⟨L3, ?_, r2, fun b m => ?_⟩
    · rw [putO_app sub, putO, e]; exact r1
    · rcases r3 b m with z | z
      · rcases List.mem_cons.mp z with q | q
        · rw [q]; exact .inr ⟨inn a List.mem_cons_self, na⟩
        · exact (q3 b q).elim .inl fun z => .inr ⟨inn b (List.mem_cons_of_mem _ z.1), z.2⟩
      · exact .inr ⟨z.1, fun m' => z.2 (List.mem_cons_of_mem _ (s1 b m'))⟩
def subS : SV → List Nat → Option OD
  | .ow o, p => subO o p
  | .io _ fs, n :: p => (fs[n]?).bind fun x => subO x.2 p
  | _, _ => none
def putV : SV → List Nat → OD → SV
  | .ow o, p, o2 => .ow (putO o p o2)
  | .io C fs, n :: p, o2 => match fs[n]? with
    | some x => .io C (fs.set n (x.1, putO x.2 p o2))
    | none => .io C fs
  | s, _, _ => s
theorem subS_app {sv : SV} {p q : List Nat} {o1 : OD} (h : subS sv p = some o1) : subS sv (p ++ q) = subO o1 q := by
  cases sv with
  | ow o => exact subO_app h
  | io C fs =>
    cases p with
    | nil => cases h
    | cons n p =>
      rw [subS] at h
      obtain ⟨x, e1, e2⟩ := Option.bind_eq_some_iff.mp h
      show (fs[n]?).bind _ = _
      rw [e1]
      exact subO_app e2
  | _ => cases h
theorem putV_app {sv : SV} {p q : List Nat} {o1 o2 : OD} (h : subS sv p = some o1) : putV sv (p ++ q) o2 = putV sv p (putO o1 q o2) := by
  cases sv with
  | ow o => exact congrArg SV.ow (putO_app h)
  | io C fs =>
    cases p with
    | nil => cases h
    | cons n p =>
      rw [subS] at h
      obtain ⟨x, e1, e2⟩ := Option.bind_eq_some_iff.mp h
      show putV (.io C fs) (n :: (p ++ q)) o2 = _
      rw [putV, putV, e1]
      simp only
      rw [putO_app e2]
  | _ => cases h
/-- v stands at a place of the tree of a slot -/
structure FocS (P : Par) (H G : Hp) (sv : SV) (x0 : Option (Option V)) (L0 : List Addr) (p : List Nat) (v : V) (o : OD) (L : List Addr) : Prop where
  sub : subS sv p = some o
  own : Own P.w P.K H G v o L
  nd : L.Nodup
  inn : ∀ a ∈ L, a ∈ L0
  back : ∀ H2 G2 o2 L2, Own P.w P.K H2 G2 v o2 L2 → L2.Nodup → Le G G2 → (∀ a ∈ L0, a ∉ L → ∀ x, H a = some x → H2 a = some x) → (∀ a ∈ L2, a ∈ L ∨ a ∉ L0) →
    ∃ L3, SlotOk P H2 G2 (putV sv p o2) x0 L3 ∧ L3.Nodup ∧ ∀ a ∈ L3, a ∈ L2 ∨ (a ∈ L0 ∧ a ∉ L)
theorem FocS.ow {v0 v : V} {o0 o : OD} {L0 L : List Addr} {p : List Nat} (f : Foc P.w P.K H G v0 o0 L0 p v o L) : FocS P H G (.ow o0) (some (some v0)) L0 p v o L :=
  ⟨f.sub, f.own, f.nd, f.inn, fun H2 G2 o2 L2 h2 d2 g kp s => by
    obtain ⟨L3, q1, q2, q3⟩ := f.back H2 G2 o2 L2 h2 d2 g kp s
    exact ⟨L3, ⟨v0, rfl, q1⟩, q2, q3⟩⟩
theorem FocS.at {sv : SV} {x0 : Option (Option V)} {v : V} {o : OD} {L0 L : List Addr} {p : List Nat} (f : FocS P H G sv x0 L0 p v o L) (g : Le G G') (k : ∀ a ∈ L0, ∀ x, H a = some x → H' a = some x) : FocS P H' G' sv x0 L0 p v o L :=
  ⟨f.sub, f.own.at g fun a m => k a (f.inn a m), f.nd, f.inn, fun H2 G2 o2 L2 h2 d2 g2 kp s => f.back H2 G2 o2 L2 h2 d2 (g.trans g2) (fun a m n x e => kp a m n x (k a m x e)) s⟩
theorem FocS.ix {sv : SV} {x0 : Option (Option V)} {v : V} {xs : List OD} {L0 L : List Addr} {p : List Nat} {n : Nat} {x : OD} (f : FocS P H G sv x0 L0 p v (.ls xs) L) (e : xs[n]? = some x) :
    ∃ a vs v1 L1, v = .ref a ∧ H a = some (.lst vs) ∧ vs.length = xs.length ∧ vs[n]? = some v1 ∧ FocS P H G sv x0 L0 (p ++ [n]) v1 x L1 := by
  obtain ⟨sub, own, nd, inn, back⟩ := f
  cases own with
  | @ls a vs _ F0 ea r =>
    rw [List.nodup_cons] at nd
    obtain ⟨v1, L1, e1, o1, d1, s1, bk⟩ := r.focus nd.2 e
    refine ⟨a, vs, v1, L1, rfl, ea, r.len, e1, by rw [subS_app sub, subO, e]; rfl, o1, d1, fun b m => inn b (List.mem_cons_of_mem _ (s1 b m)), fun H2 G2 o2 L2 h2 d2 g kp s => ?_⟩
    have na : a ∉ L1 := fun m => nd.1 (s1 a m)
    obtain ⟨F3, q1, q2, q3⟩ := bk H2 G2 o2 L2 h2 d2 g (fun b m => kp b (inn b (List.mem_cons_of_mem _ m))) fun b m => (s b m).elim .inl fun z => .inr fun m' => z (inn b (List.mem_cons_of_mem _ m'))
    have na2 : a ∉ L2 := fun m => (s a m).elim na fun z => z (inn a List.mem_cons_self)
    have na3 : a ∉ F3 := fun m => (q3 a m).elim na2 fun z => nd.1 z.1
    obtain ⟨L3, r1, r2, r3⟩ := back H2 G2 (.ls (xs.set n o2)) (a :: F3) (.ls (kp a (inn a List.mem_cons_self) na _ ea) q1) (List.nodup_cons.mpr ⟨na3, q2⟩) g
      (fun b m z => kp b m fun m' => z (List.mem_cons_of_mem _ (s1 b m'))) fun b m => by
        rcases List.mem_cons.mp m with q | q
        · exact .inl (by rw [q]; exact List.mem_cons_self)
        · rcases q3 b q with z | z
          · exact (s b z).elim (fun z => .inl (List.mem_cons_of_mem _ (s1 b z))) .inr
          · exact .inl (List.mem_cons_of_mem _ z.1)
    refine ⟨L3, ?_, r2, fun b m => ?_⟩
    · rw [putV_app sub, putO, e]; exact r1
    · rcases r3 b m with z | z
      · rcases List.mem_cons.mp z with q | q
        · rw [q]; exact .inr ⟨inn a List.mem_cons_self, na⟩
        · exact (q3 b q).elim .inl fun z => .inr ⟨inn b (List.mem_cons_of_mem _ z.1), z.2⟩
      · exact .inr ⟨z.1, fun m' => z.2 (List.mem_cons_of_mem _ (s1 b m'))⟩
def putS (ρ : List SV) (i : Nat) (p : List Nat) (o2 : OD) : List SV := match ρ[i]? with
  | some (.ow o0) => ρ.set i (.ow (putO o0 p o2))
  | some (.io C fs) => ρ.set i (putV (.io C fs) p o2)
  | _ => ρ
structure LocOk (P : Par) (ρ : List SV) (σ : Sg) (H G : Hp) (F : FP) (v : V) (i : Nat) (p : List Nat) (o : OD) (L : List Addr) : Prop where
  ex : ∃ sv, ρ[i]? = some sv ∧ isOw sv = true ∧ FocS P H G sv σ[i]? (F i) p v o L
theorem StE.keepF (s : StE ρ H G F H' G' F') (S : StOk P ρ σ H G F) {i : Nat} (h : ρ[i]? ≠ some .wl) : ∀ a ∈ F i, ∀ x, H a = some x → H' a = some x := fun a m x e => s.keep a x e fun ⟨j, ej, mj⟩ => by
  have z := S.dj i j a m mj
  subst z
  exact h ej
theorem LocOk.step {v : V} {i : Nat} {p : List Nat} {o : OD} {L : List Addr} (h : LocOk P ρ σ H G F v i p o L) (S : StOk P ρ σ H G F) (s : StE ρ H G F H' G' F') : LocOk P ρ σ H' G' F' v i p o L := by
  obtain ⟨sv, e1, e2, f⟩ := h.ex
  refine ⟨sv, e1, e2, ?_⟩
  rw [s.fsame i sv e1 e2]
  exact f.at s.gle (s.keepF S (by rw [e1]; intro z; cases z; cases e2))
theorem putS_eq {i : Nat} {sv : SV} {p : List Nat} {o2 : OD} (h : ρ[i]? = some sv) (w : isOw sv = true) : putS ρ i p o2 = ρ.set i (putV sv p o2) := by
  unfold putS; rw [h]
  cases sv with
  | ow o => rfl
  | io C fs => rfl
  | _ => cases w
theorem inF_upd' {i : Nat} {L : List Addr} {x : Addr} (h : inF (updF F i L) x) : (∃ j, j ≠ i ∧ x ∈ F j) ∨ x ∈ L := by
  obtain ⟨j, m⟩ := h
  by_cases e : j = i
  · subst e; rw [updF_same] at m; exact .inr m
  · rw [updF_ne e] at m; exact .inl ⟨j, e, m⟩
/-- the node exchanged -/
theorem SitS.node {v : V} {i : Nat} {p : List Nat} {o o2 : OD} {L L2 : List Addr} (s : SitS P ρ0 σ0 H0 G0 F0 ρ σ H G F) (h : LocOk P ρ σ H G F v i p o L) (le : Le G H2) (own : Own P.w P.K H2 G v o2 L2) (nd : L2.Nodup) (ex : ∀ a, H a ≠ none → H2 a ≠ none)
    (kp : ∀ a x, H a = some x → a ∉ L → H2 a = some x) (n : ∀ a ∈ L2, a ∈ L ∨ (G a = none ∧ ¬ inF F a ∧ (H0 a = none ∨ ∃ j, a ∈ F0 j ∧ ρ0[j]? ≠ some .wl))) : ∃ F2, SitS P ρ0 σ0 H0 G0 F0 (putS ρ i p o2) σ H2 G F2 ∧ ∀ b, inF F2 b → b ∈ L2 ∨ (inF F b ∧ b ∉ L) := by
  obtain ⟨sv, e1, e2, f⟩ := h.ex
  have S := s.st
  have nwl : sv ≠ .wl := fun z => by subst z; cases e2
  have fi : slotFree ρ i = true := by
    unfold slotFree; rw [e1]
    cases sv <;> first | rfl | exact absurd rfl nwl
  have inn : ∀ a ∈ L, a ∈ F i := f.inn
  obtain ⟨L3, q1, q2, q3⟩ := f.back H2 G o2 L2 own nd (.refl _) (fun a m n x e => kp a x e n) fun a m => (n a m).elim .inl fun z => .inr fun m' => z.2.1 ⟨i, m'⟩
  rw [putS_eq e1 e2]
  have src : ∀ a ∈ L3, a ∈ F i ∨ (G a = none ∧ ¬ inF F a ∧ (H0 a = none ∨ ∃ j, a ∈ F0 j ∧ ρ0[j]? ≠ some .wl)) := fun a m => (q3 a m).elim (fun z => (n a z).imp (inn a) id) fun z => .inl z.1
  have out : ∀ j, j ≠ i → ∀ a ∈ F j, a ∉ L := fun j ne a m m' => ne (S.dj j i a m (inn a m'))
  refine ⟨updF F i L3, ?_, fun b z => (inF_upd' z).elim (fun ⟨j, ne, m⟩ => .inr ⟨⟨j, m⟩, out j ne b m⟩) fun m => (q3 b m).imp id fun z => ⟨⟨i, z.1⟩, z.2⟩⟩
  refine SitS.mk' s.at0 (fun er => ⟨le, fun j sv e => ?_, fun j e => ?_, fun j => ?_, fun j k a m m' => ?_, fun j a m => ?_, by rw [List.length_set]; exact S.len, er⟩) ⟨s.ev.gle, fun a z => ex a (s.ev.ex a z), fun a x e z => ?_, s.ev.gnew, fun j a m => ?_, fun j w => ?_⟩ s.pin
  · by_cases z : j = i
    · subst z
      rw [List.getElem?_set_self (slotFree_lt fi).1] at e
      cases e
      rw [updF_same]
      exact q1
    · rw [List.getElem?_set_ne (Ne.symm z)] at e
      rw [updF_ne z]
      exact (S.slot j sv e).at (.refl _) fun a m x e => kp a x e (out j z a m)
  · by_cases z : j = i
    · subst z; rw [List.getElem?_set_self (slotFree_lt fi).1] at e; cases e
    · rw [List.getElem?_set_ne (Ne.symm z)] at e
      rw [updF_ne z]; exact S.out j e
  · by_cases z : j = i
    · subst z; rw [updF_same]; exact q2
    · rw [updF_ne z]; exact S.nd j
  · have one : ∀ {j k : Nat}, j = i → k ≠ i → ∀ a ∈ L3, a ∉ F k := fun {j k} _ zk a m m' => (src a m).elim (fun z => zk (S.dj k i a m' z)) fun z => z.2.1 ⟨k, m'⟩
    by_cases zj : j = i
    · by_cases zk : k = i
      · rw [zj, zk]
      · rw [zj, updF_same] at m
        rw [updF_ne zk] at m'
        exact absurd m' (one zj zk a m)
    · by_cases zk : k = i
      · rw [zk, updF_same] at m'
        rw [updF_ne zj] at m
        exact absurd m (one zk zj a m')
      · rw [updF_ne zj] at m
        rw [updF_ne zk] at m'
        exact S.dj j k a m m'
  · by_cases z : j = i
    · rw [z, updF_same] at m; exact (src a m).elim (S.off i a) fun z => z.1
    · rw [updF_ne z] at m; exact S.off j a m
  · have e' := s.ev.keep a x e z
    exact kp a x e' fun m => s.ev.nf (by rw [e]; simp) z ⟨i, inn a m⟩
  · by_cases z : j = i
    · rw [z, updF_same] at m
      rcases src a m with q | q
      · rw [z]; exact s.ev.fnew i a q
      · exact q.2.2.elim (fun z => .inr (.inr z)) fun z => .inr (.inl z)
    · rw [updF_ne z] at m; exact s.ev.fnew j a m
  · obtain ⟨w1, w2⟩ := s.ev.wls j w
    have ne : i ≠ j := fun z => by subst z; rw [e1] at w1; exact nwl (Option.some.inj w1)
    exact ⟨(List.getElem?_set_ne ne).trans w1, w2⟩
end Rz
namespace Rz
open PySem PySem.Spec PyProof.Rows L2
variable {X : Cx} {P : Par} {ρ ρ' ρ0 ρ1 ρ2 : List SV} {σ σ' σ0 σ1 σ2 : Sg} {H0 G0 H G G' H' H1 G1 H2 G2 : Hp} {F0 F F' F1 F2 : FP} {a b c e : Expr} {es : List Expr} {pos : Pos} {t t1 t2 t3 : TD} {ta : TDa} {u : TDt} {w : World} {K : PySem.W.Frag}
abbrev TDx := List SV → (List SV → Rv → Prop) → Prop
def TXof (P : Par) (t : TDx) : TE := fun σ H Q' => ∃ ρ G F Q, StOk P ρ σ H G F ∧ t ρ Q ∧ ∀ ρ' v r H' G' F' L, SitS P ρ σ H G F ρ' σ H' G' F' → RvOk P ρ' σ H' G' F' v r L → RetL ρ H F L → Q ρ' r → Q' v H'
abbrev JX (X : Cx) (P : Par) (e : Expr) (t : TDx) : Prop := PE X e (TXof P t)
variable {tx : TDx}
/-- a tree moved out of its slot -/
def mvT (i : Nat) : TDx := fun ρ Q => match ρ[i]? with
  | some (.ow o) => Q (ρ.set i .un) (.fr o)
  | some (.sh d) => Q ρ (.cl d)
  | _ => False
theorem SitS.drop {i : Nat} (S : StOk P ρ σ H G F) (h : slotFree ρ i = true) : SitS P ρ σ H G F (ρ.set i .un) σ H G (updF F i []) := by
  have sub : ∀ j a, a ∈ updF F i [] j → a ∈ F j ∧ j ≠ i := fun j a m => by
    by_cases z : j = i
    · rw [z, updF_same] at m; cases m
    · rw [updF_ne z] at m; exact ⟨m, z⟩
  refine SitS.mk' S.er (fun er => ⟨S.le, fun j sv e => ?_, fun j e => ?_, fun j => ?_, fun j k a m m' => S.dj j k a (sub j a m).1 (sub k a m').1, fun j a m => S.off j a (sub j a m).1, by rw [List.length_set]; exact S.len, er⟩)
    ⟨.refl _, fun _ e => e, fun _ _ e _ => e, fun _ _ _ e => e, fun j a m => .inl (sub j a m).1, fun j w => ?_⟩ fun _ _ => rfl
  · by_cases z : j = i
    · subst z
      rw [List.getElem?_set_self (slotFree_lt h).1] at e
      cases e
      exact updF_same
    · rw [List.getElem?_set_ne (Ne.symm z)] at e
      rw [updF_ne z]; exact S.slot j sv e
  · by_cases z : j = i
    · rw [z]; exact updF_same
    · rw [List.getElem?_set_ne (Ne.symm z)] at e
      rw [updF_ne z]; exact S.out j e
  · by_cases z : j = i
    · rw [z, updF_same]; exact List.nodup_nil
    · rw [updF_ne z]; exact S.nd j
  · have ne : i ≠ j := fun z => (slotFree_lt h).2 (z ▸ w)
    exact ⟨(List.getElem?_set_ne ne).trans w, rfl⟩
theorem jx_mv {i : Nat} {x : Str} (hN : X.N[i]? = some x) (hv : Vis X.env.scope x) (hd : (x == ("__debug__" : Str)) = false) (hcd : (x == ("__classdict__" : Str)) = false) : JX X P (.Name x pos) (mvT i) := by
  refine pe_imp (pe_var hN hv hd hcd) fun σ H Q' h => ?_
  obtain ⟨ρ, G, F, Q, S, q, k⟩ := h
  unfold mvT at q
  split at q
  · rename_i o e
    obtain ⟨v, ev, r⟩ := S.slot i _ e
    have fr : slotFree ρ i = true := by unfold slotFree; rw [e]
    have s := SitS.drop S fr
    refine ⟨v, ev, k _ v (.fr o) H G _ (F i) s ⟨r, S.nd i, fun a m => ⟨S.off i a m, fun ⟨j, mj⟩ => ?_⟩⟩ (fun a m => .inr ⟨i, m, by rw [e]; intro z; cases z⟩) q⟩
    by_cases z : j = i
    · rw [z, updF_same] at mj; cases mj
    · rw [updF_ne z] at mj; exact z (S.dj j i a mj m)
  · rename_i d e
    obtain ⟨⟨v, ev, r⟩, _⟩ := S.slot i _ e
    exact ⟨v, ev, k ρ v (.cl d) H G F [] (.refl S) ⟨r, rfl⟩ (fun _ m => nomatch m) q⟩
  · exact q.elim
theorem js_exprX (he : JX X P e tx) (hs : swapsWith e none pos.line X.env = pure false) : JS X P (.Expr e pos) (fun D ρ => tx ρ fun ρ' _ => D.nx ρ') := ps_imp (ps_expr he hs) fun D σ H h => by
  obtain ⟨ρ, G, F, Dd, S, q, k⟩ := h
  exact ⟨ρ, G, F, _, S, q, fun ρ' v r H' G' F' L s o n q => k.nx ρ' σ H' G' F' s q⟩
theorem js_retX (he : JX X P e tx) : JS X P (.Return (some e) pos) (fun D ρ => tx ρ fun ρ' r => D.rt ρ' r) := ps_imp (ps_ret he) fun D σ H h => by
  obtain ⟨ρ, G, F, Dd, S, q, k⟩ := h
  exact ⟨ρ, G, F, _, S, q, fun ρ' v r H' G' F' L s o n q => k.rt v r ρ' σ H' G' F' L s o n q⟩
def frzAt (i : Nat) (ρ : List SV) : List SV := match ρ[i]? with
  | some (.ow o) => ρ.set i (.sh o.val)
  | _ => ρ
theorem SitS.frz (i : Nat) (S : StOk P ρ σ H G F) : ∃ G' F', SitS P ρ σ H G F (frzAt i ρ) σ H G' F' := by
  unfold frzAt
  split
  · rename_i o e
    obtain ⟨v, ev, r⟩ := S.slot i _ e
    have fr : slotFree ρ i = true := by unfold slotFree; rw [e]
    have ge : Le G (Rz.addG G H (F i)) := addG_ge fun a m => S.off i a m
    have sub : ∀ j a, a ∈ updF F i [] j → a ∈ F j ∧ j ≠ i := fun j a m => by
      by_cases z : j = i
      · rw [z, updF_same] at m; cases m
      · rw [updF_ne z] at m; exact ⟨m, z⟩
    refine ⟨Rz.addG G H (F i), updF F i [], SitS.mk' S.er (fun er => ⟨addG_le S.le, fun j sv q => ?_, fun j q => ?_, fun j => ?_, fun j k a m m' => S.dj j k a (sub j a m).1 (sub k a m').1, fun j a m => ?_, by rw [List.length_set]; exact S.len, er⟩)
      ⟨ge, fun _ e => e, fun _ _ e _ => e, fun a _ n q => ?_, fun j a m => .inl (sub j a m).1, fun j w => ?_⟩ fun _ _ => rfl⟩
    · by_cases z : j = i
      · subst z
        rw [List.getElem?_set_self (slotFree_lt fr).1] at q
        cases q
        exact ⟨⟨v, ev, Own.addG r (fun _ m => m) ge⟩, updF_same⟩
      · rw [List.getElem?_set_ne (Ne.symm z)] at q
        rw [updF_ne z]
        exact (S.slot j sv q).at ge fun _ _ _ e => e
    · by_cases z : j = i
      · rw [z]; exact updF_same
      · rw [List.getElem?_set_ne (Ne.symm z)] at q
        rw [updF_ne z]; exact S.out j q
    · by_cases z : j = i
      · rw [z, updF_same]; exact List.nodup_nil
      · rw [updF_ne z]; exact S.nd j
    · obtain ⟨m1, ne⟩ := sub j a m
      rw [addG_ne (fun m2 => ne (S.dj j i a m1 m2))]
      exact S.off j a m1
    · rw [addG_ne (fun m => n ⟨i, m⟩)]; exact q
    · have ne : i ≠ j := fun z => (slotFree_lt fr).2 (z ▸ w)
      exact ⟨(List.getElem?_set_ne ne).trans w, rfl⟩
  · exact ⟨G, F, .refl S⟩
theorem jss_frz {ss : List Stmt} {ts : TDs} (i : Nat) (h : JSs X P ss ts) : JSs X P ss (fun D ρ => ts D (frzAt i ρ)) := pss_imp h fun D σ H h => by
  obtain ⟨ρ, G, F, Dd, S, q, k⟩ := h
  obtain ⟨G', F', s⟩ := SitS.frz i S
  exact ⟨_, G', F', Dd, s.st, q, k.after s⟩
abbrev TDl := List SV → (List SV → Nat → List Nat → OD → Prop) → Prop
def TLof (P : Par) (t : TDl) : TE := fun σ H Q' => ∃ ρ G F Q, StOk P ρ σ H G F ∧ t ρ Q ∧ ∀ ρ' v i p o H' G' F' L, SitS P ρ σ H G F ρ' σ H' G' F' → LocOk P ρ' σ H' G' F' v i p o L → Q ρ' i p o → Q' v H'
abbrev JL (X : Cx) (P : Par) (e : Expr) (t : TDl) : Prop := PE X e (TLof P t)
variable {tl : TDl}
theorem jl_nm {i : Nat} {x : Str} (hN : X.N[i]? = some x) (hv : Vis X.env.scope x) (hd : (x == ("__debug__" : Str)) = false) (hcd : (x == ("__classdict__" : Str)) = false) : JL X P (.Name x pos) (fun ρ Q => ∃ o, ρ[i]? = some (.ow o) ∧ Q ρ i [] o) := by
  refine pe_imp (pe_var hN hv hd hcd) fun σ H Q' h => ?_
  obtain ⟨ρ, G, F, Q, S, ⟨o, e, q⟩, k⟩ := h
  obtain ⟨v, ev, r⟩ := S.slot i _ e
  exact ⟨v, ev, k ρ v i [] o H G F (F i) (.refl S) ⟨_, e, rfl, by rw [ev]; exact .ow (.here r (S.nd i))⟩ q⟩
theorem atI_of {α : Type} {xs : List α} {k : Int} {n : Nat} {x : α} {m : Nat} (h : ixN m k = some n) (l : xs.length = m) (e : xs[n]? = some x) : atI xs k = some x := by
  unfold atI; rw [l, h]; exact e
abbrev ixL (tl : TDl) (t : TD) : TDl := fun ρ Q => tl ρ fun ρ' i p o => t ρ' fun x => ∃ xs k n o', o = .ls xs ∧ x.val = .int k ∧ ixN xs.length k = some n ∧ xs[n]? = some o' ∧ Q ρ' i (p ++ [n]) o'
theorem jl_ix (hl : JL X P a tl) (hb : JE X P b t) (hs : PlainIx b) : JL X P (.Subscript a b pos) (ixL tl t) := by
  refine pe_imp (pe_ix ix_list hl hb hs) fun σ H Q' h => ?_
  obtain ⟨ρ, G, F, Q, S, q, k⟩ := h
  refine ⟨ρ, G, F, _, S, q, fun ρ1 v i p o H1 G1 F1 L s1 l1 q1 => ⟨ρ1, G1, F1, _, s1.st, q1, fun y r2 H2 G2 F2 L2 s2 o2 n2 q2 => ?_⟩⟩
  obtain ⟨xs, j, n, o', rfl, e1, e2, e3, q⟩ := q2
  obtain ⟨sv, h1, h2, f⟩ := (l1.step s1.st s2.ev).ex
  obtain ⟨a, vs, v1, L1, rfl, ha, hl, hv, f1⟩ := f.ix e3
  exact ⟨a, vs, j, v1, rfl, o2.int s2.st.le e1, .of ha, atI_of e2 hl hv, k ρ1 v1 i (p ++ [n]) o' H2 G2 F2 L1 (s1.trans s2.s) ⟨sv, h1, h2, f1⟩ q⟩
theorem LocOk.list {v : V} {i : Nat} {p : List Nat} {xs : List OD} {L : List Addr} (l : LocOk P ρ σ H G F v i p (.ls xs) L) (S : StOk P ρ σ H G F) :
    ∃ a vs Fx, v = .ref a ∧ H a = some (.lst vs) ∧ Owns P.w P.K H G vs xs Fx ∧ L = a :: Fx ∧ L.Nodup ∧ (∀ b ∈ L, inF F b ∧ G b = none) := by
  obtain ⟨sv, h1, h2, f⟩ := l.ex
  have nd := f.nd
  have inn := f.inn
  have own := f.own
  cases own with
  | ls e r => exact ⟨_, _, _, rfl, e, r, rfl, nd, fun b m => ⟨⟨i, inn b m⟩, S.off i b (inn b m)⟩⟩
theorem SitS.nodeL {i : Nat} {p : List Nat} {xs xs' : List OD} {L Fy : List Addr} {a : Addr} {vs' : List V} (s : SitS P ρ0 σ0 H0 G0 F0 ρ σ H G F) (l : LocOk P ρ σ H G F (.ref a) i p (.ls xs) L) (hy : Owns P.w P.K H G vs' xs' Fy) (nd : Fy.Nodup) (na : a ∉ Fy)
    (n : ∀ b ∈ Fy, b ∈ L ∨ (G b = none ∧ ¬ inF F b ∧ (H0 b = none ∨ ∃ j, b ∈ F0 j ∧ ρ0[j]? ≠ some .wl))) : ∃ F2, SitS P ρ0 σ0 H0 G0 F0 (putS ρ i p (.ls xs')) σ (upd H a (.lst vs')) G F2 ∧ ∀ b, inF F2 b → b ∈ a :: Fy ∨ (inF F b ∧ b ∉ L) := by
  obtain ⟨a', vs0, Fx, ea, hv, r, eL, ndL, off⟩ := l.list s.st
  cases ea
  have aL : a ∈ L := by rw [eL]; exact List.mem_cons_self
  refine s.node l (fun b x e => ?_) (.ls upd_same (hy.at (.refl _) fun b m x e => by rw [upd_ne (fun z => by subst z; exact na m)]; exact e)) (List.nodup_cons.mpr ⟨na, nd⟩) (fun b z => ?_) (fun b x e m => ?_) fun b m => ?_
  · rw [upd_ne (fun z => by rw [z, (off a aL).2] at e; cases e)]
    exact s.st.le b x e
  · by_cases q : b = a
    · rw [q, upd_same]; intro z; cases z
    · rw [upd_ne q]; exact z
  · rw [upd_ne (fun z => by subst z; exact m aL)]; exact e
  · rcases List.mem_cons.mp m with q | q
    · rw [q]; exact .inl aL
    · exact n b q
theorem RvsOk.one {vs : List V} {r : Rv} {L : List Addr} (h : RvsOk P ρ σ H G F vs [r] L) : ∃ v, vs = [v] ∧ RvOk P ρ σ H G F v r L := by
  cases h with
  | @cons v _ _ _ L1 _ x y _ => cases y; rw [List.append_nil]; exact ⟨v, rfl, x⟩
/-- o.append(x) -/
abbrev appX (tl : TDl) (ta : TDa) : TDx := fun ρ Q => tl ρ fun ρ' i p o => ∃ xs, o = .ls xs ∧ ta ρ' fun rs => ∃ r, rs = [r] ∧ hardR r = true ∧ xs.length < sizeLine ∧ Q (putS ρ' i p (.ls (xs ++ [partO r]))) (.cl .none)
theorem SitS.newOf {L : List Addr} (s : SitS P ρ0 σ0 H0 G0 F0 ρ σ H G F) (n : New H L) : ∀ b ∈ L, H0 b = none ∨ ∃ j, b ∈ F0 j ∧ ρ0[j]? ≠ some .wl := fun b m => .inl (by
  cases e : H0 b with
  | none => rfl
  | some o => exact absurd (n b m) (s.ev.ex b (by rw [e]; simp)))
theorem tapp_imp {σ : Sg} {H : Hp} {Q : VK} (h : TXof P (appX tl ta) σ H Q) : tBM P.K "list" rAppend (TLof P tl) (TAof P ta) σ H Q := by
  obtain ⟨ρ, G, F, Qd, S, q, k⟩ := h
  refine ⟨ρ, G, F, _, S, q, fun ρ1 v i p o H1 G1 F1 L s1 l1 q1 => ?_⟩
  obtain ⟨xs, rfl, q1⟩ := q1
  obtain ⟨a, vs, Fx, rfl, hv, _, _, _, _⟩ := l1.list s1.st
  refine ⟨.inl ⟨rfl, vs, .of hv⟩, ρ1, G1, F1, _, s1.st, q1, fun ys rs H2 G2 F2 L2 s2 o2 n2 q2 => ?_⟩
  obtain ⟨r, rfl, hr, hz, q⟩ := q2
  have l2 := l1.step s1.st s2.ev
  obtain ⟨a', vs2, Fx2, ea, hv2, own2, eL, nd, off⟩ := l2.list s2.st
  cases ea
  obtain ⟨y, rfl, x⟩ := o2.one
  have fr := x.hard hr
  have fa : ∀ b ∈ L2, b ∉ L := fun b m m' => (fr.off b m).2 (off b m').1
  rw [eL, List.nodup_cons] at nd
  have na : a ∉ Fx2 ++ (L2 ++ []) := fun m => by
    rw [List.append_nil] at m
    exact (List.mem_append.mp m).elim nd.1 fun m => fa a m (by rw [eL]; exact List.mem_cons_self)
  obtain ⟨F3, s3, _⟩ := (s1.trans s2.s).nodeL l2 (own2.append (.cons fr.own .nil)) (Fy := Fx2 ++ (L2 ++ [])) (by
    rw [List.append_nil]
    exact List.nodup_append.mpr ⟨nd.2, fr.nd, fun b m c m' e => fa c m' (by rw [eL, ← e]; exact List.mem_cons_of_mem _ m)⟩) na fun b m => by
      rw [List.append_nil] at m
      rcases List.mem_append.mp m with z | z
      · exact .inl (by rw [eL]; exact List.mem_cons_of_mem _ z)
      · exact .inr ⟨(fr.off b z).1, (fr.off b z).2, s1.newOf n2 b z⟩
  exact ⟨a, vs2, y, rfl, rfl, hv2, by rw [own2.len]; exact hz, k _ .non (.cl .none) _ G2 F3 [] s3 ⟨.non, rfl⟩ (fun _ m => nomatch m) q⟩
end Rz
namespace Rz
open PySem PySem.Spec PyProof.Rows L2
variable {X : Cx} {P : Par} {ρ ρ' ρ0 ρ1 ρ2 : List SV} {σ σ' σ0 σ1 σ2 : Sg} {H0 G0 H G G' H' H1 G1 H2 G2 : Hp} {F0 F F' F1 F2 : FP} {a b c e : Expr} {es : List Expr} {pos : Pos} {t t1 t2 t3 : TD} {ta : TDa} {tl : TDl} {tx : TDx} {u : TDt} {w : World} {K : PySem.W.Frag}
theorem Owns.erase : ∀ {xs : List OD} {vs : List V} {L : List Addr} {n : Nat} {x : OD}, Owns w K H G vs xs L → L.Nodup → xs[n]? = some x →
    ∃ v L1 L2, vs[n]? = some v ∧ Own w K H G v x L1 ∧ Owns w K H G (vs.eraseIdx n) (xs.eraseIdx n) L2 ∧ L1.Nodup ∧ L2.Nodup ∧ (∀ a ∈ L1, a ∈ L) ∧ (∀ a ∈ L2, a ∈ L) ∧ ∀ a ∈ L1, a ∉ L2
  | [], _, _, _, _, _, _, e => by simp at e
  | y :: ys, _, _, 0, x, h, nd, e => by
    cases h with
    | @cons v vs _ _ La Lb o r =>
      obtain rfl : y = x := by simpa using e
      rw [List.nodup_append] at nd
      obtain ⟨n1, n2, n3⟩ := nd
      exact ⟨v, La, Lb, rfl, o, r, n1, n2, fun a m => List.mem_append_left _ m, fun a m => List.mem_append_right _ m, fun a m m' => n3 a m a m' rfl⟩
  | y :: ys, _, _, n + 1, x, h, nd, e => by
    cases h with
    | @cons v vs _ _ La Lb o r =>
      rw [List.nodup_append] at nd
      obtain ⟨n1, n2, n3⟩ := nd
      obtain ⟨v1, L1, L2, q1, q2, q3, q4, q5, q6, q7, q8⟩ := Owns.erase (n := n) r n2 (by simpa using e)
      refine ⟨v1, L1, La ++ L2, by simpa using q1, q2, .cons o q3, q4, List.nodup_append.mpr ⟨n1, q5, fun a m b m' e => n3 a m a (q7 a (e ▸ m')) rfl⟩, fun a m => List.mem_append_right _ (q6 a m), fun a m => ?_, fun a m m' => ?_⟩
      · exact (List.mem_append.mp m).elim (List.mem_append_left _) fun z => List.mem_append_right _ (q7 a z)
      · rcases List.mem_append.mp m' with z | z
        · exact n3 a z a (q6 a m) rfl
        · exact q8 a m z
/-- a tree let go of -/
def rvO : OD → Rv
  | .lf d => .cl d
  | .ls xs => .fr (.ls xs)
  | .dc kvs => .fr (.dc kvs)
theorem rvO_ok {v : V} {o : OD} {L : List Addr} (h : FrOk P H G F v o L) : RvOk P ρ σ H G F v (rvO o) L := by
  cases o with
  | lf d => have own := h.own; cases own with | lf r => exact ⟨r, rfl⟩
  | ls xs => exact h
  | dc kvs => exact h
/-- one item out of a list of one's own -/
theorem SitS.pop {i : Nat} {p : List Nat} {xs : List OD} {L : List Addr} {a : Addr} {n : Nat} {x : OD} (s : SitS P ρ0 σ0 H0 G0 F0 ρ σ H G F) (l : LocOk P ρ σ H G F (.ref a) i p (.ls xs) L) (e : xs[n]? = some x) :
    ∃ vs v L1 F2, H a = some (.lst vs) ∧ vs.length = xs.length ∧ vs[n]? = some v ∧ SitS P ρ0 σ0 H0 G0 F0 (putS ρ i p (.ls (xs.eraseIdx n))) σ (upd H a (.lst (vs.eraseIdx n))) G F2 ∧ FrOk P (upd H a (.lst (vs.eraseIdx n))) G F2 v x L1 ∧ RetL ρ0 H0 F0 L1 := by
  obtain ⟨a', vs, Fx, ea, hv, own, eL, nd, off⟩ := l.list s.st
  cases ea
  rw [eL, List.nodup_cons] at nd
  obtain ⟨v, L1, L2, q1, q2, q3, q4, q5, q6, q7, q8⟩ := own.erase nd.2 e
  have sub : ∀ b ∈ Fx, b ∈ L := fun b m => by rw [eL]; exact List.mem_cons_of_mem _ m
  obtain ⟨F2, s2, f2⟩ := s.nodeL l q3 q5 (fun m => nd.1 (q7 a m)) fun b m => .inl (sub b (q7 b m))
  have na : ∀ b ∈ L1, b ≠ a := fun b m z => nd.1 (z ▸ q6 b m)
  refine ⟨vs, v, L1, F2, hv, own.len, q1, s2, ⟨q2.at (.refl _) fun b m y e => by rw [upd_ne (na b m)]; exact e, q4, fun b m => ⟨(off b (sub b (q6 b m))).2, fun z => ?_⟩⟩, fun b m => ?_⟩
  · rcases f2 b z with z | z
    · rcases List.mem_cons.mp z with z | z
      · exact na b m z
      · exact q8 b m z
    · exact z.2 (sub b (q6 b m))
  · obtain ⟨j, mj⟩ := (off b (sub b (q6 b m))).1
    have wj : ρ[j]? ≠ some .wl := by
      obtain ⟨sv, h1, h2, f⟩ := l.ex
      have z := s.st.dj i j b (f.inn b (sub b (q6 b m))) mj
      subst z
      rw [h1]; intro z; cases z; cases h2
    exact s.ev.retl (L := [b]) (fun c mc => by rw [List.mem_singleton.mp mc]; exact .inr ⟨j, mj, wj⟩) b (by simp)
abbrev popAtX (tl : TDl) (ta : TDa) : TDx := fun ρ Q => tl ρ fun ρ' i p o => ∃ xs, o = .ls xs ∧ ta ρ' fun rs => ∃ r k n x, rs = [r] ∧ r.val = .int k ∧ -(2 ^ 63) ≤ k ∧ k < 2 ^ 63 ∧ seqIndex? k xs.length = some n ∧ xs[n]? = some x ∧ Q (putS ρ' i p (.ls (xs.eraseIdx n))) (rvO x)
theorem tpopAt_imp {σ : Sg} {H : Hp} {Q : VK} (h : TXof P (popAtX tl ta) σ H Q) : tBM P.K "list" rPopAt (TLof P tl) (TAof P ta) σ H Q := by
  obtain ⟨ρ, G, F, Qd, S, q, k⟩ := h
  refine ⟨ρ, G, F, _, S, q, fun ρ1 v i p o H1 G1 F1 L s1 l1 q1 => ?_⟩
  obtain ⟨xs, rfl, q1⟩ := q1
  obtain ⟨a, vs, Fx, rfl, hv, _, _, _, _⟩ := l1.list s1.st
  refine ⟨.inl ⟨rfl, vs, .of hv⟩, ρ1, G1, F1, _, s1.st, q1, fun ys rs H2 G2 F2 L2 s2 o2 n2 q2 => ?_⟩
  obtain ⟨r, j, n, x, rfl, er, b1, b2, e1, e2, q⟩ := q2
  obtain ⟨y, rfl, oy⟩ := o2.one
  have l2 := l1.step s1.st s2.ev
  obtain ⟨vs, v, L1, F3, hv2, len, ev, s3, fr, rl⟩ := (s1.trans s2.s).pop l2 e2
  exact ⟨a, vs, j, n, v, rfl, by rw [oy.int s2.st.le er], hv2, b1, b2, by rw [len]; exact e1, ev, k _ v _ _ G2 F3 L1 s3 (rvO_ok fr) rl q⟩
theorem Owns.set : ∀ {xs : List OD} {vs : List V} {L L' : List Addr} {n : Nat} {x o2 : OD} {v2 : V}, Owns w K H G vs xs L → L.Nodup → xs[n]? = some x → Own w K H G v2 o2 L' → L'.Nodup → (∀ a ∈ L', a ∉ L) →
    ∃ L3, Owns w K H G (vs.set n v2) (xs.set n o2) L3 ∧ L3.Nodup ∧ ∀ a ∈ L3, a ∈ L' ∨ a ∈ L
  | [], _, _, _, _, _, _, _, _, _, e, _, _, _ => by simp at e
  | y :: ys, _, _, L', 0, x, o2, v2, h, nd, e, h2, nd2, dj => by
    cases h with
    | @cons v vs _ _ La Lb a b =>
      rw [List.nodup_append] at nd
      obtain ⟨n1, n2, n3⟩ := nd
      refine ⟨L' ++ Lb, .cons h2 b, List.nodup_append.mpr ⟨nd2, n2, fun a m b m' e => dj a m (e ▸ List.mem_append_right _ m')⟩, fun a m => ?_⟩
      exact (List.mem_append.mp m).imp id (List.mem_append_right _)
  | y :: ys, _, _, L', n + 1, x, o2, v2, h, nd, e, h2, nd2, dj => by
    cases h with
    | @cons v vs _ _ La Lb a b =>
      rw [List.nodup_append] at nd
      obtain ⟨n1, n2, n3⟩ := nd
      obtain ⟨L3, q1, q2, q3⟩ := Owns.set (n := n) b n2 (by simpa using e) h2 nd2 fun a m z => dj a m (List.mem_append_right _ z)
      refine ⟨La ++ L3, .cons a q1, List.nodup_append.mpr ⟨n1, q2, fun a m b m' e => ?_⟩, fun a m => ?_⟩
      · subst e
        exact (q3 a m').elim (fun z => dj a z (List.mem_append_left _ m)) fun z => n3 a m a z rfl
      · rcases List.mem_append.mp m with z | z
        · exact .inr (List.mem_append_left _ z)
        · exact (q3 a z).imp id (List.mem_append_right _)
/-- hard values stay through statements -/
theorem FrOk.stepS {v : V} {o : OD} {L : List Addr} (h : FrOk P H G F v o L) (s : StS ρ σ H G F ρ' σ' H' G' F') : FrOk P H' G' F' v o L where
  own := h.own.at s.gle fun a m x e => s.keep a x e (h.off a m).2
  nd := h.nd
  off := fun a m => by
    have k := h.own.kind a m
    exact ⟨s.gnew a k (h.off a m).2 (h.off a m).1, s.nf k.some (h.off a m).2⟩
end Rz
namespace Rz
open PySem PySem.Spec PyProof.Rows L2
variable {X : Cx} {P : Par} {ρ ρ' ρ0 ρ1 ρ2 ρc : List SV} {σ σ' σ0 σ1 σ2 : Sg} {H0 G0 H G G' H' H1 G1 H2 G2 Gc : Hp} {F0 F F' F1 F2 Fc : FP} {a b c e : Expr} {es : List Expr} {pos : Pos} {t t1 t2 t3 : TD} {ta : TDa} {tl : TDl} {tx : TDx} {u : TDt} {w : World} {K : PySem.W.Frag}
/-- from the parameters' slots: what comes back -/
abbrev Ct := List SV → (Rv → Prop) → Prop
def isDr : Rv → Bool
  | .dr _ => true
  | .ws _ => true
  | .sc _ => true
  | _ => false
structure SitC (P : Par) (ρ0 : List SV) (σ0 : Sg) (H0 G0 : Hp) (F0 : FP) (ρ : List SV) (σ : Sg) (H G : Hp) (F : FP) : Prop where
  st : StOk P ρ σ H G F
  ev : StS ρ0 σ0 H0 G0 F0 ρ σ H G F
/-- the promise of a def that is told by ct -/
def spOf (P : Par) (ct : Ct) : Sp := fun vs H Q _ => ∃ ρc Gc Fc Qd, ρc.length = vs.length ∧ StOk P ρc (vs.map some) H Gc Fc ∧ ct ρc Qd ∧
  ∀ v r ρ' σ' H' G' F' L, SitC P ρc (vs.map some) H Gc Fc ρ' σ' H' G' F' → RvOk P ρ' σ' H' G' F' v r L → RetL ρc H Fc L → isDr r = false → Qd r → Q v H'
/-- .. of one that may raise: what comes back, what is raised -/
abbrev CtX := List SV → (Rv → Prop) → (Er → Prop) → Prop
def spX (P : Par) (ct : CtX) : Sp := fun vs H Q E => ∃ ρc Gc Fc Qd Ed, ρc.length = vs.length ∧ StOk P ρc (vs.map some) H Gc Fc ∧ ct ρc Qd Ed ∧
  (∀ v r ρ' σ' H' G' F' L, SitC P ρc (vs.map some) H Gc Fc ρ' σ' H' G' F' → RvOk P ρ' σ' H' G' F' v r L → RetL ρc H Fc L → isDr r = false → Qd r → Q v H') ∧
  ∀ d er ρ' σ' H' G' F', SitC P ρc (vs.map some) H Gc Fc ρ' σ' H' G' F' → ErOk P G' d er → Ed er → E er.cls d H'
/-- an argument as a parameter's slot -/
def argS (soft : Bool) : Rv → SV
  | .cl d => .sh d
  | .dr d => .sh d
  | .fr o => if soft = true then .sh o.val else .ow o
  | .wl => .un
  | .ws _ => .wl
  | .sc ns => .sc ns
def isWl : Rv → Bool
  | .wl => true
  | _ => false
def wsOf : Rv → Option Nat
  | .ws i => some i
  | _ => none
/-- what came back, to the caller -/
def retR (soft : Bool) (r : Rv) : Rv := if soft = true then (match r with
  | .cl d => mk true d
  | .fr o => if immO o = true then .fr o else .dr o.val
  | r => r) else r
/-- an error's fields, let go into the shared part -/
def immEr (er : Er) : Bool := immAll (er.flds.map (·.2))
abbrev callD (ct : Ct) (rs : List Rv) (Q : Rv → Prop) : Prop := (rs.filterMap wsOf).Nodup ∧ rs.any isWl = false ∧ ct (rs.map (argS (anySoft rs))) fun r => isDr r = false → Q (retR (anySoft rs) r)
/-- where the arguments' data stand; their footprints by the parameter -/
structure ArgAt (P : Par) (ρ : List SV) (σ : Sg) (H G : Hp) (F : FP) (so : Bool) (vs : List V) (rs : List Rv) (L : List Addr) (Hd : Hp) (Fa : FP) : Prop where
  le : Le Hd H
  nw : ∀ a, Hd a ≠ none → ¬ inW ρ F a
  hard : so = false → ∀ a, Hd a = none
  slot : ∀ i sv, (rs.map (argS so))[i]? = some sv → ∀ G2, Le G G2 → Le Hd G2 → SlotOk P H G2 sv ((vs.map some)[i]?) (Fa i)
  out : ∀ i, (rs.map (argS so))[i]? = none → Fa i = []
  nd : ∀ i, (Fa i).Nodup
  dj : ∀ i j a, a ∈ Fa i → a ∈ Fa j → i = j
  src : ∀ i a, a ∈ Fa i → (so = false ∧ a ∈ L ∧ ∀ k, rs[i]? ≠ some (.ws k)) ∨ ∃ k, rs[i]? = some (.ws k) ∧ ρ[k]? = some .wl ∧ a ∈ F k
def consF (L : List Addr) (F : FP) : FP
  | 0 => L
  | i + 1 => F i
theorem argAt {vs : List V} {rs : List Rv} {L : List Addr} (S : StOk P ρ σ H G F) (h : RvsOk P ρ σ H G F vs rs L) (d : (rs.filterMap wsOf).Nodup) (so : Bool) (hso : so = false → anySoft rs = false) (nwl : rs.any isWl = false) : ∃ Hd Fa, ArgAt P ρ σ H G F so vs rs L Hd Fa := by
  induction h with
  | nil => exact ⟨fun _ => none, fun _ => [], fun _ _ e => (by cases e), fun _ q => absurd rfl q, fun _ _ => rfl, fun i sv e => by simp at e, fun _ _ => rfl, fun _ => List.nodup_nil, fun _ _ _ m => (nomatch m), fun _ _ m => (nomatch m)⟩
  | @cons v vs r rs L L' x y dj ih =>
    have d' : (rs.filterMap wsOf).Nodup := by
      rw [List.filterMap_cons] at d
      split at d
      · exact d
      · exact (List.nodup_cons.mp d).2
    rw [List.any_cons, Bool.or_eq_false_iff] at nwl
    obtain ⟨Hd, Fa, A⟩ := ih d' (fun z => by
      have q : (r.soft || rs.any Rv.soft) = false := hso z
      rw [Bool.or_eq_false_iff] at q
      exact q.2) nwl.2
    have rso : so = false → r.soft = false := fun z => by
      have q : (r.soft || rs.any Rv.soft) = false := hso z
      rw [Bool.or_eq_false_iff] at q
      exact q.1
    -- the first one
    have one : ∃ Hx Lx, Le Hx H ∧ (∀ a, Hx a ≠ none → ¬ inW ρ F a) ∧ (so = false → ∀ a, Hx a = none) ∧ (∀ G2, Le G G2 → Le Hx G2 → SlotOk P H G2 (argS so r) (some (some v)) Lx) ∧ Lx.Nodup ∧ (∀ a ∈ Lx, (so = false ∧ a ∈ L ∧ wsOf r = none) ∨ ∃ k, r = .ws k ∧ ρ[k]? = some .wl ∧ a ∈ F k) := by
      cases r with
      | cl d => exact ⟨fun _ => none, [], fun _ _ e => (by cases e), fun _ q => absurd rfl q, fun _ _ => rfl, fun G2 g _ => ⟨⟨v, rfl, x.1.mono g⟩, rfl⟩, List.nodup_nil, fun _ m => nomatch m⟩
      | dr d =>
        obtain ⟨⟨Hx, l, n, q⟩, _⟩ := x
        exact ⟨Hx, [], l, n, fun z => (nomatch rso z), fun G2 _ g => ⟨⟨v, rfl, q.mono g⟩, rfl⟩, List.nodup_nil, fun _ m => nomatch m⟩
      | fr o =>
        cases so with
        | false => exact ⟨fun _ => none, L, fun _ _ e => (by cases e), fun _ q => absurd rfl q, fun _ _ => rfl, fun G2 g _ => ⟨v, rfl, (FrOk.own x).at g fun _ _ _ e => e⟩, FrOk.nd x, fun a m => .inl ⟨rfl, m, rfl⟩⟩
        | true =>
          have ge : Le G (Rz.addG G H L) := addG_ge fun a m => (FrOk.off x a m).1
          refine ⟨fun a => if a ∈ L then H a else none, [], fun a o e => ?_, fun a q => ?_, fun z => (nomatch z), fun G2 g g2 => ⟨⟨v, rfl, (Own.addG (FrOk.own x) (fun _ m => m) ge).mono fun a o e => ?_⟩, rfl⟩, List.nodup_nil, fun _ m => nomatch m⟩
          · dsimp only at e
            split at e
            · exact e
            · cases e
          · dsimp only at q
            split at q
            · rename_i m
              exact fun z => (FrOk.off x a m).2 z.inF
            · exact absurd rfl q
          · by_cases m : a ∈ L
            · rw [addG_eq m] at e
              exact g2 a o (by show (if a ∈ L then H a else none) = some o; rw [if_pos m]; exact e)
            · rw [addG_ne m] at e
              exact g a o e
      | wl => cases nwl.1
      | sc ns =>
        obtain ⟨⟨p, rfl, q⟩, _⟩ := x
        exact ⟨fun _ => none, [], fun _ _ e => (by cases e), fun _ q => absurd rfl q, fun _ _ => rfl, fun G2 g _ => ⟨⟨p, rfl, g.sqL q⟩, rfl⟩, List.nodup_nil, fun _ m => nomatch m⟩
      | ws i =>
        obtain ⟨⟨e1, e2⟩, _⟩ := x
        obtain ⟨v', o, e3, q, z⟩ := S.slot i _ e1
        rw [e2] at e3
        cases e3
        exact ⟨fun _ => none, F i, fun _ _ e => (by cases e), fun _ q => absurd rfl q, fun _ _ => rfl, fun G2 g _ => ⟨v, o, rfl, q.at g fun _ _ _ e => e, z⟩, S.nd i, fun a m => .inr ⟨i, rfl, e1, m⟩⟩
    obtain ⟨Hx, Lx, lx, nx, hx, sx, ndx, srx⟩ := one
    have offL : ∀ a ∈ L, wsOf r = none → ∀ k, a ∉ F k := fun a m wr k m' => by
      cases r with
      | cl d => rw [x.2] at m; cases m
      | dr d => rw [x.2] at m; cases m
      | fr o => exact (FrOk.off x a m).2 ⟨k, m'⟩
      | wl => obtain ⟨o, x, z⟩ := x; exact (x.off a m).2 ⟨k, m'⟩
      | ws i => cases wr
      | sc ns => rw [x.2] at m; cases m
    have offL' : ∀ {rs : List Rv} {vs : List V} {L' : List Addr}, RvsOk P ρ σ H G F vs rs L' → ∀ a ∈ L', ∀ k, a ∉ F k := by
      intro rs vs L' h
      induction h with
      | nil => exact fun _ m => nomatch m
      | @cons v vs r rs L1 L2 x _ _ ih =>
        intro a m k m'
        rcases List.mem_append.mp m with q | q
        · cases r with
          | cl d => rw [x.2] at q; cases q
          | dr d => rw [x.2] at q; cases q
          | fr o => exact (FrOk.off x a q).2 ⟨k, m'⟩
          | wl => obtain ⟨o, x, z⟩ := x; exact (x.off a q).2 ⟨k, m'⟩
          | ws i => rw [x.2] at q; cases q
          | sc ns => rw [x.2] at q; cases q
        · exact ih a q k m'
    have apart : ∀ i a, a ∈ Lx → a ∉ Fa i := fun i a m m' => by
      rcases srx a m with ⟨_, q, wr⟩ | ⟨k, rfl, _, q⟩
      · rcases A.src i a m' with z | ⟨k, _, _, z⟩
        · exact dj a q z.2.1
        · exact offL a q wr k z
      · rcases A.src i a m' with z | ⟨k', ek, _, z⟩
        · exact offL' y a z.2.1 k q
        · have := S.dj k k' a q z
          subst this
          rw [List.filterMap_cons] at d
          exact (List.nodup_cons.mp d).1 (List.mem_filterMap.mpr ⟨_, List.mem_of_getElem? ek, rfl⟩)
    refine ⟨join Hx Hd, consF Lx Fa, join_le lx A.le, join_n nx A.nw, fun q a => ?_, fun i sv e G2 g g2 => ?_, fun i e => ?_, fun i => ?_, fun i j a m m' => ?_, fun i a m => ?_⟩
    · unfold join
      rw [hx q a, A.hard q a]
    · have jl : Le Hx G2 := (join_l _ _).trans g2
      have jr : Le Hd G2 := (join_r lx A.le).trans g2
      cases i with
      | zero =>
        simp at e
        subst e
        exact sx G2 g jl
      | succ i => exact A.slot i sv (by simpa using e) G2 g jr
    · cases i with
      | zero => simp at e
      | succ i => exact A.out i (by simpa using e)
    · cases i with
      | zero => exact ndx
      | succ i => exact A.nd i
    · cases i with
      | zero =>
        cases j with
        | zero => rfl
        | succ j => exact absurd m' (apart j a m)
      | succ i =>
        cases j with
        | zero => exact absurd m (apart i a m')
        | succ j => rw [A.dj i j a m m']
    · cases i with
      | zero =>
        rcases srx a m with ⟨z, q, wr⟩ | ⟨k, rfl, w, q⟩
        · refine .inl ⟨z, List.mem_append_left _ q, fun k e => ?_⟩
          simp at e
          rw [e] at wr; cases wr
        · exact .inr ⟨k, rfl, w, q⟩
      | succ i =>
        rcases A.src i a m with ⟨z', q, z⟩ | q
        · exact .inl ⟨z', List.mem_append_right _ q, by simpa using z⟩
        · exact .inr (by simpa using q)
theorem ws_inj : ∀ {rs : List Rv} {i j k : Nat}, (rs.filterMap wsOf).Nodup → rs[i]? = some (.ws k) → rs[j]? = some (.ws k) → i = j
  | [], _, _, _, _, e, _ => by simp at e
  | r :: rs, 0, 0, _, _, _, _ => rfl
  | r :: rs, 0, j + 1, k, d, e, e' => by
    simp at e
    subst e
    rw [List.filterMap_cons] at d
    exact absurd ((List.mem_filterMap (f := wsOf)).mpr ⟨_, List.mem_of_getElem? (by simpa using e'), rfl⟩) (List.nodup_cons.mp d).1
  | r :: rs, i + 1, 0, k, d, e, e' => by
    simp at e'
    subst e'
    rw [List.filterMap_cons] at d
    exact absurd ((List.mem_filterMap (f := wsOf)).mpr ⟨_, List.mem_of_getElem? (by simpa using e), rfl⟩) (List.nodup_cons.mp d).1
  | r :: rs, i + 1, j + 1, k, d, e, e' => by
    have d' : (rs.filterMap wsOf).Nodup := by
      rw [List.filterMap_cons] at d
      split at d
      · exact d
      · exact (List.nodup_cons.mp d).2
    exact congrArg (· + 1) (ws_inj (k := k) d' (by simpa using e) (by simpa using e'))
theorem RvsOk.get {vs : List V} {rs : List Rv} {L : List Addr} (h : RvsOk P ρ σ H G F vs rs L) : ∀ {i : Nat} {r : Rv}, rs[i]? = some r → ∃ v L1, vs[i]? = some v ∧ RvOk P ρ σ H G F v r L1 ∧ ∀ a ∈ L1, a ∈ L := by
  induction h with
  | nil => intro i r e; simp at e
  | @cons v vs r rs L L' x _ _ ih =>
    intro i q e
    cases i with
    | zero => simp at e; subst e; exact ⟨v, L, rfl, x, fun a m => List.mem_append_left _ m⟩
    | succ i =>
      obtain ⟨v1, L1, h1, h2, h3⟩ := ih (i := i) (by simpa using e)
      exact ⟨v1, L1, by simpa using h1, h2, fun a m => List.mem_append_right _ (h3 a m)⟩
theorem RvsOk.offF {vs : List V} {rs : List Rv} {L : List Addr} (h : RvsOk P ρ σ H G F vs rs L) : ∀ a ∈ L, G a = none ∧ ¬ inF F a := by
  induction h with
  | nil => exact fun _ m => nomatch m
  | @cons v vs r rs L1 L2 x _ _ ih =>
    intro a m
    rcases List.mem_append.mp m with q | q
    · cases r with
      | cl d => rw [x.2] at q; cases q
      | dr d => rw [x.2] at q; cases q
      | fr o => exact FrOk.off x a q
      | wl => obtain ⟨o, x, z⟩ := x; exact x.off a q
      | ws i => rw [x.2] at q; cases q
      | sc ns => rw [x.2] at q; cases q
    · exact ih a q
open Classical in
noncomputable def callF (rs : List Rv) (F F' : FP) : FP := fun k => if h : ∃ i : Nat, rs[i]? = some (.ws k) then F' (Classical.choose h) else F k
theorem callF_in {rs : List Rv} {i k : Nat} (d : (rs.filterMap wsOf).Nodup) (e : rs[i]? = some (.ws k)) : callF rs F F' k = F' i := by
  have h : ∃ i : Nat, rs[i]? = some (.ws k) := ⟨i, e⟩
  unfold callF
  rw [dif_pos h, ws_inj d (Classical.choose_spec h) e]
theorem callF_out {rs : List Rv} {k : Nat} (e : ∀ i : Nat, rs[i]? ≠ some (.ws k)) : callF rs F F' k = F k := by
  unfold callF
  rw [dif_neg fun ⟨i, z⟩ => e i z]
theorem join_none {A B : Hp} (h : ∀ a, B a = none) : join A B = A := by
  funext a
  unfold join
  cases e : A a with
  | none => exact h a
  | some o => rfl
theorem map_argS {rs : List Rv} {so : Bool} {i k : Nat} (e : rs[i]? = some (.ws k)) : (rs.map (argS so))[i]? = some .wl := by
  rw [List.getElem?_map, e]; rfl
/-- behind a call: the caller's state -/
theorem call_sit {H' G' : Hp} {F' : FP} {xs : List V} {rs : List Rv} {L1 : List Addr} {so : Bool} {Hd : Hp} {Fa : FP} {ρ' : List SV} {σ' : Sg} (s : Sit P ρ σ H0 G0 F0 H G F) (o : RvsOk P ρ σ H G F xs rs L1) (n : New H0 L1) (d : (rs.filterMap wsOf).Nodup) (A : ArgAt P ρ σ H G F so xs rs L1 Hd Fa)
    (z : SitC P.nb (rs.map (argS so)) (xs.map some) H (join G Hd) Fa ρ' σ' H' G' F') : Sit P ρ σ H0 G0 F0 H' (backG so G G' H') (callF rs F F') := by
  have S := s.st
  have offF := o.offF
  have wlOf : ∀ {i k : Nat}, rs[i]? = some (.ws k) → ρ[k]? = some .wl ∧ ∃ v, xs[i]? = some v ∧ σ[k]? = some (some v) := fun e => by
    obtain ⟨v, _, h1, h2, _⟩ := o.get e
    exact ⟨h2.1.1, v, h1, h2.1.2⟩
  have gc : Le G (join G Hd) := join_l _ _
  have hc : Le Hd (join G Hd) := join_r S.le A.le
  -- where the callee's footprints lie
  have faL : ∀ i a, a ∈ Fa i → a ∈ L1 ∨ inW ρ F a := fun i a m => (A.src i a m).imp (fun z => z.2.1) fun ⟨k, _, w, m⟩ => ⟨k, w, m⟩
  have notFa : ∀ a, H0 a ≠ none → ¬ inW ρ F a → ¬ inF Fa a := fun a e w ⟨i, m⟩ => (faL i a m).elim (fun z => e (n a z)) w
  have ownFa : ∀ {k a}, a ∈ F k → (∀ i : Nat, rs[i]? ≠ some (.ws k)) → ¬ inF Fa a := fun {k a} m e ⟨i, mi⟩ => by
    rcases A.src i a mi with ⟨_, z, _⟩ | ⟨k', e', _, z⟩
    · exact (offF a z).2 ⟨k, m⟩
    · have := S.dj k k' a m z
      subst this
      exact e i e'
  have nowl : ∀ {k : Nat}, ρ[k]? ≠ some .wl → ∀ i : Nat, rs[i]? ≠ some (.ws k) := fun w i e => w (wlOf e).1
  have gle : Le G (backG so G G' H') := by
    unfold backG
    split
    · exact absT_ge
    · exact gc.trans z.ev.gle
  have gH : Le G H' := (gc.trans z.ev.gle).trans z.st.le
  have ble : Le (backG so G G' H') H' := by
    unfold backG
    split
    · exact absT_le gH
    · exact z.st.le
  have bnone : ∀ a, OwnKind (H' a) → G a = none → (so = false → G' a = none) → backG so G G' H' a = none := fun a kd e g => by
    unfold backG
    split
    · exact absT_own kd e
    · rename_i q; exact g (by simpa using q)
  have keepF : ∀ {k a}, a ∈ F k → (∀ i : Nat, rs[i]? ≠ some (.ws k)) → ∀ x, H a = some x → H' a = some x := fun m e x h => z.ev.keep _ x h (ownFa m e)
  have gF : ∀ {k a}, a ∈ F k → (∀ i : Nat, rs[i]? ≠ some (.ws k)) → (so = true → ρ[k]? = some .wl) → G' a = none := fun {k a} m e w => z.ev.gnew a (S.kind m) (ownFa m e) (by
    unfold join
    rw [S.off k a m]
    cases qd : Hd a with
    | none => rfl
    | some _ =>
      cases so with
      | false => rw [A.hard rfl a] at qd; cases qd
      | true => exact absurd ⟨k, w rfl, m⟩ (A.nw a (by rw [qd]; simp)))
  have ev : StE ρ H0 G0 F0 H' (backG so G G' H') (callF rs F F') := by
    refine ⟨s.ev.gle.trans gle, fun a e => z.ev.ex a (s.ev.ex a e), fun a x e w => ?_, fun a kd w e => ?_, fun k a m => ?_, fun k sv e io => ?_⟩
    · exact z.ev.keep a x (s.ev.keep a x e w) (notFa a (by rw [e]; simp) (s.ev.nw (by rw [e]; simp) w))
    · have h0 := kd.some
      have w' := s.ev.nw h0 w
      have kd' : OwnKind (H a) := by rw [s.ev.same h0 w]; exact kd
      have e1 := s.ev.gnew a kd w e
      have nf := notFa a h0 w'
      refine bnone a ?_ e1 fun q => z.ev.gnew a kd' nf (by rw [join_none (A.hard q)]; exact e1)
      rw [z.ev.same kd'.some nf]; exact kd'
    · have up : H a = none → H0 a = none := fun e => by
        cases q : H0 a with
        | none => rfl
        | some _ => exact absurd e (s.ev.ex a (by rw [q]; simp))
      by_cases h : ∃ i : Nat, rs[i]? = some (.ws k)
      · obtain ⟨i, ei⟩ := h
        have w := (wlOf ei).1
        rw [callF_in d ei] at m
        rcases z.ev.fnew i a m with q | ⟨j, q, wj⟩ | q
        · rcases A.src i a q with ⟨_, q, _⟩ | ⟨k', e', _, q⟩
          · exact .inr ⟨w, n a q⟩
          · rw [ei] at e'; cases e'
            exact s.ev.fnew k a q
        · rcases A.src j a q with ⟨_, q, _⟩ | ⟨k', e', _⟩
          · exact .inr ⟨w, n a q⟩
          · exact absurd (map_argS e') wj
        · exact .inr ⟨w, up q⟩
      · rw [callF_out fun i e => h ⟨i, e⟩] at m; exact s.ev.fnew k a m
    · rw [callF_out (nowl (by rw [e]; intro z; cases z; cases io))]; exact s.ev.fsame k sv e io
  have st : StOk P ρ σ H' (backG so G G' H') (callF rs F F') := by
    refine ⟨ble, fun k sv e => ?_, fun k e => ?_, fun k => ?_, fun k l a m m' => ?_, fun k a m => ?_, S.len, s.at0.step ev.st⟩
    · by_cases h : ∃ i : Nat, rs[i]? = some (.ws k)
      · obtain ⟨i, ei⟩ := h
        obtain ⟨w, v0, h1, h2⟩ := wlOf ei
        rw [w] at e
        cases e
        rw [callF_in d ei]
        obtain ⟨w1, w2⟩ := z.ev.wls i (map_argS ei)
        obtain ⟨v', ow, e1, e2, e3⟩ := z.st.slot i _ w1
        rw [w2, List.getElem?_map, h1] at e1
        cases e1
        refine ⟨v0, ow, h2, ?_, e3⟩
        unfold backG
        split
        · exact e2.abs gH z.st.le (P.wi ow e3)
        · exact e2
      · have h' : ∀ i : Nat, rs[i]? ≠ some (.ws k) := fun i e => h ⟨i, e⟩
        rw [callF_out h']
        exact (S.slot k sv e).at gle fun a m x q => keepF m h' x q
    · rw [callF_out (nowl (by rw [e]; intro z; cases z))]; exact S.out k e
    · by_cases h : ∃ i : Nat, rs[i]? = some (.ws k)
      · obtain ⟨i, ei⟩ := h
        rw [callF_in d ei]; exact z.st.nd i
      · rw [callF_out fun i e => h ⟨i, e⟩]; exact S.nd k
    · have mix : ∀ {k l i a}, rs[i]? = some (.ws k) → (∀ j : Nat, rs[j]? ≠ some (.ws l)) → a ∈ F' i → a ∉ F l := fun {k l i a} ei el m m' => by
        rcases z.ev.fnew i a m with q | ⟨j, q, _⟩ | q
        · exact ownFa m' el ⟨i, q⟩
        · exact ownFa m' el ⟨j, q⟩
        · exact S.there m' q
      by_cases h : ∃ i : Nat, rs[i]? = some (.ws k)
      · obtain ⟨i, ei⟩ := h
        rw [callF_in d ei] at m
        by_cases h' : ∃ j : Nat, rs[j]? = some (.ws l)
        · obtain ⟨j, ej⟩ := h'
          rw [callF_in d ej] at m'
          have q := z.st.dj i j a m m'
          subst q
          rw [ei] at ej; cases ej; rfl
        · have el : ∀ j : Nat, rs[j]? ≠ some (.ws l) := fun j e => h' ⟨j, e⟩
          rw [callF_out el] at m'
          exact absurd m' (mix ei el m)
      · have ek : ∀ j : Nat, rs[j]? ≠ some (.ws k) := fun j e => h ⟨j, e⟩
        rw [callF_out ek] at m
        by_cases h' : ∃ j : Nat, rs[j]? = some (.ws l)
        · obtain ⟨j, ej⟩ := h'
          rw [callF_in d ej] at m'
          exact absurd m (mix ej ek m')
        · rw [callF_out fun j e => h' ⟨j, e⟩] at m'
          exact S.dj k l a m m'
    · by_cases h : ∃ i : Nat, rs[i]? = some (.ws k)
      · obtain ⟨i, ei⟩ := h
        rw [callF_in d ei] at m
        exact bnone a (z.st.kind m) ((gc.trans z.ev.gle).none (z.st.off i a m)) fun _ => z.st.off i a m
      · have h' : ∀ i : Nat, rs[i]? ≠ some (.ws k) := fun i e => h ⟨i, e⟩
        rw [callF_out h'] at m
        have kd := S.kind m
        refine bnone a ?_ (S.off k a m) fun e => gF m h' (fun z => by rw [e] at z; cases z)
        cases q : H a with
        | none => exact absurd q kd.some
        | some x => rw [keepF m h' x q, ← q]; exact kd
  exact ⟨st, ev, s.at0⟩
theorem SlotOk.re {so : Bool} {r : Rv} {x : Option (Option V)} {L : List Addr} (h : SlotOk P H G (argS so r) x L) : SlotOk P.nb H G (argS so r) x L := by
  cases r with
  | cl d => exact h
  | dr d => exact h
  | fr o => cases so <;> exact h
  | wl => exact h
  | ws i => exact h
  | sc ns => exact h
/-- into a call, and back -/
theorem arg_core {xs : List V} {rs : List Rv} {L1 : List Addr} (s : Sit P ρ σ H0 G0 F0 H G F) (o : RvsOk P ρ σ H G F xs rs L1) (n : New H0 L1) (d : (rs.filterMap wsOf).Nodup) (nwl : rs.any isWl = false) :
    ∃ Gc Fc, StOk P.nb (rs.map (argS (anySoft rs))) (xs.map some) H Gc Fc ∧
      (∀ v r ρ' σ' H' G' F' L, SitC P.nb (rs.map (argS (anySoft rs))) (xs.map some) H Gc Fc ρ' σ' H' G' F' → RvOk P.nb ρ' σ' H' G' F' v r L → RetL (rs.map (argS (anySoft rs))) H Fc L → isDr r = false → ∃ L2 G2 F2, Sit P ρ σ H0 G0 F0 H' G2 F2 ∧ RvOk P ρ σ H' G2 F2 v (retR (anySoft rs) r) L2 ∧ New H0 L2) ∧
      ∀ d er ρ' σ' H' G' F', SitC P.nb (rs.map (argS (anySoft rs))) (xs.map some) H Gc Fc ρ' σ' H' G' F' → ErOk P.nb G' d er → (anySoft rs = true → immEr er = true) → ∃ G2 F2, Sit P ρ σ H0 G0 F0 H' G2 F2 ∧ ErOk P G2 d er := by
  obtain ⟨Hd, Fa, A⟩ := argAt s.st o d (anySoft rs) id nwl
  generalize hso : anySoft rs = so at A
  have S := s.st
  have offF := o.offF
  have wlOf : ∀ {i k : Nat}, rs[i]? = some (.ws k) → ρ[k]? = some .wl ∧ ∃ v, xs[i]? = some v ∧ σ[k]? = some (some v) := fun e => by
    obtain ⟨v, _, h1, h2, _⟩ := o.get e
    exact ⟨h2.1.1, v, h1, h2.1.2⟩
  have gc : Le G (join G Hd) := join_l _ _
  have hc : Le Hd (join G Hd) := join_r S.le A.le
  have lc : Le (join G Hd) H := join_le S.le A.le
  have offA : ∀ i a, a ∈ Fa i → join G Hd a = none := fun i a m => by
    rcases A.src i a m with ⟨z, q, _⟩ | ⟨k, e, w, q⟩
    · rw [join_none (A.hard z)]; exact (offF a q).1
    · unfold join
      rw [S.off k a q]
      cases e : Hd a with
      | none => rfl
      | some _ => exact absurd ⟨k, w, q⟩ (A.nw a (by rw [e]; simp))
  refine ⟨join G Hd, Fa, ⟨lc, fun i sv e => ?_, A.out, A.nd, A.dj, offA, by rw [List.length_map, List.length_map, o.len]; exact Nat.le_refl _, trivial⟩, fun v r ρ' σ' H' G' F' L z oo rl hr => ?_, fun dx er ρ' σ' H' G' F' z eo im => ?_⟩
  · have q := A.slot i sv e _ gc hc
    rw [List.getElem?_map] at e
    cases er : rs[i]? with
    | none => rw [er] at e; cases e
    | some r => rw [er] at e; cases e; exact q.re
  · -- where the callee's footprints lie
    have faL : ∀ i a, a ∈ Fa i → a ∈ L1 ∨ inW ρ F a := fun i a m => (A.src i a m).imp (fun z => z.2.1) fun ⟨k, _, w, m⟩ => ⟨k, w, m⟩
    have notFa : ∀ a, H0 a ≠ none → ¬ inW ρ F a → ¬ inF Fa a := fun a e w ⟨i, m⟩ => (faL i a m).elim (fun z => e (n a z)) w
    have ownFa : ∀ {k a}, a ∈ F k → (∀ i : Nat, rs[i]? ≠ some (.ws k)) → ¬ inF Fa a := fun {k a} m e ⟨i, mi⟩ => by
      rcases A.src i a mi with ⟨_, z, _⟩ | ⟨k', e', _, z⟩
      · exact (offF a z).2 ⟨k, m⟩
      · have := S.dj k k' a m z
        subst this
        exact e i e'
    have nowl : ∀ {k : Nat}, ρ[k]? ≠ some .wl → ∀ i : Nat, rs[i]? ≠ some (.ws k) := fun w i e => w (wlOf e).1
    have gle : Le G (backG so G G' H') := by
      unfold backG
      split
      · exact absT_ge
      · exact gc.trans z.ev.gle
    have gH : Le G H' := (gc.trans z.ev.gle).trans z.st.le
    have ble : Le (backG so G G' H') H' := by
      unfold backG
      split
      · exact absT_le gH
      · exact z.st.le
    have bnone : ∀ a, OwnKind (H' a) → G a = none → (so = false → G' a = none) → backG so G G' H' a = none := fun a kd e g => by
      unfold backG
      split
      · exact absT_own kd e
      · rename_i q; exact g (by simpa using q)
    have keepF : ∀ {k a}, a ∈ F k → (∀ i : Nat, rs[i]? ≠ some (.ws k)) → ∀ x, H a = some x → H' a = some x := fun m e x h => z.ev.keep _ x h (ownFa m e)
    have gF : ∀ {k a}, a ∈ F k → (∀ i : Nat, rs[i]? ≠ some (.ws k)) → (so = true → ρ[k]? = some .wl) → G' a = none := fun {k a} m e w => z.ev.gnew a (S.kind m) (ownFa m e) (by
      unfold join
      rw [S.off k a m]
      cases qd : Hd a with
      | none => rfl
      | some _ =>
        cases so with
        | false => rw [A.hard rfl a] at qd; cases qd
        | true => exact absurd ⟨k, w rfl, m⟩ (A.nw a (by rw [qd]; simp)))
    have newL : New H0 L := fun a m => by
      have up : H a = none → H0 a = none := fun e => by
        cases q : H0 a with
        | none => rfl
        | some _ => exact absurd e (s.ev.ex a (by rw [q]; simp))
      rcases rl a m with e | ⟨j, mj, w⟩
      · exact up e
      · rcases A.src j a mj with ⟨_, q, _⟩ | ⟨k, e, _⟩
        · exact n a q
        · exact absurd (map_argS e) w
    -- the value
    have offL : ∀ a ∈ L, ¬ inF F' a → ¬ inF (callF rs F F') a := fun a m nf ⟨k, mk⟩ => by
      by_cases h : ∃ i : Nat, rs[i]? = some (.ws k)
      · obtain ⟨i, ei⟩ := h
        rw [callF_in d ei] at mk; exact nf ⟨i, mk⟩
      · rw [callF_out fun i e => h ⟨i, e⟩] at mk
        rcases rl a m with e | ⟨j, mj, w⟩
        · exact S.there mk e
        · rcases A.src j a mj with ⟨_, q, _⟩ | ⟨k', e', _⟩
          · exact (offF a q).2 ⟨k, mk⟩
          · exact absurd (map_argS e') w
    have nwG : ∀ a, G' a ≠ none → ¬ inW ρ (callF rs F F') a := fun a e ⟨k, w, mk⟩ => by
      by_cases h : ∃ i : Nat, rs[i]? = some (.ws k)
      · obtain ⟨i, ei⟩ := h
        rw [callF_in d ei] at mk; exact e (z.st.off i a mk)
      · rw [callF_out fun i e => h ⟨i, e⟩] at mk
        exact e (gF mk (fun i e => h ⟨i, e⟩) fun _ => w)
    have fr : ∀ {ow : OD}, FrOk P.nb H' G' F' v ow L → (so = true → immO ow = true) → FrOk P H' (backG so G G' H') (callF rs F F') v ow L := fun {ow} h im => by
      refine ⟨?_, h.nd, fun a m => ⟨bnone a (h.own.kind a m) ((gc.trans z.ev.gle).none (h.off a m).1) fun _ => (h.off a m).1, offL a m (h.off a m).2⟩⟩
      unfold backG
      split
      · rename_i e; exact h.own.abs gH z.st.le (im e)
      · exact h.own
    have sit := call_sit s o n d A z
    have kk : ∀ (r1 r2 : Rv) (L2 : List Addr), r1 = r2 → RvOk P ρ σ H' (backG so G G' H') (callF rs F F') v r2 L2 → New H0 L2 → ∃ L3 G2 F2, Sit P ρ σ H0 G0 F0 H' G2 F2 ∧ RvOk P ρ σ H' G2 F2 v r1 L3 ∧ New H0 L3 := fun r1 r2 L2 e h1 h2 => ⟨L2, _, _, sit, e ▸ h1, h2⟩
    cases so with
    | false =>
      cases r with
      | cl d => exact kk _ (.cl d) [] rfl ⟨oo.1, rfl⟩ (fun _ m => nomatch m)
      | fr o => exact kk _ (.fr o) L rfl (fr oo fun z => nomatch z) newL
      | wl => obtain ⟨o, oo, zz⟩ := oo; exact kk _ .wl L rfl ⟨o, fr oo fun z => (nomatch z), zz⟩ newL
      | dr d => cases hr
      | ws i => cases hr
      | sc ns => cases hr
    | true =>
      cases r with
      | cl d =>
        by_cases im : imm d = true
        · exact kk _ (.cl d) [] (by show mk true d = _; unfold mk; rw [im]; rfl) ⟨(oo.1.mono z.st.le).abs gH im, rfl⟩ (fun _ m => nomatch m)
        · exact kk _ (.dr d) [] (by show mk true d = _; unfold mk; rw [Bool.eq_false_iff.mpr im]; rfl) ⟨⟨G', z.st.le, nwG, oo.1⟩, rfl⟩ (fun _ m => nomatch m)
      | fr o =>
        by_cases im : immO o = true
        · exact kk _ (.fr o) L (by show (if immO o = true then Rv.fr o else .dr o.val) = _; rw [if_pos im]) (fr oo fun _ => im) newL
        · have ge : Le G' (Rz.addG G' H' L) := addG_ge fun a m => (FrOk.off oo a m).1
          refine kk _ (.dr o.val) [] (by show (if immO o = true then Rv.fr o else .dr o.val) = _; rw [if_neg im]) ⟨⟨Rz.addG G' H' L, addG_le z.st.le, fun a e w => ?_, Own.addG (FrOk.own (P := P.nb) oo) (fun _ m => m) ge⟩, rfl⟩ (fun _ m => nomatch m)
          by_cases m : a ∈ L
          · exact offL a m (FrOk.off oo a m).2 w.inF
          · rw [addG_ne m] at e; exact nwG a e w
      | wl => obtain ⟨o, oo, zz⟩ := oo; exact kk _ .wl L rfl ⟨o, fr oo fun _ => P.wi o zz, zz⟩ newL
      | dr d => cases hr
      | ws i => cases hr
      | sc ns => cases hr
  · have sit := call_sit s o n d A z
    refine ⟨_, _, sit, ?_⟩
    have gH : Le G H' := (gc.trans z.ev.gle).trans z.st.le
    unfold backG
    split
    · rename_i e
      have im := im e
      unfold ErOk at eo ⊢
      split
      · exact eo
      · obtain ⟨fs, e1, e2, r⟩ := eo
        refine ⟨fs, ?_, e2, Reps.abs gH (Reps.mono z.st.le r) im⟩
        unfold absT
        cases g : G _ with
        | some x =>
          have := gH _ _ g
          rw [z.st.le _ _ e1] at this
          cases this; rfl
        | none =>
          dsimp only
          rw [z.st.le _ _ e1]
    · exact eo
theorem arg_call {ct : Ct} {E : XK} : ArgR P (callD ct) (fun vs H Q => spOf P.nb ct vs H Q E) := by
  intro ρ σ H0 G0 F0 H G F xs rs L1 Q Q' s o n ⟨d, nwl, hct⟩ k
  obtain ⟨Gc, Fc, S, h1, _⟩ := arg_core s o n d nwl
  refine ⟨_, Gc, Fc, _, by rw [List.length_map, o.len], S, hct, fun v r ρ' σ' H' G' F' L z oo rl hr q => ?_⟩
  obtain ⟨L2, G2, F2, sit, ok, nw⟩ := h1 v r ρ' σ' H' G' F' L z oo rl hr
  exact k v _ H' G2 F2 L2 sit ok nw (q hr)
end Rz
namespace Rz
open PySem PySem.Spec PyProof.Rows L2
/-- a def's promise where no guard stands (repr asks for that) -/
structure FnG (p : Program) (w : World) (K : PySem.W.Frag) (mg : Str → Option Value) (base : Heap) (C : CXT) (k : Nat) (f : Addr) (fd : FuncData) (ps : List Str) (sp : Sp) : Prop where
  len : ∀ vs H Q E, sp vs H Q E → vs.length = ps.length
  go : ∀ (A : Around) (out : List Env) (s : Shared) (H : Hp) (ar : Args) (us : List Value) (vs : List V) (Q : VK) (E : XK), Room k A → A.guards = some [] → Env0 p w K mg base A out s H → BindsTo s fd ar (ps.zip us) → Vals vs us → sp vs H Q E →
    codeAny (model p w) A (.call (.ref f) ar) (CR C out p w H s Q E) s
theorem FnG.mono {p : Program} {w : World} {K : PySem.W.Frag} {mg : Str → Option Value} {base : Heap} {C : CXT} {j k : Nat} {f : Addr} {fd : FuncData} {ps : List Str} {sp : Sp} (F : FnG p w K mg base C j f fd ps sp) (h : j ≤ k) : FnG p w K mg base C k f fd ps sp :=
  ⟨F.len, fun A out s H ar us vs Q E r => F.go A out s H ar us vs Q E (r.mono h)⟩
theorem FnG.imp {p : Program} {w : World} {K : PySem.W.Frag} {mg : Str → Option Value} {base : Heap} {C : CXT} {k : Nat} {f : Addr} {fd : FuncData} {ps : List Str} {sp sp' : Sp} (F : FnG p w K mg base C k f fd ps sp) (h : ∀ vs H Q E, sp' vs H Q E → sp vs H Q E) : FnG p w K mg base C k f fd ps sp' :=
  ⟨fun vs H Q E q => F.len vs H Q E (h _ _ _ _ q), fun A out s H ar us vs Q E r g e b v q => F.go A out s H ar us vs Q E r g e b v (h _ _ _ _ q)⟩
/-- by its body -/
theorem fn_ofG {C : CXT} {p : Program} {w : World} {K : PySem.W.Frag} {mg : Str → Option Value} {base : Heap} {k : Nat} {f : Addr} {nm qn : Str} {params : Arguments} {body : List Stmt} {scope : Scope} {dV kV doc pm cd ct oc : Value} {an od : Option Addr}
    {osl : Array (Option Value)} {N ps : List Str} {sp : Sp} (lk : K.lookup f = some ⟨oc, od, .func (PySem.W.fnOf nm qn params body scope dV kV doc pm an cd ct), osl⟩) (hcd : PySem.W.codeIn K cd qn = true) (S : FnScope N ps scope)
    (len : ∀ vs H Q E, sp vs H Q E → vs.length = ps.length)
    (hb : ∀ (A : Around) (out : List Env) (s : Shared) (H : Hp) (vs : List V) (Q : VK) (E : XK), Room k (A.deeper (envOfC qn scope s.heap.objs.size f cd)) → A.guards = some [] → sp vs H Q E →
      ∃ t, PSs (cxOf C p w K mg base N qn scope f cd A out s H E) body t ∧ t { nx := fun _ H' => Q .non H', rt := Q } (start N vs) H) :
    FnG p w K mg base C (k + 1) f (PySem.W.fnOf nm qn params body scope dV kV doc pm an cd ct) ps sp := by
  refine ⟨len, fun A out s H ar us vs Q E room gu e0 bi rv hsp => ?_⟩
  have lv := len _ _ _ _ hsp
  have KX : K.In s.heap := e0.mod.kin.keeps fun b o e => (e0.bs b o e).1
  have nl : s.heap.NoLimit := e0.mod.nolimit.keeps fun b o e => (e0.bs b o e).1
  have kinds : ∀ y ∈ ps.zip us, scope.names.lookup y.1 = some .local ∨ (scope.names.lookup y.1 = some .cell ∧ ((cellsFrom (s.heap.objs.size + 1) scope.names []).lookup y.1).isSome = true) := by
    rintro ⟨n, v⟩ hy
    exact (S.par n (List.of_mem_zip hy).1).imp id fun q => ⟨q, PySem.W.cellsFrom_some _ _ _ (.inl q)⟩
  refine codeAny_call_function room.depth (KX _ _ lk) rfl S.co S.gen rfl (PySem.W.codeRec_of KX hcd) (bi _ _ _ _ ?_)
  refine wpAny_newFunctionEnv_cells S.kind kinds fun env he s1 x => ?_
  subst he
  refine ⟨nl.keeps x.toInCall.keep, codeAny_func ?_⟩
  obtain ⟨t, ht, hq⟩ := hb A out s H vs Q E (room.deeper _) gu hsp
  have I := inv_start (CX := C) (f := f) (E := E) S room.hd e0 lv rv x
  have back : ∀ {σ' : L2.St} {H' : Hp} {v : V} {u : Value} {s' : Shared}, Inv (cxOf C p w K mg base N qn scope f cd A out s H E) [] σ' H' s' → RelV v u → Q v H' → CE out p w H s Q u s' :=
    fun {_ H' v u s'} J r q => ⟨v, H', J.os, J.bare, J.base, J.hok, r, q⟩
  refine wpAny_mono (ht.run [] s1 (start N vs) H _ I hq) (fun fl s' hs => ?_) fun e s' hs => hs
  cases fl with
  | next => obtain ⟨_, _, J, q⟩ := hs; exact back (v := V.non) (u := Value.none) J rfl q
  | ret u => obtain ⟨_, _, _, J, r, q⟩ := hs; exact back J r q
  | brk => exact False.elim hs.choose_spec.choose_spec.2
  | cont => exact False.elim hs.choose_spec.choose_spec.2
section
variable {X : Cx} {C : CXT} {k : Nat} {f : Addr} {fd : FuncData} {ps ks : List Str} {sp : Sp} {E : XK} {x : Str} {p pos : Pos} {e : Expr} {es : List Expr} {kws : List Keyword} {t tk : TA}
theorem crun {pins : List (Addr × Obj)} {σ : L2.St} {H : Hp} {s : Shared} {Q : VK} {ar : Args} {us : List Value} {vs : List V} (F : FnG X.prog X.w X.K X.mg X.base C k f fd ps sp) (hr : Room k X.A) (gu : X.A.guards = some []) (hx : Passes C X E)
    (I : Inv X pins σ H s) (b : BindsTo s fd ar (ps.zip us)) (r : Vals vs us) (h : sp vs H Q E) : codeAny (model X.prog X.w) X.A (.call (.ref f) ar) (fun r s' => match r with
      | .ok (.ret u) => EP X pins σ Q u s'
      | .ok _ => False
      | .error e => X.xe e s') s := by
  refine codeAny_mono (F.go X.A X.stack s H ar us vs Q E hr gu I.env0 b r h) fun r s' q => ?_
  cases r with
  | error e => exact hx pins σ H s e s' I q
  | ok fl =>
    cases fl with
    | ret u => exact I.after q
    | next => exact q
    | brk => exact q
    | cont => exact q
/-- a call by place -/
theorem pe_callG (F : FnG X.prog X.w X.K X.mg X.base C k f fd ps sp) (hr : Room k X.A) (gu : X.A.guards = some []) (hg : Gl X x) (hm : X.mg x = some (.ref f)) (hk : PySem.W.keepIn X.K (.ref f) = true) (hb : Binds X.K fd ps []) (hx : Passes C X E)
    (ha : PA X (e :: es) t) (hdb : (x == ("__debug__" : Str)) = false) (he : starEach (e :: es) X.env = (false, eval e X.env) :: starEach es X.env) (hpl : (backTo pos (starEach es X.env)).any (·.1) = false) :
    PE X (.Call (.Name x p) (e :: es) [] pos) (fun σ H Q => t σ H fun vs H1 => sp vs H1 Q E) := by
  refine ⟨fun pins s σ H Q I h => wpAny_Call_Name_kw (ld_glob I hg hm ?_ hdb)⟩
  refine PySem.W.callWith_K (h₀ := X.base) I.ok.mod.kin hk (thn (ha.run pos pins s σ H _ I h) fun us s1 ⟨vs, H1, I1, r, q⟩ => ⟨I1.kIn, ?_⟩) he hpl
  have hl : (us ++ []).length = ps.length := by rw [List.append_nil, ← r.length]; exact F.len _ _ _ _ q
  have b := hb s1 us I1.kIn hl
  rw [List.append_nil] at b
  exact wpAny_call (codeAny_mono (crun F hr gu hx I1 b r q) fun r s' z => by cases r with
    | error e => exact z
    | ok fl => cases fl <;> exact z)
end
end Rz
namespace Rz
open PySem PySem.Spec PyProof.Rows L2
variable {X : Cx} {P : Par} {ρ ρ' ρ0 ρ1 ρ2 ρc : List SV} {σ σ' σ0 σ1 σ2 : Sg} {H0 G0 H G G' H' H1 G1 H2 G2 Gc : Hp} {F0 F F' F1 F2 Fc : FP} {a b c e : Expr} {es : List Expr} {pos p : Pos} {t t1 t2 t3 : TD} {ta : TDa} {tl : TDl} {tx : TDx} {u : TDt} {w : World} {K : PySem.W.Frag}
theorem dop_sub : DOp X P (binaryOp .Sub) (fun x y Q => ∃ i j, x.val = .int i ∧ y.val = .int j ∧ Q (.cl (.int (i - j)))) := dop_ints0 (g := fun i j => .int (i - j)) op_sub fun _ _ _ => .int _
theorem dop_mul : DOp X P (binaryOp .Mult) (fun x y Q => ∃ i j, x.val = .int i ∧ y.val = .int j ∧ CMul i j ∧ Q (.cl (.int (i * j)))) := dop_ints (g := fun i j => .int (i * j)) op_mul fun _ _ _ => .int _
theorem dop_mod : DOp X P (binaryOp .Mod) (fun x y Q => ∃ i j, x.val = .int i ∧ y.val = .int j ∧ 0 < j ∧ Q (.cl (.int (i % j)))) := dop_ints (g := fun i j => .int (i % j)) op_mod fun _ _ _ => .int _
theorem dop_div : DOp X P (binaryOp .FloorDiv) (fun x y Q => ∃ i j, x.val = .int i ∧ y.val = .int j ∧ CDiv i j ∧ Q (.cl (.int (i / j)))) := dop_ints (g := fun i j => .int (i / j)) op_fdiv fun _ _ _ => .int _
theorem dop_pow : DOp X P (binaryOp .Pow) (fun x y Q => ∃ i j, x.val = .int i ∧ y.val = .int j ∧ CPow i j ∧ Q (.cl (.int (i ^ j.toNat)))) := dop_ints (g := fun i j => .int (i ^ j.toNat)) op_pow fun _ _ _ => .int _
/-- the state behind the entry: the other names are not told -/
theorem StOk.grow {vs : List V} {N : List Str} (S : StOk P ρc (vs.map some) H G F) (l : ρc.length = vs.length) (hl : vs.length ≤ N.length) (er : P.At (ρc ++ List.replicate (N.length - vs.length) SV.un) (L2.start N vs) H G F) : StOk P (ρc ++ List.replicate (N.length - vs.length) .un) (L2.start N vs) H G F where
  le := S.le
  slot := fun i sv e => by
    by_cases h : i < vs.length
    · rw [List.getElem?_append_left (by omega)] at e
      unfold L2.start
      rw [List.getElem?_append_left (by rw [List.length_map]; exact h)]
      exact S.slot i sv e
    · rw [List.getElem?_append_right (by omega), List.getElem?_replicate] at e
      split at e
      · cases e; exact S.out i (List.getElem?_eq_none (by omega))
      · cases e
  out := fun i e => S.out i (List.getElem?_eq_none (by
    rw [List.getElem?_eq_none_iff, List.length_append] at e
    omega))
  nd := S.nd
  dj := S.dj
  off := S.off
  len := by
    unfold L2.start
    rw [List.length_append, List.length_append, List.length_replicate, List.length_replicate, List.length_map]
    omega
  er := er
theorem StS.ungrow {vs : List V} {N : List Str} (s : StS (ρc ++ List.replicate (N.length - vs.length) SV.un) (L2.start N vs) H G F ρ' σ' H' G' F') (l : ρc.length = vs.length) : StS ρc (vs.map some) H G F ρ' σ' H' G' F' := by
  have get : ∀ i : Nat, i < vs.length → (L2.start N vs)[i]? = (vs.map some)[i]? ∧ (ρc ++ List.replicate (N.length - vs.length) SV.un)[i]? = ρc[i]? := fun i h => by
    unfold L2.start
    exact ⟨List.getElem?_append_left (by rw [List.length_map]; exact h), List.getElem?_append_left (by omega)⟩
  have up : ∀ j : Nat, ρc[j]? = some .wl → j < vs.length ∧ (ρc ++ List.replicate (N.length - vs.length) SV.un)[j]? = some .wl := fun j e => by
    have h : j < vs.length := by rw [← l]; exact (List.getElem?_eq_some_iff.mp e).1
    exact ⟨h, by rw [(get j h).2]; exact e⟩
  exact ⟨s.gle, s.ex, s.keep, s.gnew, fun i a m => (s.fnew i a m).imp id (Or.imp (fun ⟨j, m, w⟩ => ⟨j, m, fun e => w (up j e).2⟩) id), fun i e => by
    obtain ⟨e1, e2⟩ := s.wls i (up i e).2
    exact ⟨e1, e2.trans (get i (up i e).1).1⟩⟩
theorem SitS.ungrow {vs : List V} {N : List Str} (s : SitS P (ρc ++ List.replicate (N.length - vs.length) SV.un) (L2.start N vs) H G F ρ' σ' H' G' F') (l : ρc.length = vs.length) : SitC P ρc (vs.map some) H G F ρ' σ' H' G' F' := ⟨s.st, s.ev.ungrow l⟩
theorem SitS.retl' {vs : List V} {N : List Str} {L : List Addr} (l : ρc.length = vs.length) (h : RetL (ρc ++ List.replicate (N.length - vs.length) .un) H F L) : RetL ρc H F L := fun a m =>
  (h a m).imp id fun ⟨j, m, w⟩ => ⟨j, m, fun e => w (by
    have h : j < ρc.length := (List.getElem?_eq_some_iff.mp e).1
    rw [List.getElem?_append_left h]; exact e)⟩
/-- a value handed back; a tree may be a well -/
def retQ (P : Par) (Q : Rv → Prop) (r : Rv) : Prop := match r with
  | .fr o => Q (.fr o) ∨ (P.wp o ∧ Q .wl)
  | .cl d => Q (.cl d)
  | .wl => Q .wl
  | _ => False
theorem retQ_ok {Q : Rv → Prop} {r : Rv} {v : V} {L : List Addr} (h : retQ P Q r) (o : RvOk P ρ σ H G F v r L) : ∃ r', isDr r' = false ∧ Q r' ∧ RvOk P ρ σ H G F v r' L := by
  cases r with
  | fr x => exact h.elim (fun q => ⟨.fr x, rfl, q, o⟩) fun q => ⟨.wl, rfl, q.2, x, o, q.1⟩
  | cl d => exact ⟨.cl d, rfl, h, o⟩
  | wl => exact ⟨.wl, rfl, h, o⟩
  | _ => exact h.elim
/-- errors go where they are wished for -/
def TkOk (X : Cx) (P : Par) : Prop := ∃ W, Takes X W ∧ ∀ d er ρ σ H G F, StOk P ρ σ H G F → ErOk P G d er → P.ee ρ er → W er.cls d σ H
structure ErF (X : Cx) (P : Par) (ee : List SV → Er → Prop) : Prop where
  he : P.ee = ee
  tk : TkOk X P
theorem takes_no : Takes X (fun _ _ _ _ => False) := fun _ _ ⟨_, _, _, _, _, _, _, _, _, _, _, _, _, _, _, _, w⟩ => w.elim
theorem ErF.no (h : P.ee = fun _ _ => False) : ErF X P (fun _ _ => False) := ⟨h, _, takes_no, fun _ _ _ _ _ _ _ _ _ q => by rw [h] at q; exact q⟩
/-- the same, under another wish -/
theorem StOk.re {P1 : Par} (S : StOk P ρ σ H G F) (hw : P1.w = P.w) (hK : P1.K = P.K) (hp : P1.wp = P.wp) (hx : P1.xa = P.xa) (er : P1.At ρ σ H G F) : StOk P1 ρ σ H G F := by
  obtain ⟨w, K, wp, wi, pn, bs, ee, xa⟩ := P
  obtain ⟨w', K', wp', wi', pn', bs', ee', xa'⟩ := P1
  cases hw
  cases hK
  cases hp
  cases hx
  refine ⟨S.le, fun i sv e => ?_, S.out, S.nd, S.dj, S.off, S.len, er⟩
  have q := S.slot i sv e
  cases sv with
  | un => exact q
  | sh d => exact q
  | ow o => exact q
  | wl => exact q
  | sc ns => exact q
  | ex e => exact q
  | io C fs => exact q
/-- a def that raises nothing, by its body over data -/
theorem fnD {prog : Program} {w : World} {K : PySem.W.Frag} {mg : Str → Option Value} {base : Heap} {x qual : Str} {st : Stmt} {f : Addr} {fd : FuncData} {N ps : List Str} {k : Nat} {ct : Ct} {tb : (List SV → Er → Prop) → TDs} (F : Fun K x qual st f fd) (S : FnScope N ps (defScope st))
    (len : ∀ ρ Q, ct ρ Q → ρ.length = ps.length)
    (hb : ∀ (cdv : Value) (A : Around) (outer : List Env) (s : Shared) (H : Hp) (E : XK) (P : Par) (ee : List SV → Er → Prop), CxF (cxOf CX0 prog w K mg base N qual (defScope st) f cdv A outer s H E).nox P → ErF (cxOf CX0 prog w K mg base N qual (defScope st) f cdv A outer s H E).nox P ee → (∀ j, P.pin j = false) → Room k (A.deeper (envOfC qual (defScope st) s.heap.objs.size f cdv)) →
      JSs (cxOf CX0 prog w K mg base N qual (defScope st) f cdv A outer s H E).nox P (defBody st) (tb ee))
    (ht : ∀ ρ Q, ct ρ Q → tb (fun _ _ => False) { nx := fun _ => Q (.cl .none), rt := fun _ r => retQ (PaW w K) Q r } (ρ ++ List.replicate (N.length - ps.length) .un)) :
    FnG prog w K mg base CX0 (k + 1) f fd ps (spOf (PaW w K) ct) := by
  obtain ⟨oc, od, kV, doc, pm, an, cdv, cc, osl, rfl, lk, hcd⟩ := F.ex
  have hlen : ∀ vs H Q E, spOf (PaW w K) ct vs H Q E → vs.length = ps.length := fun vs H Q E ⟨ρc, _, _, _, l, _, h, _⟩ => by rw [← l]; exact len _ _ h
  refine fn_ofG lk hcd S hlen fun A out s H vs Q E room gu hsp => ?_
  have hn := hlen _ _ _ _ hsp
  obtain ⟨ρc, Gc, Fc, Qd, l, St, hct, k⟩ := hsp
  have pl : vs.length ≤ N.length := by
    have := congrArg List.length S.pre
    rw [List.length_take] at this
    omega
  have un : (A.deeper (envOfC qual (defScope st) s.heap.objs.size f cdv)).units + 80 < cLine := by have := room.un; omega
  refine ⟨_, (hb cdv A out s H E (PaW w K) _ ⟨rfl, PassesOwn.never, rfl, rfl, rfl, S.nd, un, gu⟩ (.no rfl) (fun _ => rfl) room).nox, ρc ++ List.replicate (N.length - vs.length) SV.un, Gc, Fc, _, St.grow l pl (.none rfl), by rw [hn]; exact ht ρc Qd hct, ?_⟩
  refine ⟨fun ρ' σ' H' G' F' z q => ?_, fun v r ρ' σ' H' G' F' L z o rl q => ?_, fun _ _ _ _ _ _ q => q.elim, fun _ _ _ _ _ _ q => q.elim⟩
  · exact k .non (.cl .none) ρ' σ' H' G' F' [] (z.ungrow l) ⟨.non, rfl⟩ (fun _ m => nomatch m) rfl q
  · obtain ⟨r', d, q, o⟩ := retQ_ok q o
    exact k v r' ρ' σ' H' G' F' L (z.ungrow l) o (SitS.retl' l rl) d q
/-- values where errors are wished for -/
theorem RvOk.re {P1 : Par} {v : V} {r : Rv} {L : List Addr} (h : RvOk P ρ σ H G F v r L) (hw : P1.w = P.w) (hK : P1.K = P.K) (hp : P1.wp = P.wp) : RvOk P1 ρ1 σ1 H G F v r L ∨ ∃ i d, r = .ws i ∨ r = .dr d := by
  obtain ⟨w, K, wp, wi, pn, bs, ee, xa⟩ := P
  obtain ⟨w', K', wp', wi', pn', bs', ee', xa'⟩ := P1
  cases hw
  cases hK
  cases hp
  cases r with
  | cl d => exact .inl h
  | fr o =>
    have h' : FrOk ⟨w, K, wp, wi, pn, bs, ee, xa⟩ H G F v o L := h
    exact .inl ⟨h'.own, h'.nd, h'.off⟩
  | wl => obtain ⟨o, h, z⟩ := h; exact .inl ⟨o, ⟨h.own, h.nd, h.off⟩, z⟩
  | sc ns => exact .inl h
  | ws i => exact .inr ⟨i, .none, .inl rfl⟩
  | dr d => exact .inr ⟨0, d, .inr rfl⟩
/-- what a caller knows of a def: its promise is ct -/
structure CallOk (prog : Program) (w : World) (K : PySem.W.Frag) (mg : Str → Option Value) (base : Heap) (P : Par) (k : Nat) (x : Str) (ps : List Str) (ct : Ct) : Prop where
  ex : ∃ f fd, mg x = some (.ref f) ∧ PySem.W.keepIn K (.ref f) = true ∧ Binds K fd ps [] ∧ FnG prog w K mg base CX0 k f fd ps (spOf P ct)
structure CallXOk (prog : Program) (w : World) (K : PySem.W.Frag) (mg : Str → Option Value) (base : Heap) (P : Par) (k : Nat) (x : Str) (ps : List Str) (ct : CtX) : Prop where
  ex : ∃ f fd, mg x = some (.ref f) ∧ PySem.W.keepIn K (.ref f) = true ∧ Binds K fd ps [] ∧ FnG prog w K mg base (CX prog w) k f fd ps (spX P ct)
theorem CxF.nb' (C : CxF X P) : P.nb = PaW X.w X.K := by rw [C.w, C.K]; exact C.nb
theorem je_call {k : Nat} {x : Str} {ps : List Str} {ct : Ct} (C : CxF X P) (F : CallOk X.prog X.w X.K X.mg X.base (PaW X.w X.K) k x ps ct) (hr : Room k X.A) (hg : Gl X x) (ha : JA X P (e :: es) ta) (hdb : (x == ("__debug__" : Str)) = false)
    (he : starEach (e :: es) X.env = (false, eval e X.env) :: starEach es X.env) (hpl : (backTo pos (starEach es X.env)).any (·.1) = false) : JE X P (.Call (.Name x p) (e :: es) [] pos) (fun ρ Q => ta ρ fun rs => callD ct rs Q) := by
  obtain ⟨f, fd, hm, hk, hb, G⟩ := F.ex
  rw [← C.nb'] at G
  exact pe_imp (pe_callG (E := fun _ _ _ => True) G hr C.gu hg hm hk hb L2.pass0 ha hdb he hpl) fun σ H Q' h => te_args (r := fun vs H Q => spOf P.nb ct vs H Q fun _ _ _ => True) arg_call h
def pinned (P : Par) : Par := { P with pin := fun i => i == 0 }
def drawT (P : Par) (n : Int) : DEnds := { nx := fun _ => False, rt := fun ρ' r => ∃ o', ρ'[0]? = some (.ow o') ∧ P.wp o' ∧ (∀ i : Nat, 0 < i → ∀ o, ρ'[i]? ≠ some (.ow o) ∧ ρ'[i]? ≠ some .wl) ∧ (∀ (i : Nat) C fs, ρ'[i]? ≠ some (.io C fs)) ∧ ∃ r' : Int, r = .cl (.int r') ∧ 0 ≤ r' ∧ r' < n }
def ctDraw : Ct := fun ρ Q => ∃ n : Int, ρ = [.wl, .sh (.int n)] ∧ 0 < n ∧ n < 1073741824 ∧ ∀ r : Int, 0 ≤ r → r < n → Q (.cl (.int r))
theorem fnDraw {prog : Program} {w : World} {K : PySem.W.Frag} {mg : Str → Option Value} {base : Heap} {x qual : Str} {st : Stmt} {f : Addr} {fd : FuncData} {N ps : List Str} {k : Nat} {tb : TDs} (F : Fun K x qual st f fd) (S : FnScope N ps (defScope st)) (l2 : ps.length = 2)
    (hb : ∀ (cdv : Value) (A : Around) (outer : List Env) (s : Shared) (H : Hp) (E : XK), CxF (cxOf CX0 prog w K mg base N qual (defScope st) f cdv A outer s H E).nox (pinned (PaW w K)) → Room k (A.deeper (envOfC qual (defScope st) s.heap.objs.size f cdv)) →
      JSs (cxOf CX0 prog w K mg base N qual (defScope st) f cdv A outer s H E).nox (pinned (PaW w K)) (defBody st) tb)
    (ht : ∀ o n, WellP o → 0 < n → n < 1073741824 → tb (drawT (PaW w K) n) ([.ow o, .sh (.int n)] ++ List.replicate (N.length - 2) .un)) :
    FnG prog w K mg base CX0 (k + 1) f fd ps (spOf (PaW w K) ctDraw) := by
  obtain ⟨oc, od, kV, doc, pm, an, cdv, cc, osl, rfl, lk, hcd⟩ := F.ex
  have hlen : ∀ vs H Q E, spOf (PaW w K) ctDraw vs H Q E → vs.length = ps.length := fun vs H Q E ⟨ρc, _, _, _, l, _, ⟨n, e, _⟩, _⟩ => by rw [← l, e, l2]; rfl
  refine fn_ofG lk hcd S hlen fun A out s H vs Q E room gu hsp => ?_
  have hn := hlen _ _ _ _ hsp
  obtain ⟨ρc, Gc, Fc, Qd, l, St, ⟨n, rfl, n0, n1, hq⟩, k⟩ := hsp
  have pl : vs.length ≤ N.length := by
    have := congrArg List.length S.pre
    rw [List.length_take] at this
    omega
  have un : (A.deeper (envOfC qual (defScope st) s.heap.objs.size f cdv)).units + 80 < cLine := by have := room.un; omega
  obtain ⟨v0, o, ev0, own, wo⟩ := St.slot 0 _ rfl
  have S1 : StOk (pinned (PaW w K)) [.ow o, .sh (.int n)] (vs.map some) H Gc Fc := by
    have S2 : StOk (pinned (PaW w K)) [.wl, .sh (.int n)] (vs.map some) H Gc Fc := StOk.re (P := PaW w K) St rfl rfl rfl rfl (.none rfl)
    refine ⟨S2.le, fun i sv e => ?_, fun i e => S2.out i ?_, S2.nd, S2.dj, S2.off, S2.len, .none rfl⟩
    · cases i with
      | zero => cases e; exact ⟨v0, ev0, own⟩
      | succ i => exact S2.slot (i + 1) sv (by simpa using e)
    · cases i with
      | zero => cases e
      | succ i => simpa using e
  refine ⟨_, (hb cdv A out s H E ⟨rfl, PassesOwn.never, rfl, rfl, rfl, S.nd, un, gu⟩ room).nox, [.ow o, .sh (.int n)] ++ List.replicate (N.length - vs.length) .un, Gc, Fc, drawT (PaW w K) n, S1.grow (by rw [← l]; rfl) pl (.none rfl), by rw [hn, l2]; exact ht o n wo n0 n1, ?_⟩
  refine ⟨fun ρ' σ' H' G' F' z q => q.elim, fun v r ρ' σ' H' G' F' L z ok rl q => ?_, fun _ _ _ _ _ _ q => q.elim, fun _ _ _ _ _ _ q => q.elim⟩
  obtain ⟨o', e0, wo', oth, nio, r', rfl, q0, q1⟩ := q
  have zc := z.ungrow (by rw [← l]; rfl)
  have e1 : σ'[0]? = (vs.map some)[0]? := by
    have hp : vs.length = 2 := by rw [hn, l2]
    rw [z.pin 0 rfl]
    unfold L2.start
    rw [List.getElem?_append_left (by rw [List.length_map]; omega)]
  have nf : ∀ i : Nat, 0 < i → F' i = [] := fun i hi => z.st.noF (fun s e => by
    cases s with
    | ow o => exact absurd e (oth i hi o).1
    | io C fs => exact absurd e (nio i C fs)
    | _ => rfl) (oth i hi (.lf .none)).2
  obtain ⟨rp, rfl⟩ := ok
  refine k v (.cl (.int r')) (ρ'.set 0 .wl) σ' H' G' F' [] ⟨?_, zc.ev.gle, zc.ev.ex, zc.ev.keep, zc.ev.gnew, fun i a m => ?_, fun i e => ?_⟩ ⟨rp, rfl⟩ (fun _ m => nomatch m) rfl (hq r' q0 q1)
  · have z1 : StOk (PaW w K) ρ' σ' H' G' F' := StOk.re (P := pinned (PaW w K)) z.st rfl rfl rfl rfl (.none rfl)
    have l0 : 0 < ρ'.length := (List.getElem?_eq_some_iff.mp e0).1
    refine ⟨z1.le, fun i sv e => ?_, fun i e => ?_, z1.nd, z1.dj, z1.off, by rw [List.length_set]; exact z1.len, .none rfl⟩
    · cases i with
      | zero =>
        rw [List.getElem?_set_self l0] at e
        cases e
        obtain ⟨v1, h1, h2⟩ := z1.slot 0 _ e0
        exact ⟨v1, o', h1, h2, wo'⟩
      | succ i =>
        rw [List.getElem?_set_ne (by omega)] at e
        exact z1.slot (i + 1) sv e
    · cases i with
      | zero => rw [List.getElem?_set_self l0] at e; cases e
      | succ i => exact nf (i + 1) (by omega)
  · cases i with
    | zero =>
      rcases zc.ev.fnew 0 a m with q | ⟨j, q, w⟩ | q
      · exact .inl q
      · cases j with
        | zero => exact .inl q
        | succ j => exact .inr (.inl ⟨j + 1, q, by simpa using w⟩)
      · exact .inr (.inr q)
    | succ i => rw [nf (i + 1) (by omega)] at m; cases m
  · cases i with
    | zero => exact ⟨List.getElem?_set_self (List.getElem?_eq_some_iff.mp e0).1, e1⟩
    | succ i =>
      cases i with
      | zero => cases e
      | succ i => simp at e
def ctLaw : Ct := fun ρ Q => ∃ ns : List Int, ρ = [.sc ns] ∧ ns.length ≤ 63 ∧ Q (.cl (.bool true))
theorem law_goG {p : Program} {w : World} {K : PySem.W.Frag} {mg mb : Str → Option Value} {k : Nat} {fa a : Addr} {fd : FuncData} {x : Str} {sp : Sp} {s1 : Shared} {vs : List Value} {ns : List Int}
    (KX : K.In s1.heap) (hm : s1.heap.Ns mainGlobals mg) (hb : s1.heap.Ns builtinsNs mb) (hbb : ∀ x : Str, x ≠ "__name__" → mb x = bootBuiltins x) (hlim : s1.heap.NoLimit) (hg : s1.gens = #[])
    (ha : s1.heap.get? a = some { cls := .type "list", data := .seq vs.toArray }) (hi : IntsAre vs ns) (hl : ns.length ≤ sizeLine) (hr : Room k callerA)
    (F : ∀ base : Heap, K.In base → base.Ns mainGlobals mg → FnG p w K mg base CX0 k fa fd [x] sp) (hbind : ∀ (s : Shared) (u : Value), BindsTo s fd ⟨[u], []⟩ [(x, u)])
    (hsp : ∀ H : Hp, SqL K H a (ns.map V.int) → sp [.ref a] H (fun v _ => v = .bl true) fun _ _ _ => False) :
    codeAny (model p w) callerA (.call (.ref fa) ⟨[.ref a], []⟩) (fun r s' => r = .ok (.ret (.bool true)) ∧ OldK s1.heap s'.heap ∧ s'.os = s1.os ∧ AllBare s'.gens) s1 := by
  have rv := vals_ints hi
  have lv := hi.length
  -- at a heap in which the script alone may stand
  have at_ : ∀ H : Hp, Only H → SqL K H a (ns.map V.int) → HOk p w H s1.heap → (∀ b, H b ≠ none → b = a ∧ K.lookup a = none) →
      codeAny (model p w) callerA (.call (.ref fa) ⟨[.ref a], []⟩) (fun r s' => r = .ok (.ret (.bool true)) ∧ OldK s1.heap s'.heap ∧ s'.os = s1.os ∧ AllBare s'.gens) s1 := by
    intro H only sq hok hA
    have free : ∀ {b : Addr} {o : Obj}, s1.heap.get? b = some o → (∀ es ep, o.data = .dict es ep → H b = none) := fun {b o} e es ep d => by
      cases q : H b with
      | none => rfl
      | some u =>
        obtain ⟨rfl, _⟩ := hA b (by rw [q]; simp)
        rw [ha] at e
        cases e
        cases (show Data.seq vs.toArray _ = Data.dict es ep from d)
    have ns' : ∀ {b : Addr} {m : Str → Option Value}, s1.heap.Ns b m → (hidT s1.heap H).Ns b m := fun {b m} ⟨o, es, ep, e, d, r⟩ => ⟨o, es, ep, hidT_get e (free e es ep d), d, r⟩
    have kin : K.In (hidT s1.heap H) := fun b o e => hidT_get (KX b o e) (by
      cases q : H b with
      | none => rfl
      | some u =>
        obtain ⟨rfl, kl⟩ := hA b (by rw [q]; simp)
        rw [kl] at e; cases e)
    have md : Mod K mg (hidT s1.heap H) := ⟨kin, ns' hm, ⟨mb, ns' hb, hbb⟩, let ⟨mc, h1, h2⟩ := hlim; ⟨mc, ns' h1, h2⟩⟩
    have none_in : ∀ b : Addr, b ∉ ([] : List Addr) := fun b z => nomatch z
    have e0 : Env0 p w K mg (hidT s1.heap H) callerA [] s1 H := ⟨rfl, md, fun b o e => of_hidT e, Nat.le_of_eq (hidT_size _ _), trivial, fun b z => absurd z (none_in b), hok, .of_eq hg⟩
    refine codeAny_mono ((F _ kin (ns' hm)).go callerA [] s1 H ⟨[.ref a], []⟩ [.ref a] [.ref a] _ _ hr rfl e0 (hbind s1 (.ref a)) (.cons rfl .nil) (hsp H sq)) fun r s' h => ?_
    cases r with
    | error e => exact False.elim h
    | ok fl =>
      cases fl with
      | ret u =>
        obtain ⟨v, H', os, bare, un, hok', r', q⟩ := h
        obtain rfl : v = .bl true := q
        obtain rfl : u = Value.bool true := r'
        refine ⟨rfl, OldK.of_keep fun b o e => ?_, os, bare⟩
        cases q : H b with
        | none => exact un.keep b o e q (none_in b) (none_in b)
        | some u =>
          rcases only b with z | ⟨ob, xs, z⟩
          · rw [q] at z; cases z
          · obtain ⟨g1, _⟩ := hok b _ z
            obtain ⟨g2, _⟩ := hok' b _ (un.frzs b ob _ z)
            rw [e] at g1
            cases g1
            exact g2
      | next => exact False.elim h
      | brk => exact False.elim h
      | cont => exact False.elim h
  cases hk : K.lookup a with
  | some o =>
    have e := KX a o hk
    rw [ha] at e
    cases e
    exact at_ (fun _ => none) (fun _ => .inl rfl) (.inr ⟨_, vs.toArray, _, hk, rfl, rfl, rfl, by rw [List.size_toArray, lv]; exact hl, by simpa using rv⟩) (fun b u z => nomatch z) fun b z => absurd rfl z
  | none =>
    have pos : ∀ {b : Addr} {u : HO}, (if b = a then some (HO.frz { cls := .type "list", data := .seq vs.toArray } (.lst (ns.map V.int))) else none) = some u → b = a ∧ u = .frz { cls := .type "list", data := .seq vs.toArray } (.lst (ns.map V.int)) := fun {b u} z => by
      split at z
      · rename_i h; cases z; exact ⟨h, rfl⟩
      · cases z
    refine at_ (fun b => if b = a then some (.frz { cls := .type "list", data := .seq vs.toArray } (.lst (ns.map V.int))) else none) (fun b => ?_) (.inl (.inr ⟨_, if_pos rfl⟩)) (fun b u z => ?_) fun b z => ⟨?_, hk⟩
    · by_cases hb : b = a
      · exact .inr ⟨_, _, if_pos hb⟩
      · exact .inl (if_neg hb)
    · obtain ⟨rfl, rfl⟩ := pos z
      exact ⟨ha, by rw [List.length_map]; exact hl, vs, _, rv, ha⟩
    · by_cases hb : b = a
      · exact hb
      · exact absurd (if_neg hb) z
theorem walk_ofG {l : PySem.W.OpenLaw} {k : Nat} {q : Program} {loose : List Str} {XP : (Str → Option Value) → Heap → Prop} {YP : World → Heap → Prop} {d : DefRec} {K : Params → PySem.W.Frag} {Pf : World → Par} {x : Str}
    (hn : l.most = some 63) (hdf : d.params.defaults = []) (hr : Room k callerA) (hP : ∀ w, Pf w = PaW w (K w.params)) (hY : ∀ (w : World) (h : Heap), YP w h → (K w.params).In h)
    (F : ∀ (w : World) (mg : Str → Option Value) (fa : Addr) (h : Heap), (K w.params).In h → h.Ns mainGlobals mg → mg d.name = some (.ref fa) →
      ∃ fd : FuncData, (∀ (s : Shared) (u : Value), BindsTo s fd ⟨[u], []⟩ [(x, u)]) ∧ ∀ base : Heap, (K w.params).In base → base.Ns mainGlobals mg → FnG l.prog w (K w.params) mg base CX0 k fa fd [x] (spOf (Pf w) ctLaw)) :
    PySem.W.WalkO q loose XP YP l.row.toRowW d [] (fun f vs => PySem.call f vs) := by
  refine Att.attach_call hn hdf fun w s₀ s₁ mg mb fa o pm cd doc a vs ns G Y ho hd hcd hmg hobj hints hlen hg => ?_
  have KX := hY w _ Y
  obtain ⟨fd, hb, hF⟩ := F w mg fa _ KX G.T.g hmg
  refine law_goG KX G.T.g G.T.b G.T.builtins G.T.nolimit hg hobj hints (Nat.le_trans hlen (by decide)) hr hF hb fun H hS => ?_
  refine ⟨[.sc ns], H, fun _ => [], fun r => r = .cl (.bool true), rfl, ⟨.refl _, fun i sv e => ?_, fun _ _ => rfl, fun _ => List.nodup_nil, fun _ _ _ m => (nomatch m), fun _ _ m => (nomatch m), Nat.le_refl _, .none (by rw [hP])⟩, ⟨ns, rfl, hlen, rfl⟩, fun v r ρ' σ' H' G' F' L _ ok _ _ e => ?_⟩
  · cases i with
    | zero => cases e; exact ⟨⟨a, rfl, by rw [hP]; exact hS⟩, rfl⟩
    | succ i => simp at e
  · subst e
    obtain ⟨rp, _⟩ := ok
    cases rp
    rfl
end Rz
namespace Rz
open PySem PySem.Spec PyProof.Rows L2
variable {X : Cx} {P : Par} {w : World} {K : PySem.W.Frag} {H H' G G' : Hp} {σ : Sg} {s : Shared} {pins : List (Addr × Obj)} {a b : Addr}
def sameK (a b : PD) : Bool := decide (keyOf a = keyOf b)
section
variable {α β : Type}
def lookG (kvs : List (PD × α)) (k : PD) : Option α := (kvs.find? fun kv => sameK kv.1 k).map (·.2)
def putG (kvs : List (PD × α)) (k : PD) (v : α) : List (PD × α) :=
  if (kvs.any fun kv => sameK kv.1 k) = true then kvs.map (fun kv => if sameK kv.1 k = true then (kv.1, v) else kv) else kvs ++ [(k, v)]
theorem lookG_cons (p : PD × α) (r : List (PD × α)) (k : PD) : lookG (p :: r) k = if sameK p.1 k = true then some p.2 else lookG r k := by
  unfold lookG
  rw [List.find?_cons]
  cases sameK p.1 k <;> rfl
theorem lookG_any (k : PD) : ∀ kvs : List (PD × α), (kvs.any fun kv => sameK kv.1 k) = (lookG kvs k).isSome
  | [] => rfl
  | p :: r => by
    rw [List.any_cons, lookG_cons]
    cases h : sameK p.1 k
    · rw [Bool.false_or, if_neg (by simp)]; exact lookG_any k r
    · rw [Bool.true_or, if_pos rfl]; rfl
theorem putG_len (kvs : List (PD × α)) (k : PD) (v : α) : (putG kvs k v).length ≤ kvs.length + 1 := by
  unfold putG
  split
  · rw [List.length_map]; omega
  · rw [List.length_append]; simp
theorem putG_keys (kvs : List (PD × α)) (k : PD) (v : α) : (putG kvs k v).map (·.1) = if (lookG kvs k).isSome = true then kvs.map (·.1) else kvs.map (·.1) ++ [k] := by
  unfold putG
  rw [lookG_any]
  split
  · rw [List.map_map]
    congr 1
    funext p
    show (if sameK p.1 k = true then (p.1, v) else p).1 = p.1
    split <;> rfl
  · rw [List.map_append]; rfl
end
/-- the key suits the dict's keys -/
def fitK (ks : List PD) (k : PD) : Bool := (ks.all (fun k => (keyF k).isSome) && (keyF k).isSome) || (ks.all isTupD && isTupD k && (match keyOf k with
  | some n => decide (n.depth ≤ 8)
  | none => false))
theorem isIns_keys {kvs : List (PD × PD)} (h : ∀ d, .dict d ∉ kvs.map (·.1)) : isIns kvs = false := by
  unfold isIns
  split
  · exact absurd (by simp) (h [])
  · rfl
theorem isIns_imm {kvs : List (PD × PD)} (h : immAll (kvs.map (·.1)) = true) : isIns kvs = false := isIns_keys fun d m => by
  have := immAll_iff.mp h _ m
  cases this
theorem fitK_cases {ks : List PD} {k : PD} (h : fitK ks k = true) : ((∀ k ∈ ks, (keyF k).isSome = true) ∧ (keyF k).isSome = true) ∨ ((∀ k ∈ ks, isTupD k = true) ∧ isTupD k = true ∧ ∃ n, keyOf k = some n ∧ n.depth ≤ 8) := by
  unfold fitK at h
  rw [Bool.or_eq_true, Bool.and_eq_true, Bool.and_eq_true, Bool.and_eq_true, List.all_eq_true, List.all_eq_true] at h
  rcases h with h | ⟨⟨h1, h2⟩, h3⟩
  · exact .inl h
  · refine .inr ⟨h1, h2, ?_⟩
    split at h3
    · rename_i n e; exact ⟨n, e, of_decide_eq_true h3⟩
    · cases h3
theorem isIns_fit {kvs : List (PD × PD)} {k : PD} (h : fitK (kvs.map (·.1)) k = true) : isIns kvs = false := isIns_keys fun d m => by
  rcases fitK_cases h with ⟨h, _⟩ | ⟨h, _⟩
  · have := h _ m; cases this
  · have := h _ m; cases this
inductive EntV (w : World) (K : PySem.W.Frag) (H : Hp) : List DictEntry → List (PD × V) → Prop
  | nil : EntV w K H [] []
  | cons {e : DictEntry} {es : List DictEntry} {k : PD} {kv v : V} {kvs : List (PD × V)} : e.hash = hashD w k → RelV kv e.key → Rep w K H kv k → RelV v e.val → EntV w K H es kvs → EntV w K H (e :: es) ((k, v) :: kvs)
theorem EntV.len {es : List DictEntry} {kvs : List (PD × V)} (h : EntV w K H es kvs) : es.length = kvs.length := by
  induction h with
  | nil => rfl
  | cons _ _ _ _ _ ih => simp [ih]
theorem EntV.mono {es : List DictEntry} {kvs : List (PD × V)} (h : EntV w K H es kvs) (l : Le H H') : EntV w K H' es kvs := by
  induction h with
  | nil => exact .nil
  | cons a b c d _ ih => exact .cons a b (c.mono l) d ih
theorem RepsE.ent : ∀ {kvs : List (PD × PD)} {es : List DictEntry}, RepsE w K H es kvs → ∃ kvV, EntV w K H es kvV ∧ kvV.map (·.1) = kvs.map (·.1) ∧ Reps w K H (kvV.map (·.2)) (kvs.map (·.2))
  | [], _, h => by cases h; exact ⟨[], .nil, rfl, .nil⟩
  | (k, d) :: r, _, h => by
    cases h with
    | @cons e es _ _ _ kv dv e1 e2 e3 e4 e5 e6 =>
      obtain ⟨kvV, h1, h2, h3⟩ := RepsE.ent e6
      exact ⟨(k, dv) :: kvV, .cons e1 e2 e3 e4 h1, by simp [h2], .cons e5 h3⟩
theorem OwnsE.ent : ∀ {kvs : List (PD × OD)} {es : List DictEntry} {L : List Addr}, OwnsE w K H G es kvs L → ∃ kvV, EntV w K G es kvV ∧ kvV.map (·.1) = kvs.map (·.1) ∧ Owns w K H G (kvV.map (·.2)) (kvs.map (·.2)) L
  | [], _, _, h => by cases h; exact ⟨[], .nil, rfl, .nil⟩
  | (k, d) :: r, _, _, h => by
    cases h with
    | @cons e es _ _ _ kv dv _ _ e1 e2 e3 e4 e5 e6 =>
      obtain ⟨kvV, h1, h2, h3⟩ := OwnsE.ent e6
      exact ⟨(k, dv) :: kvV, .cons e1 e2 e3 e4 h1, by simp [h2], .cons e5 h3⟩
theorem EntV.owns : ∀ {kvs : List (PD × OD)} {es : List DictEntry} {kvV : List (PD × V)} {L : List Addr}, EntV w K G es kvV → kvV.map (·.1) = kvs.map (·.1) → Owns w K H G (kvV.map (·.2)) (kvs.map (·.2)) L → OwnsE w K H G es kvs L
  | [], _, _, _, h, e, q => by
    cases h with
    | nil => cases q; exact .nil
    | cons _ _ _ _ _ => simp at e
  | (k, d) :: r, _, _, _, h, e, q => by
    cases h with
    | nil => simp at e
    | cons e1 e2 e3 e4 h =>
      rw [List.map_cons, List.map_cons, List.cons.injEq] at e
      obtain ⟨rfl, e⟩ := e
      cases q with
      | cons q1 q2 => exact .cons e1 e2 e3 e4 q1 (EntV.owns h e q2)
def kf (d : PD) : Key := (keyF d).getD (.inl 0)
def kvK (kvs : List (PD × V)) : List (Key × V) := kvs.map fun p => (kf p.1, p.2)
theorem keyF_cases {d : PD} (h : (keyF d).isSome = true) : (∃ i, d = .int i) ∨ ∃ x, d = .str x := by
  cases d with
  | int i => exact .inl ⟨i, rfl⟩
  | str x => exact .inr ⟨x, rfl⟩
  | _ => cases h
theorem sameK_flat {a b : PD} (ha : (keyF a).isSome = true) (hb : (keyF b).isSome = true) : sameK a b = decide (kf a = kf b) := by
  unfold sameK
  rcases keyF_cases ha with ⟨i, rfl⟩ | ⟨x, rfl⟩ <;> rcases keyF_cases hb with ⟨j, rfl⟩ | ⟨y, rfl⟩ <;> (apply decide_eq_decide.mpr; simp [keyOf, kf, keyF])
theorem rep_flat {v : V} {k : PD} (r : Rep w K H v k) (h : (keyF k).isSome = true) : v = kV (kf k) := by
  rcases keyF_cases h with ⟨i, rfl⟩ | ⟨x, rfl⟩ <;> (cases r; rfl)
theorem rep_of_flat {k : PD} (h : (keyF k).isSome = true) : Rep w K H (kV (kf k)) k := by
  rcases keyF_cases h with ⟨i, rfl⟩ | ⟨x, rfl⟩
  · exact .int i
  · exact .str x
theorem hash_flat {k : PD} (h : (keyF k).isSome = true) : hashD w k = keyH w (kf k) := by
  rcases keyF_cases h with ⟨i, rfl⟩ | ⟨x, rfl⟩ <;> rfl
theorem look_flat {k : PD} (hk : (keyF k).isSome = true) : ∀ {kvs : List (PD × V)}, (∀ p ∈ kvs, (keyF p.1).isSome = true) → lookG kvs k = valV (kvK kvs) (kf k)
  | [], _ => rfl
  | p :: r, h => by
    rw [lookG_cons, sameK_flat (h p List.mem_cons_self) hk]
    by_cases e : kf p.1 = kf k
    · rw [if_pos (decide_eq_true e)]
      exact (valV_pos (p := (kf p.1, p.2)) e).symm
    · rw [if_neg (by rw [decide_eq_false e]; simp), look_flat hk fun q m => h q (List.mem_cons_of_mem _ m)]
      exact (valV_neg (p := (kf p.1, p.2)) e).symm
theorem put_flat {k : PD} {y : V} (hk : (keyF k).isSome = true) {kvs : List (PD × V)} (h : ∀ p ∈ kvs, (keyF p.1).isSome = true) : kvK (putG kvs k y) = putK (kvK kvs) (kf k) y := by
  have e : (kvs.any fun kv => sameK kv.1 k) = (kvK kvs).any fun kv => decide (kv.1 = kf k) := by
    rw [lookG_any, look_flat hk h, valV_any]
  unfold putG putK
  rw [← e]
  split
  · unfold kvK
    rw [List.map_map, List.map_map]
    apply List.map_congr_left
    intro p m
    show (kf (if sameK p.1 k = true then (p.1, y) else p).1, (if sameK p.1 k = true then (p.1, y) else p).2) = if kf p.1 = kf k then (kf p.1, y) else (kf p.1, p.2)
    rw [sameK_flat (h p m) hk]
    by_cases q : kf p.1 = kf k
    · rw [if_pos (decide_eq_true q), if_pos q]
    · rw [if_neg (by rw [decide_eq_false q]; simp), if_neg q]
  · unfold kvK
    rw [List.map_append]
    rfl
theorem EntV.flat {prog : Program} {es : List DictEntry} {kvs : List (PD × V)} (h : EntV w K H es kvs) (hf : ∀ p ∈ kvs, (keyF p.1).isSome = true) : ∃ vs, KV (kvK kvs) vs ∧ Pairs (mixKind prog w) es vs ∧ ∀ e ∈ es, ∃ k, (mixKind prog w).is k e.key = true ∧ e.hash = (mixKind prog w).hash k := by
  induction h with
  | nil => exact ⟨[], .nil, .nil, fun _ m => nomatch m⟩
  | @cons e es k kv v kvs e1 e2 e3 e4 _ ih =>
    obtain ⟨vs, h1, h2, h3⟩ := ih fun p m => hf p (List.mem_cons_of_mem _ m)
    have hk := hf _ List.mem_cons_self
    rw [rep_flat e3 hk] at e2
    have is := kV_is (P := prog) (w := w) e2
    refine ⟨(kf k, e.val) :: vs, .cons ⟨rfl, e4⟩ h1, .cons is rfl h2, fun x m => ?_⟩
    rcases List.mem_cons.mp m with q | q
    · subst q; exact ⟨kf k, is, by rw [e1]; exact hash_flat hk⟩
    · exact h3 x q
theorem EntV.ofFlat {prog : Program} : ∀ {kvs : List (PD × V)} {es : List DictEntry} {vs : List (Key × Value)}, KV (kvK kvs) vs → Pairs (mixKind prog w) es vs → (∀ e ∈ es, ∃ k, (mixKind prog w).is k e.key = true ∧ e.hash = (mixKind prog w).hash k) → (∀ p ∈ kvs, (keyF p.1).isSome = true) → EntV w K H es kvs
  | [], _, _, h, p, _, _ => by cases h; cases p; exact .nil
  | (k, v) :: r, _, _, h, p, q, hf => by
    cases h with
    | cons h1 h2 =>
      cases p with
      | @cons e kv es kvs p1 p2 p3 =>
        obtain ⟨e1, e2⟩ := h1
        have hk := hf _ List.mem_cons_self
        obtain ⟨k', i1, i2⟩ := q e List.mem_cons_self
        have ek : k' = kf k := ((mixKind prog w).inj _ _ _ i1 p1).trans e1.symm
        refine .cons (kv := kV (kf k)) (by rw [i2, ek]; exact (hash_flat hk).symm) (by have z := keyIs_rel p1; rw [← (show kf k = _ from e1)] at z; exact z) (rep_of_flat hk) (by rw [p2]; exact e2) (EntV.ofFlat h2 p3 (fun e m => q e (List.mem_cons_of_mem _ m)) fun p m => hf p (List.mem_cons_of_mem _ m))
def nk (d : PD) : NestedKey := (keyOf d).getD .none
mutual
theorem Rep.nested (I : Inv X pins σ H s) : ∀ {d : PD} {v : V} {u : Value} {n : NestedKey}, Rep w X.K H v d → RelV v u → keyOf d = some n → NestedIs s.heap n u
  | .none, _, _, _, h, r, e => by cases h; cases e; rw [show _ = Value.none from r]; exact .none
  | .bool b, _, _, _, h, r, e => by cases h; cases e; rw [show _ = Value.bool b from r]; exact .bool rfl
  | .int i, _, _, _, h, r, e => by cases h; cases e; obtain ⟨t, rfl⟩ := (show ∃ t, _ = Value.int i t from r); exact .int _ _
  | .str x, _, _, _, h, r, e => by cases h; cases e; obtain ⟨t, rfl⟩ := (show ∃ t, _ = Value.str x t from r); exact .text _ _
  | .list _, _, _, _, h, _, e => by cases e
  | .dict _, _, _, _, h, _, e => by cases e
  | .tuple ds, _, _, _, h, r, e => by
    cases h with
    | @tup a xs _ sq q =>
      rw [keyOf] at e
      obtain ⟨ks, e1, rfl⟩ := Option.map_eq_some_iff.mp e
      rw [show _ = Value.ref a from r]
      obtain ⟨its, rv, ⟨o, h1, h2, n, h3⟩, _⟩ := I.tuple sq
      exact .tup h1 h2 h3 (by simpa using Reps.nested I q rv e1)
theorem Reps.nested (I : Inv X pins σ H s) : ∀ {ds : List PD} {vs : List V} {us : List Value} {ns : List NestedKey}, Reps w X.K H vs ds → Vals vs us → keyAll ds = some ns → NestedAll s.heap ns us
  | [], _, _, _, h, r, e => by cases h; cases r; cases e; exact .nil
  | d :: ds, _, _, _, h, r, e => by
    cases h with
    | cons h1 h2 =>
      cases r with
      | cons r1 r2 =>
        rw [keyAll] at e
        split at e
        · rename_i k ks e1 e2
          cases e
          exact .cons (Rep.nested I h1 r1 e1) (Reps.nested I h2 r2 e2)
        · cases e
end
abbrev KTn (w : World) (K : PySem.W.Frag) (H : Hp) : List (PD × V) → List (NestedKey × Addr × Value) → Prop := Paired fun p q => nk p.1 = q.1 ∧ Rep w K H (.ref q.2.1) p.1 ∧ RelV p.2 q.2.2
/-- a key that is a tuple -/
def TupKey (d : PD) : Prop := isTupD d = true ∧ ∃ n, keyOf d = some n ∧ n.depth ≤ 8
theorem TupKey.nk {d : PD} (h : TupKey d) : keyOf d = some (nk d) ∧ (nk d).depth ≤ 8 := by
  obtain ⟨_, n, e, l⟩ := h
  unfold Rz.nk
  rw [e]
  exact ⟨rfl, l⟩
theorem TupKey.ref {d : PD} {v : V} (h : TupKey d) (r : Rep w K H v d) : ∃ b, v = .ref b := by
  cases d with
  | tuple ds => cases r with | tup _ _ => exact ⟨_, rfl⟩
  | _ => cases h.1
theorem sameK_tup {a b : PD} (ha : TupKey a) (hb : TupKey b) : sameK a b = decide (nk a = nk b) := by
  unfold sameK
  rw [ha.nk.1, hb.nk.1]
  apply decide_eq_decide.mpr
  constructor
  · intro e; exact Option.some.inj e
  · intro e; rw [e]
theorem TupKey.is (I : Inv X pins σ H s) {d : PD} {b : Addr} (h : TupKey d) (r : Rep w X.K H (.ref b) d) : (nestedKind X.prog X.w).is s.heap (Rz.nk d) b := ⟨r.nested I rfl h.nk.1, h.nk.2⟩
theorem EntV.nest {prog : Program} {es : List DictEntry} {kvs : List (PD × V)} (h : EntV w K H es kvs) (hf : ∀ p ∈ kvs, TupKey p.1) : ∃ xs, KTn w K H kvs xs ∧ es = xs.map (entryOfKey (nestedKind prog w)) := by
  induction h with
  | nil => exact ⟨[], .nil, rfl⟩
  | @cons e es k kv v kvs e1 e2 e3 e4 _ ih =>
    obtain ⟨xs, h1, h2⟩ := ih fun p m => hf p (List.mem_cons_of_mem _ m)
    obtain ⟨b, rfl⟩ := (hf _ List.mem_cons_self).ref e3
    refine ⟨(nk k, b, e.val) :: xs, .cons ⟨rfl, e3, e4⟩ h1, ?_⟩
    rw [List.map_cons, ← h2]
    congr 1
    obtain ⟨eh, ek, ev⟩ := e
    rw [show ek = Value.ref b from e2, show eh = hashD w k from e1]
    rfl
theorem EntV.ofNest {prog : Program} {kvs : List (PD × V)} {xs : List (NestedKey × Addr × Value)} (h : KTn w K H kvs xs) : EntV w K H (xs.map (entryOfKey (nestedKind prog w))) kvs := by
  induction h with
  | nil => exact .nil
  | @cons p q ps qs h t ih =>
    obtain ⟨h1, h2, h3⟩ := h
    refine .cons (kv := .ref q.2.1) ?_ rfl h2 h3 ih
    show (nestedKind prog w).hash q.1 = hashD w p.1
    rw [← h1]
    rfl
theorem KTn.val {kvs : List (PD × V)} {xs : List (NestedKey × Addr × Value)} {k : PD} (h : KTn w K H kvs xs) (hf : ∀ p ∈ kvs, TupKey p.1) (hk : TupKey k) : RelO (lookG kvs k) ((atKey xs (nk k)).map (·.2)) := by
  induction h with
  | nil => exact True.intro
  | @cons p q ps qs h t ih =>
    obtain ⟨h1, _, h2⟩ := h
    rw [lookG_cons, sameK_tup (hf p List.mem_cons_self) hk]
    by_cases e : nk p.1 = nk k
    · have b : atKey (q :: qs) (nk k) = some q.2 := by simp [atKey, List.find?_cons, h1.symm.trans e]
      rw [if_pos (decide_eq_true e), b]; exact h2
    · have e' : ¬ q.1 = nk k := fun z => e (h1.trans z)
      have b : atKey (q :: qs) (nk k) = atKey qs (nk k) := by simp [atKey, List.find?_cons, e']
      rw [if_neg (by rw [decide_eq_false e]; simp), b]
      exact ih fun p m => hf p (List.mem_cons_of_mem _ m)
theorem KTn.put {kvs : List (PD × V)} {xs : List (NestedKey × Addr × Value)} {k : PD} {b : Addr} {y : V} {u : Value} (h : KTn w K H kvs xs) (hf : ∀ p ∈ kvs, TupKey p.1) (hk : TupKey k) (hb : Rep w K H (.ref b) k) (ry : RelV y u) : KTn w K H (putG kvs k y) (storedH xs (nk k) b u) := by
  have e : (kvs.any fun kv => sameK kv.1 k) = (atKey xs (nk k)).isSome := by
    rw [lookG_any, (h.val hf hk).isSome_eq, Option.isSome_map]
  unfold putG storedH
  rw [e]
  split
  · rename_i hh
    clear e hh
    induction h with
    | nil => exact .nil
    | @cons p q ps qs h t ih =>
      obtain ⟨h1, h2, h3⟩ := h
      rw [List.map_cons, List.map_cons]
      refine .cons ?_ (ih fun p m => hf p (List.mem_cons_of_mem _ m))
      rw [sameK_tup (hf p List.mem_cons_self) hk]
      unfold putAt
      by_cases e : nk p.1 = nk k
      · rw [if_pos (decide_eq_true e), if_pos (h1.symm.trans e)]; exact ⟨h1, h2, ry⟩
      · rw [if_neg (by rw [decide_eq_false e]; simp), if_neg fun z => e (h1.trans z)]; exact ⟨h1, h2, h3⟩
  · exact Paired.snoc h ⟨rfl, hb, ry⟩
theorem KTn.keys {kvs : List (PD × V)} {xs : List (NestedKey × Addr × Value)} (h : KTn w K H kvs xs) : xs.map (·.1) = kvs.map fun p => nk p.1 := by
  induction h with
  | nil => rfl
  | cons h _ ih => rw [List.map_cons, List.map_cons, ih, h.1]
end Rz
namespace Rz
open PySem PySem.Spec PyProof.Rows L2
variable {X : Cx} {P : Par} {K : PySem.W.Frag} {H H' G G' B : Hp} {σ : Sg} {s : Shared} {pins : List (Addr × Obj)} {a b : Addr}
/-- the dict at a holds kvs; its keys stand in B -/
structure DictV (X : Cx) (H B : Hp) (a : Addr) (kvs : List (PD × V)) : Prop where
  ex : ∃ es ep, H a = some (dRaw a es ep) ∧ EntV X.w X.K B es kvs
  le : Le B H
  ok : KeysOk (kvs.map (·.1))
theorem Inv.rawE {es : List DictEntry} {ep : Nat} (I : Inv X pins σ H s) (e : H a = some (dRaw a es ep)) : (a == sysModules) = false ∧ es.length ≤ sizeLine ∧ ∃ o, s.heap.get? a = some o ∧ o.ExactDict ∧ o.data = .dict es.toArray ep := by
  obtain ⟨φ, _⟩ := (show ObjOk X.prog X.w H s.heap a (dRaw a es ep) from I.hok a _ e)
  exact φ
theorem Inv.raw {es : List DictEntry} {ep : Nat} (I : Inv X pins σ H s) (e : H a = some (dRaw a es ep)) : (a == sysModules) = false ∧ es.length ≤ sizeLine ∧ ∃ o ep, s.heap.get? a = some o ∧ o.ExactDict ∧ o.data = .dict es.toArray ep := by
  obtain ⟨h1, h2, o, h3⟩ := Inv.rawE I e
  exact ⟨h1, h2, o, ep, h3⟩
theorem kf_inj {a b : PD} (ha : (keyF a).isSome = true) (hb : (keyF b).isSome = true) (e : kf a = kf b) : keyOf a = keyOf b := by
  have h := sameK_flat ha hb
  unfold sameK at h
  rw [decide_eq_true e] at h
  exact of_decide_eq_true h
theorem nodup_kf {kvs : List (PD × V)} (n : ((kvs.map (·.1)).map keyOf).Nodup) (hf : ∀ p ∈ kvs, (keyF p.1).isSome = true) : ((kvK kvs).map (·.1)).Nodup := by
  unfold kvK
  rw [List.map_map]
  rw [List.map_map] at n
  induction kvs with
  | nil => exact List.nodup_nil
  | cons p r ih =>
    rw [List.map_cons, List.nodup_cons] at n ⊢
    refine ⟨fun m => n.1 ?_, ih n.2 fun q m => hf q (List.mem_cons_of_mem _ m)⟩
    obtain ⟨q, mq, eq⟩ := List.mem_map.mp m
    exact List.mem_map.mpr ⟨q, mq, kf_inj (hf q (List.mem_cons_of_mem _ mq)) (hf p List.mem_cons_self) eq⟩
theorem nodup_nk {kvs : List (PD × V)} (n : ((kvs.map (·.1)).map keyOf).Nodup) (hf : ∀ p ∈ kvs, TupKey p.1) : (kvs.map fun p => nk p.1).Nodup := by
  rw [List.map_map] at n
  induction kvs with
  | nil => exact List.nodup_nil
  | cons p r ih =>
    rw [List.map_cons, List.nodup_cons] at n ⊢
    refine ⟨fun m => n.1 ?_, ih n.2 fun q m => hf q (List.mem_cons_of_mem _ m)⟩
    obtain ⟨q, mq, eq⟩ := List.mem_map.mp m
    refine List.mem_map.mpr ⟨q, mq, ?_⟩
    show keyOf q.1 = keyOf p.1
    rw [(hf q (List.mem_cons_of_mem _ mq)).nk.1, (hf p List.mem_cons_self).nk.1, eq]
theorem DictV.flat {kvs : List (PD × V)} (D : DictV X H B a kvs) (I : Inv X pins σ H s) (hf : ∀ p ∈ kvs, (keyF p.1).isSome = true) : (a == sysModules) = false ∧ kvs.length ≤ sizeLine ∧ ∃ vs, KV (kvK kvs) vs ∧ s.heap.DictOf (mixKind X.prog X.w) a vs := by
  obtain ⟨es, _, e, en⟩ := D.ex
  obtain ⟨h1, h2, o, ep, h3, h4, h5⟩ := Inv.raw I e
  obtain ⟨vs, v1, v2, v3⟩ := en.flat (prog := X.prog) hf
  refine ⟨h1, by rw [← en.len]; exact h2, vs, v1, o, es.toArray, ep, h3, h4, h5, fun x m => v3 x (by simpa using m), by simpa using v2, ?_⟩
  rw [← v1.keys]
  exact nodup_kf D.ok.nd hf
theorem DictV.nest {kvs : List (PD × V)} (D : DictV X H B a kvs) (I : Inv X pins σ H s) (hf : ∀ p ∈ kvs, TupKey p.1) : (a == sysModules) = false ∧ kvs.length ≤ sizeLine ∧ ∃ xs, KTn X.w X.K B kvs xs ∧ s.heap.DictOfH (nestedKind X.prog X.w) a xs := by
  obtain ⟨es, _, e, en⟩ := D.ex
  obtain ⟨h1, h2, o, ep, h3, h4, h5⟩ := Inv.raw I e
  obtain ⟨xs, v1, v2⟩ := en.nest (prog := X.prog) hf
  refine ⟨h1, by rw [← en.len]; exact h2, xs, v1, o, es.toArray, ep, h3, h4, h5, by simpa using v2, ?_, ?_⟩
  · have all : ∀ {l : List (PD × V)} {m : List (NestedKey × Addr × Value)}, KTn X.w X.K B l m → (∀ p ∈ l, TupKey p.1) → ∀ x ∈ m, (nestedKind X.prog X.w).is s.heap x.1 x.2.1 := by
      intro l m q
      induction q with
      | nil => intro _ x hx; exact nomatch hx
      | @cons p q ps qs hq t ih =>
        intro hf x hx
        rcases List.mem_cons.mp hx with e | hx
        · subst e
          rw [← hq.1]
          exact (hf p List.mem_cons_self).is I (hq.2.1.mono D.le)
        · exact ih (fun p m => hf p (List.mem_cons_of_mem _ m)) x hx
    exact all v1 hf
  · rw [v1.keys]; exact nodup_nk D.ok.nd hf
/-- the key at hand -/
theorem fit_cases {kvs : List (PD × V)} {k : PD} (ok : KeysOk (kvs.map (·.1))) (f : fitK (kvs.map (·.1)) k = true) : ((∀ p ∈ kvs, (keyF p.1).isSome = true) ∧ (keyF k).isSome = true) ∨ ((∀ p ∈ kvs, TupKey p.1) ∧ TupKey k) := by
  rcases fitK_cases f with ⟨h1, h2⟩ | ⟨h1, h2, h3⟩
  · exact .inl ⟨fun p m => h1 p.1 (List.mem_map_of_mem m), h2⟩
  · exact .inr ⟨fun p m => ⟨h1 p.1 (List.mem_map_of_mem m), ok.key p.1 (List.mem_map_of_mem m)⟩, h2, h3⟩
section
variable {kvs : List (PD × V)} {k : PD} {y v d : V} {u r : Value} {A : Around} {E : Value → Shared → Prop}
theorem dv_in {Q : Value → Shared → Prop} (hu : A.units + 9 < cLine) (I : Inv X pins σ H s) (D : DictV X H B a kvs) (f : fitK (kvs.map (·.1)) k = true) (rk : Rep X.w X.K H y k) (ry : RelV y u) (h : ∀ s', Inv X pins σ H s' → Q (.bool (lookG kvs k).isSome) s') :
    wpAny (model X.prog X.w) A (compareOp .In u (.ref a)) Q E s := by
  rcases fit_cases D.ok f with ⟨hf, hk⟩ | ⟨hf, hk⟩
  · obtain ⟨hd, _, vs, rel, dd⟩ := D.flat I hf
    rw [rep_flat rk hk] at ry
    refine wpAny_in_of (kV_is ry) hd dd.mapOf ?_
    rw [← (rel.val (kf k)).isSome_eq, ← look_flat hk hf]
    exact h _ (I.tok _)
  · obtain ⟨hd, _, xs, rel, dd⟩ := D.nest I hf
    obtain ⟨b, rfl⟩ := hk.ref rk
    cases (show u = Value.ref b from ry)
    refine wpAny_in_heap (show A.in1.units + 8 < cLine from by show A.units + 1 + 8 < cLine; omega) (hk.is I rk) hd dd ?_
    have q := (rel.val hf hk).isSome_eq
    rw [Option.isSome_map] at q
    rw [← q]
    exact h _ (I.tok _)
theorem dv_item {Q : Value → Shared → Prop} (hu : A.units + 9 < cLine) (I : Inv X pins σ H s) (D : DictV X H B a kvs) (f : fitK (kvs.map (·.1)) k = true) (rk : Rep X.w X.K H y k) (ry : RelV y u) (l : lookG kvs k = some v) (h : ∀ w' s', Inv X pins σ H s' → RelV v w' → Q w' s') :
    wpAny (model X.prog X.w) A (getItem (.ref a) u) Q E s := by
  rcases fit_cases D.ok f with ⟨hf, hk⟩ | ⟨hf, hk⟩
  · obtain ⟨hd, _, vs, rel, dd⟩ := D.flat I hf
    rw [rep_flat rk hk] at ry
    obtain ⟨w', hw, rw'⟩ := RelO.some_of (v := v) (o := valueAt vs (kf k)) (by rw [← l, look_flat hk hf]; exact rel.val (kf k))
    exact wpAny_getItem_of (kV_is ry) dd.mapOf hw (h w' _ (I.tok _) rw')
  · obtain ⟨hd, _, xs, rel, dd⟩ := D.nest I hf
    obtain ⟨b, rfl⟩ := hk.ref rk
    cases (show u = Value.ref b from ry)
    obtain ⟨w', hw, rw'⟩ := RelO.some_of (v := v) (o := (atKey xs (nk k)).map (·.2)) (by rw [← l]; exact rel.val hf hk)
    obtain ⟨p, hp, hp2⟩ := Option.map_eq_some_iff.mp hw
    refine wpAny_getItem_heap (show A.in1.units + 8 < cLine from by show A.units + 1 + 8 < cLine; omega) (hk.is I rk) dd hp ?_
    rw [hp2]
    exact h w' _ (I.tok _) rw'
theorem raw_ok {P : Program} {w : World} {H : Hp} {h : Heap} {es : List DictEntry} {ep : Nat} (hd : (a == sysModules) = false) (z : es.length ≤ sizeLine) (ho : ∃ o, h.get? a = some o ∧ o.ExactDict ∧ o.data = .dict es.toArray ep) : ObjOk P w H h a (dRaw a es ep) :=
  ⟨⟨hd, z, ho⟩, let ⟨o, e, _⟩ := ho; ⟨o, e⟩, fun h1 h2 ⟨q1, q2, o, q3, q4⟩ k => ⟨q1, q2, o, k o q3, q4⟩⟩
/-- d[y] = v -/
theorem dv_put {Q : Unit → Shared → Prop} (hu : A.units + 9 < cLine) (I : Inv X pins σ H s) (D : DictV X H B a kvs) (f : fitK (kvs.map (·.1)) k = true) (rk : Rep X.w X.K B y k) (ry : RelV y u) (rv : RelV v r) (z : kvs.length < sizeLine)
    (h : ∀ es' ep' s', EntV X.w X.K B es' (putG kvs k v) → Inv X pins σ (upd H a (dRaw a es' ep')) s' → Q () s') : wpAny (model X.prog X.w) A (setItem (.ref a) u r) Q E s := by
  have zl : (putG kvs k v).length ≤ sizeLine := by have := putG_len kvs k v; omega
  obtain ⟨es, _, ea, _⟩ := D.ex
  rcases fit_cases D.ok f with ⟨hf, hk⟩ | ⟨hf, hk⟩
  · obtain ⟨hd, _, vs, rel, dd⟩ := D.flat I hf
    rw [rep_flat rk hk] at ry
    have hf2 : ∀ p ∈ putG kvs k v, (keyF p.1).isSome = true := fun p m => by
      have : p.1 ∈ (putG kvs k v).map (·.1) := List.mem_map_of_mem m
      rw [putG_keys] at this
      split at this
      · obtain ⟨q, mq, e⟩ := List.mem_map.mp this
        rw [← e]; exact hf q mq
      · rcases List.mem_append.mp this with q | q
        · obtain ⟨q, mq, e⟩ := List.mem_map.mp q
          rw [← e]; exact hf q mq
        · rw [List.mem_singleton.mp q]; exact hk
    refine wpAny_setItem_pairs (hsz := by rw [← rel.length]; unfold kvK; rw [List.length_map]; omega) (kV_is ry) dd fun h' dd' hs => ?_
    obtain ⟨o, es', ep, h1, h2, h3, h4, h5, _⟩ := dd'
    have en : EntV X.w X.K B es'.toList (putG kvs k v) := EntV.ofFlat (prog := X.prog) (by rw [put_flat hk hf]; exact rel.put (kf k) rv) h5 (fun x m => h4 x (by simpa using m)) hf2
    refine h es'.toList ep _ en ?_
    exact d_write (t' := s.toks + 1) I (by rw [ea]; exact True.intro) hs ⟨o, h1⟩ (raw_ok hd (by rw [en.len]; exact zl) ⟨o, h1, h2, by rw [h3]⟩)
  · obtain ⟨hd, _, xs, rel, dd⟩ := D.nest I hf
    obtain ⟨b, rfl⟩ := hk.ref rk
    cases (show u = Value.ref b from ry)
    refine wpAny_setItem_heap (hsz := by rw [← Paired.length rel]; omega) (show A.in1.units + 8 < cLine from by show A.units + 1 + 8 < cLine; omega) (hk.is I (rk.mono D.le)) dd fun h' dd' hs => ?_
    obtain ⟨o, es', ep, h1, h2, h3, h4, _, _⟩ := dd'
    have en := EntV.ofNest (prog := X.prog) (rel.put hf hk rk rv)
    rw [← h4] at en
    refine h es'.toList ep _ en ?_
    exact d_write (t' := s.toks + (nestedKind X.prog X.w).draws (nk k)) I (by rw [ea]; exact True.intro) hs ⟨o, h1⟩ (raw_ok hd (by rw [en.len]; exact zl) ⟨o, h1, h2, by rw [h3]⟩)
theorem dv_type (I : Inv X pins σ H s) (D : DictV X H B a kvs) : s.TypeIs (.ref a) "dict" ∧ ∀ b, Value.ref a = .ref b → ∃ ob, s.heap.get? b = some ob ∧ ob.dict = none := by
  obtain ⟨es, _, e, _⟩ := D.ex
  obtain ⟨_, _, o, ep, h1, h2, _⟩ := Inv.raw I e
  exact ⟨⟨o, h1, h2.1⟩, fun b q => by cases q; exact ⟨o, h1, h2.2.1⟩⟩
theorem kinds {kvs : List (PD × V)} (ok : KeysOk (kvs.map (·.1))) : (∀ p ∈ kvs, (keyF p.1).isSome = true) ∨ ∀ p ∈ kvs, TupKey p.1 := by
  rcases ok.one with h | h
  · exact .inl fun p m => h p.1 (List.mem_map_of_mem m)
  · exact .inr fun p m => ⟨h p.1 (List.mem_map_of_mem m), ok.key p.1 (List.mem_map_of_mem m)⟩
theorem dv_len {Q : Value → Shared → Prop} (I : Inv X pins σ H s) (D : DictV X H B a kvs) (h : ∀ t s', Inv X pins σ H s' → Q (.int kvs.length t) s') : wpAny (model X.prog X.w) X.A (call (.builtin "len") [.ref a]) Q X.xe s := by
  rcases kinds D.ok with hf | hf
  · obtain ⟨hd, z, vs, rel, dd⟩ := D.flat I hf
    have e : kvs.length = vs.length := by rw [← rel.length]; unfold kvK; rw [List.length_map]
    refine call_len_dict hd dd (by rw [sizeLine_eq] at z; omega) ?_
    rw [← e]
    exact h _ _ (by have := (I.tok (s.toks + 1 + 1)); exact this)
  · obtain ⟨hd, z, xs, rel, dd⟩ := D.nest I hf
    have e : kvs.length = xs.length := Paired.length rel
    refine PySem.call_len_dictH hd dd (by rw [sizeLine_eq] at z; omega) ?_
    rw [← e]
    exact h _ _ (by have := (I.tok (s.toks + 1 + 1)); exact this)
end
theorem Rep.dictV {v : V} {kvs : List (PD × PD)} (r : Rep X.w X.K B v (.dict kvs)) (l : Le B H) (ni : isIns kvs = false) : ∃ a kvV, v = .ref a ∧ DictV X H B a kvV ∧ kvV.map (·.1) = kvs.map (·.1) ∧ Reps X.w X.K B (kvV.map (·.2)) (kvs.map (·.2)) := by
  obtain ⟨a, es, ep, rfl, e, q, ok⟩ := r.keyed ni
  obtain ⟨kvV, h1, h2, h3⟩ := q.ent
  exact ⟨_, kvV, rfl, ⟨⟨_, _, l _ _ e, h1⟩, l, by rw [h2]; exact ok⟩, h2, h3⟩
theorem look_same {α β : Type} {k : PD} : ∀ {xs : List (PD × α)} {ys : List (PD × β)}, xs.map (·.1) = ys.map (·.1) → (lookG xs k).isSome = (lookG ys k).isSome
  | [], [], _ => rfl
  | p :: xs, q :: ys, e => by
    rw [List.map_cons, List.map_cons, List.cons.injEq] at e
    rw [lookG_cons, lookG_cons, e.1]
    split
    · rfl
    · exact look_same e.2
  | [], _ :: _, e => by simp at e
  | _ :: _, [], e => by simp at e
theorem look_reps {w : World} {k : PD} : ∀ {xs : List (PD × V)} {ys : List (PD × PD)} {d : PD}, xs.map (·.1) = ys.map (·.1) → Reps w K B (xs.map (·.2)) (ys.map (·.2)) → lookG ys k = some d → ∃ v, lookG xs k = some v ∧ Rep w K B v d
  | [], [], _, _, _, h => by cases h
  | p :: xs, q :: ys, d, e, r, h => by
    rw [List.map_cons, List.map_cons, List.cons.injEq] at e
    cases r with
    | cons r1 r2 =>
      rw [lookG_cons] at h ⊢
      rw [e.1]
      split at h
      · rename_i c
        cases h
        exact ⟨p.2, by rw [if_pos c], r1⟩
      · rename_i c
        rw [if_neg c]
        exact look_reps e.2 r2 h
  | [], _ :: _, _, e, _, _ => by simp at e
  | _ :: _, [], _, e, _, _ => by simp at e
theorem Src.dictV {ρ : List SV} {F : FP} {b : Bool} {v : V} {kvs : List (PD × PD)} (C : CxF X P) (h : Src P ρ H G F b [v] [.dict kvs]) (l : Le G H) (ni : isIns kvs = false) : ∃ a kvV Bd, v = .ref a ∧ DictV X H Bd a kvV ∧ kvV.map (·.1) = kvs.map (·.1) ∧ Reps P.w P.K Bd (kvV.map (·.2)) (kvs.map (·.2)) ∧
    (∀ {i : Nat} {vs : List V} {ds : List PD}, Reps P.w P.K Bd vs ds → Src P ρ H G F b vs ds) := by
  have hw := C.w
  have hK := C.K
  cases b with
  | false =>
    cases h with
    | cons r _ =>
      rw [← hw, ← hK] at r
      obtain ⟨a, kvV, e1, e2, e3, e4⟩ := r.dictV l ni
      rw [hw, hK] at e4
      exact ⟨a, kvV, G, e1, e2, e3, e4, fun {_ _ _} r => r⟩
  | true =>
    obtain ⟨Hd, l', n, h⟩ := h
    cases h with
    | cons r _ =>
      rw [← hw, ← hK] at r
      obtain ⟨a, kvV, e1, e2, e3, e4⟩ := r.dictV l' ni
      rw [hw, hK] at e4
      exact ⟨a, kvV, Hd, e1, e2, e3, e4, fun {_ _ _} r => ⟨Hd, l', n, r⟩⟩
end Rz
namespace Rz
open PySem PySem.Spec PyProof.Rows L2
variable {X : Cx} {P : Par} {ρ ρ' ρ0 ρ1 ρ2 : List SV} {σ σ' σ0 σ1 σ2 : Sg} {H0 G0 H G G' H' H1 G1 H2 G2 : Hp} {F0 F F' F1 F2 : FP} {a b c e o : Expr} {es : List Expr} {pos : Pos} {t t1 t2 t3 : TD} {ta : TDa} {tl : TDl} {tx : TDx} {u : TDt} {w : World} {K : PySem.W.Frag}
theorem CxF.u9 (C : CxF X P) : X.A.units + 9 < cLine := by have := C.un; omega
def rInDc (X : Cx) (neg : Bool) : R2 := fun x y H Q => ∃ B a kvV k, y = .ref a ∧ DictV X H B a kvV ∧ fitK (kvV.map (·.1)) k = true ∧ Rep X.w X.K H x k ∧ Q (.bl ((lookG kvV k).isSome ^^ neg)) H
theorem op_inDc (C : CxF X P) : OpR X (compareOp .In) (rInDc X false) := by
  intro pins s σ H x y v u Q I rx ry ⟨B, a, kvV, k, e, D, f, r, q⟩
  subst e
  cases ry
  refine dv_in C.u9 I D f r rx fun s' I' => ⟨.bl _, H, I', rfl, ?_⟩
  simpa using q
def oInDc (neg : Bool) (x y : Rv) (Q : Rv → Prop) : Prop := ∃ kvs, y.val = .dict kvs ∧ x.data = true ∧ fitK (kvs.map (·.1)) x.val = true ∧ Q (.cl (.bool ((lookG kvs x.val).isSome ^^ neg)))
theorem binr_inDc (C : CxF X P) {neg : Bool} : BinR P (oInDc neg) (rInDc X neg) := by
  intro ρ σ H0 G0 F0 H G F x y r1 r2 L1 L2 Q Q' s o1 o2 n1 n2 dj ⟨kvs, e, d1, f, q⟩ k
  obtain ⟨G2, s2, g2, k2, q2⟩ := norm1 s o2 (Rv.data_of (by rw [e]; simp)) n2
  rw [e] at q2
  obtain ⟨a, kvV, B, rfl, D, ek, _, _⟩ := q2.dictV C s2.st.le (isIns_fit f)
  refine ⟨B, a, kvV, r1.val, rfl, D, by rw [ek]; exact f, by rw [C.w, C.K]; exact o1.rep d1 s.st.le, ?_⟩
  rw [look_same (ys := kvs) ek]
  exact k.val s2 (.bl _) q
def oInX (neg : Bool) (x y : Rv) (Q : Rv → Prop) : Prop := match y.val with
  | .dict kvs => x.data = true ∧ fitK (kvs.map (·.1)) x.val = true ∧ Q (.cl (.bool ((lookG kvs x.val).isSome ^^ neg)))
  | _ => oIn neg x y Q
theorem oInX_imp {neg : Bool} {x y : Rv} {Q : Rv → Prop} (h : oInX neg x y Q) : oIn neg x y Q ∨ oInDc neg x y Q := by
  unfold oInX at h
  split at h
  · rename_i kvs e; exact .inr ⟨kvs, e, h⟩
  · exact .inl h
theorem dop_inX (C : CxF X P) : DOp X P (compareOp .In) (oInX false) := ((dop_in C).or ⟨_, op_inDc C, binr_inDc C⟩).imp fun _ _ _ => oInX_imp
def rIxDc (X : Cx) : R2 := fun x y H Q => ∃ B a kvV k v, x = .ref a ∧ DictV X H B a kvV ∧ fitK (kvV.map (·.1)) k = true ∧ Rep X.w X.K H y k ∧ lookG kvV k = some v ∧ Q v H
theorem ix_dc (C : CxF X P) : IxR X (rIxDc X) := by
  intro value slice pins s σ H x y v u Q I rx ry ⟨B, a, kvV, k, z, e, D, f, r, l, q⟩ hs
  subst e
  obtain rfl : v = Value.ref a := rx
  obtain ⟨hT, _⟩ := dv_type I D
  unfold subscriptTail
  refine wpAny_bind ?_
  rw [getitemInPython_of_ne hT.not_modules]
  refine wpAny_bind (wpAny_specialOf hT PySem.F.slot_dict_getitem.lookup ?_)
  have fin : wpAny (model X.prog X.w) X.A (subscripted slice false (.ref a) u) (fun r s₃ => wpAny (model X.prog X.w) X.A (letTemporaryGo value (.ref a) r >>= fun _ => pure r) (EP X pins σ Q) X.xe s₃) X.xe s := by
    rw [hs]
    exact wpAny_operating (dv_item C.u9 I D f r ry l fun w' s3 I3 rw' => wpAny_bind (wpAny_letTemporaryGo (wpAny_pure ⟨z, H, I3, rw', q⟩)))
  first
    | exact wpAny_pure (wpAny_bind fin)
    | exact wpAny_bind (wpAny_pure (wpAny_bind fin))
    | exact wpAny_bind fin
theorem dix_dc (C : CxF X P) : DIx X P (fun x y Q => ∃ kvs d, x.val = .dict kvs ∧ y.data = true ∧ fitK (kvs.map (·.1)) y.val = true ∧ lookG kvs y.val = some d ∧ Q (mk x.soft d)) := by
  refine ⟨_, ix_dc C, ?_⟩
  intro ρ σ H0 G0 F0 H G F x y r1 r2 L1 L2 Q Q' s o1 o2 n1 n2 dj ⟨kvs, d, e, d2, f, l, q⟩ k
  have o2r := o2.rep d2 s.st.le
  obtain ⟨G2, s2, g2, k2, q1⟩ := norm1 s o1 (Rv.data_of (by rw [e]; simp)) n1
  rw [e] at q1
  obtain ⟨a, kvV, B, rfl, D, ek, rr, src⟩ := q1.dictV C s2.st.le (isIns_fit f)
  obtain ⟨v, lv, rv⟩ := look_reps ek rr l
  exact ⟨B, a, kvV, r2.val, v, rfl, D, by rw [ek]; exact f, by rw [C.w, C.K]; exact o2r, lv, k.part s2 (src (i := 0) (.cons rv .nil)) q⟩
def oIxX (x y : Rv) (Q : Rv → Prop) : Prop := match x.val with
  | .dict kvs => y.data = true ∧ fitK (kvs.map (·.1)) y.val = true ∧ ∃ d, lookG kvs y.val = some d ∧ Q (mk x.soft d)
  | _ => oIx x y Q
theorem dixX (C : CxF X P) : DIx X P oIxX := ((dix C).or (dix_dc C)).imp fun x y Q h => by
  unfold oIxX at h
  split at h
  · rename_i kvs e; obtain ⟨h1, h2, d, h3, h4⟩ := h; exact .inr ⟨kvs, d, e, h1, h2, h3, h4⟩
  · exact .inl h
theorem je_dnew : JE X P (.Dict [] [] pos) (fun _ Q => Q (.fr (.dc []))) := ⟨fun pins s σ H Q' I h => by
  obtain ⟨ρ, G, F, Q, S, q, k⟩ := h
  have hn := I.hok.fresh (Nat.le_refl s.heap.objs.size)
  have hd : (s.heap.objs.size == sysModules) = false := beq_eq_false_iff_ne.mpr (Ne.symm (Nat.ne_of_lt I.big))
  have I1 := I.laid (a := s.heap.objs.size) (o := dRaw s.heap.objs.size [] 0) (h' := s.heap.push { cls := .type "dict", data := .dict #[] }) (t' := s.toks) (fun _ _ q => Heap.get?_push_of_some _ q) (Nat.le_refl _)
    (raw_ok hd (Nat.zero_le _) ⟨_, Heap.get?_push_size _ rfl, ⟨rfl, rfl, rfl⟩, rfl⟩)
  refine wpAny_Dict_empty ⟨.ref s.heap.objs.size, _, I1, rfl, ?_⟩
  refine k (.ref s.heap.objs.size) (.fr (.dc [])) _ G F [s.heap.objs.size] ⟨S.push hn, StE.push hn, S.er⟩ ⟨.dc upd_same .nil ⟨fun _ m => (nomatch m), .inl fun _ m => (nomatch m), List.nodup_nil⟩, by simp, fun a m => ?_⟩ (fun a m => ?_) q
  · obtain rfl : a = s.heap.objs.size := by simpa using m
    exact ⟨S.le.none hn, fun ⟨i, m⟩ => S.there m hn⟩
  · obtain rfl : a = s.heap.objs.size := by simpa using m
    exact hn⟩
theorem dc_lenDc (C : CxF X P) : DCall X P (.builtin "len") (fun rs Q => ∃ x kvs, rs = [x] ∧ x.val = .dict kvs ∧ isIns kvs = false ∧ Q (.cl (.int kvs.length))) := by
  refine ⟨fun xs H Q => ∃ B a kvV, xs = [.ref a] ∧ DictV X H B a kvV ∧ Q (.int kvV.length) H, ?_, ?_⟩
  · intro pins s σ H xs us Q I rv ⟨B, a, kvV, e, D, q⟩
    subst e
    obtain ⟨u, rfl, ru⟩ := vals1 rv
    obtain rfl : u = Value.ref a := ru
    exact dv_len I D fun t s' I' => ⟨.int _, H, I', ⟨t, rfl⟩, q⟩
  · intro ρ σ H0 G0 F0 H G F xs rs L1 Q Q' s o1 n1 ⟨x, kvs, e, ex, ni, q⟩ k
    subst e
    obtain ⟨v, rfl, ov⟩ := o1.one
    obtain ⟨G2, s2, g2, k2, q1⟩ := norm1 s ov (Rv.data_of (by rw [ex]; simp)) n1
    rw [ex] at q1
    obtain ⟨a, kvV, B, rfl, D, ek, rr, src⟩ := q1.dictV C s2.st.le ni
    have l : kvV.length = kvs.length := by have := congrArg List.length ek; simpa using this
    exact ⟨B, a, kvV, rfl, D, by rw [l]; exact k.val s2 (.int _) q⟩
def bLenX (x : Rv) (Q : Rv → Prop) : Prop := match x.val with
  | .dict kvs => isIns kvs = false ∧ Q (.cl (.int kvs.length))
  | _ => bLen x Q
theorem dc_lenX (C : CxF X P) : DCall X P (.builtin "len") (fun rs Q => ∃ x, rs = [x] ∧ bLenX x Q) := ((dc_len C).or (dc_lenDc C)).imp fun rs Q h => by
  obtain ⟨x, rfl, h⟩ := h
  unfold bLenX at h
  split at h
  · rename_i kvs e; exact .inr ⟨x, kvs, rfl, e, h.1, h.2⟩
  · exact .inl ⟨x, rfl, h⟩
def isDict : PD → Bool
  | .dict kvs => !isIns kvs
  | _ => false
end Rz
namespace Rz
open PySem PySem.Spec PyProof.Rows L2
variable {X : Cx} {P : Par} {ρ ρ' ρ0 ρ1 ρ2 : List SV} {σ σ' σ0 σ1 σ2 : Sg} {H0 G0 H G G' H' H1 G1 H2 G2 : Hp} {F0 F F' F1 F2 : FP} {a b c e o : Expr} {es : List Expr} {pos : Pos} {t t1 t2 t3 : TD} {ta : TDa} {tl : TDl} {tx : TDx} {u : TDt} {w : World} {K : PySem.W.Frag}
section
variable {α : Type}
theorem sameK_iff {a b : PD} : sameK a b = true ↔ keyOf a = keyOf b := decide_eq_true_iff
theorem map_none {k : PD} {v : α} : ∀ {r : List (PD × α)}, (∀ q ∈ r, sameK q.1 k = false) → r.map (fun kv => if sameK kv.1 k = true then (kv.1, v) else kv) = r
  | [], _ => rfl
  | p :: r, h => by
    rw [List.map_cons, h p List.mem_cons_self, if_neg (by simp), map_none fun q m => h q (List.mem_cons_of_mem _ m)]
theorem putG_vals {k : PD} {v : α} : ∀ {kvs : List (PD × α)}, ((kvs.map (·.1)).map keyOf).Nodup → (putG kvs k v).map (·.2) = match (kvs.map (·.1)).findIdx? (sameK · k) with
    | some n => (kvs.map (·.2)).set n v
    | none => kvs.map (·.2) ++ [v]
  | [], _ => rfl
  | p :: r, nd => by
    rw [List.map_cons, List.map_cons, List.nodup_cons] at nd
    rw [List.map_cons, List.findIdx?_cons]
    unfold putG
    rw [List.any_cons]
    cases h : sameK p.1 k with
    | true =>
      rw [Bool.true_or, if_pos rfl, if_pos rfl, List.map_cons, h, if_pos rfl, map_none, List.map_cons, List.map_cons]
      · rfl
      · intro q m
        cases e : sameK q.1 k with
        | false => rfl
        | true =>
          rw [sameK_iff] at e h
          exact absurd (List.mem_map.mpr ⟨q.1, List.mem_map_of_mem m, e.trans h.symm⟩) nd.1
    | false =>
      have ih := putG_vals (k := k) (v := v) nd.2
      unfold putG at ih
      rw [Bool.false_or]
      by_cases c : (r.any fun kv => sameK kv.1 k) = true
      · rw [if_pos c] at ih ⊢
        simp only [Bool.false_eq_true, if_false]
        rw [List.map_cons, h, if_neg (by simp), List.map_cons, ih]
        cases (r.map (·.1)).findIdx? (sameK · k) <;> rfl
      · rw [if_neg c] at ih ⊢
        simp only [Bool.false_eq_true, if_false]
        rw [List.map_append, List.map_cons]
        rw [List.map_append] at ih
        cases q : (r.map (·.1)).findIdx? (sameK · k) with
        | none => rfl
        | some n =>
          exfalso
          apply c
          obtain ⟨hl, hs, _⟩ := List.findIdx?_eq_some_iff_getElem.mp q
          rw [List.any_eq_true]
          rw [List.length_map] at hl
          exact ⟨r[n], List.getElem_mem hl, by simpa using hs⟩
theorem idx_lt {k : PD} {ks : List PD} {n : Nat} (h : ks.findIdx? (sameK · k) = some n) : n < ks.length := (List.findIdx?_eq_some_iff_getElem.mp h).1
end
theorem fit_key {ks : List PD} {k : PD} (f : fitK ks k = true) : ∃ n, keyOf k = some n ∧ n.depth ≤ 8 := by
  rcases fitK_cases f with ⟨_, h⟩ | ⟨_, _, h⟩
  · rcases keyF_cases h with ⟨i, rfl⟩ | ⟨x, rfl⟩
    · exact ⟨_, rfl, Nat.zero_le _⟩
    · exact ⟨_, rfl, Nat.zero_le _⟩
  · exact h
theorem KeysOk.put {α : Type} {kvs : List (PD × α)} {k : PD} {v : α} (ok : KeysOk (kvs.map (·.1))) (f : fitK (kvs.map (·.1)) k = true) : KeysOk ((putG kvs k v).map (·.1)) := by
  rw [putG_keys]
  split
  · exact ok
  · rename_i h
    refine ⟨fun x m => ?_, ?_, ?_⟩
    · rcases List.mem_append.mp m with q | q
      · exact ok.key x q
      · rw [List.mem_singleton.mp q]; exact fit_key f
    · rcases fitK_cases f with ⟨h1, h2⟩ | ⟨h1, h2, _⟩
      · exact .inl fun x m => (List.mem_append.mp m).elim (h1 x) fun q => by rw [List.mem_singleton.mp q]; exact h2
      · exact .inr fun x m => (List.mem_append.mp m).elim (h1 x) fun q => by rw [List.mem_singleton.mp q]; exact h2
    · rw [List.map_append, List.nodup_append]
      refine ⟨ok.nd, by simp, fun x m y m' e => h ?_⟩
      rw [List.map_cons, List.map_nil, List.mem_singleton] at m'
      subst e m'
      obtain ⟨q, mq, eq⟩ := List.mem_map.mp m
      obtain ⟨p, mp, ep⟩ := List.mem_map.mp mq
      rw [← lookG_any]
      exact List.any_eq_true.mpr ⟨p, mp, by rw [sameK_iff, ep, eq]⟩
/-- the values behind a put -/
theorem Owns.put {kvV : List (PD × V)} {kvs : List (PD × OD)} {L L' : List Addr} {k : PD} {y : V} {o2 : OD} (h : Owns w K H G (kvV.map (·.2)) (kvs.map (·.2)) L) (nd : L.Nodup) (ek : kvV.map (·.1) = kvs.map (·.1)) (ok : KeysOk (kvs.map (·.1))) (h2 : Own w K H G y o2 L') (nd2 : L'.Nodup) (dj : ∀ a ∈ L', a ∉ L) :
    ∃ L3, Owns w K H G ((putG kvV k y).map (·.2)) ((putG kvs k o2).map (·.2)) L3 ∧ L3.Nodup ∧ ∀ a ∈ L3, a ∈ L' ∨ a ∈ L := by
  rw [putG_vals (by rw [ek]; exact ok.nd), putG_vals ok.nd, ek]
  cases q : (kvs.map (·.1)).findIdx? (sameK · k) with
  | some n =>
    have hn := idx_lt q
    rw [List.length_map] at hn
    exact h.set nd (List.getElem?_eq_getElem (by rw [List.length_map]; exact hn)) h2 nd2 dj
  | none =>
    refine ⟨L ++ (L' ++ []), h.append (.cons h2 .nil), by rw [List.append_nil]; exact List.nodup_append.mpr ⟨nd, nd2, fun a m b m' e => dj b m' (e ▸ m)⟩, fun a m => ?_⟩
    rw [List.append_nil] at m
    exact (List.mem_append.mp m).symm
def rSetX (X : Cx) : TSet := fun o i v H Q => rSetL o i v H Q ∨ ∃ B a kvV k, o = .ref a ∧ DictV X H B a kvV ∧ fitK (kvV.map (·.1)) k = true ∧ Rep X.w X.K B i k ∧ kvV.length < sizeLine ∧ ∀ es' ep', EntV X.w X.K B es' (putG kvV k v) → Q (upd H a (dRaw a es' ep'))
theorem set_x (C : CxF X P) : PSet X (rSetX X) := by
  intro pins s σ H o i v ov iv u Q I ro ri rv h
  rcases h with h | ⟨B, a, kvV, k, rfl, D, f, r, z, q⟩
  · exact set_list pins s σ H o i v ov iv u Q I ro ri rv h
  · obtain rfl : ov = Value.ref a := ro
    exact dv_put C.u9 I D f r ri rv z fun es' ep' s' en I' => ⟨_, I', q es' ep' en⟩
def setXT (t : TD) (tl : TDl) (ti : TD) : TDs := fun D ρ => t ρ fun r => hardR r = true ∧ tl ρ fun ρ' i p o => ti ρ' fun x => match o with
  | .ls xs => ∃ k n, x.val = .int k ∧ ixN xs.length k = some n ∧ D.nx (putS ρ' i p (.ls (xs.set n (partO r))))
  | .dc kvs => ∃ kd, x = .cl kd ∧ fitK (kvs.map (·.1)) kd = true ∧ kvs.length < sizeLine ∧ D.nx (putS ρ' i p (.dc (putG kvs kd (partO r))))
  | .lf _ => False
theorem LocOk.dict {v : V} {i : Nat} {p : List Nat} {kvs : List (PD × OD)} {L : List Addr} (l : LocOk P ρ σ H G F v i p (.dc kvs) L) (S : StOk P ρ σ H G F) :
    ∃ a es ep Fx, v = .ref a ∧ H a = some (dRaw a es ep) ∧ OwnsE P.w P.K H G es kvs Fx ∧ KeysOk (kvs.map (·.1)) ∧ L = a :: Fx ∧ L.Nodup ∧ (∀ b ∈ L, inF F b ∧ G b = none) := by
  obtain ⟨sv, h1, h2, f⟩ := l.ex
  have nd := f.nd
  have inn := f.inn
  have own := f.own
  cases own with
  | dc e r ok => exact ⟨_, _, _, _, rfl, e, r, ok, rfl, nd, fun b m => ⟨⟨i, inn b m⟩, S.off i b (inn b m)⟩⟩
theorem setX_imp {D : Ends} (C : CxF X P) (h : TSof P (setXT t tl t2) D σ H) : tAsg (TEof P t) (gSub (TLof P tl) (TEof P t2) (rSetX X)) D σ H := by
  obtain ⟨ρ, G, F, Dd, S, q, k⟩ := h
  refine ⟨ρ, G, F, _, S, q, fun v r H1 G1 F1 L1 s1 o1 n1 q1 => ?_⟩
  obtain ⟨hr, q1⟩ := q1
  have fr1 := o1.hard hr
  refine ⟨ρ, G1, F1, _, s1.st, q1, fun ρ2 x i p o H2 G2 F2 L2 s2 l2 q2 => ⟨ρ2, G2, F2, _, s2.st, q2, fun y r3 H3 G3 F3 L3 s3 o3 n3 q3 => ?_⟩⟩
  have fr3 := (fr1.stepS s2.ev).stepS s3.s.ev
  have l3 := l2.step s2.st s3.ev
  have sit := (s1.s.trans s2).trans s3.s
  cases o with
  | lf d => exact q3.elim
  | ls xs =>
    obtain ⟨j, n, e1, e2, q⟩ := q3
    obtain ⟨a, vs, Fx, rfl, hv, own, eL, nd, off⟩ := l3.list s3.st
    rw [eL, List.nodup_cons] at nd
    have lt : n < xs.length := by
      unfold ixN at e2
      split at e2
      · split at e2
        · cases e2; omega
        · cases e2
      · split at e2
        · cases e2; omega
        · cases e2
    have dj : ∀ b ∈ L1, b ∉ L2 := fun b m m' => (fr3.off b m).2 (off b m').1
    obtain ⟨L4, q4, d4, f4⟩ := own.set nd.2 (List.getElem?_eq_getElem lt) fr3.own fr3.nd fun b m z => dj b m (by rw [eL]; exact List.mem_cons_of_mem _ z)
    obtain ⟨F4, s4, _⟩ := sit.nodeL l3 q4 d4 (fun m => (f4 a m).elim (fun z => dj a z (by rw [eL]; exact List.mem_cons_self)) nd.1) fun b m => by
      rcases f4 b m with z | z
      · exact .inr ⟨(fr3.off b z).1, (fr3.off b z).2, .inl (n1 b z)⟩
      · exact .inl (by rw [eL]; exact List.mem_cons_of_mem _ z)
    exact .inl ⟨a, vs, j, n, rfl, o3.int s3.st.le e1, hv, by rw [own.len]; exact e2, k.nx _ σ _ G3 F4 s4 q⟩
  | dc kvs =>
    obtain ⟨kd, rfl, f, z, q⟩ := q3
    obtain ⟨a, es, ep, Fx, rfl, hv, own, ok, eL, nd, off⟩ := l3.dict s3.st
    rw [eL, List.nodup_cons] at nd
    obtain ⟨kvV, en, ek, ov⟩ := own.ent
    have dj : ∀ b ∈ L1, b ∉ L2 := fun b m m' => (fr3.off b m).2 (off b m').1
    obtain ⟨L4, q4, d4, f4⟩ := ov.put (k := kd) nd.2 ek ok fr3.own fr3.nd fun b m z => dj b m (by rw [eL]; exact List.mem_cons_of_mem _ z)
    have na : a ∉ L4 := fun m => (f4 a m).elim (fun z => dj a z (by rw [eL]; exact List.mem_cons_self)) nd.1
    have aL : a ∈ L2 := by rw [eL]; exact List.mem_cons_self
    have lk : kvV.length = kvs.length := by have := congrArg List.length ek; simpa using this
    refine .inr ⟨G3, a, kvV, kd, rfl, ⟨⟨es, ep, hv, by rw [C.w, C.K]; exact en⟩, s3.st.le, by rw [ek]; exact ok⟩, by rw [ek]; exact f, by rw [C.w, C.K]; exact o3.1, by rw [lk]; exact z, fun es' ep' en' => ?_⟩
    rw [C.w, C.K] at en'
    have keep : ∀ b ∈ L4, ∀ x, H3 b = some x → upd H3 a (dRaw a es' ep') b = some x := fun b m x e => by rw [upd_ne (fun z => by subst z; exact na m)]; exact e
    obtain ⟨F4, s4, _⟩ := sit.node l3 (o2 := .dc (putG kvs kd (partO r))) (H2 := upd H3 a (dRaw a es' ep')) (L2 := a :: L4) (fun b x e => by rw [upd_ne (fun z => by rw [z, (off a aL).2] at e; cases e)]; exact s3.st.le b x e)
      (.dc upd_same (EntV.owns en' (by rw [putG_keys, putG_keys, look_same (ys := kvs) ek, ek]) (q4.at (.refl _) keep)) (ok.put f)) (List.nodup_cons.mpr ⟨na, d4⟩) (fun b z => by
        by_cases q : b = a
        · rw [q, upd_same]; intro z; cases z
        · rw [upd_ne q]; exact z) (fun b x e m => by rw [upd_ne (fun z => by subst z; exact m aL)]; exact e) fun b m => by
          rcases List.mem_cons.mp m with z | z
          · rw [z]; exact .inl aL
          · rcases f4 b z with z | z
            · exact .inr ⟨(fr3.off b z).1, (fr3.off b z).2, .inl (n1 b z)⟩
            · exact .inl (by rw [eL]; exact List.mem_cons_of_mem _ z)
    exact k.nx _ σ _ G3 F4 s4 q
theorem js_setX' {pos' : Pos} (C : CxF X P) (he : JE X P e t) (hl : JL X P a tl) (hi : JE X P b t2) (ha : ∀ v, assign (.Subscript a b pos') X.env v = (do
      let ov ← holding [v] (eval a X.env)
      let iv ← holding [v, ov] (eval b X.env)
      standAt pos'
      holding [v, ov, iv] (setItem ov iv v)
      release [v, ov, iv] [])) (hs : swapsWithSole [.Subscript a b pos'] e pos.line X.env = pure false) (hw : swappedStores [.Subscript a b pos'] e X.env = pure none) (h1 : (assignEach [.Subscript a b pos'] X.env).map (·.2) = [assign (.Subscript a b pos') X.env]) :
    JS X P (.Assign [.Subscript a b pos'] e pos) (setXT t tl t2) := ps_imp (ps_asg he (pg_sub hl hi (set_x C) ha) hs hw h1) fun D σ H h => setX_imp C h
end Rz
namespace Rz
open PySem PySem.Spec PyProof.Rows L2
variable {X : Cx} {P : Par} {ρ ρ' ρ0 ρ1 ρ2 : List SV} {σ σ' σ0 σ1 σ2 : Sg} {H0 G0 H G G' H' H1 G1 H2 G2 B : Hp} {F0 F F' F1 F2 : FP} {w : World} {K : PySem.W.Frag} {s : Shared} {pins : List (Addr × Obj)} {a : Addr}
theorem sort_each {vs : List V} {ds : List PD} {its : List Value} (rv : Vals vs its) (hl : vs.length = ds.length) : PySem.W.EachIs (fun u (b : V × PD) => RelV b.1 u) its (vs.zip ds) := by
  have lv := rv.length
  exact each_of (by rw [List.length_zip]; omega) fun i u b e1 e2 => by
    rw [List.getElem?_zip_eq_some] at e2
    obtain ⟨u', e3, r3⟩ := rv.get e2.1
    rw [e1] at e3; cases e3; exact r3
theorem sort_vals {vs : List V} {ds : List PD} {out : List Value} (ho : out.length = (vs.zip ds).length) (hs : PySem.W.EachIs (fun u (b : V × PD) => RelV b.1 u) out ((vs.zip ds).mergeSort (PySem.W.dataLe false Prod.snd))) : Vals (((vs.zip ds).mergeSort (PySem.W.dataLe false Prod.snd)).map Prod.fst) out :=
  vals_by (by rw [List.length_map, List.length_mergeSort]; rw [ho]) fun i x u e3 e4 => by
    rw [List.getElem?_map] at e3
    obtain ⟨b, e5, rfl⟩ := Option.map_eq_some_iff.mp e3
    exact hs.zip (u, b) (List.mem_iff_getElem?.mpr ⟨i, by rw [List.getElem?_zip_eq_some]; exact ⟨e4, e5⟩⟩)
/-- how a thing's items come, one by one, into a list -/
def Coll (X : Cx) (s : Shared) (u : Value) (vs : List V) : Prop := ∀ (R : List Value → Shared → Prop), (∀ h' tk its, (∀ b o, s.heap.get? b = some o → h'.get? b = some o) → Vals vs its → R its { s with heap := h', toks := tk }) → wpAny (model X.prog X.w) X.A.in1 (collect u) R X.xe s
theorem sorted_gen (C : CxF X P) {H : Hp} {σ : Sg} {Q : VK} {u : Value} {vs : List V} {ds : List PD} (I : Inv X pins σ H s) (hc : Coll X s u vs) (hl : vs.length = ds.length) (hz : vs.length ≤ sizeLine) (r : Reps P.w P.K H vs ds) (ok : sortOk ds)
    (q : ∀ p, H p = none → Q (.ref p) (upd H p (.lst (((vs.zip ds).mergeSort (PySem.W.dataLe false Prod.snd)).map Prod.fst)))) : wpAny (model X.prog X.w) X.A (call (.builtin "sorted") [u]) (EP X pins σ Q) X.xe s := by
  obtain ⟨h1, h2, h3⟩ := ok
  refine Calls.call_function_entry kind_sorted plain_sorted entry_sorted (args_sorted1 _) ?_
  unfold Builtin.«sorted»
  refine wpAny_bind (m := checkCount "sorted" 1 1 _) (wpAny_pure ?_)
  refine wpAny_bind (hc _ fun h' tk its hk rv => ?_)
  have lv := rv.length
  have I1 : Inv X pins σ H { s with heap := h', toks := tk } := I.kept hk
  obtain ⟨as, rr⟩ := r.reads I1 C.K rv (noInsAll_iff.mpr fun d m => noIns_alike (h1 d m d m))
  have em : (vs.zip ds).map Prod.snd = ds := by rw [List.map_snd_zip]; omega
  have e1 := sort_each rv hl
  have e2 : PySem.W.EachIs (fun v (b : V × PD) => ∃ as, Reads h' v b.2 as) its (vs.zip ds) := PySem.W.readsAll_each Prod.snd (by rw [em]; exact rr)
  refine wpAny_bind (wpAny_newList ?_ (by omega))
  have old : ∀ b o, h'.get? b = some o → (h'.push { cls := .type "list", data := .seq its.toArray }).get? b = some o := fun b o e => Heap.get?_push_of_some _ e
  have hD : (h'.push { cls := .type "list", data := .seq its.toArray }).get? h'.objs.size = some (seqObj "list" its.toArray 0) := Heap.get?_push_size _ rfl
  have er' : PySem.W.EachIs (fun v (b : V × PD) => ∃ as, Reads (PySem.W.sortingHeap (h'.push { cls := .type "list", data := .seq its.toArray }) h'.objs.size its) v b.2 as) its (vs.zip ds) := e2.mono fun _ _ ⟨as, r⟩ => ⟨as, PyProof.Rows.Reads.keeps (fun b o e => PySem.W.sortingHeap_old (Nat.ne_of_lt (Heap.lt_size e)) (old b o e)) r⟩
  have hu : ∀ b, b ∈ vs.zip ds → X.A.in1.in1.units + b.2.depth < cLine := fun b m => by
    have m' : b.2 ∈ ds := by rw [← em]; exact List.mem_map_of_mem m
    have := h3 _ m'
    have := C.un
    show X.A.units + 1 + 1 + b.2.depth < cLine
    omega
  have go : wpAny (model X.prog X.w) X.A.in1 (call (.builtin "list.sort") [.ref h'.objs.size]) (fun _ s' => EP X pins σ Q (.ref h'.objs.size) s') X.xe { s with heap := h'.push { cls := .type "list", data := .seq its.toArray }, toks := tk } := by
    refine wpAny_call_entry PyProof.Rows.slot_list_sort ⟨_, hD, rfl⟩ PyProof.Rows.entry_list_sort (PySem.W.list_sort_vals (κ := PySem.W.dataKind (PySem.W.sortingHeap (h'.push { cls := .type "list", data := .seq its.toArray }) h'.objs.size its) ((vs.zip ds).map Prod.snd)) hD
      (PySem.W.SortsAt.data (s := { s with heap := PySem.W.sortingHeap (h'.push { cls := .type "list", data := .seq its.toArray }) h'.objs.size its, toks := tk }) (PySem.W.each_map (R := fun v d => ∃ as, Reads (PySem.W.sortingHeap (h'.push { cls := .type "list", data := .seq its.toArray }) h'.objs.size its) v d as) Prod.snd er') (by rw [em]; exact h1) (by rw [em]; exact h2) (PySem.W.bound_map hu)) (by omega) ⟨.none, rfl, ?_⟩) (PyProof.Rows.args_list_sort _)
    have ho := PySem.W.sortVals_length (κ := PySem.W.dataKind (PySem.W.sortingHeap (h'.push { cls := .type "list", data := .seq its.toArray }) h'.objs.size its) ((vs.zip ds).map Prod.snd)) (vs := its) (ks := its) false rfl
    have hs := PySem.W.sortVals_data (enc := Prod.snd) false e1 er' (by rw [em]; exact h1)
    generalize PySem.W.sortVals _ false its its = out at ho hs ⊢
    have hv := sort_vals (by rw [ho, List.length_zip]; omega) hs
    obtain ⟨ep, ea⟩ := PyProof.Rows.sortedHeap_at (out := out.toArray) hD
    have hn : H h'.objs.size = none := I1.hok.fresh (Nat.le_refl _)
    refine ⟨.ref h'.objs.size, _, I1.laid (t' := tk) (o := .lst (((vs.zip ds).mergeSort (PySem.W.dataLe false Prod.snd)).map Prod.fst)) (fun b o e => ?_) (Nat.le_refl _) ⟨?_, out, ep, hv, ea⟩, rfl, q _ hn⟩
    · rw [PyProof.Rows.sortedHeap_old (Nat.ne_of_lt (Heap.lt_size e)) (Nat.lt_trans (Heap.lt_size e) (by rw [Heap.size_push]; exact Nat.lt_succ_self _))]
      exact old b o e
    · rw [List.length_map, List.length_mergeSort, List.length_zip]; omega
  refine wpAny_bind (wpAny_holding (wpAny_mono go (fun _ s' x => ?_) fun _ _ e => e))
  exact wpAny_pure ⟨_, rfl, x⟩
theorem coll_tuple {xs : List V} (I : Inv X pins σ H s) (h : SqT X.K H a xs) : Coll X s (.ref a) xs := fun R hR => by
  obtain ⟨its, rv, ⟨o, h1, h2, n, h3⟩, hz⟩ := I.tuple h
  have lv := rv.length
  refine wpAny_collect_seq a (.inr rfl) h1 h2 h3 (fun h' hk => ?_) (by rw [List.size_toArray]; omega)
  have := hR h' s.toks its hk rv
  simpa using this
theorem EntV.keysV {es : List DictEntry} {kvs : List (PD × V)} (h : EntV w K H es kvs) : ∃ ks, Vals ks (es.map (·.key)) ∧ Reps w K H ks (kvs.map (·.1)) := by
  induction h with
  | nil => exact ⟨[], .nil, .nil⟩
  | @cons e es k kv v kvs _ e2 e3 _ _ ih =>
    obtain ⟨ks, h1, h2⟩ := ih
    exact ⟨kv :: ks, .cons e2 h1, .cons e3 h2⟩
theorem items_keys {es : List DictEntry} {acc : Array Value} (h : ItemsOf (fun i v => ∃ hi : i < es.toArray.size, v = es.toArray[i].key) acc es.toArray.size) : acc.toList = es.map (·.key) := by
  obtain ⟨h1, h2⟩ := h
  apply List.ext_getElem?
  intro i
  by_cases hi : i < es.length
  · have ha : i < acc.size := by rw [h1]; simpa using hi
    obtain ⟨_, e⟩ := h2 i acc[i] (Array.getElem?_eq_getElem ha)
    rw [Array.getElem?_toList, Array.getElem?_eq_getElem ha, e, List.getElem?_map, List.getElem?_eq_getElem hi]
    simp
  · rw [List.getElem?_eq_none (by rw [Array.length_toList, h1]; simpa using hi), List.getElem?_eq_none (by rw [List.length_map]; omega)]
theorem DictV.keysV {kvs : List (PD × V)} (D : DictV X H B a kvs) (C : CxF X P) (I : Inv X pins σ H s) : ∃ ks, Coll X s (.ref a) ks ∧ Reps P.w P.K B ks (kvs.map (·.1)) ∧ ks.length ≤ sizeLine ∧
    ∀ (Q : Value → Shared → Prop), (∀ D h' tk its c, (∀ b o, s.heap.get? b = some o → h'.get? b = some o) → D = s.heap.objs.size → h'.get? D = some { cls := .type "list", dict := none, data := .seq its c, slots := #[] } → Vals ks its.toList → Q (.ref D) { s with heap := h', toks := tk }) →
      wpAny (model X.prog X.w) X.A (call (.type "list") [.ref a]) Q X.xe s := by
  obtain ⟨es, _, e, en⟩ := D.ex
  obtain ⟨hd, z, o, ep, h1, h2, h3⟩ := Inv.raw I e
  obtain ⟨ks, k1, k2⟩ := en.keysV
  have lk : ks.length = es.length := by rw [k1.length, List.length_map]
  have raw : s.heap.DictRaw a es.toArray ep := ⟨o, h1, h2, h3⟩
  have src := KdlSrc.rawDict (prog := X.prog) (w := X.w) (es := es.toArray) (ep := ep) hd
  rw [C.w, C.K] at k2
  refine ⟨ks, fun R hR => ?_, k2, by omega, fun Q hQ => ?_⟩
  · refine PySem.W.kdu_collect (A := X.A.in1) src (I.ok.hd C.calm) raw (by simpa using z) fun h' tk acc hk hacc => ?_
    exact hR h' tk acc.toList hk (by rw [items_keys hacc]; exact k1)
  · exact PySem.W.kdl_call src (I.ok.hd C.calm) raw (by simpa using z) fun h' tk acc c hk hD hacc => hQ _ h' tk acc c hk rfl hD (by rw [items_keys hacc]; exact k1)
theorem dc_sortedT (C : CxF X P) : DCall X P (.builtin "sorted") (fun rs Q => ∃ x ds, rs = [x] ∧ x.val = .tuple ds ∧ sortOk ds ∧ Q (mkL x.soft (sortD ds))) := by
  refine ⟨fun xs H Q => ∃ a vs ds, xs = [.ref a] ∧ SqT X.K H a vs ∧ vs.length = ds.length ∧ Reps P.w P.K H vs ds ∧ sortOk ds ∧ ∀ p, H p = none → Q (.ref p) (upd H p (.lst (((vs.zip ds).mergeSort (PySem.W.dataLe false Prod.snd)).map Prod.fst))), ?_, ?_⟩
  · intro pins s σ H xs us Q I rv ⟨a, vs, ds, e, sq, hl, r, ok, q⟩
    subst e
    obtain ⟨u, rfl, ru⟩ := vals1 rv
    cases ru
    obtain ⟨_, _, _, hz⟩ := I.tuple sq
    exact sorted_gen C I (coll_tuple I sq) hl hz r ok q
  · intro ρ σ H0 G0 F0 H G F xs rs L1 Q Q' s o1 n1 ⟨x, ds, e, ex, ok, q⟩ k
    subst e
    obtain ⟨v, rfl, ov⟩ := o1.one
    obtain ⟨G2, s2, _, _, r2⟩ := norm1 s ov (Rv.data_of (by rw [ex]; simp)) n1
    rw [ex] at r2
    obtain ⟨p, vs, rfl, sq, r⟩ := r2.tuple s2.st.le
    exact ⟨p, vs, ds, rfl, by rw [C.K]; exact sq, r.len, r.rep s2.st.le, ok, fun p n => k.lst s2 r.sorted q n⟩
theorem isIns_sort {kvs : List (PD × PD)} (h : sortOk (kvs.map (·.1))) : isIns kvs = false := by
  match kvs, h with
  | [], _ => rfl
  | (k, d) :: r, h =>
    have := noIns_alike (h.1 k (by simp) k (by simp))
    unfold isIns
    split
    · rename_i e
      cases e
      have := h.1 (.dict []) (by simp) (.dict []) (by simp)
      simp [PySem.W.alike] at this
    · rfl
theorem dc_sortedD (C : CxF X P) : DCall X P (.builtin "sorted") (fun rs Q => ∃ x kvs, rs = [x] ∧ x.val = .dict kvs ∧ sortOk (kvs.map (·.1)) ∧ Q (mkL x.soft (sortD (kvs.map (·.1))))) := by
  refine ⟨fun xs H Q => ∃ a B kvV, xs = [.ref a] ∧ DictV X H B a kvV ∧ sortOk (kvV.map (·.1)) ∧ ∀ ks, Reps P.w P.K B ks (kvV.map (·.1)) → ∀ p, H p = none → Q (.ref p) (upd H p (.lst (((ks.zip (kvV.map (·.1))).mergeSort (PySem.W.dataLe false Prod.snd)).map Prod.fst))), ?_, ?_⟩
  · intro pins s σ H xs us Q I rv ⟨a, B, kvV, e, D, ok, q⟩
    subst e
    obtain ⟨u, rfl, ru⟩ := vals1 rv
    cases ru
    obtain ⟨ks, k1, k2, k3, _⟩ := D.keysV C I
    exact sorted_gen C I k1 k2.length k3 (k2.mono D.le) ok (q ks k2)
  · intro ρ σ H0 G0 F0 H G F xs rs L1 Q Q' s o1 n1 ⟨x, kvs, e, ex, ok, q⟩ k
    subst e
    obtain ⟨v, rfl, ov⟩ := o1.one
    obtain ⟨G2, s2, _, _, r2⟩ := norm1 s ov (Rv.data_of (by rw [ex]; simp)) n1
    rw [ex] at r2
    obtain ⟨a, kvV, B, rfl, D, ek, rr, src⟩ := r2.dictV C s2.st.le (isIns_sort ok)
    rw [← ek] at ok q
    exact ⟨a, B, kvV, rfl, D, ok, fun ks r p n => k.lst s2 (src (i := 0) r).sorted q n⟩
def bSortedX (x : Rv) (Q : Rv → Prop) : Prop := match x.val with
  | .list ds => sortOk ds ∧ Q (mkL x.soft (sortD ds))
  | .tuple ds => sortOk ds ∧ Q (mkL x.soft (sortD ds))
  | .dict kvs => sortOk (kvs.map (·.1)) ∧ Q (mkL x.soft (sortD (kvs.map (·.1))))
  | _ => False
theorem dc_sortedX (C : CxF X P) : DCall X P (.builtin "sorted") (fun rs Q => ∃ x, rs = [x] ∧ bSortedX x Q) := ((dc_sorted C).or ((dc_sortedT C).or (dc_sortedD C))).imp fun rs Q h => by
  obtain ⟨x, rfl, h⟩ := h
  unfold bSortedX at h
  split at h
  · rename_i ds e; exact .inl ⟨x, rfl, ds, e, h.1, h.2⟩
  · rename_i ds e; exact .inr (.inl ⟨x, ds, rfl, e, h.1, h.2⟩)
  · rename_i kvs e; exact .inr (.inr ⟨x, kvs, rfl, e, h.1, h.2⟩)
  · exact h.elim
theorem dc_listD (C : CxF X P) : DCall X P (.type "list") (fun rs Q => ∃ x kvs, rs = [x] ∧ x.val = .dict kvs ∧ isIns kvs = false ∧ Q (mkL x.soft (kvs.map (·.1)))) := by
  refine ⟨fun xs H Q => ∃ a B kvV, xs = [.ref a] ∧ DictV X H B a kvV ∧ ∀ ks, Reps P.w P.K B ks (kvV.map (·.1)) → ∀ p, H p = none → Q (.ref p) (upd H p (.lst ks)), ?_, ?_⟩
  · intro pins s σ H xs us Q I rv ⟨a, B, kvV, e, D, q⟩
    subst e
    obtain ⟨u, rfl, ru⟩ := vals1 rv
    cases ru
    obtain ⟨ks, k1, k2, k3, k4⟩ := D.keysV C I
    refine k4 _ fun D h' tk its c hk eD hD rv => ?_
    subst eD
    have hn := I.hok.fresh (Nat.le_refl s.heap.objs.size)
    exact ⟨.ref s.heap.objs.size, _, I.laid (t' := tk) (o := .lst ks) hk (Nat.le_refl _) ⟨k3, its.toList, c, rv, by simpa using hD⟩, rfl, q ks k2 _ hn⟩
  · intro ρ σ H0 G0 F0 H G F xs rs L1 Q Q' s o1 n1 ⟨x, kvs, e, ex, ni, q⟩ k
    subst e
    obtain ⟨v, rfl, ov⟩ := o1.one
    obtain ⟨G2, s2, _, _, r2⟩ := norm1 s ov (Rv.data_of (by rw [ex]; simp)) n1
    rw [ex] at r2
    obtain ⟨a, kvV, B, rfl, D, ek, rr, src⟩ := r2.dictV C s2.st.le ni
    rw [← ek] at q
    exact ⟨a, B, kvV, rfl, D, fun ks r p n => k.lst s2 (src (i := 0) r) q n⟩
def bListX (x : Rv) (Q : Rv → Prop) : Prop := match x.val with
  | .dict kvs => isIns kvs = false ∧ Q (mkL x.soft (kvs.map (·.1)))
  | _ => bList x Q
theorem dc_listX (C : CxF X P) : DCall X P (.type "list") (fun rs Q => ∃ x, rs = [x] ∧ bListX x Q) := ((dc_list C).or (dc_listD C)).imp fun rs Q h => by
  obtain ⟨x, rfl, h⟩ := h
  unfold bListX at h
  split at h
  · rename_i kvs e; exact .inr ⟨x, kvs, rfl, e, h.1, h.2⟩
  · exact .inl ⟨x, rfl, h⟩
end Rz
namespace Rz
open PySem PySem.Spec PyProof.Rows L2
variable {X : Cx} {P : Par} {ρ ρ' ρ0 ρ1 ρ2 : List SV} {σ σ' σ0 σ1 σ2 : Sg} {H0 G0 H G G' H' H1 G1 H2 G2 : Hp} {F0 F F' F1 F2 : FP} {a b c e o : Expr} {es : List Expr} {pos p p2 pos2 : Pos} {t t1 t2 t3 : TD} {ta : TDa} {tl : TDl} {tx : TDx} {u : TDt} {w : World} {K : PySem.W.Frag}
def rngV (lo c : Int) (n : Nat) : List V := (List.range n).map fun i => .int (lo + (i : Nat) * c)
theorem rngV_reps {lo c : Int} {n : Nat} : Reps w K H (rngV lo c n) (rngD lo c n) := by
  unfold rngV rngD
  generalize List.range n = l
  induction l with
  | nil => exact .nil
  | cons x l ih => exact .cons (.int _) ih
theorem rngV_vals {lo c : Int} {n : Nat} {acc : Array Value} (h : ItemsOf (fun i v => ∃ t, v = .int (lo + i * c) t) acc n) : Vals (rngV lo c n) acc.toList := by
  have e : acc.toList.length = n := by rw [Array.length_toList]; exact h.1
  unfold rngV
  rw [← e]
  exact vals_of_get acc.toList _ fun j u hj => h.2 j u (by rw [← hj, Array.getElem?_toList])
def rngA : List Rv → Option (Int × Int × Int)
  | [x] => match x.val with
    | .int j => some (0, j, 1)
    | _ => none
  | [x, y] => match x.val, y.val with
    | .int i, .int j => some (i, j, 1)
    | _, _ => none
  | [x, y, z] => match x.val, y.val, z.val with
    | .int i, .int j, .int c => some (i, j, c)
    | _, _, _ => none
  | _ => none
theorem rng_made {s : Shared} {pins : List (Addr × Obj)} {vs : List V} {rs : List Rv} {L : List Addr} {us : List Value} {i j c : Int} {n : Nat} {Q : Value → Shared → Prop} (I : Inv X pins σ H s) (S : StOk P ρ σ H G F) (o : RvsOk P ρ σ H G F vs rs L) (rv : Vals vs us) (e : rngA rs = some (i, j, c)) (hc : RgC i j c n)
    (h : ∀ r t u v s', IsRange s'.heap r i j c t u v → Inv X pins σ H s' → Q (.ref r) s') : wpAny (model X.prog X.w) X.A (call (.type "range") us) Q X.xe s := by
  obtain ⟨c0, c1, _, _⟩ := hc
  cases o with
  | nil => cases e
  | cons o1 o2 _ =>
    cases rv with
    | cons v1 v2 =>
      cases o2 with
      | nil =>
        cases v2
        simp only [rngA] at e
        split at e
        · rename_i jj ej
          cases e
          rw [o1.int S.le ej] at v1
          obtain ⟨t, rfl⟩ := v1
          exact call_range_1 (h _ _ _ _ _ (IsRange.new _ _ _ _ _ _ _) (I.kept fun b u e => Heap.get?_push_of_some _ e))
        · cases e
      | cons o2 o3 _ =>
        cases v2 with
        | cons v2 v3 =>
          cases o3 with
          | nil =>
            cases v3
            simp only [rngA] at e
            split at e
            · rename_i ii jj ei ej
              cases e
              rw [o1.int S.le ei] at v1
              rw [o2.int S.le ej] at v2
              obtain ⟨t, rfl⟩ := v1
              obtain ⟨t', rfl⟩ := v2
              exact call_range_2 (h _ _ _ _ _ (IsRange.new _ _ _ _ _ _ _) (I.kept fun b u e => Heap.get?_push_of_some _ e))
            · cases e
          | cons o3 o4 _ =>
            cases v3 with
            | cons v3 v4 =>
              cases o4 with
              | nil =>
                cases v4
                simp only [rngA] at e
                split at e
                · rename_i ii jj cc ei ej ec
                  cases e
                  rw [o1.int S.le ei] at v1
                  rw [o2.int S.le ej] at v2
                  rw [o3.int S.le ec] at v3
                  obtain ⟨t, rfl⟩ := v1
                  obtain ⟨t', rfl⟩ := v2
                  obtain ⟨t'', rfl⟩ := v3
                  exact call_range_3 c0 (h _ _ _ _ _ (IsRange.new _ _ _ _ _ _ _) (I.kept fun b u e => Heap.get?_push_of_some _ e)) (.inl (PyProof.noPylong_small c1))
                · cases e
              | cons _ _ _ => cases e
abbrev rngT (ta : TDa) (f : List PD → Rv) : TD := fun ρ Q => ta ρ fun rs => ∃ i j c n, rngA rs = some (i, j, c) ∧ RgC i j c n ∧ n ≤ 2 ^ 24 ∧ Q (f (rngD i c n))
theorem je_tupRg (C : CxF X P) (hgt : Gl X "tuple") (hmt : X.mg "tuple" = none) (hg : Gl X "range") (hm : X.mg "range" = none) (ha : JA X P (e :: es) ta) (hs : starEach (e :: es) X.env = (false, eval e X.env) :: starEach es X.env) (hpl : (backTo pos2 (starEach es X.env)).any (·.1) = false)
    (na : starEach [.Call (.Name "range" p2) (e :: es) [] pos2] X.env = (false, eval (.Call (.Name "range" p2) (e :: es) [] pos2) X.env) :: starEach [] X.env) :
    JE X P (.Call (.Name "tuple" p) [.Call (.Name "range" p2) (e :: es) [] pos2] [] pos) (rngT ta fun ds => .cl (.tuple ds)) := by
  refine ⟨fun pins s σ H Q' I h => ?_⟩
  obtain ⟨ρ, G, F, Q, S, q, k⟩ := h
  have run := ha.run pos2 pins s σ H (fun vs H1 => ∃ rs G1 F1 L, Sit P ρ σ H G F H1 G1 F1 ∧ RvsOk P ρ σ H1 G1 F1 vs rs L ∧ ∃ i j c n, rngA rs = some (i, j, c) ∧ RgC i j c n ∧ n ≤ 2 ^ 24 ∧ Q (.cl (.tuple (rngD i c n)))) I ⟨ρ, G, F, _, S, q, fun vs rs H1 G1 F1 L s o n q => ⟨rs, G1, F1, L, s, o, q⟩⟩
  refine Call_ (ld_blt I hgt hmt boot_tuple (PyProof.Rows.callWith_type1 (args_cons (thn (Call_ (ld_blt I hg hm boot_range (PyProof.Rows.callWith_type1 (thn run fun us s1 ⟨vs, H1, I1, r1, q1⟩ => ?_) hs hpl))) fun _ _ h => h) na) na))
  obtain ⟨rs, G1, F1, L1, st, o, i, j, c, n, e, hc, hn, q⟩ := q1
  refine rng_made I1 st.st o r1 e hc fun r t u v s2 hr I2 => args_nil ?_
  refine call_tuple_range (n := n) (I2.ok.hd C.calm) hr hc.2.2.1 hc.2.2.2 hn fun h' tk acc hk hi => ?_
  have I3 : Inv X pins σ H1 { s2 with heap := h', toks := tk } := I2.kept hk
  have hf := I3.hok.fresh (Nat.le_refl h'.objs.size)
  refine ⟨.ref h'.objs.size, upd H1 h'.objs.size (.tup (rngV i c n)), I3.laid (t' := tk) (fun c o e => Heap.get?_push_of_some _ e) (Nat.le_refl _) (show ObjOk X.prog X.w _ _ _ (.tup _) from ⟨?_, acc.toList, rngV_vals hi, ?_⟩), rfl, ?_⟩
  · unfold rngV; rw [List.length_map, List.length_range, sizeLine_eq]; omega
  · rw [Array.toArray_toList]; exact IsTup.new _ _
  · exact k.tup (b := false) st rngV_reps q hf
end Rz
namespace Rz
open PySem PySem.Spec PyProof.Rows L2
variable {X : Cx} {P : Par} {ρ ρ' ρ0 ρ1 ρ2 : List SV} {σ σ' σ0 σ1 σ2 : Sg} {H0 G0 H G G' H' H1 G1 H2 G2 : Hp} {F0 F F' F1 F2 : FP} {a b c e o : Expr} {es : List Expr} {pos p p2 pos2 : Pos} {t t1 t2 t3 : TD} {ta tk : TDa} {tl : TDl} {tx : TDx} {u : TDt} {w : World} {K : PySem.W.Frag}
def extI : Rv → Option (List OD)
  | .fr (.ls ys) => some ys
  | .cl (.list ds) => some (ds.map .lf)
  | .dr (.list ds) => if immAll ds = true then some (ds.map .lf) else none
  | _ => none
theorem extI_ok {y : V} {r : Rv} {L : List Addr} {ys : List OD} (l : Le G H) (h : RvOk P ρ σ H G F y r L) (e : extI r = some ys) : ∃ b zs Fz, y = .ref b ∧ H b = some (.lst zs) ∧ Owns P.w P.K H (absT G H) zs ys Fz ∧ Fz.Nodup ∧ ∀ x ∈ Fz, x ∈ L := by
  cases r with
  | cl d =>
    cases d with
    | list ds =>
      cases e
      obtain ⟨r, _⟩ := h
      cases r with
      | lst e1 r1 => exact ⟨_, _, [], rfl, l _ _ e1, Owns.leaves (Reps.mono absT_ge r1), List.nodup_nil, fun _ m => nomatch m⟩
    | _ => cases e
  | dr d =>
    cases d with
    | list ds =>
      simp only [extI] at e
      split at e
      · rename_i i
        cases e
        obtain ⟨⟨Hd, l', _, r⟩, _⟩ := h
        cases r with
        | lst e1 r1 => exact ⟨_, _, [], rfl, l' _ _ e1, Owns.leaves ((Reps.mono l' r1).abs l i), List.nodup_nil, fun _ m => nomatch m⟩
      · cases e
    | _ => cases e
  | fr o =>
    cases o with
    | ls ys =>
      cases e
      have own := FrOk.own h
      have nd := FrOk.nd h
      cases own with
      | ls e1 r1 =>
        rw [List.nodup_cons] at nd
        exact ⟨_, _, _, rfl, e1, r1.at absT_ge fun _ _ _ e => e, nd.2, fun x m => List.mem_cons_of_mem _ m⟩
    | _ => cases e
  | wl => cases e
  | ws i => cases e
  | sc ns => cases e
abbrev extX (tl : TDl) (ta : TDa) : TDx := fun ρ Q => tl ρ fun ρ' i p o => ∃ xs, o = .ls xs ∧ ta ρ' fun rs => ∃ r ys, rs = [r] ∧ extI r = some ys ∧ xs.length + ys.length ≤ sizeLine ∧ Q (putS ρ' i p (.ls (xs ++ ys))) (.cl .none)
theorem text_imp {σ : Sg} {H : Hp} {Q : VK} (h : TXof P (extX tl ta) σ H Q) : tBM P.K "list" rExtend (TLof P tl) (TAof P ta) σ H Q := by
  obtain ⟨ρ, G, F, Qd, S, q, k⟩ := h
  refine ⟨ρ, G, F, _, S, q, fun ρ1 v i p o H1 G1 F1 L s1 l1 q1 => ?_⟩
  obtain ⟨xs, rfl, q1⟩ := q1
  obtain ⟨a, vs, Fx, rfl, hv, _, _, _, _⟩ := l1.list s1.st
  refine ⟨.inl ⟨rfl, vs, .of hv⟩, ρ1, G1, F1, _, s1.st, q1, fun us rs H2 G2 F2 L2 s2 o2 n2 q2 => ?_⟩
  obtain ⟨r, ys, rfl, er, hz, q⟩ := q2
  obtain ⟨y, rfl, oy⟩ := o2.one
  obtain ⟨b, zs, Fz, rfl, hb, ownZ, ndZ, subZ⟩ := extI_ok s2.st.le oy er
  have offL := o2.offF
  have s2' : Sit P ρ1 σ H1 G1 F1 H2 (absT G2 H2) F2 := ⟨s2.st.abs, s2.ev.trans .abs, s2.at0⟩
  have l2 := l1.step s1.st s2'.ev
  obtain ⟨a', vs2, Fx2, ea, hv2, own2, eL, nd, off⟩ := l2.list s2'.st
  cases ea
  have fz : ∀ x ∈ Fz, x ∉ L := fun x m m' => (offL x (subZ x m)).2 (off x m').1
  rw [eL, List.nodup_cons] at nd
  have na : a ∉ Fx2 ++ Fz := fun m => (List.mem_append.mp m).elim nd.1 fun m => fz a m (by rw [eL]; exact List.mem_cons_self)
  obtain ⟨F3, s3, _⟩ := (s1.trans s2'.s).nodeL l2 (own2.append ownZ) (List.nodup_append.mpr ⟨nd.2, ndZ, fun x m y m' e => fz y m' (by rw [eL, ← e]; exact List.mem_cons_of_mem _ m)⟩) na fun x m => by
    rcases List.mem_append.mp m with z | z
    · exact .inl (by rw [eL]; exact List.mem_cons_of_mem _ z)
    · have o1 := offL x (subZ x z)
      exact .inr ⟨absT_own (Owns.kind ownZ x z) o1.1, o1.2, s1.newOf n2 x (subZ x z)⟩
  exact ⟨a, b, vs2, zs, rfl, rfl, hv2, hb, by rw [own2.len, ownZ.len]; exact hz, k _ .non (.cl .none) _ _ F3 [] s3 ⟨.non, rfl⟩ (fun _ m => nomatch m) q⟩
structure MOk (X : Cx) (o : Expr) (m : Str) (apos cpos : Pos) (e : Expr) (es : List Expr) : Prop where
  base : attributeBase o m X.env (eval o X.env) = eval o X.env
  few : ((backTo cpos (starEach (e :: es) X.env)).all (fun x => !x.1) && (backToKw cpos (keywordEach [] X.env)).all (fun x => x.1.isSome) && decide ((e :: es).length + ([] : List Keyword).length + (if ([] : List Keyword).isEmpty then 0 else 1) < 30)) = true
  line : (apos.endLine == cpos.line) = true
  st : starEach (e :: es) X.env = (false, eval e X.env) :: starEach es X.env
  pl : (backTo cpos (starEach es X.env)).any (·.1) = false
theorem jx_append {apos cpos : Pos} (C : CxF X P) (hl : JL X P o tl) (ha : JA X P (e :: es) ta) (m : MOk X o "append" apos cpos e es) : JX X P (.Call (.Attribute o "append" apos) (e :: es) [] cpos) (appX tl ta) :=
  pe_imp (pe_bm PySem.F.plainAttrs_list PySem.F.slot_list_append PySem.F.type_list_append mt_append hl ha m.base m.few m.line m.st m.pl) fun σ H Q h => by
    have := tapp_imp h
    rw [← C.K] at this
    exact this
theorem jx_extend {apos cpos : Pos} (C : CxF X P) (hl : JL X P o tl) (ha : JA X P (e :: es) ta) (m : MOk X o "extend" apos cpos e es) : JX X P (.Call (.Attribute o "extend" apos) (e :: es) [] cpos) (extX tl ta) :=
  pe_imp (pe_bm PySem.F.plainAttrs_list PySem.F.slot_list_extend PySem.F.type_list_extend mt_extend hl ha m.base m.few m.line m.st m.pl) fun σ H Q h => by
    have := text_imp h
    rw [← C.K] at this
    exact this
theorem jx_popAt {apos cpos : Pos} (C : CxF X P) (hl : JL X P o tl) (ha : JA X P (e :: es) ta) (m : MOk X o "pop" apos cpos e es) : JX X P (.Call (.Attribute o "pop" apos) (e :: es) [] cpos) (popAtX tl ta) :=
  pe_imp (pe_bm PySem.F.plainAttrs_list PySem.F.slot_list_pop PySem.F.type_list_pop mt_popAt hl ha m.base m.few m.line m.st m.pl) fun σ H Q h => by
    have := tpopAt_imp h
    rw [← C.K] at this
    exact this
end Rz
namespace Rz
open PySem PySem.Spec PyProof.Rows L2
variable {X : Cx} {P : Par} {ρ ρ' ρ0 ρ1 ρ2 : List SV} {σ σ' σ0 σ1 σ2 : Sg} {H0 G0 H G G' H' H1 G1 H2 G2 : Hp} {F0 F F' F1 F2 : FP} {a b c e o : Expr} {es : List Expr} {pos p p2 pos2 : Pos} {t t1 t2 t3 : TD} {ta tk : TDa} {tl : TDl} {tx : TDx} {u : TDt} {w : World} {K : PySem.W.Frag}
theorem RvsOk.zip {ps : List (V × Rv)} : ∀ {vs : List V} {rs : List Rv} {L : List Addr}, RvsOk P ρ σ H G F vs rs L → ps = vs.zip rs → RvsOk P ρ σ H G F (ps.map (·.1)) (ps.map (·.2)) L := by
  intro vs rs L h e
  subst e
  have l := h.len
  rw [List.map_fst_zip (by omega), List.map_snd_zip (by omega)]
  exact h
theorem RvsOk.perm {ps qs : List (V × Rv)} (h : ps.Perm qs) : ∀ {L : List Addr}, RvsOk P ρ σ H G F (ps.map (·.1)) (ps.map (·.2)) L → ∃ M, RvsOk P ρ σ H G F (qs.map (·.1)) (qs.map (·.2)) M ∧ ∀ a ∈ M, a ∈ L := by
  induction h with
  | nil => exact fun h => ⟨_, h, fun _ m => m⟩
  | cons x _ ih =>
    intro L h
    cases h with
    | @cons _ _ _ _ L1 L2 a b d =>
      obtain ⟨M, h1, h2⟩ := ih b
      refine ⟨L1 ++ M, .cons a h1 fun x m m' => d x m (h2 x m'), fun x m => ?_⟩
      exact (List.mem_append.mp m).elim (List.mem_append_left _) fun z => List.mem_append_right _ (h2 x z)
  | swap x y l =>
    intro L h
    cases h with
    | @cons _ _ _ _ L1 _ a b d =>
      cases b with
      | @cons _ _ _ _ L2 L3 b c d2 =>
        refine ⟨L2 ++ (L1 ++ L3), .cons b (.cons a c fun x m m' => d x m (List.mem_append_right _ m')) fun x m m' => ?_, fun x m => ?_⟩
        · rcases List.mem_append.mp m' with q | q
          · exact d x q (List.mem_append_left _ m)
          · exact d2 x m q
        · rcases List.mem_append.mp m with q | q
          · exact List.mem_append_right _ (List.mem_append_left _ q)
          · rcases List.mem_append.mp q with q | q
            · exact List.mem_append_left _ q
            · exact List.mem_append_right _ (List.mem_append_right _ q)
  | trans _ _ ih1 ih2 =>
    intro L h
    obtain ⟨M, h1, h2⟩ := ih1 h
    obtain ⟨M', h3, h4⟩ := ih2 h1
    exact ⟨M', h3, fun x m => h2 x (h4 x m)⟩
def permL {α : Type} (π : List Nat) (xs : List α) : List α := π.filterMap fun i => xs[i]?
structure CallKw (prog : Program) (w : World) (K : PySem.W.Frag) (mg : Str → Option Value) (base : Heap) (P : Par) (k : Nat) (x : Str) (ps ks : List Str) (π : List Nat) (ct : Ct) : Prop where
  ex : ∃ f fd, mg x = some (.ref f) ∧ PySem.W.keepIn K (.ref f) = true ∧ (∀ (s : Shared) (ws : List Value), K.In s.heap → ws.length = ps.length → BindsTo s fd ⟨[], ks.zip ws⟩ (ps.zip (permL π ws))) ∧ FnG prog w K mg base CX0 k f fd ps (spOf P ct)
  pm : π.Perm (List.range ps.length)
structure CallXKw (prog : Program) (w : World) (K : PySem.W.Frag) (mg : Str → Option Value) (base : Heap) (P : Par) (k : Nat) (x : Str) (ps ks : List Str) (π : List Nat) (ct : CtX) : Prop where
  ex : ∃ f fd, mg x = some (.ref f) ∧ PySem.W.keepIn K (.ref f) = true ∧ (∀ (s : Shared) (ws : List Value), K.In s.heap → ws.length = ps.length → BindsTo s fd ⟨[], ks.zip ws⟩ (ps.zip (permL π ws))) ∧ FnG prog w K mg base (CX prog w) k f fd ps (spX P ct)
  pm : π.Perm (List.range ps.length)
theorem je_gl {x : Str} {d : PD} {v : V} {uv : Value} (hg : Gl X x) (hm : X.mg x = some uv) (r : RelV v uv) (rp : ∀ H, Rep P.w P.K H v d) (hd : (x == ("__debug__" : Str)) = false) : JE X P (.Name x pos) (fun _ Q => Q (.cl d)) := je_cst (pe_glob hg hm r hd) rp
end Rz
namespace Rz
open PySem PySem.Spec PyProof.Rows L2
variable {X : Cx} {P : Par} {a b c e o : Expr} {es : List Expr} {pos p p2 pos2 : Pos} {t t1 t2 t3 : TD} {ta tk : TDa} {tl : TDl} {tx : TDx} {u u1 u2 : TDt}
theorem reps_flat {w : World} {K : PySem.W.Frag} {H : Hp} {xs : List V} {ds : List PD} (r : Reps w K H xs ds) : ∀ n : Nat, Reps w K H (List.replicate n xs).flatten (List.replicate n ds).flatten
  | 0 => .nil
  | n + 1 => by
    rw [List.replicate_succ, List.replicate_succ, List.flatten_cons, List.flatten_cons]
    exact Reps.append r (reps_flat r n)
theorem dop_rep : DOp X P (binaryOp .Mult) (fun x y Q => ∃ ds k, x.val = .list ds ∧ y.val = .int k ∧ -(2 ^ 63) ≤ k ∧ k < 2 ^ 63 ∧ ds.length * k.toNat ≤ sizeLine ∧ Q (mkL x.soft (List.replicate k.toNat ds).flatten)) := by
  refine ⟨_, op_rep, ?_⟩
  intro ρ σ H0 G0 F0 H G F x y r1 r2 L1 L2 Q Q' s o1 o2 n1 n2 dj ⟨ds, j, e1, e2, b1, b2, hz, q⟩ k
  have ey := o2.int s.st.le e2
  obtain ⟨G2, s2, _, _, r⟩ := norm1 s o1 (Rv.data_of (by rw [e1]; simp)) n1
  rw [e1] at r
  obtain ⟨p, xs, rfl, sp, r⟩ := r.list s2.st.le
  refine ⟨p, j, xs, rfl, ey, sp, b1, b2, by rw [r.len]; exact hz, fun p n => k.lst s2 (b := r1.soft) ?_ q n⟩
  cases hb : r1.soft with
  | false => rw [hb] at r; exact reps_flat r _
  | true => rw [hb] at r; obtain ⟨Hd, l, n, r⟩ := r; exact ⟨Hd, l, n, reps_flat r _⟩
def oMul (x y : Rv) (Q : Rv → Prop) : Prop := match x.val, y.val with
  | .int i, .int j => CMul i j ∧ Q (.cl (.int (i * j)))
  | .list ds, .int k => (-(2 ^ 63) ≤ k ∧ k < 2 ^ 63 ∧ ds.length * k.toNat ≤ sizeLine) ∧ Q (mkL x.soft (List.replicate k.toNat ds).flatten)
  | _, _ => False
theorem dop_mulX : DOp X P (binaryOp .Mult) oMul := (dop_mul.or dop_rep).imp fun x y Q h => by
  unfold oMul at h
  split at h
  · rename_i i j e1 e2; exact .inl ⟨i, j, e1, e2, h⟩
  · rename_i ds j e1 e2; obtain ⟨⟨h1, h2, h3⟩, h⟩ := h; exact .inr ⟨ds, j, e1, e2, h1, h2, h3, h⟩
  · exact h.elim
theorem V_ (i : Nat) {x : Str} (hN : X.N[i]? = some x := by rfl) (hv : Vis X.env.scope x := by first | exact Or.inl rfl | exact Or.inr (Or.inl rfl) | exact Or.inr (Or.inr rfl)) (hd : (x == ("__debug__" : Str)) = false := by rfl) (hcd : (x == ("__classdict__" : Str)) = false := by rfl) :
    JE X P (.Name x pos) (fun ρ Q => ∃ r, (ρ[i]?.bind rd) = some r ∧ Q r) := je_var hN hv hd hcd
theorem W_ (i : Nat) {x : Str} (hN : X.N[i]? = some x := by rfl) (hv : Vis X.env.scope x := by first | exact Or.inl rfl | exact Or.inr (Or.inl rfl) | exact Or.inr (Or.inr rfl)) (hd : (x == ("__debug__" : Str)) = false := by rfl) (hcd : (x == ("__classdict__" : Str)) = false := by rfl) :
    JE X P (.Name x pos) (fun ρ Q => ρ[i]? = some .wl ∧ Q (.ws i)) := je_ws hN hv hd hcd
theorem M_ (i : Nat) {x : Str} (hN : X.N[i]? = some x := by rfl) (hv : Vis X.env.scope x := by first | exact Or.inl rfl | exact Or.inr (Or.inl rfl) | exact Or.inr (Or.inr rfl)) (hd : (x == ("__debug__" : Str)) = false := by rfl) (hcd : (x == ("__classdict__" : Str)) = false := by rfl) :
    JX X P (.Name x pos) (mvT i) := jx_mv hN hv hd hcd
theorem L_ (i : Nat) {x : Str} (hN : X.N[i]? = some x := by rfl) (hv : Vis X.env.scope x := by first | exact Or.inl rfl | exact Or.inr (Or.inl rfl) | exact Or.inr (Or.inr rfl)) (hd : (x == ("__debug__" : Str)) = false := by rfl) (hcd : (x == ("__classdict__" : Str)) = false := by rfl) :
    JL X P (.Name x pos) (fun ρ Q => ∃ o, ρ[i]? = some (.ow o) ∧ Q ρ i [] o) := jl_nm hN hv hd hcd
theorem G_ {x : Str} {d : PD} {v : V} {uv : Value} (hm : X.mg x = some uv) (r : RelV v uv) (rp : ∀ H, Rep P.w P.K H v d) (hg : Gl X x := by rfl) (hd : (x == ("__debug__" : Str)) = false := by rfl) : JE X P (.Name x pos) (fun _ Q => Q (.cl d)) := je_gl hg hm r rp hd
theorem a0 : JA X P [] (fun _ Q => Q []) := pa_imp pa_nil fun _ _ _ h => ta_nil h
theorem a1 (h : JE X P e t) (r : JA X P es ta) (hs : starEach (e :: es) X.env = (false, eval e X.env) :: starEach es X.env := by rfl) : JA X P (e :: es) (fun ρ Q => t ρ fun x => ta ρ fun xs => Q (x :: xs)) := pa_imp (pa_cons h r hs) fun _ _ _ h => ta_cons h
theorem cmp_ {op : CmpOp} {R : Rv → Rv → (Rv → Prop) → Prop} (ho : DOp X P (compareOp op) R) (ha : JE X P a t1) (hb : JE X P b t2) (hm : behindInMarks op b = false := by rfl) : JE X P (.Compare a [op] [b] pos) (fun ρ Q => t1 ρ fun x => t2 ρ fun y => R x y Q) := je_cmp ho ha hb hm
theorem tcmp_ {op : CmpOp} {R : Rv → Rv → (Rv → Prop) → Prop} (ho : DOp X P (compareOp op) R) (ha : JE X P a t1) (hb : JE X P b t2) (hm : behindInMarks op b = false := by rfl) : JT X P (.Compare a [op] [b] pos) (fun ρ Q => t1 ρ fun x => t2 ρ fun y => R x y fun z => isB z Q) := jt_cmp ho ha hb hm
def isNoneD : PD → Bool
  | .none => true
  | _ => false
theorem rep_non {w : World} {K : PySem.W.Frag} {H : Hp} {v : V} {d : PD} (r : Rep w K H v d) : decide (v = .non) = isNoneD d := by
  cases r <;> (first | rfl | (apply decide_eq_false; intro h; cases h))
theorem dop_is : DOp X P (compareOp .Is) (fun x y Q => y.val = .none ∧ y.data = true ∧ x.data = true ∧ Q (.cl (.bool (isNoneD x.val)))) := by
  refine ⟨_, op_isN, ?_⟩
  intro ρ σ H0 G0 F0 H G F x y r1 r2 L1 L2 Q Q' s o1 o2 n1 n2 dj ⟨e, d2, d1, q⟩ k
  have q2 := o2.rep d2 s.st.le
  rw [e] at q2
  cases q2
  refine ⟨rfl, ?_⟩
  rw [rep_non (o1.rep d1 s.st.le)]
  exact k.val s (.bl _) q
theorem dop_isNot : DOp X P (compareOp .IsNot) (fun x y Q => y.val = .none ∧ y.data = true ∧ x.data = true ∧ Q (.cl (.bool (!isNoneD x.val)))) := by
  refine ⟨_, op_notN, ?_⟩
  intro ρ σ H0 G0 F0 H G F x y r1 r2 L1 L2 Q Q' s o1 o2 n1 n2 dj ⟨e, d2, d1, q⟩ k
  have q2 := o2.rep d2 s.st.le
  rw [e] at q2
  cases q2
  refine ⟨rfl, ?_⟩
  rw [rep_non (o1.rep d1 s.st.le)]
  exact k.val s (.bl _) q
theorem truth_ (C : CxF X P) (ha : JE X P a t) (he : ∀ whole, isTrue a X.env whole = (do let v ← whole; standAt a.pos; holding [v] (truthy v)) := by intro _; rfl) : JT X P a (fun ρ Q => t ρ fun x => x.data = true ∧ truOk x.val ∧ Q (truD x.val)) := jt_truth C ha he
theorem ix_ (C : CxF X P) (ha : JE X P a t1) (hb : JE X P b t2) (hs : PlainIx b := by intro _ _; rfl) : JE X P (.Subscript a b pos) (fun ρ Q => t1 ρ fun x => t2 ρ fun y => oIxX x y Q) := je_ix (dixX C) ha hb hs
theorem ixL_ (hl : JL X P a tl) (hb : JE X P b t) (hs : PlainIx b := by intro _ _; rfl) : JL X P (.Subscript a b pos) (ixL tl t) := jl_ix hl hb hs
theorem call_ {k : Nat} {x : Str} {ps : List Str} {ct : Ct} (C : CxF X P) (F : CallOk X.prog X.w X.K X.mg X.base (PaW X.w X.K) k x ps ct) (hr : Room k X.A) (ha : JA X P (e :: es) ta) (hg : Gl X x := by rfl) (hdb : (x == ("__debug__" : Str)) = false := by rfl)
    (he : starEach (e :: es) X.env = (false, eval e X.env) :: starEach es X.env := by rfl) (hpl : (backTo pos (starEach es X.env)).any (·.1) = false := by rfl) : JE X P (.Call (.Name x p) (e :: es) [] pos) (fun ρ Q => ta ρ fun rs => callD ct rs Q) := je_call C F hr hg ha hdb he hpl
theorem bt_len : bootBuiltins "len" = some (.builtin "len") := by decide +kernel
theorem len_ (C : CxF X P) (m : X.mg "len" = none) (ha : JA X P (e :: es) ta) (hg : Gl X "len" := by rfl) (he : starEach (e :: es) X.env = (false, eval e X.env) :: starEach es X.env := by rfl) (hpl : (backTo pos (starEach es X.env)).any (·.1) = false := by rfl) :
    JE X P (.Call (.Name "len" p) (e :: es) [] pos) (fun ρ Q => ta ρ fun rs => ∃ x, rs = [x] ∧ bLenX x Q) := je_callB (dc_lenX C) hg m bt_len ha (by decide) (by decide) he hpl
theorem bt_sum : bootBuiltins "sum" = some (.builtin "sum") := by decide +kernel
theorem sum_ (C : CxF X P) (m : X.mg "sum" = none) (ha : JA X P (e :: es) ta) (hg : Gl X "sum" := by rfl) (he : starEach (e :: es) X.env = (false, eval e X.env) :: starEach es X.env := by rfl) (hpl : (backTo pos (starEach es X.env)).any (·.1) = false := by rfl) :
    JE X P (.Call (.Name "sum" p) (e :: es) [] pos) (fun ρ Q => ta ρ fun rs => ∃ x, rs = [x] ∧ bSum x Q) := je_callB (dc_sum C) hg m bt_sum ha (by decide) (by decide) he hpl
theorem bt_all : bootBuiltins "all" = some (.builtin "all") := by decide +kernel
theorem all_ (C : CxF X P) (m : X.mg "all" = none) (ha : JA X P (e :: es) ta) (hg : Gl X "all" := by rfl) (he : starEach (e :: es) X.env = (false, eval e X.env) :: starEach es X.env := by rfl) (hpl : (backTo pos (starEach es X.env)).any (·.1) = false := by rfl) :
    JE X P (.Call (.Name "all" p) (e :: es) [] pos) (fun ρ Q => ta ρ fun rs => ∃ x, rs = [x] ∧ bAll x Q) := je_callB (dc_all C) hg m bt_all ha (by decide) (by decide) he hpl
theorem bt_abs : bootBuiltins "abs" = some (.builtin "abs") := by decide +kernel
theorem abs_ (C : CxF X P) (m : X.mg "abs" = none) (ha : JA X P (e :: es) ta) (hg : Gl X "abs" := by rfl) (he : starEach (e :: es) X.env = (false, eval e X.env) :: starEach es X.env := by rfl) (hpl : (backTo pos (starEach es X.env)).any (·.1) = false := by rfl) :
    JE X P (.Call (.Name "abs" p) (e :: es) [] pos) (fun ρ Q => ta ρ fun rs => ∃ x, rs = [x] ∧ bAbs x Q) := je_callB (dc_abs) hg m bt_abs ha (by decide) (by decide) he hpl
theorem bt_repr : bootBuiltins "repr" = some (.builtin "repr") := by decide +kernel
theorem repr_ (C : CxF X P) (m : X.mg "repr" = none) (ha : JA X P (e :: es) ta) (hg : Gl X "repr" := by rfl) (he : starEach (e :: es) X.env = (false, eval e X.env) :: starEach es X.env := by rfl) (hpl : (backTo pos (starEach es X.env)).any (·.1) = false := by rfl) :
    JE X P (.Call (.Name "repr" p) (e :: es) [] pos) (fun ρ Q => ta ρ fun rs => ∃ x, rs = [x] ∧ bRepr x Q) := je_callB (dc_repr C) hg m bt_repr ha (by decide) (by decide) he hpl
theorem bt_sorted : bootBuiltins "sorted" = some (.builtin "sorted") := by decide +kernel
theorem sorted_ (C : CxF X P) (m : X.mg "sorted" = none) (ha : JA X P (e :: es) ta) (hg : Gl X "sorted" := by rfl) (he : starEach (e :: es) X.env = (false, eval e X.env) :: starEach es X.env := by rfl) (hpl : (backTo pos (starEach es X.env)).any (·.1) = false := by rfl) :
    JE X P (.Call (.Name "sorted" p) (e :: es) [] pos) (fun ρ Q => ta ρ fun rs => ∃ x, rs = [x] ∧ bSortedX x Q) := je_callB (dc_sortedX C) hg m bt_sorted ha (by decide) (by decide) he hpl
theorem bt_tuple : bootBuiltins "tuple" = some (.type "tuple") := by decide +kernel
theorem tuple_ (C : CxF X P) (m : X.mg "tuple" = none) (ha : JA X P (e :: es) ta) (hg : Gl X "tuple" := by rfl) (he : starEach (e :: es) X.env = (false, eval e X.env) :: starEach es X.env := by rfl) (hpl : (backTo pos (starEach es X.env)).any (·.1) = false := by rfl) :
    JE X P (.Call (.Name "tuple" p) (e :: es) [] pos) (fun ρ Q => ta ρ fun rs => ∃ x, rs = [x] ∧ bTuple x Q) := je_callTy (dc_tuple C) hg m bt_tuple ha (by decide) (by decide) he hpl
theorem bt_list : bootBuiltins "list" = some (.type "list") := by decide +kernel
theorem list_ (C : CxF X P) (m : X.mg "list" = none) (ha : JA X P (e :: es) ta) (hg : Gl X "list" := by rfl) (he : starEach (e :: es) X.env = (false, eval e X.env) :: starEach es X.env := by rfl) (hpl : (backTo pos (starEach es X.env)).any (·.1) = false := by rfl) :
    JE X P (.Call (.Name "list" p) (e :: es) [] pos) (fun ρ Q => ta ρ fun rs => ∃ x, rs = [x] ∧ bListX x Q) := je_callTy (dc_listX C) hg m bt_list ha (by decide) (by decide) he hpl
theorem bt_int : bootBuiltins "int" = some (.type "int") := by decide +kernel
theorem int_ (C : CxF X P) (m : X.mg "int" = none) (ha : JA X P (e :: es) ta) (hg : Gl X "int" := by rfl) (he : starEach (e :: es) X.env = (false, eval e X.env) :: starEach es X.env := by rfl) (hpl : (backTo pos (starEach es X.env)).any (·.1) = false := by rfl) :
    JE X P (.Call (.Name "int" p) (e :: es) [] pos) (fun ρ Q => ta ρ fun rs => ∃ x, rs = [x] ∧ bInt x Q) := je_callTy (dc_int) hg m bt_int ha (by decide) (by decide) he hpl
end Rz
namespace Rz
open PySem PySem.Spec PyProof.Rows L2
variable {X : Cx} {P : Par} {a b c e o : Expr} {es : List Expr} {pos p p2 pos2 : Pos} {t t1 t2 t3 : TD} {ta tk : TDa} {tl : TDl} {tx : TDx} {u u1 u2 : TDt} {s1 s2 tb : TDs} {st : Stmt} {rest body ss1 ss2 : List Stmt}
def blkC (N : List Str) (sc scope : Scope) (own : List (Str × Nat)) : Bool :=
  decide (scope.kind = .function) && scope.names.all (fun y => decide (scope.names.lookup y.1 = some y.2)) && own.all (fun p => decide (N[p.2]? = some p.1)) &&
  scope.names.all (fun y => !decide (y.2 = .free) || decide (sc.names.lookup y.1 = some .cell) || decide (sc.names.lookup y.1 = some .free)) &&
  scope.names.all (fun y => !(decide (y.2 = .local) || decide (y.2 = .cell)) || (own.map (·.1)).contains y.1 || !N.contains y.1)
theorem blk_by {N : List Str} {sc scope : Scope} {own : List (Str × Nat)} (h : blkC N sc scope own = true) : BlkOk N sc scope own := by
  unfold blkC at h
  simp only [Bool.and_eq_true, List.all_eq_true, decide_eq_true_eq, Bool.or_eq_true, Bool.not_eq_true', decide_eq_false_iff_not] at h
  obtain ⟨⟨⟨⟨h1, h2⟩, h3⟩, h4⟩, h5⟩ := h
  refine ⟨h1, h2, h3, fun y m e => ?_, fun y m e => ?_⟩
  · rcases h4 y m with (q | q) | q
    · exact absurd e q
    · exact .inl q
    · exact .inr q
  · rcases h5 y m with (q | q) | q
    · exfalso
      rw [Bool.or_eq_false_iff, decide_eq_false_iff_not, decide_eq_false_iff_not] at q
      exact e.elim q.1 q.2
    · exact .inl (by simpa using q)
    · exact .inr (by simpa using q)
def nmC (N : List Str) (sc : Scope) (fn : Str → Bool) : List Nat → List Str → Bool
  | [], [] => true
  | i :: is, x :: xs => decide (N[i]? = some x) && (decide (sc.names.lookup x = some .local) || decide (sc.names.lookup x = some .cell)) && (fn x || decide (sc.names.lookup x = some .local)) && nmC N sc fn is xs
  | _, _ => false
theorem nm_by : ∀ {is : List Nat} {xs : List Str}, nmC X.N X.env.scope X.fn is xs = true → NmAll X is xs
  | [], [], _ => trivial
  | i :: is, x :: xs, h => by
    unfold nmC at h
    simp only [Bool.and_eq_true, decide_eq_true_eq, Bool.or_eq_true] at h
    exact ⟨⟨h.1.1.1, h.1.1.2, h.1.2⟩, nm_by h.2⟩
  | [], _ :: _, h => by cases h
  | _ :: _, [], h => by cases h
def tsC : List Expr → List Str → Bool
  | [], [] => true
  | .Name y _ :: ts, x :: xs => decide (y = x) && tsC ts xs
  | _, _ => false
theorem ts_by : ∀ {ts : List Expr} {xs : List Str}, tsC ts xs = true → NmTs ts xs
  | [], [], _ => trivial
  | .Name y _ :: ts, x :: xs, h => by
    simp only [tsC, Bool.and_eq_true, decide_eq_true_eq] at h
    exact ⟨h.1, ts_by h.2⟩
  | [], _ :: _, h => by cases h
  | .Name y p :: ts, [], h => by cases h
theorem CxF.blk (C : CxF X P) {s : Shared} {H : Hp} {scope : Scope} {cenv : Env} {fp : List Addr} : CxF (X.blk s H scope cenv fp) P.nb := ⟨C.nb, PassesOwn.never, C.w, C.K, C.calm, C.nd, C.un, C.gu⟩
theorem n_ (C : CxF X P) (i : Nat) {x : Str} (hi : X.N[i]? = some x := by rfl) (hx : Loc X.env.scope x := by first | exact Or.inl rfl | exact Or.inr rfl) (hf : X.fn x = true ∨ X.env.scope.names.lookup x = some .local := by first | exact Or.inl rfl | exact Or.inr rfl) : PG X (.Name x pos) (GP P (.nm i)) := jg_nm C.nd hi hx hf
theorem g0 : PGs X [] (GPs P []) := jgs_nil
theorem g1 {q : Pat} {qs : List Pat} (h1 : PG X e (GP P q)) (h2 : PGs X es (GPs P qs)) (hs : (assignEach (e :: es) X.env).map (·.2) = assign e X.env :: (assignEach es X.env).map (·.2) := by rfl) : PGs X (e :: es) (GPs P (q :: qs)) := jgs_cons h1 h2 hs
theorem tp_ {k : Nat} {qs : List Pat} (C : CxF X P) (h : PGs X es (GPs P qs)) (hn : (assignEach es X.env).length = qs.length := by rfl) (hst : (assignEach es X.env).findIdx? (·.1) = none := by rfl) : PG X (.Tuple es k pos) (GP P (.tp qs)) := jg_tp C h hn hst
theorem it_ {tg : Expr} (C : CxF X P) (h : JE X P e t) : JI X P tg e (fun ρ Q => t ρ fun x => itAny x Q) := ji_any C h
theorem enum_ {elts : List Expr} {kk : Nat} {tpos : Pos} (C : CxF X P) (hm : X.mg "enumerate" = none) (ha : JA X P (e :: es) ta) (hg : Gl X "enumerate" := by rfl) (hs : starEach (e :: es) X.env = (false, eval e X.env) :: starEach es X.env := by rfl) (hpl : (backTo pos (starEach es X.env)).any (·.1) = false := by rfl) :
    JI X P (.Tuple elts kk tpos) (.Call (.Name "enumerate" p) (e :: es) [] pos) (fun ρ Q => ta ρ fun rs => itEnum rs Q) := ji_enum C hg hm ha hs hpl
theorem zip_ {elts : List Expr} {kk : Nat} {tpos : Pos} (C : CxF X P) (hm : X.mg "zip" = none) (ha : JA X P (e :: es) ta) (hg : Gl X "zip" := by rfl) (hs : starEach (e :: es) X.env = (false, eval e X.env) :: starEach es X.env := by rfl) (hpl : (backTo pos (starEach es X.env)).any (·.1) = false := by rfl) :
    JI X P (.Tuple elts kk tpos) (.Call (.Name "zip" p) (e :: es) [] pos) (fun ρ Q => ta ρ fun rs => itZip rs Q) := ji_zip C hg hm ha hs hpl
theorem rng1_ {tg : Expr} (hm : X.mg "range" = none) (ha : JA X P [a] ta) (hg : Gl X "range" := by rfl) (hs : starEach [a] X.env = [(false, eval a X.env)] := by rfl) : JI X P tg (.Call (.Name "range" p) [a] [] pos) (fun ρ Q => ta ρ fun rs => itRng1 rs Q) := ji_rng1 hg hm ha hs
theorem rng2_ {tg : Expr} (hm : X.mg "range" = none) (ha : JA X P [a, b] ta) (hg : Gl X "range" := by rfl) (hs : starEach [a, b] X.env = [(false, eval a X.env), (false, eval b X.env)] := by rfl) (hs2 : starEach [b] X.env = [(false, eval b X.env)] := by rfl) :
    JI X P tg (.Call (.Name "range" p) [a, b] [] pos) (fun ρ Q => ta ρ fun rs => itRng2 rs Q) := ji_rng2 hg hm ha hs hs2
theorem tupRg_ (C : CxF X P) (hmt : X.mg "tuple" = none) (hm : X.mg "range" = none) (ha : JA X P (e :: es) ta) (hgt : Gl X "tuple" := by rfl) (hg : Gl X "range" := by rfl) (hs : starEach (e :: es) X.env = (false, eval e X.env) :: starEach es X.env := by rfl) (hpl : (backTo pos2 (starEach es X.env)).any (·.1) = false := by rfl)
    (na : starEach [.Call (.Name "range" p2) (e :: es) [] pos2] X.env = (false, eval (.Call (.Name "range" p2) (e :: es) [] pos2) X.env) :: starEach [] X.env := by rfl) :
    JE X P (.Call (.Name "tuple" p) [.Call (.Name "range" p2) (e :: es) [] pos2] [] pos) (rngT ta fun ds => .cl (.tuple ds)) := je_tupRg C hgt hmt hg hm ha hs hpl na
theorem lc_ {elt tg iter : Expr} {ifs : List Expr} {scope : Scope} {it : TDi} {pat : Pat} (C : CxF X P) (own : List (Str × Nat)) (hi : JI X P tg iter it)
    (hg : ∀ (s : Shared) (H : Hp) (A : Addr) (cl : List (Str × Addr)) (fp : List Addr), PG (X.blk s H scope (compEnvC scope cl A X.env) fp) tg (GP P.nb pat))
    (ht : ∀ (s : Shared) (H : Hp) (A : Addr) (cl : List (Str × Addr)) (fp : List Addr), PTs (X.blk s H scope (compEnvC scope cl A X.env) fp) ifs (TTof P.nb u))
    (he : ∀ (s : Shared) (H : Hp) (A : Addr) (cl : List (Str × Addr)) (fp : List Addr), JE (X.blk s H scope (compEnvC scope cl A X.env) fp) P.nb elt t) (ok : blkC X.N X.env.scope scope own = true := by rfl) (hs : ∀ x, foldedSetIterable iter X.env x = pure x := by intro _; rfl) (hsl : ∀ j ∈ pat.slots, j ∈ own.map (·.2) := by decide) :
    JE X P (.ListComp elt [⟨tg, iter, ifs, 0⟩] scope pos) (lcT it pat u t (own.map (·.2))) := je_lc C hi (blk_by ok) hg ht he hs hsl
theorem setLc_ {i : Nat} {y : Str} {py : Pos} {elt tg iter : Expr} {ifs : List Expr} {scope : Scope} {pos spos : Pos} {it : TDi} {pat : Pat} (C : CxF X P) (hp : P.pin i = false) (own : List (Str × Nat)) (hi : JI X P tg iter it)
    (hg : ∀ (s : Shared) (H : Hp) (A : Addr) (cl : List (Str × Addr)) (fp : List Addr), PG (X.blk s H scope (compEnvC scope cl A X.env) fp) tg (GP P.nb pat))
    (ht : ∀ (s : Shared) (H : Hp) (A : Addr) (cl : List (Str × Addr)) (fp : List Addr), PTs (X.blk s H scope (compEnvC scope cl A X.env) fp) ifs (TTof P.nb u))
    (he : ∀ (s : Shared) (H : Hp) (A : Addr) (cl : List (Str × Addr)) (fp : List Addr), JE (X.blk s H scope (compEnvC scope cl A X.env) fp) P.nb elt t) (hy : X.N[i]? = some y := by rfl) (hyl : X.env.scope.names.lookup y = some .local := by rfl) (ok : blkC X.N X.env.scope scope own = true := by rfl)
    (hsw : swapsWith (.ListComp elt [⟨tg, iter, ifs, 0⟩] scope pos) (some (.Name y py)) spos.line X.env = pure true := by rfl) (hs : ∀ x, foldedSetIterable iter X.env x = pure x := by intro _; rfl) (hsl : ∀ j ∈ pat.slots, j ∈ own.map (·.2) := by decide) :
    JS X P (.Assign [.Name y py] (.ListComp elt [⟨tg, iter, ifs, 0⟩] scope pos) spos) (asgT i (lcT it pat u t (own.map (·.2)))) := js_setLc C hy hyl hsw hi (blk_by ok) hg ht he hs hsl hp
theorem set_ {i : Nat} {x : Str} {pos' : Pos} (C : CxF X P) (hp : P.pin i = false) (he : JE X P e t) (hi : X.N[i]? = some x := by rfl) (hx : Loc X.env.scope x := by first | exact Or.inl rfl | exact Or.inr rfl) (hs : swapsWith e (some (.Name x pos')) pos.line X.env = pure false := by rfl) (hf : X.fn x = true ∨ X.env.scope.names.lookup x = some .local := by first | exact Or.inl rfl | exact Or.inr rfl) :
    JS X P (.Assign [.Name x pos'] e pos) (asgT i t) := js_set C hi hx he hs hf hp
theorem pat_ {tg : Expr} {pat : Pat} (he : JE X P e t) (hg : PG X tg (GP P pat)) (hpn : ∀ j ∈ pat.slots, P.pin j = false) (hs : swapsWithSole [tg] e pos.line X.env = pure false := by rfl) (hw : swappedStores [tg] e X.env = pure none := by rfl) (h1 : (assignEach [tg] X.env).map (·.2) = [assign tg X.env] := by rfl) :
    JS X P (.Assign [tg] e pos) (patT pat t) := js_pat he hg hs hw h1 hpn
theorem mul_ {ts : List Expr} {kt k2 : Nat} {pt pt2 : Pos} (C : CxF X P) (is : List Nat) (xs : List Str) (hp : ∀ i ∈ is, P.pin i = false) (ha : JA X P es ta) (hn : nmC X.N X.env.scope X.fn is xs = true := by rfl) (ht : tsC ts xs = true := by rfl) (ni : is.Nodup := by decide)
    (hw : swappedStores [.Tuple ts kt pt] (.Tuple es k2 pt2) X.env = pure (some xs) ∨ swappedStores [.Tuple ts kt pt] (.Tuple es k2 pt2) X.env = pure none := by first | exact Or.inl rfl | exact Or.inr rfl) (hs : swapsWithSole [.Tuple ts kt pt] (.Tuple es k2 pt2) pos.line X.env = pure false := by rfl) :
    JS X P (.Assign [.Tuple ts kt pt] (.Tuple es k2 pt2) pos) (mulT is ta) := js_mul C (nm_by hn) (ts_by ht) ni ha hw hs hp
theorem setIx_ {pos' : Pos} (C : CxF X P) (he : JE X P e t) (hl : JL X P a tl) (hi : JE X P b t2) (ha : ∀ v, assign (.Subscript a b pos') X.env v = (do
      let ov ← holding [v] (eval a X.env)
      let iv ← holding [v, ov] (eval b X.env)
      standAt pos'
      holding [v, ov, iv] (setItem ov iv v)
      release [v, ov, iv] []) := by intro _; rfl) (hs : swapsWithSole [.Subscript a b pos'] e pos.line X.env = pure false := by rfl) (hw : swappedStores [.Subscript a b pos'] e X.env = pure none := by rfl) (h1 : (assignEach [.Subscript a b pos'] X.env).map (·.2) = [assign (.Subscript a b pos') X.env] := by rfl) :
    JS X P (.Assign [.Subscript a b pos'] e pos) (setXT t tl t2) := js_setX' C he hl hi ha hs hw h1
theorem for_ {tg iter : Expr} {it : TDi} {pat : Pat} (C : CxF X P) (hpn : ∀ j ∈ pat.slots, P.pin j = false) (hi : JI X P tg iter it) (hg : PG X tg (GP P pat)) (hb : JSs X P body tb) (hs : ∀ x, foldedSetIterable iter X.env x = pure x := by intro _; rfl) :
    JS X P (.For tg iter body [] pos) (forS it pat tb) := js_for C hi hg hb hs hpn
theorem expr_ (he : JX X P e tx) (hs : swapsWith e none pos.line X.env = pure false := by rfl) : JS X P (.Expr e pos) (fun D ρ => tx ρ fun ρ' _ => D.nx ρ') := js_exprX he hs
theorem app_ {apos cpos : Pos} (C : CxF X P) (hl : JL X P o tl) (ha : JA X P (e :: es) ta) (m1 : attributeBase o "append" X.env (eval o X.env) = eval o X.env := by rfl) (m2 : ((backTo cpos (starEach (e :: es) X.env)).all (fun x => !x.1) && (backToKw cpos (keywordEach [] X.env)).all (fun x => x.1.isSome) && decide ((e :: es).length + ([] : List Keyword).length + (if ([] : List Keyword).isEmpty then 0 else 1) < 30)) = true := by rfl) (m3 : (apos.endLine == cpos.line) = true := by rfl) (m4 : starEach (e :: es) X.env = (false, eval e X.env) :: starEach es X.env := by rfl) (m5 : (backTo cpos (starEach es X.env)).any (·.1) = false := by rfl) :
    JX X P (.Call (.Attribute o "append" apos) (e :: es) [] cpos) (appX tl ta) := jx_append C hl ha ⟨m1, m2, m3, m4, m5⟩
theorem ext_ {apos cpos : Pos} (C : CxF X P) (hl : JL X P o tl) (ha : JA X P (e :: es) ta) (m1 : attributeBase o "extend" X.env (eval o X.env) = eval o X.env := by rfl) (m2 : ((backTo cpos (starEach (e :: es) X.env)).all (fun x => !x.1) && (backToKw cpos (keywordEach [] X.env)).all (fun x => x.1.isSome) && decide ((e :: es).length + ([] : List Keyword).length + (if ([] : List Keyword).isEmpty then 0 else 1) < 30)) = true := by rfl) (m3 : (apos.endLine == cpos.line) = true := by rfl) (m4 : starEach (e :: es) X.env = (false, eval e X.env) :: starEach es X.env := by rfl) (m5 : (backTo cpos (starEach es X.env)).any (·.1) = false := by rfl) :
    JX X P (.Call (.Attribute o "extend" apos) (e :: es) [] cpos) (extX tl ta) := jx_extend C hl ha ⟨m1, m2, m3, m4, m5⟩
theorem popAt_ {apos cpos : Pos} (C : CxF X P) (hl : JL X P o tl) (ha : JA X P (e :: es) ta) (m1 : attributeBase o "pop" X.env (eval o X.env) = eval o X.env := by rfl) (m2 : ((backTo cpos (starEach (e :: es) X.env)).all (fun x => !x.1) && (backToKw cpos (keywordEach [] X.env)).all (fun x => x.1.isSome) && decide ((e :: es).length + ([] : List Keyword).length + (if ([] : List Keyword).isEmpty then 0 else 1) < 30)) = true := by rfl) (m3 : (apos.endLine == cpos.line) = true := by rfl) (m4 : starEach (e :: es) X.env = (false, eval e X.env) :: starEach es X.env := by rfl) (m5 : (backTo cpos (starEach es X.env)).any (·.1) = false := by rfl) :
    JX X P (.Call (.Attribute o "pop" apos) (e :: es) [] cpos) (popAtX tl ta) := jx_popAt C hl ha ⟨m1, m2, m3, m4, m5⟩
end Rz
namespace Rz
open PySem PySem.Spec PyProof.Rows L2
variable {X : Cx} {P : Par}
theorem jt_w {e : Expr} {u : TDt} (h : JW X P e u) : JT X P e u := h.pt
def ctOf {α : Type} (sl : α → List SV) (pre : α → Prop) (post : α → (Rv → Prop) → Prop) : Ct := fun ρ Q => ∃ a, ρ = sl a ∧ pre a ∧ post a Q
theorem fnA {prog : Program} {w : World} {K : PySem.W.Frag} {mg : Str → Option Value} {base : Heap} {x qual : Str} {st : Stmt} {f : Addr} {fd : FuncData} {N ps : List Str} {k : Nat} {α : Type} {sl : α → List SV} {pre : α → Prop} {post : α → (Rv → Prop) → Prop} {tb : (List SV → Er → Prop) → TDs} (F : Fun K x qual st f fd) (S : FnScope N ps (defScope st))
    (hb : ∀ (cdv : Value) (A : Around) (outer : List Env) (s : Shared) (H : Hp) (E : XK) (P : Par) (ee : List SV → Er → Prop), CxF (cxOf CX0 prog w K mg base N qual (defScope st) f cdv A outer s H E).nox P → ErF (cxOf CX0 prog w K mg base N qual (defScope st) f cdv A outer s H E).nox P ee → (∀ j, P.pin j = false) → Room k (A.deeper (envOfC qual (defScope st) s.heap.objs.size f cdv)) →
      JSs (cxOf CX0 prog w K mg base N qual (defScope st) f cdv A outer s H E).nox P (defBody st) (tb ee))
    (len : ∀ a, (sl a).length = ps.length)
    (ht : ∀ a Q, pre a → post a Q → tb (fun _ _ => False) { nx := fun _ => Q (.cl .none), rt := fun _ r => retQ (PaW w K) Q r } (sl a ++ List.replicate (N.length - ps.length) .un)) :
    FnG prog w K mg base CX0 (k + 1) f fd ps (spOf (PaW w K) (ctOf sl pre post)) :=
  fnD F S (fun ρ Q ⟨a, e, _⟩ => by rw [e, len]) hb fun ρ Q ⟨a, e, h1, h2⟩ => by rw [e]; exact ht a Q h1 h2
theorem CallOk.mono {prog : Program} {w : World} {K : PySem.W.Frag} {mg : Str → Option Value} {base : Heap} {j k : Nat} {x : Str} {ps : List Str} {ct : Ct} (F : CallOk prog w K mg base P j x ps ct) (h : j ≤ k) : CallOk prog w K mg base P k x ps ct := by
  obtain ⟨f, fd, h1, h2, h3, h4⟩ := F.ex
  exact ⟨f, fd, h1, h2, h3, h4.mono h⟩
theorem CallKw.mono {prog : Program} {w : World} {K : PySem.W.Frag} {mg : Str → Option Value} {base : Heap} {j k : Nat} {x : Str} {ps ks : List Str} {π : List Nat} {ct : Ct} (F : CallKw prog w K mg base P j x ps ks π ct) (h : j ≤ k) : CallKw prog w K mg base P k x ps ks π ct := by
  obtain ⟨f, fd, h1, h2, h3, h4⟩ := F.ex
  exact ⟨⟨f, fd, h1, h2, h3, h4.mono h⟩, F.pm⟩
theorem CallXOk.mono {prog : Program} {w : World} {K : PySem.W.Frag} {mg : Str → Option Value} {base : Heap} {P : Par} {j k : Nat} {x : Str} {ps : List Str} {ct : CtX} (F : CallXOk prog w K mg base P j x ps ct) (h : j ≤ k) : CallXOk prog w K mg base P k x ps ct := by
  obtain ⟨f, fd, h1, h2, h3, h4⟩ := F.ex
  exact ⟨f, fd, h1, h2, h3, h4.mono h⟩
theorem CallXKw.mono {prog : Program} {w : World} {K : PySem.W.Frag} {mg : Str → Option Value} {base : Heap} {P : Par} {j k : Nat} {x : Str} {ps ks : List Str} {π : List Nat} {ct : CtX} (F : CallXKw prog w K mg base P j x ps ks π ct) (h : j ≤ k) : CallXKw prog w K mg base P k x ps ks π ct := by
  obtain ⟨f, fd, h1, h2, h3, h4⟩ := F.ex
  exact ⟨⟨f, fd, h1, h2, h3, h4.mono h⟩, F.pm⟩
def ctWell : Ct := ctOf (α := List Int) (fun ns => [.sc ns]) (fun ns => ns.length ≤ 63) fun _ Q => Q .wl
end Rz
namespace Rz
open PySem PySem.Spec PyProof.Rows L2
def slv : SV → Option PD
  | .sh d => some d
  | .ow o => some o.val
  | _ => none
theorem slv_arg {r : Rv} (so : Bool) (h : r.data = true) : slv (argS so r) = some r.val := by
  cases r with
  | cl d => rfl
  | dr d => rfl
  | fr o =>
    show slv (if so = true then SV.sh o.val else SV.ow o) = some o.val
    split <;> rfl
  | _ => cases h
def seqOf : PD → Option (List PD)
  | .list ds => some ds
  | .tuple ds => some ds
  | _ => none
theorem atI_ok {α : Type} {xs : List α} {i : Int} (h0 : 0 ≤ i) (h1 : i < xs.length) : ∃ x, atI xs i = some x ∧ x ∈ xs ∧ xs[i.toNat]? = some x := by
  have h : i.toNat < xs.length := by omega
  refine ⟨xs[i.toNat], ?_, List.getElem_mem h, List.getElem?_eq_getElem h⟩
  have := atI_nat (xs := xs) (j := i.toNat) (List.getElem?_eq_getElem h)
  rwa [Int.toNat_of_nonneg h0] at this
theorem t_len {x : Rv} {ds : List PD} {Q : Rv → Prop} (hd : x.data = true) (h : seqOf x.val = some ds) (q : Q (.cl (.int ds.length))) : bLenX x Q := by
  have lx : lenR x = lenD x.val := by cases x with
    | sc ns => cases hd
    | _ => rfl
  have e : lenD x.val = some ds.length ∧ ∀ kvs, x.val ≠ .dict kvs := by
    generalize x.val = v at h
    cases v <;> cases h <;> exact ⟨rfl, fun _ z => by cases z⟩
  unfold bLenX
  split
  · rename_i kvs z; exact absurd z (e.2 kvs)
  · exact ⟨_, lx.trans e.1, q⟩
theorem t_ix {x y : Rv} {ds : List PD} {i : Int} {Q : Rv → Prop} (h : seqOf x.val = some ds) (hy : y.val = .int i) (h0 : 0 ≤ i) (h1 : i < ds.length) (q : ∀ d ∈ ds, ds[i.toNat]? = some d → Q (mk x.soft d)) : oIxX x y Q := by
  obtain ⟨d, e1, e2, e3⟩ := atI_ok h0 h1
  unfold oIxX oIx
  generalize e : x.val = v at h
  cases v <;> cases h <;> (dsimp only; rw [hy]; exact ⟨d, e1, q d e2 e3⟩)
theorem mk_imm {b : Bool} {d : PD} (h : imm d = true) : mk b d = .cl d := by
  unfold mk; rw [h]; simp
theorem mkL_imm {b : Bool} {ds : List PD} (h : immAll ds = true) : mkL b ds = .fr (.ls (ds.map .lf)) := by
  unfold mkL; rw [h]; simp
theorem immAll_mem {ds : List PD} (h : immAll ds = true) {d : PD} (m : d ∈ ds) : imm d = true := by
  induction ds with
  | nil => cases m
  | cons e ds ih =>
    have h : (imm e && immAll ds) = true := h
    rw [Bool.and_eq_true] at h
    cases m with
    | head => exact h.1
    | tail _ m => exact ih h.2 m
theorem retR_imm {b : Bool} {d : PD} (h : imm d = true) : retR b (.cl d) = .cl d := by
  unfold retR
  split
  · exact mk_imm h
  · rfl
theorem cd_draw {i : Nat} {n : Int} {Q : Rv → Prop} (h0 : 0 < n) (h1 : n < 1073741824) (q : ∀ r : Int, 0 ≤ r → r < n → Q (.cl (.int r))) : callD ctDraw [.ws i, .cl (.int n)] Q :=
  ⟨(List.nodup_cons.mpr ⟨(fun m => nomatch m), List.nodup_nil⟩ : ([i] : List Nat).Nodup), rfl, n, rfl, h0, h1, fun r r0 r1 _ => q r r0 r1⟩
def ctPickG : Ct := ctOf (α := SV × PD × List PD) (fun a => [.wl, a.1]) (fun a => slv a.1 = some a.2.1 ∧ seqOf a.2.1 = some a.2.2 ∧ 0 < a.2.2.length ∧ a.2.2.length < 1073741824) fun a Q => ∀ d ∈ a.2.2, Q (.cl d)
theorem cd_well {ns : List Int} {Q : Rv → Prop} (h : ns.length ≤ 63) (q : Q .wl) : callD ctWell [.sc ns] Q := ⟨List.nodup_nil, rfl, ns, rfl, h, fun _ => q⟩
theorem t_addI {i j : Int} {Q : Rv → Prop} (q : Q (.cl (.int (i + j)))) : oAdd (.cl (.int i)) (.cl (.int j)) Q := q
theorem t_mulI {i j : Int} {Q : Rv → Prop} (h : CMul i j) (q : Q (.cl (.int (i * j)))) : oMul (.cl (.int i)) (.cl (.int j)) Q := ⟨h, q⟩
theorem t_intI {i : Int} {Q : Rv → Prop} (q : Q (.cl (.int i))) : bInt (.cl (.int i)) Q := q
theorem t_intB {b : Bool} {Q : Rv → Prop} (q : Q (.cl (.int (if b then 1 else 0)))) : bInt (.cl (.bool b)) Q := q
theorem t_ixC {x y : Rv} {ds : List PD} {i : Int} {d : PD} {Q : Rv → Prop} (h : seqOf x.val = some ds) (hy : y.val = .int i) (e : atI ds i = some d) (q : Q (mk x.soft d)) : oIxX x y Q := by
  unfold oIxX oIx
  generalize ex : x.val = v at h
  cases v <;> cases h <;> (dsimp only; rw [hy]; exact ⟨d, e, q⟩)
theorem t_it {x : Rv} {ds : List PD} {Q : Bool → List PD → Prop} (h : seqOf x.val = some ds) (q : Q x.soft ds) : itAny x Q := by
  unfold itAny
  generalize ex : x.val = v at h
  cases v <;> cases h <;> exact q
theorem t_tuple {x : Rv} {ds : List PD} {Q : Rv → Prop} (h : seqOf x.val = some ds) (q : Q (mk x.soft (.tuple ds))) : bTuple x Q := by
  unfold bTuple
  generalize ex : x.val = v at h
  cases v <;> cases h <;> exact q
theorem t_ite {A B : Prop} {b : Bool} (h1 : b = true → A) (h2 : b = false → B) : if b = true then A else B := by
  cases b with
  | true => rw [if_pos rfl]; exact h1 rfl
  | false => rw [if_neg (by simp)]; exact h2 rfl
theorem t_iteT {A B : Prop} {b : Bool} (h : b = true) (h1 : A) : if b = true then A else B := by rw [if_pos h]; exact h1
theorem t_iteF {A B : Prop} {b : Bool} (h : b = false) (h1 : B) : if b = true then A else B := by rw [if_neg (by rw [h]; simp)]; exact h1
theorem t_isB {b : Bool} {Q : Bool → Prop} (q : Q b) : isB (.cl (.bool b)) Q := ⟨b, rfl, q⟩
theorem forT_by {pat : Pat} {tb : TDs} {D : DEnds} (I : List PD → List SV → Prop) (h0 : ∀ ρ, I [] ρ → D.nx ρ) (h1 : ∀ d ds ρ (N : List SV → Prop), I (d :: ds) ρ → (∀ ρ', I ds ρ' → N ρ') → ∃ ρ1, bindP pat d ρ = some ρ1 ∧ tb { D with nx := N, ct := N, bk := D.nx } ρ1) : ∀ ds ρ, I ds ρ → forT pat tb ds D ρ
  | [], ρ, h => h0 ρ h
  | d :: ds, ρ, h => h1 d ds ρ _ h fun ρ' h' => forT_by I h0 h1 ds ρ' h'
theorem lcD_by {pat : Pat} {u : TDt} {t : TD} {ρb : List SV} {Q : List Rv → Prop} (I : List PD → List Rv → Prop) (h0 : ∀ acc, I [] acc → Q acc)
    (h1 : ∀ d ds acc (N : List Rv → Prop), I (d :: ds) acc → (∀ acc', I ds acc' → N acc') → ∃ ρ1, bindP pat d ρb = some ρ1 ∧ u ρ1 fun b => if b = true then t ρ1 fun r => (r.data = true ∧ r.soft = false ∧ acc.length < sizeLine) ∧ N (acc ++ [r]) else N acc) : ∀ ds acc, I ds acc → lcD pat u t ρb ds acc Q
  | [], acc, h => h0 acc h
  | d :: ds, acc, h => h1 d ds acc _ h fun ρ' h' => lcD_by I h0 h1 ds ρ' h'
/-- a comprehension that tells one thing of each item -/
theorem lcD_map {pat : Pat} {u : TDt} {t : TD} {ρb : List SV} {Q : List Rv → Prop} (p : PD → Bool) (f : PD → PD) (ds : List PD) (hl : ds.length ≤ sizeLine) (q : Q ((ds.filter p).map fun d => .cl (f d)))
    (h1 : ∀ d ∈ ds, ∃ ρ1, bindP pat d ρb = some ρ1 ∧ ∀ N : Bool → Prop, (∀ b, b = p d → (b = true → ∀ M : Rv → Prop, M (.cl (f d)) → t ρ1 M) → N b) → u ρ1 N) : lcD pat u t ρb ds [] Q := by
  refine lcD_by (fun es acc => ∃ pre, ds = pre ++ es ∧ acc = (pre.filter p).map fun d => .cl (f d)) (fun acc h => ?_) (fun d es acc N h k => ?_) ds [] ⟨[], rfl, rfl⟩
  · obtain ⟨pre, e, rfl⟩ := h
    rw [List.append_nil] at e
    subst e
    exact q
  · obtain ⟨pre, e, rfl⟩ := h
    subst e
    obtain ⟨ρ1, b1, b2⟩ := h1 d (List.mem_append_right _ List.mem_cons_self)
    refine ⟨ρ1, b1, b2 _ fun b eb ht => ?_⟩
    subst eb
    refine t_ite (fun pd => ht pd _ ⟨⟨rfl, rfl, ?_⟩, k _ ⟨pre ++ [d], by simp, ?_⟩⟩) fun pd => k _ ⟨pre ++ [d], by simp, ?_⟩
    · have := List.length_filter_le p pre
      rw [List.length_map]
      rw [List.length_append, List.length_cons] at hl
      omega
    · rw [List.filter_append, List.map_append]
      simp [pd]
    · rw [List.filter_append]
      simp [pd]
theorem intL_val : ∀ cs : List Int, ODvals (intL cs) = cs.map .int
  | [] => rfl
  | c :: cs => by
    show .int c :: ODvals (intL cs) = _
    rw [intL_val cs]; rfl
theorem mk_val {b : Bool} {d : PD} : (mk b d).val = d := by
  unfold mk; split <;> rfl
theorem mk_data {b : Bool} {d : PD} : (mk b d).data = true := by
  unfold mk; split <;> rfl
theorem vals_lf : ∀ ds : List PD, ODvals (ds.map OD.lf) = ds
  | [] => rfl
  | d :: ds => by
    show d :: ODvals (ds.map OD.lf) = _
    rw [vals_lf ds]
theorem depthAll_le {n : Nat} : ∀ ds : List PD, (∀ d ∈ ds, d.depth ≤ n) → PyData.depthAll ds ≤ n
  | [], _ => Nat.zero_le _
  | d :: ds, h => Nat.max_le.mpr ⟨h d List.mem_cons_self, depthAll_le ds fun e m => h e (List.mem_cons_of_mem _ m)⟩
theorem lay0_all : ∀ ds : List PD, (∀ d ∈ ds, d.canLay0 = true) → PyData.canLayAll0 ds = true
  | [], _ => rfl
  | d :: ds, h => by
    unfold PyData.canLayAll0
    rw [h d List.mem_cons_self, lay0_all ds fun e m => h e (List.mem_cons_of_mem _ m)]; rfl
theorem shaped_list {ds : List PD} {n : Nat} (h : ∀ d ∈ ds, d.canLay0 = true ∧ d.depth ≤ n) (hn : n ≤ 63) : SeqAt.shaped (.list ds) = true := by
  have h1 := lay0_all ds fun d m => (h d m).1
  have h2 := depthAll_le ds fun d m => (h d m).2
  unfold SeqAt.shaped PyData.canLay0 PyData.depth
  rw [h1, Bool.true_and, decide_eq_true_iff]
  omega
theorem shaped_ints (cs : List Int) : SeqAt.shaped (.list (cs.map .int)) = true := shaped_list (n := 0) (fun d m => by
  obtain ⟨c, _, rfl⟩ := List.mem_map.mp m
  exact ⟨by unfold PyData.canLay0; rfl, by unfold PyData.depth; exact Nat.le_refl _⟩) (by decide)
theorem atI_0 {α : Type} {x : α} {xs : List α} : atI (x :: xs) 0 = some x := atI_nat (j := 0) rfl
theorem atI_1 {α : Type} {x y : α} {xs : List α} : atI (x :: y :: xs) 1 = some y := atI_nat (j := 1) rfl
theorem atI_2 {α : Type} {x y z : α} {xs : List α} : atI (x :: y :: z :: xs) 2 = some z := atI_nat (j := 2) rfl
theorem ixN_0 {n : Nat} : ixN (n + 1) 0 = some 0 := by
  unfold ixN
  rw [if_pos (by decide), if_pos (by omega)]; rfl
theorem t_ixM {x y : Rv} {ds : List PD} {i : Int} {d : PD} {Q : Rv → Prop} (h : seqOf x.val = some ds) (hy : y.val = .int i) (e : atI ds i = some d) (hi : imm d = true) (q : Q (.cl d)) : oIxX x y Q := t_ixC h hy e (by rw [mk_imm hi]; exact q)
theorem seqIndex_0 {n : Nat} : seqIndex? 0 (n + 1) = some 0 := (ixN_seq ixN_0).1
theorem t_slSc {ns : List Int} {lo hi : Option Int} {Q : Rv → Prop} (q : Q (.fr (.ls (intL (cut ns lo hi))))) : oSl (.sc ns) lo hi Q := q
theorem t_lenSc {ns : List Int} {Q : Rv → Prop} (q : Q (.cl (.int ns.length))) : bLenX (.sc ns) Q := ⟨_, rfl, q⟩
theorem seq_intL (cs : List Int) : seqOf (Rv.fr (.ls (intL cs))).val = some (cs.map .int) := congrArg some (intL_val cs)
theorem bind_nm {i : Nat} {d : PD} {ρ : List SV} (h : slotFree ρ i = true) : bindP (.nm i) d ρ = some (ρ.set i (.sh d)) := by
  unfold bindP; rw [if_pos h]
def allInt (ds : List PD) : Prop := ∀ d ∈ ds, ∃ c : Int, d = .int c
theorem allInt_map (zs : List Int) : allInt (zs.map .int) := fun d m => by
  obtain ⟨c, _, rfl⟩ := List.mem_map.mp m
  exact ⟨c, rfl⟩
theorem allInt.hd {d : PD} {ds : List PD} (h : allInt (d :: ds)) : ∃ c : Int, d = .int c := h d List.mem_cons_self
theorem allInt.tl {d : PD} {ds : List PD} (h : allInt (d :: ds)) : allInt ds := fun e m => h e (List.mem_cons_of_mem _ m)
theorem cut_len {α : Type} {xs : List α} {lo hi : Option Int} : (cut xs lo hi).length ≤ xs.length := by
  unfold cut
  rw [List.length_take, List.length_drop]
  omega
/-- what a comprehension has of ints -/
def IntAcc (acc : List Rv) : Prop := ∃ zs : List Int, acc.map partO = intL zs ∧ acc.all immRv = true
theorem IntAcc.nil : IntAcc [] := ⟨[], rfl, rfl⟩
theorem IntAcc.add {acc : List Rv} {z : Int} (h : IntAcc acc) : IntAcc (acc ++ [.cl (.int z)]) := by
  obtain ⟨zs, e, e2⟩ := h
  refine ⟨zs ++ [z], ?_, ?_⟩
  · rw [List.map_append, e]
    unfold intL
    rw [List.map_append]; rfl
  · rw [List.all_append, e2]; rfl
theorem IntAcc.allInt {acc : List Rv} (h : IntAcc acc) : allInt (ODvals (acc.map partO)) := by
  obtain ⟨zs, e, _⟩ := h
  rw [e, intL_val]
  exact allInt_map zs
theorem dop_neS {X : Cx} {P : Par} : DOp X P (compareOp .NotEq) (fun x y Q => ∃ i j, x.val = .str i ∧ y.val = .str j ∧ Q (.cl (.bool (!decide (i = j))))) :=
  dop_strs0 (g := fun i j => .bool (!decide (i = j))) (gv := fun i j => .bl (!decide (i = j))) (fun pins s σ H x y v u Q I rx ry h => by
    obtain ⟨i, j, rfl, rfl, q⟩ := h
    refine op_ne pins s σ H _ _ v u Q I rx ry ⟨rfl, ?_⟩
    have e : decide (V.str i = V.str j) = decide (i = j) := by simp
    first | (rw [e]; exact q) | simpa using q) fun _ _ _ => .bl _
end Rz
namespace Rz
open PySem PySem.Spec PyProof.Rows L2
def nats (ds : List Nat) : List PD := ds.map fun i : Nat => PyData.int (Int.ofNat i)
theorem rngD_01 (n : Nat) : rngD 0 1 n = nats (List.range n) := by
  unfold rngD nats
  congr 1
  funext i
  rw [Int.zero_add, Int.mul_one]
  rfl
theorem nats_imm : ∀ ds : List Nat, immAll (nats ds) = true
  | [] => rfl
  | d :: ds => by
    show (true && immAll (nats ds)) = true
    rw [nats_imm ds]; rfl
theorem nats_len (ds : List Nat) : (nats ds).length = ds.length := List.length_map _
structure Cal where
  first : Nat
  length : Nat
  hols : List Nat
structure CalOk (most : Int) (c : Cal) : Prop where
  f7 : c.first < 7
  l0 : 0 < c.length
  l1 : (c.length : Int) ≤ most
  hs : c.hols.Sublist (List.range c.length)
def calD (c : Cal) : PD := .tuple [.int c.first, .int c.length, .tuple (nats c.hols)]
theorem smallI_of {i : Int} (h0 : 0 ≤ i) (h1 : i < 1073741824) : smallI i := ⟨by omega, by omega⟩
theorem mkC_cl {b : Bool} {es : List PD} {f : PD → PD} (h : immAll (es.map f) = true) : mkC b (es.map fun d => .cl (f d)) = .fr (.ls ((es.map f).map .lf)) := by
  have e : ∀ es : List PD, immAll (es.map f) = true → (es.map fun d => Rv.cl (f d)).all immRv = true := fun es => by
    induction es with
    | nil => exact fun _ => rfl
    | cons d es ih =>
      intro h
      have h : (imm (f d) && immAll (es.map f)) = true := h
      rw [Bool.and_eq_true] at h
      show (imm (f d) && (es.map fun d => Rv.cl (f d)).all immRv) = true
      rw [h.1, ih h.2]; rfl
  unfold mkC
  rw [e es h]
  simp only [Bool.not_true, Bool.and_false, Bool.false_eq_true, if_false, List.map_map]
  rfl
theorem sz_of {n : Nat} (h : n ≤ 16777216) : n ≤ sizeLine := Nat.le_trans h (by decide)
theorem imm_tup {ds : List PD} (h : immAll ds = true) : imm (.tuple ds) = true := h
theorem sz_c {n : Nat} (h : Nat.ble n 16777216 = true) : n ≤ sizeLine := sz_of (Nat.le_of_ble_eq_true h)
theorem lt_c {n m : Nat} (h : Nat.ble (n + 1) m = true) : n < m := Nat.le_of_ble_eq_true h
def upN (a b c : Int) : Nat := if a < b then ((b - a - 1) / c + 1).toNat else 0
theorem rgc_up {a b c : Int} (c0 : 0 < c) (c1 : c < 1073741824) (a0 : 0 ≤ a) (a1 : a < 1073741824) (b0 : 0 ≤ b) (b1 : b < 1073741824) : RgC a b c (upN a b c) := by
  have q0 : a < b → 0 ≤ (b - a - 1) / c ∧ (b - a - 1) / c ≤ b - a - 1 := fun h => ⟨Int.ediv_nonneg (by omega) (by omega), Int.ediv_le_self _ (by omega)⟩
  have es : Builtin.Range.rangeSize a b c = (upN a b c : Nat) := by
    unfold Builtin.Range.rangeSize upN
    rw [if_pos (show c > 0 from c0)]
    split
    · rename_i h; have := q0 h; omega
    · rfl
  refine ⟨by omega, by omega, ?_, es⟩
  unfold Builtin.Range.small
  rw [es]
  have eu : upN a b c ≤ 1073741824 := by
    unfold upN
    split
    · rename_i h; have := q0 h; omega
    · omega
  simp only [Builtin.Range.rangeFitsLong, Bool.and_eq_true, Bool.or_eq_true, decide_eq_true_eq, beq_iff_eq, show c > 0 from c0, if_true]
  refine ⟨?_, ?_⟩ <;> first | omega | (split <;> omega)
theorem eqvI {i j : Int} : PyData.eqv (.int i) (.int j) = (i == j) := by
  unfold PyData.eqv; rfl
abbrev Cll := Str × Int
def cllD (c : Cll) : PD := .tuple [.str c.1, .int c.2]
def stations : List Str := ["abel", "b", "corsenhalden", "dorn", "ez"]
structure CallsOk (most : Int) (cs : List Cll) : Prop where
  l0 : 0 < cs.length
  l1 : (cs.length : Int) ≤ most
  nm : ∀ c ∈ cs, c.1 ∈ stations
  m0 : ∀ c ∈ cs, 0 ≤ c.2 ∧ c.2 ≤ 1390 + 229 * cs.length
  asc : (cs.map (·.2)).Pairwise (· < ·)
structure Trn where
  number : Int
  days : List Nat
  calls : List Cll
def trnD (t : Trn) : PD := .tuple [.int t.number, .tuple (nats t.days), .tuple (t.calls.map cllD)]
structure Pln where
  cal : Cal
  trains : List Trn
def plnD (p : Pln) : PD := .tuple [calD p.cal, .tuple (p.trains.map trnD)]
theorem clls_imm : ∀ cs : List Cll, immAll (cs.map cllD) = true
  | [] => rfl
  | c :: cs => by
    show ((true && (true && true)) && immAll (cs.map cllD)) = true
    rw [clls_imm cs]; rfl
theorem imm_trn (t : Trn) : imm (trnD t) = true := by
  show (true && (immAll (nats t.days) && (immAll (t.calls.map cllD) && true))) = true
  rw [nats_imm, clls_imm]; rfl
theorem trns_imm : ∀ ts : List Trn, immAll (ts.map trnD) = true
  | [] => rfl
  | t :: ts => by
    show (imm (trnD t) && immAll (ts.map trnD)) = true
    rw [imm_trn, trns_imm ts]; rfl
end Rz
namespace Rz
open PySem PySem.Spec PyProof.Rows L2
mutual
theorem alike_eq : ∀ x y : PD, PySem.W.alike x y = true → PyData.eqv x y = true → x = y
  | .none, .none, _, _ => rfl
  | .bool a, .bool b, _, h => by unfold PyData.eqv at h; rw [beq_iff_eq] at h; rw [h]
  | .int a, .int b, _, h => by unfold PyData.eqv at h; rw [beq_iff_eq] at h; rw [h]
  | .str a, .str b, _, h => by unfold PyData.eqv at h; rw [beq_iff_eq] at h; rw [h]
  | .list xs, .list ys, a, h => by
    unfold PyData.eqv at h
    unfold PySem.W.alike at a
    rw [alikeAll_eq xs ys a h]
  | .tuple xs, .tuple ys, a, h => by
    unfold PyData.eqv at h
    unfold PySem.W.alike at a
    rw [alikeAll_eq xs ys a h]
  | .none, .bool _, a, _ | .none, .int _, a, _ | .none, .str _, a, _ | .none, .list _, a, _ | .none, .tuple _, a, _ | .none, .dict _, a, _ => by simp [PySem.W.alike] at a
  | .bool _, .none, a, _ | .bool _, .int _, a, _ | .bool _, .str _, a, _ | .bool _, .list _, a, _ | .bool _, .tuple _, a, _ | .bool _, .dict _, a, _ => by simp [PySem.W.alike] at a
  | .int _, .none, a, _ | .int _, .bool _, a, _ | .int _, .str _, a, _ | .int _, .list _, a, _ | .int _, .tuple _, a, _ | .int _, .dict _, a, _ => by simp [PySem.W.alike] at a
  | .str _, .none, a, _ | .str _, .bool _, a, _ | .str _, .int _, a, _ | .str _, .list _, a, _ | .str _, .tuple _, a, _ | .str _, .dict _, a, _ => by simp [PySem.W.alike] at a
  | .list _, .none, a, _ | .list _, .bool _, a, _ | .list _, .int _, a, _ | .list _, .str _, a, _ | .list _, .tuple _, a, _ | .list _, .dict _, a, _ => by simp [PySem.W.alike] at a
  | .tuple _, .none, a, _ | .tuple _, .bool _, a, _ | .tuple _, .int _, a, _ | .tuple _, .str _, a, _ | .tuple _, .list _, a, _ | .tuple _, .dict _, a, _ => by simp [PySem.W.alike] at a
  | .dict _, y, _, h => by cases y <;> simp [PyData.eqv] at h
theorem alikeAll_eq : ∀ xs ys : List PD, PySem.W.alikeAll xs ys = true → PyData.eqvAll xs ys = true → xs = ys
  | [], [], _, _ => rfl
  | x :: xs, y :: ys, a, h => by
    unfold PyData.eqvAll at h
    unfold PySem.W.alikeAll at a
    rw [Bool.and_eq_true] at a h
    rw [alike_eq x y a.1 h.1, alikeAll_eq xs ys a.2 h.2]
  | [], _ :: _, _, h => by simp [PyData.eqvAll] at h
  | _ :: _, [], _, h => by simp [PyData.eqvAll] at h
end
theorem toks_inj {x y : PD} (a : PySem.W.alike x y = true) (e : PySem.W.keyToks x = PySem.W.keyToks y) : x = y := by
  refine alike_eq x y a ?_
  cases h : PyData.eqv x y with
  | true => rfl
  | false =>
    have q := (PySem.W.toks_eqv x y a).2 h [] [.inl 0]
    rw [← e, PySem.W.lex_pre] at q
    have z : PyProof.Rows.lexLt itemOrd (PySem.W.keyToks x) (PySem.W.keyToks x) = false := PyProof.Rows.lex_irrefl _
    rw [z] at q
    cases q
theorem dataLe_anti {x y : PD} (a : PySem.W.alike x y = true) (h1 : PySem.W.dataLe false id x y = true) (h2 : PySem.W.dataLe false id y x = true) : x = y := by
  rw [PySem.W.dataLe_eq] at h1 h2
  simp only [cond_false, id, Bool.not_eq_true'] at h1 h2
  exact toks_inj a ((listOrd itemOrd).total _ _ h2 h1)
theorem sortD_sorted (ds : List PD) : (sortD ds).Pairwise fun a b => PySem.W.dataLe false id a b = true := PySem.W.sort_pairwise (PySem.W.sortLe_total _ _ _) ds
theorem sortD_perm {a b : List PD} (h : a.Perm b) (al : PySem.W.AllAlike a) : sortD a = sortD b := by
  refine List.Perm.eq_of_pairwise (le := fun x y => PySem.W.dataLe false id x y = true) (fun x y mx my h1 h2 => ?_) (sortD_sorted a) (sortD_sorted b) ((List.mergeSort_perm a _).trans (h.trans (List.mergeSort_perm b _).symm))
  have m1 : x ∈ a := (List.mergeSort_perm a _).mem_iff.mp mx
  have m2 : y ∈ a := h.mem_iff.mpr ((List.mergeSort_perm b _).mem_iff.mp my)
  exact dataLe_anti (al x m1 y m2) h1 h2
theorem sortD_mem {ds : List PD} {d : PD} : d ∈ sortD ds ↔ d ∈ ds := (List.mergeSort_perm ds _).mem_iff
theorem sortD_len (ds : List PD) : (sortD ds).length = ds.length := List.length_mergeSort _
end Rz
namespace Rz
open PySem PySem.Spec PyProof.Rows L2
def addN (ks : List Str) (x : Str) : List Str := if x ∈ ks then ks else ks ++ [x]
def txts (ks : List Str) : List PD := ks.map .str
def dictOf {α : Type} (ks : List Str) (f : Str → α) : List (PD × α) := ks.map fun x => (.str x, f x)
theorem sameK_str (a b : Str) : sameK (.str a) (.str b) = decide (a = b) := by
  unfold sameK keyOf
  by_cases h : a = b
  · subst h; simp
  · have : ¬ (some (NestedKey.text a) = some (NestedKey.text b)) := fun e => h (by cases e; rfl)
    simp [h, this]
theorem dict_keys {α : Type} (ks : List Str) (f : Str → α) : (dictOf ks f).map (·.1) = txts ks := by
  unfold dictOf txts
  rw [List.map_map]; rfl
theorem dict_any {α : Type} (ks : List Str) (f : Str → α) (x : Str) : ((dictOf ks f).any fun kv => sameK kv.1 (.str x)) = decide (x ∈ ks) := by
  unfold dictOf
  induction ks with
  | nil => rfl
  | cons k ks ih =>
    rw [List.map_cons, List.any_cons, ih, sameK_str]
    by_cases h : k = x
    · subst h; simp
    · have h' : x ≠ k := fun e => h e.symm
      simp [h, h']
theorem dict_put {α : Type} (ks : List Str) (f : Str → α) (x : Str) (v : α) : putG (dictOf ks f) (.str x) v = dictOf (addN ks x) (fun y => if y = x then v else f y) := by
  unfold putG addN
  rw [dict_any]
  by_cases h : x ∈ ks
  · rw [if_pos (decide_eq_true h), if_pos h]
    unfold dictOf
    rw [List.map_map]
    refine List.map_congr_left fun y _ => ?_
    show (if sameK (.str y) (.str x) = true then (PyData.str y, v) else (PyData.str y, f y)) = _
    rw [sameK_str]
    by_cases e : y = x
    · subst e; simp
    · simp [e]
  · rw [if_neg (by simpa using h), if_neg h]
    unfold dictOf
    rw [List.map_append]
    refine congr (congrArg _ (List.map_congr_left fun y my => ?_)) ?_
    · have e : y ≠ x := fun e => h (e ▸ my)
      show _ = (PyData.str y, if y = x then v else f y)
      rw [if_neg e]
    · simp
theorem dict_fit (ks : List Str) (x : Str) : fitK (txts ks) (.str x) = true := by
  unfold fitK txts
  have : (ks.map PyData.str).all (fun k => (keyF k).isSome) = true := by
    rw [List.all_eq_true]
    intro d m
    obtain ⟨y, _, rfl⟩ := List.mem_map.mp m
    rfl
  rw [this]; rfl
theorem dict_len {α : Type} (ks : List Str) (f : Str → α) : (dictOf ks f).length = ks.length := List.length_map _
theorem addN_len (ks : List Str) (x : Str) : (addN ks x).length ≤ ks.length + 1 := by
  unfold addN
  split
  · omega
  · rw [List.length_append]; exact Nat.le_refl _
theorem valsE_dict (ks : List Str) (f : Str → OD) : ODvalsE (dictOf ks f) = dictOf ks fun x => (f x).val := by
  unfold dictOf
  induction ks with
  | nil => rfl
  | cons k ks ih => rw [List.map_cons, List.map_cons, ← ih]; rfl
theorem txts_imm : ∀ ks : List Str, immAll (txts ks) = true
  | [] => rfl
  | k :: ks => by
    show (true && immAll (txts ks)) = true
    rw [txts_imm ks]; rfl
theorem txts_sort (ks : List Str) : sortOk (txts ks) := by
  refine ⟨fun d m e n => ?_, .inr fun d m => ?_, fun d m => ?_⟩
  · obtain ⟨y, _, rfl⟩ := List.mem_map.mp m
    obtain ⟨z, _, rfl⟩ := List.mem_map.mp n
    unfold PySem.W.alike; rfl
  · obtain ⟨y, _, rfl⟩ := List.mem_map.mp m
    exact ⟨fun h => (by cases h), fun xs h => (by cases h)⟩
  · obtain ⟨y, _, rfl⟩ := List.mem_map.mp m
    unfold PyData.depth; exact Nat.zero_le _
theorem sort_imm {ds : List PD} (h : immAll ds = true) : immAll (sortD ds) = true := by
  have e : ∀ es : List PD, (∀ d ∈ es, imm d = true) → immAll es = true := fun es => by
    induction es with
    | nil => exact fun _ => rfl
    | cons d es ih =>
      intro q
      show (imm d && immAll es) = true
      rw [q d List.mem_cons_self, ih fun x m => q x (List.mem_cons_of_mem _ m)]; rfl
  exact e _ fun d m => immAll_mem h (sortD_mem.mp m)
theorem t_sorted {x : Rv} {ds : List PD} {Q : Rv → Prop} (h : seqOf x.val = some ds) (ok : sortOk ds) (hi : immAll ds = true) (q : Q (.fr (.ls ((sortD ds).map .lf)))) : bSortedX x Q := by
  rw [← mkL_imm (b := x.soft) (sort_imm hi)] at q
  unfold bSortedX
  generalize ex : x.val = v at h
  cases v <;> cases h <;> exact ⟨ok, q⟩
theorem t_listD {x : Rv} {kvs : List (PD × PD)} {ds : List PD} {Q : Rv → Prop} (h : x.val = .dict kvs) (e : kvs.map (·.1) = ds) (hi : immAll ds = true) (q : Q (.fr (.ls (ds.map .lf)))) : bListX x Q := by
  unfold bListX
  rw [h]
  refine ⟨isIns_imm (by rw [e]; exact hi), ?_⟩
  rw [e, mkL_imm hi]
  exact q
theorem free_set {ρ : List SV} {i j : Nat} {d : PD} (h : slotFree ρ j = true) : slotFree (ρ.set i (.sh d)) j = true := by
  unfold slotFree at h ⊢
  by_cases e : i = j
  · subst e
    cases q : ρ[i]? with
    | none => rw [q] at h; cases h
    | some s => rw [List.getElem?_set_self (List.getElem?_eq_some_iff.mp q).1]
  · rw [List.getElem?_set_ne e]; exact h
theorem bind_cons {i : Nat} {d : PD} {ρ : List SV} {ps : List Pat} {ds : List PD} (h : slotFree ρ i = true) : bindPs (.nm i :: ps) (d :: ds) ρ = bindPs ps ds (ρ.set i (.sh d)) := by
  rw [bindPs, bind_nm h]; rfl
theorem bind_2 {i j : Nat} {a b : PD} {ρ : List SV} (hi : slotFree ρ i = true) (hj : slotFree ρ j = true) : bindP (.tp [.nm i, .nm j]) (.tuple [a, b]) ρ = some ((ρ.set i (.sh a)).set j (.sh b)) := by
  rw [bindP, bind_cons hi, bind_cons (free_set hj)]; rfl
theorem bind_3 {i j k : Nat} {a b c : PD} {ρ : List SV} (hi : slotFree ρ i = true) (hj : slotFree ρ j = true) (hk : slotFree ρ k = true) : bindP (.tp [.nm i, .nm j, .nm k]) (.tuple [a, b, c]) ρ = some (((ρ.set i (.sh a)).set j (.sh b)).set k (.sh c)) := by
  rw [bindP, bind_cons hi, bind_cons (free_set hj), bind_cons (free_set (free_set hk))]; rfl
def namesC (ks : List Str) (cs : List Cll) : List Str := cs.foldl (fun ks c => addN ks c.1) ks
def namesT (ks : List Str) (ts : List Trn) : List Str := ts.foldl (fun ks t => namesC ks t.calls) ks
def namesOf (p : Pln) : List Str := namesT [] p.trains
def manyC (ts : List Trn) : Nat := (ts.map fun t => t.calls.length).sum
theorem namesC_add (ks : List Str) (cs : List Cll) (c : Cll) : namesC ks (cs ++ [c]) = addN (namesC ks cs) c.1 := by
  unfold namesC; rw [List.foldl_append]; rfl
theorem namesT_add (ks : List Str) (ts : List Trn) (t : Trn) : namesT ks (ts ++ [t]) = namesC (namesT ks ts) t.calls := by
  unfold namesT; rw [List.foldl_append]; rfl
theorem namesC_len : ∀ (cs : List Cll) (ks : List Str), (namesC ks cs).length ≤ ks.length + cs.length
  | [], ks => Nat.le_refl _
  | c :: cs, ks => by
    have h1 := namesC_len cs (addN ks c.1)
    have h2 := addN_len ks c.1
    show (namesC (addN ks c.1) cs).length ≤ ks.length + (cs.length + 1)
    omega
theorem namesT_len : ∀ (ts : List Trn) (ks : List Str), (namesT ks ts).length ≤ ks.length + manyC ts
  | [], ks => Nat.le_refl _
  | t :: ts, ks => by
    have h1 := namesT_len ts (namesC ks t.calls)
    have h2 := namesC_len t.calls ks
    show (namesT (namesC ks t.calls) ts).length ≤ ks.length + manyC (t :: ts)
    have : manyC (t :: ts) = t.calls.length + manyC ts := by unfold manyC; rw [List.map_cons, List.sum_cons]
    omega
def ctStations : Ct := ctOf (α := Pln) (fun p => [.sh (plnD p)]) (fun p => manyC p.trains < 1000000) fun p Q => Q (.cl (.tuple (sortD (txts (namesOf p)))))
theorem dict_putC {α : Type} (ks : List Str) (x : Str) (v : α) : putG (dictOf ks fun _ => v) (.str x) v = dictOf (addN ks x) fun _ => v := by
  rw [dict_put]
  congr 1
  funext y
  split <;> rfl
theorem manyC_mid (a : List Trn) (t : Trn) (b : List Trn) : manyC (a ++ t :: b) = manyC a + t.calls.length + manyC b := by
  unfold manyC
  rw [List.map_append, List.sum_append, List.map_cons, List.sum_cons]
  omega
abbrev Hit := Int × Int × Int
def hitD (h : Hit) : PD := .tuple [.int h.1, .int h.2.1, .int h.2.2]
def hitsC (x : Str) (num : Int) : Int → List Cll → List Hit
  | _, [] => []
  | k, c :: cs => if c.1 = x then (c.2, num, k) :: hitsC x num (k + 1) cs else hitsC x num (k + 1) cs
def hitsT (x : Str) (ts : List Trn) : List Hit := ts.flatMap fun t => hitsC x t.number 0 t.calls
theorem hits_imm : ∀ hs : List Hit, immAll (hs.map hitD) = true
  | [] => rfl
  | h :: hs => by
    show ((true && (true && (true && true))) && immAll (hs.map hitD)) = true
    rw [hits_imm hs]; rfl
theorem hits_sort (hs : List Hit) : sortOk (hs.map hitD) := by
  refine ⟨fun d m e n => ?_, .inl fun d m => ?_, fun d m => ?_⟩
  · obtain ⟨y, _, rfl⟩ := List.mem_map.mp m
    obtain ⟨z, _, rfl⟩ := List.mem_map.mp n
    simp [hitD, PySem.W.alike, PySem.W.alikeAll]
  · obtain ⟨y, _, rfl⟩ := List.mem_map.mp m
    exact ⟨_, _, rfl⟩
  · obtain ⟨y, _, rfl⟩ := List.mem_map.mp m
    simp [hitD, PyData.depth, PyData.depthAll]
theorem hitsC_add (x : Str) (num : Int) (c : Cll) : ∀ (cs : List Cll) (k : Int), hitsC x num k (cs ++ [c]) = hitsC x num k cs ++ if c.1 = x then [(c.2, num, k + cs.length)] else []
  | [], k => by
    show (if c.1 = x then _ else _) = _
    rw [List.length_nil]
    simp [hitsC]
  | d :: cs, k => by
    have ih := hitsC_add x num c cs (k + 1)
    have e : k + 1 + (cs.length : Int) = k + ((d :: cs).length : Int) := by rw [List.length_cons]; omega
    rw [e] at ih
    show (if d.1 = x then (d.2, num, k) :: hitsC x num (k + 1) (cs ++ [c]) else hitsC x num (k + 1) (cs ++ [c])) = (if d.1 = x then (d.2, num, k) :: hitsC x num (k + 1) cs else hitsC x num (k + 1) cs) ++ _
    rw [ih]
    split <;> rfl
theorem hitsC_len (x : Str) (num : Int) : ∀ (cs : List Cll) (k : Int), (hitsC x num k cs).length ≤ cs.length
  | [], _ => Nat.le_refl _
  | c :: cs, k => by
    have := hitsC_len x num cs (k + 1)
    unfold hitsC
    split
    · rw [List.length_cons, List.length_cons]; omega
    · rw [List.length_cons]; omega
theorem hitsT_len (x : Str) : ∀ ts : List Trn, (hitsT x ts).length ≤ manyC ts
  | [] => Nat.le_refl _
  | t :: ts => by
    have h1 := hitsC_len x t.number t.calls 0
    have h2 := hitsT_len x ts
    have h3 : manyC (t :: ts) = t.calls.length + manyC ts := by unfold manyC; rw [List.map_cons, List.sum_cons]
    unfold hitsT at h2 ⊢
    rw [List.flatMap_cons, List.length_append]
    omega
theorem hitsT_add (x : Str) (ts : List Trn) (t : Trn) : hitsT x (ts ++ [t]) = hitsT x ts ++ hitsC x t.number 0 t.calls := by
  unfold hitsT
  rw [List.flatMap_append, List.flatMap_cons, List.flatMap_nil, List.append_nil]
def ctCallsAt : Ct := ctOf (α := Pln × Str) (fun a => [.sh (plnD a.1), .sh (.str a.2)]) (fun a => manyC a.1.trains < 1000000 ∧ (∀ t ∈ a.1.trains, ∀ c ∈ t.calls, SeqAt.shaped (.str c.1) = true) ∧ SeqAt.shaped (.str a.2) = true) fun a Q => Q (.cl (.tuple (sortD ((hitsT a.2 a.1.trains).map hitD))))
theorem mkC_cl2 {α : Type} {b : Bool} {es : List α} {g : α → PD} (h : immAll (es.map g) = true) : mkC b (es.map fun d => .cl (g d)) = .fr (.ls ((es.map g).map .lf)) := by
  have q := mkC_cl (b := b) (es := es.map g) (f := id) (by rw [List.map_id]; exact h)
  rw [List.map_map, List.map_id] at q
  exact q
theorem eqvS {a b : Str} : PyData.eqv (.str a) (.str b) = (a == b) := by
  unfold PyData.eqv; rfl
theorem enumD_cons {k : Int} {d : PD} {ds : List PD} : enumD k (d :: ds) = .tuple [.int k, d] :: enumD (k + 1) ds := rfl
theorem addN_mem {ks : List Str} {x y : Str} : y ∈ addN ks x ↔ y ∈ ks ∨ y = x := by
  unfold addN
  split
  · rename_i h
    exact ⟨.inl, fun q => q.elim id fun e => e ▸ h⟩
  · rw [List.mem_append, List.mem_singleton]
theorem namesC_mem {y : Str} : ∀ (cs : List Cll) (ks : List Str), y ∈ namesC ks cs ↔ y ∈ ks ∨ ∃ c ∈ cs, c.1 = y
  | [], ks => by simp [namesC]
  | c :: cs, ks => by
    show y ∈ namesC (addN ks c.1) cs ↔ _
    rw [namesC_mem cs, addN_mem]
    simp only [List.mem_cons, exists_eq_or_imp]
    constructor
    · rintro ((h | h) | h)
      · exact .inl h
      · exact .inr (.inl h.symm)
      · exact .inr (.inr h)
    · rintro (h | h | h)
      · exact .inl (.inl h)
      · exact .inl (.inr h.symm)
      · exact .inr h
theorem namesT_mem {y : Str} : ∀ (ts : List Trn) (ks : List Str), y ∈ namesT ks ts ↔ y ∈ ks ∨ ∃ t ∈ ts, ∃ c ∈ t.calls, c.1 = y
  | [], ks => by simp [namesT]
  | t :: ts, ks => by
    show y ∈ namesT (namesC ks t.calls) ts ↔ _
    rw [namesT_mem ts, namesC_mem]
    simp only [List.mem_cons, exists_eq_or_imp]
    exact or_assoc
end Rz
namespace Rz
open PySem PySem.Spec PyProof.Rows L2
/-- depth k, weight n at most -/
structure Fit (k n : Nat) (d : PD) : Prop where
  lay : d.canLay0 = true
  dep : d.depth ≤ k
  ish : d.intsShort 13 = true
  shw : d.showable = true
  wgt : d.weight ≤ n
theorem Fit.mono {k n k' n' : Nat} {d : PD} (h : Fit k n d) (hk : k ≤ k') (hn : n ≤ n') : Fit k' n' d := ⟨h.lay, Nat.le_trans h.dep hk, h.ish, h.shw, Nat.le_trans h.wgt hn⟩
theorem Fit.shaped {k n : Nat} {d : PD} (h : Fit k n d) (hk : k ≤ 64) : SeqAt.shaped d = true := by
  unfold SeqAt.shaped
  rw [h.lay, Bool.true_and, decide_eq_true_iff]
  exact Nat.le_trans h.dep hk
theorem fit_int {i : Int} (h : i.natAbs < 10 ^ 12) : Fit 0 41 (.int i) := by
  have hl : i.natAbs.log2 < 40 := by
    by_cases h0 : i.natAbs = 0
    · rw [h0]; decide
    · rw [Nat.log2_lt h0]; omega
  refine ⟨by unfold PyData.canLay0; rfl, by unfold PyData.depth; exact Nat.le_refl _, ?_, ?_, ?_⟩
  · unfold PyData.intsShort; rw [decide_eq_true_iff]; exact PyData.shown_int_le h
  · unfold PyData.showable; rw [decide_eq_true_iff]; omega
  · unfold PyData.weight; split <;> omega
theorem fit_str {x : Str} (h : (PyData.str x).canLay0 = true) (n : Nat) (hn : x.cps.size ≤ n) : Fit 0 n (.str x) :=
  ⟨h, by unfold PyData.depth; exact Nat.le_refl _, by unfold PyData.intsShort; rfl, by unfold PyData.showable; rfl, by unfold PyData.weight; exact hn⟩
theorem fit_all {k n : Nat} : ∀ {ds : List PD}, (∀ d ∈ ds, Fit k n d) → PyData.canLayAll0 ds = true ∧ PyData.depthAll ds ≤ k ∧ PyData.intsShortAll 13 ds = true ∧ PyData.showableAll ds = true ∧ PyData.weightAll ds ≤ (n + 1) * ds.length
  | [], _ => ⟨by unfold PyData.canLayAll0; rfl, Nat.zero_le _, by unfold PyData.intsShortAll; rfl, by unfold PyData.showableAll; rfl, by unfold PyData.weightAll; exact Nat.zero_le _⟩
  | d :: ds, h => by
    obtain ⟨h1, h2, h3, h4, h5⟩ := fit_all fun e m => h e (List.mem_cons_of_mem _ m)
    obtain ⟨g1, g2, g3, g4, g5⟩ := h d List.mem_cons_self
    refine ⟨by unfold PyData.canLayAll0; rw [g1, h1]; rfl, by unfold PyData.depthAll; exact Nat.max_le.mpr ⟨g2, h2⟩, by unfold PyData.intsShortAll; rw [g3, h3]; rfl, by unfold PyData.showableAll; rw [g4, h4]; rfl, ?_⟩
    unfold PyData.weightAll
    rw [List.length_cons, Nat.mul_succ]
    omega
theorem fit_tup {k n : Nat} {ds : List PD} (h : ∀ d ∈ ds, Fit k n d) : Fit (k + 1) ((n + 1) * ds.length) (.tuple ds) := by
  obtain ⟨h1, h2, h3, h4, h5⟩ := fit_all h
  exact ⟨by unfold PyData.canLay0; exact h1, by unfold PyData.depth; omega, by unfold PyData.intsShort; exact h3, by unfold PyData.showable; exact h4, by unfold PyData.weight; exact h5⟩
theorem t_repr {x : Rv} {k n : Nat} {Q : Rv → Prop} (hd : x.data = true) (h : Fit k n x.val) (hk : k ≤ 64) (hn : n ≤ 1048576) (q : Q (.cl (.str x.val.shown))) : bRepr x Q :=
  ⟨hd, h.shw, PyData.hasDict_of_canLay _ h.lay, Nat.le_trans h.dep hk, PyData.shown_fits (by decide) (by decide) (PyData.leavesShort_of_canLay0 13 _ h.lay h.ish) (Nat.le_trans h.wgt hn), q⟩
theorem station_lay {x : Str} (h : x ∈ stations) : (PyData.str x).canLay0 = true ∧ x.cps.size ≤ 41 := by
  simp only [stations, List.mem_cons, List.not_mem_nil, or_false] at h
  rcases h with rfl | rfl | rfl | rfl | rfl <;> decide +kernel
end Rz
namespace Rz
open PySem PySem.Spec PyProof.Rows L2
theorem nodup1 (i : Nat) : ([i] : List Nat).Nodup := List.nodup_cons.mpr ⟨(fun m => nomatch m), List.nodup_nil⟩
theorem cd_stations {p : Pln} {Q : Rv → Prop} (h : manyC p.trains < 1000000) (q : Q (.cl (.tuple (sortD (txts (namesOf p)))))) : callD ctStations [.cl (plnD p)] Q := ⟨List.nodup_nil, rfl, p, rfl, h, fun _ => q⟩
theorem cd_callsAt {p : Pln} {x : Str} {Q : Rv → Prop} (h : manyC p.trains < 1000000) (h2 : ∀ t ∈ p.trains, ∀ c ∈ t.calls, SeqAt.shaped (.str c.1) = true) (h3 : SeqAt.shaped (.str x) = true) (q : Q (.cl (.tuple (sortD ((hitsT x p.trains).map hitD))))) : callD ctCallsAt [.cl (plnD p), .cl (.str x)] Q := ⟨List.nodup_nil, rfl, (p, x), rfl, ⟨h, h2, h3⟩, fun _ => q⟩
/-- the law's own promise in fnA's shape -/
def ctLaw' : Ct := ctOf (α := List Int) (fun ns => [.sc ns]) (fun ns => ns.length ≤ 63) fun _ Q => Q (.cl (.bool true))
theorem t_tupleI {x : Rv} {ds : List PD} {Q : Rv → Prop} (h : seqOf x.val = some ds) (hi : immAll ds = true) (q : Q (.cl (.tuple ds))) : bTuple x Q := t_tuple h (by rw [mk_imm (imm_tup hi)]; exact q)
theorem t_neF {i j : Str} (h : i = j) : (!decide (i = j)) = false := by rw [decide_eq_true h]; rfl
theorem set_ok {i : Nat} {r : Rv} {s : SV} {ρ : List SV} (h : slotFree ρ i = true) (e : slotOf r = some s) : setS i r ρ = some (ρ.set i s) := by
  unfold setS
  rw [if_pos h, e]; rfl
theorem sets_cons {i : Nat} {is : List Nat} {r : Rv} {rs : List Rv} {s : SV} {ρ ρ' : List SV} (h : slotFree ρ i = true) (e : slotOf r = some s) (q : setsS is rs (ρ.set i s) = some ρ') : setsS (i :: is) (r :: rs) ρ = some ρ' := by
  rw [setsS, set_ok h e]; exact q
end Rz
namespace Rz
open PySem PySem.Spec PyProof.Rows L2
end Rz
namespace Rz
open PySem PySem.Spec PyProof.Rows L2
variable {X : Cx} {P P1 : Par} {ρ ρ' ρ0 ρ1 ρ2 : List SV} {σ σ' σ0 σ1 σ2 : Sg} {H0 G0 H G G' H' H1 G1 H2 G2 : Hp} {F0 F F' F1 F2 : FP} {a b c e o : Expr} {es : List Expr} {pos p p2 pos2 : Pos} {t t1 t2 t3 : TD} {ta tk : TDa} {w : World} {K : PySem.W.Frag}
def unEx : SV → SV
  | .ex _ => .un
  | s => s
theorem unEx_wl {i : Nat} : ((ρ.map unEx)[i]? = some .wl) ↔ ρ[i]? = some .wl := by
  rw [List.getElem?_map]
  cases ρ[i]? with
  | none => simp
  | some sv => cases sv <;> simp [unEx]
theorem StS.un : StS ρ σ H G F (ρ.map unEx) σ H G F := ⟨.refl _, fun _ h => h, fun _ _ e _ => e, fun _ _ _ e => e, fun _ _ m => .inl m, fun _ e => ⟨unEx_wl.mpr e, rfl⟩⟩
theorem StOk.un (S : StOk P ρ σ H G F) (hw : P1.w = P.w) (hK : P1.K = P.K) (hp : P1.wp = P.wp) (er : P1.At (ρ.map unEx) σ H G F) : StOk P1 (ρ.map unEx) σ H G F := by
  obtain ⟨w, K, wp, wi, pn, bs, ee, xa⟩ := P
  obtain ⟨w', K', wp', wi', pn', bs', ee', xa'⟩ := P1
  cases hw
  cases hK
  cases hp
  refine ⟨S.le, fun i sv e => ?_, fun i e => S.out i (by rw [List.getElem?_map] at e; simpa using e), S.nd, S.dj, S.off, by rw [List.length_map]; exact S.len, er⟩
  rw [List.getElem?_map] at e
  obtain ⟨s0, e0, rfl⟩ := Option.map_eq_some_iff.mp e
  have q := S.slot i s0 e0
  cases s0 with
  | un => exact q
  | sh d => exact q
  | ow o => exact q
  | wl => exact q
  | sc ns => exact q
  | ex e => exact q.2
  | io C fs => exact q
/-- a value stays when the slots lose addresses alone -/
theorem RvOk.less {v : V} {r : Rv} {L : List Addr} (h : RvOk P ρ σ H G F v r L) (hw : P1.w = P.w) (hK : P1.K = P.K) (hp : P1.wp = P.wp) (hF : ∀ i a, a ∈ F1 i → a ∈ F i) (hs : ∀ i : Nat, ρ[i]? = some .wl ↔ ρ1[i]? = some .wl) (hσ : ∀ i : Nat, ρ[i]? = some .wl → σ1[i]? = σ[i]?) : RvOk P1 ρ1 σ1 H G F1 v r L := by
  obtain ⟨w, K, wp, wi, pn, bs, ee, xa⟩ := P
  obtain ⟨w', K', wp', wi', pn', bs', ee', xa'⟩ := P1
  cases hw
  cases hK
  cases hp
  have fr : ∀ {o : OD}, FrOk ⟨w, K, wp, wi, pn, bs, ee, xa⟩ H G F v o L → FrOk ⟨w, K, wp, wi', pn', bs', ee', xa'⟩ H G F1 v o L := fun {o} h => ⟨h.own, h.nd, fun a m => ⟨(h.off a m).1, fun ⟨i, q⟩ => (h.off a m).2 ⟨i, hF i a q⟩⟩⟩
  cases r with
  | cl d => exact h
  | dr d =>
    obtain ⟨⟨Hd, l, n, r⟩, e⟩ := h
    exact ⟨⟨Hd, l, fun a q ⟨i, e1, m⟩ => n a q ⟨i, (hs i).mpr e1, hF i a m⟩, r⟩, e⟩
  | fr o => exact fr h
  | wl => obtain ⟨o, h, z⟩ := h; exact ⟨o, fr h, z⟩
  | ws i => obtain ⟨⟨e1, e2⟩, e⟩ := h; exact ⟨⟨(hs i).mp e1, (hσ i e1).trans e2⟩, e⟩
  | sc ns => exact h
theorem KontS.tr {Dd : DEnds} {D : Ends} {b : Bs} {ee' : List SV → Er → Prop} (k : KontS P ρ σ H G F Dd D) (at0 : P.At ρ σ H G F) : KontS (P.tr b ee') ρ σ H G F Dd D := by
  have sit : ∀ {ρ' σ' H' G' F'}, SitS (P.tr b ee') ρ σ H G F ρ' σ' H' G' F' → SitS P ρ σ H G F ρ' σ' H' G' F' := fun z => ⟨z.st.re rfl rfl rfl rfl (at0.step z.ev), z.ev, z.pin, at0⟩
  exact ⟨fun ρ' σ' H' G' F' z q => k.nx _ _ _ _ _ (sit z) q, fun v r ρ' σ' H' G' F' L z o n q => k.rt v r _ _ _ _ _ L (sit z) (o.less rfl rfl rfl (fun _ _ m => m) (fun _ => Iff.rfl) fun _ _ => rfl) n q, fun ρ' σ' H' G' F' z q => k.bk _ _ _ _ _ (sit z) q, fun ρ' σ' H' G' F' z q => k.ct _ _ _ _ _ (sit z) q⟩
def DEnds.un (D : DEnds) : DEnds where
  nx := fun ρ => D.nx (ρ.map unEx)
  rt := fun ρ r => D.rt (ρ.map unEx) r
  bk := fun ρ => D.bk (ρ.map unEx)
  ct := fun ρ => D.ct (ρ.map unEx)
end Rz
namespace Rz
open PySem PySem.Spec PyProof.Rows L2
end Rz
namespace Rz
open PySem PySem.Spec PyProof.Rows L2
variable {X : Cx} {P : Par} {w : World} {K : PySem.W.Frag} {H0 G0 H H' G G' B : Hp} {F0 F : FP} {ρ : List SV} {σ : Sg} {s : Shared} {pins : List (Addr × Obj)} {a b : Addr} {e : Expr} {es : List Expr} {pos p : Pos} {ta : TDa}
section
variable {α : Type}
def putAllG (acc ps : List (PD × α)) : List (PD × α) := ps.foldl (fun acc p => putG acc p.1 p.2) acc
end
theorem leaves_kv {kvV : List (PD × V)} {kvs : List (PD × PD)} (r : Reps w K G (kvV.map (·.2)) (kvs.map (·.2))) : Owns w K H G (kvV.map (·.2)) ((kvs.map fun p => (p.1, OD.lf p.2)).map (·.2)) [] := by
  have e : (kvs.map fun p => (p.1, OD.lf p.2)).map (·.2) = (kvs.map (·.2)).map .lf := by rw [List.map_map, List.map_map]; rfl
  rw [e]
  exact Owns.leaves r
theorem Kont.dct {Q : Rv → Prop} {Q' : VK} {q0 : Addr} {es : List DictEntry} {ep : Nat} {kvV : List (PD × V)} {kvs : List (PD × PD)} (k : Kont P ρ σ H0 G0 F0 Q Q') (s : Sit P ρ σ H0 G0 F0 H G F) (en : EntV P.w P.K G es kvV) (ek : kvV.map (·.1) = kvs.map (·.1)) (r : Reps P.w P.K G (kvV.map (·.2)) (kvs.map (·.2))) (ok : KeysOk (kvs.map (·.1)))
    (q : Q (.fr (.dc (kvs.map fun p => (p.1, .lf p.2))))) (n : H q0 = none) : Q' (.ref q0) (upd H q0 (dRaw q0 es ep)) := by
  have e1 : (kvs.map fun p => (p.1, OD.lf p.2)).map (·.1) = kvs.map (·.1) := by rw [List.map_map]; rfl
  refine k (.ref q0) (.fr (.dc (kvs.map fun p => (p.1, .lf p.2)))) _ G F [q0] ⟨s.st.push n, s.ev.trans (StE.push n), s.at0⟩ ⟨.dc upd_same (EntV.owns en (by rw [e1]; exact ek) (leaves_kv r)) (by rw [e1]; exact ok), by simp, fun a m => ?_⟩ (fun a m => ?_) q
  · obtain rfl : a = q0 := by simpa using m
    exact ⟨s.st.le.none n, fun ⟨i, m⟩ => s.st.there m n⟩
  · obtain rfl : a = q0 := by simpa using m
    cases z : H0 a with
    | none => rfl
    | some o => exact absurd n (s.ev.ex a (by rw [z]; simp))
end Rz
namespace Rz
open PySem PySem.Spec PyProof.Rows L2
theorem forT_each {α : Type} {enc : α → PD} {pat : Pat} {tb : TDs} {D : DEnds} (xs : List α) (I : List α → List SV → Prop) (h0 : ∀ ρ, I xs ρ → D.nx ρ)
    (h1 : ∀ done x rest ρ (N : List SV → Prop), xs = done ++ x :: rest → I done ρ → (∀ ρ', I (done ++ [x]) ρ' → N ρ') → ∃ ρ1, bindP pat (enc x) ρ = some ρ1 ∧ tb { D with nx := N, ct := N, bk := D.nx } ρ1) (ρ : List SV) (h : I [] ρ) : forT pat tb (xs.map enc) D ρ :=
  forT_by (fun es ρ => ∃ done rest, xs = done ++ rest ∧ es = rest.map enc ∧ I done ρ) (fun ρ h => by
    obtain ⟨done, rest, e, er, h⟩ := h
    cases rest with
    | nil => rw [List.append_nil] at e; rw [← e] at h; exact h0 ρ h
    | cons _ _ => cases er) (fun d es ρ N h k => by
    obtain ⟨done, rest, e, er, h⟩ := h
    cases rest with
    | nil => cases er
    | cons x rest =>
      cases er
      exact h1 done x rest ρ N e h fun ρ' h' => k ρ' ⟨done ++ [x], rest, by rw [e, List.append_assoc]; rfl, rfl, h'⟩) _ ρ ⟨[], xs, rfl, rfl, h⟩
theorem forT_enum {α : Type} {enc : α → PD} {pat : Pat} {tb : TDs} {D : DEnds} (xs : List α) (I : List α → List SV → Prop) (h0 : ∀ ρ, I xs ρ → D.nx ρ)
    (h1 : ∀ done x rest ρ (N : List SV → Prop), xs = done ++ x :: rest → I done ρ → (∀ ρ', I (done ++ [x]) ρ' → N ρ') → ∃ ρ1, bindP pat (.tuple [.int (done.length : Int), enc x]) ρ = some ρ1 ∧ tb { D with nx := N, ct := N, bk := D.nx } ρ1) (ρ : List SV) (h : I [] ρ) : forT pat tb (enumD 0 (xs.map enc)) D ρ :=
  forT_by (fun es ρ => ∃ done rest, xs = done ++ rest ∧ es = enumD (done.length : Int) (rest.map enc) ∧ I done ρ) (fun ρ h => by
    obtain ⟨done, rest, e, er, h⟩ := h
    cases rest with
    | nil => rw [List.append_nil] at e; rw [← e] at h; exact h0 ρ h
    | cons _ _ => cases er) (fun d es ρ N h k => by
    obtain ⟨done, rest, e, er, h⟩ := h
    cases rest with
    | nil => cases er
    | cons x rest =>
      cases er
      exact h1 done x rest ρ N e h fun ρ' h' => k ρ' ⟨done ++ [x], rest, by rw [e, List.append_assoc]; rfl, by rw [List.length_append]; rfl, h'⟩) _ ρ ⟨[], xs, rfl, rfl, h⟩
theorem lcD_all {α : Type} {enc : α → PD} {pat : Pat} {u : TDt} {t : TD} {ρb : List SV} {Q : List Rv → Prop} (g : α → PD) (xs : List α) (hl : xs.length ≤ sizeLine) (q : Q (xs.map fun x => .cl (g x)))
    (h1 : ∀ x ∈ xs, ∃ ρ1, bindP pat (enc x) ρb = some ρ1 ∧ ∀ (M : Rv → Prop) (R : Prop), M (.cl (g x)) → u ρ1 fun b => if b = true then t ρ1 M else R) : lcD pat u t ρb (xs.map enc) [] Q := by
  refine lcD_by (fun es acc => ∃ pre suf, xs = pre ++ suf ∧ es = suf.map enc ∧ acc = pre.map fun x => .cl (g x)) (fun acc h => ?_) (fun d es acc N h k => ?_) _ _ ⟨[], xs, rfl, rfl, rfl⟩
  · obtain ⟨pre, suf, e, er, rfl⟩ := h
    cases suf with
    | nil => rw [List.append_nil] at e; rw [← e]; exact q
    | cons _ _ => cases er
  · obtain ⟨pre, suf, e, er, rfl⟩ := h
    cases suf with
    | nil => cases er
    | cons x suf =>
      cases er
      obtain ⟨ρ1, b1, b2⟩ := h1 x (by rw [e]; exact List.mem_append_right _ List.mem_cons_self)
      refine ⟨ρ1, b1, b2 _ _ ⟨⟨rfl, rfl, ?_⟩, k _ ⟨pre ++ [x], suf, by rw [e, List.append_assoc]; rfl, rfl, by rw [List.map_append]; rfl⟩⟩⟩
      rw [List.length_map]
      have := congrArg List.length e
      rw [List.length_append, List.length_cons] at this
      omega
theorem ints_imm : ∀ zs : List Int, immAll (zs.map .int) = true
  | [] => rfl
  | z :: zs => by
    show (true && immAll (zs.map .int)) = true
    rw [ints_imm zs]; rfl
/-- slots that may be set -/
def freeAt (is : List Nat) (ρ : List SV) : Prop := ∀ i ∈ is, slotFree ρ i = true
end Rz
namespace Rz
open PySem PySem.Spec PyProof.Rows L2
variable {X : Cx} {P : Par} {ρ : List SV} {σ : Sg} {H0 G0 H G G' : Hp} {F0 F : FP} {a b c e o : Expr} {es : List Expr} {pos p apos : Pos} {t t1 t2 t3 : TD} {ta : TDa}
theorem op_smul : OpR X (binaryOp .Mult) (fun x y H Q => ∃ (a : Str) (n : Int), x = .str a ∧ y = .int n ∧ MulOk a n ∧ Q (.str (Txt.mul a n)) H) := by
  intro pins s σ H x y v u Q I rx ry ⟨a, n, e1, e2, ok, q⟩
  subst e1 e2
  obtain ⟨t, rfl⟩ := rx
  obtain ⟨t', rfl⟩ := ry
  exact SB.mul ok fun t2 k => ⟨.str (Txt.mul a n), H, I.tok k, ⟨t2, rfl⟩, q⟩
theorem dop_smul : DOp X P (binaryOp .Mult) (fun x y Q => ∃ (a : Str) (n : Int), x.val = .str a ∧ y.val = .int n ∧ MulOk a n ∧ Q (.cl (.str (Txt.mul a n)))) := by
  refine ⟨_, op_smul, ?_⟩
  intro ρ σ H0 G0 F0 H G F x y r1 r2 L1 L2 Q Q' s o1 o2 n1 n2 dj ⟨a, n, e1, e2, ok, q⟩ k
  exact ⟨a, n, o1.str s.st.le e1, o2.int s.st.le e2, ok, k.val s (.str _) q⟩
theorem cd_pickG {i : Nat} {x : Rv} {ds : List PD} {Q : Rv → Prop} (hd : x.data = true) (h : seqOf x.val = some ds) (h0 : 0 < ds.length) (h1 : ds.length < 1073741824) (q : ∀ d ∈ ds, Q (mk x.soft d)) : callD ctPickG [.ws i, x] Q := by
  have nd : ∀ r : Rv, r.data = true → (([.ws i, r] : List Rv).filterMap wsOf).Nodup ∧ ([.ws i, r] : List Rv).any isWl = false ∧ anySoft [.ws i, r] = r.soft := fun r hr => by
    cases r with
    | cl d => exact ⟨nodup1 i, rfl, rfl⟩
    | dr d => exact ⟨nodup1 i, rfl, rfl⟩
    | fr d => exact ⟨nodup1 i, rfl, rfl⟩
    | _ => cases hr
  obtain ⟨g1, g2, g3⟩ := nd x hd
  refine ⟨g1, g2, (argS (anySoft [.ws i, x]) x, x.val, ds), rfl, ⟨slv_arg _ hd, h, h0, h1⟩, fun d m _ => ?_⟩
  rw [g3]
  have := q d m
  unfold retR
  cases hs : x.soft with
  | true => rw [hs] at this; rw [if_pos rfl]; exact this
  | false =>
    rw [hs] at this
    rw [if_neg (by simp)]
    have e : mk false d = .cl d := by unfold mk; simp
    rw [e] at this
    exact this
end Rz
namespace Rz
open PySem PySem.Spec PyProof.Rows L2
variable {X : Cx} {P : Par}
theorem t_lenS {x : Rv} {y : Str} {Q : Rv → Prop} (hd : x.data = true) (h : x.val = .str y) (hl : y.length ≤ sizeLine) (q : Q (.cl (.int y.length))) : bLenX x Q := by
  have lx : lenR x = lenD x.val := by cases x with
    | sc ns => cases hd
    | _ => rfl
  unfold bLenX
  split
  · rename_i kvs z; rw [h] at z; cases z
  · refine ⟨y.length, ?_, q⟩
    rw [lx, h]
    show (if y.length ≤ sizeLine then some y.length else none) = some y.length
    rw [if_pos hl]
theorem occ_one (x : Str) (c limit : Nat) : ∀ (l : List Nat) (st : Array Nat × Nat), l.Pairwise (· < ·) → (∀ i ∈ l, st.2 ≤ i) → st.1.size + l.length ≤ limit →
    (forIn l st (StrLaws.occBody x ⟨#[c]⟩ x.length limit)).run.fst.toList = st.1.toList ++ l.filter fun i => decide (x.cps.toList[i]? = some c)
  | [], st, _, _, _ => by
    rw [List.filter_nil, List.append_nil]; rfl
  | i :: l, st, hp, hf, hz => by
    rw [List.pairwise_cons] at hp
    rw [List.length_cons] at hz
    have hi := hf i List.mem_cons_self
    rw [List.forIn_cons]
    unfold StrLaws.occBody
    by_cases hc : x.cps.toList[i]? = some c
    · have h2 := (StrLaws.subAt_one x c i).mpr hc
      rw [if_pos ⟨⟨⟨by omega, hi⟩, h2.1⟩, h2.2⟩]
      have ih := occ_one x c limit l (st.1.push i, i + 1) hp.2 (fun j m => hp.1 j m) (by rw [Array.size_push]; omega)
      rw [List.filter_cons, if_pos (decide_eq_true hc)]
      refine Eq.trans ih ?_
      rw [Array.toList_push, List.append_assoc]; rfl
    · rw [if_neg fun h => hc ((StrLaws.subAt_one x c i).mp ⟨h.1.2, h.2⟩)]
      have ih := occ_one x c limit l (st.1, st.2) hp.2 (fun j m => hf j (List.mem_cons_of_mem _ m)) (by show st.1.size + l.length ≤ limit; omega)
      rw [List.filter_cons, if_neg (by rw [decide_eq_true_iff]; exact hc)]
      exact ih
def cutL (c : Nat) : List Nat → List (List Nat)
  | [] => [[]]
  | d :: r => if d = c then [] :: cutL c r else match cutL c r with
    | [] => [[d]]
    | p :: ps => (d :: p) :: ps
theorem cutL_ne (c : Nat) : ∀ l : List Nat, cutL c l ≠ []
  | [] => by unfold cutL; simp
  | d :: r => by
    unfold cutL
    split
    · simp
    · split <;> simp
abbrev ofL (l : List Nat) : Str := ⟨l.toArray⟩
theorem sub_ofL (x : Str) (i j : Nat) : Builtin.Str.strSub x i j = ofL ((x.cps.toList.drop i).take (j - i)) := by
  refine PySem.Str.ext' ?_
  rw [← Array.toList_inj, StrLaws.strSub_toList]
theorem parts_one (c : Nat) (xs : List Nat) (n : Nat) (hn : n = xs.length) : ∀ (l : List Nat) (k s : Nat), xs.drop k = l → s ≤ k → k ≤ n →
    ((s :: ((List.range' k (n - k)).filter fun i => decide (xs[i]? = some c)).map (· + 1)).zip (((List.range' k (n - k)).filter fun i => decide (xs[i]? = some c)) ++ [n])).map (fun p => (xs.drop p.1).take (p.2 - p.1)) =
      match cutL c l with
      | [] => []
      | p :: ps => ((xs.drop s).take (k - s) ++ p) :: ps
  | [], k, s, e, hs, hk => by
    have : k = n := by
      have := congrArg List.length e
      rw [List.length_drop, List.length_nil] at this
      omega
    subst this
    rw [Nat.sub_self]
    simp [cutL]
  | d :: r, k, s, e, hs, hk => by
    have hlt : k < n := by
      have := congrArg List.length e
      rw [List.length_drop, List.length_cons] at this
      omega
    have ed : xs[k]? = some d := by
      have : (xs.drop k)[0]? = some d := by rw [e]; rfl
      rw [List.getElem?_drop, Nat.add_zero] at this; exact this
    have er : xs.drop (k + 1) = r := by
      have : (xs.drop k).drop 1 = r := by rw [e]; rfl
      rw [List.drop_drop] at this; exact this
    have en : n - k = (n - (k + 1)) + 1 := by omega
    rw [en, List.range'_succ, List.filter_cons]
    by_cases hc : d = c
    · subst hc
      rw [if_pos (decide_eq_true ed)]
      have ih := parts_one d xs n hn r (k + 1) (k + 1) er (Nat.le_refl _) hlt
      simp only [List.map_cons, List.cons_append, List.zip_cons_cons]
      have ec : cutL d (d :: r) = [] :: cutL d r := by rw [cutL, if_pos rfl]
      rw [ec, ih]
      cases h : cutL d r with
      | nil => exact absurd h (cutL_ne d r)
      | cons p ps => simp
    · rw [if_neg (by rw [decide_eq_true_iff, ed]; intro h; exact hc (Option.some.inj h))]
      have ih := parts_one c xs n hn r (k + 1) s er (by omega) hlt
      rw [ih]
      have ec : cutL c (d :: r) = match cutL c r with
        | [] => [[d]]
        | p :: ps => (d :: p) :: ps := by rw [cutL, if_neg hc]
      rw [ec]
      cases h : cutL c r with
      | nil => exact absurd h (cutL_ne c r)
      | cons p ps =>
        have e2 : (xs.drop s).take (k + 1 - s) = (xs.drop s).take (k - s) ++ [d] := by
          rw [show k + 1 - s = (k - s) + 1 from by omega, List.take_add_one, List.getElem?_drop, show s + (k - s) = k from by omega, ed]; rfl
        show (((xs.drop s).take (k + 1 - s) ++ p) :: ps) = ((xs.drop s).take (k - s) ++ (d :: p)) :: ps
        rw [e2, List.append_assoc]; rfl
theorem split_one (x : Str) {c : Nat} (hc : c < 256) : Txt.split x ⟨#[c]⟩ = (cutL c x.cps.toList).map ofL := by
  have hk : Builtin.Str.strKind ⟨#[c]⟩ = 1 := by
    unfold Builtin.Str.strKind
    have : (#[c] : Array Nat).all (· < 256) = true := by simp [hc]
    rw [if_pos this]
  have hk2 : 1 ≤ Builtin.Str.strKind x := by
    unfold Builtin.Str.strKind
    split
    · exact Nat.le_refl _
    · split <;> omega
  have occ : Builtin.Str.occurrences x ⟨#[c]⟩ 0 x.length (x.length + 1) = (List.range' 0 x.length).filter fun i => decide (x.cps.toList[i]? = some c) := by
    rw [StrLaws.occ_eq]
    have h := occ_one x c (x.length + 1) (List.range' 0 (x.length + 1 - 0)) (#[], 0) List.pairwise_lt_range' (fun i _ => Nat.zero_le _) (by simp)
    refine Eq.trans h ?_
    rw [Nat.sub_zero, List.range'_concat, List.filter_append, Nat.zero_add]
    have : x.cps.toList[x.length]? = none := List.getElem?_eq_none (by rw [Array.length_toList]; exact Nat.le_refl _)
    have this2 : x.cps[x.length]? = none := by rw [← Array.getElem?_toList]; exact this
    simp [List.filter_cons, this2]
  have whole : ∀ cuts, cuts = ((List.range' 0 x.length).filter fun i => decide (x.cps.toList[i]? = some c)) → Builtin.Str.partsBetween x cuts 1 = (cutL c x.cps.toList).map ofL := fun cuts hcuts => by
    have h := parts_one c x.cps.toList x.length (by rw [Array.length_toList]; rfl) x.cps.toList 0 0 rfl (Nat.le_refl _) (Nat.zero_le _)
    rw [Nat.sub_zero, ← hcuts] at h
    unfold Builtin.Str.partsBetween
    have e : ∀ ps : List (Nat × Nat), (ps.map fun (i, j) => Builtin.Str.strSub x i j) = (ps.map fun p => (x.cps.toList.drop p.1).take (p.2 - p.1)).map ofL := fun ps => by
      rw [List.map_map]
      exact List.map_congr_left fun p _ => sub_ofL x p.1 p.2
    show ((0 :: cuts.map (· + 1)).zip (cuts ++ [x.length])).map (fun (i, j) => Builtin.Str.strSub x i j) = _
    rw [e, h]
    congr 1
    cases hq : cutL c x.cps.toList with
    | nil => exact absurd hq (cutL_ne c _)
    | cons p ps => simp
  have self : (List.range' 0 x.length).filter (fun i => decide (x.cps.toList[i]? = some c)) = [] → [x] = (cutL c x.cps.toList).map ofL := fun h => by
    rw [← whole [] h.symm]
    show [x] = [Builtin.Str.strSub x 0 x.length]
    rw [sub_ofL]
    congr 1
    refine PySem.Str.ext' ?_
    rw [← Array.toList_inj]
    show x.cps.toList = (x.cps.toList.drop 0).take (x.length - 0)
    rw [List.drop_zero, Nat.sub_zero, List.take_of_length_le (by rw [Array.length_toList]; exact Nat.le_refl _)]
  unfold Txt.split
  rw [occ, hk]
  split
  · rename_i h
    rw [Bool.or_eq_true, decide_eq_true_iff, decide_eq_true_iff] at h
    have hz : x.length = 0 := by
      rcases h with h | h
      · have : x.length < 1 := h; omega
      · omega
    exact self (by rw [hz]; rfl)
  · split
    · rename_i h; exact self (List.isEmpty_iff.mp h)
    · exact whole _ rfl
end Rz
namespace Rz
open PySem PySem.Spec PyProof.Rows L2
theorem bools_imm {α : Type} {g : α → Bool} : ∀ xs : List α, immAll (xs.map fun x => .bool (g x)) = true
  | [] => rfl
  | x :: xs => by
    show (true && immAll (xs.map fun x => .bool (g x))) = true
    rw [bools_imm xs]; rfl
theorem bools_of {α : Type} {g : α → Bool} : ∀ xs : List α, boolsOf (xs.map fun x => .bool (g x)) = some (xs.map g)
  | [] => rfl
  | x :: xs => by
    show (boolsOf (xs.map fun x => .bool (g x))).map _ = _
    rw [bools_of xs]; rfl
theorem t_inS {x y : Rv} {i j : Str} {b : Bool} {Q : Rv → Prop} (hd : x.data = true) (hx : x.val = .str i) (hy : y.val = .str j) (e : strIn i j = b) (q : Q (.cl (.bool b))) : oInX false x y Q := by
  unfold oInX oIn
  rw [hy, hx]
  refine ⟨hd, ?_⟩
  show Q (.cl (.bool (strIn i j ^^ false)))
  rw [e, Bool.xor_false]; exact q
theorem lcD_flt {α : Type} {enc : α → PD} {pat : Pat} {u : TDt} {t : TD} {ρb : List SV} {Q : List Rv → Prop} (p : α → Bool) (g : α → PD) (xs : List α) (hl : xs.length ≤ sizeLine) (q : Q ((xs.filter p).map fun x => .cl (g x)))
    (h1 : ∀ x ∈ xs, ∃ ρ1, bindP pat (enc x) ρb = some ρ1 ∧ ∀ (M : Rv → Prop) (R : Prop), (p x = true → M (.cl (g x))) → (p x = false → R) → u ρ1 fun b => if b = true then t ρ1 M else R) : lcD pat u t ρb (xs.map enc) [] Q := by
  refine lcD_by (fun es acc => ∃ pre suf, xs = pre ++ suf ∧ es = suf.map enc ∧ acc = (pre.filter p).map fun x => .cl (g x)) (fun acc h => ?_) (fun d es acc N h k => ?_) _ _ ⟨[], xs, rfl, rfl, rfl⟩
  · obtain ⟨pre, suf, e, er, rfl⟩ := h
    cases suf with
    | nil => rw [List.append_nil] at e; rw [← e]; exact q
    | cons _ _ => cases er
  · obtain ⟨pre, suf, e, er, rfl⟩ := h
    cases suf with
    | nil => cases er
    | cons x suf =>
      cases er
      obtain ⟨ρ1, b1, b2⟩ := h1 x (by rw [e]; exact List.mem_append_right _ List.mem_cons_self)
      refine ⟨ρ1, b1, b2 _ _ (fun hp => ⟨⟨rfl, rfl, ?_⟩, k _ ⟨pre ++ [x], suf, by rw [e, List.append_assoc]; rfl, rfl, by rw [List.filter_append, List.map_append]; simp [hp]⟩⟩) fun hp => k _ ⟨pre ++ [x], suf, by rw [e, List.append_assoc]; rfl, rfl, by rw [List.filter_append]; simp [hp]⟩⟩
      rw [List.length_map]
      have h2 := List.length_filter_le p pre
      have := congrArg List.length e
      rw [List.length_append, List.length_cons] at this
      omega
theorem t_addLh {x y : Rv} {a b : List PD} {Q : Rv → Prop} (hx : x.val = .list a) (hy : y.val = .list b) (sx : x.soft = false) (sy : y.soft = false) (hl : a.length + b.length ≤ sizeLine) (q : Q (.fr (.ls ((a ++ b).map .lf)))) : oAdd x y Q := by
  unfold oAdd
  rw [hx, hy, sx, sy]
  exact ⟨hl, q⟩
end Rz
namespace Rz
open PySem PySem.Spec PyProof.Rows L2 PySem.SeqAt
variable {X : Cx} {P : Par} {ρ : List SV} {σ : Sg} {H0 G0 H G G' : Hp} {F0 F : FP} {w : World} {K : PySem.W.Frag}
theorem dict_eq_no (d t : Addr) (es : Array DictEntry) (ep : Nat) (items : Array Value) (n : Nat) (dd dd2 : Option Addr) (sl sl2 : Array (Option Value)) :
    Meets (Builtin.«dict.__eq__» ⟨[.ref d, .ref t], []⟩) (fun _ R s => s.heap.get? d = some { cls := .type "dict", dict := dd, data := .dict es ep, slots := sl } ∧ s.heap.get? t = some { cls := .type "tuple", dict := dd2, data := .seq items n, slots := sl2 } ∧ R (.ok (.ret .notImplemented)) s) :=
  .of_wp fun prog w A R s h => by
    obtain ⟨hp, g, dr, tk, os⟩ := s
    obtain ⟨h1, h2, h⟩ := h
    have f1 := PySem.F.sub_tuple_dict
    wp_walk using wpAny_loadPart' h1, wpAny_loadPart' h2
    exact ⟨_, rfl, h⟩
theorem tup_eq_no (t d : Addr) (es : Array DictEntry) (ep : Nat) (items : Array Value) (n : Nat) (dd dd2 : Option Addr) (sl sl2 : Array (Option Value)) :
    Meets (Builtin.«tuple.__eq__» ⟨[.ref t, .ref d], []⟩) (fun _ R s => s.heap.get? t = some { cls := .type "tuple", dict := dd2, data := .seq items n, slots := sl2 } ∧ s.heap.get? d = some { cls := .type "dict", dict := dd, data := .dict es ep, slots := sl } ∧ R (.ok (.ret .notImplemented)) s) :=
  .of_wp fun prog w A R s h => by
    obtain ⟨hp, g, dr, tk, os⟩ := s
    obtain ⟨h1, h2, h⟩ := h
    have f1 := PySem.F.sub_dict_tuple
    wp_walk using wpAny_loadPart' h1, wpAny_loadPart' h2
    exact ⟨_, rfl, h⟩
theorem rc_dict_tup {A : Around} {s : Shared} {d t : Addr} {es : Array DictEntry} {ep n : Nat} {items : Array Value} {dd dd2 : Option Addr} {sl sl2 : Array (Option Value)} (h1 : s.heap.get? d = some { cls := .type "dict", dict := dd, data := .dict es ep, slots := sl }) (h2 : s.heap.get? t = some { cls := .type "tuple", dict := dd2, data := .seq items n, slots := sl2 })
    (hu : A.units < cLine) : RcAt A s (.ref d) (.ref t) false := fun prog w E Q h => by
  have hne : d ≠ t := fun e => by
    rw [e, h2] at h1
    exact absurd (Value.type.inj (congrArg Obj.cls (Option.some.inj h1))) (by decide)
  exact rc_eq_decline_or (k := false) ⟨_, h1, rfl⟩ ⟨_, h2, rfl⟩ (by decide) PySem.F.sub_tuple_dict PySem.F.slot_dict_eq PySem.F.slot_tuple_eq_refl
    (fun _ hq => call_meets PySem.F.slot_dict_eq ⟨_, h1, rfl⟩ PySem.F.entry_dict_eq (PySem.F.args_dict_eq_2 _ _) (dict_eq_no d t es ep items n dd dd2 sl sl2) ⟨h1, h2, hq⟩)
    (fun _ hq => call_meets PySem.F.slot_tuple_eq_refl ⟨_, h2, rfl⟩ PySem.F.entry_tuple_eq (PySem.F.args_tuple_eq_2 _ _) (tup_eq_no t d es ep items n dd dd2 sl sl2) ⟨h2, h1, hq⟩)
    (fun _ hq => wpAny_isSame_ref_other hne h1 h2 (by simp) hq) (.inr hu) h
def isNilT : PD → Bool
  | .tuple [] => true
  | _ => false
theorem nil_tup {H : Hp} {y : V} {u : Value} {s : Shared} {pins : List (Addr × Obj)} (I : Inv X pins σ H s) (hK : X.K = K) (r : Rep w K H y (.tuple [])) (ry : RelV y u) : ∃ b items, u = .ref b ∧ s.heap.IsTuple b items ∧ items.size = 0 := by
  cases r with
  | @tup b xs _ sq rr =>
    cases rr
    rw [← hK] at sq
    obtain ⟨its, rv, ⟨o, h1, h2, n, h3⟩, _⟩ := I.tuple sq
    cases rv
    exact ⟨b, _, ry, ⟨o, h1, h2, n, h3⟩, rfl⟩
def topIns : PD → Bool
  | .dict kvs => isIns kvs
  | _ => false
/-- y is (), x no instance -/
def eqE (x y : PD) : Bool := match y with
  | .tuple [] => !topIns x
  | _ => false
theorem eqE_iff {x y : PD} (h : eqE x y = true) : y = .tuple [] ∧ topIns x = false := by
  unfold eqE at h
  split at h
  · exact ⟨rfl, by simpa using h⟩
  · cases h
abbrev oEqE (x y : Rv) (Q : Rv → Prop) : Prop := x.data = true ∧ y.data = true ∧ eqE x.val y.val = true ∧ Q (.cl (.bool (isNilT x.val)))
theorem dop_eqE (C : CxF X P) : DOp X P (compareOp .Eq) oEqE := dop_data (C := fun d e => eqE d e = true) (g := fun d _ => isNilT d) fun pins s σ H x y v u d e Q I rx ry r1 r2 c q => by
  obtain ⟨c, ni⟩ := eqE_iff c
  subst c
  obtain ⟨b, items, rfl, ht, hz⟩ := nil_tup I C.K r2 ry
  have hu : X.A.units < cLine := by have := C.un; omega
  have go : ∀ k, RcAt X.A s v (.ref b) k → k = isNilT d → wpAny (model X.prog X.w) X.A (compareOp .Eq v (.ref b)) (EP X pins σ Q) X.xe s := fun k h e => h X.prog X.w X.xe _ ⟨.bl k, H, I, rfl, by rw [e]; exact q⟩
  cases r1 with
  | non => obtain rfl : v = Value.none := rx; exact go _ (RcAt.none_tuple ht hu) rfl
  | bl k => obtain rfl : v = Value.bool k := rx; exact go _ (RcAt.bool_tuple k ht hu) rfl
  | int i => obtain ⟨t, rfl⟩ := (show ∃ t, v = Value.int i t from rx); exact go _ (RcAt.int_tuple i t ht hu) rfl
  | str z => obtain ⟨t, rfl⟩ := (show ∃ t, v = Value.str z t from rx); exact go _ (RcAt.str_tuple z t ht hu) rfl
  | @lst a xs ds ha rr =>
    obtain rfl : v = Value.ref a := rx
    obtain ⟨its, rv, ⟨o, n, h1, h2, h3, h4⟩, _⟩ := I.list (.of ha)
    exact go _ (RcAt.list_tuple ⟨o, h1, h2, n, h4⟩ ht hu) rfl
  | @tup a xs ds sq rr =>
    obtain rfl : v = Value.ref a := rx
    rw [← C.K] at sq
    obtain ⟨its, rv, ⟨o, h1, h2, n, h3⟩, _⟩ := I.tuple sq
    refine go _ (RcAt.tuples (e := fun _ => true) ⟨o, h1, h2, n, h3⟩ ht hu fun j j1 j2 => by omega) ?_
    have l1 := rv.length
    have l2 := rr.length
    rw [hz, Nat.min_zero]
    show (true && (its.toArray.size == 0)) = _
    rw [List.size_toArray, Bool.true_and]
    cases ds with
    | nil =>
      have : its.length = 0 := by rw [List.length_nil] at l2; omega
      rw [this]; rfl
    | cons d ds =>
      have : its.length = ds.length + 1 := by rw [List.length_cons] at l2; omega
      rw [this]; rfl
  | @dct a es _ kvs ha _ _ =>
    obtain rfl : v = Value.ref a := rx
    obtain ⟨_, _, o, ep, h1, h2, h3⟩ := Inv.raw I ha
    obtain ⟨oc, od, oda, osl⟩ := o
    obtain ⟨h4, _, _⟩ := h2
    simp only at h3 h4
    subst h3 h4
    obtain ⟨⟨tc, td, tda, tsl⟩, g1, g2, gn, g3⟩ := ht
    simp only at g2 g3
    subst g2 g3
    exact go _ (rc_dict_tup h1 g1 hu) rfl
  | ins _ _ _ q3 => cases q3; rw [topIns, isIns_tag] at ni; cases ni
end Rz
namespace Rz
open PySem PySem.Spec PyProof.Rows L2
mutual
/-- texts and rows are no longer than this -/
def smB : PD → Bool
  | .str x => decide (x.length ≤ 20000)
  | .list ds => decide (ds.length ≤ 20000) && smAll ds
  | .tuple ds => decide (ds.length ≤ 20000) && smAll ds
  | .dict kvs => !isIns kvs
  | _ => true
def smAll : List PD → Bool
  | [] => true
  | d :: ds => smB d && smAll ds
end
theorem smAll_mem : ∀ {ds : List PD}, smAll ds = true → ∀ d ∈ ds, smB d = true
  | [], _, d, m => by cases m
  | e :: ds, h, d, m => by
    unfold smAll at h
    rw [Bool.and_eq_true] at h
    cases m with
    | head => exact h.1
    | tail _ m => exact smAll_mem h.2 d m
theorem sm_tup {ds : List PD} (h : smB (.tuple ds) = true) : ds.length ≤ 20000 ∧ ∀ d ∈ ds, smB d = true := by
  unfold smB at h
  rw [Bool.and_eq_true, decide_eq_true_iff] at h
  exact ⟨h.1, smAll_mem h.2⟩
theorem sm_str {x : Str} (h : smB (.str x) = true) : x.length ≤ 20000 := by
  unfold smB at h
  exact of_decide_eq_true h
theorem sm_top {d : PD} (h : smB d = true) : topIns d = false := by
  cases d with
  | dict kvs =>
    unfold smB at h
    unfold topIns
    rw [Bool.not_eq_true'] at h
    exact h
  | _ => rfl
theorem sm_eqE {d : PD} (h : smB d = true) : eqE d (.tuple []) = true := by
  show (!topIns d) = true
  rw [sm_top h]; rfl
theorem mk_f {d : PD} : mk false d = .cl d := by unfold mk; simp
theorem t_ixF {x y : Rv} {ds : List PD} {i : Int} {d : PD} {Q : Rv → Prop} (h : seqOf x.val = some ds) (hs : x.soft = false) (hy : y.val = .int i) (e : atI ds i = some d) (q : Q (.cl d)) : oIxX x y Q := t_ixC h hy e (by rw [hs, mk_f]; exact q)
def isBet (d : PD) (lo hi : Int) : Bool := match d with
  | .int i => decide (lo ≤ i) && decide (i ≤ hi)
  | _ => false
theorem isBet_int {d : PD} {lo hi : Int} (h : isBet d lo hi = true) : ∃ i, d = .int i ∧ lo ≤ i ∧ i ≤ hi := by
  cases d with
  | int i =>
    have h : (decide (lo ≤ i) && decide (i ≤ hi)) = true := h
    rw [Bool.and_eq_true, decide_eq_true_iff, decide_eq_true_iff] at h
    exact ⟨i, rfl, h⟩
  | _ => cases h
def ctBet : Ct := ctOf (α := PD × Int × Int) (fun a => [.sh a.1, .sh (.int a.2.1), .sh (.int a.2.2)]) (fun _ => True) fun a Q => Q (.cl (.bool (isBet a.1 a.2.1 a.2.2)))
theorem cd_bet {v : PD} {lo hi : Int} {Q : Rv → Prop} (q : Q (.cl (.bool (isBet v lo hi)))) : callD ctBet [.cl v, .cl (.int lo), .cl (.int hi)] Q := ⟨List.nodup_nil, rfl, (v, lo, hi), rfl, trivial, fun _ => q⟩
def ctNumber : Ct := ctOf (α := PD) (fun v => [.sh v]) (fun _ => True) fun v Q => Q (.cl (.bool (isBet v 1 9999)))
theorem cd_number {v : PD} {Q : Rv → Prop} (q : Q (.cl (.bool (isBet v 1 9999)))) : callD ctNumber [.cl v] Q := ⟨List.nodup_nil, rfl, v, rfl, trivial, fun _ => q⟩
def isTupN (d : PD) (n : Int) : Bool := match d with
  | .tuple ds => (ds.length : Int) == n
  | _ => false
def ctTupN : Ct := ctOf (α := PD × Int) (fun a => [.sh a.1, .sh (.int a.2)]) (fun _ => True) fun a Q => Q (.cl (.bool (isTupN a.1 a.2)))
theorem cd_tupN {v : PD} {n : Int} {Q : Rv → Prop} (q : Q (.cl (.bool (isTupN v n)))) : callD ctTupN [.cl v, .cl (.int n)] Q := ⟨List.nodup_nil, rfl, (v, n), rfl, trivial, fun _ => q⟩
theorem isTup2 {d : PD} (h : isTupN d 2 = true) : ∃ a b, d = .tuple [a, b] := by
  cases d with
  | tuple ds =>
    have h : ((ds.length : Int) == 2) = true := h
    rw [beq_iff_eq] at h
    match ds, h with
    | [a, b], _ => exact ⟨a, b, rfl⟩
    | [], h => exact absurd h (by show ¬ ((0 : Nat) : Int) = 2; decide)
    | [_], h => exact absurd h (by show ¬ ((1 : Nat) : Int) = 2; decide)
    | _ :: _ :: _ :: _, h => exfalso; simp only [List.length_cons] at h; omega
  | _ => cases h
theorem isTup3 {d : PD} (h : isTupN d 3 = true) : ∃ a b c, d = .tuple [a, b, c] := by
  cases d with
  | tuple ds =>
    have h : ((ds.length : Int) == 3) = true := h
    rw [beq_iff_eq] at h
    match ds, h with
    | [a, b, c], _ => exact ⟨a, b, c, rfl⟩
    | [], h => exact absurd h (by show ¬ ((0 : Nat) : Int) = 3; decide)
    | [_], h => exact absurd h (by show ¬ ((1 : Nat) : Int) = 3; decide)
    | [_, _], h => exact absurd h (by show ¬ ((2 : Nat) : Int) = 3; decide)
    | _ :: _ :: _ :: _ :: _, h => exfalso; simp only [List.length_cons] at h; omega
  | _ => cases h
def lowB (c : Nat) : Bool := decide (97 ≤ c) && decide (c ≤ 122)
theorem in_low (c : Nat) : strIn ⟨#[c]⟩ "abcdefghijklmnopqrstuvwxyz" = lowB c := by
  unfold strIn
  rw [StrLaws.found_one]
  unfold lowB
  rw [← Bool.decide_and]
  apply decide_eq_decide.mpr
  have e : (PySem.Str.ofString "abcdefghijklmnopqrstuvwxyz").cps.toList = List.range' 97 26 := by decide +kernel
  rw [e, List.mem_range'_1]
  omega
def isNm (d : PD) : Bool := match d with
  | .str x => decide (1 ≤ x.length) && decide (x.length ≤ 12) && x.cps.toList.all lowB
  | _ => false
def ctName : Ct := ctOf (α := PD) (fun v => [.sh v]) (fun v => smB v = true) fun v Q => Q (.cl (.bool (isNm v)))
theorem cd_name {v : PD} {Q : Rv → Prop} (h : smB v = true) (q : Q (.cl (.bool (isNm v)))) : callD ctName [.cl v] Q := ⟨List.nodup_nil, rfl, v, rfl, h, fun _ => q⟩
def daysOk (len : Int) : Option Int → List PD → Bool
  | _, [] => true
  | p, d :: r => isBet d 0 (len - 1) && (match p, d with
    | some j, .int i => decide (j < i)
    | _, _ => true) && (match d with
    | .int i => daysOk len (some i) r
    | _ => false)
def areDays (d : PD) (len : Int) : Bool := match d with
  | .tuple ds => daysOk len none ds
  | _ => false
def ctDays : Ct := ctOf (α := PD × Int) (fun a => [.sh a.1, .sh (.int a.2)]) (fun _ => True) fun a Q => Q (.cl (.bool (areDays a.1 a.2)))
theorem cd_days {v : PD} {n : Int} {Q : Rv → Prop} (q : Q (.cl (.bool (areDays v n)))) : callD ctDays [.cl v, .cl (.int n)] Q := ⟨List.nodup_nil, rfl, (v, n), rfl, trivial, fun _ => q⟩
def isCal (d : PD) : Bool := match d with
  | .tuple [a, .int n, c] => isBet a 0 6 && isBet (.int n) 1 400 && areDays c n
  | _ => false
def ctCal : Ct := ctOf (α := PD) (fun v => [.sh v]) (fun _ => True) fun v Q => Q (.cl (.bool (isCal v)))
theorem cd_cal {v : PD} {Q : Rv → Prop} (q : Q (.cl (.bool (isCal v)))) : callD ctCal [.cl v] Q := ⟨List.nodup_nil, rfl, v, rfl, trivial, fun _ => q⟩
def isCl (d : PD) : Bool := match d with
  | .tuple [a, b] => isNm a && isBet b 0 2879
  | _ => false
def ctCl : Ct := ctOf (α := PD) (fun v => [.sh v]) (fun v => smB v = true) fun v Q => Q (.cl (.bool (isCl v)))
theorem cd_cl {v : PD} {Q : Rv → Prop} (h : smB v = true) (q : Q (.cl (.bool (isCl v)))) : callD ctCl [.cl v] Q := ⟨List.nodup_nil, rfl, v, rfl, h, fun _ => q⟩
theorem forT_enumP {pat : Pat} {tb : TDs} {D : DEnds} (ds : List PD) (I : List PD → List SV → Prop) (h0 : ∀ ρ, I ds ρ → D.nx ρ)
    (h1 : ∀ done x rest ρ (N : List SV → Prop), ds = done ++ x :: rest → I done ρ → (∀ ρ', I (done ++ [x]) ρ' → N ρ') → ∃ ρ1, bindP pat (.tuple [.int (done.length : Int), x]) ρ = some ρ1 ∧ tb { D with nx := N, ct := N, bk := D.nx } ρ1) (ρ : List SV) (h : I [] ρ) : forT pat tb (enumD 0 ds) D ρ := by
  have z := forT_enum (enc := id) ds I h0 h1 ρ h
  rw [List.map_id] at z
  exact z
end Rz
namespace Rz
open PySem PySem.Spec PyProof.Rows L2
def callE (k : Int) : Nat → List PD → Option PD
  | _, [] => none
  | j, d :: r => if isCl d then callE k (j + 1) r else some (.tuple [.str "call", .int k, .int (j : Int)])
def minD : PD → Int
  | .tuple [_, .int m] => m
  | _ => 0
def riseE (k : Int) : Nat → Int → List PD → Option PD
  | _, _, [] => none
  | j, m, d :: r => if decide (minD d ≤ m) then some (.tuple [.str "rise", .int k, .int (j : Int)]) else riseE k (j + 1) (minD d) r
def callsErr (v : PD) (k : Int) : PD := match v with
  | .tuple (d :: r) => match callE k 0 (d :: r) with
    | some e => e
    | none => (riseE k 1 (minD d) r).getD .none
  | _ => .tuple [.str "calls", .int k]
def ctCallsE : Ct := ctOf (α := PD × Int) (fun a => [.sh a.1, .sh (.int a.2)]) (fun a => smB a.1 = true) fun a Q => Q (.cl (callsErr a.1 a.2))
theorem cd_callsE {v : PD} {k : Int} {Q : Rv → Prop} (h : smB v = true) (q : Q (.cl (callsErr v k))) : callD ctCallsE [.cl v, .cl (.int k)] Q := ⟨List.nodup_nil, rfl, (v, k), rfl, h, fun _ => q⟩
theorem isCl_two {d : PD} (h : isCl d = true) : ∃ x m, d = .tuple [.str x, .int m] ∧ 0 ≤ m ∧ m ≤ 2879 ∧ isNm (.str x) = true := by
  unfold isCl at h
  split at h
  · rename_i a b
    rw [Bool.and_eq_true] at h
    obtain ⟨m, rfl, m0, m1⟩ := isBet_int h.2
    cases a with
    | str x => exact ⟨x, m, rfl, m0, m1, h.1⟩
    | _ => cases h.1
  · cases h
theorem callE_none {k : Int} : ∀ {ds : List PD} {j : Nat}, callE k j ds = none → ∀ d ∈ ds, isCl d = true
  | [], _, _, _, m => by cases m
  | e :: r, j, h, d, m => by
    unfold callE at h
    split at h
    · cases m with
      | head => assumption
      | tail _ m => exact callE_none h d m
    · cases h
theorem callE_skip {k : Int} : ∀ (done : List PD) (rest : List PD) (j : Nat), (∀ d ∈ done, isCl d = true) → callE k j (done ++ rest) = callE k (j + done.length) rest
  | [], rest, j, _ => by simp
  | e :: r, rest, j, h => by
    show (if isCl e then callE k (j + 1) (r ++ rest) else _) = _
    rw [if_pos (h e List.mem_cons_self), callE_skip r rest (j + 1) fun d m => h d (List.mem_cons_of_mem _ m), List.length_cons]
    congr 1
    omega
theorem forT_range {pat : Pat} {tb : TDs} {D : DEnds} {lo : Int} (n : Nat) (I : Nat → List SV → Prop) (h0 : ∀ ρ, I n ρ → D.nx ρ)
    (h1 : ∀ j ρ (N : List SV → Prop), j < n → I j ρ → (∀ ρ', I (j + 1) ρ' → N ρ') → ∃ ρ1, bindP pat (.int (lo + (j : Int))) ρ = some ρ1 ∧ tb { D with nx := N, ct := N, bk := D.nx } ρ1) (ρ : List SV) (h : I 0 ρ) : forT pat tb (rngD lo 1 n) D ρ := by
  refine forT_each (enc := fun i : Nat => PyData.int (lo + (i : Int) * 1)) (List.range n) (fun done ρ => I done.length ρ) (fun ρ h => h0 ρ (by rw [List.length_range] at h; exact h)) (fun done x rest ρ N e h k => ?_) ρ h
  have hl := congrArg List.length e
  rw [List.length_range, List.length_append, List.length_cons] at hl
  have hx : x = done.length := by
    have z : (List.range n)[done.length]? = some x := by rw [e]; simp
    rw [List.getElem?_range (by omega)] at z
    exact (Option.some.inj z).symm
  subst hx
  obtain ⟨ρ1, b, t⟩ := h1 done.length ρ N (by omega) h fun ρ' h' => k ρ' (by rw [List.length_append, List.length_singleton]; exact h')
  exact ⟨ρ1, by rw [Int.mul_one]; exact b, t⟩
def aheadOk : Option Int → PD → Bool
  | some m, .int i => decide (m < i)
  | _, _ => true
def trErr (n : Int) (prev : Option Int) (t : PD) (k : Int) : PD := match t with
  | .tuple [num, days, calls] =>
    if isBet num 1 9999 && aheadOk prev num then
      if areDays days n && !isNilT days then callsErr calls k else .tuple [.str "days", .int k]
    else .tuple [.str "number", .int k]
  | _ => .tuple [.str "train", .int k]
def numD : PD → Option Int
  | .tuple (.int i :: _) => some i
  | _ => none
/-- the train ahead of place k, if any, has a whole number -/
def prevOk (ts : List PD) (k : Nat) (prev : Option Int) : Prop := (k = 0 ∧ prev = none) ∨ ∃ j i a b, k = j + 1 ∧ prev = some i ∧ ts[j]? = some (.tuple [.int i, a, b])
def ctTrainE : Ct := ctOf (α := (PD × Int × PD) × List PD × Nat × PD × Option Int) (fun a => [.sh (.tuple [a.1.1, .int a.1.2.1, a.1.2.2]), .sh (.tuple a.2.1), .sh (.int (a.2.2.1 : Int))])
  (fun a => smB (.tuple a.2.1) = true ∧ a.2.1[a.2.2.1]? = some a.2.2.2.1 ∧ prevOk a.2.1 a.2.2.1 a.2.2.2.2) fun a Q => Q (.cl (trErr a.1.2.1 a.2.2.2.2 a.2.2.2.1 (a.2.2.1 : Int)))
theorem cd_trainE {a c t : PD} {n : Int} {ts : List PD} {k : Nat} {prev : Option Int} {Q : Rv → Prop} (h1 : smB (.tuple ts) = true) (h2 : ts[k]? = some t) (h3 : prevOk ts k prev) (q : Q (.cl (trErr n prev t k))) : callD ctTrainE [.cl (.tuple [a, .int n, c]), .cl (.tuple ts), .cl (.int (k : Int))] Q :=
  ⟨List.nodup_nil, rfl, ((a, n, c), ts, k, t, prev), rfl, ⟨h1, h2, h3⟩, fun _ => q⟩
end Rz
namespace Rz
open PySem PySem.Spec PyProof.Rows L2
def decC : PD → Cll
  | .tuple [.str x, .int m] => (x, m)
  | _ => ("", 0)
def natD : PD → Nat
  | .int i => i.toNat
  | _ => 0
def decT : PD → Trn
  | .tuple [.int n, .tuple ds, .tuple cs] => ⟨n, ds.map natD, cs.map decC⟩
  | _ => ⟨0, [], []⟩
def decK : PD → Cal
  | .tuple [.int f, .int n, .tuple ds] => ⟨f.toNat, n.toNat, ds.map natD⟩
  | _ => ⟨0, 0, []⟩
theorem dec_cls : ∀ {cs : List PD}, (∀ d ∈ cs, isCl d = true) → (cs.map decC).map cllD = cs
  | [], _ => rfl
  | d :: r, h => by
    obtain ⟨x, m, rfl, _⟩ := isCl_two (h d List.mem_cons_self)
    rw [List.map_cons, List.map_cons, dec_cls fun e m => h e (List.mem_cons_of_mem _ m)]
    rfl
theorem dec_days {n : Int} : ∀ {ds : List PD} {p : Option Int}, daysOk n p ds = true → nats (ds.map natD) = ds
  | [], _, _ => rfl
  | d :: r, p, h => by
    unfold daysOk at h
    rw [Bool.and_eq_true, Bool.and_eq_true] at h
    obtain ⟨i, rfl, i0, i1⟩ := isBet_int h.1.1
    have z := dec_days (ds := r) h.2
    unfold nats at z ⊢
    rw [List.map_cons, List.map_cons, z]
    show PyData.int ((i.toNat : Nat) : Int) :: r = _
    rw [Int.toNat_of_nonneg i0]
theorem calls_none {v : PD} {k : Int} (h : callsErr v k = .none) : ∃ cs, v = .tuple cs ∧ ∀ d ∈ cs, isCl d = true := by
  unfold callsErr at h
  split at h
  · rename_i d r
    refine ⟨d :: r, rfl, ?_⟩
    split at h
    · rename_i e he
      exfalso
      subst h
      have : ∀ (ds : List PD) (j : Nat), callE k j ds ≠ some PyData.none := by
        intro ds
        induction ds with
        | nil => intro j z; cases z
        | cons a b ih =>
          intro j z
          unfold callE at z
          split at z
          · exact ih _ z
          · cases z
      exact this _ _ he
    · rename_i he
      exact callE_none he
  · cases h
theorem tr_none {n : Int} {prev : Option Int} {t : PD} {k : Int} (h : trErr n prev t k = .none) : trnD (decT t) = t ∧ ∃ i a cs, t = .tuple [.int i, a, .tuple cs] := by
  unfold trErr at h
  split at h
  · rename_i num days calls
    split at h
    · rename_i h1
      rw [Bool.and_eq_true] at h1
      obtain ⟨i, rfl, _, _⟩ := isBet_int h1.1
      split at h
      · rename_i h2
        rw [Bool.and_eq_true] at h2
        obtain ⟨cs, rfl, hc⟩ := calls_none h
        cases days with
        | tuple ds =>
          refine ⟨?_, i, _, cs, rfl⟩
          show PyData.tuple [.int i, .tuple (nats (ds.map natD)), .tuple ((cs.map decC).map cllD)] = _
          rw [dec_days (show daysOk n none ds = true from h2.1), dec_cls hc]
        | _ => cases h2.1
      · cases h
    · cases h
  · cases h
def trsErr (n : Int) : Nat → Option Int → List PD → Option PD
  | _, _, [] => none
  | k, prev, t :: r => if isNoneD (trErr n prev t k) then trsErr n (k + 1) (numD t) r else some (trErr n prev t k)
def calLen : PD → Int
  | .tuple [_, .int n, _] => n
  | _ => 0
def planErr (v : PD) : PD := match v with
  | .tuple [cal, trs] =>
    if isCal cal then match trs with
      | .tuple ts =>
        if ts.length ≤ 24 then match trsErr (calLen cal) 0 none ts with
          | some e => e
          | none => if (namesT [] (ts.map decT)).length ≤ 16 then (if manyC (ts.map decT) ≤ 200 then .none else .str "many") else .str "stations"
        else .str "trains"
      | _ => .str "trains"
    else .str "calendar"
  | _ => .str "form"
theorem trs_skip {n : Int} : ∀ {ts : List PD} {k : Nat} {p : Option Int}, trsErr n k p ts = none → ∀ t ∈ ts, trnD (decT t) = t ∧ ∃ i a cs, t = .tuple [.int i, a, .tuple cs]
  | [], _, _, _, t, m => by cases m
  | e :: r, k, p, h, t, m => by
    unfold trsErr at h
    split at h
    · rename_i hn
      cases m with
      | head =>
        refine tr_none (n := n) (prev := p) (k := k) ?_
        revert hn
        cases trErr n p e k <;> intro hn <;> first | rfl | cases hn
      | tail _ m => exact trs_skip h t m
    · cases h
theorem dec_trns {n : Int} {ts : List PD} {k : Nat} {p : Option Int} (h : trsErr n k p ts = none) : (ts.map decT).map trnD = ts := by
  rw [List.map_map]
  conv => rhs; rw [← List.map_id ts]
  exact List.map_congr_left fun t m => (trs_skip h t m).1
theorem decT_len {t : PD} (h : smB t = true) : (decT t).calls.length ≤ 20000 := by
  unfold decT
  split
  · have z := (sm_tup h).2
    rename_i n ds cs
    rw [List.length_map]
    exact (sm_tup (z (.tuple cs) (by simp))).1
  · exact Nat.zero_le _
theorem manyCL_le : ∀ {ts : List PD}, (∀ t ∈ ts, smB t = true) → manyC (ts.map decT) ≤ ts.length * 20000
  | [], _ => Nat.le_refl _
  | t :: r, h => by
    have a := decT_len (h t List.mem_cons_self)
    have b := manyCL_le fun e m => h e (List.mem_cons_of_mem _ m)
    have e : manyC ((t :: r).map decT) = (decT t).calls.length + manyC (r.map decT) := rfl
    rw [e, List.length_cons]
    omega
theorem sumC : ∀ ts : List Trn, (ts.map fun t => (t.calls.length : Int)).sum = (manyC ts : Int)
  | [] => rfl
  | t :: r => by
    rw [List.map_cons, List.sum_cons, sumC r]
    have e : manyC (t :: r) = t.calls.length + manyC r := rfl
    rw [e]; omega
def ctPlanE : Ct := ctOf (α := PD) (fun v => [.sh v]) (fun v => smB v = true) fun v Q => Q (.cl (planErr v))
theorem cd_planE {v : PD} {Q : Rv → Prop} (h : smB v = true) (q : Q (.cl (planErr v))) : callD ctPlanE [.cl v] Q := ⟨List.nodup_nil, rfl, v, rfl, h, fun _ => q⟩
theorem isCal_dec {d : PD} (h : isCal d = true) : calD (decK d) = d ∧ ∃ a n c, d = .tuple [a, .int n, c] := by
  unfold isCal at h
  split at h
  · rename_i a n c
    rw [Bool.and_eq_true, Bool.and_eq_true] at h
    obtain ⟨f, rfl, f0, _⟩ := isBet_int h.1.1
    obtain ⟨m, e, m0, _⟩ := isBet_int h.1.2
    cases e
    cases c with
    | tuple ds =>
      refine ⟨?_, _, _, _, rfl⟩
      show PyData.tuple [.int ((f.toNat : Nat) : Int), .int ((n.toNat : Nat) : Int), .tuple (nats (ds.map natD))] = _
      rw [dec_days (show daysOk n none ds = true from h.2), Int.toNat_of_nonneg f0, Int.toNat_of_nonneg (by omega)]
    | _ => cases h.2
  · cases h
end Rz
namespace Rz
open PySem PySem.Spec PyProof.Rows L2
end Rz
namespace Rz
open PySem PySem.Spec PyProof.Rows L2
theorem addN_iff {ks : List Str} {x y : Str} : y ∈ addN ks x ↔ y ∈ ks ∨ y = x := by
  unfold addN
  split
  · constructor
    · exact .inl
    · rintro (h | rfl)
      · exact h
      · rename_i h; simpa using h
  · simp
theorem addN_nodup {ks : List Str} {x : Str} (h : ks.Nodup) : (addN ks x).Nodup := by
  unfold addN
  split
  · exact h
  · rename_i hx
    refine List.nodup_append.mpr ⟨h, by simp, fun a ha b hb e => ?_⟩
    rw [List.mem_singleton] at hb
    subst hb; subst e
    exact hx (by simpa using ha)
theorem namesC_iff : ∀ (cs : List Cll) (ks : List Str) (y : Str), y ∈ namesC ks cs ↔ y ∈ ks ∨ ∃ c ∈ cs, c.1 = y
  | [], ks, y => by simp [namesC]
  | c :: r, ks, y => by
    show y ∈ namesC (addN ks c.1) r ↔ _
    rw [namesC_iff r, addN_iff]
    simp only [List.mem_cons, exists_eq_or_imp]
    constructor
    · rintro ((h | h) | h)
      · exact .inl h
      · exact .inr (.inl h.symm)
      · exact .inr (.inr h)
    · rintro (h | h | h)
      · exact .inl (.inl h)
      · exact .inl (.inr h.symm)
      · exact .inr h
theorem namesC_nodup : ∀ (cs : List Cll) {ks : List Str}, ks.Nodup → (namesC ks cs).Nodup
  | [], _, h => h
  | c :: r, ks, h => namesC_nodup r (ks := addN ks c.1) (addN_nodup h)
theorem namesT_iff : ∀ (ts : List Trn) (ks : List Str) (y : Str), y ∈ namesT ks ts ↔ y ∈ ks ∨ ∃ t ∈ ts, ∃ c ∈ t.calls, c.1 = y
  | [], ks, y => by simp [namesT]
  | t :: r, ks, y => by
    show y ∈ namesT (namesC ks t.calls) r ↔ _
    rw [namesT_iff r, namesC_iff]
    simp only [List.mem_cons, exists_eq_or_imp]
    rw [or_assoc]
theorem namesT_nodup : ∀ (ts : List Trn) {ks : List Str}, ks.Nodup → (namesT ks ts).Nodup
  | [], _, h => h
  | t :: r, ks, h => namesT_nodup r (ks := namesC ks t.calls) (namesC_nodup t.calls h)
end Rz
namespace Rz
open PySem PySem.Spec PyProof.Rows L2
/-- calls as plan_error wants them -/
structure CllsR (cs : List Cll) : Prop where
  ne : cs ≠ []
  nm : ∀ c ∈ cs, isNm (.str c.1) = true
  mi : ∀ c ∈ cs, 0 ≤ c.2 ∧ c.2 ≤ 2879
  asc : (cs.map (·.2)).Pairwise (· < ·)
/-- trains as plan_error wants them -/
structure TrnR (n : Nat) (t : Trn) : Prop where
  n1 : 1 ≤ t.number
  n2 : t.number ≤ 9999
  days : t.days.Sublist (List.range n)
  d0 : t.days ≠ []
  calls : CllsR t.calls
/-- plans as plan_error wants them -/
structure PlnR (p : Pln) : Prop where
  cal : CalOk 400 p.cal
  many : p.trains.length ≤ 24
  trs : ∀ t ∈ p.trains, TrnR p.cal.length t
  asc : (p.trains.map (·.number)).Pairwise (· < ·)
  names : (namesT [] p.trains).length ≤ 16
  total : manyC p.trains ≤ 200
end Rz
namespace Rz
open PySem PySem.Spec PyProof.Rows L2
structure PlnM (p : Pln) : Prop where
  cal : CalOk 30 p.cal
  many : p.trains.length ≤ 7
  num : ∀ t ∈ p.trains, 0 < t.number ∧ t.number ≤ 9999
  days : ∀ t ∈ p.trains, t.days.Sublist (List.range p.cal.length) ∧ t.days ≠ []
  calls : ∀ t ∈ p.trains, CallsOk 4 t.calls
  asc : (p.trains.map (·.number)).Pairwise (· < ·)
theorem CallsOk.mono {a b : Int} {cs : List Cll} (h : CallsOk a cs) (hab : a ≤ b) : CallsOk b cs := ⟨h.l0, by have := h.l1; omega, h.nm, h.m0, h.asc⟩
theorem sumC_le {m : Nat} : ∀ {ts : List Trn}, (∀ t ∈ ts, t.calls.length ≤ m) → manyC ts ≤ m * ts.length
  | [], _ => Nat.zero_le _
  | t :: r, h => by
    have e : manyC (t :: r) = t.calls.length + manyC r := rfl
    have a := sumC_le fun s ms => h s (List.mem_cons_of_mem _ ms)
    have b := h t List.mem_cons_self
    rw [e, List.length_cons, Nat.mul_succ]
    omega
theorem PlnM.sum {p : Pln} (h : PlnM p) : manyC p.trains ≤ 28 := by
  have a := sumC_le (m := 4) (ts := p.trains) fun t m => by have := (h.calls t m).l1; omega
  have := h.many
  omega
theorem shaped_station {x : Str} (h : x ∈ stations) : SeqAt.shaped (.str x) = true := (fit_str (station_lay h).1 _ (station_lay h).2).shaped (by decide)
theorem PlnM.shaped {p : Pln} (h : PlnM p) : ∀ t ∈ p.trains, ∀ c ∈ t.calls, SeqAt.shaped (.str c.1) = true := fun t mt c mc => shaped_station ((h.calls t mt).nm c mc)
theorem station_sm {x : Str} (h : x ∈ stations) : smB (.str x) = true := by
  simp only [stations, List.mem_cons, List.not_mem_nil, or_false] at h
  rcases h with rfl | rfl | rfl | rfl | rfl <;> decide +kernel
theorem smAll_of : ∀ {ds : List PD}, (∀ d ∈ ds, smB d = true) → smAll ds = true
  | [], _ => rfl
  | d :: r, h => by
    unfold smAll
    rw [h d List.mem_cons_self, smAll_of fun e m => h e (List.mem_cons_of_mem _ m)]; rfl
theorem sm_of_tup {ds : List PD} (hl : ds.length ≤ 20000) (h : ∀ d ∈ ds, smB d = true) : smB (.tuple ds) = true := by
  unfold smB
  rw [smAll_of h, decide_eq_true hl]; rfl
theorem sm_nats {zs : List Nat} (h : zs.length ≤ 20000) : smB (.tuple (nats zs)) = true := sm_of_tup (by rw [nats_len]; exact h) fun d m => by
  obtain ⟨z, _, rfl⟩ := List.mem_map.mp m
  rfl
theorem PlnM.sm {p : Pln} (h : PlnM p) : smB (plnD p) = true := by
  have hl := h.cal.l1
  have nl : ∀ {zs : List Nat}, zs.Sublist (List.range p.cal.length) → zs.length ≤ 20000 := fun hs => by
    have := hs.length_le
    rw [List.length_range] at this
    omega
  refine sm_of_tup (by simp only [List.length_cons, List.length_nil]; omega) fun d m => ?_
  simp only [List.mem_cons, List.not_mem_nil, or_false] at m
  rcases m with rfl | rfl
  · refine sm_of_tup (by simp only [List.length_cons, List.length_nil]; omega) fun d m => ?_
    simp only [List.mem_cons, List.not_mem_nil, or_false] at m
    rcases m with rfl | rfl | rfl
    · rfl
    · rfl
    · exact sm_nats (nl h.cal.hs)
  · refine sm_of_tup (by have := h.many; rw [List.length_map]; omega) fun d m => ?_
    obtain ⟨t, mt, rfl⟩ := List.mem_map.mp m
    refine sm_of_tup (by simp only [List.length_cons, List.length_nil]; omega) fun d m => ?_
    simp only [List.mem_cons, List.not_mem_nil, or_false] at m
    rcases m with rfl | rfl | rfl
    · rfl
    · exact sm_nats (nl (h.days t mt).1)
    · refine sm_of_tup (by have := (h.calls t mt).l1; rw [List.length_map]; omega) fun d m => ?_
      obtain ⟨c, mc, rfl⟩ := List.mem_map.mp m
      refine sm_of_tup (by simp only [List.length_cons, List.length_nil]; omega) fun d m => ?_
      simp only [List.mem_cons, List.not_mem_nil, or_false] at m
      rcases m with rfl | rfl
      · exact station_sm ((h.calls t mt).nm c mc)
      · rfl
theorem cut_tail {α : Type} {d : α} {ds : List α} : cut (d :: ds) (some 1) none = ds := by
  have h1 : HT.sIx (d :: ds).length 0 (some 1) = 1 := by
    have e := HT.sIx_nat (d :: ds).length 0 1
    rw [List.length_cons] at e ⊢
    exact e.trans (by omega)
  unfold cut
  rw [h1, HT.sIx_none]
  show ((d :: ds).drop 1).take _ = ds
  rw [List.drop_one, List.tail_cons, List.length_cons, Nat.add_sub_cancel, List.take_length]
theorem t_slT {ds es : List PD} {lo hi : Option Int} {Q : Rv → Prop} (e : cut ds lo hi = es) (q : Q (.cl (.tuple es))) : oSl (.cl (.tuple ds)) lo hi Q := by
  subst e
  show Q (mk false _)
  rw [mk_f]; exact q
theorem t_addT {a b : List PD} {Q : Rv → Prop} (hl : a.length + b.length ≤ sizeLine) (q : Q (.cl (.tuple (a ++ b)))) : oAdd (.cl (.tuple a)) (.cl (.tuple b)) Q := by
  show _ ∧ Q (mk false _)
  rw [mk_f]; exact ⟨hl, q⟩
theorem PlnM.more {c : Cal} {ts : List Trn} {t : Trn} (h : PlnM ⟨c, ts⟩) (hl : ts.length ≤ 6) (hn : 0 < t.number ∧ t.number ≤ 9999) (ha : ∀ s ∈ ts, s.number < t.number) (hd : t.days.Sublist (List.range c.length) ∧ t.days ≠ []) (hc : CallsOk 4 t.calls) : PlnM ⟨c, ts ++ [t]⟩ := by
  have g : ∀ {P : Trn → Prop}, (∀ s ∈ ts, P s) → P t → ∀ s ∈ ts ++ [t], P s := fun h1 h2 s m => by
    rcases List.mem_append.mp m with q | q
    · exact h1 s q
    · rw [List.mem_singleton] at q; subst q; exact h2
  refine ⟨h.cal, by show (ts ++ [t]).length ≤ 7; rw [List.length_append, List.length_singleton]; omega, g h.num hn, g h.days hd, g h.calls hc, ?_⟩
  show ((ts ++ [t]).map (·.number)).Pairwise (· < ·)
  rw [List.map_append, List.pairwise_append]
  refine ⟨h.asc, List.pairwise_singleton _ _, fun a ma b mb => ?_⟩
  obtain ⟨s, ms, rfl⟩ := List.mem_map.mp ma
  rw [List.map_singleton, List.mem_singleton] at mb
  subst mb
  exact ha s ms
end Rz
namespace Rz
open PySem PySem.Spec PyProof.Rows L2
abbrev noS (w : World) : Obj := { cls := .type "set", dict := none, data := .set #[] 0 (.fresh 0 0 (!w.params.followText "set-order")) }
end Rz
namespace Rz
open PySem PySem.Spec PyProof.Rows L2
variable {X : Cx} {P : Par}
def rSetL (w : World) : List V → Hp → VK → Prop := fun xs H Q => ∃ (l : Addr) (ns : List Int), xs = [V.ref l] ∧ H l = some (.lst (ns.map V.int)) ∧ ns.length + 1 < scanBound ∧ ∀ a c, H a = none → c ≤ ns.length → Q (.ref a) (upd H a (SetO w a (fun j => decide (j ∈ ns)) c))
theorem bt_set : bootBuiltins "set" = some (.type "set") := by decide +kernel
end Rz
namespace Rz
open PySem PySem.Spec PyProof.Rows L2
end Rz
namespace Rz
open PySem PySem.Spec PyProof.Rows L2
variable {X : Cx} {P : Par}
theorem vals2 {x y : V} {us : List Value} (h : Vals [x, y] us) : ∃ u v, us = [u, v] ∧ RelV x u ∧ RelV y v := by
  cases h with
  | cons a t =>
    cases t with
    | cons b t => cases t; exact ⟨_, _, rfl, a, b⟩
end Rz
namespace Rz
open PySem PySem.Spec PyProof.Rows L2
def dayKind (c : Cal) (d : Nat) : Nat := if d ∈ c.hols then 7 else (c.first + d) % 7
def clsU (c : Cal) (n k : Nat) : List Nat := (List.range n).filter fun d => dayKind c d == k
def clsOf (c : Cal) (k : Nat) : List Nat := clsU c c.length k
theorem ints_alike (zs : List Int) : PySem.W.AllAlike (zs.map PyData.int) := fun d m e n => by
  obtain ⟨y, _, rfl⟩ := List.mem_map.mp m
  obtain ⟨z, _, rfl⟩ := List.mem_map.mp n
  unfold PySem.W.alike; rfl
theorem le_int {a b : Int} (h : a ≤ b) : PySem.W.dataLe false id (.int a) (.int b) = true := by
  have e := congrFun (congrFun (PySem.W.dataLe_int (β := Int) id) a) b
  have e2 : PySem.W.dataLe false id (PyData.int a) (.int b) = PySem.W.dataLe false (fun b : Int => PyData.int (id b)) a b := rfl
  rw [e2, e]
  exact decide_eq_true h
theorem sort_asc {zs : List Int} (h : zs.Pairwise (· ≤ ·)) : sortD (zs.map PyData.int) = zs.map PyData.int := by
  refine List.mergeSort_of_pairwise ?_
  rw [List.pairwise_map]
  exact h.imp fun h => le_int h
theorem nats_ints (zs : List Nat) : nats zs = (zs.map fun z : Nat => (z : Int)).map PyData.int := by
  unfold nats; rw [List.map_map]; rfl
theorem sort_nats {zs ys : List Nat} (h : zs.Perm ys) (hy : ys.Pairwise (· < ·)) : sortD (nats zs) = nats ys := by
  rw [nats_ints, nats_ints, sortD_perm ((h.map _).map _) (ints_alike _), sort_asc]
  rw [List.pairwise_map]
  exact hy.imp fun h => by omega
theorem ixN_lt {n k : Nat} (h : k < n) : ixN n (k : Int) = some k := by
  unfold ixN
  rw [if_pos (by omega), if_pos (by omega)]; rfl
end Rz
namespace Rz
open PySem PySem.Spec PyProof.Rows L2
theorem CalOk.mono {a b : Int} {c : Cal} (h : CalOk a c) (hab : a ≤ b) : CalOk b c := ⟨h.f7, h.l0, by have := h.l1; omega, h.hs⟩
end Rz
namespace Rz
open PySem PySem.Spec PyProof.Rows L2
section
variable {X : Cx} {w : World} {K : PySem.W.Frag} {pins : List (Addr × Obj)} {σ : Sg} {H : Hp} {s : Shared}
mutual
theorem Rep.shows (I : Inv X pins σ H s) (hK : X.K = K) : ∀ {d : PD} {v : V} {u : Value}, Rep w K H v d → RelV v u → d.showable = true → d.shown.length ≤ sizeLine → ∃ bs, ReadAtMost s.heap d.depth bs ∧ ReprK X.prog X.w bs s.heap d.depth u d.shown
  | .none, _, _, h, r, _, _ => by
    cases h; cases r
    exact ⟨[], (fun _ m => nomatch m), by simp only [PyData.shown]; exact .of_is ReprIs.none _ _ _⟩
  | .bool b, _, _, h, r, _, _ => by
    cases h; cases r
    exact ⟨[], (fun _ m => nomatch m), by simp only [PyData.shown]; exact .of_is (ReprIs.bool b) _ _ _⟩
  | .int i, _, _, h, r, hs, _ => by
    cases h; obtain ⟨t, rfl⟩ := r
    exact ⟨[], (fun _ m => nomatch m), by simp only [PyData.shown]; exact .of_is (ReprIs.int t (by simpa [PyData.showable] using hs)) _ _ _⟩
  | .str x, _, _, h, r, _, hz => by
    cases h; obtain ⟨t, rfl⟩ := r
    exact ⟨[], (fun _ m => nomatch m), by simp only [PyData.shown]; exact .of_is (ReprIs.str x t (by simpa only [PyData.shown] using hz)) _ _ _⟩
  | .list ds, _, _, h, r, hs, hz => by
    have hz1 : (listText (PyData.shownAll ds)).length ≤ sizeLine := by simpa only [PyData.shown] using hz
    obtain ⟨as, rd⟩ := Rep.reads I hK h r (noIns_show hs)
    cases h with
    | @lst a xs _ e q =>
      cases r
      obtain ⟨its, rv, ⟨o, n, ho, hc, _, hd⟩, _⟩ := I.list (.of e)
      obtain ⟨bs, hb, hk⟩ := Reps.shows I hK q rv (by simpa [PyData.showable] using hs) fun t m => Nat.le_trans (listText_mem_le m) hz1
      have hna : a ∉ bs := not_mem_of_deeper rd (by simp only [PyData.depth]; omega) hb
      refine ⟨a :: bs, ReadAtMost.cons rd (by simp only [PyData.depth]; omega) hb, ?_⟩
      simp only [PyData.depth, PyData.shown]
      cases its with
      | nil =>
        cases rv; cases q
        simp only [PyData.shownAll, listText_nil]
        exact ReprK.listEmpty ho hc hd
      | cons x l => exact ReprK.list ho hc hd hna (by simpa using hk.length_eq) fun i y e => hk.item i y (by simpa using e)
  | .tuple ds, _, _, h, r, hs, hz => by
    have hz1 : (tupleText (PyData.shownAll ds)).length ≤ sizeLine := by simpa only [PyData.shown] using hz
    obtain ⟨as, rd⟩ := Rep.reads I hK h r (noIns_show hs)
    cases h with
    | @tup a xs _ e q =>
      cases r
      obtain ⟨its, rv, ⟨o, ho, hc, n, hd⟩, _⟩ := I.tuple (by rw [hK]; exact e)
      obtain ⟨bs, hb, hk⟩ := Reps.shows I hK q rv (by simpa [PyData.showable] using hs) fun t m => Nat.le_trans (tupleText_mem_le m) hz1
      have hna : a ∉ bs := not_mem_of_deeper rd (by simp only [PyData.depth]; omega) hb
      refine ⟨a :: bs, ReadAtMost.cons rd (by simp only [PyData.depth]; omega) hb, ?_⟩
      simp only [PyData.depth, PyData.shown]
      exact ReprK.tuple ho hc hd hna (by simpa using hk)
  | .dict kvs, _, _, h, r, hs, hz => by
    have hz1 : (dictText (PyData.shownKv kvs)).length ≤ sizeLine := by simpa only [PyData.shown] using hz
    obtain ⟨as, rd⟩ := Rep.reads I hK h r (noIns_show hs)
    cases h with
    | @dct a es _ _ e q _ =>
      cases r
      obtain ⟨⟨hsys, _, o, ho, hx, hd⟩, _⟩ := I.hok _ _ e
      obtain ⟨s1, s2⟩ := PyData.showableKv_split kvs (by simpa [PyData.showable] using hs)
      obtain ⟨⟨b1, hb1, k1⟩, b2, hb2, k2⟩ := RepsE.shows I hK q s1 s2 (fun t m => by
        obtain ⟨p, hp, hl⟩ := PyData.shownKv_key_le kvs t m
        exact Nat.le_trans hl (Nat.le_trans (dictText_mem_le hp) hz1)) fun t m => by
        obtain ⟨p, hp, hl⟩ := PyData.shownKv_val_le kvs t m
        exact Nat.le_trans hl (Nat.le_trans (dictText_mem_le hp) hz1)
      have hb : ReadAtMost s.heap (PyData.depthKv kvs) (b1 ++ b2) := (hb1.mono (PyData.depthAll_keys_le kvs)).append (hb2.mono (PyData.depthAll_vals_le kvs))
      have hna : a ∉ b1 ++ b2 := not_mem_of_deeper rd (by simp only [PyData.depth]; omega) hb
      refine ⟨a :: (b1 ++ b2), ReadAtMost.cons rd (by simp only [PyData.depth]; omega) hb, ?_⟩
      simp only [PyData.depth, PyData.shown, PyData.shownKv_eq]
      refine ReprK.dict ho hx.1 hd hsys hna (ReprEntriesK.of_two _ _ _ ?_ ?_)
      · simpa using k1.more_le (fun b m => List.mem_append_left b2 m) (PyData.depthAll_keys_le kvs)
      · simpa using k2.more_le (fun b m => List.mem_append_right b1 m) (PyData.depthAll_vals_le kvs)
    | ins _ _ _ q => cases q; rw [PyData.showable] at hs; have := isIns_show hs; rw [isIns_tag] at this; cases this
theorem Reps.shows (I : Inv X pins σ H s) (hK : X.K = K) : ∀ {ds : List PD} {vs : List V} {us : List Value}, Reps w K H vs ds → Vals vs us → PyData.showableAll ds = true → (∀ t ∈ PyData.shownAll ds, t.length ≤ sizeLine) →
    ∃ bs, ReadAtMost s.heap (PyData.depthAll ds) bs ∧ ReprAllK X.prog X.w bs s.heap (PyData.depthAll ds) us (PyData.shownAll ds)
  | [], _, _, h, r, _, _ => by
    cases h; cases r
    exact ⟨[], (fun _ m => nomatch m), by simp only [PyData.shownAll]; exact .nil⟩
  | d :: ds, _, _, h, r, hs, hz => by
    have hs : d.showable = true ∧ PyData.showableAll ds = true := by simpa [PyData.showableAll] using hs
    cases h with
    | cons a b =>
      cases r with
      | cons r1 r2 =>
        obtain ⟨b1, hb1, k1⟩ := Rep.shows I hK a r1 hs.1 (hz _ (by simp only [PyData.shownAll]; exact List.mem_cons_self))
        obtain ⟨b2, hb2, k2⟩ := Reps.shows I hK b r2 hs.2 fun t m => hz t (by simp only [PyData.shownAll]; exact List.mem_cons_of_mem _ m)
        refine ⟨b1 ++ b2, fun x m => ?_, ?_⟩
        · simp only [PyData.depthAll]
          rcases List.mem_append.mp m with m | m
          · obtain ⟨d', as', r', hd'⟩ := hb1 x m
            exact ⟨d', as', r', Nat.le_trans hd' (Nat.le_max_left _ _)⟩
          · obtain ⟨d', as', r', hd'⟩ := hb2 x m
            exact ⟨d', as', r', Nat.le_trans hd' (Nat.le_max_right _ _)⟩
        · simp only [PyData.depthAll, PyData.shownAll]
          exact .cons ((k1.more fun x m => List.mem_append_left _ m).level_le (Nat.le_max_left _ _)) (k2.more_le (fun x m => List.mem_append_right _ m) (Nat.le_max_right _ _))
theorem RepsE.shows (I : Inv X pins σ H s) (hK : X.K = K) : ∀ {kvs : List (PD × PD)} {es : List DictEntry}, RepsE w K H es kvs → PyData.showableAll (kvs.map (·.1)) = true → PyData.showableAll (kvs.map (·.2)) = true →
    (∀ t ∈ PyData.shownAll (kvs.map (·.1)), t.length ≤ sizeLine) → (∀ t ∈ PyData.shownAll (kvs.map (·.2)), t.length ≤ sizeLine) →
    (∃ bs, ReadAtMost s.heap (PyData.depthAll (kvs.map (·.1))) bs ∧ ReprAllK X.prog X.w bs s.heap (PyData.depthAll (kvs.map (·.1))) (es.map (·.key)) (PyData.shownAll (kvs.map (·.1)))) ∧
    ∃ bs, ReadAtMost s.heap (PyData.depthAll (kvs.map (·.2))) bs ∧ ReprAllK X.prog X.w bs s.heap (PyData.depthAll (kvs.map (·.2))) (es.map (·.val)) (PyData.shownAll (kvs.map (·.2)))
  | [], _, h, _, _, _, _ => by
    cases h
    exact ⟨⟨[], (fun _ m => nomatch m), by simp only [List.map_nil, PyData.shownAll]; exact .nil⟩, [], (fun _ m => nomatch m), by simp only [List.map_nil, PyData.shownAll]; exact .nil⟩
  | (k, v) :: kvs, _, h, s1, s2, z1, z2 => by
    cases h with
    | cons e1 e2 e3 e4 e5 e6 =>
      have s1 : k.showable = true ∧ PyData.showableAll (kvs.map (·.1)) = true := by simpa [PyData.showableAll] using s1
      have s2 : v.showable = true ∧ PyData.showableAll (kvs.map (·.2)) = true := by simpa [PyData.showableAll] using s2
      simp only [List.map_cons, PyData.shownAll] at z1 z2
      obtain ⟨b1, hb1, k1⟩ := Rep.shows I hK e3 e2 s1.1 (z1 _ List.mem_cons_self)
      obtain ⟨b2, hb2, k2⟩ := Rep.shows I hK e5 e4 s2.1 (z2 _ List.mem_cons_self)
      obtain ⟨⟨c1, hc1, l1⟩, c2, hc2, l2⟩ := RepsE.shows I hK e6 s1.2 s2.2 (fun t m => z1 t (List.mem_cons_of_mem _ m)) fun t m => z2 t (List.mem_cons_of_mem _ m)
      have both : ∀ {m n : Nat} {b c : List Addr}, ReadAtMost s.heap m b → ReadAtMost s.heap n c → ReadAtMost s.heap (max m n) (b ++ c) := fun h1 h2 => (h1.mono (Nat.le_max_left _ _)).append (h2.mono (Nat.le_max_right _ _))
      refine ⟨⟨b1 ++ c1, ?_, ?_⟩, b2 ++ c2, ?_, ?_⟩
      · simp only [List.map_cons, PyData.depthAll]; exact both hb1 hc1
      · simp only [List.map_cons, PyData.depthAll, PyData.shownAll]
        exact .cons ((k1.more fun x m => List.mem_append_left _ m).level_le (Nat.le_max_left _ _)) (l1.more_le (fun x m => List.mem_append_right _ m) (Nat.le_max_right _ _))
      · simp only [List.map_cons, PyData.depthAll]; exact both hb2 hc2
      · simp only [List.map_cons, PyData.depthAll, PyData.shownAll]
        exact .cons ((k2.more fun x m => List.mem_append_left _ m).level_le (Nat.le_max_left _ _)) (l2.more_le (fun x m => List.mem_append_right _ m) (Nat.le_max_right _ _))
end
end
end Rz
namespace Rz
open PySem PySem.Spec PyProof.Rows L2
variable {X : Cx} {P : Par}
theorem nohold {b : Addr} {as : List Addr} : ∀ x ∈ b :: as, Clear [] x := fun x _ => Clear.nil x
def reprR (w : World) (K : PySem.W.Frag) : V → Hp → VK → Prop := fun x H Q => ∃ d : PD, Rep w K H x d ∧ ((∃ ds, d = .tuple ds) ∨ (∃ e es, d = .list (e :: es)) ∨ ∃ kvs, d = .dict kvs) ∧ d.showable = true ∧ d.depth ≤ 64 ∧ d.shown.length ≤ sizeLine ∧ Q (.str d.shown) H
theorem cr_reprR (F : CxF X P) : CallR X (.builtin "repr") (fun xs H Q => ∃ x, xs = [x] ∧ reprR P.w P.K x H Q) := callr1 fun pins s σ H x v Q I rx ⟨d, r, hd, h1, h3, h4, q⟩ => by
  obtain ⟨as, rd⟩ := r.reads I F.K rx (noIns_show h1)
  rcases hd with ⟨ds, rfl⟩ | ⟨e0, es, rfl⟩ | ⟨kvs, rfl⟩
  · have hz1 : (tupleText (PyData.shownAll ds)).length ≤ sizeLine := by simpa only [PyData.shown] using h4
    simp only [PyData.shown] at q
    have h3 : PyData.depthAll ds + 1 ≤ 64 := by simpa only [PyData.depth] using h3
    cases r with
    | @tup a xs _ e p =>
      cases rx
      obtain ⟨its, rv, ⟨o, ho, hc, n, hd⟩, _⟩ := I.tuple (by rw [F.K]; exact e)
      obtain ⟨bs, hb, hk⟩ := Reps.shows I F.K p rv (by simpa [PyData.showable] using h1) fun t m => Nat.le_trans (tupleText_mem_le m) hz1
      have hna : a ∉ bs := not_mem_of_deeper rd (by simp only [PyData.depth]; omega) hb
      refine call_repr_slot (by have := F.un; omega) ⟨o, ho, hc⟩ PySem.F.slot_tuple_repr ?_
      refine call_tuple_reprK ho hc hd hna (by simpa using hk) (show X.A.in1.guards = some [] from F.gu) nohold ?_ (fun _ _ z => z) (fun h' u tk kp => ⟨_, _, rfl, .str (tupleText (PyData.shownAll ds)), H, I.kept (t' := tk) kp, ⟨u, rfl⟩, q⟩) hz1
      show X.A.units + 1 + (PyData.depthAll ds + 1) < cLine
      have := F.un; omega
  · have hz1 : (listText (PyData.shownAll (e0 :: es))).length ≤ sizeLine := by simpa only [PyData.shown] using h4
    simp only [PyData.shown] at q
    have h3 : PyData.depthAll (e0 :: es) + 1 ≤ 64 := by simpa only [PyData.depth] using h3
    cases r with
    | @lst a xs _ e p =>
      cases rx
      obtain ⟨its, rv, ⟨o, n, ho, hc, _, hd⟩, _⟩ := I.list (.of e)
      obtain ⟨bs, hb, hk⟩ := Reps.shows I F.K p rv (by simpa [PyData.showable] using h1) fun t m => Nat.le_trans (listText_mem_le m) hz1
      have hna : a ∉ bs := not_mem_of_deeper rd (by simp only [PyData.depth]; omega) hb
      refine call_repr_slot (by have := F.un; omega) ⟨o, ho, hc⟩ PySem.F.slot_list_repr.toG ?_
      cases its with
      | nil => cases rv; cases p
      | cons y l =>
        refine call_list_reprK ho hc hd hna (by simpa using hk.length_eq) (fun i z ez => hk.item i z (by simpa using ez)) (show X.A.in1.guards = some [] from F.gu) nohold ?_ (fun _ _ z => z) (fun h' u tk kp => ⟨_, _, rfl, .str (listText (PyData.shownAll (e0 :: es))), H, I.kept (t' := tk) kp, ⟨u, rfl⟩, q⟩) hz1
        show X.A.units + 1 + (PyData.depthAll (e0 :: es) + 1) < cLine
        have := F.un; omega
  · have hz1 : (dictText (PyData.shownKv kvs)).length ≤ sizeLine := by simpa only [PyData.shown] using h4
    simp only [PyData.shown] at q
    have h3 : PyData.depthKv kvs + 1 ≤ 64 := by simpa only [PyData.depth] using h3
    cases r with
    | @dct a es _ _ e p _ =>
      cases rx
      obtain ⟨⟨hsys, _, o, ho, hx, hd⟩, _⟩ := I.hok _ _ e
      obtain ⟨s1, s2⟩ := PyData.showableKv_split kvs (by simpa [PyData.showable] using h1)
      obtain ⟨⟨b1, hb1, k1⟩, b2, hb2, k2⟩ := RepsE.shows I F.K p s1 s2 (fun t m => by
        obtain ⟨p, hp, hl⟩ := PyData.shownKv_key_le kvs t m
        exact Nat.le_trans hl (Nat.le_trans (dictText_mem_le hp) hz1)) fun t m => by
        obtain ⟨p, hp, hl⟩ := PyData.shownKv_val_le kvs t m
        exact Nat.le_trans hl (Nat.le_trans (dictText_mem_le hp) hz1)
      have hb : ReadAtMost s.heap (PyData.depthKv kvs) (b1 ++ b2) := (hb1.mono (PyData.depthAll_keys_le kvs)).append (hb2.mono (PyData.depthAll_vals_le kvs))
      have hna : a ∉ b1 ++ b2 := not_mem_of_deeper rd (by simp only [PyData.depth]; omega) hb
      refine call_repr_slot (by have := F.un; omega) ⟨o, ho, hx.1⟩ PySem.F.slot_dict_repr ?_
      refine call_dict_reprK ho hx.1 hd hsys hna (ReprEntriesK.of_two _ _ _ (by simpa using k1.more_le (fun b m => List.mem_append_left b2 m) (PyData.depthAll_keys_le kvs)) (by simpa using k2.more_le (fun b m => List.mem_append_right b1 m) (PyData.depthAll_vals_le kvs))) (show X.A.in1.guards = some [] from F.gu) nohold ?_ (fun _ _ z => z) (fun h' u tk kp => ⟨_, _, rfl, .str (dictText (PyData.shownKv kvs)), H, I.kept (t' := tk) kp, ⟨u, by rw [PyData.shownKv_eq]⟩, q⟩) (by rw [← PyData.shownKv_eq]; exact hz1)
      show X.A.units + 1 + (PyData.depthKv kvs + 1) < cLine
      have := F.un; omega
    | ins _ _ _ q => cases q; rw [PyData.showable] at h1; have := isIns_show h1; rw [isIns_tag] at this; cases this
abbrev bReprX (x : Rv) (Q : Rv → Prop) : Prop := bRepr x Q ∨ (x.data = true ∧ ((∃ ds, x.val = .tuple ds) ∨ (∃ e es, x.val = .list (e :: es)) ∨ ∃ kvs, x.val = .dict kvs) ∧ x.val.showable = true ∧ x.val.depth ≤ 64 ∧ x.val.shown.length ≤ sizeLine ∧ Q (.cl (.str x.val.shown)))
theorem dc_reprX (F : CxF X P) : DCall X P (.builtin "repr") (fun rs Q => ∃ x, rs = [x] ∧ bReprX x Q) := by
  have h2 : DCall X P (.builtin "repr") (fun rs Q => ∃ x, rs = [x] ∧ (x.data = true ∧ ((∃ ds, x.val = .tuple ds) ∨ (∃ e es, x.val = .list (e :: es)) ∨ ∃ kvs, x.val = .dict kvs) ∧ x.val.showable = true ∧ x.val.depth ≤ 64 ∧ x.val.shown.length ≤ sizeLine ∧ Q (.cl (.str x.val.shown)))) :=
    dcall1 (cr_reprR F) <| by
      intro ρ σ H0 G0 F0 H G F' x r1 L1 Q Q' s o1 n1 ⟨d, hd, h1, h3, h4, q⟩ k
      exact ⟨_, o1.rep d s.st.le, hd, h1, h3, h4, k.val s (.str _) q⟩
  refine ((dc_repr F).or h2).imp fun rs Q h => ?_
  obtain ⟨x, e, h⟩ := h
  exact h.elim (fun h => .inl ⟨x, e, h⟩) fun h => .inr ⟨x, e, h⟩
theorem reprX_ {e : Expr} {es : List Expr} {p pos : Pos} {ta : TDa} (C : CxF X P) (m : X.mg "repr" = none) (ha : JA X P (e :: es) ta) (hg : Gl X "repr" := by rfl) (he : starEach (e :: es) X.env = (false, eval e X.env) :: starEach es X.env := by rfl) (hpl : (backTo pos (starEach es X.env)).any (·.1) = false := by rfl) :
    JE X P (.Call (.Name "repr" p) (e :: es) [] pos) (fun ρ Q => ta ρ fun rs => ∃ x, rs = [x] ∧ bReprX x Q) := je_callB (dc_reprX C) hg m bt_repr ha (by decide) (by decide) he hpl
theorem bt_max : bootBuiltins "max" = some (.builtin "max") := by decide +kernel
theorem max2_ {e : Expr} {es : List Expr} {p pos : Pos} {ta : TDa} (C : CxF X P) (m : X.mg "max" = none) (ha : JA X P (e :: es) ta) (hg : Gl X "max" := by rfl) (he : starEach (e :: es) X.env = (false, eval e X.env) :: starEach es X.env := by rfl) (hpl : (backTo pos (starEach es X.env)).any (·.1) = false := by rfl) :
    JE X P (.Call (.Name "max" p) (e :: es) [] pos) (fun ρ Q => ta ρ fun rs => ∃ x y, rs = [x, y] ∧ bMax2 x y Q) := je_callB (dc_max2 C) hg m bt_max ha (by decide) (by decide) he hpl
end Rz
namespace Rz
open PySem PySem.Spec PyProof.Rows L2
def ctCalS : Ct := ctOf (α := PD) (fun v => [.sh v]) (fun v => smB v = true) fun v Q => Q (.cl (.bool (isCal v)))
theorem cd_calS {v : PD} {Q : Rv → Prop} (h : smB v = true) (q : Q (.cl (.bool (isCal v)))) : callD ctCalS [.cl v] Q := ⟨List.nodup_nil, rfl, v, rfl, h, fun _ => q⟩
def ctRise : Ct := ctOf (α := PD × Int) (fun a => [.sh a.1, .sh (.int 0), .sh (.int a.2)]) (fun a => smB a.1 = true) fun a Q => Q (.cl (.bool (areDays a.1 (a.2 + 1))))
theorem cd_rise {v : PD} {hi : Int} {Q : Rv → Prop} (h : smB v = true) (q : Q (.cl (.bool (areDays v (hi + 1))))) : callD ctRise [.cl v, .cl (.int 0), .cl (.int hi)] Q := ⟨List.nodup_nil, rfl, (v, hi), rfl, h, fun _ => q⟩
/-- a list of ones -/
abbrev ones (n : Nat) : List PD := List.replicate n (.int 1)
theorem ones_imm : ∀ n, immAll (ones n) = true
  | 0 => rfl
  | n + 1 => by
    show (true && immAll (ones n)) = true
    rw [ones_imm n]; rfl
theorem ones_lay : ∀ n, PyData.canLayAll0 (ones n) = true
  | 0 => by unfold ones; rfl
  | n + 1 => by
    rw [show ones (n + 1) = .int 1 :: ones n from rfl]
    unfold PyData.canLayAll0 PyData.canLay0
    exact ones_lay n
theorem ones_depth : ∀ n, PyData.depthAll (ones n) = 0
  | 0 => by unfold ones; rfl
  | n + 1 => by
    rw [show ones (n + 1) = .int 1 :: ones n from rfl]
    unfold PyData.depthAll PyData.depth
    rw [ones_depth n]; rfl
theorem ones_shaped (n : Nat) : SeqAt.shaped (.list (ones n)) = true := by
  unfold SeqAt.shaped PyData.canLay0 PyData.depth
  rw [ones_lay, ones_depth]; rfl
theorem eqv_nilL : ∀ ds : List PD, PyData.eqv (.list ds) (.list []) = ds.isEmpty
  | [] => by simp [PyData.eqv, PyData.eqvAll]
  | d :: ds => by simp [PyData.eqv, PyData.eqvAll]
theorem nilL_shaped : SeqAt.shaped (.list []) = true := by
  unfold SeqAt.shaped PyData.canLay0 PyData.depth; rfl
/-- [1 for ..] != [] -/
theorem t_onesNe {α : Type} {x y : Rv} {xs : List α} {p : α → Bool} {Q : Rv → Prop} (dx : x.data = true) (dy : y.data = true) (hx : x.val = .list ((xs.filter p).map fun _ => PyData.int 1)) (hy : y.val = .list []) (q : Q (.cl (.bool (xs.any p)))) : oNe x y Q := by
  have e : (xs.filter p).map (fun _ => PyData.int 1) = ones (xs.filter p).length := by rw [List.map_const']
  rw [e] at hx
  refine ⟨dx, dy, ⟨by rw [hx]; exact ones_shaped _, by rw [hy]; exact nilL_shaped⟩, ?_⟩
  rw [hx, hy, eqv_nilL]
  have e2 : (!(ones (xs.filter p).length).isEmpty) = xs.any p := by
    cases h : xs.any p with
    | true =>
      obtain ⟨z, mz, hz⟩ := List.any_eq_true.mp h
      have : z ∈ xs.filter p := List.mem_filter.mpr ⟨mz, hz⟩
      cases hf : xs.filter p with
      | nil => rw [hf] at this; cases this
      | cons _ _ => rfl
    | false =>
      have : xs.filter p = [] := List.filter_eq_nil_iff.mpr fun z mz hz => by
        rw [List.any_eq_false] at h
        exact h z mz hz
      rw [this]; rfl
  rw [e2]; exact q
theorem t_onesEq {α : Type} {x y : Rv} {xs : List α} {p : α → Bool} {Q : Rv → Prop} (dx : x.data = true) (dy : y.data = true) (hx : x.val = .list ((xs.filter p).map fun _ => PyData.int 1)) (hy : y.val = .list []) (q : Q (.cl (.bool (!xs.any p)))) : oEq x y Q := by
  have e : (xs.filter p).map (fun _ => PyData.int 1) = ones (xs.filter p).length := by rw [List.map_const']
  rw [e] at hx
  refine ⟨dx, dy, ⟨by rw [hx]; exact ones_shaped _, by rw [hy]; exact nilL_shaped⟩, ?_⟩
  rw [hx, hy, eqv_nilL]
  have e2 : (ones (xs.filter p).length).isEmpty = !xs.any p := by
    cases h : xs.any p with
    | true =>
      obtain ⟨z, mz, hz⟩ := List.any_eq_true.mp h
      have : z ∈ xs.filter p := List.mem_filter.mpr ⟨mz, hz⟩
      cases hf : xs.filter p with
      | nil => rw [hf] at this; cases this
      | cons _ _ => rfl
    | false =>
      have : xs.filter p = [] := List.filter_eq_nil_iff.mpr fun z mz hz => by
        rw [List.any_eq_false] at h
        exact h z mz hz
      rw [this]; rfl
  rw [e2]; exact q
/-- ascending whole numbers -/
def pairsI : List Int → List (Int × Int)
  | a :: b :: r => (a, b) :: pairsI (b :: r)
  | _ => []
theorem days_all {hi : Int} : ∀ {ds : List PD} {p : Option Int}, daysOk (hi + 1) p ds = true → ds.all (fun d => isBet d 0 hi) = true
  | [], _, _ => rfl
  | d :: r, p, h => by
    unfold daysOk at h
    rw [Bool.and_eq_true, Bool.and_eq_true, show hi + 1 - 1 = hi by omega] at h
    obtain ⟨⟨h1, _⟩, h3⟩ := h
    obtain ⟨i, rfl, _, _⟩ := isBet_int h1
    rw [List.all_cons, h1, days_all h3]; rfl
theorem days_pairs {hi : Int} : ∀ {zs : List Int} {p : Option Int}, (∀ z ∈ zs, isBet (.int z) 0 hi = true) → daysOk (hi + 1) p (zs.map PyData.int) = ((match p, zs with
    | some j, z :: _ => decide (j < z)
    | _, _ => true) && !(pairsI zs).any fun q => decide (q.1 ≥ q.2))
  | [], p, _ => by cases p <;> rfl
  | [z], p, h => by
    have b := h z (by simp)
    show (isBet (.int z) 0 (hi + 1 - 1) && _ && true) = _
    rw [show hi + 1 - 1 = hi by omega, b]
    cases p <;> simp [pairsI]
  | z :: y :: r, p, h => by
    have b := h z (by simp)
    have ih := days_pairs (zs := y :: r) (p := some z) fun x m => h x (List.mem_cons_of_mem _ m)
    show (isBet (.int z) 0 (hi + 1 - 1) && _ && daysOk (hi + 1) (some z) ((y :: r).map PyData.int)) = _
    rw [show hi + 1 - 1 = hi by omega, b, ih]
    show (true && _ && (decide (z < y) && !(pairsI (y :: r)).any fun q => decide (q.1 ≥ q.2))) = _
    rw [show pairsI (z :: y :: r) = (z, y) :: pairsI (y :: r) from rfl, List.any_cons, Bool.not_or]
    have e : (!decide (z ≥ y)) = decide (z < y) := by
      by_cases hz : z < y
      · rw [decide_eq_true hz, decide_eq_false (by omega)]; rfl
      · rw [decide_eq_false hz, decide_eq_true (by omega)]; rfl
    rw [e]
    cases p <;> simp [Bool.and_assoc]
theorem ints_of_all {hi : Int} : ∀ {ds : List PD}, ds.all (fun d => isBet d 0 hi) = true → ∃ zs : List Int, ds = zs.map PyData.int ∧ ∀ z ∈ zs, isBet (.int z) 0 hi = true
  | [], _ => ⟨[], rfl, fun _ m => nomatch m⟩
  | d :: r, h => by
    rw [List.all_cons, Bool.and_eq_true] at h
    obtain ⟨i, rfl, _, _⟩ := isBet_int h.1
    obtain ⟨zs, rfl, hz⟩ := ints_of_all h.2
    refine ⟨i :: zs, rfl, fun z m => ?_⟩
    rcases List.mem_cons.mp m with rfl | m
    · exact h.1
    · exact hz z m
end Rz
namespace Rz
open PySem PySem.Spec PyProof.Rows L2
theorem pairs_len : ∀ zs : List Int, (pairsI zs).length ≤ zs.length
  | [] => Nat.le_refl _
  | [_] => Nat.zero_le _
  | a :: b :: r => by
    have := pairs_len (b :: r)
    show (pairsI (b :: r)).length + 1 ≤ (b :: r).length + 1
    omega
theorem cut_one {α : Type} (ds : List α) : cut ds (some 1) none = ds.drop 1 := by
  cases ds with
  | nil => rfl
  | cons d ds => exact cut_tail
theorem zip_pairs : ∀ zs : List Int, zipD (zs.map PyData.int) ((zs.drop 1).map PyData.int) = (pairsI zs).map fun q => PyData.tuple [.int q.1, .int q.2]
  | [] => rfl
  | [_] => rfl
  | a :: b :: r => by
    have ih := zip_pairs (b :: r)
    show PyData.tuple [.int a, .int b] :: zipD ((b :: r).map PyData.int) (((b :: r).drop 1).map PyData.int) = _
    rw [ih]; rfl
theorem low_a (c : Nat) : (!strLt ⟨#[c]⟩ ("a" : Str)) = decide (97 ≤ c) := by
  unfold strLt
  rw [show (("a" : Str)).cps.toList = [97] from by decide +kernel, show (⟨#[c]⟩ : Str).cps.toList = [c] from rfl]
  by_cases h : 97 ≤ c
  · rw [decide_eq_true h, decide_eq_false (by rw [List.cons_lt_cons_iff]; rintro (q | ⟨_, q⟩); · omega
                                              · exact absurd q (List.lt_irrefl _))]; rfl
  · rw [decide_eq_false h, decide_eq_true (List.cons_lt_cons_iff.mpr (.inl (by omega)))]; rfl
theorem low_z (c : Nat) : (!strLt ("z" : Str) ⟨#[c]⟩) = decide (c ≤ 122) := by
  unfold strLt
  rw [show (("z" : Str)).cps.toList = [122] from by decide +kernel, show (⟨#[c]⟩ : Str).cps.toList = [c] from rfl]
  by_cases h : c ≤ 122
  · rw [decide_eq_true h, decide_eq_false (by rw [List.cons_lt_cons_iff]; rintro (q | ⟨_, q⟩); · omega
                                              · exact absurd q (List.lt_irrefl _))]; rfl
  · rw [decide_eq_false h, decide_eq_true (List.cons_lt_cons_iff.mpr (.inl (by omega)))]; rfl
abbrev prevOf (least : Int) : Option Int := if least = 0 then none else some least
theorem bet_least {num : PD} {least : Int} (h : 0 ≤ least) : isBet num (if least + 1 > 1 then least + 1 else 1) 9999 = (isBet num 1 9999 && aheadOk (prevOf least) num) := by
  cases num with
  | int i =>
    by_cases h0 : least = 0
    · subst h0
      show (decide ((if (0 : Int) + 1 > 1 then (0 : Int) + 1 else 1) ≤ i) && decide (i ≤ 9999)) = ((decide ((1 : Int) ≤ i) && decide (i ≤ 9999)) && true)
      rw [if_neg (by decide), Bool.and_true]
    · rw [if_pos (by omega), show prevOf least = some least from if_neg h0]
      show (decide (least + 1 ≤ i) && decide (i ≤ 9999)) = ((decide ((1 : Int) ≤ i) && decide (i ≤ 9999)) && decide (least < i))
      by_cases h1 : least < i
      · rw [decide_eq_true h1, decide_eq_true (by omega : least + 1 ≤ i), decide_eq_true (by omega : 1 ≤ i), Bool.and_true]
      · rw [decide_eq_false h1, decide_eq_false (by omega : ¬ least + 1 ≤ i), Bool.and_false, Bool.false_and]
  | _ => rfl
def ctLTrain : Ct := ctOf (α := (PD × Int × PD) × PD × Int × Int) (fun a => [.sh (.tuple [a.1.1, .int a.1.2.1, a.1.2.2]), .sh a.2.1, .sh (.int a.2.2.1), .sh (.int a.2.2.2)]) (fun a => smB a.2.1 = true ∧ 0 ≤ a.2.2.1) fun a Q => Q (.cl (trErr a.1.2.1 (prevOf a.2.2.1) a.2.1 a.2.2.2))
theorem cd_ltrain {a c v : PD} {n least place : Int} {Q : Rv → Prop} (h : smB v = true) (h0 : 0 ≤ least) (q : Q (.cl (trErr n (prevOf least) v place))) : callD ctLTrain [.cl (.tuple [a, .int n, c]), .cl v, .cl (.int least), .cl (.int place)] Q := ⟨List.nodup_nil, rfl, ((a, n, c), v, least, place), rfl, ⟨h, h0⟩, fun _ => q⟩
theorem tr_num {n : Int} {prev : Option Int} {i : Int} {x y : PD} {k : Int} (h : trErr n prev (.tuple [.int i, x, y]) k = .none) : 1 ≤ i := by
  have h : (if isBet (.int i) 1 9999 && aheadOk prev (.int i) then
      if areDays x n && !isNilT x then callsErr y k else .tuple [.str "days", .int k]
    else .tuple [.str "number", .int k]) = PyData.none := h
  by_cases hb : isBet (.int i) 1 9999 = true
  · obtain ⟨j, e, h1, _⟩ := isBet_int hb
    cases e
    exact h1
  · rw [if_neg (by rw [Bool.and_eq_true]; exact fun q => hb q.1)] at h
    cases h
theorem isNone_eq {d : PD} (h : isNoneD d = true) : d = .none := by
  cases d <;> first | rfl | cases h
theorem t_lenDc {x : Rv} {kvs : List (PD × PD)} {Q : Rv → Prop} (h : x.val = .dict kvs) (ni : isIns kvs = false) (q : Q (.cl (.int kvs.length))) : bLenX x Q := by
  unfold bLenX
  rw [h]
  exact ⟨ni, q⟩
theorem dec_parts {i : Int} {x : PD} {cs : List PD} (h : trnD (decT (.tuple [.int i, x, .tuple cs])) = .tuple [.int i, x, .tuple cs]) : (decT (.tuple [.int i, x, .tuple cs])).calls.map cllD = cs := by
  have h1 := PyData.tuple.inj h
  obtain ⟨_, h2⟩ := List.cons.inj h1
  obtain ⟨_, h3⟩ := List.cons.inj h2
  obtain ⟨h4, _⟩ := List.cons.inj h3
  exact PyData.tuple.inj h4
theorem manyC_one (a : List Trn) (t : Trn) : manyC (a ++ [t]) = manyC a + t.calls.length := manyC_mid a t []
end Rz
namespace Rz
open PySem PySem.Spec PyProof.Rows L2
theorem cd_pickH {i : Nat} {x : Rv} {ds : List PD} {Q : Rv → Prop} (hd : x.data = true) (hs : x.soft = false) (h : seqOf x.val = some ds) (h0 : 0 < ds.length) (h1 : ds.length < 1073741824) (q : ∀ d ∈ ds, Q (.cl d)) : callD ctPickG [.ws i, x] Q :=
  cd_pickG hd h h0 h1 fun d m => by rw [hs, mk_f]; exact q d m
/-- small: short rows and texts, depth k, leaves of 42 signs, weight n at most -/
structure Sml (k n : Nat) (d : PD) : Prop where
  sm : smB d = true
  dep : d.depth ≤ k
  lv : d.leavesShort 42 = true
  shw : d.showable = true
  wgt : d.weight ≤ n
theorem Sml.mono {k n k' n' : Nat} {d : PD} (h : Sml k n d) (hk : k ≤ k') (hn : n ≤ n') : Sml k' n' d := ⟨h.sm, Nat.le_trans h.dep hk, h.lv, h.shw, Nat.le_trans h.wgt hn⟩
end Rz
namespace Rz
open PySem PySem.Spec PyProof.Rows L2
end Rz
namespace Rz
open PySem PySem.Spec PyProof.Rows L2
def errWords : List Str := ["form", "calendar", "trains", "stations", "many", "train", "number", "days", "calls", "call", "rise"]
def ErrF (d : PD) : Prop := d = .none ∨ (∃ s ∈ errWords, d = .str s) ∨ (∃ s ∈ errWords, ∃ k : Nat, k < 1000000 ∧ d = .tuple [.str s, .int (k : Int)]) ∨ ∃ s ∈ errWords, ∃ k j : Nat, k < 1000000 ∧ j < 1000000 ∧ d = .tuple [.str s, .int (k : Int), .int (j : Int)]
theorem callE_form {k : Int} : ∀ {ds : List PD} {j : Nat} {e : PD}, callE k j ds = some e → ∃ i : Nat, i < j + ds.length ∧ e = .tuple [.str "call", .int k, .int (i : Int)]
  | [], _, _, h => by cases h
  | d :: r, j, e, h => by
    have h : (if isCl d then callE k (j + 1) r else some (.tuple [.str "call", .int k, .int (j : Int)])) = some e := h
    split at h
    · obtain ⟨i, hi, e⟩ := callE_form h
      exact ⟨i, by rw [List.length_cons]; omega, e⟩
    · cases h
      exact ⟨j, by rw [List.length_cons]; omega, rfl⟩
theorem riseE_form {k : Int} : ∀ {ds : List PD} {j : Nat} {m : Int} {e : PD}, riseE k j m ds = some e → ∃ i : Nat, i < j + ds.length ∧ e = .tuple [.str "rise", .int k, .int (i : Int)]
  | [], _, _, _, h => by cases h
  | d :: r, j, m, e, h => by
    have h : (if decide (minD d ≤ m) then some (.tuple [.str "rise", .int k, .int (j : Int)]) else riseE k (j + 1) (minD d) r) = some e := h
    split at h
    · cases h
      exact ⟨j, by rw [List.length_cons]; omega, rfl⟩
    · obtain ⟨i, hi, e⟩ := riseE_form h
      exact ⟨i, by rw [List.length_cons]; omega, e⟩
theorem w_mem {s : Str} (h : errWords.contains s = true := by decide +kernel) : s ∈ errWords := by simpa using h
theorem calls_form {v : PD} {k : Nat} (h : smB v = true) (hk : k < 1000000) : ErrF (callsErr v k) := by
  unfold callsErr
  split
  · rename_i d r
    have hl := (sm_tup h).1
    split
    · rename_i e he
      obtain ⟨i, hi, rfl⟩ := callE_form he
      exact .inr (.inr (.inr ⟨"call", w_mem, k, i, hk, by omega, rfl⟩))
    · cases hr : riseE k 1 (minD d) r with
      | none => exact .inl rfl
      | some e =>
        obtain ⟨i, hi, rfl⟩ := riseE_form hr
        rw [List.length_cons] at hl
        exact .inr (.inr (.inr ⟨"rise", w_mem, k, i, hk, by omega, rfl⟩))
  · exact .inr (.inr (.inl ⟨"calls", w_mem, k, hk, rfl⟩))
theorem tr_form {n : Int} {p : Option Int} {t : PD} {k : Nat} (h : smB t = true) (hk : k < 1000000) : ErrF (trErr n p t k) := by
  unfold trErr
  split
  · rename_i num days calls
    split
    · split
      · exact calls_form ((sm_tup h).2 calls (by simp)) hk
      · exact .inr (.inr (.inl ⟨"days", w_mem, k, hk, rfl⟩))
    · exact .inr (.inr (.inl ⟨"number", w_mem, k, hk, rfl⟩))
  · exact .inr (.inr (.inl ⟨"train", w_mem, k, hk, rfl⟩))
theorem trs_form {n : Int} : ∀ {ts : List PD} {k : Nat} {p : Option Int} {e : PD}, (∀ t ∈ ts, smB t = true) → k + ts.length < 1000000 → trsErr n k p ts = some e → ErrF e
  | [], _, _, _, _, _, h => by cases h
  | t :: r, k, p, e, hs, hl, h => by
    have h : (if isNoneD (trErr n p t k) then trsErr n (k + 1) (numD t) r else some (trErr n p t k)) = some e := h
    rw [List.length_cons] at hl
    split at h
    · exact trs_form (fun s m => hs s (List.mem_cons_of_mem _ m)) (by omega) h
    · cases h
      exact tr_form (hs t List.mem_cons_self) (by omega)
theorem plan_form {v : PD} (h : smB v = true) : ErrF (planErr v) := by
  unfold planErr
  split
  · rename_i cal trs
    have sm := (sm_tup h).2
    split
    · split
      · rename_i ts
        have st := sm_tup (sm (.tuple ts) (by simp))
        split
        · split
          · rename_i e he
            exact trs_form st.2 (by omega) he
          · split
            · split
              · exact .inl rfl
              · exact .inr (.inl ⟨"many", w_mem, rfl⟩)
            · exact .inr (.inl ⟨"stations", w_mem, rfl⟩)
        · exact .inr (.inl ⟨"trains", w_mem, rfl⟩)
      · exact .inr (.inl ⟨"trains", w_mem, rfl⟩)
    · exact .inr (.inl ⟨"calendar", w_mem, rfl⟩)
  · exact .inr (.inl ⟨"form", w_mem, rfl⟩)
theorem word_lay {s : Str} (h : s ∈ errWords) : (PyData.str s).canLay0 = true ∧ s.cps.size ≤ 41 := by
  simp only [errWords, List.mem_cons, List.not_mem_nil, or_false] at h
  rcases h with rfl | rfl | rfl | rfl | rfl | rfl | rfl | rfl | rfl | rfl | rfl <;> decide +kernel
theorem err_fit {d : PD} (h : ErrF d) : Fit 1 200 d := by
  rcases h with rfl | ⟨s, m, rfl⟩ | ⟨s, m, k, hk, rfl⟩ | ⟨s, m, k, j, hk, hj, rfl⟩
  · exact ⟨by unfold PyData.canLay0; rfl, by unfold PyData.depth; omega, by unfold PyData.intsShort; rfl, by unfold PyData.showable; rfl, by unfold PyData.weight; omega⟩
  · exact (fit_str (word_lay m).1 41 (word_lay m).2).mono (by omega) (by omega)
  · refine (fit_tup (k := 0) (n := 41) (ds := [.str s, .int k]) fun d md => ?_).mono (by omega) (by simp)
    simp only [List.mem_cons, List.not_mem_nil, or_false] at md
    rcases md with rfl | rfl
    · exact fit_str (word_lay m).1 41 (word_lay m).2
    · exact fit_int (by omega)
  · refine (fit_tup (k := 0) (n := 41) (ds := [.str s, .int k, .int j]) fun d md => ?_).mono (by omega) (by simp)
    simp only [List.mem_cons, List.not_mem_nil, or_false] at md
    rcases md with rfl | rfl | rfl
    · exact fit_str (word_lay m).1 41 (word_lay m).2
    · exact fit_int (by omega)
    · exact fit_int (by omega)
theorem t_reprErr {v : PD} {Q : Rv → Prop} (h : smB v = true) (q : Q (.cl (.str (planErr v).shown))) : bReprX (.cl (planErr v)) Q := .inl (t_repr rfl (err_fit (plan_form h)) (by decide) (by decide) q)
end Rz
namespace Rz
open PySem PySem.Spec PyProof.Rows L2
/-- calls whose minutes are any -/
structure ClsM (cs : List Cll) : Prop where
  all : ∀ c ∈ cs, c.1 ∈ stations ∧ 0 ≤ c.2 ∧ c.2 < 1000000
  few : cs.length ≤ 7
theorem ClsM.set {cs : List Cll} {c : Cll} {i : Nat} (h : ClsM cs) (hc : c.1 ∈ stations ∧ 0 ≤ c.2 ∧ c.2 < 1000000) : ClsM (cs.set i c) :=
  ⟨fun d m => (List.mem_or_eq_of_mem_set m).elim (h.all d) fun e => by rw [e]; exact hc, by rw [List.length_set]; exact h.few⟩
end Rz
namespace Rz
open PySem PySem.Spec PyProof.Rows L2
section
variable {X : Cx} {P : Par}
theorem Reps.rev {w : World} {K : PySem.W.Frag} {H : Hp} : ∀ {ds : List PD} {vs : List V}, Reps w K H vs ds → Reps w K H vs.reverse ds.reverse
  | [], _, h => by cases h; exact .nil
  | d :: ds, _, h => by
    cases h with
    | cons a b => rw [List.reverse_cons, List.reverse_cons]; exact Reps.append (Reps.rev b) (.cons a .nil)
theorem Src.rev {ρ : List SV} {H G : Hp} {F : FP} {b : Bool} {vs : List V} {ds : List PD} (h : Src P ρ H G F b vs ds) : Src P ρ H G F b vs.reverse ds.reverse := by
  cases b with
  | false => exact Reps.rev h
  | true => obtain ⟨Hd, l, n, h⟩ := h; exact ⟨Hd, l, n, Reps.rev h⟩
end
theorem Sml.item {k n : Nat} {d : PD} {ds : List PD} (h : Sml (k + 1) n (.tuple ds)) (m : d ∈ ds) : Sml k n d := by
  have s1 := h.sm
  have s2 := h.dep
  have s3 := h.lv
  have s4 := h.shw
  have s5 := h.wgt
  unfold smB at s1
  rw [Bool.and_eq_true, decide_eq_true_iff] at s1
  unfold PyData.depth at s2
  unfold PyData.leavesShort at s3
  unfold PyData.showable at s4
  unfold PyData.weight at s5
  have go : ∀ (ds : List PD) (n : Nat), d ∈ ds → smAll ds = true → PyData.depthAll ds ≤ k → PyData.leavesShortAll 42 ds = true → PyData.showableAll ds = true → PyData.weightAll ds ≤ n → Sml k n d := by
    intro ds
    induction ds with
    | nil => intro n m; cases m
    | cons e r ih =>
      intro n m s1 s2 s3 s4 s5
      unfold smAll at s1
      unfold PyData.depthAll at s2
      unfold PyData.leavesShortAll at s3
      unfold PyData.showableAll at s4
      unfold PyData.weightAll at s5
      rw [Bool.and_eq_true] at s1 s3 s4
      obtain ⟨b1, b2⟩ := Nat.max_le.mp s2
      rcases List.mem_cons.mp m with rfl | m
      · exact ⟨s1.1, b1, s3.1, s4.1, by omega⟩
      · exact ih n m s1.2 b2 s3.2 s4.2 (by omega)
  exact go ds n m s1.2 (by omega) s3 s4 s5
end Rz
namespace Rz
open PySem PySem.Spec PyProof.Rows L2
variable {X : Cx} {P : Par} {ρ : List SV} {σ : Sg} {H0 G0 H G G' : Hp} {F0 F : FP} {a b c e o : Expr} {es : List Expr} {pos p apos : Pos} {t t1 t2 t3 : TD} {ta : TDa}
def joinOk (a : Str) (ys : List Str) : Prop := (ys.map (·.length)).sum + ys.length * a.length ≤ 16777216
end Rz
namespace Rz
open PySem PySem.Spec PyProof.Rows L2
def insB (c : Cal) (ds : List Nat) (k : Nat) : List Nat := (clsOf c k).filter fun d => decide (d ∈ ds)
def bigB (c : Cal) (ds : List Nat) (k : Nat) : Bool := decide ((clsOf c k).length < 2 * (insB c ds k).length)
def lessC (c : Cal) (ds : List Nat) (B : Nat → Bool) : List Nat := (List.range c.length).filter fun d => B (dayKind c d) && !decide (d ∈ ds)
def moreC (c : Cal) (ds : List Nat) (B : Nat → Bool) : List Nat := (List.range c.length).filter fun d => !B (dayKind c d) && decide (d ∈ ds)
theorem flt_asc (n : Nat) (p : Nat → Bool) : ((List.range n).filter p).Pairwise (· < ·) := List.pairwise_lt_range.sublist List.filter_sublist
def baseP (c : Cal) (ds : List Nat) : List Nat := (List.range 8).filter (bigB c ds)
theorem mem_ins {c : Cal} {ds : List Nat} {k d : Nat} : d ∈ insB c ds k ↔ d ∈ clsOf c k ∧ d ∈ ds := by
  unfold insB
  rw [List.mem_filter, decide_eq_true_iff]
end Rz
namespace Rz
open PySem PySem.Spec PyProof.Rows L2
open TL (numL tl_num numL_len numL_digits numL_ne numL_lt numL_step numL_val tl numL_free joinL tl_join join_eq)
/-- the text of a number -/
def numT (n : Nat) : Str := PySem.Str.ofString (toString (n : Int))
def wordK : List Str := ["mo", "tu", "we", "th", "fr", "sa", "su", "hol"]
def word (k : Nat) : Str := wordK.getD k ""
def usedC (c : Cal) : List Nat := (List.range 8).filter fun k => !(clsOf c k).isEmpty
def baseT (used base : List Nat) : Str :=
  if (used.filter fun k => decide (k ∈ base)).length = used.length then "daily"
  else if (used.filter fun k => decide (k ∈ base)) = [] then "never" else Txt.join "+" ((used.filter fun k => decide (k ∈ base)).map word)
def datesT (w : Str) (ds : List Nat) : Str := if ds = [] then "" else ((" " : Str) ++ w ++ (" " : Str)) ++ Txt.join "," (ds.map numT)
def exprT (c : Cal) (b l m : List Nat) : Str := (baseT (usedC c) b ++ datesT "not" l) ++ datesT "also" m
theorem str_len (x : Str) : x.length = (tl x).length := by
  show x.cps.size = x.cps.toList.length
  rw [Array.length_toList]
end Rz
namespace Rz
open PySem PySem.Spec PyProof.Rows L2
open TL (numL tl_num numL_len numL_digits numL_ne numL_lt numL_step numL_val tl numL_free joinL tl_join join_eq split_join)
theorem shaped_txt {x : Str} (h : (PyData.str x).canLay0 = true) : SeqAt.shaped (.str x) = true := (fit_str h _ (Nat.le_refl _)).shaped (by decide)
end Rz
namespace Rz
open PySem PySem.Spec PyProof.Rows L2
open TL (numL tl_num numL_digits numL_free tl joinL tl_join join_eq split_join tl_append mk_tl ext_tl)
def ascS (x : Str) : Prop := ∀ c ∈ tl x, c < 128
theorem asc_add {x y : Str} (h : ascS x) (g : ascS y) : ascS (x ++ y) := fun c m => by
  rw [tl_append] at m
  rcases List.mem_append.mp m with q | q
  · exact h c q
  · exact g c q
theorem mem_joinL {S : List Nat} {c : Nat} : ∀ {ws : List (List Nat)}, c ∈ joinL S ws → c ∈ S ∨ ∃ w ∈ ws, c ∈ w
  | [], h => by cases h
  | [p], h => .inr ⟨p, by simp, h⟩
  | p :: q :: r, h => by
    have h : c ∈ p ++ (S ++ joinL S (q :: r)) := h
    rcases List.mem_append.mp h with h | h
    · exact .inr ⟨p, by simp, h⟩
    · rcases List.mem_append.mp h with h | h
      · exact .inl h
      · rcases mem_joinL h with h | ⟨w, m, h⟩
        · exact .inl h
        · exact .inr ⟨w, List.mem_cons_of_mem _ m, h⟩
theorem mem_join {y : Str} {ws : List Str} {c : Nat} (h : c ∈ tl (Txt.join y ws)) : c ∈ tl y ∨ ∃ w ∈ ws, c ∈ tl w := by
  rw [join_eq, tl_join] at h
  rcases mem_joinL h with h | ⟨w, m, h⟩
  · exact .inl h
  · obtain ⟨x, mx, rfl⟩ := List.mem_map.mp m
    exact .inr ⟨x, mx, h⟩
theorem asc_join {y : Str} {ws : List Str} (h : ascS y) (g : ∀ w ∈ ws, ascS w) : ascS (Txt.join y ws) := fun c m => by
  rcases mem_join m with q | ⟨w, mw, q⟩
  · exact h c q
  · exact g w mw c q
theorem asc_lay {x : Str} (h : ascS x) : (PyData.str x).canLay0 = true := by
  unfold PyData.canLay0
  show x.cps.all (· < 0x110000) = true
  rw [← Array.all_toList, List.all_eq_true]
  intro c m
  have := h c m
  exact decide_eq_true (by omega)
theorem spc_eq : (" " : Str) = ⟨#[32]⟩ := by decide +kernel
end Rz
namespace Rz
open PySem PySem.Spec PyProof.Rows L2
open TL (tl tl_append ext_tl)
/-- some days, in any order -/
structure SomeDays (c : Cal) (fs : List Nat) : Prop where
  nd : fs.Nodup
  lt : ∀ d ∈ fs, d < c.length
theorem SomeDays.perm {c : Cal} {fs : List Nat} (h : SomeDays c fs) : fs.Perm ((List.range c.length).filter fun d => decide (d ∈ fs)) := by
  refine (List.perm_ext_iff_of_nodup h.nd (List.nodup_range.filter _)).mpr fun d => ?_
  rw [List.mem_filter, List.mem_range, decide_eq_true_iff]
  exact ⟨fun m => ⟨h.lt d m, m⟩, fun m => m.2⟩
theorem SomeDays.len {c : Cal} {fs : List Nat} (h : SomeDays c fs) : fs.length ≤ c.length := by
  rw [h.perm.length_eq]
  have := List.length_filter_le (fun d => decide (d ∈ fs)) (List.range c.length)
  rwa [List.length_range] at this
theorem SomeDays.sorted {c : Cal} {fs : List Nat} (h : SomeDays c fs) : ∃ ds : List Nat, sortD (nats fs) = nats ds ∧ ds.Sublist (List.range c.length) :=
  ⟨_, sort_nats h.perm (flt_asc _ _), List.filter_sublist⟩
/-- the text of some days -/
def plainT (c : Cal) (ds : List Nat) : Str := exprT c (baseP c ds) (lessC c ds (bigB c ds)) (moreC c ds (bigB c ds))
/-- texts beside their days -/
def TxOk (c : Cal) (ks : List Str) (f : Str → OD) : Prop := ∀ x ∈ ks, ∃ ds : List Nat, ds.Sublist (List.range c.length) ∧ x = plainT c ds ∧ f x = .lf (.tuple (nats ds))
theorem TxOk.put {c : Cal} {ks : List Str} {f : Str → OD} (h : TxOk c ks f) {ds : List Nat} (hd : ds.Sublist (List.range c.length)) : TxOk c (addN ks (plainT c ds)) fun y => if y = plainT c ds then .lf (.tuple (nats ds)) else f y := fun x m => by
  by_cases q : x = plainT c ds
  · exact ⟨ds, hd, q, if_pos q⟩
  · rcases addN_mem.mp m with m | m
    · obtain ⟨es, h1, h2, h3⟩ := h x m
      exact ⟨es, h1, h2, by dsimp only; rw [if_neg q]; exact h3⟩
    · exact absurd m q
end Rz
namespace Rz
open PySem PySem.Spec PyProof.Rows L2
/-- what a call lets out is taken -/
def TakesC (X : Cx) (W : WX) : Prop := ∀ (pins : List (Addr × Obj)) (σ : Sg) (H : Hp) (s : Shared) (e : Value) (s' : Shared), Inv X pins σ H s → L2.CX X.prog X.w X.stack H s (fun cls d H' => W cls d σ H') e s' → X.xe e s'
theorem takesC_of {X : Cx} {W : WX} (tk : Takes X W) : TakesC X W := fun pins σ H s e s' I c => tk e s' (XE.of_call I (fun _ _ _ h => h) c)
structure ErB (X : Cx) (P : Par) (ee : List SV → Er → Prop) : Prop where
  he : P.ee = ee
  tk : ∃ W, TakesC X W ∧ ∀ d er ρ σ H G F, StOk P ρ σ H G F → ErOk P G d er → P.ee ρ er → W er.cls d σ H
theorem ErF.b {X : Cx} {P : Par} {ee : List SV → Er → Prop} (R : ErF X P ee) : ErB X P ee := ⟨R.he, R.tk.choose, takesC_of R.tk.choose_spec.1, R.tk.choose_spec.2⟩
theorem ErOk.abs {P P' : Par} {Gx G1 H : Hp} {d : Option Addr} {er : Er} (h : ErOk P' Gx d er) (hw : P'.w = P.w) (hK : P'.K = P.K) (l : Le Gx H) (g : Le G1 H) (hi : immEr er = true) : ErOk P (absT G1 H) d er := by
  cases d with
  | none => exact h
  | some a =>
    obtain ⟨fs, g1, g2, g3⟩ := h
    refine ⟨fs, ?_, g2, by rw [← hw, ← hK]; exact Reps.abs g (g3.mono l) hi⟩
    have e := l _ _ g1
    unfold absT
    cases q : G1 a with
    | some o => have := g _ _ q; rw [e] at this; cases this; rfl
    | none => rw [e]
end Rz
namespace Rz
open PySem PySem.Spec PyProof.Rows L2
open TL (tl tl_append ext_tl mk_tl spl pre split_spl kind_ok spl_nil)
theorem smB_tup {ds : List PD} (hl : ds.length ≤ 20000) (h : ∀ d ∈ ds, smB d = true) : smB (.tuple ds) = true := by
  unfold smB
  rw [decide_eq_true hl, smAll_of h]; rfl
theorem smB_int (i : Int) : smB (.int i) = true := by unfold smB; rfl
theorem smB_nats {zs : List Nat} (h : zs.length ≤ 20000) : smB (.tuple (nats zs)) = true := smB_tup (by rw [nats_len]; exact h) fun d m => by
  obtain ⟨z, _, rfl⟩ := List.mem_map.mp m
  exact smB_int _
theorem isNm_len {x : Str} (h : isNm (.str x) = true) : 1 ≤ x.length ∧ x.length ≤ 12 ∧ x.cps.toList.all lowB = true := by
  unfold isNm at h
  simp only [Bool.and_eq_true, decide_eq_true_iff] at h
  exact ⟨h.1.1, h.1.2, h.2⟩
theorem smB_cll {c : Cll} (h : c.1.length ≤ 20000) : smB (cllD c) = true := smB_tup (by simp) fun d m => by
  simp only [List.mem_cons, List.not_mem_nil, or_false] at m
  rcases m with rfl | rfl
  · unfold smB; exact decide_eq_true h
  · exact smB_int _
theorem smB_trn {t : Trn} (h1 : t.days.length ≤ 20000) (h2 : t.calls.length ≤ 20000) (h3 : ∀ c ∈ t.calls, c.1.length ≤ 20000) : smB (trnD t) = true := smB_tup (by simp) fun d m => by
  simp only [List.mem_cons, List.not_mem_nil, or_false] at m
  rcases m with rfl | rfl | rfl
  · exact smB_int _
  · exact smB_nats h1
  · refine smB_tup (by rw [List.length_map]; exact h2) fun d m => ?_
    obtain ⟨c, mc, rfl⟩ := List.mem_map.mp m
    exact smB_cll (h3 c mc)
theorem smB_pln {p : Pln} (h1 : p.cal.hols.length ≤ 20000) (h2 : p.trains.length ≤ 20000) (h3 : ∀ t ∈ p.trains, smB (trnD t) = true) : smB (plnD p) = true := smB_tup (by simp) fun d m => by
  simp only [List.mem_cons, List.not_mem_nil, or_false] at m
  rcases m with rfl | rfl
  · refine smB_tup (by simp) fun d m => ?_
    simp only [List.mem_cons, List.not_mem_nil, or_false] at m
    rcases m with rfl | rfl | rfl
    · exact smB_int _
    · exact smB_int _
    · exact smB_nats h1
  · refine smB_tup (by rw [List.length_map]; exact h2) fun d m => ?_
    obtain ⟨t, mt, rfl⟩ := List.mem_map.mp m
    exact h3 t mt
end Rz
namespace Rz
open PySem PySem.Spec PyProof.Rows L2
open TL (tl tl_append ext_tl mk_tl joinL tl_join join_eq)
/-- calls as the writers want them -/
structure ClsW (cs : List Cll) : Prop where
  few : cs.length ≤ 200
  nm : ∀ c ∈ cs, c.1.length ≤ 12
  mi : ∀ c ∈ cs, 0 ≤ c.2 ∧ c.2 ≤ 2879
structure TrnW (t : Trn) : Prop where
  n0 : 0 ≤ t.number
  n1 : t.number < 1000000
  cls : ClsW t.calls
structure PlnW (p : Pln) : Prop where
  cal : CalOk 400 p.cal
  few : p.trains.length ≤ 24
  trs : ∀ t ∈ p.trains, TrnW t
end Rz
namespace Rz
open PySem PySem.Spec PyProof.Rows L2
open TL (tl tl_append ext_tl mk_tl joinL tl_join join_eq spl pre split_spl kind_ok split_join spl_part1 spl_last spl_nil pre_of_head map_tl_inj)
/-- calls as drawn -/
structure ClsB (cs : List Cll) : Prop where
  ne : cs ≠ []
  few : cs.length ≤ 60
  nm : ∀ c ∈ cs, isNm (.str c.1) = true
  mi : ∀ c ∈ cs, 0 ≤ c.2 ∧ c.2 ≤ 2879
theorem ClsB.w {cs : List Cll} (h : ClsB cs) : ClsW cs := ⟨by have := h.few; omega, fun c m => (isNm_len (h.nm c m)).2.1, h.mi⟩
/-- plans as drawn -/
structure PlnB (p : Pln) : Prop where
  cal : CalOk 60 p.cal
  few : p.trains.length ≤ 10
  n1 : ∀ t ∈ p.trains, 1 ≤ t.number ∧ t.number ≤ 9999
  asc : (p.trains.map (·.number)).Pairwise (· < ·)
  days : ∀ t ∈ p.trains, t.days.Sublist (List.range p.cal.length) ∧ t.days ≠ []
  cls : ∀ t ∈ p.trains, ClsB t.calls
end Rz
namespace Rz
open PySem PySem.Spec PyProof.Rows L2
def names7 : List Str := ["abel", "b", "corsenhalden", "dorn", "also", "not", "zzzzzzzzzzzz"]
theorem n7_nm {x : Str} (h : x ∈ names7) : isNm (.str x) = true := by
  have : names7.all (fun x => isNm (.str x)) = true := by decide +kernel
  exact List.all_eq_true.mp this x h
theorem n7_lay {x : Str} (h : x ∈ names7) : (PyData.str x).canLay0 = true ∧ x.length ≤ 41 := by
  have : names7.all (fun x => (PyData.str x).canLay0 && decide (x.length ≤ 41)) = true := by decide +kernel
  have := List.all_eq_true.mp this x h
  rw [Bool.and_eq_true, decide_eq_true_iff] at this
  exact this
structure ClsD (cs : List Cll) : Prop where
  l0 : 0 < cs.length
  l1 : cs.length ≤ 5
  nm : ∀ c ∈ cs, c.1 ∈ names7
  mi : ∀ c ∈ cs, 0 ≤ c.2 ∧ c.2 ≤ 2879
  asc : (cs.map (·.2)).Pairwise (· < ·)
theorem ClsD.b {cs : List Cll} (h : ClsD cs) : ClsB cs := ⟨fun e => by have := h.l0; rw [e] at this; exact absurd this (by decide), by have := h.l1; omega, fun c m => n7_nm (h.nm c m), h.mi⟩
structure TrnD (n : Nat) (t : Trn) : Prop where
  n1 : 1 ≤ t.number ∧ t.number ≤ 9999
  days : t.days.Sublist (List.range n) ∧ t.days ≠ []
  cls : ClsD t.calls
structure PlnD (p : Pln) : Prop where
  cal : CalOk 30 p.cal
  few : p.trains.length ≤ 7
  trs : ∀ t ∈ p.trains, TrnD p.cal.length t
  asc : (p.trains.map (·.number)).Pairwise (· < ·)
theorem PlnD.b {p : Pln} (h : PlnD p) : PlnB p := ⟨h.cal.mono (by decide), by have := h.few; omega, fun t m => (h.trs t m).n1, h.asc, fun t m => (h.trs t m).days, fun t m => (h.trs t m).cls.b⟩
theorem PlnD.w {p : Pln} (h : PlnD p) : PlnW p := ⟨h.cal.mono (by decide), by have := h.few; omega, fun t m => by have := (h.trs t m).n1; exact ⟨by omega, by omega, (h.trs t m).cls.b.w⟩⟩
end Rz
namespace Rz
open PySem PySem.Spec PyProof.Rows L2
theorem PlnD.sm {p : Pln} (h : PlnD p) : smB (plnD p) = true := by
  have l1 := h.cal.l1
  have hl := h.cal.hs.length_le
  rw [List.length_range] at hl
  have few := h.few
  refine smB_pln (by omega) (by omega) fun t m => ?_
  have ht := h.trs t m
  have dl := ht.days.1.length_le
  rw [List.length_range] at dl
  have c5 := ht.cls.l1
  exact smB_trn (by omega) (by omega) fun c mc => Nat.le_trans (n7_lay (ht.cls.nm c mc)).2 (by decide)
end Rz
namespace Rz
open PySem PySem.Spec PyProof.Rows L2
end Rz
namespace Rz
open PySem PySem.Spec PyProof.Rows L2
open TL (numL tl_num numL_len numL_digits numL_ne numL_lt numL_step numL_val tl numL_free joinL tl_join join_eq split_join)
theorem nw : ("not" : Str) ≠ "also" := by decide +kernel
end Rz
namespace Rz
open PySem PySem.Spec PyProof.Rows L2
open TL (tl mk_tl ext_tl tl_append)
theorem cutL_sub {c : Nat} : ∀ {xs l : List Nat}, l ∈ cutL c xs → l.Sublist xs
  | [], l, m => by
    unfold cutL at m
    rw [List.mem_singleton.mp m]; exact List.Sublist.refl _
  | a :: r, l, m => by
    unfold cutL at m
    split at m
    · rcases List.mem_cons.mp m with e | m
      · rw [e]; exact List.nil_sublist _
      · exact (cutL_sub m).cons a
    · cases e : cutL c r with
      | nil => exact absurd e (cutL_ne c r)
      | cons p ps =>
        rw [e] at m
        have m : l ∈ (a :: p) :: ps := m
        rcases List.mem_cons.mp m with e2 | m
        · rw [e2]
          exact (cutL_sub (by rw [e]; exact List.mem_cons_self)).cons₂ a
        · exact (cutL_sub (by rw [e]; exact List.mem_cons_of_mem _ m)).cons a
def comN (x : Str) : Nat := (tl x).count 44
/-- a text of n signs and k commas at most -/
structure SpT (n k : Nat) (x : Str) : Prop where
  asc : ascS x
  len : x.length ≤ n
  com : comN x ≤ k
theorem SpT.mono {n k n' k' : Nat} {x : Str} (h : SpT n k x) (hn : n ≤ n') (hk : k ≤ k') : SpT n' k' x := ⟨h.asc, Nat.le_trans h.len hn, Nat.le_trans h.com hk⟩
theorem SpT.app {n k n' k' : Nat} {x y : Str} (h : SpT n k x) (g : SpT n' k' y) : SpT (n + n') (k + k') (x ++ y) := by
  refine ⟨asc_add h.asc g.asc, ?_, ?_⟩
  · have := h.len
    have := g.len
    rw [PySem.Str.length_append]; omega
  · have := h.com
    have := g.com
    unfold comN at *
    rw [tl_append, List.count_append]; omega
theorem SpT.sub {n k : Nat} {x y : Str} (h : SpT n k x) (s : (tl y).Sublist (tl x)) : SpT n k y := by
  refine ⟨fun c m => h.asc c (s.subset m), ?_, Nat.le_trans (s.count_le 44) h.com⟩
  have := s.length_le
  have e1 : (tl x).length = x.length := Array.length_toList
  have e2 : (tl y).length = y.length := Array.length_toList
  have := h.len
  omega
/-- a text cut, something put between -/
theorem SpT.put {n k : Nat} {x y a b : Str} {i j : Nat} (h : SpT n k x) (hy : SpT 1 1 y) (hij : i ≤ j) (ha : tl a = (tl x).take i) (hb : tl b = (tl x).drop j) : SpT (n + 1) (k + 1) (a ++ (y ++ b)) := by
  have sub : ((tl x).take i ++ (tl x).drop j).Sublist (tl x) := by
    have e : (tl x).drop j = ((tl x).drop i).drop (j - i) := by rw [List.drop_drop]; congr 1; omega
    rw [e]
    have := (List.Sublist.refl ((tl x).take i)).append (List.drop_sublist (j - i) ((tl x).drop i))
    rw [List.take_append_drop] at this
    exact this
  have sl := sub.length_le
  have sc := sub.count_le 44
  rw [List.length_append] at sl
  rw [List.count_append] at sc
  have lx : (tl x).length = x.length := Array.length_toList
  have la : (tl a).length = a.length := Array.length_toList
  have lb : (tl b).length = b.length := Array.length_toList
  have hx := h.len
  have hc := h.com
  have hyl := hy.len
  have hyc := hy.com
  unfold comN at hc hyc
  have aa : ascS a := fun c m => h.asc c (by rw [ha] at m; exact List.mem_of_mem_take m)
  have ab : ascS b := fun c m => h.asc c (by rw [hb] at m; exact List.mem_of_mem_drop m)
  rw [← ha, ← hb] at sl sc
  refine ⟨asc_add aa (asc_add hy.asc ab), ?_, ?_⟩
  · rw [PySem.Str.length_append, PySem.Str.length_append]; omega
  · unfold comN
    rw [tl_append, tl_append, List.count_append, List.count_append]; omega
end Rz
namespace Rz
open PySem PySem.Spec PyProof.Rows L2
open TL (tl mk_tl ext_tl tl_append joinL tl_join join_eq)
/-- the first piece of a text -/
theorem SpT.head {n k : Nat} {x : Str} (h : SpT n k x) {ds : List PD} {d : PD} (e : ds = (Txt.split x " ").map PyData.str) (m : d ∈ ds) : ∃ y, d = .str y ∧ SpT n k y := by
  subst e
  obtain ⟨w, mw, rfl⟩ := List.mem_map.mp m
  refine ⟨w, rfl, ?_⟩
  rw [spc_eq, split_one _ (by decide)] at mw
  obtain ⟨l, ml, rfl⟩ := List.mem_map.mp mw
  have et : tl (ofL l) = l := by
    show (ofL l).cps.toList = l
    unfold ofL; simp
  exact h.sub (by rw [et]; exact cutL_sub ml)
theorem up1_com : ∀ c, c < 128 → PyProof.Rows.up1 c < 128 ∧ (PyProof.Rows.up1 c = 44 → c = 44) := by decide +kernel
theorem SpT.up {n k : Nat} {x : Str} (h : SpT n k x) : SpT n k (Txt.upper x) := by
  have e := PyProof.Rows.upper_ascii (x := x) h.asc
  have e2 : tl (Txt.upper x) = (tl x).map PyProof.Rows.up1 := by
    rw [e]
    show (x.cps.map PyProof.Rows.up1).toList = x.cps.toList.map PyProof.Rows.up1
    rw [Array.toList_map]
  refine ⟨fun c m => ?_, ?_, ?_⟩
  · rw [e2] at m
    obtain ⟨d, md, rfl⟩ := List.mem_map.mp m
    exact (up1_com d (h.asc d md)).1
  · have := h.len
    rw [str_len, e2, List.length_map, ← str_len]
    exact this
  · have hc := h.com
    unfold comN at hc ⊢
    rw [e2]
    refine Nat.le_trans ?_ hc
    have ha := h.asc
    unfold ascS at ha
    generalize tl x = l at ha
    induction l with
    | nil => exact Nat.le_refl _
    | cons a r ih =>
      have i2 := ih fun c m => ha c (List.mem_cons_of_mem _ m)
      rw [List.map_cons, List.count_cons, List.count_cons]
      by_cases q : PyProof.Rows.up1 a = 44
      · have := (up1_com a (ha a List.mem_cons_self)).2 q
        rw [q, this]
        simp only [beq_self_eq_true, if_true]
        omega
      · rw [if_neg (by simpa using q)]
        omega
/-- texts: n signs and k commas at most in all -/
structure SpL (n k : Nat) (ws : List Str) : Prop where
  asc : ∀ w ∈ ws, ascS w
  len : (ws.map (·.length)).sum ≤ n
  com : (ws.map comN).sum ≤ k
theorem sum_perm {α : Type} {f : α → Nat} {a b : List α} (h : a.Perm b) : (a.map f).sum = (b.map f).sum := by
  induction h with
  | nil => rfl
  | cons x _ ih => rw [List.map_cons, List.map_cons, List.sum_cons, List.sum_cons, ih]
  | swap x y l => simp only [List.map_cons, List.sum_cons]; omega
  | trans _ _ i j => exact i.trans j
theorem SpL.perm {n k : Nat} {a b : List Str} (h : SpL n k a) (p : b.Perm a) : SpL n k b :=
  ⟨fun w m => h.asc w (p.mem_iff.mp m), by rw [sum_perm p]; exact h.len, by rw [sum_perm p]; exact h.com⟩
theorem joinL_sums {S : List Nat} (hS : S.count 44 = 0) : ∀ ws : List (List Nat), (joinL S ws).length ≤ (ws.map List.length).sum + ws.length * S.length ∧ (joinL S ws).count 44 ≤ (ws.map (List.count 44)).sum
  | [] => ⟨Nat.zero_le _, Nat.zero_le _⟩
  | [p] => by
    show p.length ≤ (p.length + 0) + 1 * S.length ∧ p.count 44 ≤ p.count 44 + 0
    omega
  | p :: q :: r => by
    obtain ⟨h1, h2⟩ := joinL_sums hS (q :: r)
    show (p ++ (S ++ joinL S (q :: r))).length ≤ _ ∧ (p ++ (S ++ joinL S (q :: r))).count 44 ≤ _
    rw [List.length_append, List.length_append, List.count_append, List.count_append, hS, List.map_cons, List.map_cons (f := List.count 44), List.sum_cons, List.sum_cons, List.length_cons, Nat.succ_mul]
    omega
theorem SpL.join {n k m : Nat} {y : Str} {ws : List Str} (h : SpL n k ws) (hm : ws.length ≤ m) (ya : ascS y) (yc : comN y = 0) : SpT (n + m * y.length) k (Txt.join y ws) := by
  obtain ⟨h1, h2⟩ := joinL_sums (S := tl y) yc (ws.map tl)
  have et : tl (Txt.join y ws) = joinL (tl y) (ws.map tl) := by rw [join_eq, tl_join]
  refine ⟨asc_join ya h.asc, ?_, ?_⟩
  · rw [str_len, et]
    rw [List.map_map, List.length_map] at h1
    have e2 : ws.map (List.length ∘ tl) = ws.map (·.length) := List.map_congr_left fun w _ => (str_len w).symm
    rw [e2] at h1
    have := h.len
    have hm2 : ws.length * (tl y).length ≤ m * (tl y).length := Nat.mul_le_mul_right _ hm
    rw [str_len y]
    omega
  · unfold comN
    rw [et]
    rw [List.map_map] at h2
    have e2 : ws.map (List.count 44 ∘ tl) = ws.map comN := rfl
    rw [e2] at h2
    exact Nat.le_trans h2 h.com
theorem SpL.ok {n k m : Nat} {y : Str} {ws : List Str} (h : SpL n k ws) (hm : ws.length ≤ m) (hz : n + m * y.length ≤ 16777216) : joinOk y ws := by
  unfold joinOk
  have := h.len
  have hm2 : ws.length * y.length ≤ m * y.length := Nat.mul_le_mul_right _ hm
  omega
theorem cut_mem {α : Type} {xs : List α} {lo hi : Option Int} {a : α} (h : a ∈ cut xs lo hi) : a ∈ xs := by
  unfold cut at h
  exact List.mem_of_mem_drop (List.mem_of_mem_take h)
end Rz
namespace Rz
open PySem PySem.Spec PyProof.Rows L2
open TL (tl mk_tl ext_tl tl_append joinL tl_join join_eq)
end Rz
namespace Rz
open PySem PySem.Spec PyProof.Rows L2
open TL (tl tl_append ext_tl mk_tl spl pre split_spl kind_ok spl_nil)
end Rz
namespace Rz
open PySem PySem.Spec PyProof.Rows L2
end Rz
namespace Rz
open PySem PySem.Spec PyProof.Rows L2
open TL (tl tl_append ext_tl mk_tl spl pre split_spl kind_ok spl_nil)
end Rz
namespace Rz
open PySem PySem.Spec PyProof.Rows L2
open TL (tl tl_append ext_tl mk_tl spl pre split_spl kind_ok spl_nil joinL tl_join join_eq)
def RunS (S : List Nat) (k : Nat) (l : List Nat) : Prop := ∀ r, r <:+: l → (∀ s ∈ S, s ∉ r) → r.count 44 ≤ k
theorem RunS.sub {S : List Nat} {k : Nat} {l m : List Nat} (h : RunS S k l) (i : m <:+: l) : RunS S k m := fun r a b => h r (a.trans i) b
theorem RunS.mono {S T : List Nat} {k j : Nat} {l : List Nat} (h : RunS S k l) (i : ∀ s ∈ S, s ∈ T) (kj : k ≤ j) : RunS T j l := fun r a b => Nat.le_trans (h r a fun s m => b s (i s m)) kj
theorem RunS.all {S : List Nat} {l : List Nat} : RunS S (l.count 44) l := fun r a _ => a.sublist.count_le 44
theorem infix_app {r l1 l2 : List Nat} (h : r <:+: l1 ++ l2) : ∃ r1 r2, r = r1 ++ r2 ∧ r1 <:+: l1 ∧ r2 <:+: l2 := by
  obtain ⟨s, t, e⟩ := h
  rcases List.append_eq_append_iff.mp e with ⟨u, e1, e2⟩ | ⟨v, e1, e2⟩
  · exact ⟨r, [], by simp, ⟨s, u, e1.symm⟩, List.nil_infix⟩
  · rcases List.append_eq_append_iff.mp e1 with ⟨u, e3, e4⟩ | ⟨u, e3, e4⟩
    · refine ⟨u, v, e4, ⟨s, [], by rw [List.append_nil]; exact e3.symm⟩, ⟨[], t, by rw [List.nil_append]; exact e2.symm⟩⟩
    · refine ⟨[], r, by simp, List.nil_infix, ⟨u, t, ?_⟩⟩
      rw [e2, e4]
theorem RunS.app {S : List Nat} {a b : Nat} {l1 l2 : List Nat} (h1 : RunS S a l1) (h2 : RunS S b l2) : RunS S (a + b) (l1 ++ l2) := fun r i n => by
  obtain ⟨r1, r2, rfl, i1, i2⟩ := infix_app i
  rw [List.count_append]
  exact Nat.add_le_add (h1 r1 i1 fun s m z => n s m (List.mem_append_left _ z)) (h2 r2 i2 fun s m z => n s m (List.mem_append_right _ z))
theorem infix_sep {r l1 l2 : List Nat} {c : Nat} (h : r <:+: l1 ++ c :: l2) (n : c ∉ r) : r <:+: l1 ∨ r <:+: l2 := by
  obtain ⟨s, t, e⟩ := h
  rcases List.append_eq_append_iff.mp e with ⟨u, e1, e2⟩ | ⟨v, e1, e2⟩
  · exact .inl ⟨s, u, e1.symm⟩
  · cases v with
    | nil => exact .inl ⟨s, [], by rw [List.append_nil, e1, List.append_nil]⟩
    | cons d v =>
      have e3 : c = d := by injection e2
      have e4 : l2 = v ++ t := by injection e2
      subst e3
      rcases List.append_eq_append_iff.mp e1 with ⟨u, _, e6⟩ | ⟨u, e5, e6⟩
      · exact absurd (by rw [e6]; simp) n
      · cases u with
        | nil => exact absurd (by rw [← List.nil_append r, ← e6]; simp) n
        | cons d2 u =>
          have e7 : v = u ++ r := by injection e6
          exact .inr ⟨u, t, by rw [e4, e7]⟩
theorem RunS.sep {S : List Nat} {k c : Nat} {l1 l2 : List Nat} (hc : c ∈ S) (h1 : RunS S k l1) (h2 : RunS S k l2) : RunS S k (l1 ++ c :: l2) := fun r i n => by
  rcases infix_sep i (n c hc) with i | i
  · exact h1 r i n
  · exact h2 r i n
theorem RunS.nil {S : List Nat} {k : Nat} : RunS S k [] := fun r i _ => by
  rw [List.infix_nil.mp i]; exact Nat.zero_le _
theorem RunS.join {S : List Nat} {k c : Nat} (hc : c ∈ S) : ∀ {ws : List (List Nat)}, (∀ w ∈ ws, RunS S k w) → RunS S k (joinL [c] ws)
  | [], _ => RunS.nil
  | [p], h => h p (List.mem_singleton.mpr rfl)
  | p :: q :: r, h => by
    show RunS S k (p ++ ([c] ++ joinL [c] (q :: r)))
    exact RunS.sep hc (h p List.mem_cons_self) (RunS.join hc fun w m => h w (List.mem_cons_of_mem _ m))
/-- ascii, n signs at most, k commas at most between line feeds -/
structure SpQ (n k : Nat) (x : Str) : Prop where
  asc : ascS x
  len : x.length ≤ n
  run : RunS [10] k (tl x)
/-- the same between blanks and line feeds -/
structure SpW (n k : Nat) (x : Str) : Prop where
  asc : ascS x
  len : x.length ≤ n
  run : RunS [32, 10] k (tl x)
theorem SpQ.w {n k : Nat} {x : Str} (h : SpQ n k x) : SpW n k x := ⟨h.asc, h.len, h.run.mono (fun s m => List.mem_cons_of_mem _ m) (Nat.le_refl _)⟩
theorem SpW.mono {n k n' k' : Nat} {x : Str} (h : SpW n k x) (a : n ≤ n') (b : k ≤ k') : SpW n' k' x := ⟨h.asc, Nat.le_trans h.len a, h.run.mono (fun _ m => m) b⟩
theorem SpQ.mono {n k n' k' : Nat} {x : Str} (h : SpQ n k x) (a : n ≤ n') (b : k ≤ k') : SpQ n' k' x := ⟨h.asc, Nat.le_trans h.len a, h.run.mono (fun _ m => m) b⟩
theorem SpT.q {n k : Nat} {x : Str} (h : SpT n k x) : SpQ n k x := ⟨h.asc, h.len, RunS.all.mono (fun _ m => m) h.com⟩
theorem SpQ.app {n k n' k' : Nat} {x y : Str} (h : SpQ n k x) (g : SpQ n' k' y) : SpQ (n + n') (k + k') (x ++ y) := ⟨asc_add h.asc g.asc, by
  have := h.len
  have := g.len
  rw [PySem.Str.length_append]; omega, by rw [tl_append]; exact h.run.app g.run⟩
theorem SpQ.sub {n k : Nat} {x y : Str} (h : SpQ n k x) (i : tl y <:+: tl x) : SpQ n k y := ⟨fun c m => h.asc c (i.sublist.subset m), by
  have := i.length_le
  have := h.len
  rw [str_len] at this ⊢
  omega, h.run.sub i⟩
theorem SpW.sub {n k : Nat} {x y : Str} (h : SpW n k x) (i : tl y <:+: tl x) : SpW n k y := ⟨fun c m => h.asc c (i.sublist.subset m), by
  have := i.length_le
  have := h.len
  rw [str_len] at this ⊢
  omega, h.run.sub i⟩
end Rz
namespace Rz
open PySem PySem.Spec PyProof.Rows L2
open TL (tl tl_append ext_tl mk_tl joinL tl_join join_eq)
end Rz
namespace Rz
open PySem PySem.Spec PyProof.Rows L2
end Rz
namespace Rz
open PySem PySem.Spec PyProof.Rows L2
open TL (tl tl_append ext_tl mk_tl joinL tl_join join_eq)
inductive Shr : List Nat → List Nat → Prop
  | nil : Shr [] []
  | keep (a : Nat) {l m : List Nat} : Shr l m → Shr (a :: l) (a :: m)
  | drop {l m : List Nat} : Shr l m → Shr (32 :: l) m
  | nl {l m : List Nat} : Shr l m → Shr l (10 :: m)
theorem Shr.refl : ∀ l : List Nat, Shr l l
  | [] => .nil
  | a :: l => .keep a (Shr.refl l)
theorem Shr.app {l m l' m' : List Nat} (h : Shr l m) (g : Shr l' m') : Shr (l ++ l') (m ++ m') := by
  induction h with
  | nil => exact g
  | keep a _ ih => exact .keep a ih
  | drop _ ih => exact .drop ih
  | nl _ ih => exact .nl ih
theorem Shr.mem {l m : List Nat} (h : Shr l m) {c : Nat} (i : c ∈ m) : c ∈ l ∨ c = 10 := by
  induction h with
  | nil => exact .inl i
  | keep a _ ih =>
    rcases List.mem_cons.mp i with e | i
    · exact .inl (e ▸ List.mem_cons_self)
    · exact (ih i).imp (List.mem_cons_of_mem _) id
  | drop _ ih => exact (ih i).imp (List.mem_cons_of_mem _) id
  | nl _ ih =>
    rcases List.mem_cons.mp i with e | i
    · exact .inr e
    · exact ih i
theorem Shr.tail {l m : List Nat} (h : Shr l m) : ∀ {s n : List Nat}, m = s ++ n → ∃ l1, l1 <:+ l ∧ Shr l1 n := by
  induction h with
  | nil =>
    intro s n e
    obtain ⟨rfl, rfl⟩ := List.append_eq_nil_iff.mp e.symm
    exact ⟨[], List.suffix_rfl, .nil⟩
  | keep a h ih =>
    intro s n e
    cases s with
    | nil => exact ⟨_, List.suffix_rfl, by rw [← e.trans (List.nil_append n)]; exact .keep a h⟩
    | cons b s =>
      injection e with _ e
      obtain ⟨l1, i, g⟩ := ih e
      exact ⟨l1, i.trans (List.suffix_cons _ _), g⟩
  | drop h ih =>
    intro s n e
    obtain ⟨l1, i, g⟩ := ih e
    exact ⟨l1, i.trans (List.suffix_cons _ _), g⟩
  | nl h ih =>
    intro s n e
    cases s with
    | nil => exact ⟨_, List.suffix_rfl, by rw [← e.trans (List.nil_append n)]; exact .nl h⟩
    | cons b s =>
      injection e with _ e
      exact ih e
theorem Shr.head {l m : List Nat} (h : Shr l m) : ∀ {r n : List Nat}, m = r ++ n → 10 ∉ r → ∃ q, q <+: l ∧ 10 ∉ q ∧ q.count 44 = r.count 44 := by
  induction h with
  | nil =>
    intro r n e _
    obtain ⟨rfl, rfl⟩ := List.append_eq_nil_iff.mp e.symm
    exact ⟨[], List.nil_prefix, fun m => (nomatch m), rfl⟩
  | keep a h ih =>
    intro r n e hn
    cases r with
    | nil => exact ⟨[], List.nil_prefix, fun m => (nomatch m), rfl⟩
    | cons b r =>
      injection e with e1 e
      obtain ⟨q, i, hq, c⟩ := ih e fun z => hn (List.mem_cons_of_mem _ z)
      refine ⟨a :: q, ?_, fun z => ?_, ?_⟩
      · obtain ⟨t, rfl⟩ := i
        exact ⟨t, rfl⟩
      · rcases List.mem_cons.mp z with z | z
        · exact hn (by rw [z, e1]; exact List.mem_cons_self)
        · exact hq z
      · rw [List.count_cons, List.count_cons, c, e1]
  | drop h ih =>
    intro r n e hn
    obtain ⟨q, i, hq, c⟩ := ih e hn
    refine ⟨32 :: q, ?_, fun z => ?_, ?_⟩
    · obtain ⟨t, rfl⟩ := i
      exact ⟨t, rfl⟩
    · rcases List.mem_cons.mp z with z | z
      · exact absurd z (by decide)
      · exact hq z
    · rw [List.count_cons_of_ne (by decide), c]
  | nl h ih =>
    intro r n e hn
    cases r with
    | nil => exact ⟨[], List.nil_prefix, fun m => (nomatch m), rfl⟩
    | cons b r =>
      injection e with e1 e
      exact absurd (by rw [← e1]; exact List.mem_cons_self) hn
theorem Shr.run {l m : List Nat} {k : Nat} (h : Shr l m) (g : RunS [10] k l) : RunS [10] k m := fun r i n => by
  obtain ⟨s, t, e⟩ := i
  rw [List.append_assoc] at e
  obtain ⟨l1, i1, g1⟩ := h.tail e.symm
  obtain ⟨q, i2, hq, c⟩ := g1.head rfl (n 10 List.mem_cons_self)
  rw [← c]
  exact g q (i2.isInfix.trans i1.isInfix) fun s m => by rw [List.mem_singleton.mp m]; exact hq
theorem Shr.join {y z : List Nat} (h : Shr y z) : ∀ ws : List (List Nat), Shr (joinL y ws) (joinL z ws)
  | [] => .nil
  | [p] => Shr.refl p
  | p :: q :: r => by
    show Shr (p ++ (y ++ joinL y (q :: r))) (p ++ (z ++ joinL z (q :: r)))
    exact (Shr.refl p).app (h.app (Shr.join h (q :: r)))
theorem SpQ.up {n k : Nat} {x : Str} (h : SpQ n k x) : SpQ n k (Txt.upper x) := by
  have e := PyProof.Rows.upper_ascii (x := x) h.asc
  have e2 : tl (Txt.upper x) = (tl x).map PyProof.Rows.up1 := by
    rw [e]
    show (x.cps.map PyProof.Rows.up1).toList = x.cps.toList.map PyProof.Rows.up1
    rw [Array.toList_map]
  have u : ∀ c, c < 128 → PyProof.Rows.up1 c < 128 ∧ (PyProof.Rows.up1 c = 44 ↔ c = 44) ∧ (c = 10 → PyProof.Rows.up1 c = 10) := by decide +kernel
  refine ⟨fun c m => ?_, ?_, fun r i n => ?_⟩
  · rw [e2] at m
    obtain ⟨d, md, rfl⟩ := List.mem_map.mp m
    exact (u d (h.asc d md)).1
  · have := h.len
    rw [str_len, e2, List.length_map, ← str_len]
    exact this
  · rw [e2] at i
    obtain ⟨s, t, es⟩ := i
    obtain ⟨l1, l2, e3, e4, rfl⟩ := List.map_eq_append_iff.mp es.symm
    obtain ⟨l3, l4, e5, rfl, e6⟩ := List.map_eq_append_iff.mp e4
    subst e6
    have inf : l4 <:+: tl x := ⟨l3, l2, by rw [e3, e5]⟩
    have asc4 : ∀ c ∈ l4, c < 128 := fun c m => h.asc c (inf.sublist.subset m)
    have c4 : (l4.map PyProof.Rows.up1).count 44 = l4.count 44 := by
      clear inf n es e3 e4 e5
      induction l4 with
      | nil => rfl
      | cons a r ih =>
        have ua := (u a (asc4 a List.mem_cons_self)).2.1
        rw [List.map_cons, List.count_cons, List.count_cons, ih fun c m => asc4 c (List.mem_cons_of_mem _ m)]
        by_cases q : a = 44
        · subst q
          rw [ua.mpr rfl]
        · rw [if_neg (by simpa using fun z => q (ua.mp z)), if_neg (by simpa using q)]
    rw [c4]
    refine h.run l4 inf fun s ms m => ?_
    rw [List.mem_singleton.mp ms] at m
    exact n 10 List.mem_cons_self (List.mem_map.mpr ⟨10, m, (u 10 (by decide)).2.2 rfl⟩)
theorem z13 : MulOk (PySem.Str.ofString "z") 13 := ⟨by decide, fun _ _ => by decide +kernel, fun _ _ => by decide +kernel⟩
end Rz
namespace Rz
open PySem PySem.Spec PyProof.Rows L2
end Rz
namespace Rz
open PySem PySem.Spec PyProof.Rows L2
end Rz
namespace Rz
open PySem PySem.Spec PyProof.Rows L2
variable {X : Cx} {P : Par} {ρ ρ' ρ0 ρ1 ρ2 : List SV} {σ σ' σ0 σ1 σ2 : Sg} {H0 G0 H G G' H' H1 G1 H2 G2 B : Hp} {F0 F F' F1 F2 : FP} {w : World} {K : PySem.W.Frag} {s : Shared} {pins : List (Addr × Obj)} {a : Addr}
def upAll : List PD → List PD → Bool
  | x :: xs, y :: ys => PySem.W.alike x y && (!PyData.eqv x y || upAll xs ys)
  | _, _ => true
theorem upAll_cons {x y : PD} {xs ys : List PD} (h : upAll (x :: xs) (y :: ys) = true) : PySem.W.alike x y = true ∧ (PyData.eqv x y = true → upAll xs ys = true) := by
  rw [upAll, Bool.and_eq_true] at h
  refine ⟨h.1, fun e => ?_⟩
  have h2 := h.2
  rw [e] at h2
  simpa using h2
structure UpOk (ds : List PD) : Prop where
  tup : ∀ d ∈ ds, ∃ x r, d = .tuple (x :: r)
  up : ∀ xs, .tuple xs ∈ ds → ∀ ys, .tuple ys ∈ ds → upAll xs ys = true
  dep : ∀ d ∈ ds, d.depth ≤ 16
theorem up_unique {h : Heap} : ∀ (xs ys : List PD) (vs : List Value) (as bs : List Addr), upAll xs ys = true → ReadsAll h vs xs as → ReadsAll h vs ys bs → xs = ys
  | [], _, _, _, _, _, r, q => by cases r; cases q; rfl
  | x :: xs, [], _, _, _, _, r, q => by cases q; cases r
  | x :: xs, y :: ys, _, _, _, u, r, q => by
    obtain ⟨u1, u2⟩ := upAll_cons u
    cases r with
    | cons r1 r2 =>
      cases q with
      | cons q1 q2 =>
        have e : x = y := PySem.W.alike_unique x y _ _ _ u1 r1 q1
        subst e
        rw [up_unique xs ys _ _ _ (u2 (PySem.W.eqv_refl_alike x u1)) r2 q2]
theorem up_reads {h : Heap} {ds : List PD} (ok : UpOk ds) {v : Value} {d e : PD} {as bs : List Addr} (hd : d ∈ ds) (he : e ∈ ds) (r : Reads h v d as) (q : Reads h v e bs) : d = e := by
  obtain ⟨x, xs, rfl⟩ := ok.tup d hd
  obtain ⟨y, ys, rfl⟩ := ok.tup e he
  cases r with
  | tuple a1 a2 a3 a4 =>
    cases q with
    | tuple b1 b2 b3 b4 =>
      rw [a1] at b1; cases b1
      rw [a3] at b3; cases b3
      rw [up_unique _ _ _ _ _ (ok.up _ hd _ he) a4 b4]
theorem up_kind {h : Heap} {ds : List PD} (ok : UpOk ds) {v : Value} {d : PD} {as : List Addr} (hd : d ∈ ds) (r : Reads h v d as) : (PySem.W.dataKind h ds).keyOf v = some (PySem.W.keyToks d) := by
  have q : ∃ e, e ∈ ds ∧ ∃ bs, Reads h v e bs := ⟨d, hd, as, r⟩
  have e : (PySem.W.dataKind h ds).keyOf v = some (PySem.W.keyToks q.choose) := by
    unfold PySem.W.dataKind
    dsimp only
    rw [dif_pos q]
  obtain ⟨m, bs, z⟩ := q.choose_spec
  rw [e, up_reads ok m hd z r]
theorem up_keys {h : Heap} {ds : List PD} (ok : UpOk ds) {vs : List Value} (e : PySem.W.EachIs (fun v d => ∃ as, Reads h v d as) vs ds) : PySem.W.EachIs (fun v d => (PySem.W.dataKind h ds).keyOf v = some (PySem.W.keyToks d)) vs ds :=
  (PySem.W.each_mem e).mono fun _ _ z => z.1.elim fun _ r => up_kind ok z.2 r
section
variable {prog : Program} {A : Around}
theorem up_lex {b fin : Bool} {Q : Bool → Shared → Prop} : ∀ (xs ys : List PD) (i : Nat) (vs us : List Value) (as bs : List Addr), ReadsAll s.heap vs xs as → ReadsAll s.heap us ys bs → upAll xs ys = true → A.units + min (PyData.depthAll xs) (PyData.depthAll ys) < cLine →
    (b = true → i = 0 → ∀ x r t, xs = x :: r → x ≠ .tuple t) → fin = decide (xs.length < ys.length) → Q (PyProof.Rows.lexLt itemOrd (PySem.W.keyToksAll xs) (PySem.W.keyToksAll ys)) s → PySem.W.KatLex prog w A b fin Q (vs.zip us) i s
  | [], ys, i, _, _, _, _, ra, rb, _, hu, hb, hf, hq => PySem.W.katLex_alike [] ys i _ _ _ _ ra rb (by cases ys <;> rfl) hu hb hf hq
  | x :: xs, [], i, _, _, _, _, ra, rb, _, hu, hb, hf, hq => PySem.W.katLex_alike (x :: xs) [] i _ _ _ _ ra rb rfl hu hb hf hq
  | x :: xs, y :: ys, i, _, _, _, _, ra, rb, u, hu, hb, hf, hq => by
    obtain ⟨u1, u2⟩ := upAll_cons u
    cases ra with
    | cons r1 r2 =>
      cases rb with
      | cons q1 q2 =>
        refine (PySem.W.kat_cons (r := List.zip _ _) (PySem.W.eqAt_alike x y A s _ _ _ _ r1 q1 u1 (SeqAt.room_head hu) prog w _ _ ?_) : _)
        cases hx : PyData.eqv x y with
        | true =>
          rw [PySem.W.dataLt_all_yes u1 hx] at hq
          refine PySem.W.kat_yes (up_lex xs ys (i + 1) _ _ _ _ r2 q2 (u2 hx) (SeqAt.room_tail hu) (fun _ z => nomatch z) ?_ hq)
          rw [hf, List.length_cons, List.length_cons]
          simp
        | false =>
          rw [PySem.W.dataLt_all_no u1 hx] at hq
          refine PySem.W.kat_no (PySem.W.oneLt_alike (fun z t => ?_) r1 q1 u1 (PySem.W.ne_none_of u1 hx) (SeqAt.room_head hu) hq)
          rw [Bool.and_eq_true] at z
          exact hb z.1 (by simpa using z.2) x xs t rfl
theorem up_sorts {vs : List Value} {ds : List PD} (ok : UpOk ds) (e : PySem.W.EachIs (fun v d => ∃ as, Reads s.heap v d as) vs ds) (hu : ∀ d, d ∈ ds → A.units + d.depth < cLine) : PySem.W.SortsAt prog w A s (PySem.W.dataKind s.heap ds) vs := by
  refine ⟨fun v m => ?_, ?_⟩
  · obtain ⟨d, md, as, r⟩ := e.left v m
    exact ⟨_, up_kind ok md r⟩
  cases ds with
  | nil =>
    cases e
    refine ⟨general', fun E x y p q Q hp _ _ => ?_, fun z => absurd z (by simp)⟩
    obtain ⟨d, _, md, _⟩ := PySem.W.dataKind_inv hp
    cases md
  | cons d0 rest =>
    obtain ⟨x0, r0, e0⟩ := ok.tup d0 List.mem_cons_self
    have first : ∀ x r, PyData.tuple (x :: r) ∈ d0 :: rest → PySem.W.alike x x0 = true := fun x r m => by
      have m0 : PyData.tuple (x0 :: r0) ∈ d0 :: rest := by rw [← e0]; exact List.mem_cons_self
      exact (upAll_cons (ok.up _ m _ m0)).1
    refine ⟨tuples' (PySem.W.dataType x0 != Value.type "tuple"), fun E x y p q Q hp hq go => ?_, fun z E Q go => ?_⟩
    · obtain ⟨d, as, md, ra, rfl⟩ := PySem.W.dataKind_inv hp
      obtain ⟨d', bs, md', rb, rfl⟩ := PySem.W.dataKind_inv hq
      obtain ⟨x1, t1, rfl⟩ := ok.tup d md
      obtain ⟨x2, t2, rfl⟩ := ok.tup d' md'
      have room : A.units + min (PyData.tuple (x1 :: t1)).depth (PyData.tuple (x2 :: t2)).depth < cLine := Nat.lt_of_le_of_lt (Nat.add_le_add_left (Nat.min_le_left _ _) _) (hu _ md)
      have go : Q (PySem.W.dataLt (.tuple (x1 :: t1)) (.tuple (x2 :: t2))) s := go
      rw [PySem.W.dataLt_tuple] at go
      cases ra with
      | @tuple _ _ xs _ _ _ a1 a2 a3 a4 =>
        cases rb with
        | @tuple _ _ ys _ _ _ b1 b2 b3 b4 =>
          have n1 : xs.size = (x1 :: t1).length := by simpa using SeqAt.ReadsAll.length _ _ _ a4
          have n2 : ys.size = (x2 :: t2).length := by simpa using SeqAt.ReadsAll.length _ _ _ b4
          refine PySem.W.kat_lt a1 a3 b1 b3 (up_lex _ _ 0 _ _ _ _ a4 b4 (ok.up _ md _ md') (by have := SeqAt.room_in room; omega) (fun hb _ x r t ex => ?_) (by rw [n1, n2]) go)
          obtain ⟨rfl, rfl⟩ := List.cons.inj ex
          rw [← PySem.W.dataType_alike (first _ _ md)] at hb
          exact PySem.W.dataType_tuple hb t
    · obtain ⟨fs, k1, k2, k3⟩ := PySem.W.each_katTups e ok.tup
      refine PySem.W.kat_kind (T := PySem.W.dataType x0) k1 (by omega) (fun f mf => ?_) (beq_self_eq_true _) go
      obtain ⟨x, r, as, m1, m2⟩ := k3 f mf
      rw [← PySem.W.dataType_alike (first x r m1)]
      exact PySem.W.looks_reads m2
end
/-- data that sorted(..) takes -/
def SortU (ds : List PD) : Prop := sortOk ds ∨ UpOk ds
theorem SortU.dep {ds : List PD} (h : SortU ds) : ∀ d ∈ ds, d.depth ≤ 16 := h.elim (fun h => h.2.2) fun h => h.dep
theorem up_self : ∀ {xs : List PD}, upAll xs xs = true → noInsAll xs = true
  | [], _ => rfl
  | x :: xs, h => by
    obtain ⟨h1, h2⟩ := upAll_cons h
    rw [noInsAll, noIns_alike h1, up_self (h2 (PySem.W.eqv_refl_alike x h1))]; rfl
theorem SortU.noIns {ds : List PD} (h : SortU ds) : noInsAll ds = true := noInsAll_iff.mpr fun d m => by
  rcases h with h | h
  · exact noIns_alike (h.1 d m d m)
  · obtain ⟨x, r, rfl⟩ := h.tup d m
    rw [Rz.noIns]
    exact up_self (h.up _ m _ m)
theorem SortU.keys {h : Heap} {ds : List PD} (ok : SortU ds) {vs : List Value} (e : PySem.W.EachIs (fun v d => ∃ as, Reads h v d as) vs ds) : PySem.W.EachIs (fun v d => (PySem.W.dataKind h ds).keyOf v = some (PySem.W.keyToks d)) vs ds :=
  ok.elim (fun o => PySem.W.each_keys o.1 e) fun o => up_keys o e
theorem SortU.sorts {prog : Program} {A : Around} {vs : List Value} {ds : List PD} (ok : SortU ds) (e : PySem.W.EachIs (fun v d => ∃ as, Reads s.heap v d as) vs ds) (hu : ∀ d, d ∈ ds → A.units + d.depth < cLine) : PySem.W.SortsAt prog w A s (PySem.W.dataKind s.heap ds) vs :=
  ok.elim (fun o => PySem.W.SortsAt.data e o.1 o.2.1 hu) fun o => up_sorts o e hu
theorem SortU.vals {h : Heap} {R : Value → V × PD → Prop} {bs : List (V × PD)} (ok : SortU (bs.map Prod.snd)) {vs : List Value} (e : PySem.W.EachIs R vs bs) (er : PySem.W.EachIs (fun v b => ∃ as, Reads h v b.2 as) vs bs) :
    PySem.W.EachIs R (PySem.W.sortVals (PySem.W.dataKind h (bs.map Prod.snd)) false vs vs) (bs.mergeSort (PySem.W.dataLe false Prod.snd)) :=
  PySem.W.sortVals_each (κ := PySem.W.dataKind h (bs.map Prod.snd)) (fun b => PySem.W.keyToks b.2) e (PySem.W.each_of_map Prod.snd (ok.keys (PySem.W.each_map (R := fun v d => ∃ as, Reads h v d as) Prod.snd er)))
end Rz
namespace Rz
open PySem PySem.Spec PyProof.Rows L2
end Rz
namespace Rz
open PySem PySem.Spec PyProof.Rows L2
inductive ThK where
  | tr (n : Int)
  | st (x : Str)
def ThK.d : ThK → PD
  | .tr n => .tuple [.str "train", .int n]
  | .st x => .tuple [.str "station", .str x]
def mcutD (c : ThK × Int) : PD := match c.1 with
  | .tr n => .tuple [.str "train", .int n, .int c.2]
  | .st x => .tuple [.str "station", .str x, .int c.2]
structure ThF (kvs : List (PD × PD)) : Prop where
  key : ∀ p ∈ kvs, ∃ k : ThK, p.1 = k.d
  val : ∀ p ∈ kvs, ∃ ds, p.2 = .list ds ∧ ds.length ≤ 40
  few : kvs.length ≤ 40
theorem thk_key (k : ThK) : ∃ n, keyOf k.d = some n ∧ n.depth ≤ 8 := by
  cases k <;> exact ⟨_, rfl, Nat.le_of_ble_eq_true rfl⟩
theorem ThF.tup {kvs : List (PD × PD)} (h : ThF kvs) : ∀ k ∈ kvs.map (·.1), isTupD k = true := fun k m => by
  obtain ⟨p, mp, rfl⟩ := List.mem_map.mp m
  obtain ⟨j, e⟩ := h.key p mp
  rw [e]
  cases j <;> rfl
theorem putG_mem {α : Type} {kvs : List (PD × α)} {k : PD} {v : α} {p : PD × α} (m : p ∈ putG kvs k v) : p ∈ kvs ∨ (p.2 = v ∧ (p.1 = k ∨ p.1 ∈ kvs.map (·.1))) := by
  unfold putG at m
  split at m
  · obtain ⟨q, mq, rfl⟩ := List.mem_map.mp m
    split
    · exact .inr ⟨rfl, .inr (List.mem_map.mpr ⟨q, mq, rfl⟩)⟩
    · exact .inl mq
  · rcases List.mem_append.mp m with m | m
    · exact .inl m
    · rw [List.mem_singleton] at m
      subst m
      exact .inr ⟨rfl, .inl rfl⟩
theorem thk_self (k : ThK) : sameK k.d k.d = true := by
  obtain ⟨n, e, _⟩ := thk_key k
  unfold sameK
  rw [e]
  simp
theorem cuts_sub {cs : List (ThK × Int)} {ds : List PD} (h : ∀ d ∈ ds, d ∈ cs.map mcutD) : ∃ es : List (ThK × Int), ds = es.map mcutD ∧ es.length = ds.length ∧ ∀ e ∈ es, e ∈ cs := by
  induction ds with
  | nil => exact ⟨[], rfl, rfl, fun _ m => nomatch m⟩
  | cons d ds ih =>
    obtain ⟨es, e, l, q⟩ := ih fun x m => h x (List.mem_cons_of_mem _ m)
    obtain ⟨c, mc, rfl⟩ := List.mem_map.mp (h d List.mem_cons_self)
    exact ⟨c :: es, by rw [e]; rfl, by rw [List.length_cons, List.length_cons, l], fun x m => (List.mem_cons.mp m).elim (fun z => z ▸ mc) (q x)⟩
def prD (q : Int × Int) : PD := .tuple [.int q.1, .int q.2]
structure FoOk (n : Nat) (fo : List (PD × OD)) : Prop where
  key : ∀ q ∈ fo, ∃ k : ThK, q.1 = k.d
  val : ∀ q ∈ fo, ∃ es : List (Int × Int), q.2 = .ls ((es.map prD).map .lf) ∧ es.length ≤ n + 4
  few : fo.length ≤ n
theorem FoOk.nil : FoOk 0 [] := ⟨fun _ m => (nomatch m), fun _ m => (nomatch m), Nat.le_refl 0⟩
theorem FoOk.tup {n : Nat} {fo : List (PD × OD)} (h : FoOk n fo) : ∀ k ∈ fo.map (·.1), isTupD k = true := fun k m => by
  obtain ⟨p, mp, rfl⟩ := List.mem_map.mp m
  obtain ⟨j, e⟩ := h.key p mp
  rw [e]
  cases j <;> rfl
theorem FoOk.put {n : Nat} {fo : List (PD × OD)} (h : FoOk n fo) (k : ThK) (es : List (Int × Int)) (he : es.length ≤ n + 5) : FoOk (n + 1) (putG fo k.d (.ls ((es.map prD).map .lf))) := by
  refine ⟨fun q m => ?_, fun q m => ?_, ?_⟩
  · rcases putG_mem m with m | ⟨_, e | m⟩
    · exact h.key q m
    · exact ⟨k, e⟩
    · obtain ⟨p, mp, e⟩ := List.mem_map.mp m
      obtain ⟨j, e2⟩ := h.key p mp
      exact ⟨j, by rw [← e]; exact e2⟩
  · rcases putG_mem m with m | ⟨e, _⟩
    · obtain ⟨fs, e, l⟩ := h.val q m
      exact ⟨fs, e, by omega⟩
    · exact ⟨es, e, by omega⟩
  · have := putG_len fo k.d (OD.ls ((es.map prD).map .lf))
    have := h.few
    omega
structure MiOk (n : Nat) (mi : List (PD × OD)) : Prop where
  tup : ∀ k ∈ mi.map (·.1), isTupD k = true
  few : mi.length ≤ n
theorem MiOk.put {n : Nat} {mi : List (PD × OD)} (h : MiOk n mi) (a b : Int) (o : OD) : MiOk (n + 1) (putG mi (.tuple [.int a, .int b]) o) := by
  refine ⟨fun k m => ?_, ?_⟩
  · rw [putG_keys] at m
    split at m
    · exact h.tup k m
    · rcases List.mem_append.mp m with m | m
      · exact h.tup k m
      · rw [List.mem_singleton] at m; subst m; rfl
  · have := putG_len mi (.tuple [.int a, .int b]) o
    have := h.few
    omega
def CutsT (d : PD) : Prop := ∃ cs : List (ThK × Int), cs.length ≤ 1600 ∧ d = .tuple (cs.map mcutD)
theorem CutsT.sub {cs : List (ThK × Int)} {es : List PD} (h : es.Sublist (cs.map mcutD)) (hl : cs.length ≤ 1600) : CutsT (.tuple es) := by
  obtain ⟨fs, e, l, _⟩ := cuts_sub fun d m => h.subset m
  have := h.length_le
  rw [List.length_map] at this
  exact ⟨fs, by omega, by rw [e]⟩
end Rz
namespace Rz
open PySem PySem.Spec PyProof.Rows L2
variable {X : Cx} {P : Par} {ρ ρ' ρ0 ρ1 ρ2 : List SV} {σ σ' σ0 σ1 σ2 : Sg} {H0 G0 H G G' H' H1 G1 H2 G2 : Hp} {F0 F F' F1 F2 : FP} {a b c e o : Expr} {es : List Expr} {pos : Pos} {t t1 t2 t3 : TD} {ta : TDa} {tl : TDl} {u : TDt} {w : World} {K : PySem.W.Frag}
theorem RepsF.ix : ∀ {fs : List (Str × V)} {kvs : List (Str × PD)} {n : Nat} {f : Str} {d : PD}, RepsF w K H fs (kvs.map fun p => (.str p.1, p.2)) → kvs[n]? = some (f, d) → ∃ v, fs[n]? = some (f, v) ∧ Rep w K H v d
  | fs, [], _, _, _, _, e => by simp at e
  | fs, (g, x) :: kvs, 0, f, d, r, e => by
    cases e
    cases r with
    | @cons _ v fs _ _ r1 r2 => exact ⟨v, rfl, r1⟩
  | fs, (g, x) :: kvs, n + 1, f, d, r, e => by
    cases r with
    | @cons _ v fs _ _ r1 r2 =>
      obtain ⟨v', h1, h2⟩ := RepsF.ix (n := n) r2 (by simpa using e)
      exact ⟨v', by simpa using h1, h2⟩
end Rz
namespace Rz
open PySem PySem.Spec PyProof.Rows L2
variable {X : Cx} {P : Par} {ρ ρ' ρ0 ρ1 ρ2 ρc : List SV} {σ σ' σ0 σ1 σ2 : Sg} {H0 G0 H G G' H' H1 G1 H2 G2 Gc : Hp} {F0 F F' F1 F2 Fc : FP} {a b c e o : Expr} {es : List Expr} {pos p : Pos} {t t1 t2 t3 : TD} {ta : TDa} {tl : TDl} {u : TDt} {w : World} {K : PySem.W.Frag}
theorem InsC.more {C : Addr} {ns : List Str} {f : Str} (ic : InsC K C ns) (na : NoAttr K C f) (nf : f ∉ ns) : InsC K C (ns ++ [f]) :=
  ⟨ic.cl, ic.ty, ic.no, fun g m => (List.mem_append.mp m).elim (ic.na g) fun m => by rw [List.mem_singleton.mp m]; exact na, List.nodup_append.mpr ⟨ic.nd, by simp, fun x m y m' e => nf (by rw [List.mem_singleton] at m'; rw [← m', ← e]; exact m)⟩⟩
end Rz
namespace Rz
open PySem PySem.Spec PyProof.Rows L2
variable {X : Cx} {P : Par} {ρ ρ' ρ0 ρ1 ρ2 ρc : List SV} {σ σ' σ0 σ1 σ2 : Sg} {H0 G0 H G G' H' H1 G1 H2 G2 Gc : Hp} {F0 F F' F1 F2 Fc : FP} {a b c e o : Expr} {es : List Expr} {pos p : Pos} {t t1 t2 t3 : TD} {ta : TDa} {tl : TDl} {u : TDt} {w : World} {K : PySem.W.Frag}
/-- what comes back, and how the first slot stands then -/
abbrev CtIo := List SV → (PD → SV → Prop) → Prop
def spIo (P : Par) (ct : CtIo) : Sp := fun vs H Q _ => ∃ ρc Gc Fc Qd, ρc.length = vs.length ∧ StOk P ρc (vs.map some) H Gc Fc ∧ ct ρc Qd ∧
  ∀ v d sv ρ' σ' H' G' F', SitC P ρc (vs.map some) H Gc Fc ρ' σ' H' G' F' → Rep P.w P.K G' v d → ρ'[0]? = some sv → σ'[0]? = (vs.map some)[0]? → Qd d sv → Q v H'
/-- what a caller knows of a method that changes its instance -/
structure MethIo (prog : Program) (w : World) (K : PySem.W.Frag) (mg : Str → Option Value) (base : Heap) (P : Par) (k : Nat) (C : Addr) (m : Str) (ps : List Str) (ct : CtIo) : Prop where
  ex : ∃ f fd, Meth K C m f ∧ Binds K fd ps [] ∧ FnG prog w K mg base CX0 k f fd ps (spIo P ct)
theorem MethIo.mono {prog : Program} {mg : Str → Option Value} {base : Heap} {j k : Nat} {C : Addr} {m : Str} {ps : List Str} {ct : CtIo} (M : MethIo prog w K mg base P j C m ps ct) (h : j ≤ k) : MethIo prog w K mg base P k C m ps ct := by
  obtain ⟨f, fd, h1, h2, h3⟩ := M.ex
  exact ⟨f, fd, h1, h2, h3.mono h⟩
structure NewIo (prog : Program) (w : World) (K : PySem.W.Frag) (mg : Str → Option Value) (base : Heap) (P : Par) (k : Nat) (x : Str) (C : Addr) (ps : List Str) (ct : CtIo) : Prop where
  ex : ∃ f fd j, mg x = some (.ref C) ∧ Mk K C f ∧ InsC K C [] ∧ Binds K fd ps [] ∧ j + 1 ≤ k ∧ FnG prog w K mg base CX0 j f fd ps (spIo P ct)
theorem NewIo.mono {prog : Program} {mg : Str → Option Value} {base : Heap} {j k : Nat} {C : Addr} {x : Str} {ps : List Str} {ct : CtIo} (M : NewIo prog w K mg base P j x C ps ct) (h : j ≤ k) : NewIo prog w K mg base P k x C ps ct := by
  obtain ⟨f, fd, i, h0, h1, h2, h3, h4, h5⟩ := M.ex
  exact ⟨f, fd, i, h0, h1, h2, h3, Nat.le_trans h4 h, h5⟩
/-- a slot that owns nothing -/
def plainS : SV → Bool
  | .ow _ => false
  | .wl => false
  | .io _ _ => false
  | _ => true
theorem plain_rest {s0 : SV} {ss : List SV} (h : ss.all plainS = true) (h0 : ∀ C fs, s0 ≠ .io C fs) : (∀ i : Nat, 0 < i → ∀ o, (s0 :: ss)[i]? ≠ some (.ow o) ∧ (s0 :: ss)[i]? ≠ some .wl) ∧ ∀ (i : Nat) C fs, (s0 :: ss)[i]? ≠ some (.io C fs) := by
  have g : ∀ (i : Nat) (s : SV), ss[i]? = some s → plainS s = true := fun i s e => List.all_eq_true.mp h s (List.mem_of_getElem? e)
  refine ⟨fun i hi o => ?_, fun i C fs e => ?_⟩
  · cases i with
    | zero => omega
    | succ i =>
      rw [List.getElem?_cons_succ]
      exact ⟨fun e => (by have := g i _ e; cases this), fun e => (by have := g i _ e; cases this)⟩
  · cases i with
    | zero => exact h0 C fs (Option.some.inj e)
    | succ i =>
      rw [List.getElem?_cons_succ] at e
      have := g i _ e; cases this
end Rz
namespace Rz
open PySem PySem.Spec PyProof.Rows L2
def hitLe (a b : Hit) : Bool := PySem.W.dataLe false id (hitD a) (hitD b)
def txtLe (a b : Str) : Bool := PySem.W.dataLe false id (.str a) (.str b)
def hitsS (x : Str) (ts : List Trn) : List Hit := (hitsT x ts).mergeSort hitLe
def stns (p : Pln) : List Str := (namesOf p).mergeSort txtLe
theorem hitsS_len (x : Str) (ts : List Trn) : (hitsS x ts).length ≤ manyC ts := by
  unfold hitsS; rw [List.length_mergeSort]; exact hitsT_len x ts
theorem stns_len (p : Pln) : (stns p).length ≤ manyC p.trains := by
  unfold stns; rw [List.length_mergeSort]
  have := namesT_len p.trains []
  unfold namesOf
  simpa using this
abbrev Mark := Int × Int
def ThK.nd : ThK → PD
  | .tr n => .int n
  | .st x => .str x
def marksN (n : Int) (m : Nat) : List Mark := (List.range m).map fun i : Nat => (n, Int.ofNat i)
def marksT (t : Trn) : List Mark := marksN t.number t.calls.length
def marksS (x : Str) (ts : List Trn) : List Mark := (hitsS x ts).map fun h => (h.2.1, h.2.2)
def lfE (kvs : List (PD × PD)) : List (PD × OD) := kvs.map fun p => (p.1, .lf p.2)
theorem putAllG_append {α : Type} (a b c : List (PD × α)) : putAllG a (b ++ c) = putAllG (putAllG a b) c := List.foldl_append
/-- keys that are tuples, not too many -/
structure TupN (n : Nat) (kvs : List (PD × PD)) : Prop where
  tup : ∀ k ∈ kvs.map (·.1), isTupD k = true
  few : kvs.length ≤ n
theorem TupN.nil : TupN 0 [] := ⟨fun _ m => (nomatch m), Nat.le_refl 0⟩
theorem TupN.put {n : Nat} {kvs : List (PD × PD)} (h : TupN n kvs) {k v : PD} (hk : isTupD k = true) : TupN (n + 1) (putG kvs k v) := by
  refine ⟨fun x m => ?_, ?_⟩
  · rw [putG_keys] at m
    split at m
    · exact h.tup x m
    · rcases List.mem_append.mp m with m | m
      · exact h.tup x m
      · rw [List.mem_singleton] at m; subst m; exact hk
  · have := putG_len kvs k v
    have := h.few
    omega
theorem TupN.mono {n m : Nat} {kvs : List (PD × PD)} (h : TupN n kvs) (l : n ≤ m) : TupN m kvs := ⟨h.tup, Nat.le_trans h.few l⟩
theorem marksN_len (n : Int) (m : Nat) : (marksN n m).length = m := by unfold marksN; rw [List.length_map, List.length_range]
theorem t_tupC2 {α : Type} {b : Bool} {es : List α} {g : α → PD} {Q : Rv → Prop} (h : immAll (es.map g) = true) (q : Q (.cl (.tuple (es.map g)))) : bTuple (mkC b (es.map fun d => .cl (g d))) Q := by
  rw [mkC_cl2 h]
  exact t_tuple (ds := es.map g) (congrArg some (vals_lf _)) q
end Rz
namespace Rz
open PySem PySem.Spec PyProof.Rows L2
variable {X : Cx} {P : Par} {ρ ρ' ρ0 ρ1 ρ2 : List SV} {σ σ' σ0 σ1 σ2 : Sg} {H0 G0 H G G' H' H1 G1 H2 G2 : Hp} {F0 F F' F1 F2 : FP} {e : Expr} {es : List Expr} {ta : TDa}
structure ClsG (ns : List Str) (m : Int) (cs : List Cll) : Prop where
  nm : ∀ c ∈ cs, c.1 ∈ ns
  mi : ∀ c ∈ cs, 0 ≤ c.2 ∧ c.2 < m
  asc : (cs.map (·.2)).Pairwise (· < ·)
theorem ClsG.nil {ns : List Str} {m : Int} : ClsG ns m [] := ⟨fun _ m => (nomatch m), fun _ m => (nomatch m), .nil⟩
theorem ClsG.mono {ns : List Str} {m m' : Int} {cs : List Cll} (h : ClsG ns m cs) (l : m ≤ m') : ClsG ns m' cs := ⟨h.nm, fun c mc => by have := h.mi c mc; omega, h.asc⟩
theorem ClsG.add {ns : List Str} {m v : Int} {x : Str} {cs : List Cll} (h : ClsG ns m cs) (mx : x ∈ ns) (v0 : 0 ≤ v) (mv : m ≤ v) : ClsG ns (v + 1) (cs ++ [(x, v)]) := by
  refine ⟨fun c mc => ?_, fun c mc => ?_, ?_⟩
  · rcases List.mem_append.mp mc with q | q
    · exact h.nm c q
    · rw [List.mem_singleton] at q; subst q; exact mx
  · rcases List.mem_append.mp mc with q | q
    · have := h.mi c q; omega
    · rw [List.mem_singleton] at q; subst q; exact ⟨v0, by show v < v + 1; omega⟩
  · rw [List.map_append, List.pairwise_append]
    refine ⟨h.asc, List.pairwise_singleton _ _, fun a ma b mb => ?_⟩
    obtain ⟨c, mc, rfl⟩ := List.mem_map.mp ma
    simp only [List.map_cons, List.map_nil, List.mem_singleton] at mb
    subst mb
    have := h.mi c mc
    omega
structure TrsG (n : Nat) (ns : List Str) (nu : Int) (ts : List Trn) : Prop where
  num : ∀ t ∈ ts, 1 ≤ t.number ∧ t.number ≤ nu
  asc : (ts.map (·.number)).Pairwise (· < ·)
  days : ∀ t ∈ ts, t.days.Sublist (List.range n) ∧ t.days ≠ []
  cls : ∀ t ∈ ts, ClsG ns 2880 t.calls ∧ t.calls ≠ []
theorem TrsG.nil {n : Nat} {ns : List Str} {nu : Int} : TrsG n ns nu [] := ⟨fun _ m => (nomatch m), .nil, fun _ m => (nomatch m), fun _ m => (nomatch m)⟩
theorem TrsG.add {n : Nat} {ns : List Str} {nu : Int} {ts : List Trn} {t : Trn} (h : TrsG n ns nu ts) (n0 : 1 ≤ t.number) (n1 : nu < t.number) (hd : t.days.Sublist (List.range n) ∧ t.days ≠ []) (hc : ClsG ns 2880 t.calls ∧ t.calls ≠ []) : TrsG n ns t.number (ts ++ [t]) := by
  refine ⟨fun x mx => ?_, ?_, fun x mx => ?_, fun x mx => ?_⟩
  · rcases List.mem_append.mp mx with q | q
    · have := h.num x q; omega
    · rw [List.mem_singleton] at q; subst q; exact ⟨n0, Int.le_refl _⟩
  · rw [List.map_append, List.pairwise_append]
    refine ⟨h.asc, List.pairwise_singleton _ _, fun a ma b mb => ?_⟩
    obtain ⟨c, mc, rfl⟩ := List.mem_map.mp ma
    simp only [List.map_cons, List.map_nil, List.mem_singleton] at mb
    subst mb
    have := (h.num c mc).2
    omega
  · rcases List.mem_append.mp mx with q | q
    · exact h.days x q
    · rw [List.mem_singleton] at q; subst q; exact hd
  · rcases List.mem_append.mp mx with q | q
    · exact h.cls x q
    · rw [List.mem_singleton] at q; subst q; exact hc
end Rz
namespace Rz
open PySem PySem.Spec PyProof.Rows L2
theorem lookG_same {α : Type} {k j : PD} (h : sameK k j = true) (kvs : List (PD × α)) : lookG kvs k = lookG kvs j := by
  have h : keyOf k = keyOf j := of_decide_eq_true h
  unfold lookG sameK
  rw [h]
theorem sameK_sym {k j : PD} (h : sameK k j = true) : sameK j k = true := decide_eq_true (of_decide_eq_true h : keyOf k = keyOf j).symm
theorem sameK_tr {a b c : PD} (h : sameK a b = true) (g : sameK b c = true) : sameK a c = true := decide_eq_true ((of_decide_eq_true h : keyOf a = keyOf b).trans (of_decide_eq_true g))
theorem lookG_app {α : Type} (j : PD) (b : List (PD × α)) : ∀ a : List (PD × α), lookG (a ++ b) j = (lookG a j).or (lookG b j)
  | [] => by rw [List.nil_append]; rfl
  | p :: a => by
    rw [List.cons_append, lookG_cons, lookG_cons]
    split
    · rfl
    · exact lookG_app j b a
theorem lookG_upd {α : Type} (k j : PD) (v : α) : ∀ kvs : List (PD × α), lookG (kvs.map fun kv => if sameK kv.1 k = true then (kv.1, v) else kv) j = if sameK k j = true then (lookG kvs j).map (fun _ => v) else lookG kvs j
  | [] => by
    show (none : Option α) = if sameK k j = true then none else none
    split <;> rfl
  | p :: r => by
    rw [List.map_cons, lookG_cons, lookG_cons, lookG_upd k j v r]
    by_cases h1 : sameK p.1 k = true
    · rw [if_pos h1]
      by_cases h2 : sameK k j = true
      · rw [if_pos h2, if_pos (sameK_tr h1 h2), if_pos (sameK_tr h1 h2), if_pos h2]; rfl
      · have h3 : ¬ sameK p.1 j = true := fun h => h2 (sameK_tr (sameK_sym h1) h)
        rw [if_neg h2, if_neg h3, if_neg h3, if_neg h2]
    · rw [if_neg h1]
      by_cases h2 : sameK k j = true
      · have h3 : ¬ sameK p.1 j = true := fun h => h1 (sameK_tr h (sameK_sym h2))
        rw [if_pos h2, if_neg h3, if_neg h3, if_pos h2]
      · rw [if_neg h2, if_neg h2]
theorem lookG_put {α : Type} (kvs : List (PD × α)) (k j : PD) (v : α) : lookG (putG kvs k v) j = if sameK k j = true then some v else lookG kvs j := by
  unfold putG
  split
  · rename_i h
    rw [lookG_upd]
    split
    · rename_i h2
      rw [lookG_any, lookG_same h2] at h
      obtain ⟨x, e⟩ := Option.isSome_iff_exists.mp h
      rw [e]; rfl
    · rfl
  · rename_i h
    rw [lookG_app]
    split
    · rename_i h2
      rw [lookG_any, lookG_same h2] at h
      have : lookG kvs j = none := by
        cases z : lookG kvs j with
        | none => rfl
        | some x => rw [z] at h; exact absurd rfl h
      rw [this, lookG_cons, if_pos h2]; rfl
    · rename_i h2
      rw [lookG_cons, if_neg h2]
      show (lookG kvs j).or none = _
      cases lookG kvs j <;> rfl
theorem thk_same {a b : ThK} (h : sameK a.d b.d = true) : a = b := by
  have h : keyOf a.d = keyOf b.d := of_decide_eq_true h
  cases a with
  | tr n => cases b with
    | tr m =>
      have h : some (NestedKey.tup [.text "train", .num n]) = some (.tup [.text "train", .num m]) := h
      simp only [Option.some.injEq, NestedKey.tup.injEq, List.cons.injEq, NestedKey.num.injEq, and_true, true_and] at h
      rw [h]
    | st y =>
      have h : some (NestedKey.tup [.text "train", .num n]) = some (.tup [.text "station", .text y]) := h
      simp at h
  | st x => cases b with
    | tr m =>
      have h : some (NestedKey.tup [.text "station", .text x]) = some (.tup [.text "train", .num m]) := h
      simp at h
    | st y =>
      have h : some (NestedKey.tup [.text "station", .text x]) = some (.tup [.text "station", .text y]) := h
      simp only [Option.some.injEq, NestedKey.tup.injEq, List.cons.injEq, NestedKey.text.injEq, and_true, true_and] at h
      rw [h]
def numM (n : Int) (ts : List Trn) : List Mark := match ts.find? (fun t => decide (t.number = n)) with
  | some t => marksT t
  | none => []
def threadOf (p : Pln) : ThK → List Mark
  | .st x => marksS x p.trains
  | .tr n => numM n p.trains
def trKeys (ts : List Trn) : List ThK := ts.map fun t => .tr t.number
def stKeys (p : Pln) : List ThK := (stns p).map .st
def lnKeys (p : Pln) : List ThK := stKeys p ++ trKeys p.trains
theorem numM_of {ts : List Trn} (h : (ts.map (·.number)).Pairwise (· < ·)) {t : Trn} (m : t ∈ ts) : numM t.number ts = marksT t := by
  have : ts.find? (fun x => decide (x.number = t.number)) = some t := by
    induction ts with
    | nil => cases m
    | cons u ts ih =>
      rw [List.map_cons, List.pairwise_cons] at h
      rw [List.find?_cons]
      rcases List.mem_cons.mp m with e | m
      · subst e
        rw [decide_eq_true rfl]
      · have := h.1 t.number (List.mem_map.mpr ⟨t, m, rfl⟩)
        rw [decide_eq_false (by omega)]
        exact ih h.2 m
  unfold numM
  rw [this]
theorem TupN.dict {n : Nat} {kvs : List (PD × PD)} (h : TupN n kvs) {b : Bool} : isDict (Rz.mk b (.dict kvs)).val = true := by
  rw [mk_val]
  show (!isIns kvs) = true
  rw [isIns_keys fun d m => by have := h.tup _ m; cases this]; rfl
theorem threadOf_len (p : Pln) (k : ThK) : (threadOf p k).length ≤ manyC p.trains := by
  cases k with
  | st x =>
    show (marksS x p.trains).length ≤ _
    unfold marksS; rw [List.length_map]; exact hitsS_len x p.trains
  | tr n =>
    show (numM n p.trains).length ≤ _
    unfold numM
    split
    · rename_i t e
      have m := List.mem_of_find?_eq_some e
      unfold marksT; rw [marksN_len]
      obtain ⟨a, b, e⟩ := List.mem_iff_append.mp m
      rw [e, manyC_mid]; omega
    · exact Nat.zero_le _
theorem marksS_len (x : Str) (ts : List Trn) : (marksS x ts).length = (hitsT x ts).length := by unfold marksS hitsS; rw [List.length_map, List.length_mergeSort]
end Rz
namespace Rz
open PySem PySem.Spec PyProof.Rows L2
theorem shaped_int (i : Int) : SeqAt.shaped (.int i) = true := by unfold SeqAt.shaped PyData.canLay0 PyData.depth; rfl
theorem lnKeys_len (p : Pln) : (lnKeys p).length ≤ manyC p.trains + p.trains.length := by
  unfold lnKeys stKeys trKeys
  rw [List.length_append, List.length_map, List.length_map]
  have := stns_len p
  omega
end Rz
namespace Rz
open PySem PySem.Spec PyProof.Rows L2
instance : DecidableEq ThK := fun a b => match a, b with
  | .tr n, .tr m => if h : n = m then isTrue (by rw [h]) else isFalse fun e => h (by cases e; rfl)
  | .st x, .st y => if h : x = y then isTrue (by rw [h]) else isFalse fun e => h (by cases e; rfl)
  | .tr _, .st _ => isFalse fun e => by cases e
  | .st _, .tr _ => isFalse fun e => by cases e
def keysB (p : Pln) (b : Bool) : List ThK := if b then stKeys p else trKeys p.trains
def gapsK (k : ThK) (n : Nat) : List (ThK × Int) := (List.range (n - 1)).map fun i : Nat => (k, (i : Int) + 1)
def gapsL (p : Pln) (ks : List ThK) : List (ThK × Int) := ks.flatMap fun k => gapsK k (threadOf p k).length
def gapsP (p : Pln) : List (ThK × Int) := gapsL p (lnKeys p)
theorem gapsK_len (k : ThK) (n : Nat) : (gapsK k n).length = n - 1 := by unfold gapsK; rw [List.length_map, List.length_range]
theorem stns_nodup (p : Pln) : (stns p).Nodup := by
  unfold stns
  exact (List.mergeSort_perm _ _).nodup_iff.mpr (namesT_nodup _ List.nodup_nil)
theorem lnKeys_nodup {p : Pln} (h : PlnR p) : (lnKeys p).Nodup := by
  unfold lnKeys stKeys trKeys
  rw [List.nodup_append]
  refine ⟨?_, ?_, ?_⟩
  · exact (List.pairwise_map.mpr ((stns_nodup p).imp fun n e => n (by cases e; rfl)))
  · have := h.asc
    rw [List.pairwise_map] at this
    exact List.pairwise_map.mpr (this.imp fun n e => by have := (ThK.tr.injEq _ _).mp e; omega)
  · intro a m b m' e
    obtain ⟨x, _, rfl⟩ := List.mem_map.mp m
    obtain ⟨y, _, rfl⟩ := List.mem_map.mp m'
    cases e
theorem filt_flat {f : ThK → List (ThK × Int)} (hf : ∀ j, ∀ c ∈ f j, c.1 = j) (k : ThK) : ∀ {ks : List ThK}, ks.Nodup → (ks.flatMap f).filter (fun c => decide (c.1 = k)) = if k ∈ ks then f k else []
  | [], _ => rfl
  | j :: ks, nd => by
    have nd := List.nodup_cons.mp nd
    have ih := filt_flat hf k nd.2
    rw [List.flatMap_cons, List.filter_append, ih]
    by_cases e : j = k
    · subst e
      rw [if_neg nd.1, if_pos List.mem_cons_self, List.append_nil]
      exact List.filter_eq_self.mpr fun c m => decide_eq_true (hf _ c m)
    · have : (f j).filter (fun c => decide (c.1 = k)) = [] := List.filter_eq_nil_iff.mpr fun c m z => e ((hf _ c m).symm.trans (of_decide_eq_true z))
      rw [this, List.nil_append]
      by_cases m : k ∈ ks
      · rw [if_pos m, if_pos (List.mem_cons_of_mem _ m)]
      · rw [if_neg m, if_neg fun z => m ((List.mem_cons.mp z).resolve_left fun e' => e e'.symm)]
theorem gapsK_fst (k : ThK) (n : Nat) : ∀ c ∈ gapsK k n, c.1 = k := fun c m => by
  unfold gapsK at m
  obtain ⟨i, _, rfl⟩ := List.mem_map.mp m
  rfl
abbrev Cuts := List (ThK × Int)
def CutsP (p : Pln) (cs : Cuts) : Prop := cs.Sublist (gapsP p)
def gapsAt (cs : Cuts) (k : ThK) : List Nat := (cs.filter fun c => decide (c.1 = k)).map fun c => c.2.toNat
theorem gapsAt_sub {p : Pln} (h : PlnR p) {cs : Cuts} (hc : CutsP p cs) (k : ThK) : (gapsAt cs k).Sublist ((List.range ((threadOf p k).length - 1)).map (· + 1)) := by
  have s : (cs.filter fun c => decide (c.1 = k)).Sublist ((gapsP p).filter fun c => decide (c.1 = k)) := List.Sublist.filter _ hc
  unfold gapsP gapsL at s
  rw [filt_flat (fun j c m => gapsK_fst j _ c m) k (lnKeys_nodup h)] at s
  split at s
  · have := s.map fun c : ThK × Int => c.2.toNat
    unfold gapsAt
    unfold gapsK at this
    rw [List.map_map] at this
    have e : ((fun c : ThK × Int => c.2.toNat) ∘ fun i : Nat => (k, (i : Int) + 1)) = (· + 1) := by funext i; show ((i : Int) + 1).toNat = i + 1; omega
    rw [e] at this
    exact this
  · unfold gapsAt
    rw [List.sublist_nil.mp s]
    exact List.nil_sublist _
structure GapsIn (n : Nat) (gs : List Nat) : Prop where
  lo : ∀ g ∈ gs, 1 ≤ g
  hi : ∀ g ∈ gs, g < n
  asc : gs.Pairwise (· < ·)
theorem gapsAt_in {p : Pln} (h : PlnR p) {cs : Cuts} (hc : CutsP p cs) (k : ThK) : GapsIn (threadOf p k).length (gapsAt cs k) := by
  have s := gapsAt_sub h hc k
  refine ⟨fun g m => ?_, fun g m => ?_, ?_⟩
  · obtain ⟨i, _, rfl⟩ := List.mem_map.mp (s.subset m)
    omega
  · obtain ⟨i, mi, rfl⟩ := List.mem_map.mp (s.subset m)
    rw [List.mem_range] at mi
    omega
  · refine List.Pairwise.sublist s ?_
    rw [List.pairwise_map]
    exact List.pairwise_lt_range.imp fun l => by omega
abbrev Head := ThK × Nat
abbrev PartM := Head × List Mark
def headD (h : Head) : PD := .tuple [h.1.nd, .int (h.2 : Int)]
def slc (ms : List Mark) (q : Nat × Nat) : List Mark := (ms.drop q.1).take (q.2 - q.1)
def spans (n : Nat) (gs : List Nat) : List (Nat × Nat) := (0 :: gs).zip (gs ++ [n])
def partsK (k : ThK) (ms : List Mark) (gs : List Nat) : List PartM := (spans ms.length gs).map fun q => ((k, q.1), slc ms q)
def partsB (p : Pln) (cs : Cuts) (b : Bool) : List PartM := (keysB p b).flatMap fun k => partsK k (threadOf p k) (gapsAt cs k)
theorem spans_add (n g : Nat) (gs : List Nat) : spans n (gs ++ [g]) = spans g gs ++ [(g, n)] := by
  unfold spans
  rw [← List.cons_append, List.zip_append (by simp)]
  rfl
theorem CutsP.key {p : Pln} {cs : Cuts} (hc : CutsP p cs) : ∀ c ∈ cs, c.1 ∈ lnKeys p := fun c m => by
  have := hc.subset m
  unfold gapsP gapsL at this
  obtain ⟨k, mk, m⟩ := List.mem_flatMap.mp this
  rw [gapsK_fst _ _ c m]
  exact mk
theorem gapsL_len (p : Pln) : ∀ ks : List ThK, (gapsL p ks).length ≤ ks.length * manyC p.trains
  | [] => Nat.zero_le _
  | k :: ks => by
    have ih := gapsL_len p ks
    have := threadOf_len p k
    have e : gapsL p (k :: ks) = gapsK k (threadOf p k).length ++ gapsL p ks := List.flatMap_cons
    rw [e, List.length_append, gapsK_len, List.length_cons, Nat.add_mul, Nat.one_mul]
    omega
theorem PlnR.gaps {p : Pln} (h : PlnR p) : (gapsP p).length ≤ 44800 := by
  have l1 := gapsL_len p (lnKeys p)
  have l2 := lnKeys_len p
  have h1 := h.total
  have h2 := h.many
  have : (lnKeys p).length * manyC p.trains ≤ 224 * 200 := Nat.mul_le_mul (by omega) h1
  unfold gapsP
  omega
theorem CutsP.len {p : Pln} {cs : Cuts} (hc : CutsP p cs) (h : PlnR p) : cs.length ≤ 44800 := Nat.le_trans (List.Sublist.length_le hc) h.gaps
end Rz
namespace Rz
open PySem PySem.Spec PyProof.Rows L2
def callAt (p : Pln) (m : Mark) : Option Cll := (p.trains.find? fun t => decide (t.number = m.1)).bind fun t => t.calls[m.2.toNat]?
def minOf (p : Pln) (m : Mark) : Int := ((callAt p m).map (·.2)).getD 0
def allM (ts : List Trn) : List Mark := ts.flatMap marksT
theorem hitsC_at {x : Str} {n : Int} : ∀ {cs : List Cll} {k : Int} {i : Nat} {v : Int}, cs[i]? = some (x, v) → (v, n, k + (i : Int)) ∈ hitsC x n k cs
  | [], _, _, _, e => by simp at e
  | c :: cs, k, 0, v, e => by
    cases e
    unfold hitsC
    rw [if_pos rfl]
    simp
  | c :: cs, k, i + 1, v, e => by
    have := hitsC_at (x := x) (n := n) (cs := cs) (k := k + 1) (i := i) (v := v) (by simpa using e)
    unfold hitsC
    have e2 : k + ((i + 1 : Nat) : Int) = k + 1 + (i : Int) := by omega
    rw [e2]
    split
    · exact List.mem_cons_of_mem _ this
    · exact this
theorem all_st {p : Pln} {m : Mark} (hm : m ∈ allM p.trains) : ∃ x ∈ stns p, m ∈ threadOf p (.st x) := by
  unfold allM at hm
  obtain ⟨t, mt, hm⟩ := List.mem_flatMap.mp hm
  unfold marksT marksN at hm
  obtain ⟨i, mi, rfl⟩ := List.mem_map.mp hm
  rw [List.mem_range] at mi
  have e := List.getElem?_eq_getElem mi
  refine ⟨t.calls[i].1, ?_, ?_⟩
  · unfold stns
    rw [List.mem_mergeSort]
    exact (namesT_mem p.trains []).mpr (.inr ⟨t, mt, t.calls[i], List.getElem_mem mi, rfl⟩)
  · show _ ∈ marksS _ p.trains
    unfold marksS
    refine List.mem_map.mpr ⟨(t.calls[i].2, t.number, (0 : Int) + (i : Int)), ?_, ?_⟩
    · unfold hitsS
      rw [List.mem_mergeSort]
      unfold hitsT
      exact List.mem_flatMap.mpr ⟨t, mt, hitsC_at (by rw [e])⟩
    · show (t.number, (0 : Int) + (i : Int)) = (t.number, Int.ofNat i)
      rw [Int.zero_add]; rfl
theorem all_tr {p : Pln} (h : PlnR p) {m : Mark} (hm : m ∈ allM p.trains) : ∃ t ∈ p.trains, m ∈ threadOf p (.tr t.number) := by
  unfold allM at hm
  obtain ⟨t, mt, hm⟩ := List.mem_flatMap.mp hm
  exact ⟨t, mt, by show m ∈ numM t.number p.trains; rw [numM_of h.asc mt]; exact hm⟩
theorem spans_flat {ms : List Mark} : ∀ (n : Nat) {gs : List Nat} {e : Nat}, gs.length = n → (∀ g ∈ gs, g ≤ e) → gs.Pairwise (· < ·) → (spans e gs).flatMap (slc ms) = ms.take e
  | 0, gs, e, l, _, _ => by
    rw [List.length_eq_zero_iff.mp l]
    show slc ms (0, e) ++ [] = _
    rw [List.append_nil]; rfl
  | n + 1, gs, e, l, hg, as => by
    rcases List.eq_nil_or_concat gs with rfl | ⟨g1, g, rfl⟩
    · cases l
    · rw [List.concat_eq_append] at hg as l ⊢
      rw [List.length_append, List.length_singleton] at l
      rw [List.pairwise_append] at as
      have ge : g ≤ e := hg g (by simp)
      rw [spans_add, List.flatMap_append, spans_flat n (by omega) (fun x mx => Nat.le_of_lt (as.2.2 x mx g (by simp))) as.1]
      show ms.take g ++ (slc ms (g, e) ++ []) = ms.take e
      rw [List.append_nil]
      unfold slc
      show ms.take g ++ (ms.drop g).take (e - g) = ms.take e
      rw [← List.take_add]
      congr 1
      omega
theorem partsK_flat {k : ThK} {ms : List Mark} {gs : List Nat} (h : GapsIn ms.length gs) : (partsK k ms gs).flatMap (·.2) = ms := by
  unfold partsK
  rw [List.flatMap_map]
  show (spans ms.length gs).flatMap (slc ms) = ms
  rw [spans_flat _ rfl (fun g m => Nat.le_of_lt (h.hi g m)) h.asc]
  exact List.take_length
theorem keysB_ln {p : Pln} {b : Bool} {k : ThK} (m : k ∈ keysB p b) : k ∈ lnKeys p := by
  unfold lnKeys
  cases b with
  | true => exact List.mem_append_left _ m
  | false => exact List.mem_append_right _ m
def liePs (qs : List PartM) : List (PD × PD) := qs.flatMap fun q => q.2.map fun m => (prD m, headD q.1)
def lieKv (p : Pln) (cs : Cuts) (b : Bool) : List (PD × PD) := putAllG [] (liePs (partsB p cs b))
def lieOf (p : Pln) (cs : Cuts) (b : Bool) (m : Mark) : PD := (lookG (lieKv p cs b) (prD m)).getD .none
def apD (p : Pln) (cs : Cuts) (b : Bool) (m m' : Mark) : PD := .tuple [lieOf p cs b m, lieOf p cs b m']
def pairsF (p : Pln) (cs : Cuts) (b : Bool) (ms : List Mark) (m : Mark) : List PD := (ms.filter fun m' => decide (minOf p m < minOf p m')).map (apD p cs b m)
def pairsQ (p : Pln) (cs : Cuts) (b : Bool) (ms : List Mark) : List PD := ms.flatMap (pairsF p cs b ms)
def pairK (p : Pln) (cs : Cuts) (b : Bool) : List PD := (partsB p cs (!b)).flatMap fun q => pairsQ p cs b q.2
def kyK (ks : List PD) : List PD := (putAllG [] (ks.map fun k => (k, PyData.bool true))).map (·.1)
theorem kyK_len : ∀ (n : Nat) {ks : List PD}, ks.length = n → (kyK ks).length ≤ n
  | 0, ks, e => by rw [List.length_eq_zero_iff.mp e]; exact Nat.zero_le _
  | n + 1, ks, e => by
    rcases List.eq_nil_or_concat ks with rfl | ⟨ks', k, rfl⟩
    · exact Nat.zero_le _
    · rw [List.concat_eq_append, List.length_append] at e
      rw [List.concat_eq_append]
      have ih := kyK_len n (ks := ks') (by simpa using e)
      unfold kyK at ih ⊢
      rw [List.map_append, putAllG_append]
      show ((putG (putAllG [] (ks'.map fun k => (k, PyData.bool true))) k (PyData.bool true)).map (·.1)).length ≤ _
      rw [List.length_map]
      have := putG_len (putAllG [] (ks'.map fun k => (k, PyData.bool true))) k (PyData.bool true)
      rw [List.length_map] at ih
      omega
end Rz
namespace Rz
open PySem PySem.Spec PyProof.Rows L2
theorem one_of (x : Str) : ∀ {xs : List Str}, xs.Nodup → (xs.map fun y => if x = y then 1 else 0).sum ≤ 1
  | [], _ => by simp
  | y :: ys, nd => by
    have nd := List.nodup_cons.mp nd
    rw [List.map_cons, List.sum_cons]
    by_cases e : x = y
    · subst e
      have : (ys.map fun y => if x = y then 1 else 0).sum = 0 := by
        have : ∀ {zs : List Str}, x ∉ zs → (zs.map fun y => if x = y then 1 else 0).sum = 0 := by
          intro zs
          induction zs with
          | nil => intro _; rfl
          | cons z zs ih =>
            intro hz
            rw [List.map_cons, List.sum_cons, if_neg fun e => hz (by rw [e]; exact List.mem_cons_self), ih fun m => hz (List.mem_cons_of_mem _ m)]
        exact this nd.1
      rw [this, if_pos rfl]
      omega
    · rw [if_neg e]
      have := one_of x nd.2
      omega
theorem sum_add {α : Type} (f g : α → Nat) : ∀ xs : List α, (xs.map fun x => f x + g x).sum = (xs.map f).sum + (xs.map g).sum
  | [] => rfl
  | x :: xs => by
    rw [List.map_cons, List.map_cons, List.map_cons, List.sum_cons, List.sum_cons, List.sum_cons, sum_add f g xs]
    omega
theorem hitsC_sum {xs : List Str} (nd : xs.Nodup) (n : Int) : ∀ (cs : List Cll) (k : Int), (xs.map fun x => (hitsC x n k cs).length).sum ≤ cs.length
  | [], k => by
    have : ∀ zs : List Str, (zs.map fun x => (hitsC x n k []).length).sum = 0 := by
      intro zs
      induction zs with
      | nil => rfl
      | cons z zs ih => rw [List.map_cons, List.sum_cons, ih]; rfl
    rw [this]
    exact Nat.le_refl _
  | c :: cs, k => by
    have e : (fun x => (hitsC x n k (c :: cs)).length) = fun x => (if c.1 = x then 1 else 0) + (hitsC x n (k + 1) cs).length := by
      funext x
      show (if c.1 = x then (c.2, n, k) :: hitsC x n (k + 1) cs else hitsC x n (k + 1) cs).length = _
      split
      · rw [List.length_cons]; omega
      · omega
    rw [e, sum_add]
    have h1 := one_of c.1 nd
    have h2 := hitsC_sum nd n cs (k + 1)
    rw [List.length_cons]
    omega
theorem hitsT_sum {xs : List Str} (nd : xs.Nodup) : ∀ ts : List Trn, (xs.map fun x => (hitsT x ts).length).sum ≤ manyC ts
  | [] => by
    have : ∀ zs : List Str, (zs.map fun x => (hitsT x []).length).sum = 0 := by
      intro zs
      induction zs with
      | nil => rfl
      | cons z zs ih => rw [List.map_cons, List.sum_cons, ih]; rfl
    rw [this]
    exact Nat.zero_le _
  | t :: ts => by
    have e : (fun x => (hitsT x (t :: ts)).length) = fun x => (hitsC x t.number 0 t.calls).length + (hitsT x ts).length := by
      funext x
      unfold hitsT
      rw [List.flatMap_cons, List.length_append]
    rw [e, sum_add]
    have h1 := hitsC_sum nd t.number t.calls 0
    have h2 := hitsT_sum nd ts
    have h3 : manyC (t :: ts) = t.calls.length + manyC ts := by unfold manyC; rw [List.map_cons, List.sum_cons]
    omega
theorem keys_sum {p : Pln} (h : PlnR p) (b : Bool) : ((keysB p b).map fun k => (threadOf p k).length).sum ≤ manyC p.trains := by
  cases b with
  | true =>
    show ((stKeys p).map _).sum ≤ _
    unfold stKeys
    rw [List.map_map]
    have e : ((fun k => (threadOf p k).length) ∘ ThK.st) = fun x => (hitsT x p.trains).length := by funext x; exact marksS_len x p.trains
    rw [e]
    exact hitsT_sum (stns_nodup p) _
  | false =>
    show ((trKeys p.trains).map _).sum ≤ _
    unfold trKeys manyC
    rw [List.map_map]
    have : ∀ ts : List Trn, (∀ t ∈ ts, t ∈ p.trains) → (ts.map ((fun k => (threadOf p k).length) ∘ fun t => ThK.tr t.number)).sum = (ts.map fun t => t.calls.length).sum := by
      intro ts
      induction ts with
      | nil => intro _; rfl
      | cons t ts ih =>
        intro hs
        rw [List.map_cons, List.map_cons, List.sum_cons, List.sum_cons, ih fun x m => hs x (List.mem_cons_of_mem _ m)]
        congr 1
        show (numM t.number p.trains).length = _
        rw [numM_of h.asc (hs t List.mem_cons_self)]
        exact marksN_len _ _
    exact Nat.le_of_eq (this _ fun t m => m)
theorem partsB_flat {p : Pln} (h : PlnR p) {cs : Cuts} (hc : CutsP p cs) (b : Bool) : ((partsB p cs b).flatMap (·.2)).length ≤ manyC p.trains := by
  refine Nat.le_trans (Nat.le_of_eq ?_) (keys_sum h b)
  unfold partsB
  rw [List.flatMap_assoc, List.length_flatMap]
  congr 1
  apply List.map_congr_left
  intro k _
  rw [partsK_flat (gapsAt_in h hc k)]
theorem pairsQ_len (p : Pln) (cs : Cuts) (b : Bool) (ms : List Mark) : (pairsQ p cs b ms).length ≤ ms.length * ms.length := by
  unfold pairsQ
  have : ∀ xs : List Mark, (xs.flatMap (pairsF p cs b ms)).length ≤ xs.length * ms.length := by
    intro xs
    induction xs with
    | nil => exact Nat.zero_le _
    | cons x xs ih =>
      rw [List.flatMap_cons, List.length_append, List.length_cons, Nat.add_mul, Nat.one_mul]
      have : (pairsF p cs b ms x).length ≤ ms.length := by unfold pairsF; rw [List.length_map]; exact List.length_filter_le _ _
      omega
  exact this ms
theorem pairs_flat {p : Pln} {cs : Cuts} {b : Bool} {M : Nat} : ∀ qs : List PartM, (qs.flatMap (·.2)).length ≤ M → (qs.flatMap fun q => pairsQ p cs b q.2).length ≤ (qs.flatMap (·.2)).length * M
  | [], _ => Nat.zero_le _
  | q :: qs, h => by
    rw [List.flatMap_cons, List.length_append] at h
    rw [List.flatMap_cons, List.flatMap_cons, List.length_append, List.length_append, Nat.add_mul]
    have h1 := pairsQ_len p cs b q.2
    have h2 := pairs_flat (p := p) (cs := cs) (b := b) (M := M) qs (by omega)
    have h3 : q.2.length * q.2.length ≤ q.2.length * M := Nat.mul_le_mul_left _ (by omega)
    omega
theorem pairK_len {p : Pln} (h : PlnR p) {cs : Cuts} (hc : CutsP p cs) (b : Bool) {M : Nat} (hm : manyC p.trains ≤ M) : (pairK p cs b).length ≤ M * M := by
  have l := partsB_flat h hc (!b)
  have := pairs_flat (p := p) (cs := cs) (b := b) (M := M) (partsB p cs (!b)) (by omega)
  exact Nat.le_trans this (Nat.mul_le_mul_right _ (by omega))
end Rz
namespace Rz
open PySem PySem.Spec PyProof.Rows L2
/-- keys so far -/
structure KsOk (p : Pln) (cs : Cuts) (b : Bool) (ks : List PD) : Prop where
  pre : ∃ r, pairK p cs b = ks ++ r
theorem KsOk.len {p : Pln} (h : PlnR p) {cs : Cuts} (hc : CutsP p cs) {b : Bool} {ks : List PD} (k : KsOk p cs b ks) : (kyK ks).length ≤ 40000 := by
  obtain ⟨r, e⟩ := k.pre
  have l := pairK_len h hc b h.total
  rw [e, List.length_append] at l
  have := kyK_len _ (rfl : ks.length = ks.length)
  omega
/-- what is noted of a pair: how far apart, two marks -/
def NearV (kvs : List (PD × PD)) : Prop := ∀ x ∈ kvs, ∃ (f : Int) (m o : Mark), x.2 = .tuple [.int f, prD m, prD o]
theorem NearV.put {kvs : List (PD × PD)} (h : NearV kvs) (k : PD) (f : Int) (m o : Mark) : NearV (putG kvs k (.tuple [.int f, prD m, prD o])) := fun x mx => by
  rcases putG_mem mx with q | ⟨q, _⟩
  · exact h x q
  · exact ⟨f, m, o, q⟩
end Rz
namespace Rz
open PySem PySem.Spec PyProof.Rows L2
theorem CutsP.all (p : Pln) : CutsP p (gapsP p) := List.Sublist.refl _
theorem CutsP.none (p : Pln) : CutsP p [] := List.nil_sublist _
def sa (i : Nat) : Head := (.st "abel", i)
def sb (i : Nat) : Head := (.st "bron", i)
def hp (a b : Head) : PD := .tuple [headD a, headD b]
def ta (n : Int) (i : Nat) : Head := (.tr n, i)
end Rz
namespace Rz
open PySem PySem.Spec PyProof.Rows L2
end Rz
namespace Rz
open PySem PySem.Spec PyProof.Rows L2
end Rz
namespace Rz
open PySem PySem.Spec PyProof.Rows L2
end Rz
namespace Rz
open PySem PySem.Spec PyProof.Rows L2
def ofKey (k : ThK) (qs : List PartM) : List PartM := qs.filter fun q => decide (q.1.1 = k)
def laidV (k : ThK) (qs : List PartM) : PD := .tuple (((ofKey k qs).flatMap (·.2)).map prD)
structure LaidOk (qs : List PartM) (L : List (PD × PD)) : Prop where
  tup : TupN qs.length L
  look : ∀ k, lookG L k.d = if ofKey k qs = [] then none else some (laidV k qs)
theorem LaidOk.nil : LaidOk [] [] := ⟨TupN.nil, fun _ => rfl⟩
theorem ofKey_add (k : ThK) (qs : List PartM) (q : PartM) : ofKey k (qs ++ [q]) = ofKey k qs ++ (if q.1.1 = k then [q] else []) := by
  unfold ofKey
  rw [List.filter_append]
  congr 1
  by_cases e : q.1.1 = k
  · rw [if_pos e, List.filter_cons_of_pos (p := fun q : PartM => decide (q.1.1 = k)) (decide_eq_true e)]; rfl
  · rw [if_neg e, List.filter_cons_of_neg (p := fun q : PartM => decide (q.1.1 = k)) (by rw [decide_eq_false e]; exact Bool.noConfusion)]; rfl
theorem LaidOk.add {qs : List PartM} {L : List (PD × PD)} (h : LaidOk qs L) (q : PartM) : LaidOk (qs ++ [q]) (putG L q.1.1.d (laidV q.1.1 (qs ++ [q]))) := by
  refine ⟨?_, fun k => ?_⟩
  · rw [List.length_append, List.length_singleton]
    exact h.tup.put (by cases q.1.1 <;> rfl)
  · rw [lookG_put]
    by_cases e : q.1.1 = k
    · subst e
      rw [if_pos (thk_self _), if_neg]
      rw [ofKey_add, if_pos rfl]
      simp
    · rw [if_neg fun z => e (thk_same z), h.look, ofKey_add, if_neg e, List.append_nil]
      unfold laidV
      rw [ofKey_add, if_neg e, List.append_nil]
theorem t_frz {ts : TDs} {D : DEnds} {i : Nat} {ρ ρ' : List SV} (e : frzAt i ρ = ρ') (q : ts D ρ') : ts D (frzAt i ρ) := by subst e; exact q
/-- a list of two dicts, one of them on the way -/
structure HomeAt (i : Nat) (hm : List (PD × PD) → List OD) : Prop where
  ix : ∀ X, (hm X)[i]? = some (.dc (lfE X))
  set : ∀ X Y, (hm X).set i (.dc (lfE Y)) = hm Y
  len : ∀ X, ixN (hm X).length (i : Int) = some i
  val : ∀ X, atI (ODvals (hm X)) (i : Int) = some (.dict X)
theorem HomeAt.put {i : Nat} {hm : List (PD × PD) → List OD} (h : HomeAt i hm) (X Y : List (PD × PD)) : putO (.ls (hm X)) [i] (.dc (lfE Y)) = .ls (hm Y) := by
  rw [putO, h.ix X]
  show OD.ls ((hm X).set i (.dc (lfE Y))) = _
  rw [h.set]
end Rz
namespace Rz
open PySem PySem.Spec PyProof.Rows L2
end Rz
namespace Rz
open PySem PySem.Spec PyProof.Rows L2
open PySem.Builtin.Str (reprChar)
open TL (numL tl_num numL_len numL_digits numL_ne numL_lt numL_step numL_val tl)
/-- a small letter, a figure -/
def wordC (c : Nat) : Bool := (decide (97 ≤ c) && decide (c ≤ 122)) || (decide (48 ≤ c) && decide (c ≤ 57))
def wordS (x : Str) : Bool := x.cps.toList.all wordC
mutual
def plainW : PD → Bool
  | .none => true
  | .bool _ => true
  | .int _ => true
  | .str x => wordS x
  | .list xs => plainWs xs
  | .tuple xs => plainWs xs
  | .dict _ => false
def plainWs : List PD → Bool
  | [] => true
  | x :: xs => plainW x && plainWs xs
end
def sh (d : PD) : List Nat := tl d.shown
def stopR (r : List Nat) : Prop := r = [] ∨ ∃ c t, r = c :: t ∧ (c = 44 ∨ c = 41 ∨ c = 93)
def endR (r : List Nat) : Prop := ∃ c t, r = c :: t ∧ (c = 41 ∨ c = 93 ∨ (c = 44 ∧ ∃ t', t = 41 :: t'))
theorem endR.stop {r : List Nat} (h : endR r) : stopR r := by
  obtain ⟨c, t, e, h⟩ := h
  exact .inr ⟨c, t, e, by rcases h with h | h | h <;> omega⟩
end Rz
namespace Rz
open PySem PySem.Spec PyProof.Rows L2
theorem wrd_asc {x : Str} (h : wordS x = true) : ascS x := fun c m => by
  have := List.all_eq_true.mp h c m
  unfold wordC at this
  simp at this
  omega
theorem wrd_lay {x : Str} (h : wordS x = true) : (PyData.str x).canLay0 = true := asc_lay (wrd_asc h)
theorem mem_gapsP {p : Pln} {k : ThK} {g : Int} : (k, g) ∈ gapsP p ↔ k ∈ lnKeys p ∧ 1 ≤ g ∧ g < ((threadOf p k).length : Int) := by
  unfold gapsP gapsL
  rw [List.mem_flatMap]
  constructor
  · rintro ⟨j, mj, m⟩
    have := gapsK_fst _ _ _ m
    have : k = j := this
    subst this
    unfold gapsK at m
    obtain ⟨i, mi, e⟩ := List.mem_map.mp m
    have mi := List.mem_range.mp mi
    cases e
    exact ⟨mj, by omega, by omega⟩
  · rintro ⟨mj, a, b⟩
    refine ⟨k, mj, ?_⟩
    unfold gapsK
    refine List.mem_map.mpr ⟨(g - 1).toNat, List.mem_range.mpr (by omega), ?_⟩
    congr 1
    omega
end Rz
namespace Rz
open PySem PySem.Spec PyProof.Rows PySem.W PySem.SeqAt
open AutoSeq1 (wpAny_loadPart')
open MeetsSeq MeetsSeq2 MeetsSeq3 SeqRoads2
end Rz
namespace Rz
open PySem PySem.Spec PyProof.Rows L2 PySem.W
theorem plainWs_mem : ∀ {xs : List PD}, plainWs xs = true → ∀ x ∈ xs, plainW x = true
  | y :: xs, h, x, m => by
    unfold plainWs at h
    have h := Bool.and_eq_true_iff.mp h
    rcases List.mem_cons.mp m with rfl | m
    · exact h.1
    · exact plainWs_mem h.2 x m
end Rz
namespace Rz
open PySem PySem.Spec PyProof.Rows L2 PySem.W
/-- plain, depth k, weight n -/
structure Pw (k n : Nat) (d : PD) : Prop where
  pl : plainW d = true
  ft : Fit k n d
theorem Pw.mono {k n k' n' : Nat} {d : PD} (h : Pw k n d) (hk : k ≤ k') (hn : n ≤ n') : Pw k' n' d := ⟨h.pl, h.ft.mono hk hn⟩
theorem pw_str {x : Str} (h : wordS x = true) (hl : x.cps.size ≤ 83) : Pw 0 83 (.str x) := ⟨by unfold plainW; exact h, fit_str (wrd_lay h) 83 hl⟩
theorem t_eqD {x y : Rv} {a b : PD} {c : Bool} {Q : Rv → Prop} (dx : x.data = true) (dy : y.data = true) (hx : x.val = a) (hy : y.val = b) (sa : SeqAt.shaped a = true) (sb : SeqAt.shaped b = true) (e : PyData.eqv a b = c) (q : Q (.cl (.bool c))) : oEq x y Q := by
  subst hx hy e
  exact ⟨dx, dy, ⟨sa, sb⟩, q⟩
theorem t_addTH {x y : Rv} {a b : List PD} {Q : Rv → Prop} (hx : x.val = .tuple a) (hy : y.val = .tuple b) (sx : x.soft = false) (sy : y.soft = false) (hl : a.length + b.length ≤ sizeLine) (q : Q (.cl (.tuple (a ++ b)))) : oAdd x y Q := by
  unfold oAdd
  rw [hx, hy, sx, sy]
  exact ⟨hl, q⟩
def c17 (xs : List (ThK × Int)) : PD := .tuple (xs.map mcutD)
end Rz
namespace Rz
open PySem PySem.Spec PyProof.Rows L2
/-- a table's size at which the steps of a search come to each slot -/
structure MaskG (m : Nat) : Prop where
  odd : m % 2 = 1
  low : 10 * SetTable.turns m < 100000
  all : ∀ i j, i ≤ m → j ≤ m → ∃ k, k ≤ m ∧ lcgI m i k = j
/-- the slots that f steps from x come to, as the ones of a number's binary figures -/
def orbM (n : Nat) : Nat → Nat → Nat → Nat
  | 0, _, acc => acc
  | f + 1, x, acc => orbM n f ((x * 5 + 1) % n) (acc ||| 2 ^ x)
theorem lcgI_shift (m : Nat) : ∀ (b x : Nat), lcgI m ((x * 5 + 1) % (m + 1)) b = lcgI m x (b + 1)
  | 0, _ => rfl
  | b + 1, x => by
    show (lcgI m ((x * 5 + 1) % (m + 1)) b * 5 + 1) % (m + 1) = (lcgI m x (b + 1) * 5 + 1) % (m + 1)
    rw [lcgI_shift m b x]
theorem orbM_bit {m : Nat} : ∀ (f x acc j : Nat), (orbM (m + 1) f x acc).testBit j = true → acc.testBit j = true ∨ ∃ b, b < f ∧ lcgI m x b = j
  | 0, _, _, _, h => .inl h
  | f + 1, x, acc, j, h => by
    rcases orbM_bit f _ _ j h with h | ⟨b, hb, e⟩
    · rw [Nat.testBit_or, Bool.or_eq_true] at h
      rcases h with h | h
      · exact .inl h
      · rw [Nat.testBit_two_pow, decide_eq_true_iff] at h
        exact .inr ⟨0, Nat.succ_pos _, h⟩
    · exact .inr ⟨b + 1, by omega, by rw [← lcgI_shift]; exact e⟩
theorem lcgI_plus (m i : Nat) : ∀ (a b : Nat), lcgI m (lcgI m i a) b = lcgI m i (a + b)
  | a, 0 => rfl
  | a, b + 1 => by
    show (lcgI m (lcgI m i a) b * 5 + 1) % (m + 1) = (lcgI m i (a + b) * 5 + 1) % (m + 1)
    rw [lcgI_plus m i a b]
theorem maskG_by {m : Nat} (ho : m % 2 = 1) (hl : 10 * SetTable.turns m < 100000) (hr : lcgI m 0 (m + 1) = 0) (hb : orbM (m + 1) (m + 1) 0 0 = 2 ^ (m + 1) - 1) : MaskG m := by
  have come : ∀ j, j ≤ m → ∃ b, b ≤ m ∧ lcgI m 0 b = j := fun j hj => by
    have t : (orbM (m + 1) (m + 1) 0 0).testBit j = true := by
      rw [hb, Nat.testBit_two_pow_sub_one, decide_eq_true_iff]
      omega
    rcases orbM_bit _ _ _ _ t with h | ⟨b, h1, h2⟩
    · rw [Nat.zero_testBit] at h; cases h
    · exact ⟨b, by omega, h2⟩
  refine ⟨ho, hl, fun i j hi hj => ?_⟩
  obtain ⟨a, ha, ea⟩ := come i hi
  obtain ⟨b, hb2, eb⟩ := come j hj
  by_cases c : a ≤ b
  · exact ⟨b - a, by omega, by rw [← ea, lcgI_plus, Nat.add_sub_cancel' c]; exact eb⟩
  · refine ⟨m + 1 - a + b, by omega, ?_⟩
    have : a + (m + 1 - a + b) = m + 1 + b := by omega
    rw [← ea, lcgI_plus, this, ← lcgI_plus, hr]
    exact eb
def masksG : List Nat := [7, 31, 127, 511, 2047]
theorem maskG_7 : MaskG 7 := maskG_by (by decide) (by decide) (by decide +kernel) (by decide +kernel)
theorem maskG_31 : MaskG 31 := maskG_by (by decide) (by decide) (by decide +kernel) (by decide +kernel)
theorem maskG_127 : MaskG 127 := maskG_by (by decide) (by decide) (by decide +kernel) (by decide +kernel)
theorem maskG_511 : MaskG 511 := maskG_by (by decide) (by decide) (by decide +kernel) (by decide +kernel)
theorem maskG_2047 : MaskG 2047 := maskG_by (by decide) (by decide) (by decide +kernel) (by decide +kernel)
theorem maskG_mem {m : Nat} (h : m ∈ masksG) : MaskG m := by
  simp only [masksG, List.mem_cons, List.not_mem_nil, or_false] at h
  rcases h with rfl | rfl | rfl | rfl | rfl
  · exact maskG_7
  · exact maskG_31
  · exact maskG_127
  · exact maskG_511
  · exact maskG_2047
theorem way_in (m : Nat) (h : Int) (k : Nat) : way m h k ≤ m := by
  have b : SetTable.bits h % (m + 1) ≤ m := Nat.le_of_lt_succ (Nat.mod_lt _ (Nat.succ_pos m))
  have e := runEnd_bd b
  have n := nth_in k (runAt m (SetTable.bits h % (m + 1)) (SetTable.bits h)) (show SetTable.bits h % (m + 1) + (SetTable.runEnd m (SetTable.bits h % (m + 1)) - SetTable.bits h % (m + 1)) ≤ m by omega)
  exact Nat.le_trans (Nat.le_add_right _ _) n
theorem run_comes {m : Nat} (g : MaskG m) (h : Int) {j : Nat} (hj : j ≤ m) : ∃ n, n ≤ m + 12 ∧ runI m (SetTable.bits h) n = j := by
  obtain ⟨k, k1, k2⟩ := g.all _ j (runI_le m (SetTable.bits h) 12) hj
  exact ⟨12 + k, by omega, (runI_tail (bits_lt h) k).trans k2⟩
theorem way_comes {m : Nat} (g : MaskG m) (h : Int) {j : Nat} (hj : j ≤ m) : ∃ k, k < 10 * SetTable.turns m ∧ way m h k = j := by
  obtain ⟨n, n1, n2⟩ := run_comes g h hj
  obtain ⟨k, k1, k2⟩ := run_nth m (SetTable.bits h) n
  exact ⟨k, by unfold SetTable.turns; omega, (congrArg SetTable.Probe.j k2).trans n2⟩
/-- a table from which each entry is found again by its hash -/
structure TabG (t : SetTable) (hs : List Int) : Prop where
  ris : Ris t.place.toList
  dm : t.dummies = #[]
  sz : t.place.size = hs.length
  mok : t.mask ∈ masksG
  bd : ∀ x ∈ t.place.toList, x ≤ t.mask
  reach : ∀ (i : Nat) (h : Int) (j : Nat), hs[i]? = some h → t.place.toList[i]? = some j → ∃ k, way t.mask h k = j ∧ ∀ k', k' < k → way t.mask h k' ∈ t.place.toList
theorem TabG.g {t : SetTable} {hs : List Int} (T : TabG t hs) : MaskG t.mask := maskG_mem T.mok
theorem TabG.len {t : SetTable} {hs : List Int} (T : TabG t hs) : t.place.toList.length = hs.length := T.sz
theorem TabG.free {t : SetTable} {hs : List Int} (T : TabG t hs) (hl : hs.length ≤ t.mask) (h : Int) : ∃ K, K < 10 * SetTable.turns t.mask ∧ way t.mask h K ∉ t.place.toList ∧ ∀ k, k < K → way t.mask h k ∈ t.place.toList := by
  have tl := T.len
  obtain ⟨j, j1, j2⟩ := st_missing t.place.toList (t.mask + 1) (by omega)
  obtain ⟨k, k1, k2⟩ := way_comes T.g h (j := j) (by omega)
  obtain ⟨K, K1, K2, K3⟩ := st_least (p := fun k => way t.mask h k ∉ t.place.toList) k (fun z => j2 (by rw [← k2]; exact z))
  exact ⟨K, by omega, K2, fun q hq => Classical.byContradiction fun z => K3 q hq z⟩
theorem TabG.put {t : SetTable} {hs : List Int} (T : TabG t hs) {h : Int} {K j : Nat} (ej : way t.mask h K = j) (hK : j ∉ t.place.toList) (hb : ∀ k, k < K → way t.mask h k ∈ t.place.toList) :
    SetTable.below t.place j ≤ hs.length ∧ TabG (t.put j).1 (hs.take (SetTable.below t.place j) ++ h :: hs.drop (SetTable.below t.place j)) ∧ (t.put j).1.fill = hs.length + 1 := by
  have tl := T.len
  have cp : SetTable.below t.place j ≤ hs.length := by
    have := (below_cut T.ris j).1
    rw [← T.sz]; exact this
  have pp := put_place t j
  have pd := put_dm T.dm j
  have pl : (t.put j).1.place.size = hs.length + 1 := by
    rw [← Array.length_toList, pp, len_ins _ (by omega), tl]
  have more : ∀ x, x ∈ t.place.toList → x ∈ (t.put j).1.place.toList := fun x m => by rw [pp, L2.mem_ins]; exact .inr m
  refine ⟨cp, ⟨ris_insert T.ris fun e => hK (List.mem_of_getElem? (by rw [Array.getElem?_toList]; exact e)), pd, by rw [len_ins _ cp]; exact pl, T.mok, fun x m => ?_, fun i h' j' h1 h2 => ?_⟩, ?_⟩
  · rw [pp, L2.mem_ins] at m
    rcases m with rfl | m
    · rw [← ej]; exact way_in _ _ _
    · exact T.bd x m
  · rw [tins_get hs cp] at h1
    rw [pp, tins_get _ (by omega)] at h2
    show ∃ k, way t.mask h' k = j' ∧ ∀ k', k' < k → way t.mask h' k' ∈ (t.put j).1.place.toList
    have old : ∀ i, hs[i]? = some h' → t.place.toList[i]? = some j' → ∃ k, way t.mask h' k = j' ∧ ∀ k', k' < k → way t.mask h' k' ∈ (t.put j).1.place.toList := fun i a b => by
      obtain ⟨k, k1, k2⟩ := T.reach i h' j' a b
      exact ⟨k, k1, fun q hq => more _ (k2 q hq)⟩
    split at h1
    · rename_i c
      rw [if_pos c] at h2
      exact old i h1 h2
    · rename_i c
      rw [if_neg c] at h2
      split at h1
      · rename_i d
        rw [if_pos d] at h2
        cases h1
        cases h2
        exact ⟨K, ej, fun q hq => more _ (hb q hq)⟩
      · rename_i d
        rw [if_neg d] at h2
        exact old (i - 1) h1 h2
  · show (t.put j).1.place.size + (t.put j).1.dummies.size = hs.length + 1
    rw [pl, pd]; rfl
end Rz
namespace Rz
open PySem PySem.Spec PyProof.Rows L2
variable {P : Program} {w : World} {A : Around} {E : Value → Shared → Prop} {s : Shared}
abbrev IsN (h : Heap) (k : NestedKey) (b : Addr) : Prop := NestedIs h k (.ref b) ∧ k.depth ≤ 8
/-- what stands in the set -/
abbrev KL := List (Addr × NestedKey)
def hashesN (w : World) (L : KL) : List Int := L.map fun p => p.2.hash w
def rowsN (w : World) (L : KL) : List (Int × Value) := L.map fun p => (p.2.hash w, Value.ref p.1)
structure SetN (w : World) (h : Heap) (a : Addr) (L : KL) (es : Array (Int × Value)) (ep : Nat) (t : SetTable) : Prop where
  ob : ∃ o, h.get? a = some o ∧ o.ExactSet ∧ o.data = .set es ep t
  rows : es.toList = rowsN w L
  tab : TabG t (hashesN w L)
  nd : (L.map (·.2)).Nodup
  key : ∀ p ∈ L, IsN h p.2 p.1
  led : w.params.followText "set-order" = true ∨ t.led = true
  room : L.length * 5 < t.mask * 3
theorem rowsN_len (L : KL) : (rowsN w L).length = L.length := List.length_map _
theorem hashesN_len (L : KL) : (hashesN w L).length = L.length := List.length_map _
variable {a : Addr} {L : KL} {es : Array (Int × Value)} {ep : Nat} {t : SetTable}
theorem SetN.size (R : SetN w s.heap a L es ep t) : es.size = L.length := by
  have := congrArg List.length R.rows
  rw [rowsN_len] at this
  exact this
theorem SetN.fits (R : SetN w s.heap a L es ep t) : t.fits es.size = true := by
  have z1 := R.tab.sz
  rw [hashesN_len] at z1
  have z2 := R.size
  have z3 := R.room
  have z4 : t.dummies.size = 0 := by rw [R.tab.dm]; rfl
  unfold SetTable.fits SetTable.fill
  rw [Bool.and_eq_true, beq_iff_eq, decide_eq_true_eq, z4]
  omega
end Rz
namespace Rz
open PySem PySem.Spec PyProof.Rows L2
end Rz
namespace Rz
open PySem PySem.Spec PyProof.Rows L2
section
variable {P : Program} {w : World} {A : Around} {E : Value → Shared → Prop} {s : Shared}
/-- what stands in a set made of the first i of some keys -/
structure GotN (ks : KL) (i : Nat) (L : KL) : Prop where
  sub : ∀ p ∈ L, p ∈ ks.take i
  all : ∀ p ∈ ks.take i, p.2 ∈ L.map (·.2)
theorem take_1 {α : Type} {l : List α} {i : Nat} {x : α} (h : l[i]? = some x) : l.take (i + 1) = l.take i ++ [x] := by rw [List.take_succ, h]; rfl
theorem GotN.step {ks L L' : KL} {i : Nat} {x : Addr × NestedKey} (g : GotN ks i L) (h : ks[i]? = some x) (c1 : x.2 ∈ L.map (·.2) → L' = L) (c2 : x.2 ∉ L.map (·.2) → L'.Perm (x :: L)) : GotN ks (i + 1) L' := by
  have e := take_1 h
  rcases Classical.em (x.2 ∈ L.map (·.2)) with c | c
  · rw [c1 c]
    refine ⟨fun p m => by rw [e]; exact List.mem_append_left _ (g.sub p m), fun p m => ?_⟩
    rw [e] at m
    rcases List.mem_append.mp m with m | m
    · exact g.all p m
    · rw [List.mem_singleton.mp m]; exact c
  · have pm := c2 c
    refine ⟨fun p m => ?_, fun p m => ?_⟩
    · rw [e]
      rcases List.mem_cons.mp (pm.mem_iff.mp m) with rfl | m
      · exact List.mem_append_right _ (List.mem_singleton.mpr rfl)
      · exact List.mem_append_left _ (g.sub p m)
    · rw [(pm.map (·.2)).mem_iff]
      rw [e] at m
      rcases List.mem_append.mp m with m | m
      · exact List.mem_cons_of_mem _ (g.all p m)
      · rw [List.mem_singleton.mp m]; exact List.mem_cons_self
theorem SetN.keep {h h' : Heap} {a : Addr} {L : KL} {es : Array (Int × Value)} {ep : Nat} {t : SetTable} (R : SetN w h a L es ep t) (ha : ∀ o, h.get? a = some o → h'.get? a = some o) (hk : ∀ p ∈ L, IsN h' p.2 p.1) : SetN w h' a L es ep t := by
  obtain ⟨o, ho, r⟩ := R.ob
  exact ⟨⟨o, ha o ho, r⟩, R.rows, R.tab, R.nd, hk, R.led, R.room⟩
end
end Rz
namespace Rz
open PySem PySem.Spec PyProof.Rows L2
variable {X : Cx} {P : Par} {ρ ρ' ρ0 ρ1 ρ2 : List SV} {σ σ' σ0 σ1 σ2 : Sg} {H0 G0 H G G' H' H1 G1 H2 G2 B : Hp} {F0 F F' F1 F2 : FP} {w : World} {K : PySem.W.Frag} {s : Shared} {pins : List (Addr × Obj)} {a : Addr}
theorem SortU.sub {as bs : List PD} (ok : SortU as) (h : ∀ d ∈ bs, d ∈ as) : SortU bs := by
  rcases ok with ⟨h1, h2, h3⟩ | ⟨h1, h2, h3⟩
  · refine .inl ⟨fun d m d' m' => h1 d (h d m) d' (h d' m'), ?_, fun d m => h3 d (h d m)⟩
    rcases h2 with h2 | h2
    · exact .inl fun d m => h2 d (h d m)
    · exact .inr fun d m => h2 d (h d m)
  · exact .inr ⟨fun d m => h1 d (h d m), fun xs m ys m' => h2 xs (h _ m) ys (h _ m'), fun d m => h3 d (h d m)⟩
theorem reps_of {w : World} {K : PySem.W.Frag} {H : Hp} : ∀ {ps : List (V × PD)}, (∀ p ∈ ps, Rep w K H p.1 p.2) → Reps w K H (ps.map Prod.fst) (ps.map Prod.snd)
  | [], _ => .nil
  | p :: ps, h => .cons (h p List.mem_cons_self) (reps_of fun q m => h q (List.mem_cons_of_mem _ m))
/-- how a thing's items come, in some order -/
def CollP (X : Cx) (s : Shared) (u : Value) (ps : List (V × PD)) : Prop := ∀ (R : List Value → Shared → Prop), (∀ (s' : Shared) (its : List Value) (qs : List (V × PD)), qs.Perm ps → (∀ b o, s.heap.get? b = some o → s'.heap.get? b = some o) → s'.gens = s.gens → s'.os = s.os → Vals (qs.map Prod.fst) its → R its s') → wpAny (model X.prog X.w) X.A.in1 (collect u) R X.xe s
theorem sortedP_gen (C : CxF X P) {H : Hp} {σ : Sg} {Q : VK} {u : Value} {ps : List (V × PD)} (I : Inv X pins σ H s) (hc : CollP X s u ps) (hz : ps.length ≤ sizeLine) (r : ∀ p ∈ ps, Rep P.w P.K H p.1 p.2) (ok : SortU (ps.map Prod.snd))
    (q : ∀ qs : List (V × PD), qs.Perm ps → ∀ p, H p = none → Q (.ref p) (upd H p (.lst ((qs.mergeSort (PySem.W.dataLe false Prod.snd)).map Prod.fst)))) : wpAny (model X.prog X.w) X.A (call (.builtin "sorted") [u]) (EP X pins σ Q) X.xe s := by
  refine Calls.call_function_entry kind_sorted plain_sorted entry_sorted (args_sorted1 _) ?_
  unfold Builtin.«sorted»
  refine wpAny_bind (m := checkCount "sorted" 1 1 _) (wpAny_pure ?_)
  refine wpAny_bind (hc _ fun s1 its qs hp hk hg hos rv => ?_)
  have ql := hp.length_eq
  have lv := rv.length
  rw [List.length_map] at lv
  have I1 : Inv X pins σ H s1 := I.call' hos (Un.kept hk) (I.hok.kept hk) (by rw [hg]; exact I.bare) (fun _ z => nomatch z) (ch := [])
  have ok : SortU (qs.map Prod.snd) := ok.sub fun d m => (hp.map Prod.snd).mem_iff.mp m
  have rq : Reps P.w P.K H (qs.map Prod.fst) (qs.map Prod.snd) := reps_of fun p m => r p (hp.mem_iff.mp m)
  obtain ⟨as, rr⟩ := rq.reads I1 C.K rv ok.noIns
  have e1 : PySem.W.EachIs (fun u (b : V × PD) => RelV b.1 u) its qs := each_of (by omega) fun i u b e1 e2 => by
    obtain ⟨u', e3, r3⟩ := rv.get (x := b.1) (i := i) (by rw [List.getElem?_map, e2]; rfl)
    rw [e1] at e3; cases e3; exact r3
  have e2 : PySem.W.EachIs (fun v (b : V × PD) => ∃ as, Reads s1.heap v b.2 as) its qs := PySem.W.readsAll_each Prod.snd rr
  refine wpAny_bind (wpAny_newList ?_ (by omega))
  have old : ∀ b o, s1.heap.get? b = some o → (s1.heap.push { cls := .type "list", data := .seq its.toArray }).get? b = some o := fun b o e => Heap.get?_push_of_some _ e
  have hD : (s1.heap.push { cls := .type "list", data := .seq its.toArray }).get? s1.heap.objs.size = some (seqObj "list" its.toArray 0) := Heap.get?_push_size _ rfl
  have er' : PySem.W.EachIs (fun v (b : V × PD) => ∃ as, Reads (PySem.W.sortingHeap (s1.heap.push { cls := .type "list", data := .seq its.toArray }) s1.heap.objs.size its) v b.2 as) its qs := e2.mono fun _ _ ⟨as, r⟩ => ⟨as, PyProof.Rows.Reads.keeps (fun b o e => PySem.W.sortingHeap_old (Nat.ne_of_lt (Heap.lt_size e)) (old b o e)) r⟩
  have hu : ∀ d, d ∈ qs.map Prod.snd → X.A.in1.in1.units + d.depth < cLine := fun d m => by
    have := ok.dep _ m
    have := C.un
    show X.A.units + 1 + 1 + d.depth < cLine
    omega
  have go : wpAny (model X.prog X.w) X.A.in1 (call (.builtin "list.sort") [.ref s1.heap.objs.size]) (fun _ s' => EP X pins σ Q (.ref s1.heap.objs.size) s') X.xe { s1 with heap := s1.heap.push { cls := .type "list", data := .seq its.toArray } } := by
    have srt : PySem.W.SortsAt X.prog X.w X.A.in1.in1 { s1 with heap := PySem.W.sortingHeap (s1.heap.push { cls := .type "list", data := .seq its.toArray }) s1.heap.objs.size its } (PySem.W.dataKind (PySem.W.sortingHeap (s1.heap.push { cls := .type "list", data := .seq its.toArray }) s1.heap.objs.size its) (qs.map Prod.snd)) its :=
      ok.sorts (s := { s1 with heap := PySem.W.sortingHeap (s1.heap.push { cls := .type "list", data := .seq its.toArray }) s1.heap.objs.size its }) (PySem.W.each_map (R := fun v d => ∃ as, Reads (PySem.W.sortingHeap (s1.heap.push { cls := .type "list", data := .seq its.toArray }) s1.heap.objs.size its) v d as) Prod.snd er') hu
    refine wpAny_call_entry PyProof.Rows.slot_list_sort ⟨_, hD, rfl⟩ PyProof.Rows.entry_list_sort (PySem.W.list_sort_vals (κ := PySem.W.dataKind (PySem.W.sortingHeap (s1.heap.push { cls := .type "list", data := .seq its.toArray }) s1.heap.objs.size its) (qs.map Prod.snd)) hD srt (by omega) ⟨.none, rfl, ?_⟩) (PyProof.Rows.args_list_sort _)
    have ho := PySem.W.sortVals_length (κ := PySem.W.dataKind (PySem.W.sortingHeap (s1.heap.push { cls := .type "list", data := .seq its.toArray }) s1.heap.objs.size its) (qs.map Prod.snd)) (vs := its) (ks := its) false rfl
    have hs := ok.vals e1 er'
    generalize PySem.W.sortVals _ false its its = out at ho hs ⊢
    have hv : Vals ((qs.mergeSort (PySem.W.dataLe false Prod.snd)).map Prod.fst) out := by
      refine vals_by (by rw [List.length_map, List.length_mergeSort, ho]; omega) fun i x u e3 e4 => ?_
      rw [List.getElem?_map] at e3
      obtain ⟨b, e5, rfl⟩ := Option.map_eq_some_iff.mp e3
      exact hs.zip (u, b) (List.mem_iff_getElem?.mpr ⟨i, by rw [List.getElem?_zip_eq_some]; exact ⟨e4, e5⟩⟩)
    obtain ⟨ep, ea⟩ := PyProof.Rows.sortedHeap_at (out := out.toArray) hD
    have hn : H s1.heap.objs.size = none := I1.hok.fresh (Nat.le_refl _)
    refine ⟨.ref s1.heap.objs.size, _, I1.laid (t' := s1.toks) (o := .lst ((qs.mergeSort (PySem.W.dataLe false Prod.snd)).map Prod.fst)) (fun b o e => ?_) (Nat.le_refl _) ⟨?_, out, ep, hv, ea⟩, rfl, q qs hp _ hn⟩
    · rw [PyProof.Rows.sortedHeap_old (Nat.ne_of_lt (Heap.lt_size e)) (Nat.lt_trans (Heap.lt_size e) (by rw [Heap.size_push]; exact Nat.lt_succ_self _))]
      exact old b o e
    · rw [List.length_map, List.length_mergeSort]; omega
  refine wpAny_bind (wpAny_holding (wpAny_mono go (fun _ s' x => ?_) fun _ _ e => e))
  exact wpAny_pure ⟨_, rfl, x⟩
end Rz
namespace Rz
open PySem PySem.Spec PyProof.Rows L2
def thrOf (p : Pln) (b : Bool) (m : Mark) : ThK := if b then .st (((stns p).find? fun x => decide (m ∈ threadOf p (.st x))).getD "") else .tr m.1
def plcOf (p : Pln) (b : Bool) (m : Mark) : Nat := (threadOf p (thrOf p b m)).idxOf m
theorem thr_in {p : Pln} (h : PlnR p) {m : Mark} (hm : m ∈ allM p.trains) (b : Bool) : thrOf p b m ∈ keysB p b ∧ m ∈ threadOf p (thrOf p b m) := by
  cases b with
  | true =>
    obtain ⟨x, mx, mt⟩ := all_st hm
    have hs : ((stns p).find? fun x => decide (m ∈ threadOf p (.st x))).isSome = true := List.find?_isSome.mpr ⟨x, mx, decide_eq_true mt⟩
    obtain ⟨y, ey⟩ := Option.isSome_iff_exists.mp hs
    have e : thrOf p true m = .st y := by unfold thrOf; rw [ey]; rfl
    rw [e]
    exact ⟨List.mem_map.mpr ⟨y, List.mem_of_find?_eq_some ey, rfl⟩, of_decide_eq_true (List.find?_some (p := fun x => decide (m ∈ threadOf p (.st x))) ey)⟩
  | false =>
    obtain ⟨t, mt, mm⟩ := all_tr h hm
    have mm0 := mm
    have e1 : m.1 = t.number := by
      have mm : m ∈ numM t.number p.trains := mm
      rw [numM_of h.asc mt] at mm
      unfold marksT marksN at mm
      obtain ⟨i, _, rfl⟩ := List.mem_map.mp mm
      rfl
    have e : thrOf p false m = .tr t.number := by unfold thrOf; rw [← e1]; rfl
    rw [e]
    exact ⟨List.mem_map.mpr ⟨t, mt, rfl⟩, mm0⟩
theorem plc_at {p : Pln} (h : PlnR p) {m : Mark} (hm : m ∈ allM p.trains) (b : Bool) : (threadOf p (thrOf p b m))[plcOf p b m]? = some m := by
  have mt := (thr_in h hm b).2
  have l := List.idxOf_lt_length_of_mem mt
  unfold plcOf
  rw [List.getElem?_eq_getElem l, List.getElem_idxOf l]
theorem plc_lt {p : Pln} (h : PlnR p) {m : Mark} (hm : m ∈ allM p.trains) (b : Bool) : plcOf p b m < (threadOf p (thrOf p b m)).length := List.idxOf_lt_length_of_mem (thr_in h hm b).2
theorem thr_ln {p : Pln} (h : PlnR p) {m : Mark} (hm : m ∈ allM p.trains) (b : Bool) : thrOf p b m ∈ lnKeys p := keysB_ln (thr_in h hm b).1
theorem enum_zipN {α : Type} (enc : α → PD) : ∀ (xs : List α) (n : Nat), enumD (n : Int) (xs.map enc) = (xs.zipIdx n).map fun q => PyData.tuple [.int (q.2 : Int), enc q.1]
  | [], _ => rfl
  | x :: xs, n => by
    rw [List.map_cons, enumD_cons, List.zipIdx_cons, List.map_cons]
    have := enum_zipN enc xs (n + 1)
    rw [show ((n : Int) + 1) = ((n + 1 : Nat) : Int) by omega, this]
theorem enum_zip {α : Type} (xs : List α) (enc : α → PD) : enumD 0 (xs.map enc) = xs.zipIdx.map fun q => PyData.tuple [.int (q.2 : Int), enc q.1] := enum_zipN enc xs 0
abbrev Arc := Mark × Mark
def InM (p : Pln) (as : List Arc) : Prop := ∀ a ∈ as, a.1 ∈ allM p.trains ∧ a.2 ∈ allM p.trains
def nextA (as : List Arc) (i : Nat) (a : Arc) : Mark := ((as[(i + 1) % as.length]?).getD a).1
def linksR (as : List Arc) : List Arc := as.zipIdx.map fun q => (q.1.2, nextA as q.2 q.1)
theorem nextA_mem {as : List Arc} {i : Nat} {a : Arc} (h : as ≠ []) : ∃ c ∈ as, nextA as i a = c.1 ∧ as[(i + 1) % as.length]? = some c := by
  have l : (i + 1) % as.length < as.length := Nat.mod_lt _ (List.length_pos_iff.mpr h)
  refine ⟨as[(i + 1) % as.length], List.getElem_mem l, ?_, List.getElem?_eq_getElem l⟩
  unfold nextA
  rw [List.getElem?_eq_getElem l]; rfl
theorem links_in {p : Pln} {as : List Arc} (h : InM p as) : InM p (linksR as) := fun a m => by
  unfold linksR at m
  obtain ⟨⟨c, i⟩, mz, rfl⟩ := List.mem_map.mp m
  have mc : c ∈ as := List.mem_of_getElem? (List.mem_zipIdx_iff_getElem?.mp mz)
  obtain ⟨d, md, e, _⟩ := nextA_mem (as := as) (i := i) (a := c) (fun e => by rw [e] at mc; cases mc)
  exact ⟨(h c mc).2, by show nextA as i c ∈ _; rw [e]; exact (h d md).1⟩
def loP (p : Pln) (b : Bool) (a : Arc) : Nat := min (plcOf p b a.1) (plcOf p b a.2)
def hiP (p : Pln) (b : Bool) (a : Arc) : Nat := max (plcOf p b a.1) (plcOf p b a.2)
def gapsBtw (p : Pln) (b : Bool) (a : Arc) : Cuts := (List.range (hiP p b a - loP p b a)).map fun i : Nat => (thrOf p b a.1, (loP p b a : Int) + 1 + (i : Int))
def OnOne (p : Pln) (b : Bool) (a : Arc) : Prop := thrOf p b a.1 = thrOf p b a.2
theorem gapsBtw_in {p : Pln} (h : PlnR p) {b : Bool} {a : Arc} (h1 : a.1 ∈ allM p.trains) (h2 : a.2 ∈ allM p.trains) (on : OnOne p b a) : ∀ c ∈ gapsBtw p b a, c ∈ gapsP p := fun c m => by
  unfold gapsBtw at m
  obtain ⟨i, mi, rfl⟩ := List.mem_map.mp m
  have mi := List.mem_range.mp mi
  have a1 := plc_lt h h1 b
  have a2 := plc_lt h h2 b
  rw [← show thrOf p b a.1 = thrOf p b a.2 from on] at a2
  refine mem_gapsP.mpr ⟨thr_ln h h1 b, by omega, ?_⟩
  have : hiP p b a < (threadOf p (thrOf p b a.1)).length := by unfold hiP; omega
  omega
def gapsAll (p : Pln) (b : Bool) (as : List Arc) : Cuts := as.flatMap (gapsBtw p (!b)) ++ (linksR as).flatMap (gapsBtw p b)
def gapsRing (p : Pln) (b : Bool) (as : List Arc) : Cuts := (gapsP p).filter fun c => decide (c ∈ gapsAll p b as)
/-- arcs and links lie on threads -/
structure LinkedR (p : Pln) (b : Bool) (as : List Arc) : Prop where
  inm : InM p as
  arcs : ∀ a ∈ as, OnOne p (!b) a
  links : ∀ a ∈ linksR as, OnOne p b a
theorem LinkedR.sub {p : Pln} (h : PlnR p) {b : Bool} {as : List Arc} (r : LinkedR p b as) : ∀ c ∈ gapsAll p b as, c ∈ gapsP p := fun c m => by
  unfold gapsAll at m
  rcases List.mem_append.mp m with m | m
  · obtain ⟨a, ma, m⟩ := List.mem_flatMap.mp m
    exact gapsBtw_in h (r.inm a ma).1 (r.inm a ma).2 (r.arcs a ma) c m
  · obtain ⟨a, ma, m⟩ := List.mem_flatMap.mp m
    exact gapsBtw_in h (links_in r.inm a ma).1 (links_in r.inm a ma).2 (r.links a ma) c m
end Rz
namespace Rz
open PySem PySem.Spec PyProof.Rows L2
variable {X : Cx} {P : Par}
theorem mkC_fr {α : Type} {b : Bool} {g : α → OD} {ys : List α} (h : ∀ y ∈ ys, immO (g y) = true) : mkC b (ys.map fun y => .fr (g y)) = .fr (.ls (ys.map g)) := by
  have e : (ys.map fun y => Rv.fr (g y)).all immRv = true := by
    rw [List.all_eq_true]
    intro r m
    obtain ⟨y, my, rfl⟩ := List.mem_map.mp m
    exact h y my
  unfold mkC
  rw [e]
  simp only [Bool.not_true, Bool.and_false, Bool.false_eq_true, if_false, List.map_map]
  rfl
def ArcR (p : Pln) (b : Bool) (a : Arc) : Prop := a.1 ∈ allM p.trains ∧ a.2 ∈ allM p.trains ∧ OnOne p (!b) a ∧ minOf p a.1 < minOf p a.2
/-- the place of the first arc behind which there is no link -/
instance (p : Pln) (b : Bool) (a : Arc) : Decidable (OnOne p b a) := inferInstanceAs (Decidable (_ = _))
structure RingR (p : Pln) (b : Bool) (as : List Arc) : Prop where
  ne : as ≠ []
  arcs : ∀ a ∈ as, ArcR p b a
  links : ∀ a ∈ linksR as, OnOne p b a
theorem RingR.inm {p : Pln} {b : Bool} {as : List Arc} (r : RingR p b as) : InM p as := fun a m => ⟨(r.arcs a m).1, (r.arcs a m).2.1⟩
theorem RingR.linked {p : Pln} {b : Bool} {as : List Arc} (r : RingR p b as) : LinkedR p b as := ⟨r.inm, fun a m => (r.arcs a m).2.2.1, r.links⟩
end Rz
namespace Rz
open PySem PySem.Spec PyProof.Rows L2
theorem LinkedR.ext {p : Pln} {b : Bool} {as bs : List Arc} (r : LinkedR p b as) (h1 : ∀ a, a ∈ bs ↔ a ∈ as) (h2 : ∀ a, a ∈ linksR bs ↔ a ∈ linksR as) : LinkedR p b bs :=
  ⟨fun a m => r.inm a ((h1 a).mp m), fun a m => r.arcs a ((h1 a).mp m), fun a m => r.links a ((h2 a).mp m)⟩
theorem RingR.gaps {p : Pln} (h : PlnR p) {b : Bool} {as : List Arc} (r : RingR p b as) : gapsRing p b as ≠ [] := by
  obtain ⟨a, ma⟩ := List.exists_mem_of_ne_nil as r.ne
  obtain ⟨m1, m2, on, mi⟩ := r.arcs a ma
  have ne : plcOf p (!b) a.1 ≠ plcOf p (!b) a.2 := fun e => by
    have t1 := plc_at h m1 (!b)
    have t2 := plc_at h m2 (!b)
    rw [show thrOf p (!b) a.1 = thrOf p (!b) a.2 from on, e, t2] at t1
    have : a.2 = a.1 := Option.some.inj t1
    rw [this] at mi
    omega
  have mc : (thrOf p (!b) a.1, (loP p (!b) a : Int) + 1 + ((0 : Nat) : Int)) ∈ gapsAll p b as := by
    unfold gapsAll
    refine List.mem_append_left _ (List.mem_flatMap.mpr ⟨a, ma, ?_⟩)
    unfold gapsBtw
    refine List.mem_map.mpr ⟨0, List.mem_range.mpr ?_, rfl⟩
    unfold hiP loP
    omega
  have : _ ∈ gapsRing p b as := (List.mem_filter (p := fun c => decide (c ∈ gapsAll p b as))).mpr ⟨r.linked.sub h _ mc, decide_eq_true mc⟩
  exact List.ne_nil_of_mem this
end Rz
namespace Rz
open PySem PySem.Spec PyProof.Rows L2
theorem fit_memA {k n : Nat} : ∀ {ds : List PD}, PyData.canLayAll0 ds = true → PyData.depthAll ds ≤ k → PyData.intsShortAll 13 ds = true → PyData.showableAll ds = true → PyData.weightAll ds ≤ n → ∀ d ∈ ds, Fit k n d
  | [], _, _, _, _, _, _, m => absurd m List.not_mem_nil
  | x :: xs, h1, h2, h3, h4, h5, d, m => by
    unfold PyData.canLayAll0 at h1
    unfold PyData.depthAll at h2
    unfold PyData.intsShortAll at h3
    unfold PyData.showableAll at h4
    unfold PyData.weightAll at h5
    rw [Bool.and_eq_true] at h1 h3 h4
    rcases List.mem_cons.mp m with rfl | m
    · exact ⟨h1.1, by omega, h3.1, h4.1, by omega⟩
    · exact fit_memA h1.2 (by omega) h3.2 h4.2 (by omega) d m
theorem fit_mem {k n : Nat} {ds : List PD} (h : Fit k n (.tuple ds)) : ∀ d ∈ ds, Fit k n d := by
  obtain ⟨h1, h2, h3, h4, h5⟩ := h
  unfold PyData.canLay0 at h1
  unfold PyData.depth at h2
  unfold PyData.intsShort at h3
  unfold PyData.showable at h4
  unfold PyData.weight at h5
  exact fit_memA h1 (by omega) h3 h4 (by omega)
theorem Pw.mem {k n : Nat} {ds : List PD} (h : Pw k n (.tuple ds)) {d : PD} (m : d ∈ ds) : Pw k n d :=
  ⟨plainWs_mem (by have := h.pl; unfold plainW at this; exact this) d m, fit_mem h.ft d m⟩
end Rz
namespace Rz
open PySem PySem.Spec PyProof.Rows L2
section
variable {P : Program} {w : World} {A : Around} {E : Value → Shared → Prop} {s : Shared}
open Froz (SD sObj tailTx addTx)
abbrev TL := List (Str × Tok)
def vsT (L : TL) : List Value := L.map fun p => Value.str p.1 p.2
theorem tail_perm (ep : Nat) (es1 : Array (Int × Value)) (t2 : SetTable) (wd : Bool) : (tailTx ep es1 t2 wd).1.toList.Perm es1.toList := by
  unfold tailTx
  split
  · exact relayAll_perm t2 es1 _
  · exact .refl _
theorem tail_ris (ep : Nat) (es1 : Array (Int × Value)) {t2 : SetTable} (wd : Bool) (r : Ris t2.place.toList) : Ris (tailTx ep es1 t2 wd).2.2.place.toList := by
  unfold tailTx
  split
  · exact relayAll_ris t2 es1 _
  · exact r
theorem tail_led (ep : Nat) (es1 : Array (Int × Value)) (t2 : SetTable) (wd : Bool) : (tailTx ep es1 t2 wd).2.2.led = t2.led := by
  unfold tailTx
  split
  · exact relayAll_led t2 es1 _
  · rfl
theorem addTx_facts (h : Int) (v : Value) (es : Array (Int × Value)) (ep : Nat) (t : SetTable) (r : Ris t.place.toList) : (addTx h v (es, ep, t)).1.toList.Perm (es.push (h, v)).toList ∧ Ris (addTx h v (es, ep, t)).2.2.place.toList ∧ (addTx h v (es, ep, t)).2.2.led = t.led := by
  have hp := layNew_perm t es h v
  have hr := layNew_ris t es h v r
  have hl := layNew_led t es h v
  have e1 : Ris (if (layNew t es h v).2.1.plain = true then { (layNew t es h v).2.1 with plain := false } else (layNew t es h v).2.1).place.toList := by split <;> exact hr
  have e2 : (if (layNew t es h v).2.1.plain = true then { (layNew t es h v).2.1 with plain := false } else (layNew t es h v).2.1).led = t.led := by split <;> exact hl
  exact ⟨(tail_perm _ _ _ _).trans hp, tail_ris _ _ _ e1, (tail_led _ _ _ _).trans e2⟩
/-- what a set of texts is -/
def SetS (P : Program) (w : World) (h : Heap) (a : Addr) (L : TL) : Prop := ∃ (es : Array (Int × Value)) (ep : Nat) (t : SetTable), h.get? a = some (sObj "set" (es, ep, t)) ∧ Froz.TxOk P w (es, ep, t) (L.map (·.1)) ∧ (es.toList.map (·.2)).Perm (vsT L) ∧ Ris t.place.toList ∧ (w.params.followText "set-order" = true ∨ t.led = true)
theorem SetS.at {h h' : Heap} {a : Addr} {L : TL} (R : SetS P w h a L) (k : ∀ o, h.get? a = some o → h'.get? a = some o) : SetS P w h' a L := by
  obtain ⟨es, ep, t, ho, r⟩ := R
  exact ⟨es, ep, t, k _ ho, r⟩
theorem setS_new {h : Heap} {a : Addr} (ho : h.get? a = some (noS w)) : SetS P w h a [] :=
  ⟨#[], 0, .fresh 0 0 (!w.params.followText "set-order"), ho, Froz.TxOk.nil rfl, .refl _, List.Pairwise.nil, by
    show _ ∨ (!w.params.followText "set-order") = true
    cases w.params.followText "set-order"
    · exact .inr rfl
    · exact .inl rfl⟩
theorem hasS_add {a : Addr} {D : SD} {l : List Str} {k : Str} {u : Tok} {Q : Bool → Shared → Prop} (ho : s.heap.get? a = some (sObj "set" D)) (F : Froz.TxOk P w D l) (hk : k ∈ l) (hb : l.length < scanBound) (h : Q false s) : wpAny (model P w) A (setAddHashed a (.str k u) (hashStr w k)) Q E s := by
  obtain ⟨es, ep, t⟩ := D
  have hd : (sObj "set" (es, ep, t)).data = .set es ep t := rfl
  have hf : t.fits es.size = true := F.fit
  have hel : ElemsOf (strKind P w) es.toList := F.el
  have hsz : es.size = l.length := F.sz
  obtain ⟨e, me, he⟩ := (F.mem k).mp hk
  unfold setAddHashed setAddHashedIn
  refine wpAny_holding (wpAny_bind (wpAny_setState_of ho hd hf ?_))
  dsimp only
  rw [byScan_of rfl (by omega) hel]
  simp only [↓reduceIte]
  unfold setAddByScan
  refine wpAny_bind ?_
  refine wpAny_bind (wpAny_rule ?_)
  refine wpAny_bind (wpAny_setScan_of (knd := strKind P w) (k := k) (Froz.is_str k u) ho hd hf hel ?_)
  cases hfi : List.findIdx? (fun e => (strKind P w).is k e.2) es.toList with
  | none =>
    have c := List.findIdx?_eq_none_iff.mp hfi e me
    rw [he] at c
    cases c
  | some j =>
    dsimp only
    exact wpAny_pure (wpAny_pure h)
theorem setS_add {a : Addr} {L : TL} {x : Str} {u : Tok} {Q : Bool → Shared → Prop} (R : SetS P w s.heap a L) (room : L.length + 1 < scanBound)
    (hQ : ∀ b h' L', Heap.SameBut a s.heap h' → SetS P w h' a L' → (x ∈ L.map (·.1) → L' = L) → (x ∉ L.map (·.1) → L' = (x, u) :: L) → Q b { s with heap := h' }) : wpAny (model P w) A (setAddHashed a (.str x u) (hashStr w x)) Q E s := by
  obtain ⟨es, ep, t, ho, F, pm, r, ld⟩ := id R
  by_cases m : x ∈ L.map (·.1)
  · exact hasS_add ho F m (by rw [List.length_map]; omega) (hQ false s.heap L (Heap.SameBut.refl _ _) R (fun _ => rfl) fun z => absurd m z)
  · obtain ⟨f1, f2, f3⟩ := addTx_facts (hashStr w x) (.str x u) es ep t r
    refine Froz.add_x ho F m (by rw [List.length_map]; exact room) (hQ true _ ((x, u) :: L) (Heap.SameBut.update _ _ _) ⟨_, _, _, Froz.get_upd _ ho rfl, Froz.add_ok u F, ?_, f2, ?_⟩ (fun z => absurd z m) fun _ => rfl)
    · have p1 := f1.map (·.2)
      rw [Array.toList_push, List.map_append] at p1
      refine p1.trans ?_
      refine (List.perm_append_comm).trans ?_
      exact (pm.cons (Value.str x u))
    · exact ld.imp id fun z => f3.trans z
/-- what stands in a set made of the first i of some texts -/
structure GotS (ks : List Str) (i : Nat) (L : TL) : Prop where
  sub : ∀ p ∈ L, p.1 ∈ ks.take i
  all : ∀ k ∈ ks.take i, k ∈ L.map (·.1)
  nd : (L.map (·.1)).Nodup
theorem GotS.len {ks : List Str} {i : Nat} {L : TL} (g : GotS ks i L) : L.length ≤ ks.length := by
  have := List.Nodup.length_le_of_subset g.nd (fun k m => by
    obtain ⟨p, mp, rfl⟩ := List.mem_map.mp m
    exact List.mem_of_mem_take (g.sub p mp) : ∀ k ∈ L.map (·.1), k ∈ ks)
  rwa [List.length_map] at this
theorem GotS.step {ks : List Str} {L L' : TL} {i : Nat} {x : Str} {u : Tok} (g : GotS ks i L) (h : ks[i]? = some x) (c1 : x ∈ L.map (·.1) → L' = L) (c2 : x ∉ L.map (·.1) → L' = (x, u) :: L) : GotS ks (i + 1) L' := by
  have e := take_1 h
  rcases Classical.em (x ∈ L.map (·.1)) with c | c
  · rw [c1 c]
    refine ⟨fun p m => by rw [e]; exact List.mem_append_left _ (g.sub p m), fun k m => ?_, g.nd⟩
    rw [e] at m
    rcases List.mem_append.mp m with m | m
    · exact g.all k m
    · rw [List.mem_singleton.mp m]; exact c
  · rw [c2 c]
    refine ⟨fun p m => ?_, fun k m => ?_, List.nodup_cons.mpr ⟨c, g.nd⟩⟩
    · rw [e]
      rcases List.mem_cons.mp m with rfl | m
      · exact List.mem_append_right _ (List.mem_singleton.mpr rfl)
      · exact List.mem_append_left _ (g.sub p m)
    · rw [e] at m
      rcases List.mem_append.mp m with m | m
      · exact List.mem_cons_of_mem _ (g.all k m)
      · rw [List.mem_singleton.mp m]; exact List.mem_cons_self
theorem set_loopS {I : Addr} {fp wr : List Addr} {G : Array GenState → Array GenState → Prop} {n : Nat} {Pv : Nat → Value → Prop} {St : Nat → Shared → Prop} {R : Result → Shared → Prop}
    (W : WalksS P w A.in1 I fp wr G n Pv St) (S : Addr) (nS : S ∉ fp) (ks : List Str) (hn : n = ks.length) (few : ks.length < 4000) (val : ∀ i v, Pv i v → ∃ x u, ks[i]? = some x ∧ v = .str x u)
    (h0 : Heap) (hS0 : h0.get? S = none) (hw0 : ∀ b ∈ wr, h0.get? b = none) (hu : A.in1.units + 8 < cLine) :
    ∀ (m i : Nat) (s : Shared), n - i = m → i ≤ n → St i s → (∀ b o, h0.get? b = some o → s.heap.get? b = some o) → (∃ L, SetS P w s.heap S L ∧ GotS ks i L) →
      (∀ s' L, Moved (S :: wr) G s s' → SetS P w s'.heap S L → GotS ks n L → (∀ b o, h0.get? b = some o → s'.heap.get? b = some o) → R (.ok (.ret .none)) s') →
      codeAny (model P w) A (.builtin "set.update.loop" ⟨[.ref S, .ref I], []⟩) R s := by
  have nSw : S ∉ wr := fun m => nS (W.sub _ m)
  have up : ∀ b ∈ wr, b ∈ S :: wr := fun b m => List.mem_cons_of_mem _ m
  have kept : ∀ {s s' : Shared}, Moved wr G s s' → (∀ b o, h0.get? b = some o → s.heap.get? b = some o) → ∀ b o, h0.get? b = some o → s'.heap.get? b = some o := fun mv k b o e =>
    mv.heap b o (fun m => by rw [hw0 b m] at e; cases e) (k b o e)
  intro m
  induction m with
  | zero =>
    intro i s hm hi st kp ⟨L, hS, g⟩ hR
    obtain rfl : i = n := by omega
    refine codeAny_builtin F.entry_set_update_loop ?_
    rw [Around.under_plainId F.plain_set_update_loop _]
    show wpAny _ A.in1 (pyNext (.ref I) >>= _) _ _ s
    refine wpAny_bind (W.done s _ _ st fun s' mv => ?_)
    show wpAny _ A.in1 (ret Value.none) _ _ s'
    exact wpAny_pure (hR s' L (mv.mono up) (hS.at fun o e => mv.heap S o nSw e) g (kept mv kp))
  | succ m ih =>
    intro i s hm hi st kp ⟨L, hS, g⟩ hR
    have lt : i < n := by omega
    refine codeAny_builtin F.entry_set_update_loop ?_
    rw [Around.under_plainId F.plain_set_update_loop _]
    show wpAny _ A.in1 (pyNext (.ref I) >>= _) _ _ s
    refine wpAny_bind (W.item i s _ _ lt st fun v s' pv st' mv => ?_)
    obtain ⟨x, u, hp, rfl⟩ := val i v pv
    have kp' := kept mv kp
    have hS' : SetS P w s'.heap S L := hS.at fun o e => mv.heap S o nSw e
    show wpAny _ A.in1 (holding [Value.str x u] (setAdd S (.str x u)) >>= _) _ _ s'
    refine wpAny_bind (wpAny_holding ?_)
    unfold setAdd
    refine wpAny_holding (wpAny_bind (pyHash_key (.text x) _ _ s' _ (.text x u) (by show A.in1.units + 0 < cLine; omega) ?_))
    have gl := g.len
    refine setS_add (s := { s' with toks := s'.toks + (NestedKey.text x).draws }) hS' (by unfold scanBound; omega) fun b h' L' sb hS2 c1 c2 => ?_
    have kp2 : ∀ b o, h0.get? b = some o → h'.get? b = some o := fun b o e => (sb.2 b fun z => by rw [z, hS0] at e; cases e).trans (kp' b o e)
    refine wpAny_pure ⟨plainId_quiet F.plain_set_update_loop _, ih (i + 1) _ (by omega) lt (W.frame _ s' _ _ st' (Nat.le_add_right _ _) fun b mb o e => ?_) kp2 ⟨L', hS2, g.step hp c1 c2⟩ fun s'' L2 mv2 hS3 g2 kp3 => ?_⟩
    · rw [sb.2 b fun z => nS (by rw [← z]; exact mb)]; exact e
    · refine hR s'' L2 (Moved.trans W.gtrans ((mv.mono up).then_heap (Nat.le_add_right _ _) fun b o nb e => ?_) mv2) hS3 g2 kp3
      rw [sb.2 b fun z => nb (by rw [z]; exact List.mem_cons_self)]; exact e
set_option maxHeartbeats 8000000 in
/-- set(xs), xs a list of texts -/
theorem call_setS {l : Addr} {us : Array Value} (ks : List Str) {Q : Value → Shared → Prop} (hA : A.handled = none) (il : s.heap.IsList l us) (lu : us.size = ks.length) (iu : ∀ (i : Nat) (v : Value), us[i]? = some v → ∃ x u, ks[i]? = some x ∧ v = .str x u) (few : ks.length < 4000) (hu : A.units + 12 < cLine)
    (k : ∀ (h' : Heap) (tk : Nat) L, SetS P w h' s.heap.objs.size L → GotS ks ks.length L → (∀ b o, s.heap.get? b = some o → h'.get? b = some o) → Q (.ref s.heap.objs.size) { s with heap := h', toks := tk }) : wpAny (model P w) A (call (.type "set") [.ref l]) Q E s := by
  obtain ⟨c0, t0, hm0⟩ := F.called_set.mro
  have m1 := F.called_set.made
  have m2 := F.called_set.sub
  refine wpAny_call (codeAny_of_tree (?_ : wpAny _ _ (callAny (.type "set") _) _ _ _))
  refine wpAny_pure ⟨Code.quiet_builtin _ (by decide +kernel), codeAny_builtin F.entry_type_call ?_⟩
  rw [Around.under_plain (weight_type_call_type "set" [.ref l] []) rfl]
  have m3 := F.called_set.notType
  have m4 := F.called_set.canCreate
  have m5 := F.typeCall_set_1 (.ref l)
  repeat any_goals first | assumption | wp_step
  refine codeAny_mono (code_set_led1 (.ref l) (E := E) (Q₁ := fun o s' => o = .ref s.heap.objs.size ∧ s' = { s with heap := s.heap.push (noS w) }) ⟨rfl, rfl⟩) fun r s' hr => ?_
  cases r with
  | error e => exact hr
  | ok fl =>
    cases fl with
    | ret ob =>
      obtain ⟨rfl, rfl⟩ := hr
      have g0 : (s.heap.push (noS w)).get? s.heap.objs.size = some (noS w) := Heap.get?_push_size _ rfl
      have ty : Shared.TypeIs { s with heap := s.heap.push (noS w) } (.ref s.heap.objs.size) "set" := ⟨_, g0, rfl⟩
      have n1 := F.called_set.init.lookup
      have n2 := F.called_set.init.bind (.ref s.heap.objs.size)
      repeat any_goals first | assumption | wp_step
      refine codeAny_mono (codeAny_call_builtin (R := wants (fun r s₂ => r = .none ∧ ∃ h' tk L, s₂ = { s with heap := h', toks := tk } ∧ SetS P w h' s.heap.objs.size L ∧ GotS ks ks.length L ∧ ∀ b o, s.heap.get? b = some o → h'.get? b = some o) E)
        F.called_set.init.plain F.entry_set_init (check_set_init_1 ty ?_)) fun r₂ s₂ hr₂ => ?_
      · obtain ⟨⟨oc, od, oda, osl⟩, g1, ec, nn, ed⟩ := il
        simp only at ec ed
        subst ec; subst ed
        have g2 : (s.heap.push (noS w)).get? l = some { cls := .type "list", dict := od, data := .seq us nn, slots := osl } := Heap.get?_push_of_some _ g1
        have i1 : (s.heap.push (noS w)).IsList l us := ⟨_, g2, rfl, nn, rfl⟩
        have u1 := PySem.F.sub_list_set
        have u2 := PySem.F.sub_list_frozenset
        have u3 : (Value.type "list" == Value.type "dict") = false := by decide
        unfold Builtin.«set.__init__» noKeywords Builtin.Frozenset.updateFrom
        generalize hPI : pyIter = PI
        wp_walk
        subst hPI
        refine wpAny_pyIter_list i1 (wpAny_bind (wpAny_runValue ?_))
        have lt : l < s.heap.objs.size := Heap.lt_size g1
        have hA3 : A.in1.in1.in1.handled = none := by simp [hA]
        have ne : l ≠ (s.heap.push (noS w)).objs.size := by rw [Heap.size_push]; exact Nat.ne_of_lt (Nat.lt_succ_of_lt lt)
        have nm : s.heap.objs.size ∉ [(s.heap.push (noS w)).objs.size, l] := by
          rw [Heap.size_push]
          intro m
          rcases List.mem_cons.mp m with q | q
          · exact Nat.ne_of_lt (Nat.lt_succ_self _) q
          · exact Nat.ne_of_gt lt (List.mem_singleton.mp q)
        have out : ∀ b, s.heap.objs.size ≤ b → s.heap.get? b = none := fun b hb => by
          cases q : s.heap.get? b with
          | none => rfl
          | some o => exact absurd (Nat.lt_of_lt_of_le (Heap.lt_size q) hb) (Nat.lt_irrefl _)
        refine set_loopS ((Walks.list hA3 _ l ne us).toS) s.heap.objs.size nm ks lu few iu s.heap (out _ (Nat.le_refl _)) (fun b mb => out b (by rw [List.mem_singleton.mp mb, Heap.size_push]; exact Nat.le_succ _)) (by simp only [Around.in1_units]; omega) (us.size - 0) 0 _ (by omega) (Nat.zero_le _) ⟨⟨_, Heap.get?_push_size _ rfl, rfl, rfl⟩, i1.push _⟩
          (fun b o e => Heap.get?_push_of_some _ (Heap.get?_push_of_some _ e)) ⟨[], setS_new (Heap.get?_push_of_some _ g0), ⟨fun p m => absurd m List.not_mem_nil, fun p m => by simp at m, List.nodup_nil⟩⟩ fun s' L mv hS' g' kp => ?_
        obtain ⟨h', g'', d', tk', os'⟩ := s'
        have eg : g'' = s.gens := mv.gens
        have ed : d' = s.drawn := mv.drawn
        have eo : os' = s.os := mv.os
        subst eg ed eo
        refine wpAny_pure ?_
        show wpAny _ _ (ret Value.none) _ _ _
        rw [lu] at g'
        exact wpAny_pure ⟨rfl, h', tk', L, rfl, hS', g', kp⟩
      · cases r₂ with
        | error e => exact hr₂
        | ok fl₂ =>
          cases fl₂ with
          | ret r =>
            obtain ⟨rfl, h', tk, L, rfl, hS', g', hk'⟩ := hr₂
            repeat any_goals first | assumption | wp_step
            exact k _ _ _ hS' g' hk'
          | _ => exact hr₂.elim
    | _ => exact hr.elim
end
end Rz
namespace Rz
open PySem PySem.Spec PyProof.Rows L2
variable {X : Cx} {P : Par} {ρ ρ' ρ0 ρ1 ρ2 : List SV} {σ σ' σ0 σ1 σ2 : Sg} {H0 G0 H G G' H' H1 G1 H2 G2 B : Hp} {F0 F F' F1 F2 : FP} {w : World} {K : PySem.W.Frag} {s : Shared} {pins : List (Addr × Obj)} {a : Addr}
def SetSO (Pr : Program) (w : World) (a : Addr) (L : TL) : HO := .ext fun h => SetS Pr w h a L
theorem setSO_new {Pr : Program} {w : World} {H : Hp} {h : Heap} {a : Addr} {L : TL} (R : SetS Pr w h a L) : ObjOk Pr w H h a (SetSO Pr w a L) := by
  obtain ⟨es, ep, t, ho, q⟩ := id R
  refine ⟨R, ⟨_, ho⟩, fun h1 h2 p k => ?_⟩
  have ⟨es', ep', t', ho', q'⟩ := p
  exact ⟨es', ep', t', k _ ho', q'⟩
def prsT (L : TL) : List (V × PD) := L.map fun p => (V.str p.1, PyData.str p.1)
theorem cr_setS (C : CxF X P) : CallR X (.type "set") (fun xs H Q => ∃ (l : Addr) (zs : List Str), xs = [V.ref l] ∧ H l = some (.lst (zs.map V.str)) ∧ zs.length < 4000 ∧
    ∀ a (L : TL), H a = none → (∀ p ∈ L, p.1 ∈ zs) → (∀ z ∈ zs, z ∈ L.map (·.1)) → (L.map (·.1)).Nodup → Q (.ref a) (upd H a (SetSO X.prog X.w a L))) := by
  intro pins s σ H xs us Q I r ⟨l, zs, e, hl, few, q⟩
  subst e
  rw [Vals.ref1 r]
  obtain ⟨its, rv, pl, hz⟩ := I.list (.of hl)
  have hn : H s.heap.objs.size = none := I.hok.fresh (Nat.le_refl _)
  have ln := rv.length
  rw [List.length_map] at ln
  have un := C.un
  refine call_setS (P := X.prog) (w := X.w) zs (I.ok.hd C.calm) pl.isList (by simpa using ln.symm) (fun i v hv => ?_) few (by omega) fun h' tk L R g k => ?_
  · have hv : its[i]? = some v := by simpa using hv
    have il : i < zs.length := by rw [ln]; exact (List.getElem?_eq_some_iff.mp hv).1
    obtain ⟨u, e1, r1⟩ := rv.get (i := i) (x := V.str zs[i]) (by rw [List.getElem?_map, List.getElem?_eq_getElem il]; rfl)
    rw [hv] at e1
    cases e1
    obtain ⟨t, rfl⟩ := r1
    exact ⟨zs[i], t, List.getElem?_eq_getElem il, rfl⟩
  · refine ⟨.ref s.heap.objs.size, upd H s.heap.objs.size (SetSO X.prog X.w s.heap.objs.size L), I.laid (t' := tk) k (Nat.le_refl _) (setSO_new R), rfl, q _ L hn (fun p m => List.mem_of_mem_take (g.sub p m)) (fun z m => g.all z (by rw [List.take_length]; exact m)) g.nd⟩
theorem setS_coll (C : CxF X P) {L : TL} (I : Inv X pins σ H s) (ha : H a = some (SetSO X.prog X.w a L)) (few : L.length < 4000) : CollP X s (.ref a) (prsT L) := fun R hR => by
  obtain ⟨es, ep, t, ho, tx, pmv, ris, led⟩ : SetS X.prog X.w s.heap a L := (I.hok a _ ha).1
  have hA : X.A.in1.handled = none := by
    have := I.ok.hd C.calm
    simpa using this
  have sz : es.size = L.length := by
    have := tx.sz
    rw [List.length_map] at this
    exact this
  refine collect_set (A := X.A.in1) hA ⟨_, ho, rfl, rfl⟩ tx.fit (by show es.size < scanBound; unfold scanBound; omega) ris led fun s1 vs k1 hz g1 o1 pm => ?_
  have pm := pm.trans pmv
  have ord : ∀ (vs : List Value) (L : TL), vs.Perm (vsT L) → ∃ qs : TL, qs.Perm L ∧ vs = vsT qs := by
    intro vs
    induction vs with
    | nil =>
      intro L p
      have : L = [] := by
        have := p.length_eq
        unfold vsT at this
        rw [List.length_map] at this
        exact List.length_eq_zero_iff.mp this.symm
      subst this
      exact ⟨[], .refl _, rfl⟩
    | cons v vs ih =>
      intro L p
      obtain ⟨y, my, rfl⟩ := List.mem_map.mp (p.mem_iff.mp List.mem_cons_self)
      obtain ⟨l, r, rfl⟩ := List.append_of_mem my
      have p2 : (l ++ y :: r).Perm (y :: (l ++ r)) := List.perm_middle
      have p3 := (p.trans (p2.map fun q : Str × Tok => Value.str q.1 q.2)).cons_inv
      obtain ⟨qs, q1, q2⟩ := ih (l ++ r) p3
      exact ⟨y :: qs, (q1.cons y).trans p2.symm, by rw [q2]; rfl⟩
  obtain ⟨qs, q1, q2⟩ := ord vs L pm
  refine hR s1 vs (prsT qs) (q1.map _) k1 g1 o1 ?_
  rw [q2]
  have rel : ∀ qs : TL, Vals ((prsT qs).map Prod.fst) (vsT qs) := by
    intro qs
    induction qs with
    | nil => exact .nil
    | cons q qs ih => exact .cons ⟨q.2, rfl⟩ ih
  exact rel qs
theorem prsT_snd (L : TL) : (prsT L).map Prod.snd = txts (L.map (·.1)) := by unfold prsT txts; rw [List.map_map, List.map_map]; rfl
theorem cr_sortedS (C : CxF X P) : CallR X (.builtin "sorted") (fun xs H Q => ∃ (a : Addr) (L : TL), xs = [V.ref a] ∧ H a = some (SetSO X.prog X.w a L) ∧ L.length < 4000 ∧
    ∀ qs : List (V × PD), qs.Perm (prsT L) → ∀ p, H p = none → Q (.ref p) (upd H p (.lst ((qs.mergeSort (PySem.W.dataLe false Prod.snd)).map Prod.fst)))) := by
  intro pins s σ H xs us Q I r ⟨a, L, e, ha, few, q⟩
  subst e
  rw [Vals.ref1 r]
  have pl : (prsT L).length = L.length := List.length_map _
  refine sortedP_gen C I (setS_coll C I ha few) (by rw [pl]; exact sz_of (by omega)) (fun p m => ?_) ?_ q
  · obtain ⟨y, my, rfl⟩ := List.mem_map.mp m
    exact .str y.1
  · rw [prsT_snd]
    exact .inl (txts_sort _)
theorem reps_txts {w : World} {K : PySem.W.Frag} {H : Hp} : ∀ {vs : List V} {zs : List Str}, Reps w K H vs (txts zs) → vs = zs.map V.str
  | _, [], .nil => rfl
  | v :: vs, z :: zs, .cons r rs => by
    cases r
    rw [reps_txts rs]; rfl
theorem reps_strs2 {w : World} {K : PySem.W.Frag} {H : Hp} : ∀ zs : List Str, Reps w K H (zs.map V.str) (txts zs)
  | [] => .nil
  | z :: zs => .cons (.str z) (reps_strs2 zs)
/-- sorted(set(x)): each of the texts once -/
def bSetS (x : Rv) (Q : Rv → Prop) : Prop := ∃ zs, x.val = .list (txts zs) ∧ zs.length < 4000 ∧ ∀ es : List Str, (∀ e ∈ es, e ∈ zs) → (∀ z ∈ zs, z ∈ es) → es.Nodup → Q (.fr (.ls ((sortD (txts es)).map .lf)))
abbrev tSortedSetS (ta : TDa) : TD := fun ρ Q => ta ρ fun rs => ∃ x, rs = [x] ∧ bSetS x Q
theorem sortedSetS_ {e : Expr} {es : List Expr} {p p2 pos pos2 : Pos} {ta : TDa} (C : CxF X P) (m : X.mg "sorted" = none) (m2 : X.mg "set" = none) (ha : JA X P (e :: es) ta) (hg : Gl X "sorted" := by rfl) (hg2 : Gl X "set" := by rfl)
    (he : starEach (e :: es) X.env = (false, eval e X.env) :: starEach es X.env := by rfl) (hpl : (backTo pos2 (starEach es X.env)).any (·.1) = false := by rfl)
    (he2 : starEach [Expr.Call (.Name "set" p2) (e :: es) [] pos2] X.env = (false, eval (Expr.Call (.Name "set" p2) (e :: es) [] pos2) X.env) :: starEach [] X.env := by rfl) (hpl2 : (backTo pos (starEach [] X.env)).any (·.1) = false := by rfl) :
    JE X P (.Call (.Name "sorted" p) [.Call (.Name "set" p2) (e :: es) [] pos2] [] pos) (tSortedSetS ta) := by
  refine pe_imp (pe_callB (cr_sortedS C) hg m bt_sorted (pa_cons (pe_callTy (cr_setS C) hg2 m2 bt_set ha (by decide) (by decide) he hpl) pa_nil he2) (by decide) (by decide) he2 hpl2) fun σ H Q' h => ?_
  obtain ⟨ρ, G, F, Q, S, ht, k⟩ := h
  refine ⟨ρ, G, F, _, S, ht, fun vs rs H1 G1 F1 L s1 o1 n1 q1 => ?_⟩
  obtain ⟨x, rfl, zs, ex, few, q⟩ := q1
  cases o1 with
  | cons ox on dj =>
    cases on
    obtain ⟨G2, s2, _, _, r2⟩ := norm1 s1 ox (Rv.data_of (by rw [ex]; simp)) (fun a m => n1 a (List.mem_append_left _ m))
    rw [ex] at r2
    obtain ⟨a, xs, rfl, ea, r⟩ := r2.list s2.st.le
    have rr := r.rep s2.st.le
    obtain rfl := reps_txts rr
    refine ⟨a, zs, rfl, ea, few, fun b L hb y1 y2 y3 => ?_⟩
    have ln : L.length < 4000 := by
      have := List.Nodup.length_le_of_subset y3 (fun k m => by
        obtain ⟨p, mp, rfl⟩ := List.mem_map.mp m
        exact y1 p mp : ∀ k ∈ L.map (·.1), k ∈ zs)
      rw [List.length_map] at this
      omega
    refine ⟨b, L, rfl, upd_same, ln, fun qs hp p hn => ?_⟩
    have s3 : Sit P ρ σ H G F (upd H1 b (SetSO X.prog X.w b L)) G2 F1 := ⟨s2.st.push hb, s2.ev.trans (.push hb), s2.at0⟩
    obtain ⟨L2, rfl⟩ : ∃ L2 : TL, qs = prsT L2 := by
      have all : ∀ qs : List (V × PD), (∀ q ∈ qs, q ∈ prsT L) → ∃ L2 : TL, qs = prsT L2 := fun qs => by
        induction qs with
        | nil => intro _; exact ⟨[], rfl⟩
        | cons q qs ih =>
          intro h
          obtain ⟨L2, rfl⟩ := ih fun x m => h x (List.mem_cons_of_mem _ m)
          obtain ⟨y, _, rfl⟩ := List.mem_map.mp (h q List.mem_cons_self)
          exact ⟨y :: L2, rfl⟩
      exact all qs fun q m => hp.mem_iff.mp m
    have hk : (L2.map (·.1)).Perm (L.map (·.1)) := by
      have := (hp.map Prod.fst).map fun v : V => match v with | .str x => x | _ => ""
      unfold prsT at this
      rw [List.map_map, List.map_map, List.map_map, List.map_map] at this
      exact this
    have src : Src P ρ (upd H1 b (SetSO X.prog X.w b L)) G2 F1 false ((prsT L2).map Prod.fst) ((prsT L2).map Prod.snd) := by
      show Reps _ _ _ _ _
      rw [prsT_snd]
      have e1 : (prsT L2).map Prod.fst = (L2.map (·.1)).map V.str := by unfold prsT; rw [List.map_map, List.map_map]; rfl
      rw [e1]
      exact reps_strs2 _
    have srt := src.sorted
    have ez : ((prsT L2).map Prod.fst).zip ((prsT L2).map Prod.snd) = prsT L2 := by
      have all : ∀ qs : List (V × PD), (qs.map Prod.fst).zip (qs.map Prod.snd) = qs := fun qs => by
        induction qs with
        | nil => rfl
        | cons q qs ih => rw [List.map_cons, List.map_cons, List.zip_cons_cons, ih]
      exact all _
    rw [ez, prsT_snd] at srt
    refine k.lst s3 srt ?_ hn
    rw [mkL_imm (sort_imm (txts_imm _))]
    exact q _ (fun e m => by
      obtain ⟨p, mp, rfl⟩ := List.mem_map.mp (hk.mem_iff.mp m)
      exact y1 p mp) (fun z mz => hk.mem_iff.mpr (y2 z mz)) (hk.nodup_iff.mpr y3)
end Rz
namespace Rz
open PySem PySem.Spec PyProof.Rows L2
/-- trains as k03 makes them -/
structure TrW (ts : List Trn) : Prop where
  few : ts.length ≤ 25
  many : manyC ts ≤ 201
  nm : ∀ t ∈ ts, ∀ c ∈ t.calls, wordS c.1 = true ∧ c.1.cps.size ≤ 13
  mi : ∀ t ∈ ts, ∀ c ∈ t.calls, 0 ≤ c.2 ∧ c.2 ≤ 3000
  nu : ∀ t ∈ ts, 0 ≤ t.number ∧ t.number ≤ 20000
  dy : ∀ t ∈ ts, t.days = [0]
theorem manyC_mem : ∀ {ts : List Trn} {t : Trn}, t ∈ ts → t.calls.length ≤ manyC ts
  | u :: ts, t, m => by
    have e : manyC (u :: ts) = u.calls.length + manyC ts := rfl
    rcases List.mem_cons.mp m with rfl | m
    · omega
    · have := manyC_mem m
      omega
theorem TrW.calls {ts : List Trn} (h : TrW ts) {t : Trn} (m : t ∈ ts) : t.calls.length ≤ 201 := Nat.le_trans (manyC_mem m) h.many
theorem TrW.smT {ts : List Trn} (h : TrW ts) {t : Trn} (m : t ∈ ts) : smB (trnD t) = true := smB_trn (by rw [h.dy t m]; simp) (by have := h.calls m; omega) fun c mc => by
  have := (h.nm t m c mc).2
  show c.1.cps.size ≤ _
  omega
theorem TrW.sm {ts : List Trn} (h : TrW ts) {c : Cal} (hc : c.hols.length ≤ 20000) : smB (plnD ⟨c, ts⟩) = true := smB_pln hc (by have := h.few; show ts.length ≤ _; omega) fun t m => h.smT m
abbrev MRw := Str × Int × Int × Int
def mrwD (r : MRw) : PD := .tuple [.str r.1, .int r.2.1, .int r.2.2.1, .int r.2.2.2]
def mrwC (n : Int) : Int → List Cll → List MRw
  | _, [] => []
  | k, c :: cs => (c.1, c.2, n, k) :: mrwC n (k + 1) cs
def mrwT (ts : List Trn) : List MRw := ts.flatMap fun t => mrwC t.number 0 t.calls
theorem mrwC_len : ∀ (cs : List Cll) (n k : Int), (mrwC n k cs).length = cs.length
  | [], _, _ => rfl
  | c :: cs, n, k => by
    show (mrwC n (k + 1) cs).length + 1 = _
    rw [mrwC_len cs]; rfl
theorem mrwC_add : ∀ (cs : List Cll) (n k : Int) (c : Cll), mrwC n k (cs ++ [c]) = mrwC n k cs ++ [(c.1, c.2, n, k + (cs.length : Int))]
  | [], n, k, c => by
    show [(c.1, c.2, n, k)] = [(c.1, c.2, n, k + ((0 : Nat) : Int))]
    simp
  | d :: cs, n, k, c => by
    show (d.1, d.2, n, k) :: mrwC n (k + 1) (cs ++ [c]) = _
    rw [mrwC_add cs n (k + 1) c]
    show _ = (d.1, d.2, n, k) :: (mrwC n (k + 1) cs ++ _)
    rw [List.length_cons, show k + 1 + (cs.length : Int) = k + ((cs.length + 1 : Nat) : Int) by omega]
theorem mrwT_add (ts : List Trn) (t : Trn) : mrwT (ts ++ [t]) = mrwT ts ++ mrwC t.number 0 t.calls := by
  unfold mrwT
  rw [List.flatMap_append, List.flatMap_singleton]
theorem mrwT_len : ∀ ts : List Trn, (mrwT ts).length = manyC ts
  | [] => rfl
  | t :: ts => by
    have e : mrwT (t :: ts) = mrwC t.number 0 t.calls ++ mrwT ts := rfl
    rw [e, List.length_append, mrwC_len, mrwT_len ts]; rfl
theorem mrwC_mem {n : Int} : ∀ {cs : List Cll} {k : Int} {r : MRw}, r ∈ mrwC n k cs → ∃ c ∈ cs, c.1 = r.1 ∧ c.2 = r.2.1 ∧ r.2.2.1 = n ∧ k ≤ r.2.2.2 ∧ r.2.2.2 < k + cs.length
  | c :: cs, k, r, m => by
    rcases List.mem_cons.mp m with rfl | m
    · exact ⟨c, List.mem_cons_self, rfl, rfl, rfl, Int.le_refl _, by rw [List.length_cons]; show k < _; omega⟩
    · obtain ⟨d, md, h1, h2, h3, h4, h5⟩ := mrwC_mem m
      exact ⟨d, List.mem_cons_of_mem _ md, h1, h2, h3, by omega, by rw [List.length_cons]; omega⟩
theorem mrwC_name {n : Int} : ∀ {cs : List Cll} {k : Int} {x : Str}, x ∈ (mrwC n k cs).map (·.1) ↔ ∃ c ∈ cs, c.1 = x
  | [], k, x => by simp [mrwC]
  | c :: cs, k, x => by
    show x ∈ c.1 :: (mrwC n (k + 1) cs).map (·.1) ↔ _
    rw [List.mem_cons, mrwC_name]
    constructor
    · rintro (h | ⟨d, md, h⟩)
      · exact ⟨c, List.mem_cons_self, h.symm⟩
      · exact ⟨d, List.mem_cons_of_mem _ md, h⟩
    · rintro ⟨d, md, h⟩
      rcases List.mem_cons.mp md with rfl | md
      · exact .inl h.symm
      · exact .inr ⟨d, md, h⟩
theorem mrwT_name {ts : List Trn} {x : Str} : x ∈ (mrwT ts).map (·.1) ↔ ∃ t ∈ ts, ∃ c ∈ t.calls, c.1 = x := by
  unfold mrwT
  rw [List.map_flatMap, List.mem_flatMap]
  exact ⟨fun ⟨t, m, h⟩ => ⟨t, m, mrwC_name.mp h⟩, fun ⟨t, m, h⟩ => ⟨t, m, mrwC_name.mpr h⟩⟩
theorem mrwC_hits (x : Str) (n : Int) : ∀ (cs : List Cll) (k : Int), ((mrwC n k cs).filter fun r => decide (r.1 = x)).map (·.2) = hitsC x n k cs
  | [], _ => rfl
  | c :: cs, k => by
    unfold mrwC hitsC
    by_cases h : c.1 = x
    · rw [List.filter_cons_of_pos (by exact decide_eq_true h), if_pos h, List.map_cons, mrwC_hits x n cs]
    · rw [List.filter_cons_of_neg (by simpa using h), if_neg h, mrwC_hits x n cs]
theorem mrwT_hits (x : Str) : ∀ ts : List Trn, ((mrwT ts).filter fun r => decide (r.1 = x)).map (·.2) = hitsT x ts
  | [] => rfl
  | t :: ts => by
    have e : mrwT (t :: ts) = mrwC t.number 0 t.calls ++ mrwT ts := rfl
    have e2 : hitsT x (t :: ts) = hitsC x t.number 0 t.calls ++ hitsT x ts := rfl
    rw [e, List.filter_append, List.map_append, mrwC_hits, mrwT_hits x ts, e2]
theorem names_sort {ts : List Trn} {c : Cal} {es : List Str} (h1 : ∀ e ∈ es, e ∈ (mrwT ts).map (·.1)) (h2 : ∀ z ∈ (mrwT ts).map (·.1), z ∈ es) (nd : es.Nodup) : sortD (txts es) = sortD (txts (namesOf ⟨c, ts⟩)) := by
  refine sortD_perm (List.Perm.map _ ?_) (txts_sort es).1
  refine (List.perm_ext_iff_of_nodup nd (namesT_nodup ts List.nodup_nil)).mpr fun x => ?_
  rw [show x ∈ namesT [] ts ↔ ∃ t ∈ ts, ∃ c ∈ t.calls, c.1 = x from (namesT_iff ts [] x).trans (by simp)]
  exact ⟨fun m => mrwT_name.mp (h1 x m), fun m => h2 x (mrwT_name.mpr m)⟩
theorem fit_namesW {ts : List Trn} (h : TrW ts) {c : Cal} : Fit 1 20000 (.tuple (sortD (txts (namesOf ⟨c, ts⟩)))) := by
  have l : (namesT [] ts).length ≤ 201 := by
    have := List.Nodup.length_le_of_subset (namesT_nodup ts List.nodup_nil) (fun k m => by
      rcases (namesT_iff ts [] k).mp m with q | q
      · cases q
      · exact mrwT_name.mpr q : ∀ k ∈ namesT [] ts, k ∈ (mrwT ts).map (·.1))
    rw [List.length_map, mrwT_len] at this
    have := h.many
    omega
  refine (fit_tup (k := 0) (n := 83) fun d m => ?_).mono (Nat.le_refl _) (by
    rw [sortD_len]
    show 84 * ((namesT [] ts).map PyData.str).length ≤ _
    rw [List.length_map]
    omega)
  obtain ⟨x, mx, rfl⟩ := List.mem_map.mp (sortD_mem.mp m)
  rcases (namesT_iff ts [] x).mp mx with q | ⟨t, mt, c, mc, rfl⟩
  · cases q
  · have := h.nm t mt c mc
    exact (pw_str this.1 (by omega)).ft
theorem hitsT_row {x : Str} {ts : List Trn} {y : Hit} (m : y ∈ hitsT x ts) : ∃ t ∈ ts, ∃ c ∈ t.calls, c.2 = y.1 ∧ t.number = y.2.1 ∧ 0 ≤ y.2.2 ∧ y.2.2 < t.calls.length := by
  rw [← mrwT_hits] at m
  obtain ⟨r, mr, rfl⟩ := List.mem_map.mp m
  have mr := (List.mem_filter.mp mr).1
  unfold mrwT at mr
  obtain ⟨t, mt, mr⟩ := List.mem_flatMap.mp mr
  obtain ⟨c, mc, _, h2, h3, h4, h5⟩ := mrwC_mem mr
  exact ⟨t, mt, c, mc, h2, h3.symm, h4, by omega⟩
theorem fit_hitsW {ts : List Trn} (h : TrW ts) (x : Str) : Fit 2 60000 (.tuple (sortD ((hitsT x ts).map hitD))) := by
  have l : (hitsT x ts).length ≤ 201 := by
    rw [← mrwT_hits, List.length_map]
    have := List.length_filter_le (fun r : MRw => decide (r.1 = x)) (mrwT ts)
    rw [mrwT_len] at this
    have := h.many
    omega
  refine (fit_tup (k := 1) (n := 252) fun d m => ?_).mono (Nat.le_refl _) (by
    rw [sortD_len, List.length_map]
    omega)
  obtain ⟨y, my, rfl⟩ := List.mem_map.mp (sortD_mem.mp m)
  obtain ⟨t, mt, c, mc, h1, h2, h3, h4⟩ := hitsT_row my
  have a := h.mi t mt c mc
  have b := h.nu t mt
  have lc := h.calls mt
  refine (fit_tup (k := 0) (n := 83) (ds := [.int y.1, .int y.2.1, .int y.2.2]) fun d md => ?_).mono (Nat.le_refl _) (by simp)
  simp only [List.mem_cons, List.not_mem_nil, or_false] at md
  rcases md with rfl | rfl | rfl <;> exact (fit_int (by omega)).mono (by omega) (by omega)
def lotO (cs : List Cll) : OD := .ls ((cs.map cllD).map .lf)
def lotsO (L : List (List Cll)) : List OD := L.map lotO
def lotD (cs : List Cll) : PD := .list (cs.map cllD)
theorem lotO_val (cs : List Cll) : (lotO cs).val = lotD cs := congrArg PyData.list (vals_lf _)
theorem lotsO_val : ∀ L : List (List Cll), ODvals (lotsO L) = L.map lotD
  | [] => rfl
  | l :: L => by
    show (lotO l).val :: ODvals (lotsO L) = _
    rw [lotO_val, lotsO_val L]; rfl
theorem putO_lot {L : List (List Cll)} {n : Nat} {lot : List Cll} {c : Cll} (h : L[n]? = some lot) : putO (.ls (lotsO L)) [n] (.ls ((lot.map cllD).map OD.lf ++ [.lf (cllD c)])) = .ls (lotsO (L.set n (lot ++ [c]))) := by
  have e : (lotsO L)[n]? = some (lotO lot) := by unfold lotsO; rw [List.getElem?_map, h]; rfl
  unfold putO
  rw [e]
  have e2 : OD.ls ((lot.map cllD).map OD.lf ++ [.lf (cllD c)]) = lotO (lot ++ [c]) := by
    unfold lotO
    rw [List.map_append, List.map_append]; rfl
  rw [e2]
  show OD.ls ((lotsO L).set n (putO (lotO lot) [] (lotO (lot ++ [c])))) = _
  rw [show putO (lotO lot) [] (lotO (lot ++ [c])) = lotO (lot ++ [c]) by unfold putO; rfl]
  unfold lotsO
  rw [List.map_set]
theorem sum_set : ∀ {L : List (List Cll)} {n : Nat} {lot l2 : List Cll}, L[n]? = some lot → ((L.set n l2).map List.length).sum + lot.length = (L.map List.length).sum + l2.length
  | l :: L, 0, lot, l2, h => by
    have e : l = lot := Option.some.inj h
    subst e
    show (l2.length + (L.map List.length).sum) + l.length = (l.length + (L.map List.length).sum) + l2.length
    omega
  | l :: L, n + 1, lot, l2, h => by
    have ih := sum_set (L := L) (n := n) (lot := lot) (l2 := l2) h
    show (l.length + ((L.set n l2).map List.length).sum) + lot.length = (l.length + (L.map List.length).sum) + l2.length
    omega
theorem lot_len {L : List (List Cll)} {lot : List Cll} (m : lot ∈ L) : lot.length ≤ (L.map List.length).sum := by
  induction L with
  | nil => cases m
  | cons l L ih =>
    rw [List.map_cons, List.sum_cons]
    rcases List.mem_cons.mp m with rfl | m
    · omega
    · have := ih m; omega
def ctToldW : Ct := ctOf (α := Pln) (fun p => [.sh (plnD p)]) (fun p => TrW p.trains) fun _ Q => Q (.cl (.bool true))
theorem cd_toldW {p : Pln} {x : Rv} {Q : Rv → Prop} (hx : x = .cl (plnD p)) (h : TrW p.trains) (q : Q (.cl (.bool true))) : callD ctToldW [x] Q := by
  subst hx
  exact ⟨List.nodup_nil, rfl, p, rfl, h, fun _ => q⟩
/-- calls dealt out -/
structure ClW (cs : List Cll) : Prop where
  many : cs.length ≤ 201
  nm : ∀ c ∈ cs, wordS c.1 = true ∧ c.1.cps.size ≤ 13
  mi : ∀ c ∈ cs, 0 ≤ c.2 ∧ c.2 ≤ 3000
def ctShared : Ct := ctOf (α := SV × List Cll × Nat) (fun a => [.wl, a.1, .sh (.int (a.2.2 : Int))]) (fun a => (∃ d, slv a.1 = some d ∧ seqOf d = some (a.2.1.map cllD)) ∧ ClW a.2.1 ∧ 1 ≤ a.2.2 ∧ a.2.2 ≤ 25) fun a Q => ∀ ts : List Trn, TrW ts → ts ≠ [] → Q (.cl (.tuple (ts.map trnD)))
theorem cd_shared {i : Nat} {x y : Rv} {cs : List Cll} {n : Int} {Q : Rv → Prop} (hd : x.data = true) (h : seqOf x.val = some (cs.map cllD)) (hy : y = .cl (.int n)) (hc : ClW cs) (n1 : 1 ≤ n) (n2 : n ≤ 25) (q : ∀ ts : List Trn, TrW ts → ts ≠ [] → Q (.cl (.tuple (ts.map trnD)))) : callD ctShared [.ws i, x, y] Q := by
  subst hy
  obtain ⟨n, rfl⟩ := Int.eq_ofNat_of_zero_le (show 0 ≤ n by omega)
  refine ⟨?_, ?_, (argS (anySoft [.ws i, x, .cl (.int n)]) x, cs, n), rfl, ⟨⟨_, slv_arg _ hd, h⟩, hc, by show 1 ≤ n; omega, by show n ≤ 25; omega⟩, fun ts ht ne _ => ?_⟩
  · cases x with
    | cl d => exact nodup1 i
    | dr d => exact nodup1 i
    | fr d => exact nodup1 i
    | _ => cases hd
  · cases x with
    | cl d => rfl
    | dr d => rfl
    | fr d => rfl
    | _ => cases hd
  · rw [retR_imm (imm_tup (trns_imm ts))]
    exact q ts ht ne
def ctWide : Ct := ctOf (α := Nat) (fun n => [.wl, .sh (.int (n : Int))]) (fun n => n < 6) fun _ Q => ∀ ts : List Trn, TrW ts → ts ≠ [] → Q (.cl (.tuple (ts.map trnD)))
theorem cd_wide {i : Nat} {n : Int} {y : Rv} {Q : Rv → Prop} (hy : y = .cl (.int n)) (n0 : 0 ≤ n) (n1 : n < 6) (q : ∀ ts : List Trn, TrW ts → ts ≠ [] → Q (.cl (.tuple (ts.map trnD)))) : callD ctWide [.ws i, y] Q := by
  subst hy
  obtain ⟨n, rfl⟩ := Int.eq_ofNat_of_zero_le n0
  exact ⟨nodup1 i, rfl, n, rfl, by show n < 6; omega, fun ts ht ne _ => q ts ht ne⟩
def ctTwoW : Ct := ctOf (α := Unit) (fun _ => [.wl]) (fun _ => True) fun _ Q => ∀ d : PD, smB d = true → Q (.cl d)
theorem cd_twoW {i : Nat} {Q : Rv → Prop} (q : ∀ d : PD, smB d = true → Q (.cl d)) : callD ctTwoW [.ws i] Q := ⟨nodup1 i, rfl, (), rfl, trivial, fun d hd _ => q d hd⟩
end Rz
namespace Rz
open PySem PySem.Spec PyProof.Rows L2
theorem tuple_mul1 (l : Addr) (items : Array Value) (n : Nat) (dd : Option Addr) (sl : Array (Option Value)) (u : Tok) :
    Meets (Builtin.«tuple.__mul__» ⟨[.ref l, .int 1 u], []⟩) (fun _ R s => s.heap.get? l = some { cls := .type "tuple", dict := dd, data := .seq items n, slots := sl } ∧ R (.ok (.ret (Value.ref l))) s) :=
  .of_wp fun prog w A R s h => by
    obtain ⟨hp, g, d, tk, os⟩ := s
    obtain ⟨hl, h⟩ := h
    have f1 := AutoSeq1.idx_int
    have c0 : (decide ((1 : Int) < -(2 ^ 63)) || decide ((1 : Int) ≥ 2 ^ 63)) = false := by decide
    have c1 : (items.isEmpty || (1 : Int) == 1) = true := by simp
    wp_walk using AutoSeq1.wpAny_loadPart' hl
    exact ⟨_, rfl, h⟩
variable {X : Cx} {P : Par}
theorem op_rep1 : OpR X (binaryOp .Mult) (fun x y H Q => ∃ l xs, x = V.ref l ∧ y = .int 1 ∧ SqT X.K H l xs ∧ Q (.ref l) H) := by
  intro pins s σ H x y v u Q I rx ry h
  obtain ⟨l, xs, rfl, rfl, hT, q⟩ := h
  cases rx
  obtain ⟨t, rfl⟩ := ry
  obtain ⟨its, r, ⟨⟨cls, dd, data, sl⟩, ho, hc, n, hd⟩, hs⟩ := I.tuple hT
  simp only at hc hd
  subst hc hd
  refine wpAny_binaryOp_repeat_ref (T := "tuple") (U := "int") (by decide) ⟨_, ho, rfl⟩ (fun s' => typeIs_int s' 1 t) noFill_tuple_mul F.fills_int_mul F.slot_int_rmul repeat_tuple F.slot_int_index.lookup
    (call_meets F.slot_int_rmul (typeIs_int s 1 t) F.entry_int_rmul (F.args_int_rmul_2 _ _) (int_rmul_tuple 1 t l its.toArray n dd sl)
      ⟨ho, rfl, ⟨_, ho, rfl⟩, call_meets F.slot_tuple_mul ⟨_, ho, rfl⟩ F.entry_tuple_mul (F.args_tuple_mul_2 _ _) (tuple_mul1 l its.toArray n dd sl t) ⟨ho, ?_⟩⟩)
  exact ⟨.ref l, H, I, rfl, q⟩
theorem dop_rep1 (C : CxF X P) : DOp X P (binaryOp .Mult) (fun x y Q => ∃ ds, x.val = .tuple ds ∧ y.val = .int 1 ∧ Q (mk x.soft (.tuple ds))) := by
  refine ⟨_, op_rep1, ?_⟩
  intro ρ σ H0 G0 F0 H G F x y r1 r2 L1 L2 Q Q' s o1 o2 n1 n2 dj ⟨ds, e1, e2, q⟩ k
  have ey := o2.int s.st.le e2
  obtain ⟨G2, s2, _, _, r⟩ := norm1 s o1 (Rv.data_of (by rw [e1]; simp)) n1
  rw [e1] at r
  obtain ⟨p, xs, rfl, sp, rr⟩ := r.tuple s2.st.le
  exact ⟨p, xs, rfl, ey, by rw [C.K]; exact sp, k.part s2 r q⟩
theorem dop_repT (C : CxF X P) : DOp X P (binaryOp .Mult) (fun x y Q => ∃ ds k, x.val = .tuple ds ∧ y.val = .int k ∧ ds ≠ [] ∧ 2 ≤ k ∧ k ≤ 1000 ∧ ds.length ≤ 1000 ∧ Q (mk x.soft (.tuple (List.replicate k.toNat ds).flatten))) := by
  refine ⟨_, op_repT, ?_⟩
  intro ρ σ H0 G0 F0 H G F x y r1 r2 L1 L2 Q Q' s o1 o2 n1 n2 dj ⟨ds, j, e1, e2, ne, b1, b2, hz, q⟩ k
  have ey := o2.int s.st.le e2
  obtain ⟨G2, s2, _, _, r⟩ := norm1 s o1 (Rv.data_of (by rw [e1]; simp)) n1
  rw [e1] at r
  obtain ⟨p, xs, rfl, sp, r⟩ := r.tuple s2.st.le
  have rl := r.len
  refine ⟨p, j, xs, rfl, ey, by rw [C.K]; exact sp, fun z => ne (by rw [z] at rl; exact List.length_eq_zero_iff.mp rl.symm), b1, b2, by omega, fun p n => k.tup s2 (b := r1.soft) ?_ q n⟩
  cases hb : r1.soft with
  | false => rw [hb] at r; exact reps_flat r _
  | true => rw [hb] at r; obtain ⟨Hd, l, n, r⟩ := r; exact ⟨Hd, l, n, reps_flat r _⟩
/-- a * b of ints, lists, texts, tuples -/
def oMulW (x y : Rv) (Q : Rv → Prop) : Prop := match x.val, y.val with
  | .str a, .int n => MulOk a n ∧ Q (.cl (.str (Txt.mul a n)))
  | .tuple ds, .int k => ds ≠ [] ∧ 1 ≤ k ∧ k ≤ 1000 ∧ ds.length ≤ 1000 ∧ Q (mk x.soft (.tuple (List.replicate k.toNat ds).flatten))
  | _, _ => oMul x y Q
theorem dop_mulW (C : CxF X P) : DOp X P (binaryOp .Mult) oMulW := (dop_smul.or ((dop_rep1 C).or ((dop_repT C).or dop_mulX))).imp fun x y Q h => by
  unfold oMulW at h
  split at h
  · rename_i a n e1 e2; exact .inl ⟨a, n, e1, e2, h⟩
  · rename_i ds k e1 e2
    obtain ⟨h1, h2, h3, h4, q⟩ := h
    by_cases k1 : k = 1
    · subst k1
      refine .inr (.inl ⟨ds, e1, e2, ?_⟩)
      have : (List.replicate (1 : Int).toNat ds).flatten = ds := by simp
      rw [this] at q
      exact q
    · exact .inr (.inr (.inl ⟨ds, k, e1, e2, h1, by omega, h3, h4, q⟩))
  · exact .inr (.inr (.inr h))
/-- letters some times -/
theorem mulOk_few {x : Str} (h : x.length = 1) {n : Int} (h1 : 1 ≤ n) (h2 : n ≤ 20) : MulOk x n := by
  refine ⟨by rw [decide_eq_false (by omega), decide_eq_false (by omega)]; rfl, fun _ _ => ?_, fun _ _ => ?_⟩
  · rw [h]
    have : (2 ^ 63 - 1 : Int) / n ≥ 1 := Int.le_ediv_of_mul_le (by omega) (by omega)
    omega
  · rw [h]
    have e : n.toNat ∈ List.range 21 := List.mem_range.mpr (by omega)
    have all : ∀ m ∈ List.range 21, Builtin.Str.tooLong (1 * m) = false := by decide +kernel
    exact all _ e
theorem t_mulS {a : Str} {n : Int} {Q : Rv → Prop} (h : MulOk a n) (q : Q (.cl (.str (Txt.mul a n)))) : oMulW (.cl (.str a)) (.cl (.int n)) Q := ⟨h, q⟩
theorem t_mulWI {i j : Int} {Q : Rv → Prop} (h : CMul i j) (q : Q (.cl (.int (i * j)))) : oMulW (.cl (.int i)) (.cl (.int j)) Q := ⟨h, q⟩
def lettersZ : Str := "abcdefghijklmnopq"
theorem letters_len : lettersZ.cps.toList.length = 17 := by decide +kernel
theorem letter_mul : ∀ ch ∈ lettersZ.cps.toList, ∀ n ∈ List.range 14, wordS (Txt.mul ⟨#[ch]⟩ (n : Int)) = true ∧ (Txt.mul ⟨#[ch]⟩ (n : Int)).cps.size ≤ 13 := by decide +kernel
theorem letter_word : ∀ ch ∈ lettersZ.cps.toList, wordS ⟨#[ch]⟩ = true := by decide +kernel
theorem t_letter {x : Rv} {i : Int} {Q : Rv → Prop} (hx : x.val = .str lettersZ) (h0 : 0 ≤ i) (h1 : i < 17) (q : ∀ ch ∈ lettersZ.cps.toList, Q (.cl (.str ⟨#[ch]⟩))) : oIxX x (.cl (.int i)) Q := by
  obtain ⟨n, rfl⟩ := Int.eq_ofNat_of_zero_le h0
  have l := letters_len
  have hn : n < lettersZ.cps.toList.length := by omega
  have e : lettersZ.cps.toList[n]? = some (lettersZ.cps.toList[n]) := List.getElem?_eq_getElem hn
  unfold oIxX
  rw [hx]
  show oIx x _ Q
  unfold oIx
  rw [hx]
  exact ⟨sz_of (by decide +kernel), _, atI_nat e, q _ (List.getElem_mem hn)⟩
theorem mul_letter {ch : Nat} (h : ch ∈ lettersZ.cps.toList) {n : Int} (h1 : 1 ≤ n) (h2 : n ≤ 13) : MulOk ⟨#[ch]⟩ n ∧ wordS (Txt.mul ⟨#[ch]⟩ n) = true ∧ (Txt.mul ⟨#[ch]⟩ n).cps.size ≤ 13 := by
  obtain ⟨m, rfl⟩ := Int.eq_ofNat_of_zero_le (show 0 ≤ n by omega)
  exact ⟨mulOk_few rfl h1 (by omega), letter_mul ch h m (List.mem_range.mpr (by omega))⟩
theorem manyC_leW {k : Nat} : ∀ {ts : List Trn}, (∀ t ∈ ts, t.calls.length ≤ k) → manyC ts ≤ k * ts.length
  | [], _ => Nat.zero_le _
  | t :: ts, h => by
    have e : manyC (t :: ts) = t.calls.length + manyC ts := rfl
    have a := h t List.mem_cons_self
    have b := manyC_leW fun s m => h s (List.mem_cons_of_mem _ m)
    rw [e, List.length_cons, Nat.mul_succ]
    omega
theorem word_a : wordS "a" = true ∧ ("a" : Str).cps.size ≤ 13 := by decide +kernel
theorem word_b : wordS "b" = true ∧ ("b" : Str).cps.size ≤ 13 := by decide +kernel
def CllW (c : Cll) : Prop := (wordS c.1 = true ∧ c.1.cps.size ≤ 13) ∧ 0 ≤ c.2 ∧ c.2 ≤ 3000
theorem trW_by {ts : List Trn} (hl : ts.length ≤ 25) (h : ∀ t ∈ ts, t.calls.length ≤ 2 ∧ (∀ c ∈ t.calls, CllW c) ∧ (0 ≤ t.number ∧ t.number ≤ 20000) ∧ t.days = [0]) : TrW ts :=
  ⟨hl, Nat.le_trans (manyC_leW fun t m => (h t m).1) (by omega), fun t m c mc => ((h t m).2.1 c mc).1, fun t m c mc => ((h t m).2.1 c mc).2, fun t m => (h t m).2.2.1, fun t m => (h t m).2.2.2⟩
theorem all_1 {α : Type} {P : α → Prop} {a : α} (h : P a) : ∀ x ∈ [a], P x := fun x m => by rw [List.mem_singleton.mp m]; exact h
theorem all_2 {α : Type} {P : α → Prop} {a b : α} (h : P a) (g : P b) : ∀ x ∈ [a, b], P x := fun x m => by
  simp only [List.mem_cons, List.not_mem_nil, or_false] at m
  rcases m with rfl | rfl <;> assumption
theorem cllW_a {i : Int} (h0 : 0 ≤ i) (h1 : i ≤ 3000) : CllW ("a", i) := ⟨word_a, h0, h1⟩
theorem cllW_b {i : Int} (h0 : 0 ≤ i) (h1 : i ≤ 3000) : CllW ("b", i) := ⟨word_b, h0, h1⟩
/-- a beginning of a text -/
theorem word_cut {x : Str} (h : wordS x = true) (n : Int) : wordS (cutS x none (some n)) = true ∧ (cutS x none (some n)).cps.size ≤ x.cps.size := by
  refine ⟨?_, ?_⟩
  · refine List.all_eq_true.mpr fun c m => ?_
    have m : c ∈ (cutS x none (some n)).cps.toList := m
    unfold cutS at m
    rw [List.toList_toArray] at m
    exact List.all_eq_true.mp h c (List.mem_of_mem_drop (List.mem_of_mem_take m))
  · unfold cutS
    simp
    omega
theorem t_slStr {z : Str} {lo hi : Option Int} {Q : Rv → Prop} (h : z.length ≤ sizeLine) (q : Q (.cl (.str (cutS z lo hi)))) : oSl (.cl (.str z)) lo hi Q := ⟨h, q⟩
theorem t_repT {d : PD} {k : Int} {Q : Rv → Prop} (h0 : 1 ≤ k) (h1 : k ≤ 1000) (q : Q (.cl (.tuple (List.replicate k.toNat d)))) : oMulW (.cl (.tuple [d])) (.cl (.int k)) Q := by
  refine ⟨by simp, h0, h1, by simp, ?_⟩
  have e : ∀ n : Nat, (List.replicate n [d]).flatten = List.replicate n d := fun n => by
    induction n with
    | zero => rfl
    | succ n ih => rw [List.replicate_succ, List.flatten_cons, ih]; rfl
  rw [e]
  exact q
theorem sm_int (i : Int) : smB (.int i) = true := by unfold smB; rfl
theorem sm_app {a b : List PD} (ha : smB (.tuple a) = true) (hb : smB (.tuple b) = true) (hl : a.length + b.length ≤ 20000) : smB (.tuple (a ++ b)) = true := sm_of_tup (by rw [List.length_append]; exact hl) fun d m => (List.mem_append.mp m).elim ((sm_tup ha).2 d) ((sm_tup hb).2 d)
theorem sm_cut {a : List PD} (ha : smB (.tuple a) = true) (lo hi : Option Int) : smB (.tuple (cut a lo hi)) = true := sm_of_tup (Nat.le_trans cut_len (sm_tup ha).1) fun d m => (sm_tup ha).2 d (cut_mem m)
theorem sm_3 {a b c : PD} (h1 : smB a = true) (h2 : smB b = true) (h3 : smB c = true) : smB (.tuple [a, b, c]) = true := sm_of_tup (by simp) fun x m => by
  simp only [List.mem_cons, List.not_mem_nil, or_false] at m
  rcases m with rfl | rfl | rfl <;> assumption
theorem sm_3l {a b c : PD} (h1 : smB a = true) (h2 : smB b = true) (h3 : smB c = true) : smB (.list [a, b, c]) = true := by
  unfold smB smAll smAll smAll smAll
  rw [h1, h2, h3]; rfl
def oddL (n : Int) (ds : PD) (cs : List PD) : List PD := [.none, .tuple [], .tuple [.int 0, ds, .tuple cs], .tuple [.int n, .tuple [], .tuple cs], .tuple [.int n, ds, .tuple []], .tuple [.int n, ds, .tuple (cs ++ cut cs (some (-1)) none)],
  .tuple [.int n, ds, .tuple ([.none] ++ cs)], .list [.int n, ds, .tuple cs]]
theorem oddL_ok {n : Int} {ds : PD} {cs : List PD} (h1 : smB ds = true) (h2 : smB (.tuple cs) = true) (hl : cs.length ≤ 5000) : ∀ d ∈ oddL n ds cs, smB d = true := fun d m => by
  have sn := sm_int n
  have s0 : smB (.tuple []) = true := by decide +kernel
  have c1 := cut_len (xs := cs) (lo := some (-1)) (hi := none)
  simp only [oddL, List.mem_cons, List.not_mem_nil, or_false] at m
  rcases m with rfl | rfl | rfl | rfl | rfl | rfl | rfl | rfl
  · decide +kernel
  · exact s0
  · exact sm_3 (sm_int 0) h1 h2
  · exact sm_3 sn s0 h2
  · exact sm_3 sn h1 s0
  · exact sm_3 sn h1 (sm_app h2 (sm_cut h2 _ _) (by omega))
  · exact sm_3 sn h1 (sm_app (a := [.none]) (by decide +kernel) h2 (by simp; omega))
  · exact sm_3l sn h1 h2
end Rz
namespace K03
open PySem PySem.Spec PyProof.Rows L2 Rz
def topS (i : Nat) : Stmt := PySem.Challenge.pw_risingsheets_k03_bounds_of_plans.main.body.getD i (.Pass ⟨0, 0, 0, 0⟩)
section
variable {prog : Program} {w : World} {K : PySem.W.Frag} {mg : Str → Option Value} {base : Heap}
abbrev s_is_between : Stmt := topS 9
theorem sc_is_between : FnScope ["value", "low", "high"] ["value", "low", "high"] (defScope s_is_between) := ⟨rfl, rfl, rfl, by decide +kernel, rfl, by decide +kernel, by decide +kernel⟩
abbrev ct_is_between : Ct := ctBet
theorem ok_is_between {f : Addr} {fd : FuncData} {k : Nat} (F : Fun K "is_between" "is_between" s_is_between f fd) (m_isinstance : mg "isinstance" = none) (m_bool : mg "bool" = none) (m_int : mg "int" = none) : FnG prog w K mg base CX0 (k + 1) f fd ["value", "low", "high"] (spOf (PaW w K) ct_is_between) :=
  fnA F sc_is_between (fun cdv A out s H E P ee C R pn hr =>
    (js_cons (js_ret (je_and (je_isi (T := "int") C (by decide) rfl rfl m_isinstance rfl m_int (by decide +kernel) rfl (by decide) (V_ 0) (by rfl) (by rfl)) (je_and (je_notV (je_isi (T := "bool") C (by decide) rfl rfl m_isinstance rfl m_bool (by decide +kernel) rfl (by decide) (V_ 0) (by rfl) (by rfl))) (je_one (je_chain (V_ 1) (V_ 0) (V_ 2) (by rfl))))))
      js_nil))
    (fun _ => rfl) (fun a Q h1 h2 => by
    obtain ⟨v, lo, hi⟩ := a
    have h2 : Q (.cl (.bool (isBet v lo hi))) := h2
    cases v with
    | int i =>
      have h2 : Q (.cl (.bool (decide (lo ≤ i) && decide (i ≤ hi)))) := h2
      refine ⟨_, rfl, rfl, t_isB (t_iteT rfl ⟨_, rfl, rfl, _, rfl, t_isB (t_iteT rfl ⟨_, rfl, _, rfl, _, rfl, t_ite (fun k => ⟨_, rfl, _, rfl, ?_⟩) fun k => ?_⟩)⟩)⟩
      · rw [k, Bool.true_and] at h2; exact h2
      · rw [k, Bool.false_and] at h2; exact h2
    | bool b => exact ⟨_, rfl, rfl, t_isB (t_iteT rfl ⟨_, rfl, rfl, _, rfl, t_isB (t_iteF rfl h2)⟩)⟩
    | _ => exact ⟨_, rfl, rfl, t_isB (t_iteF rfl h2)⟩)
abbrev s_is_tuple_of : Stmt := topS 10
theorem sc_is_tuple_of : FnScope ["value", "many"] ["value", "many"] (defScope s_is_tuple_of) := ⟨rfl, rfl, rfl, by decide +kernel, rfl, by decide +kernel, by decide +kernel⟩
abbrev ct_is_tuple_of : Ct := ctTupN
theorem ok_is_tuple_of {f : Addr} {fd : FuncData} {k : Nat} (F : Fun K "is_tuple_of" "is_tuple_of" s_is_tuple_of f fd) (m_len : mg "len" = none) (m_isinstance : mg "isinstance" = none) (m_tuple : mg "tuple" = none) : FnG prog w K mg base CX0 (k + 1) f fd ["value", "many"] (spOf (PaW w K) ct_is_tuple_of) :=
  fnA F sc_is_tuple_of (fun cdv A out s H E P ee C R pn hr =>
    (js_cons (js_ret (je_and (je_isi (T := "tuple") C (by decide) rfl rfl m_isinstance rfl m_tuple (by decide +kernel) rfl (by decide) (V_ 0) (by rfl) (by rfl)) (je_one (cmp_ (dop_eq C) (len_ C m_len (a1 (V_ 0) a0)) (V_ 1)))))
      js_nil))
    (fun _ => rfl) (fun a Q h1 h2 => by
    obtain ⟨v, n⟩ := a
    have h2 : Q (.cl (.bool (isTupN v n))) := h2
    cases v with
    | tuple ds => exact ⟨_, rfl, rfl, t_isB (t_iteT rfl ⟨_, rfl, _, rfl, t_len rfl rfl ⟨_, rfl, rfl, rfl, ⟨rfl, rfl⟩, by rw [show PyData.eqv (Rv.cl (PyData.int ds.length)).val (Rv.cl (PyData.int n)).val = ((ds.length : Int) == n) from eqvI]; exact h2⟩⟩)⟩
    | _ => exact ⟨_, rfl, rfl, t_isB (t_iteF rfl h2)⟩)
abbrev s_is_name : Stmt := topS 11
theorem sc_is_name : FnScope ["value", "sign"] ["value"] (defScope s_is_name) := ⟨rfl, rfl, rfl, by decide +kernel, rfl, by decide +kernel, by decide +kernel⟩
abbrev ct_is_name : Ct := ctName
theorem ok_is_name {f : Addr} {fd : FuncData} {k : Nat} (F : Fun K "is_name" "is_name" s_is_name f fd) (m_all : mg "all" = none) {t_LETTERS : Tok} (g_LETTERS : mg "LETTERS" = some (.str "abcdefghijklmnopqrstuvwxyz" t_LETTERS)) (m_len : mg "len" = none) {t_MAX_NAME : Tok} (g_MAX_NAME : mg "MAX_NAME" = some (.int 12 t_MAX_NAME)) (m_isinstance : mg "isinstance" = none) (m_str : mg "str" = none) : FnG prog w K mg base CX0 (k + 1) f fd ["value"] (spOf (PaW w K) ct_is_name) :=
  fnA F sc_is_name (fun cdv A out s H E P ee C R pn hr =>
    (js_cons (js_if (jt_w (jw_or (jt_not (truth_ C (je_isi (T := "str") C (by decide) rfl rfl m_isinstance rfl m_str (by decide +kernel) rfl (by decide) (V_ 0) (by rfl) (by rfl)))) (jw_or1 (jt_not (jt_chain je_int (len_ C m_len (a1 (V_ 0) a0)) (G_ (v := .int 12) g_MAX_NAME ⟨_, rfl⟩ (fun _ => .int _)) (by rfl)))))) (js_cons (js_ret je_bl)
      js_nil) js_nil)
      (js_cons (js_ret (all_ C m_all (a1 (lc_ C [("sign", 1)] (it_ C (V_ 0)) (fun s H A cl fp => (n_ C.blk 1)) (fun s H A cl fp => jts_nil) (fun s H A cl fp => (cmp_ (dop_inX C.blk) (V_ 1) (G_ (v := .str "abcdefghijklmnopqrstuvwxyz") g_LETTERS ⟨_, rfl⟩ (fun _ => .str _))))) a0)))
      js_nil)))
    (fun _ => rfl) (fun v Q h1 h2 => by
    have h1 : smB v = true := h1
    have h2 : Q (.cl (.bool (isNm v))) := h2
    cases v with
    | str x =>
      have hx := sm_str h1
      have hl : x.cps.toList.length ≤ 20000 := by rw [Array.length_toList]; exact hx
      have h2 : Q (.cl (.bool (decide (1 ≤ x.length) && decide (x.length ≤ 12) && x.cps.toList.all lowB))) := h2
      have no : ¬ (1 ≤ x.length ∧ x.length ≤ 12) → Q (.cl (.bool false)) := fun h => by
        have e : (decide (1 ≤ x.length) && decide (x.length ≤ 12)) = false := by
          rw [← Bool.decide_and]; exact decide_eq_false h
        rw [e] at h2; exact h2
      refine ⟨_, rfl, rfl, rfl, trivial, t_iteF rfl ⟨_, rfl, _, rfl, t_lenS rfl rfl (sz_of (by omega)) ⟨_, rfl, t_ite (fun k => ⟨_, rfl, t_ite (fun k2 => no fun h => ?_) fun k2 => ?_⟩) fun k => t_iteT rfl (no fun h => ?_)⟩⟩⟩
      · have k2 : (!decide ((x.length : Int) ≤ 12)) = true := k2
        rw [Bool.not_eq_true', decide_eq_false_iff_not] at k2
        omega
      · have k2 : (!decide ((x.length : Int) ≤ 12)) = false := k2
        rw [Bool.not_eq_false', decide_eq_true_iff] at k2
        have k := of_decide_eq_true k
        have e : (decide (1 ≤ x.length) && decide (x.length ≤ 12)) = true := by
          rw [← Bool.decide_and]; exact decide_eq_true ⟨by omega, by omega⟩
        rw [e, Bool.true_and] at h2
        refine ⟨_, rfl, rfl, lcD_all (enc := fun c => PyData.str ⟨#[c]⟩) (fun c => .bool (lowB c)) x.cps.toList (sz_of (by omega)) ?_ fun c m => ⟨_, bind_nm rfl, fun M R hM => t_iteT rfl ⟨_, rfl, t_inS rfl rfl rfl (in_low c) hM⟩⟩⟩
        rw [mkC_cl2 (bools_imm _)]
        refine ⟨_, rfl, _, x.cps.toList.map lowB, rfl, ?_, ?_⟩
        · rw [vals_lf]; exact bools_of _
        · have e : (x.cps.toList.map lowB).all id = x.cps.toList.all lowB := by rw [List.all_map]; rfl
          rw [e]; exact h2
      · have k := of_decide_eq_false k
        omega
    | _ => exact ⟨_, rfl, rfl, rfl, trivial, t_iteT rfl (t_iteT rfl h2)⟩)
abbrev s_is_number : Stmt := topS 12
theorem sc_is_number : FnScope ["value"] ["value"] (defScope s_is_number) := ⟨rfl, rfl, rfl, by decide +kernel, rfl, by decide +kernel, by decide +kernel⟩
abbrev ct_is_number : Ct := ctNumber
theorem ok_is_number {f : Addr} {fd : FuncData} {k : Nat} (F : Fun K "is_number" "is_number" s_is_number f fd) (F_is_between : CallOk prog w K mg base (PaW w K) k "is_between" ["value", "low", "high"] ct_is_between) {t_MAX_NUMBER : Tok} (g_MAX_NUMBER : mg "MAX_NUMBER" = some (.int 9999 t_MAX_NUMBER)) : FnG prog w K mg base CX0 (k + 1) f fd ["value"] (spOf (PaW w K) ct_is_number) :=
  fnA F sc_is_number (fun cdv A out s H E P ee C R pn hr =>
    (js_cons (js_ret (call_ C F_is_between hr (a1 (V_ 0) (a1 je_int (a1 (G_ (v := .int 9999) g_MAX_NUMBER ⟨_, rfl⟩ (fun _ => .int _)) a0)))))
      js_nil))
    (fun _ => rfl) (fun v Q h1 h2 => ⟨_, rfl, cd_bet h2⟩)
abbrev s_are_days : Stmt := topS 13
theorem sc_are_days : FnScope ["value", "length", "place", "day"] ["value", "length"] (defScope s_are_days) := ⟨rfl, rfl, rfl, by decide +kernel, rfl, by decide +kernel, by decide +kernel⟩
abbrev ct_are_days : Ct := ctDays
theorem ok_are_days {f : Addr} {fd : FuncData} {k : Nat} (F : Fun K "are_days" "are_days" s_are_days f fd) (m_enumerate : mg "enumerate" = none) (F_is_between : CallOk prog w K mg base (PaW w K) k "is_between" ["value", "low", "high"] ct_is_between) (m_isinstance : mg "isinstance" = none) (m_tuple : mg "tuple" = none) : FnG prog w K mg base CX0 (k + 1) f fd ["value", "length"] (spOf (PaW w K) ct_are_days) :=
  fnA F sc_are_days (fun cdv A out s H E P ee C R pn hr =>
    (js_cons (js_if (jt_not (truth_ C (je_isi (T := "tuple") C (by decide) rfl rfl m_isinstance rfl m_tuple (by decide +kernel) rfl (by decide) (V_ 0) (by rfl) (by rfl)))) (js_cons (js_ret je_bl)
      js_nil) js_nil)
      (jss_frz 0 (js_cons (for_ C (fun j _ => pn j) (enum_ C m_enumerate (a1 (V_ 0) a0)) (tp_ C (g1 (n_ C 2) (g1 (n_ C 3) g0))) (js_cons (js_if (jt_w (jw_or (jt_not (truth_ C (call_ C F_is_between hr (a1 (V_ 3) (a1 je_int (a1 (je_bin (dop_sub) (V_ 1) je_int) a0)))))) (jw_or1 (jt_w (jw_and (tcmp_ (dop_cmp _) (V_ 2) je_int) (jw_and1 (tcmp_ (dop_cmp _) (V_ 3) (ix_ C (V_ 0) (je_bin (dop_sub) (V_ 2) je_int))))))))) (js_cons (js_ret je_bl)
      js_nil) js_nil)
      js_nil))
      (js_cons (js_ret je_bl)
      js_nil)))))
    (fun _ => rfl) (fun a Q h1 h2 => by
    obtain ⟨v, n⟩ := a
    have h2 : Q (.cl (.bool (areDays v n))) := h2
    cases v with
    | tuple ds =>
      have h2 : Q (.cl (.bool (daysOk n none ds))) := h2
      refine ⟨_, rfl, rfl, rfl, trivial, t_iteF rfl ⟨_, rfl, .inl ⟨_, rfl, _, _, rfl, rfl, forT_enumP ds (fun done ρ => ∃ s2 s3 : SV, ρ = [.sh (.tuple ds), .sh (.int n), s2, s3] ∧ freeAt [2, 3] ρ ∧ ∀ rest, ds = done ++ rest → (∃ p, daysOk n none ds = daysOk n p rest ∧ ((done = [] ∧ p = none) ∨ ∃ pre i, done = pre ++ [.int i] ∧ p = some i))) (fun ρ h => ?_) (fun done d rest ρ N e h k => ?_) _ ⟨_, _, rfl, fun i hi => ?_, fun rest e => ⟨none, by rw [e]; rfl, .inl ⟨rfl, rfl⟩⟩⟩⟩⟩⟩
      · obtain ⟨s2, s3, rfl, hf, hr⟩ := h
        obtain ⟨p, ep, _⟩ := hr [] (List.append_nil _).symm
        rw [ep] at h2
        exact h2
      · obtain ⟨s2, s3, rfl, hf, hr⟩ := h
        obtain ⟨p, ep, hp⟩ := hr _ e
        have bad : daysOk n p (d :: rest) = false → Q (.cl (.bool false)) := fun z => by rw [ep, z] at h2; exact h2
        refine ⟨_, bind_2 (hf 2 (by simp)) (hf 3 (by simp)), ?_⟩
        refine ⟨_, rfl, _, rfl, _, _, rfl, rfl, cd_bet ⟨rfl, trivial, t_ite (fun k1 => t_iteT rfl (bad ?_)) fun k1 => ?_⟩⟩
        · have k1 : (!isBet d 0 (n - 1)) = true := k1
          rw [Bool.not_eq_true'] at k1
          unfold daysOk
          rw [k1]; simp
        · have k1 : (!isBet d 0 (n - 1)) = false := k1
          rw [Bool.not_eq_false'] at k1
          obtain ⟨j, rfl, j0, j1⟩ := isBet_int k1
          have go : (p = none ∨ ∃ i, p = some i ∧ i < j) → daysOk n p (.int j :: rest) = daysOk n (some j) rest := fun h => by
            rcases h with rfl | ⟨i, rfl, h⟩
            · show (isBet (.int j) 0 (n - 1) && true && daysOk n (some j) rest) = _
              rw [k1]; simp
            · show (isBet (.int j) 0 (n - 1) && decide (i < j) && daysOk n (some j) rest) = _
              rw [k1, decide_eq_true h]; simp
          have next : (p = none ∨ ∃ i, p = some i ∧ i < j) → N [.sh (.tuple ds), .sh (.int n), .sh (.int (done.length : Int)), .sh (.int j)] := fun h => k _ ⟨_, _, rfl, fun i hi => by
            simp only [List.mem_cons, List.not_mem_nil, or_false] at hi
            rcases hi with rfl | rfl <;> rfl, fun rest' e' => ⟨some j, by
            have : rest' = rest := by
              have z := e.symm.trans e'
              rw [List.append_assoc] at z
              have z := List.append_cancel_left z
              exact (List.cons.inj z).2.symm
            rw [this, ep, go h], .inr ⟨done, j, rfl, rfl⟩⟩⟩
          rcases hp with ⟨rfl, rfl⟩ | ⟨pre, i, rfl, rfl⟩
          · exact ⟨_, rfl, _, rfl, t_isB (t_iteF rfl (t_iteF rfl (next (.inl rfl))))⟩
          · have ed : ds = pre ++ .int i :: (.int j :: rest) := by rw [e, List.append_assoc]; rfl
            have ea : atI ds ((((pre ++ [PyData.int i]).length : Nat) : Int) - 1) = some (.int i) := by
              have e1 : ((((pre ++ [PyData.int i]).length : Nat) : Int) - 1) = (pre.length : Int) := by rw [List.length_append, List.length_singleton]; omega
              rw [e1]
              exact atI_nat (by rw [ed]; simp)
            have l0 : decide ((0 : Int) < (((pre ++ [PyData.int i]).length : Nat) : Int)) = true := decide_eq_true (by rw [List.length_append, List.length_singleton]; omega)
            refine ⟨_, rfl, _, rfl, t_isB (t_iteT l0 ⟨_, rfl, _, rfl, _, rfl, _, _, rfl, rfl, t_ixF rfl rfl rfl ea ⟨_, rfl, t_isB (t_ite (fun k3 => bad ?_) fun k3 => next (.inr ⟨i, rfl, ?_⟩))⟩⟩)⟩
            · have k3 : decide (j ≤ i) = true := k3
              rw [decide_eq_true_iff] at k3
              show (isBet (.int j) 0 (n - 1) && decide (i < j) && _) = false
              rw [decide_eq_false (by omega)]; simp
            · have k3 : decide (j ≤ i) = false := k3
              rw [decide_eq_false_iff_not] at k3
              omega
      · simp only [List.mem_cons, List.not_mem_nil, or_false] at hi
        rcases hi with rfl | rfl <;> rfl
    | _ => exact ⟨_, rfl, rfl, rfl, trivial, t_iteT rfl h2⟩)
abbrev s_is_calendar : Stmt := topS 14
theorem sc_is_calendar : FnScope ["value"] ["value"] (defScope s_is_calendar) := ⟨rfl, rfl, rfl, by decide +kernel, rfl, by decide +kernel, by decide +kernel⟩
abbrev ct_is_calendar : Ct := ctCal
theorem ok_is_calendar {f : Addr} {fd : FuncData} {k : Nat} (F : Fun K "is_calendar" "is_calendar" s_is_calendar f fd) (F_are_days : CallOk prog w K mg base (PaW w K) k "are_days" ["value", "length"] ct_are_days) (F_is_between : CallOk prog w K mg base (PaW w K) k "is_between" ["value", "low", "high"] ct_is_between) {t_MAX_SPAN : Tok} (g_MAX_SPAN : mg "MAX_SPAN" = some (.int 400 t_MAX_SPAN)) (F_is_tuple_of : CallOk prog w K mg base (PaW w K) k "is_tuple_of" ["value", "many"] ct_is_tuple_of) : FnG prog w K mg base CX0 (k + 1) f fd ["value"] (spOf (PaW w K) ct_is_calendar) :=
  fnA F sc_is_calendar (fun cdv A out s H E P ee C R pn hr =>
    (js_cons (js_if (jt_w (jw_or (jt_not (truth_ C (call_ C F_is_tuple_of hr (a1 (V_ 0) (a1 je_int a0))))) (jw_or (jt_not (truth_ C (call_ C F_is_between hr (a1 (ix_ C (V_ 0) je_int) (a1 je_int (a1 je_int a0)))))) (jw_or1 (jt_not (truth_ C (call_ C F_is_between hr (a1 (ix_ C (V_ 0) je_int) (a1 je_int (a1 (G_ (v := .int 400) g_MAX_SPAN ⟨_, rfl⟩ (fun _ => .int _)) a0)))))))))) (js_cons (js_ret je_bl)
      js_nil) js_nil)
      (js_cons (js_ret (call_ C F_are_days hr (a1 (ix_ C (V_ 0) je_int) (a1 (ix_ C (V_ 0) je_int) a0))))
      js_nil)))
    (fun _ => rfl) (fun v Q h1 h2 => by
    have h2 : Q (.cl (.bool (isCal v))) := h2
    refine ⟨_, rfl, cd_tupN ⟨rfl, trivial, t_ite (fun k => t_iteT rfl ?_) fun k => ?_⟩⟩
    · have k : (!isTupN v 3) = true := k
      rw [Bool.not_eq_true'] at k
      have e : isCal v = false := by
        unfold isCal
        split
        · cases k
        · rfl
      rw [e] at h2
      exact h2
    · have k : (!isTupN v 3) = false := k
      rw [Bool.not_eq_false'] at k
      obtain ⟨a, b, c, rfl⟩ := isTup3 k
      refine ⟨_, rfl, t_ixF rfl rfl rfl atI_0 (cd_bet ⟨rfl, trivial, t_ite (fun k2 => t_iteT rfl ?_) fun k2 => ?_⟩)⟩
      · have k2 : (!isBet a 0 6) = true := k2
        rw [Bool.not_eq_true'] at k2
        have e : isCal (.tuple [a, b, c]) = false := by
          unfold isCal
          split
          · rename_i e; cases e; rw [k2]; rfl
          · rfl
        rw [e] at h2
        exact h2
      · have k2 : (!isBet a 0 6) = false := k2
        rw [Bool.not_eq_false'] at k2
        refine ⟨_, rfl, t_ixF rfl rfl rfl atI_1 (cd_bet ⟨rfl, trivial, t_ite (fun k3 => ?_) fun k3 => ?_⟩)⟩
        · have k3 : (!isBet b 1 400) = true := k3
          rw [Bool.not_eq_true'] at k3
          have e : isCal (.tuple [a, b, c]) = false := by
            unfold isCal
            split
            · rename_i e; cases e; rw [k3]; simp
            · rfl
          rw [e] at h2
          exact h2
        · have k3 : (!isBet b 1 400) = false := k3
          rw [Bool.not_eq_false'] at k3
          obtain ⟨n, rfl, _, _⟩ := isBet_int k3
          have h2 : Q (.cl (.bool (isBet a 0 6 && isBet (.int n) 1 400 && areDays c n))) := h2
          rw [k2, k3, Bool.true_and] at h2
          exact ⟨_, rfl, t_ixF rfl rfl rfl atI_2 ⟨_, rfl, t_ixF rfl rfl rfl atI_1 (cd_days h2)⟩⟩)
abbrev s_is_call : Stmt := topS 15
theorem sc_is_call : FnScope ["value"] ["value"] (defScope s_is_call) := ⟨rfl, rfl, rfl, by decide +kernel, rfl, by decide +kernel, by decide +kernel⟩
abbrev ct_is_call : Ct := ctCl
theorem ok_is_call {f : Addr} {fd : FuncData} {k : Nat} (F : Fun K "is_call" "is_call" s_is_call f fd) (F_is_between : CallOk prog w K mg base (PaW w K) k "is_between" ["value", "low", "high"] ct_is_between) {t_MAX_MINUTE : Tok} (g_MAX_MINUTE : mg "MAX_MINUTE" = some (.int 2879 t_MAX_MINUTE)) (F_is_name : CallOk prog w K mg base (PaW w K) k "is_name" ["value"] ct_is_name) (F_is_tuple_of : CallOk prog w K mg base (PaW w K) k "is_tuple_of" ["value", "many"] ct_is_tuple_of) : FnG prog w K mg base CX0 (k + 1) f fd ["value"] (spOf (PaW w K) ct_is_call) :=
  fnA F sc_is_call (fun cdv A out s H E P ee C R pn hr =>
    (js_cons (js_ret (je_and (call_ C F_is_tuple_of hr (a1 (V_ 0) (a1 je_int a0))) (je_and (call_ C F_is_name hr (a1 (ix_ C (V_ 0) je_int) a0)) (je_one (call_ C F_is_between hr (a1 (ix_ C (V_ 0) je_int) (a1 je_int (a1 (G_ (v := .int 2879) g_MAX_MINUTE ⟨_, rfl⟩ (fun _ => .int _)) a0))))))))
      js_nil))
    (fun _ => rfl) (fun v Q h1 h2 => by
    have h1 : smB v = true := h1
    have h2 : Q (.cl (.bool (isCl v))) := h2
    refine ⟨_, rfl, cd_tupN (t_isB (t_ite (fun k => ?_) fun k => ?_))⟩
    · obtain ⟨a, b, rfl⟩ := isTup2 k
      have sm := (sm_tup h1).2
      have h2 : Q (.cl (.bool (isNm a && isBet b 0 2879))) := h2
      refine ⟨_, rfl, t_ixF rfl rfl rfl atI_0 (cd_name (sm a List.mem_cons_self) (t_isB (t_ite (fun k2 => ?_) fun k2 => ?_)))⟩
      · rw [k2, Bool.true_and] at h2
        exact ⟨_, rfl, t_ixF rfl rfl rfl atI_1 (cd_bet h2)⟩
      · rw [k2, Bool.false_and] at h2
        exact h2
    · have e : isCl v = false := by
        unfold isCl
        split
        · rename_i a b; cases k
        · rfl
      rw [e] at h2
      exact h2)
abbrev s_calls_error : Stmt := topS 16
theorem sc_calls_error : FnScope ["value", "place", "further", "call"] ["value", "place"] (defScope s_calls_error) := ⟨rfl, rfl, rfl, by decide +kernel, rfl, by decide +kernel, by decide +kernel⟩
abbrev ct_calls_error : Ct := ctCallsE
theorem ok_calls_error {f : Addr} {fd : FuncData} {k : Nat} (F : Fun K "calls_error" "calls_error" s_calls_error f fd) (m_range : mg "range" = none) (m_len : mg "len" = none) (m_enumerate : mg "enumerate" = none) (F_is_call : CallOk prog w K mg base (PaW w K) k "is_call" ["value"] ct_is_call) (m_isinstance : mg "isinstance" = none) (m_tuple : mg "tuple" = none) : FnG prog w K mg base CX0 (k + 1) f fd ["value", "place"] (spOf (PaW w K) ct_calls_error) :=
  fnA F sc_calls_error (fun cdv A out s H E P ee C R pn hr =>
    (js_cons (js_if (jt_w (jw_or (jt_not (truth_ C (je_isi (T := "tuple") C (by decide) rfl rfl m_isinstance rfl m_tuple (by decide +kernel) rfl (by decide) (V_ 0) (by rfl) (by rfl)))) (jw_or1 (tcmp_ (dop_eqE C) (V_ 0) (je_tup a0))))) (js_cons (js_ret (je_tup (a1 je_str (a1 (V_ 1) a0))))
      js_nil) js_nil)
      (jss_frz 0 (js_cons (for_ C (fun j _ => pn j) (enum_ C m_enumerate (a1 (V_ 0) a0)) (tp_ C (g1 (n_ C 2) (g1 (n_ C 3) g0))) (js_cons (js_if (jt_not (truth_ C (call_ C F_is_call hr (a1 (V_ 3) a0)))) (js_cons (js_ret (je_tup (a1 je_str (a1 (V_ 1) (a1 (V_ 2) a0)))))
      js_nil) js_nil)
      js_nil))
      (jss_frz 0 (js_cons (for_ C (fun j _ => pn j) (rng2_ m_range (a1 je_int (a1 (len_ C m_len (a1 (V_ 0) a0)) a0))) (n_ C 2) (js_cons (js_if (tcmp_ (dop_cmp _) (ix_ C (ix_ C (V_ 0) (V_ 2)) je_int) (ix_ C (ix_ C (V_ 0) (je_bin (dop_sub) (V_ 2) je_int)) je_int)) (js_cons (js_ret (je_tup (a1 je_str (a1 (V_ 1) (a1 (V_ 2) a0)))))
      js_nil) js_nil)
      js_nil))
      (js_cons (js_ret je_non)
      js_nil)))))))
    (fun _ => rfl) (fun a Q h1 h2 => by
    obtain ⟨v, k⟩ := a
    have h1 : smB v = true := h1
    have h2 : Q (.cl (callsErr v k)) := h2
    cases v with
    | tuple ds =>
      cases ds with
      | nil => exact ⟨_, rfl, rfl, rfl, trivial, t_iteF rfl ⟨_, rfl, rfl, sz_c rfl, rfl, rfl, rfl, t_isB (t_iteT rfl ⟨_, rfl, rfl, sz_c rfl, h2⟩)⟩⟩
      | cons d0 ds0 =>
        obtain ⟨sl, sm⟩ := sm_tup h1
        have h2 : Q (.cl (match callE k 0 (d0 :: ds0) with
          | some e => e
          | none => (riseE k 1 (minD d0) ds0).getD .none)) := h2
        have hc : callE k 0 (d0 :: ds0) = none → Q (.cl ((riseE k 1 (minD d0) ds0).getD .none)) := fun e => by
          rw [e] at h2
          exact h2
        have hb : ∀ x, callE k 0 (d0 :: ds0) = some x → Q (.cl x) := fun x e => by
          rw [e] at h2
          exact h2
        refine ⟨_, rfl, rfl, rfl, trivial, t_iteF rfl ⟨_, rfl, rfl, sz_c rfl, rfl, rfl, rfl, t_isB (t_iteF rfl ?_)⟩⟩
        refine ⟨_, rfl, .inl ⟨_, rfl, _, _, rfl, rfl, forT_enumP (d0 :: ds0) (fun done ρ => ∃ s2 s3 : SV, ρ = [.sh (.tuple (d0 :: ds0)), .sh (.int k), s2, s3] ∧ freeAt [2, 3] ρ ∧ ∀ d ∈ done, isCl d = true) (fun ρ h => ?_) (fun done d rest ρ N e h kk => ?_) _ ⟨_, _, rfl, fun i hi => ?_, fun _ m => nomatch m⟩⟩⟩
        · obtain ⟨s2, s3, rfl, hf, hd⟩ := h
          have hc := hc (by
            have z := callE_skip (k := k) (d0 :: ds0) [] 0 hd
            rw [List.append_nil] at z
            rw [z]; rfl)
          have ln : (((d0 :: ds0).length : Int) - 1).toNat = ds0.length := by rw [List.length_cons]; omega
          have l20 : ds0.length < 20000 := by rw [List.length_cons] at sl; omega
          refine ⟨_, rfl, _, rfl, t_len (ds := d0 :: ds0) rfl rfl ⟨_, _, _, _, rfl, rfl, rfl, ⟨by decide, by decide⟩, smallI_of (by rw [List.length_cons]; omega) (by rw [List.length_cons]; omega), ?_⟩⟩
          rw [ln]
          refine ⟨rfl, forT_range ds0.length (fun j ρ => ∃ s2 s3 : SV, ρ = [.sh (.tuple (d0 :: ds0)), .sh (.int k), s2, s3] ∧ freeAt [2, 3] ρ ∧ ∃ x r, (d0 :: ds0).drop j = x :: r ∧ riseE k 1 (minD d0) ds0 = riseE k (j + 1) (minD x) r) (fun ρ h => ?_) (fun j ρ N hj h kk => ?_) _ ⟨s2, s3, rfl, hf, d0, ds0, rfl, rfl⟩⟩
          · obtain ⟨s2, s3, rfl, hf, x, r, er, ee⟩ := h
            have lr := congrArg List.length er
            rw [List.length_drop, List.length_cons, List.length_cons] at lr
            have : r = [] := List.eq_nil_of_length_eq_zero (by omega)
            subst this
            rw [ee] at hc
            exact hc
          · obtain ⟨s2, s3, rfl, hf, x, r, er, ee⟩ := h
            have lr := congrArg List.length er
            rw [List.length_drop, List.length_cons, List.length_cons] at lr
            cases r with
            | nil => rw [List.length_nil] at lr; omega
            | cons y r =>
              have ex : (d0 :: ds0)[j]? = some x := by rw [← List.head?_drop, er]; rfl
              have er2 : (d0 :: ds0).drop (j + 1) = y :: r := by rw [← List.drop_drop, er]; rfl
              have ey : (d0 :: ds0)[j + 1]? = some y := by rw [← List.head?_drop, er2]; rfl
              obtain ⟨nx, mx, rfl, _, _, _⟩ := isCl_two (hd x (List.mem_of_getElem? ex))
              obtain ⟨ny, my, rfl, _, _, _⟩ := isCl_two (hd y (List.mem_of_getElem? ey))
              have ax : atI (d0 :: ds0) (1 + (j : Int) - 1) = some (.tuple [.str nx, .int mx]) := by
                rw [show (1 + (j : Int) - 1) = (j : Int) by omega]; exact atI_nat ex
              have ay : atI (d0 :: ds0) (1 + (j : Int)) = some (.tuple [.str ny, .int my]) := by
                rw [show (1 + (j : Int)) = ((j + 1 : Nat) : Int) by omega]; exact atI_nat ey
              refine ⟨_, bind_nm (hf 2 (by simp)), ?_⟩
              refine ⟨_, rfl, _, rfl, t_ixF rfl rfl rfl ay (t_ixF rfl rfl rfl atI_1 ⟨_, rfl, _, rfl, _, _, rfl, rfl, t_ixF rfl rfl rfl ax (t_ixF rfl rfl rfl atI_1 ⟨_, rfl, t_isB (t_ite (fun k3 => ?_) fun k3 => ?_)⟩)⟩)⟩
              · have k3 : decide (my ≤ mx) = true := k3
                refine ⟨_, rfl, _, rfl, rfl, sz_c rfl, ?_⟩
                rw [ee] at hc
                unfold riseE at hc
                rw [if_pos (show decide (minD (.tuple [.str ny, .int my]) ≤ minD (.tuple [.str nx, .int mx])) = true from k3)] at hc
                rw [show ((j + 1 : Nat) : Int) = 1 + (j : Int) by omega] at hc
                exact hc
              · have k3 : decide (my ≤ mx) = false := k3
                refine kk _ ⟨_, _, rfl, fun i hi => ?_, _, _, er2, ?_⟩
                · simp only [List.mem_cons, List.not_mem_nil, or_false] at hi
                  rcases hi with rfl | rfl <;> first | rfl | exact hf 3 (by simp)
                · rw [ee]
                  show (if decide (my ≤ mx) = true then _ else _) = _
                  rw [if_neg (by rw [k3]; simp)]
        · obtain ⟨s2, s3, rfl, hf, hd⟩ := h
          have md : d ∈ d0 :: ds0 := by rw [e]; simp
          refine ⟨_, bind_2 (hf 2 (by simp)) (hf 3 (by simp)), ?_⟩
          refine ⟨_, rfl, cd_cl (sm d md) ⟨rfl, trivial, t_ite (fun k1 => ?_) fun k1 => ?_⟩⟩
          · have k1 : (!isCl d) = true := k1
            rw [Bool.not_eq_true'] at k1
            refine ⟨_, rfl, _, rfl, rfl, sz_c rfl, hb _ ?_⟩
            rw [e, callE_skip done _ 0 hd, Nat.zero_add]
            show (if isCl d = true then _ else _) = _
            rw [if_neg (by rw [k1]; simp)]
            rfl
          · have k1 : (!isCl d) = false := k1
            rw [Bool.not_eq_false'] at k1
            refine kk _ ⟨_, _, rfl, fun i hi => ?_, fun d' m => ?_⟩
            · simp only [List.mem_cons, List.not_mem_nil, or_false] at hi
              rcases hi with rfl | rfl <;> rfl
            · rcases List.mem_append.mp m with q | q
              · exact hd d' q
              · rw [List.mem_singleton.mp q]; exact k1
        · simp only [List.mem_cons, List.not_mem_nil, or_false] at hi
          rcases hi with rfl | rfl <;> rfl
    | _ => exact ⟨_, rfl, rfl, rfl, trivial, t_iteT rfl ⟨_, rfl, rfl, sz_c rfl, h2⟩⟩)
abbrev s_train_error : Stmt := topS 17
theorem sc_train_error : FnScope ["calendar", "trains", "place", "train"] ["calendar", "trains", "place"] (defScope s_train_error) := ⟨rfl, rfl, rfl, by decide +kernel, rfl, by decide +kernel, by decide +kernel⟩
abbrev ct_train_error : Ct := ctTrainE
theorem ok_train_error {f : Addr} {fd : FuncData} {k : Nat} (F : Fun K "train_error" "train_error" s_train_error f fd) (F_calls_error : CallOk prog w K mg base (PaW w K) k "calls_error" ["value", "place"] ct_calls_error) (F_are_days : CallOk prog w K mg base (PaW w K) k "are_days" ["value", "length"] ct_are_days) (F_is_number : CallOk prog w K mg base (PaW w K) k "is_number" ["value"] ct_is_number) (F_is_tuple_of : CallOk prog w K mg base (PaW w K) k "is_tuple_of" ["value", "many"] ct_is_tuple_of) : FnG prog w K mg base CX0 (k + 1) f fd ["calendar", "trains", "place"] (spOf (PaW w K) ct_train_error) :=
  fnA F sc_train_error (fun cdv A out s H E P ee C R pn hr =>
    (js_cons (set_ C (pn _) (ix_ C (V_ 1) (V_ 2)) (i := 3))
      (js_cons (js_if (jt_not (truth_ C (call_ C F_is_tuple_of hr (a1 (V_ 3) (a1 je_int a0))))) (js_cons (js_ret (je_tup (a1 je_str (a1 (V_ 2) a0))))
      js_nil) js_nil)
      (js_cons (js_if (jt_w (jw_or (jt_not (truth_ C (call_ C F_is_number hr (a1 (ix_ C (V_ 3) je_int) a0)))) (jw_or1 (jt_w (jw_and (tcmp_ (dop_cmp _) (V_ 2) je_int) (jw_and1 (tcmp_ (dop_cmp _) (ix_ C (V_ 3) je_int) (ix_ C (ix_ C (V_ 1) (je_bin (dop_sub) (V_ 2) je_int)) je_int)))))))) (js_cons (js_ret (je_tup (a1 je_str (a1 (V_ 2) a0))))
      js_nil) js_nil)
      (js_cons (js_if (jt_w (jw_or (jt_not (truth_ C (call_ C F_are_days hr (a1 (ix_ C (V_ 3) je_int) (a1 (ix_ C (V_ 0) je_int) a0))))) (jw_or1 (tcmp_ (dop_eqE C) (ix_ C (V_ 3) je_int) (je_tup a0))))) (js_cons (js_ret (je_tup (a1 je_str (a1 (V_ 2) a0))))
      js_nil) js_nil)
      (js_cons (js_ret (call_ C F_calls_error hr (a1 (ix_ C (V_ 3) je_int) (a1 (V_ 2) a0))))
      js_nil))))))
    (fun _ => rfl) (fun a Q h1 h2 => by
    obtain ⟨⟨a, n, c⟩, ts, k, t, prev⟩ := a
    obtain ⟨h1, h3, h4⟩ := h1
    have h1 : smB (.tuple ts) = true := h1
    have h3 : ts[k]? = some t := h3
    have h4 : (k = 0 ∧ prev = none) ∨ ∃ j i a b, k = j + 1 ∧ prev = some i ∧ ts[j]? = some (.tuple [.int i, a, b]) := h4
    have h2 : Q (.cl (trErr n prev t k)) := h2
    have sm := (sm_tup h1).2 t (List.mem_of_getElem? h3)
    refine ⟨_, rfl, _, rfl, t_ixF rfl rfl rfl (atI_nat h3) ?_⟩
    refine ⟨_, rfl, _, rfl, cd_tupN ⟨rfl, trivial, t_ite (fun k1 => ?_) fun k1 => ?_⟩⟩
    · have k1 : (!isTupN t 3) = true := k1
      rw [Bool.not_eq_true'] at k1
      have e : trErr n prev t k = .tuple [.str "train", .int k] := by
        unfold trErr
        split
        · cases k1
        · rfl
      rw [e] at h2
      exact ⟨_, rfl, rfl, sz_c rfl, h2⟩
    · have k1 : (!isTupN t 3) = false := k1
      rw [Bool.not_eq_false'] at k1
      obtain ⟨num, days, calls, rfl⟩ := isTup3 k1
      have sm := (sm_tup sm).2
      have h2 : Q (.cl (if isBet num 1 9999 && aheadOk prev num then
          if areDays days n && !isNilT days then callsErr calls k else .tuple [.str "days", .int k]
        else .tuple [.str "number", .int k])) := h2
      refine ⟨_, rfl, t_ixF rfl rfl rfl atI_0 (cd_number ⟨rfl, trivial, t_ite (fun k2 => ?_) fun k2 => ?_⟩)⟩
      · have k2 : (!isBet num 1 9999) = true := k2
        rw [Bool.not_eq_true'] at k2
        rw [k2, Bool.false_and, if_neg (by simp)] at h2
        exact ⟨_, rfl, rfl, sz_c rfl, h2⟩
      · have k2 : (!isBet num 1 9999) = false := k2
        rw [Bool.not_eq_false'] at k2
        obtain ⟨i, rfl, i0, i1⟩ := isBet_int k2
        rw [k2, Bool.true_and] at h2
        rcases h4 with ⟨ek, ep⟩ | ⟨j, m, x, y, ek, ep, hj⟩
        · rw [show prev = none from ep, if_pos (show aheadOk none (.int i) = true from rfl)] at h2
          refine ⟨_, rfl, _, rfl, t_isB (t_iteF (show decide ((0 : Int) < (k : Int)) = false from decide_eq_false (by have ek : k = 0 := ek; omega)) (t_iteF rfl ?_))⟩
          refine ⟨_, rfl, t_ixF rfl rfl rfl atI_1 ⟨_, rfl, t_ixF rfl rfl rfl atI_1 (cd_days ⟨rfl, trivial, t_ite (fun k3 => ?_) fun k3 => ?_⟩)⟩⟩
          · have k3 : (!areDays days n) = true := k3
            rw [Bool.not_eq_true'] at k3
            rw [k3, Bool.false_and, if_neg (by simp)] at h2
            exact ⟨_, rfl, rfl, sz_c rfl, h2⟩
          · have k3 : (!areDays days n) = false := k3
            rw [Bool.not_eq_false'] at k3
            rw [k3, Bool.true_and] at h2
            refine ⟨_, rfl, t_ixF rfl rfl rfl atI_1 ⟨rfl, sz_c rfl, rfl, rfl, sm_eqE (sm days (by simp)), t_isB (t_ite (fun k4 => ?_) fun k4 => ?_)⟩⟩
            · have k4 : isNilT days = true := k4
              rw [k4, if_neg (by simp)] at h2
              exact ⟨_, rfl, rfl, sz_c rfl, h2⟩
            · have k4 : isNilT days = false := k4
              rw [k4, if_pos (by simp)] at h2
              exact ⟨_, rfl, t_ixF rfl rfl rfl atI_2 ⟨_, rfl, cd_callsE (sm calls (by simp)) h2⟩⟩
        · have l0 : decide ((0 : Int) < (k : Int)) = true := decide_eq_true (by have ek : k = j + 1 := ek; omega)
          have ej : atI ts ((k : Int) - 1) = some (.tuple [.int m, x, y]) := by
            rw [show ((k : Int) - 1) = (j : Int) by have ek : k = j + 1 := ek; omega]; exact atI_nat hj
          rw [show prev = some m from ep] at h2
          refine ⟨_, rfl, _, rfl, t_isB (t_iteT l0 ⟨_, rfl, t_ixF rfl rfl rfl atI_0 ⟨_, rfl, _, rfl, _, _, rfl, rfl, t_ixF rfl rfl rfl ej (t_ixF rfl rfl rfl atI_0 ⟨_, rfl, t_isB (t_ite (fun k3 => ?_) fun k3 => ?_)⟩)⟩⟩)⟩
          · have k3 : decide (i ≤ m) = true := k3
            rw [decide_eq_true_iff] at k3
            rw [if_neg (show ¬ aheadOk (some m) (.int i) = true by show ¬ decide (m < i) = true; rw [decide_eq_false (by omega)]; simp)] at h2
            exact ⟨_, rfl, rfl, sz_c rfl, h2⟩
          · have k3 : decide (i ≤ m) = false := k3
            rw [decide_eq_false_iff_not] at k3
            rw [if_pos (show aheadOk (some m) (.int i) = true from decide_eq_true (by omega))] at h2
            
            refine ⟨_, rfl, t_ixF rfl rfl rfl atI_1 ⟨_, rfl, t_ixF rfl rfl rfl atI_1 (cd_days ⟨rfl, trivial, t_ite (fun k3 => ?_) fun k3 => ?_⟩)⟩⟩
            · have k3 : (!areDays days n) = true := k3
              rw [Bool.not_eq_true'] at k3
              rw [k3, Bool.false_and, if_neg (by simp)] at h2
              exact ⟨_, rfl, rfl, sz_c rfl, h2⟩
            · have k3 : (!areDays days n) = false := k3
              rw [Bool.not_eq_false'] at k3
              rw [k3, Bool.true_and] at h2
              refine ⟨_, rfl, t_ixF rfl rfl rfl atI_1 ⟨rfl, sz_c rfl, rfl, rfl, sm_eqE (sm days (by simp)), t_isB (t_ite (fun k4 => ?_) fun k4 => ?_)⟩⟩
              · have k4 : isNilT days = true := k4
                rw [k4, if_neg (by simp)] at h2
                exact ⟨_, rfl, rfl, sz_c rfl, h2⟩
              · have k4 : isNilT days = false := k4
                rw [k4, if_pos (by simp)] at h2
                exact ⟨_, rfl, t_ixF rfl rfl rfl atI_2 ⟨_, rfl, cd_callsE (sm calls (by simp)) h2⟩⟩)
abbrev s_stations_of : Stmt := topS 19
theorem sc_stations_of : FnScope ["plan", "found", "number", "days", "calls", "name", "minute"] ["plan"] (defScope s_stations_of) := ⟨rfl, rfl, rfl, by decide +kernel, rfl, by decide +kernel, by decide +kernel⟩
abbrev ct_stations_of : Ct := ctStations
theorem ok_stations_of {f : Addr} {fd : FuncData} {k : Nat} (F : Fun K "stations_of" "stations_of" s_stations_of f fd) (m_tuple : mg "tuple" = none) (m_sorted : mg "sorted" = none) (m_list : mg "list" = none) : FnG prog w K mg base CX0 (k + 1) f fd ["plan"] (spOf (PaW w K) ct_stations_of) :=
  fnA F sc_stations_of (fun cdv A out s H E P ee C R pn hr =>
    (js_cons (set_ C (pn _) je_dnew (i := 1))
      (jss_frz 0 (js_cons (for_ C (fun j _ => pn j) (it_ C (ix_ C (V_ 0) je_int)) (tp_ C (g1 (n_ C 2) (g1 (n_ C 3) (g1 (n_ C 4) g0)))) (js_cons (for_ C (fun j _ => pn j) (it_ C (V_ 4)) (tp_ C (g1 (n_ C 5) (g1 (n_ C 6) g0))) (js_cons (setIx_ C je_bl (L_ 1) (V_ 5))
      js_nil))
      js_nil))
      (js_cons (js_ret (tuple_ C m_tuple (a1 (sorted_ C m_sorted (a1 (list_ C m_list (a1 (V_ 1) a0)) a0)) a0)))
      js_nil)))))
    (fun _ => rfl) (fun p Q h1 h2 => by
    have h1 : manyC p.trains < 1000000 := h1
    refine ⟨_, rfl, ?_⟩
    refine ⟨_, rfl, t_ixM (d := .tuple (p.trains.map trnD)) rfl rfl (by rfl) (imm_tup (trns_imm _)) (t_it rfl ⟨rfl, forT_by (fun es ρ => ∃ (done rest : List Trn) (s2 s3 s4 s5 s6 : SV), p.trains = done ++ rest ∧ es = rest.map trnD ∧ ρ = [.sh (plnD p), .ow (.dc (dictOf (namesT [] done) fun _ => .lf (.bool true))), s2, s3, s4, s5, s6] ∧ (∀ i ∈ [2, 3, 4, 5, 6], slotFree ρ i = true)) (fun ρ h => ?_) (fun d es ρ N h k => ?_) _ _ ⟨[], p.trains, .un, .un, .un, .un, .un, rfl, rfl, rfl, ?_⟩⟩)⟩
    · obtain ⟨done, rest, s2, s3, s4, s5, s6, e, er, rfl, hf⟩ := h
      have : rest = [] := by cases rest with
        | nil => rfl
        | cons t r => cases er
      subst this
      rw [List.append_nil] at e
      subst e
      refine ⟨_, rfl, _, rfl, t_listD (kvs := ODvalsE (dictOf (namesT [] p.trains) fun _ => .lf (.bool true))) rfl (by rw [valsE_dict, dict_keys]) (txts_imm _) ⟨_, rfl, t_sorted (ds := txts (namesT [] p.trains)) (congrArg some (vals_lf _)) (txts_sort _) (txts_imm _) ⟨_, rfl, t_tuple (ds := sortD (txts (namesT [] p.trains))) (congrArg some (vals_lf _)) ?_⟩⟩⟩
      rw [mk_imm (imm_tup (sort_imm (txts_imm _)))]
      exact h2
    · obtain ⟨done, rest, s2, s3, s4, s5, s6, e, er, rfl, hf⟩ := h
      cases rest with
      | nil => cases er
      | cons t rest =>
        cases er
        have hm : manyC done + t.calls.length + manyC rest < 1000000 := by rw [← manyC_mid, ← e]; exact h1
        refine ⟨_, bind_3 (hf 2 (by simp)) (hf 3 (by simp)) (hf 4 (by simp)), ?_⟩
        refine ⟨_, rfl, t_it rfl ⟨rfl, forT_by (fun es ρ => ∃ (dn rc : List Cll) (s5 s6 : SV), t.calls = dn ++ rc ∧ es = rc.map cllD ∧ ρ = [.sh (plnD p), .ow (.dc (dictOf (namesC (namesT [] done) dn) fun _ => .lf (.bool true))), .sh (.int t.number), .sh (.tuple (nats t.days)), .sh (.tuple (t.calls.map cllD)), s5, s6] ∧ slotFree ρ 5 = true ∧ slotFree ρ 6 = true) (fun ρ h => ?_) (fun d es ρ N h k => ?_) _ _ ⟨[], t.calls, s5, s6, rfl, rfl, rfl, hf 5 (by simp), hf 6 (by simp)⟩⟩⟩
        · obtain ⟨dn, rc, s5, s6, ec, er, rfl, f5, f6⟩ := h
          have : rc = [] := by cases rc with
            | nil => rfl
            | cons t r => cases er
          subst this
          rw [List.append_nil] at ec
          subst ec
          refine k _ ⟨done ++ [t], rest, _, _, _, s5, s6, by rw [e, List.append_assoc]; rfl, rfl, by rw [namesT_add], fun i hi => ?_⟩
          simp only [List.mem_cons, List.not_mem_nil, or_false] at hi
          rcases hi with rfl | rfl | rfl | rfl | rfl <;> first | rfl | exact f5 | exact f6
        · obtain ⟨dn, rc, s5, s6, ec, er, rfl, f5, f6⟩ := h
          cases rc with
          | nil => cases er
          | cons c rc =>
            cases er
            have l1 := namesC_len dn (namesT [] done)
            have l2 := namesT_len done []
            have l3 := congrArg List.length ec
            rw [List.length_append] at l3
            rw [List.length_nil] at l2
            refine ⟨_, bind_2 f5 f6, ?_⟩
            refine ⟨rfl, _, rfl, _, rfl, _, rfl, by rw [dict_keys]; exact dict_fit _ _, by rw [dict_len]; exact Nat.lt_of_lt_of_le (by omega : _ < 1000001) (sz_c rfl), ?_⟩
            refine k _ ⟨dn ++ [c], rc, .sh (.str c.1), .sh (.int c.2), by rw [ec, List.append_assoc]; rfl, rfl, ?_, rfl, rfl⟩
            rw [namesC_add, ← dict_putC]; rfl
    · intro i hi
      simp only [List.mem_cons, List.not_mem_nil, or_false] at hi
      rcases hi with rfl | rfl | rfl | rfl | rfl <;> rfl)
abbrev s_plan_error : Stmt := topS 18
theorem sc_plan_error : FnScope ["value", "calendar", "trains", "place", "error", "number", "days", "calls"] ["value"] (defScope s_plan_error) := ⟨rfl, rfl, rfl, by decide +kernel, rfl, by decide +kernel, by decide +kernel⟩
abbrev ct_plan_error : Ct := ctPlanE
theorem ok_plan_error {f : Addr} {fd : FuncData} {k : Nat} (F : Fun K "plan_error" "plan_error" s_plan_error f fd) (m_sum : mg "sum" = none) (m_len : mg "len" = none) {t_MAX_CALLS : Tok} (g_MAX_CALLS : mg "MAX_CALLS" = some (.int 200 t_MAX_CALLS)) (F_stations_of : CallOk prog w K mg base (PaW w K) k "stations_of" ["plan"] ct_stations_of) {t_MAX_STATIONS : Tok} (g_MAX_STATIONS : mg "MAX_STATIONS" = some (.int 16 t_MAX_STATIONS)) (m_range : mg "range" = none) (F_train_error : CallOk prog w K mg base (PaW w K) k "train_error" ["calendar", "trains", "place"] ct_train_error) {t_MAX_TRAINS : Tok} (g_MAX_TRAINS : mg "MAX_TRAINS" = some (.int 24 t_MAX_TRAINS)) (m_isinstance : mg "isinstance" = none) (m_tuple : mg "tuple" = none) (F_is_calendar : CallOk prog w K mg base (PaW w K) k "is_calendar" ["value"] ct_is_calendar) (F_is_tuple_of : CallOk prog w K mg base (PaW w K) k "is_tuple_of" ["value", "many"] ct_is_tuple_of) : FnG prog w K mg base CX0 (k + 1) f fd ["value"] (spOf (PaW w K) ct_plan_error) :=
  fnA F sc_plan_error (fun cdv A out s H E P ee C R pn hr =>
    (js_cons (js_if (jt_not (truth_ C (call_ C F_is_tuple_of hr (a1 (V_ 0) (a1 je_int a0))))) (js_cons (js_ret je_str)
      js_nil) js_nil)
      (js_cons (pat_ (V_ 0) (tp_ C (g1 (n_ C 1) (g1 (n_ C 2) g0))) (fun j _ => pn j))
      (js_cons (js_if (jt_not (truth_ C (call_ C F_is_calendar hr (a1 (V_ 1) a0)))) (js_cons (js_ret je_str)
      js_nil) js_nil)
      (js_cons (js_if (jt_w (jw_or (jt_not (truth_ C (je_isi (T := "tuple") C (by decide) rfl rfl m_isinstance rfl m_tuple (by decide +kernel) rfl (by decide) (V_ 2) (by rfl) (by rfl)))) (jw_or1 (tcmp_ (dop_cmp _) (len_ C m_len (a1 (V_ 2) a0)) (G_ (v := .int 24) g_MAX_TRAINS ⟨_, rfl⟩ (fun _ => .int _)))))) (js_cons (js_ret je_str)
      js_nil) js_nil)
      (jss_frz 2 (js_cons (for_ C (fun j _ => pn j) (rng1_ m_range (a1 (len_ C m_len (a1 (V_ 2) a0)) a0)) (n_ C 3) (js_cons (set_ C (pn _) (call_ C F_train_error hr (a1 (V_ 1) (a1 (V_ 2) (a1 (V_ 3) a0)))) (i := 4))
      (js_cons (js_if (tcmp_ (dop_isNot) (V_ 4) je_non) (js_cons (js_retX (M_ 4))
      js_nil) js_nil)
      js_nil)))
      (js_cons (js_if (tcmp_ (dop_cmp _) (len_ C m_len (a1 (call_ C F_stations_of hr (a1 (V_ 0) a0)) a0)) (G_ (v := .int 16) g_MAX_STATIONS ⟨_, rfl⟩ (fun _ => .int _))) (js_cons (js_ret je_str)
      js_nil) js_nil)
      (js_cons (js_ret (je_if (tcmp_ (dop_cmp _) (sum_ C m_sum (a1 (lc_ C [("number", 5), ("days", 6), ("calls", 7)] (it_ C (V_ 2)) (fun s H A cl fp => (tp_ C.blk (g1 (n_ C.blk 5) (g1 (n_ C.blk 6) (g1 (n_ C.blk 7) g0))))) (fun s H A cl fp => jts_nil) (fun s H A cl fp => (len_ C.blk m_len (a1 (V_ 7) a0)))) a0)) (G_ (v := .int 200) g_MAX_CALLS ⟨_, rfl⟩ (fun _ => .int _))) je_str je_non))
      js_nil)))))))))
    (fun _ => rfl) (fun v Q h1 h2 => by
    have h1 : smB v = true := h1
    have h2 : Q (.cl (planErr v)) := h2
    refine ⟨_, rfl, cd_tupN ⟨rfl, trivial, t_ite (fun k1 => ?_) fun k1 => ?_⟩⟩
    · have k1 : (!isTupN v 2) = true := k1
      rw [Bool.not_eq_true'] at k1
      have e : planErr v = .str "form" := by
        unfold planErr
        split
        · cases k1
        · rfl
      rw [e] at h2
      exact h2
    · have k1 : (!isTupN v 2) = false := k1
      rw [Bool.not_eq_false'] at k1
      obtain ⟨cal, trs, rfl⟩ := isTup2 k1
      have sm := (sm_tup h1).2
      refine ⟨_, rfl, _, _, rfl, bind_2 rfl rfl, ?_⟩
      refine ⟨_, rfl, cd_cal ⟨rfl, trivial, t_ite (fun k2 => ?_) fun k2 => ?_⟩⟩
      · have k2 : (!isCal cal) = true := k2
        rw [Bool.not_eq_true'] at k2
        have e : planErr (.tuple [cal, trs]) = .str "calendar" := by
          unfold planErr
          simp only [k2]
          rfl
        rw [e] at h2
        exact h2
      · have k2 : (!isCal cal) = false := k2
        rw [Bool.not_eq_false'] at k2
        obtain ⟨hk, a, n, c, rfl⟩ := isCal_dec k2
        have e' : (∀ ts, trs ≠ .tuple ts) → planErr (.tuple [.tuple [a, .int n, c], trs]) = .str "trains" := fun h => by
          show (if isCal _ then _ else _) = _
          rw [if_pos k2]
          cases trs <;> first | rfl | exact absurd rfl (h _)
        cases trs with
        | tuple ts =>
          have e : planErr (.tuple [.tuple [a, .int n, c], .tuple ts]) = (if ts.length ≤ 24 then match trsErr n 0 none ts with
          | some e => e
          | none => if (namesT [] (ts.map decT)).length ≤ 16 then (if manyC (ts.map decT) ≤ 200 then .none else .str "many") else .str "stations"
        else .str "trains") := by
            show (if isCal _ then _ else _) = _
            rw [if_pos k2]
            rfl
          rw [e] at h2
          refine ⟨_, rfl, rfl, rfl, trivial, t_iteF rfl ⟨_, rfl, _, rfl, t_len (ds := ts) rfl rfl ⟨_, rfl, t_isB (t_ite (fun k3 => ?_) fun k3 => ?_)⟩⟩⟩
          · have k3 : decide ((24 : Int) < (ts.length : Int)) = true := k3
            rw [decide_eq_true_iff] at k3
            rw [if_neg (by omega)] at h2
            exact h2
          · have k3 : decide ((24 : Int) < (ts.length : Int)) = false := k3
            rw [decide_eq_false_iff_not] at k3
            rw [if_pos (by omega)] at h2
            have sl : ts.length ≤ 24 := by omega
            have smt : smB (.tuple ts) = true := sm _ (by simp)
            refine ⟨_, rfl, _, rfl, t_len (ds := ts) rfl rfl ⟨_, _, rfl, rfl, smallI_of (by omega) (by omega), rfl, forT_range ts.length (fun j ρ => ∃ s3 s4 s5 s6 s7 : SV, ρ = [.sh (.tuple [.tuple [a, .int n, c], .tuple ts]), .sh (.tuple [a, .int n, c]), .sh (.tuple ts), s3, s4, s5, s6, s7] ∧ freeAt [3, 4, 5, 6, 7] ρ ∧ ∃ prev, prevOk ts j prev ∧ trsErr n 0 none ts = trsErr n j prev (ts.drop j)) (fun ρ h => ?_) (fun j ρ N hj h kk => ?_) _ ⟨_, _, _, _, _, rfl, fun i hi => ?_, none, .inl ⟨rfl, rfl⟩, rfl⟩⟩⟩
            · obtain ⟨s3, s4, s5, s6, s7, rfl, hf, prev, hp, ee⟩ := h
              rw [List.drop_length] at ee
              have ee : trsErr n 0 none ts = none := ee
              rw [ee] at h2
              have h2 : Q (.cl (if (namesT [] (ts.map decT)).length ≤ 16 then (if manyC (ts.map decT) ≤ 200 then .none else .str "many") else .str "stations")) := h2
              have ev : PyData.tuple [.tuple [a, .int n, c], .tuple ts] = plnD ⟨decK (.tuple [a, .int n, c]), ts.map decT⟩ := by
                show _ = PyData.tuple [calD (decK (.tuple [a, .int n, c])), .tuple ((ts.map decT).map trnD)]
                rw [hk, dec_trns ee]
              have hm : manyC (ts.map decT) < 1000000 := by
                have := manyCL_le (sm_tup smt).2
                omega
              have cdS : ∀ Q, Q (.cl (.tuple (sortD (txts (namesT [] (ts.map decT)))))) → callD ctStations [.cl (.tuple [.tuple [a, .int n, c], .tuple ts])] Q := fun Q q => by
                rw [ev]
                exact cd_stations hm q
              refine ⟨_, rfl, cdS _ ⟨_, rfl, t_len (ds := sortD (txts (namesT [] (ts.map decT)))) rfl rfl ⟨_, rfl, t_isB (t_ite (fun k5 => ?_) fun k5 => ?_)⟩⟩⟩
              · have k5 : decide ((16 : Int) < ((sortD (txts (namesT [] (ts.map decT)))).length : Int)) = true := k5
                rw [sortD_len, decide_eq_true_iff] at k5
                unfold txts at k5
                rw [List.length_map] at k5
                rw [if_neg (by omega)] at h2
                exact h2
              · have k5 : decide ((16 : Int) < ((sortD (txts (namesT [] (ts.map decT)))).length : Int)) = false := k5
                rw [sortD_len, decide_eq_false_iff_not] at k5
                unfold txts at k5
                rw [List.length_map] at k5
                rw [if_pos (by omega)] at h2
                have lc : ∀ (u : TDt) (t : TD) (ρb : List SV) (Q : List Rv → Prop), Q ((ts.map decT).map fun x => .cl (.int (x.calls.length : Int))) → (∀ x ∈ ts.map decT, ∃ ρ1, bindP (.tp [.nm 5, .nm 6, .nm 7]) (trnD x) ρb = some ρ1 ∧ ∀ (M : Rv → Prop) (R : Prop), M (.cl (.int (x.calls.length : Int))) → u ρ1 fun b => if b = true then t ρ1 M else R) → lcD (.tp [.nm 5, .nm 6, .nm 7]) u t ρb ts [] Q := fun u t ρb Q q h1 => by
                  have z := lcD_all (enc := trnD) (pat := .tp [.nm 5, .nm 6, .nm 7]) (u := u) (t := t) (ρb := ρb) (fun x : Trn => .int (x.calls.length : Int)) (ts.map decT) (by rw [List.length_map]; exact sz_of (by omega)) q h1
                  rw [dec_trns ee] at z
                  exact z
                have em : (ts.map decT).map (fun x => Rv.cl (.int (x.calls.length : Int))) = ((ts.map decT).map fun x => (x.calls.length : Int)).map fun z => .cl (.int z) := by rw [List.map_map, List.map_map, List.map_map]; rfl
                refine ⟨_, rfl, t_it rfl ⟨?_, lc _ _ _ _ ?_ fun x _ => ⟨_, bind_3 rfl rfl rfl, fun M R m => ⟨_, rfl, _, rfl, t_len (ds := x.calls.map cllD) rfl rfl (by rw [List.length_map]; exact m)⟩⟩⟩⟩
                · exact Bool.and_eq_true_iff.mpr ⟨hf 5 (by simp), Bool.and_eq_true_iff.mpr ⟨hf 6 (by simp), Bool.and_eq_true_iff.mpr ⟨hf 7 (by simp), rfl⟩⟩⟩
                · rw [em]
                  refine ⟨_, rfl, _, (ts.map decT).map fun x => (x.calls.length : Int), by rw [mkC_cl2 (ints_imm _)]; exact congrArg PyData.list (vals_lf _), intsOf_map _, ?_⟩
                  rw [sumC]
                  refine ⟨_, rfl, t_isB (t_ite (fun k6 => ?_) fun k6 => ?_)⟩
                  · have k6 : decide ((200 : Int) < (manyC (ts.map decT) : Int)) = true := k6
                    rw [decide_eq_true_iff] at k6
                    rw [if_neg (by omega)] at h2
                    exact h2
                  · have k6 : decide ((200 : Int) < (manyC (ts.map decT) : Int)) = false := k6
                    rw [decide_eq_false_iff_not] at k6
                    rw [if_pos (by omega)] at h2
                    exact h2
            · obtain ⟨s3, s4, s5, s6, s7, rfl, hf, prev, hp, ee⟩ := h
              have ht : ts[j]? = some ts[j] := List.getElem?_eq_getElem hj
              have ed : ts.drop j = ts[j] :: ts.drop (j + 1) := List.drop_eq_getElem_cons hj
              rw [ed] at ee
              refine ⟨_, bind_nm (hf 3 (by simp)), ?_⟩
              rw [Int.zero_add]
              refine ⟨_, rfl, _, rfl, _, rfl, cd_trainE smt ht hp ⟨_, set_ok (hf 4 (by simp)) rfl, ?_⟩⟩
              refine ⟨_, rfl, rfl, rfl, rfl, t_isB (t_ite (fun k4 => ?_) fun k4 => ?_)⟩
              · have k4 : (!isNoneD (trErr n prev ts[j] j)) = true := k4
                rw [Bool.not_eq_true'] at k4
                have ee : trsErr n 0 none ts = if isNoneD (trErr n prev ts[j] j) then trsErr n (j + 1) (numD ts[j]) (ts.drop (j + 1)) else some (trErr n prev ts[j] j) := ee
                rw [k4, if_neg (by simp)] at ee
                rw [ee] at h2
                exact h2
              · have k4 : (!isNoneD (trErr n prev ts[j] j)) = false := k4
                rw [Bool.not_eq_false'] at k4
                have ee : trsErr n 0 none ts = if isNoneD (trErr n prev ts[j] j) then trsErr n (j + 1) (numD ts[j]) (ts.drop (j + 1)) else some (trErr n prev ts[j] j) := ee
                rw [k4, if_pos rfl] at ee
                have kn : trErr n prev ts[j] j = .none := by
                  revert k4
                  cases trErr n prev ts[j] j <;> intro k4 <;> first | rfl | cases k4
                obtain ⟨_, i, x, cs, et⟩ := tr_none kn
                refine kk _ ⟨_, _, _, _, _, rfl, fun i hi => ?_, _, .inr ⟨j, i, x, _, rfl, by rw [et]; rfl, by rw [ht, et]⟩, ee⟩
                simp only [List.mem_cons, List.not_mem_nil, or_false] at hi
                rcases hi with rfl | rfl | rfl | rfl | rfl <;> first | rfl | exact hf 5 (by simp) | exact hf 6 (by simp) | exact hf 7 (by simp)
            · simp only [List.mem_cons, List.not_mem_nil, or_false] at hi
              rcases hi with rfl | rfl | rfl | rfl | rfl <;> rfl
        | _ =>
          rw [e' fun ts h => by cases h] at h2
          exact ⟨_, rfl, rfl, rfl, trivial, t_iteT rfl h2⟩)
abbrev s_calls_at : Stmt := topS 20
theorem sc_calls_at : FnScope ["plan", "name", "found", "number", "days", "calls", "place", "call"] ["plan", "name"] (defScope s_calls_at) := ⟨rfl, rfl, rfl, by decide +kernel, rfl, by decide +kernel, by decide +kernel⟩
abbrev ct_calls_at : Ct := ctCallsAt
theorem ok_calls_at {f : Addr} {fd : FuncData} {k : Nat} (F : Fun K "calls_at" "calls_at" s_calls_at f fd) (m_tuple : mg "tuple" = none) (m_sorted : mg "sorted" = none) (m_enumerate : mg "enumerate" = none) : FnG prog w K mg base CX0 (k + 1) f fd ["plan", "name"] (spOf (PaW w K) ct_calls_at) :=
  fnA F sc_calls_at (fun cdv A out s H E P ee C R pn hr =>
    (js_cons (set_ C (pn _) (je_lst a0) (i := 2))
      (jss_frz 0 (js_cons (for_ C (fun j _ => pn j) (it_ C (ix_ C (V_ 0) je_int)) (tp_ C (g1 (n_ C 3) (g1 (n_ C 4) (g1 (n_ C 5) g0)))) (js_cons (expr_ (ext_ C (L_ 2) (a1 (lc_ C [("place", 6), ("call", 7)] (enum_ C m_enumerate (a1 (V_ 5) a0)) (fun s H A cl fp => (tp_ C.blk (g1 (n_ C.blk 6) (g1 (n_ C.blk 7) g0)))) (fun s H A cl fp => jts_one (tcmp_ (dop_eq C.blk) (ix_ C.blk (V_ 7) je_int) (V_ 1))) (fun s H A cl fp => (je_tup (a1 (ix_ C.blk (V_ 7) je_int) (a1 (V_ 3) (a1 (V_ 6) a0)))))) a0)))
      js_nil))
      (js_cons (js_ret (tuple_ C m_tuple (a1 (sorted_ C m_sorted (a1 (V_ 2) a0)) a0)))
      js_nil)))))
    (fun _ => rfl) (fun a Q h1 h2 => by
    obtain ⟨p, x⟩ := a
    obtain ⟨h1, h3, h4⟩ := h1
    have h1 : manyC p.trains < 1000000 := h1
    have h3 : ∀ t ∈ p.trains, ∀ c ∈ t.calls, SeqAt.shaped (.str c.1) = true := h3
    have h4 : SeqAt.shaped (.str x) = true := h4
    refine ⟨rfl, sz_c rfl, _, rfl, ?_⟩
    refine ⟨_, rfl, t_ixM (d := .tuple (p.trains.map trnD)) rfl rfl (by rfl) (imm_tup (trns_imm _)) (t_it rfl ⟨rfl, forT_by (fun es ρ => ∃ (done rest : List Trn) (s3 s4 s5 s6 s7 : SV), p.trains = done ++ rest ∧ es = rest.map trnD ∧ ρ = [.sh (plnD p), .sh (.str x), .ow (.ls (((hitsT x done).map hitD).map .lf)), s3, s4, s5, s6, s7] ∧ (∀ i ∈ [3, 4, 5, 6, 7], slotFree ρ i = true)) (fun ρ h => ?_) (fun d es ρ N h k => ?_) _ _ ⟨[], p.trains, .un, .un, .un, .un, .un, rfl, rfl, rfl, ?_⟩⟩)⟩
    · obtain ⟨done, rest, s2, s3, s4, s5, s6, e, er, rfl, hf⟩ := h
      have : rest = [] := by cases rest with
        | nil => rfl
        | cons t r => cases er
      subst this
      rw [List.append_nil] at e
      subst e
      refine ⟨_, rfl, _, rfl, t_sorted (ds := (hitsT x p.trains).map hitD) (congrArg some (vals_lf _)) (hits_sort _) (hits_imm _) ⟨_, rfl, t_tuple (ds := sortD ((hitsT x p.trains).map hitD)) (congrArg some (vals_lf _)) ?_⟩⟩
      rw [mk_imm (imm_tup (sort_imm (hits_imm _)))]
      exact h2
    · obtain ⟨done, rest, s3, s4, s5, s6, s7, e, er, rfl, hf⟩ := h
      cases rest with
      | nil => cases er
      | cons t rest =>
        cases er
        have hm : manyC done + t.calls.length + manyC rest < 1000000 := by rw [← manyC_mid, ← e]; exact h1
        refine ⟨_, bind_3 (hf 3 (by simp)) (hf 4 (by simp)) (hf 5 (by simp)), ?_⟩
        refine ⟨_, rfl, _, rfl, _, rfl, .inl ⟨_, rfl, _, _, rfl, ?_, ?_⟩⟩
        · have a := hf 6 (by simp)
          have b := hf 7 (by simp)
          exact Bool.and_eq_true_iff.mpr ⟨a, Bool.and_eq_true_iff.mpr ⟨b, rfl⟩⟩
        · refine lcD_by (fun es acc => ∃ dn rc : List Cll, t.calls = dn ++ rc ∧ es = enumD (dn.length : Int) (rc.map cllD) ∧ acc = (hitsC x t.number 0 dn).map fun h => .cl (hitD h)) (fun acc h => ?_) (fun d es acc N h k => ?_) _ _ ⟨[], t.calls, rfl, rfl, rfl⟩
          · obtain ⟨dn, rc, ec, er, rfl⟩ := h
            have : rc = [] := by cases rc with
              | nil => rfl
              | cons t r => cases er
            subst this
            rw [List.append_nil] at ec
            subst ec
            have l1 := hitsC_len x t.number t.calls 0
            have l2 := hitsT_len x done
            refine ⟨_, _, rfl, by rw [mkC_cl2 (hits_imm _)]; rfl, ?_, ?_⟩
            · rw [List.length_map, List.length_map, List.length_map, List.length_map]
              exact sz_of (by omega)
            · refine k _ ⟨done ++ [t], rest, .sh (.int t.number), .sh (.tuple (nats t.days)), .sh (.tuple (t.calls.map cllD)), s6, s7, by rw [e, List.append_assoc]; rfl, rfl, by rw [hitsT_add, List.map_append, List.map_append]; rfl, fun i hi => ?_⟩
              simp only [List.mem_cons, List.not_mem_nil, or_false] at hi
              rcases hi with rfl | rfl | rfl | rfl | rfl <;> first | rfl | exact hf 6 (by simp) | exact hf 7 (by simp)
          · obtain ⟨dn, rc, ec, er, rfl⟩ := h
            cases rc with
            | nil => cases er
            | cons c rc =>
              cases er
              have l1 := hitsC_len x t.number dn 0
              have l3 := congrArg List.length ec
              rw [List.length_append] at l3
              have sc : SeqAt.shaped (.str c.1) = true := h3 t (by rw [e]; simp) c (by rw [ec]; simp)
              refine ⟨_, bind_2 rfl rfl, ?_⟩
              have es : enumD ((dn.length : Int) + 1) (rc.map cllD) = enumD (((dn ++ [c]).length : Nat) : Int) (rc.map cllD) := by
                rw [List.length_append]; rfl
              refine ⟨_, rfl, t_ixM (d := .str c.1) rfl rfl (by rfl) rfl ⟨_, rfl, rfl, rfl, ⟨sc, h4⟩, t_isB (t_ite (fun eb => ?_) fun eb => ?_)⟩⟩
              · have eb : PyData.eqv (.str c.1) (.str x) = true := eb
                rw [eqvS, beq_iff_eq] at eb
                refine ⟨_, rfl, t_ixM (d := .int c.2) rfl rfl (by rfl) rfl ⟨_, rfl, _, rfl, rfl, sz_c rfl, ⟨rfl, rfl, ?_⟩, k _ ⟨dn ++ [c], rc, by rw [ec, List.append_assoc]; rfl, es, ?_⟩⟩⟩
                · rw [List.length_map]
                  exact Nat.lt_of_lt_of_le (by omega : _ < 1000001) (sz_c rfl)
                · rw [hitsC_add, if_pos eb, List.map_append, Int.zero_add]; rfl
              · have eb : PyData.eqv (.str c.1) (.str x) = false := eb
                rw [eqvS, beq_eq_false_iff_ne] at eb
                exact k _ ⟨dn ++ [c], rc, by rw [ec, List.append_assoc]; rfl, es, by rw [hitsC_add, if_neg eb, List.append_nil]⟩
    · intro i hi
      simp only [List.mem_cons, List.not_mem_nil, or_false] at hi
      rcases hi with rfl | rfl | rfl | rfl | rfl <;> rfl)
abbrev s_law_well : Stmt := topS 22
theorem sc_law_well : FnScope ["script", "cells", "stirred", "cell"] ["script"] (defScope s_law_well) := ⟨rfl, rfl, rfl, by decide +kernel, rfl, by decide +kernel, by decide +kernel⟩
abbrev ct_law_well : Ct := ctWell
theorem ok_law_well {f : Addr} {fd : FuncData} {k : Nat} (F : Fun K "_law_well" "_law_well" s_law_well f fd) (m_int : mg "int" = none) (m_len : mg "len" = none) (m_abs : mg "abs" = none) : FnG prog w K mg base CX0 (k + 1) f fd ["script"] (spOf (PaW w K) ct_law_well) :=
  fnA F sc_law_well (fun cdv A out s H E P ee C R pn hr =>
    (js_cons (mul_ C [1, 2] ["cells", "stirred"] (fun j _ => pn j) (a1 (lc_ C [("cell", 3)] (it_ C (je_slice C (V_ 0) jo_none (jo_some je_int))) (fun s H A cl fp => (n_ C.blk 3)) (fun s H A cl fp => jts_nil) (fun s H A cl fp => (je_bin (dop_add C.blk) (je_bin (dop_mulX) je_int (abs_ C.blk m_abs (a1 (V_ 3) a0))) (int_ C.blk m_int (a1 (cmp_ (dop_cmp _) (V_ 3) je_int) a0))))) (a1 (je_bin (dop_add C) je_int (len_ C m_len (a1 (V_ 0) a0))) a0)))
      (jss_frz 1 (js_cons (for_ C (fun j _ => pn j) (it_ C (V_ 1)) (n_ C 3) (js_cons (set_ C (pn _) (je_bin (dop_mod) (int_ C m_int (a1 (je_bin (dop_add C) (je_bin (dop_mulX) (V_ 2) je_int) (V_ 3)) a0)) je_int) (i := 2))
      js_nil))
      (js_cons (js_ret (je_lst (a1 (lc_ C [("cell", 3)] (it_ C (V_ 1)) (fun s H A cl fp => (n_ C.blk 3)) (fun s H A cl fp => jts_one (tcmp_ (dop_cmp _) (V_ 3) (je_bin (dop_pow) je_int je_int))) (fun s H A cl fp => (V_ 3))) (a1 (V_ 2) (a1 je_int a0)))))
      js_nil)))))
    (fun _ => rfl) (fun ns Q h1 h2 => by
    have hz : (63 : Nat) < sizeLine := by decide
    refine ⟨_, rfl, 63, rfl, t_slSc (t_it (seq_intL _) ⟨rfl, lcD_by (fun es acc => allInt es ∧ acc.length + es.length ≤ 63 ∧ IntAcc acc) (fun acc h => ?_) (fun d es acc N h k => ?_) _ _ ⟨allInt_map _, ?_, .nil⟩⟩)⟩
    · obtain ⟨_, hl, ha⟩ := h
      have hal : acc.length ≤ 63 := hl
      refine ⟨_, rfl, _, rfl, t_lenSc (t_addI ⟨by decide, _, rfl, ?_⟩)⟩
      refine ⟨_, rfl, t_it (ds := ODvals (acc.map partO)) rfl ⟨rfl, forT_by (fun es ρ => allInt es ∧ ∃ st s3, ρ = [.sc ns, .sh (.list (ODvals (acc.map partO))), .sh (.int st), s3] ∧ (s3 = .un ∨ ∃ d, s3 = .sh d)) (fun ρ h => ?_) (fun d es ρ N h k => ?_) _ _ ⟨ha.allInt, _, _, rfl, .inl rfl⟩⟩⟩
      · obtain ⟨_, st, s3, rfl, hs⟩ := h
        have go : ∀ acc2 : List Rv, IntAcc acc2 → retQ (PaW w K) Q (mkLst [.fr (.ls (acc2.map partO)), .cl (.int st), .cl (.int 0)]) := fun acc2 ⟨zs, e, _⟩ => .inr ⟨⟨zs, st, 0, by rw [e]; rfl⟩, h2⟩
        have hl2 : (ODvals (acc.map partO)).length ≤ 63 := by
          obtain ⟨zs, e, _⟩ := ha
          have := congrArg List.length e
          rw [e, intL_val, List.length_map]
          unfold intL at this
          rw [List.length_map, List.length_map] at this
          omega
        rcases hs with rfl | ⟨d3, rfl⟩ <;>
        · refine ⟨_, rfl, t_it (ds := ODvals (acc.map partO)) rfl ⟨rfl, lcD_by (fun es acc => allInt es ∧ acc.length + es.length ≤ 63 ∧ IntAcc acc) (fun acc2 h => ?_) (fun d es acc2 N h k => ?_) _ _ ⟨ha.allInt, by simpa using hl2, .nil⟩⟩⟩
          · refine ⟨_, rfl, rfl, (by show (3 : Nat) ≤ sizeLine; decide), ?_⟩
            exact go acc2 h.2.2
          · obtain ⟨hi, hl, hacc⟩ := h
            obtain ⟨c, rfl⟩ := hi.hd
            rw [List.length_cons] at hl
            refine ⟨_, bind_nm rfl, ?_⟩
            refine ⟨_, rfl, _, _, rfl, rfl, ⟨by decide, by decide, by decide⟩, _, rfl, t_isB (t_ite (fun _ => ⟨_, rfl, ⟨rfl, rfl, by omega⟩, k _ ⟨hi.tl, ?_, hacc.add⟩⟩) fun _ => k _ ⟨hi.tl, by omega, hacc⟩)⟩
            rw [List.length_append, List.length_cons, List.length_nil]; omega
      · obtain ⟨hi, st, s3, rfl, hs⟩ := h
        obtain ⟨c, rfl⟩ := hi.hd
        refine ⟨_, bind_nm (by rcases hs with rfl | ⟨d, rfl⟩ <;> rfl), ?_⟩
        refine ⟨_, rfl, t_mulI (.inr (by decide)) ⟨_, rfl, t_addI ⟨_, rfl, t_intI ⟨_, _, rfl, rfl, by decide, _, rfl, ?_⟩⟩⟩⟩
        exact k _ ⟨hi.tl, _, _, rfl, .inr ⟨_, rfl⟩⟩
    · obtain ⟨hi, hl, hacc⟩ := h
      obtain ⟨c, rfl⟩ := hi.hd
      rw [List.length_cons] at hl
      refine ⟨_, bind_nm rfl, ?_⟩
      refine t_iteT rfl ⟨_, rfl, _, rfl, _, rfl, t_mulI (.inl (by decide)) ⟨_, rfl, _, rfl, _, rfl, t_intB (t_addI ⟨⟨rfl, rfl, by omega⟩, k _ ⟨hi.tl, ?_, hacc.add⟩⟩)⟩⟩
      rw [List.length_append, List.length_cons, List.length_nil]; omega
    · rw [List.length_map]
      have := cut_len (xs := ns) (lo := none) (hi := some 63)
      simp only [List.length_nil]
      omega)
abbrev s_law_draw : Stmt := topS 23
theorem sc_law_draw : FnScope ["well", "many", "cell", "found"] ["well", "many"] (defScope s_law_draw) := ⟨rfl, rfl, rfl, by decide +kernel, rfl, by decide +kernel, by decide +kernel⟩
abbrev ct_law_draw : Ct := ctDraw
theorem ok_law_draw {f : Addr} {fd : FuncData} {k : Nat} (F : Fun K "_law_draw" "_law_draw" s_law_draw f fd) (m_int : mg "int" = none) : FnG prog w K mg base CX0 (k + 1) f fd ["well", "many"] (spOf (PaW w K) ct_law_draw) :=
  fnDraw F sc_law_draw rfl (fun cdv A out s H E C hr =>
    (js_cons (js_if (tcmp_ (dop_ne C) (ix_ C (V_ 0) je_int) (je_lst a0)) (js_cons (set_ C rfl (ix_ C (ix_ C (V_ 0) je_int) je_int) (i := 2))
      (js_cons (setIx_ C (je_bin (dop_div) (V_ 2) (V_ 1)) (ixL_ (L_ 0) je_int) je_int)
      (js_cons (js_if (tcmp_ (dop_cmp _) (V_ 2) (V_ 1)) (js_cons (expr_ (popAt_ C (ixL_ (L_ 0) je_int) (a1 je_int a0)))
      js_nil) js_nil)
      (js_cons (js_ret (je_bin (dop_mod) (int_ C m_int (a1 (V_ 2) a0)) (V_ 1)))
      js_nil)))) js_nil)
      (js_cons (setIx_ C (je_bin (dop_add C) (ix_ C (V_ 0) je_int) je_int) (L_ 0) je_int)
      (js_cons (set_ C rfl (je_bin (dop_mod) (int_ C m_int (a1 (je_bin (dop_add C) (ix_ C (V_ 0) je_int) (je_bin (dop_mulX) je_int (ix_ C (V_ 0) je_int))) a0)) je_int) (i := 3))
      (js_cons (set_ C rfl (je_bin (dop_mod) (int_ C m_int (a1 (je_bin (dop_add C) (je_bin (dop_add C) (je_bin (dop_mulX) (V_ 3) (V_ 3)) (je_bin (dop_mulX) je_int (ix_ C (V_ 0) je_int))) je_int) a0)) je_int) (i := 3))
      (js_cons (set_ C rfl (je_bin (dop_mod) (int_ C m_int (a1 (je_bin (dop_add C) (je_bin (dop_mulX) (V_ 3) (V_ 3)) (ix_ C (V_ 0) je_int)) a0)) je_int) (i := 3))
      (js_cons (js_ret (je_bin (dop_mod) (int_ C m_int (a1 (je_bin (dop_div) (V_ 3) je_int) a0)) (V_ 1)))
      js_nil)))))))
    (fun o n ho n0 n1 => by
    obtain ⟨cs, a, b, rfl⟩ := ho
    have fin : ∀ (cs : List Int) (a b : Int) (s2 s3 : SV) (r : Int), plainS s2 = true → plainS s3 = true → 0 ≤ r → r < n → (drawT (PaW w K) n).rt [.ow (wellO cs a b), .sh (.int n), s2, s3] (.cl (.int r)) := fun cs a b s2 s3 r z2 z3 h0 h1 => by
      obtain ⟨q1, q2⟩ := plain_rest (s0 := .ow (wellO cs a b)) (ss := [.sh (.int n), s2, s3]) (Bool.and_eq_true_iff.mpr ⟨rfl, Bool.and_eq_true_iff.mpr ⟨z2, Bool.and_eq_true_iff.mpr ⟨z3, rfl⟩⟩⟩) (fun C fs h => nomatch h)
      exact ⟨_, rfl, ⟨cs, a, b, rfl⟩, q1, q2, r, rfl, h0, h1⟩
    refine ⟨_, rfl, t_ixC rfl rfl (by rfl) ⟨rfl, Nat.zero_le _, mk_data, rfl, ⟨?_, rfl⟩, t_isB (t_ite (fun e => ?_) fun e => ?_)⟩⟩
    · rw [mk_val]
      show SeqAt.shaped (.list (ODvals (intL cs))) = true
      rw [intL_val]
      exact shaped_ints cs
    · cases cs with
      | nil => rw [mk_val] at e; exact absurd e (by decide)
      | cons c cs =>
        refine ⟨_, rfl, t_ixC rfl rfl (by rfl) (t_ixC (d := .int c) (ds := .int c :: ODvals (intL cs)) (by rw [mk_val]; rfl) rfl atI_0 ?_)⟩
        rw [mk_imm rfl]
        refine ⟨_, rfl, ?_⟩
        refine ⟨_, rfl, _, rfl, _, _, rfl, rfl, ⟨n0, n1⟩, rfl, _, rfl, _, _, _, _, rfl, rfl, by rfl, by rfl, ?_⟩
        refine ⟨_, _, rfl, ixN_0, ?_⟩
        refine ⟨_, rfl, _, rfl, _, rfl, t_isB (t_ite (fun e => ?_) fun e => ?_)⟩
        · refine ⟨_, rfl, _, _, _, _, rfl, rfl, by rfl, by rfl, _, rfl, _, _, _, _, rfl, rfl, by decide, by decide, seqIndex_0, by rfl, ?_⟩
          refine ⟨_, rfl, _, rfl, t_intI ⟨_, rfl, _, _, rfl, rfl, n0, ?_⟩⟩
          exact fin cs a b (.sh (.int c)) .un _ rfl rfl (Int.emod_nonneg _ (by omega)) (Int.emod_lt_of_pos _ n0)
        · refine ⟨_, rfl, _, rfl, t_intI ⟨_, rfl, _, _, rfl, rfl, n0, ?_⟩⟩
          exact fin (c / n :: cs) a b (.sh (.int c)) .un _ rfl rfl (Int.emod_nonneg _ (by omega)) (Int.emod_lt_of_pos _ n0)
    · refine ⟨_, rfl, t_ixM rfl rfl (by rfl) rfl (t_addI ⟨rfl, _, rfl, _, _, rfl, by rfl, ?_⟩)⟩
      have ml : ∀ x m : Int, 0 < m → m < 4294967296 → -(2 ^ 64) < x % m ∧ x % m < 2 ^ 64 := fun x m h0 h1 => ⟨by have := Int.emod_nonneg x (Int.ne_of_gt h0); omega, by have := Int.emod_lt_of_pos x h0; omega⟩
      refine ⟨_, rfl, t_ixM rfl rfl (by rfl) rfl ⟨_, rfl, t_ixM rfl rfl (by rfl) rfl (t_mulI (.inl (by decide)) (t_addI ⟨_, rfl, t_intI ⟨_, _, rfl, rfl, by decide, _, rfl, ?_⟩⟩))⟩⟩
      refine ⟨_, rfl, _, rfl, t_mulI (.inl (ml _ _ (by decide) (by decide))) ⟨_, rfl, t_ixM rfl rfl (by rfl) rfl (t_mulI (.inl (by decide)) (t_addI (t_addI ⟨_, rfl, t_intI ⟨_, _, rfl, rfl, by decide, _, rfl, ?_⟩⟩)))⟩⟩
      refine ⟨_, rfl, _, rfl, t_mulI (.inl (ml _ _ (by decide) (by decide))) ⟨_, rfl, t_ixM rfl rfl (by rfl) rfl (t_addI ⟨_, rfl, t_intI ⟨_, _, rfl, rfl, by decide, _, rfl, ?_⟩⟩)⟩⟩
      refine ⟨_, rfl, _, _, rfl, rfl, ⟨by decide, by decide⟩, _, rfl, t_intI ⟨_, rfl, _, _, rfl, rfl, n0, ?_⟩⟩
      exact fin cs a (b + 1) .un (.sh (.int _)) _ rfl rfl (Int.emod_nonneg _ (by omega)) (Int.emod_lt_of_pos _ n0))
abbrev s_law_pick : Stmt := topS 24
theorem sc_law_pick : FnScope ["well", "items"] ["well", "items"] (defScope s_law_pick) := ⟨rfl, rfl, rfl, by decide +kernel, rfl, by decide +kernel, by decide +kernel⟩
abbrev ct_law_pick : Ct := ctPickG
theorem ok_law_pick {f : Addr} {fd : FuncData} {k : Nat} (F : Fun K "_law_pick" "_law_pick" s_law_pick f fd) (F__law_draw : CallOk prog w K mg base (PaW w K) k "_law_draw" ["well", "many"] ct_law_draw) (m_len : mg "len" = none) : FnG prog w K mg base CX0 (k + 1) f fd ["well", "items"] (spOf (PaW w K) ct_law_pick) :=
  fnA F sc_law_pick (fun cdv A out s H E P ee C R pn hr =>
    (jss_frz 1 (js_cons (js_ret (ix_ C (V_ 1) (call_ C F__law_draw hr (a1 (W_ 0) (a1 (len_ C m_len (a1 (V_ 1) a0)) a0)))))
      js_nil)))
    (fun _ => rfl) (fun a Q h1 h2 => by
    obtain ⟨s, d, ds⟩ := a
    obtain ⟨h1, hs, h0, hl⟩ := h1
    have h1 : slv s = some d := h1
    have hs : seqOf d = some ds := hs
    have h2 : ∀ d ∈ ds, Q (.cl d) := h2
    cases s with
    | sh e =>
      cases h1
      exact ⟨_, rfl, rfl, _, rfl, _, rfl, t_len rfl hs (cd_draw (by have : 0 < ds.length := h0; omega) (by have : ds.length < 1073741824 := hl; omega) fun i i0 i1 => t_ix hs rfl i0 i1 fun d m _ => h2 d m)⟩
    | ow o =>
      cases h1
      exact ⟨_, rfl, rfl, _, rfl, _, rfl, t_len rfl hs (cd_draw (by have : 0 < ds.length := h0; omega) (by have : ds.length < 1073741824 := hl; omega) fun i i0 i1 => t_ix hs rfl i0 i1 fun d m _ => h2 d m)⟩
    | _ => cases h1)
abbrev s_law_is_whole : Stmt := topS 25
theorem sc_law_is_whole : FnScope ["value", "low", "high"] ["value", "low", "high"] (defScope s_law_is_whole) := ⟨rfl, rfl, rfl, by decide +kernel, rfl, by decide +kernel, by decide +kernel⟩
abbrev ct_law_is_whole : Ct := ctBet
theorem ok_law_is_whole {f : Addr} {fd : FuncData} {k : Nat} (F : Fun K "_law_is_whole" "_law_is_whole" s_law_is_whole f fd) (m_isinstance : mg "isinstance" = none) (m_bool : mg "bool" = none) (m_int : mg "int" = none) : FnG prog w K mg base CX0 (k + 1) f fd ["value", "low", "high"] (spOf (PaW w K) ct_law_is_whole) :=
  fnA F sc_law_is_whole (fun cdv A out s H E P ee C R pn hr =>
    (js_cons (js_ret (je_and (je_isi (T := "int") C (by decide) rfl rfl m_isinstance rfl m_int (by decide +kernel) rfl (by decide) (V_ 0) (by rfl) (by rfl)) (je_and (je_notV (je_isi (T := "bool") C (by decide) rfl rfl m_isinstance rfl m_bool (by decide +kernel) rfl (by decide) (V_ 0) (by rfl) (by rfl))) (je_one (je_chain (V_ 1) (V_ 0) (V_ 2) (by rfl))))))
      js_nil))
    (fun _ => rfl) (fun a Q h1 h2 => by
    obtain ⟨v, lo, hi⟩ := a
    have h2 : Q (.cl (.bool (isBet v lo hi))) := h2
    cases v with
    | int i =>
      have h2 : Q (.cl (.bool (decide (lo ≤ i) && decide (i ≤ hi)))) := h2
      refine ⟨_, rfl, rfl, t_isB (t_iteT rfl ⟨_, rfl, rfl, _, rfl, t_isB (t_iteT rfl ⟨_, rfl, _, rfl, _, rfl, t_ite (fun k => ⟨_, rfl, _, rfl, ?_⟩) fun k => ?_⟩)⟩)⟩
      · rw [k, Bool.true_and] at h2; exact h2
      · rw [k, Bool.false_and] at h2; exact h2
    | bool b => exact ⟨_, rfl, rfl, t_isB (t_iteT rfl ⟨_, rfl, rfl, _, rfl, t_isB (t_iteF rfl h2)⟩)⟩
    | _ => exact ⟨_, rfl, rfl, t_isB (t_iteF rfl h2)⟩)
abbrev s_law_is_rise : Stmt := topS 26
theorem sc_law_is_rise : FnScope ["value", "low", "high", "item", "one", "other"] ["value", "low", "high"] (defScope s_law_is_rise) := ⟨rfl, rfl, rfl, by decide +kernel, rfl, by decide +kernel, by decide +kernel⟩
abbrev ct_law_is_rise : Ct := ctRise
theorem ok_law_is_rise {f : Addr} {fd : FuncData} {k : Nat} (F : Fun K "_law_is_rise" "_law_is_rise" s_law_is_rise f fd) (m_zip : mg "zip" = none) (F__law_is_whole : CallOk prog w K mg base (PaW w K) k "_law_is_whole" ["value", "low", "high"] ct_law_is_whole) (m_isinstance : mg "isinstance" = none) (m_tuple : mg "tuple" = none) : FnG prog w K mg base CX0 (k + 1) f fd ["value", "low", "high"] (spOf (PaW w K) ct_law_is_rise) :=
  fnA F sc_law_is_rise (fun cdv A out s H E P ee C R pn hr =>
    (js_cons (js_if (jt_w (jw_or (jt_not (truth_ C (je_isi (T := "tuple") C (by decide) rfl rfl m_isinstance rfl m_tuple (by decide +kernel) rfl (by decide) (V_ 0) (by rfl) (by rfl)))) (jw_or1 (tcmp_ (dop_ne C) (lc_ C [("item", 3)] (it_ C (V_ 0)) (fun s H A cl fp => (n_ C.blk 3)) (fun s H A cl fp => jts_one (jt_not (truth_ C.blk (call_ C.blk F__law_is_whole hr (a1 (V_ 3) (a1 (V_ 1) (a1 (V_ 2) a0))))))) (fun s H A cl fp => je_int)) (je_lst a0))))) (js_cons (js_ret je_bl)
      js_nil) js_nil)
      (js_cons (js_ret (cmp_ (dop_eq C) (lc_ C [("one", 4), ("other", 5)] (zip_ C m_zip (a1 (V_ 0) (a1 (je_slice C (V_ 0) (jo_some je_int) jo_none) a0))) (fun s H A cl fp => (tp_ C.blk (g1 (n_ C.blk 4) (g1 (n_ C.blk 5) g0)))) (fun s H A cl fp => jts_one (tcmp_ (dop_cmp _) (V_ 4) (V_ 5))) (fun s H A cl fp => je_int)) (je_lst a0)))
      js_nil)))
    (fun _ => rfl) (fun a Q h1 h2 => by
    obtain ⟨v, hi⟩ := a
    have h1 : smB v = true := h1
    have h2 : Q (.cl (.bool (areDays v (hi + 1)))) := h2
    cases v with
    | tuple ds =>
      obtain ⟨sl, sm⟩ := sm_tup h1
      have h2 : Q (.cl (.bool (daysOk (hi + 1) none ds))) := h2
      refine ⟨_, rfl, rfl, rfl, trivial, t_iteF rfl ⟨_, rfl, t_it (ds := ds) rfl ⟨rfl, lcD_map (fun d => !isBet d 0 hi) (fun _ => PyData.int 1) ds (sz_of (by omega)) ?_ fun d md => ⟨_, bind_nm rfl, fun N hN => ⟨_, rfl, _, rfl, _, rfl, cd_bet ⟨rfl, trivial, hN _ rfl fun _ M hM => hM⟩⟩⟩⟩⟩⟩
      have im : ∀ n : List PD, immAll (n.map fun _ => PyData.int 1) = true := fun n => by rw [List.map_const']; exact ones_imm _
      rw [mkC_cl2 (im _)]
      refine ⟨rfl, sz_c rfl, t_onesNe (xs := ds) (p := fun d => !isBet d 0 hi) rfl rfl (congrArg PyData.list (vals_lf _)) rfl (t_isB (t_ite (fun k => ?_) fun k => ?_))⟩
      · have e : daysOk (hi + 1) none ds = false := by
          cases hz : daysOk (hi + 1) none ds with
          | false => rfl
          | true =>
            have a := days_all hz
            obtain ⟨d, md, hd⟩ := List.any_eq_true.mp k
            have := List.all_eq_true.mp a d md
            rw [this] at hd
            cases hd
        rw [e] at h2
        exact h2
      · have all : ds.all (fun d => isBet d 0 hi) = true := by
          rw [List.all_eq_true]
          intro d md
          have := List.any_eq_false.mp k d md
          simpa using this
        obtain ⟨zs, rfl, hz⟩ := ints_of_all all
        have h2 : Q (.cl (.bool (!(pairsI zs).any fun q => decide (q.1 ≥ q.2)))) := by
          rw [days_pairs hz] at h2
          cases zs <;> exact h2
        have lp := Rz.pairs_len zs
        rw [List.length_map] at sl
        refine ⟨_, rfl, _, rfl, 1, rfl, t_slT (es := (zs.drop 1).map PyData.int) (by rw [cut_one, List.map_drop]) ⟨_, _, _, _, _, _, rfl, rfl, rfl, ?_⟩⟩
        rw [zip_pairs]
        refine ⟨rfl, lcD_flt (enc := fun q : Int × Int => PyData.tuple [.int q.1, .int q.2]) (fun q => decide (q.1 ≥ q.2)) (fun _ => PyData.int 1) (pairsI zs) (sz_of (by omega)) ?_ fun q mq => ⟨_, bind_2 rfl rfl, fun M R hM hR => ⟨_, rfl, _, rfl, _, rfl, t_isB (t_ite hM hR)⟩⟩⟩
        have im2 : ∀ n : List (Int × Int), immAll (n.map fun _ => PyData.int 1) = true := fun n => by rw [List.map_const']; exact ones_imm _
        rw [mkC_cl2 (im2 _)]
        exact ⟨rfl, sz_c rfl, t_onesEq (xs := pairsI zs) (p := fun q => decide (q.1 ≥ q.2)) rfl rfl (congrArg PyData.list (vals_lf _)) rfl h2⟩
    | _ => exact ⟨_, rfl, rfl, rfl, trivial, t_iteT rfl h2⟩)
abbrev s_law_is_calendar : Stmt := topS 27
theorem sc_law_is_calendar : FnScope ["value"] ["value"] (defScope s_law_is_calendar) := ⟨rfl, rfl, rfl, by decide +kernel, rfl, by decide +kernel, by decide +kernel⟩
abbrev ct_law_is_calendar : Ct := ctCalS
theorem ok_law_is_calendar {f : Addr} {fd : FuncData} {k : Nat} (F : Fun K "_law_is_calendar" "_law_is_calendar" s_law_is_calendar f fd) (F__law_is_rise : CallOk prog w K mg base (PaW w K) k "_law_is_rise" ["value", "low", "high"] ct_law_is_rise) (F__law_is_whole : CallOk prog w K mg base (PaW w K) k "_law_is_whole" ["value", "low", "high"] ct_law_is_whole) (m_len : mg "len" = none) (m_isinstance : mg "isinstance" = none) (m_tuple : mg "tuple" = none) : FnG prog w K mg base CX0 (k + 1) f fd ["value"] (spOf (PaW w K) ct_law_is_calendar) :=
  fnA F sc_law_is_calendar (fun cdv A out s H E P ee C R pn hr =>
    (js_cons (js_if (jt_w (jw_or (jt_not (truth_ C (je_isi (T := "tuple") C (by decide) rfl rfl m_isinstance rfl m_tuple (by decide +kernel) rfl (by decide) (V_ 0) (by rfl) (by rfl)))) (jw_or1 (tcmp_ (dop_ne C) (len_ C m_len (a1 (V_ 0) a0)) je_int)))) (js_cons (js_ret je_bl)
      js_nil) js_nil)
      (js_cons (js_if (jt_w (jw_or (jt_not (truth_ C (call_ C F__law_is_whole hr (a1 (ix_ C (V_ 0) je_int) (a1 je_int (a1 je_int a0)))))) (jw_or1 (jt_not (truth_ C (call_ C F__law_is_whole hr (a1 (ix_ C (V_ 0) je_int) (a1 je_int (a1 je_int a0))))))))) (js_cons (js_ret je_bl)
      js_nil) js_nil)
      (js_cons (js_ret (call_ C F__law_is_rise hr (a1 (ix_ C (V_ 0) je_int) (a1 je_int (a1 (je_bin (dop_sub) (ix_ C (V_ 0) je_int) je_int) a0)))))
      js_nil))))
    (fun _ => rfl) (fun v Q h1 h2 => by
    have h1 : smB v = true := h1
    have h2 : Q (.cl (.bool (isCal v))) := h2
    cases v with
    | tuple ds =>
      have sm := (sm_tup h1).2
      refine ⟨_, rfl, rfl, rfl, trivial, t_iteF rfl ⟨_, rfl, _, rfl, t_len (ds := ds) rfl rfl ⟨rfl, rfl, ⟨rfl, rfl⟩, t_isB (t_ite (fun k => ?_) fun k => ?_)⟩⟩⟩
      · have e : isCal (.tuple ds) = false := by
          unfold isCal
          split
          · rename_i e; cases e
            have k : (!PyData.eqv (.int (3 : Int)) (.int 3)) = true := k
            rw [eqvI] at k
            exact absurd k (by decide)
          · rfl
        rw [e] at h2
        exact h2
      · have k : (!PyData.eqv (.int (ds.length : Int)) (.int 3)) = false := k
        rw [eqvI, Bool.not_eq_false', beq_iff_eq] at k
        obtain ⟨a, b, c, rfl⟩ : ∃ a b c, ds = [a, b, c] := by
          match ds, k with
          | [a, b, c], _ => exact ⟨a, b, c, rfl⟩
          | [], k => cases k
          | [_], k => cases k
          | [_, _], k => cases k
          | _ :: _ :: _ :: _ :: _, k => simp only [List.length_cons] at k; omega
        refine ⟨_, rfl, t_ixF rfl rfl rfl atI_0 (cd_bet ⟨rfl, trivial, t_ite (fun k2 => ?_) fun k2 => ?_⟩)⟩
        · have k2 : (!isBet a 0 6) = true := k2
          rw [Bool.not_eq_true'] at k2
          have e : isCal (.tuple [a, b, c]) = false := by
            unfold isCal
            split
            · rename_i e; cases e; rw [k2]; rfl
            · rfl
          rw [e] at h2
          exact h2
        · have k2 : (!isBet a 0 6) = false := k2
          rw [Bool.not_eq_false'] at k2
          refine ⟨_, rfl, t_ixF rfl rfl rfl atI_1 (cd_bet ⟨rfl, trivial, t_ite (fun k3 => ?_) fun k3 => ?_⟩)⟩
          · have k3 : (!isBet b 1 400) = true := k3
            rw [Bool.not_eq_true'] at k3
            have e : isCal (.tuple [a, b, c]) = false := by
              unfold isCal
              split
              · rename_i e; cases e; rw [k3]; simp
              · rfl
            rw [e] at h2
            exact h2
          · have k3 : (!isBet b 1 400) = false := k3
            rw [Bool.not_eq_false'] at k3
            obtain ⟨n, rfl, _, _⟩ := isBet_int k3
            have h2 : Q (.cl (.bool (isBet a 0 6 && isBet (.int n) 1 400 && areDays c n))) := h2
            rw [k2, k3, Bool.true_and] at h2
            refine ⟨_, rfl, t_ixF rfl rfl rfl atI_2 ⟨_, rfl, t_ixF rfl rfl rfl atI_1 ⟨_, _, rfl, rfl, cd_rise (sm c (by simp)) ?_⟩⟩⟩
            rw [show n - 1 + 1 = n by omega]
            exact h2
    | _ => exact ⟨_, rfl, rfl, rfl, trivial, t_iteT rfl h2⟩)
abbrev s_law_is_call : Stmt := topS 28
theorem sc_law_is_call : FnScope ["value", "glyph"] ["value"] (defScope s_law_is_call) := ⟨rfl, rfl, rfl, by decide +kernel, rfl, by decide +kernel, by decide +kernel⟩
abbrev ct_law_is_call : Ct := ctCl
theorem ok_law_is_call {f : Addr} {fd : FuncData} {k : Nat} (F : Fun K "_law_is_call" "_law_is_call" s_law_is_call f fd) (F__law_is_whole : CallOk prog w K mg base (PaW w K) k "_law_is_whole" ["value", "low", "high"] ct_law_is_whole) (m_len : mg "len" = none) (m_isinstance : mg "isinstance" = none) (m_str : mg "str" = none) (m_tuple : mg "tuple" = none) : FnG prog w K mg base CX0 (k + 1) f fd ["value"] (spOf (PaW w K) ct_law_is_call) :=
  fnA F sc_law_is_call (fun cdv A out s H E P ee C R pn hr =>
    (js_cons (js_if (jt_w (jw_or (jt_not (truth_ C (je_isi (T := "tuple") C (by decide) rfl rfl m_isinstance rfl m_tuple (by decide +kernel) rfl (by decide) (V_ 0) (by rfl) (by rfl)))) (jw_or (tcmp_ (dop_ne C) (len_ C m_len (a1 (V_ 0) a0)) je_int) (jw_or1 (jt_not (truth_ C (je_isi (T := "str") C (by decide) rfl rfl m_isinstance rfl m_str (by decide +kernel) rfl (by decide) (ix_ C (V_ 0) je_int) (by rfl) (by rfl)))))))) (js_cons (js_ret je_bl)
      js_nil) js_nil)
      (js_cons (js_if (jt_w (jw_or (jt_not (jt_chain je_int (len_ C m_len (a1 (ix_ C (V_ 0) je_int) a0)) je_int (by rfl))) (jw_or1 (tcmp_ (dop_ne C) (lc_ C [("glyph", 1)] (it_ C (ix_ C (V_ 0) je_int)) (fun s H A cl fp => (n_ C.blk 1)) (fun s H A cl fp => jts_one (jt_not (jt_chain je_str (V_ 1) je_str (by rfl)))) (fun s H A cl fp => je_int)) (je_lst a0))))) (js_cons (js_ret je_bl)
      js_nil) js_nil)
      (js_cons (js_ret (call_ C F__law_is_whole hr (a1 (ix_ C (V_ 0) je_int) (a1 je_int (a1 je_int a0)))))
      js_nil))))
    (fun _ => rfl) (fun v Q h1 h2 => by
    have h1 : smB v = true := h1
    have h2 : Q (.cl (.bool (isCl v))) := h2
    cases v with
    | tuple ds =>
      refine ⟨_, rfl, rfl, rfl, trivial, t_iteF rfl ⟨_, rfl, _, rfl, t_len (ds := ds) rfl rfl ⟨rfl, rfl, ⟨rfl, rfl⟩, t_isB (t_ite (fun k => t_iteT rfl ?_) fun k => ?_)⟩⟩⟩
      · have e : isCl (.tuple ds) = false := by
          unfold isCl
          split
          · rename_i e; cases e
            rw [show PyData.eqv (Rv.cl (PyData.int (([_, _] : List PD).length : Int))).val (Rv.cl (PyData.int 2)).val = true from eqvI] at k
            cases k
          · rfl
        rw [e] at h2
        exact h2
      · have k : (!PyData.eqv (.int (ds.length : Int)) (.int 2)) = false := k
        rw [eqvI, Bool.not_eq_false', beq_iff_eq] at k
        obtain ⟨a, b, rfl⟩ : ∃ a b, ds = [a, b] := by
          match ds, k with
          | [a, b], _ => exact ⟨a, b, rfl⟩
          | [], k => cases k
          | [_], k => cases k
          | _ :: _ :: _ :: _, k => simp only [List.length_cons] at k; omega
        have sm := (sm_tup h1).2
        have h2 : Q (.cl (.bool (isNm a && isBet b 0 2879))) := h2
        cases a with
        | str x =>
          have hx := sm_str (sm (.str x) (by simp))
          have hl : x.cps.toList.length ≤ 20000 := by rw [Array.length_toList]; exact hx
          have h2 : Q (.cl (.bool ((decide (1 ≤ x.length) && decide (x.length ≤ 12) && x.cps.toList.all lowB) && isBet b 0 2879))) := h2
          have no : ¬ (1 ≤ x.length ∧ x.length ≤ 12) → Q (.cl (.bool false)) := fun h => by
            have e : (decide (1 ≤ x.length) && decide (x.length ≤ 12)) = false := by
              rw [← Bool.decide_and]; exact decide_eq_false h
            rw [e] at h2; exact h2
          refine ⟨_, rfl, t_ixF rfl rfl rfl atI_0 ⟨rfl, rfl, trivial, t_iteF rfl ?_⟩⟩
          refine ⟨_, rfl, t_ixF rfl rfl rfl atI_0 ⟨_, rfl, t_lenS rfl rfl (sz_of (by omega)) ⟨_, rfl, t_ite (fun k => ⟨_, rfl, t_ite (fun k2 => t_iteT rfl (no fun h => ?_)) fun k2 => ?_⟩) fun k => t_iteT rfl (t_iteT rfl (no fun h => ?_))⟩⟩⟩
          · have k2 : (!decide ((x.length : Int) ≤ 12)) = true := k2
            rw [Bool.not_eq_true', decide_eq_false_iff_not] at k2
            omega
          · have k2 : (!decide ((x.length : Int) ≤ 12)) = false := k2
            rw [Bool.not_eq_false', decide_eq_true_iff] at k2
            have k := of_decide_eq_true k
            have e : (decide (1 ≤ x.length) && decide (x.length ≤ 12)) = true := by
              rw [← Bool.decide_and]; exact decide_eq_true ⟨by omega, by omega⟩
            rw [e, Bool.true_and] at h2
            refine ⟨_, rfl, t_ixF rfl rfl rfl atI_0 ⟨rfl, lcD_flt (enc := fun c => PyData.str ⟨#[c]⟩) (fun c => !lowB c) (fun _ => PyData.int 1) x.cps.toList (sz_of (by omega)) ?_ fun c m => ⟨_, bind_nm rfl, fun M R hM hR => ⟨_, rfl, _, rfl, t_ite (fun ka => ⟨_, rfl, t_ite (fun kz => hM ?_) fun kz => hR ?_⟩) fun ka => t_iteT rfl (hM ?_)⟩⟩⟩⟩
            · have im2 : ∀ n : List Nat, immAll (n.map fun _ => PyData.int 1) = true := fun n => by rw [List.map_const']; exact ones_imm _
              rw [mkC_cl2 (im2 _)]
              refine ⟨rfl, sz_c rfl, t_onesNe (xs := x.cps.toList) (p := fun c => !lowB c) rfl rfl (congrArg PyData.list (vals_lf _)) rfl (t_isB (t_ite (fun k => ?_) fun k => ?_))⟩
              · have e : x.cps.toList.all lowB = false := by
                  rw [List.all_eq_false]
                  obtain ⟨c, mc, hc⟩ := List.any_eq_true.mp k
                  exact ⟨c, mc, by simpa using hc⟩
                rw [e] at h2; exact h2
              · have e : x.cps.toList.all lowB = true := by
                  rw [List.all_eq_true]
                  intro c mc
                  have := List.any_eq_false.mp k c mc
                  simpa using this
                rw [e, Bool.true_and] at h2
                exact ⟨_, rfl, t_ixF rfl rfl rfl atI_1 (cd_bet h2)⟩
            · have ka : (!strLt ⟨#[c]⟩ ("a" : Str)) = true := ka
              have kz : (!(!strLt ("z" : Str) ⟨#[c]⟩)) = true := kz
              rw [low_z] at kz
              unfold lowB
              rw [Bool.not_eq_true'] at kz
              rw [kz, Bool.and_false]; rfl
            · have ka : (!strLt ⟨#[c]⟩ ("a" : Str)) = true := ka
              have kz : (!(!strLt ("z" : Str) ⟨#[c]⟩)) = false := kz
              rw [low_a] at ka
              rw [low_z, Bool.not_eq_false'] at kz
              unfold lowB
              rw [ka, kz]; rfl
            · have ka : (!strLt ⟨#[c]⟩ ("a" : Str)) = false := ka
              rw [low_a] at ka
              unfold lowB
              rw [ka]; rfl
          · have k := of_decide_eq_false k
            omega
        | _ => exact ⟨_, rfl, t_ixF rfl rfl rfl atI_0 ⟨rfl, rfl, trivial, t_iteT rfl h2⟩⟩
    | _ => exact ⟨_, rfl, rfl, rfl, trivial, t_iteT rfl (t_iteT rfl h2)⟩)
abbrev s_law_train_error : Stmt := topS 29
theorem sc_law_train_error : FnScope ["calendar", "value", "least", "place", "calls", "further", "call"] ["calendar", "value", "least", "place"] (defScope s_law_train_error) := ⟨rfl, rfl, rfl, by decide +kernel, rfl, by decide +kernel, by decide +kernel⟩
abbrev ct_law_train_error : Ct := ctLTrain
theorem ok_law_train_error {f : Addr} {fd : FuncData} {k : Nat} (F : Fun K "_law_train_error" "_law_train_error" s_law_train_error f fd) (m_range : mg "range" = none) (m_len : mg "len" = none) (m_enumerate : mg "enumerate" = none) (F__law_is_call : CallOk prog w K mg base (PaW w K) k "_law_is_call" ["value"] ct_law_is_call) (m_isinstance : mg "isinstance" = none) (m_tuple : mg "tuple" = none) (F__law_is_rise : CallOk prog w K mg base (PaW w K) k "_law_is_rise" ["value", "low", "high"] ct_law_is_rise) (F__law_is_whole : CallOk prog w K mg base (PaW w K) k "_law_is_whole" ["value", "low", "high"] ct_law_is_whole) (m_max : mg "max" = none) : FnG prog w K mg base CX0 (k + 1) f fd ["calendar", "value", "least", "place"] (spOf (PaW w K) ct_law_train_error) :=
  fnA F sc_law_train_error (fun cdv A out s H E P ee C R pn hr =>
    (js_cons (js_if (jt_w (jw_or (jt_not (truth_ C (je_isi (T := "tuple") C (by decide) rfl rfl m_isinstance rfl m_tuple (by decide +kernel) rfl (by decide) (V_ 1) (by rfl) (by rfl)))) (jw_or1 (tcmp_ (dop_ne C) (len_ C m_len (a1 (V_ 1) a0)) je_int)))) (js_cons (js_ret (je_tup (a1 je_str (a1 (V_ 3) a0))))
      js_nil) js_nil)
      (js_cons (js_if (jt_not (truth_ C (call_ C F__law_is_whole hr (a1 (ix_ C (V_ 1) je_int) (a1 (max2_ C m_max (a1 je_int (a1 (je_bin (dop_add C) (V_ 2) je_int) a0))) (a1 je_int a0)))))) (js_cons (js_ret (je_tup (a1 je_str (a1 (V_ 3) a0))))
      js_nil) js_nil)
      (js_cons (js_if (jt_w (jw_or (tcmp_ (dop_eqE C) (ix_ C (V_ 1) je_int) (je_tup a0)) (jw_or1 (jt_not (truth_ C (call_ C F__law_is_rise hr (a1 (ix_ C (V_ 1) je_int) (a1 je_int (a1 (je_bin (dop_sub) (ix_ C (V_ 0) je_int) je_int) a0))))))))) (js_cons (js_ret (je_tup (a1 je_str (a1 (V_ 3) a0))))
      js_nil) js_nil)
      (js_cons (set_ C (pn _) (ix_ C (V_ 1) je_int) (i := 4))
      (js_cons (js_if (jt_w (jw_or (jt_not (truth_ C (je_isi (T := "tuple") C (by decide) rfl rfl m_isinstance rfl m_tuple (by decide +kernel) rfl (by decide) (V_ 4) (by rfl) (by rfl)))) (jw_or1 (tcmp_ (dop_eqE C) (V_ 4) (je_tup a0))))) (js_cons (js_ret (je_tup (a1 je_str (a1 (V_ 3) a0))))
      js_nil) js_nil)
      (jss_frz 4 (js_cons (for_ C (fun j _ => pn j) (enum_ C m_enumerate (a1 (V_ 4) a0)) (tp_ C (g1 (n_ C 5) (g1 (n_ C 6) g0))) (js_cons (js_if (jt_not (truth_ C (call_ C F__law_is_call hr (a1 (V_ 6) a0)))) (js_cons (js_ret (je_tup (a1 je_str (a1 (V_ 3) (a1 (V_ 5) a0)))))
      js_nil) js_nil)
      js_nil))
      (jss_frz 4 (js_cons (for_ C (fun j _ => pn j) (rng2_ m_range (a1 je_int (a1 (len_ C m_len (a1 (V_ 4) a0)) a0))) (n_ C 5) (js_cons (js_if (tcmp_ (dop_cmp _) (ix_ C (ix_ C (V_ 4) (V_ 5)) je_int) (ix_ C (ix_ C (V_ 4) (je_bin (dop_sub) (V_ 5) je_int)) je_int)) (js_cons (js_ret (je_tup (a1 je_str (a1 (V_ 3) (a1 (V_ 5) a0)))))
      js_nil) js_nil)
      js_nil))
      (js_cons (js_ret je_non)
      js_nil)))))))))))
    (fun _ => rfl) (fun a Q h1 h2 => by
    obtain ⟨⟨a, n, c⟩, v, least, place⟩ := a
    obtain ⟨h1, h0⟩ := h1
    have h1 : smB v = true := h1
    have h0 : 0 ≤ least := h0
    have h2 : Q (.cl (trErr n (prevOf least) v place)) := h2
    cases v with
    | tuple ds =>
      refine ⟨_, rfl, rfl, rfl, trivial, t_iteF rfl ⟨_, rfl, _, rfl, t_len (ds := ds) rfl rfl ⟨rfl, rfl, ⟨rfl, rfl⟩, t_isB (t_ite (fun k => ?_) fun k => ?_)⟩⟩⟩
      · have e : trErr n (prevOf least) (.tuple ds) place = .tuple [.str "train", .int place] := by
          unfold trErr
          split
          · rename_i e; cases e
            have k : (!PyData.eqv (.int (3 : Int)) (.int 3)) = true := k
            rw [eqvI] at k
            exact absurd k (by decide)
          · rfl
        rw [e] at h2
        exact ⟨_, rfl, rfl, sz_c rfl, h2⟩
      · have k : (!PyData.eqv (.int (ds.length : Int)) (.int 3)) = false := k
        rw [eqvI, Bool.not_eq_false', beq_iff_eq] at k
        obtain ⟨num, days, calls, rfl⟩ : ∃ a b c, ds = [a, b, c] := by
          match ds, k with
          | [a, b, c], _ => exact ⟨a, b, c, rfl⟩
          | [], k => cases k
          | [_], k => cases k
          | [_, _], k => cases k
          | _ :: _ :: _ :: _ :: _, k => simp only [List.length_cons] at k; omega
        have sm := (sm_tup h1).2
        have h2 : Q (.cl (if isBet num 1 9999 && aheadOk (prevOf least) num then
            if areDays days n && !isNilT days then callsErr calls place else .tuple [.str "days", .int place]
          else .tuple [.str "number", .int place])) := h2
        refine ⟨_, rfl, t_ixF rfl rfl rfl atI_0 ⟨_, rfl, t_addI ⟨_, _, rfl, _, _, rfl, rfl, cd_bet ⟨rfl, trivial, ?_⟩⟩⟩⟩
        rw [show truD (Rv.cl (PyData.bool (isBet num (if least + 1 > 1 then least + 1 else 1) 9999))).val = isBet num (if least + 1 > 1 then least + 1 else 1) 9999 from rfl, bet_least h0]
        refine t_ite (fun k2 => ?_) fun k2 => ?_
        · rw [Bool.not_eq_true'] at k2
          rw [if_neg (by rw [k2]; simp)] at h2
          exact ⟨_, rfl, rfl, sz_c rfl, h2⟩
        · rw [Bool.not_eq_false'] at k2
          rw [if_pos k2] at h2
          refine ⟨_, rfl, t_ixF rfl rfl rfl atI_1 ⟨rfl, sz_c rfl, rfl, rfl, sm_eqE (sm days (by simp)), t_isB (t_ite (fun k4 => t_iteT rfl ?_) fun k4 => ?_)⟩⟩
          · have k4 : isNilT days = true := k4
            rw [k4, if_neg (by simp)] at h2
            exact ⟨_, rfl, rfl, sz_c rfl, h2⟩
          · have k4 : isNilT days = false := k4
            refine ⟨_, rfl, t_ixF rfl rfl rfl atI_1 ⟨_, rfl, t_ixF rfl rfl rfl atI_1 ⟨_, _, rfl, rfl, cd_rise (sm days (by simp)) ⟨rfl, trivial, ?_⟩⟩⟩⟩
            rw [show n - 1 + 1 = n by omega]
            refine t_ite (fun k3 => ?_) fun k3 => ?_
            · have k3 : (!areDays days n) = true := k3
              rw [Bool.not_eq_true'] at k3
              rw [k3, Bool.false_and, if_neg (by simp)] at h2
              exact ⟨_, rfl, rfl, sz_c rfl, h2⟩
            · have k3 : (!areDays days n) = false := k3
              rw [Bool.not_eq_false'] at k3
              rw [k3, k4, if_pos (by rfl)] at h2
              refine ⟨_, rfl, t_ixF rfl rfl rfl atI_2 ⟨_, set_ok rfl rfl, ?_⟩⟩
              have sc := sm calls (by simp)
              cases calls with
              | tuple cs =>
                cases cs with
                | nil => exact ⟨_, rfl, rfl, rfl, trivial, t_iteF rfl ⟨_, rfl, rfl, sz_c rfl, rfl, rfl, rfl, t_isB (t_iteT rfl ⟨_, rfl, rfl, sz_c rfl, h2⟩)⟩⟩
                | cons d0 ds0 =>
                  obtain ⟨sl, scm⟩ := sm_tup sc
                  have h2 : Q (.cl (match callE place 0 (d0 :: ds0) with
                    | some e => e
                    | none => (riseE place 1 (minD d0) ds0).getD .none)) := h2
                  have hc : callE place 0 (d0 :: ds0) = none → Q (.cl ((riseE place 1 (minD d0) ds0).getD .none)) := fun e => by
                    rw [e] at h2
                    exact h2
                  have hb : ∀ x, callE place 0 (d0 :: ds0) = some x → Q (.cl x) := fun x e => by
                    rw [e] at h2
                    exact h2
                  refine ⟨_, rfl, rfl, rfl, trivial, t_iteF rfl ⟨_, rfl, rfl, sz_c rfl, rfl, rfl, rfl, t_isB (t_iteF rfl ?_)⟩⟩
                  refine ⟨_, rfl, .inl ⟨_, rfl, _, _, rfl, rfl, forT_enumP (d0 :: ds0) (fun done ρ => ∃ s5 s6 : SV, ρ = [.sh (.tuple [a, .int n, c]), .sh (.tuple [num, days, .tuple (d0 :: ds0)]), .sh (.int least), .sh (.int place), .sh (.tuple (d0 :: ds0)), s5, s6] ∧ freeAt [5, 6] ρ ∧ ∀ d ∈ done, isCl d = true) (fun ρ h => ?_) (fun done d rest ρ N e h kk => ?_) _ ⟨_, _, rfl, fun i hi => ?_, fun _ m => nomatch m⟩⟩⟩
                  · obtain ⟨s5, s6, rfl, hf, hd⟩ := h
                    have hc := hc (by
                      have z := callE_skip (k := place) (d0 :: ds0) [] 0 hd
                      rw [List.append_nil] at z
                      rw [z]; rfl)
                    have ln : (((d0 :: ds0).length : Int) - 1).toNat = ds0.length := by rw [List.length_cons]; omega
                    have l20 : ds0.length < 20000 := by rw [List.length_cons] at sl; omega
                    refine ⟨_, rfl, _, rfl, t_len (ds := d0 :: ds0) rfl rfl ⟨_, _, _, _, rfl, rfl, rfl, ⟨by decide, by decide⟩, smallI_of (by rw [List.length_cons]; omega) (by rw [List.length_cons]; omega), ?_⟩⟩
                    rw [ln]
                    refine ⟨rfl, forT_range ds0.length (fun j ρ => ∃ s5 s6 : SV, ρ = [.sh (.tuple [a, .int n, c]), .sh (.tuple [num, days, .tuple (d0 :: ds0)]), .sh (.int least), .sh (.int place), .sh (.tuple (d0 :: ds0)), s5, s6] ∧ freeAt [5, 6] ρ ∧ ∃ x r, (d0 :: ds0).drop j = x :: r ∧ riseE place 1 (minD d0) ds0 = riseE place (j + 1) (minD x) r) (fun ρ h => ?_) (fun j ρ N hj h kk => ?_) _ ⟨s5, s6, rfl, hf, d0, ds0, rfl, rfl⟩⟩
                    · obtain ⟨s5, s6, rfl, hf, x, r, er, ee⟩ := h
                      have lr := congrArg List.length er
                      rw [List.length_drop, List.length_cons, List.length_cons] at lr
                      have : r = [] := List.eq_nil_of_length_eq_zero (by omega)
                      subst this
                      rw [ee] at hc
                      exact hc
                    · obtain ⟨s5, s6, rfl, hf, x, r, er, ee⟩ := h
                      have lr := congrArg List.length er
                      rw [List.length_drop, List.length_cons, List.length_cons] at lr
                      cases r with
                      | nil => rw [List.length_nil] at lr; omega
                      | cons y r =>
                        have ex : (d0 :: ds0)[j]? = some x := by rw [← List.head?_drop, er]; rfl
                        have er2 : (d0 :: ds0).drop (j + 1) = y :: r := by rw [← List.drop_drop, er]; rfl
                        have ey : (d0 :: ds0)[j + 1]? = some y := by rw [← List.head?_drop, er2]; rfl
                        obtain ⟨nx, mx, rfl, _, _, _⟩ := isCl_two (hd x (List.mem_of_getElem? ex))
                        obtain ⟨ny, my, rfl, _, _, _⟩ := isCl_two (hd y (List.mem_of_getElem? ey))
                        have ax : atI (d0 :: ds0) (1 + (j : Int) - 1) = some (.tuple [.str nx, .int mx]) := by
                          rw [show (1 + (j : Int) - 1) = (j : Int) by omega]; exact atI_nat ex
                        have ay : atI (d0 :: ds0) (1 + (j : Int)) = some (.tuple [.str ny, .int my]) := by
                          rw [show (1 + (j : Int)) = ((j + 1 : Nat) : Int) by omega]; exact atI_nat ey
                        refine ⟨_, bind_nm (hf 5 (by simp)), ?_⟩
                        refine ⟨_, rfl, _, rfl, t_ixF rfl rfl rfl ay (t_ixF rfl rfl rfl atI_1 ⟨_, rfl, _, rfl, _, _, rfl, rfl, t_ixF rfl rfl rfl ax (t_ixF rfl rfl rfl atI_1 ⟨_, rfl, t_isB (t_ite (fun k3 => ?_) fun k3 => ?_)⟩)⟩)⟩
                        · have k3 : decide (my ≤ mx) = true := k3
                          refine ⟨_, rfl, _, rfl, rfl, sz_c rfl, ?_⟩
                          rw [ee] at hc
                          unfold riseE at hc
                          rw [if_pos (show decide (minD (.tuple [.str ny, .int my]) ≤ minD (.tuple [.str nx, .int mx])) = true from k3)] at hc
                          rw [show ((j + 1 : Nat) : Int) = 1 + (j : Int) by omega] at hc
                          exact hc
                        · have k3 : decide (my ≤ mx) = false := k3
                          refine kk _ ⟨_, _, rfl, fun i hi => ?_, _, _, er2, ?_⟩
                          · simp only [List.mem_cons, List.not_mem_nil, or_false] at hi
                            rcases hi with rfl | rfl
                            · exact rfl
                            · exact hf 6 (by simp)
                          · rw [ee]
                            show (if decide (my ≤ mx) = true then _ else _) = _
                            rw [if_neg (by rw [k3]; simp)]
                  · obtain ⟨s5, s6, rfl, hf, hd⟩ := h
                    have md : d ∈ d0 :: ds0 := by rw [e]; simp
                    refine ⟨_, bind_2 (hf 5 (by simp)) (hf 6 (by simp)), ?_⟩
                    refine ⟨_, rfl, cd_cl (scm d md) ⟨rfl, trivial, t_ite (fun k1 => ?_) fun k1 => ?_⟩⟩
                    · have k1 : (!isCl d) = true := k1
                      rw [Bool.not_eq_true'] at k1
                      refine ⟨_, rfl, _, rfl, rfl, sz_c rfl, hb _ ?_⟩
                      rw [e, callE_skip done _ 0 hd, Nat.zero_add]
                      show (if isCl d = true then _ else _) = _
                      rw [if_neg (by rw [k1]; simp)]
                      rfl
                    · have k1 : (!isCl d) = false := k1
                      rw [Bool.not_eq_false'] at k1
                      refine kk _ ⟨_, _, rfl, fun i hi => ?_, fun d' m => ?_⟩
                      · simp only [List.mem_cons, List.not_mem_nil, or_false] at hi
                        rcases hi with rfl | rfl <;> rfl
                      · rcases List.mem_append.mp m with q | q
                        · exact hd d' q
                        · rw [List.mem_singleton.mp q]; exact k1
                  · simp only [List.mem_cons, List.not_mem_nil, or_false] at hi
                    rcases hi with rfl | rfl <;> rfl
              | _ => exact ⟨_, rfl, rfl, rfl, trivial, t_iteT rfl (t_iteT rfl ⟨_, rfl, rfl, sz_c rfl, h2⟩)⟩
    | _ => exact ⟨_, rfl, rfl, rfl, trivial, t_iteT rfl ⟨_, rfl, rfl, sz_c rfl, h2⟩⟩)
abbrev s_law_error : Stmt := topS 30
theorem sc_law_error : FnScope ["value", "least", "names", "many", "place", "train", "fault", "name", "minute"] ["value"] (defScope s_law_error) := ⟨rfl, rfl, rfl, by decide +kernel, rfl, by decide +kernel, by decide +kernel⟩
abbrev ct_law_error : Ct := ctPlanE
theorem ok_law_error {f : Addr} {fd : FuncData} {k : Nat} (F : Fun K "_law_error" "_law_error" s_law_error f fd) (m_len : mg "len" = none) (m_enumerate : mg "enumerate" = none) (F__law_train_error : CallOk prog w K mg base (PaW w K) k "_law_train_error" ["calendar", "value", "least", "place"] ct_law_train_error) (m_isinstance : mg "isinstance" = none) (m_tuple : mg "tuple" = none) (F__law_is_calendar : CallOk prog w K mg base (PaW w K) k "_law_is_calendar" ["value"] ct_law_is_calendar) : FnG prog w K mg base CX0 (k + 1) f fd ["value"] (spOf (PaW w K) ct_law_error) :=
  fnA F sc_law_error (fun cdv A out s H E P ee C R pn hr =>
    (js_cons (js_if (jt_w (jw_or (jt_not (truth_ C (je_isi (T := "tuple") C (by decide) rfl rfl m_isinstance rfl m_tuple (by decide +kernel) rfl (by decide) (V_ 0) (by rfl) (by rfl)))) (jw_or1 (tcmp_ (dop_ne C) (len_ C m_len (a1 (V_ 0) a0)) je_int)))) (js_cons (js_ret je_str)
      js_nil) js_nil)
      (js_cons (js_if (jt_not (truth_ C (call_ C F__law_is_calendar hr (a1 (ix_ C (V_ 0) je_int) a0)))) (js_cons (js_ret je_str)
      js_nil) js_nil)
      (js_cons (js_if (jt_w (jw_or (jt_not (truth_ C (je_isi (T := "tuple") C (by decide) rfl rfl m_isinstance rfl m_tuple (by decide +kernel) rfl (by decide) (ix_ C (V_ 0) je_int) (by rfl) (by rfl)))) (jw_or1 (tcmp_ (dop_cmp _) (len_ C m_len (a1 (ix_ C (V_ 0) je_int) a0)) je_int)))) (js_cons (js_ret je_str)
      js_nil) js_nil)
      (js_cons (mul_ C [1, 2, 3] ["least", "names", "many"] (fun j _ => pn j) (a1 je_int (a1 je_dnew (a1 je_int a0))))
      (jss_frz 0 (js_cons (for_ C (fun j _ => pn j) (enum_ C m_enumerate (a1 (ix_ C (V_ 0) je_int) a0)) (tp_ C (g1 (n_ C 4) (g1 (n_ C 5) g0))) (js_cons (set_ C (pn _) (call_ C F__law_train_error hr (a1 (ix_ C (V_ 0) je_int) (a1 (V_ 5) (a1 (V_ 1) (a1 (V_ 4) a0))))) (i := 6))
      (js_cons (js_if (tcmp_ (dop_isNot) (V_ 6) je_non) (js_cons (js_retX (M_ 6))
      js_nil) js_nil)
      (js_cons (mul_ C [1, 3] ["least", "many"] (fun j _ => pn j) (a1 (ix_ C (V_ 5) je_int) (a1 (je_bin (dop_add C) (V_ 3) (len_ C m_len (a1 (ix_ C (V_ 5) je_int) a0))) a0)))
      (js_cons (for_ C (fun j _ => pn j) (it_ C (ix_ C (V_ 5) je_int)) (tp_ C (g1 (n_ C 7) (g1 (n_ C 8) g0))) (js_cons (setIx_ C je_bl (L_ 2) (V_ 7))
      js_nil))
      js_nil)))))
      (js_cons (js_if (tcmp_ (dop_cmp _) (len_ C m_len (a1 (V_ 2) a0)) je_int) (js_cons (js_ret je_str)
      js_nil) js_nil)
      (js_cons (js_ret (je_if (tcmp_ (dop_cmp _) (V_ 3) je_int) je_str je_non))
      js_nil)))))))))
    (fun _ => rfl) (fun v Q h1 h2 => by
    have h1 : smB v = true := h1
    have h2 : Q (.cl (planErr v)) := h2
    cases v with
    | tuple ds =>
      refine ⟨_, rfl, rfl, rfl, trivial, t_iteF rfl ⟨_, rfl, _, rfl, t_len (ds := ds) rfl rfl ⟨rfl, rfl, ⟨rfl, rfl⟩, t_isB (t_ite (fun k => ?_) fun k => ?_)⟩⟩⟩
      · have e : planErr (.tuple ds) = .str "form" := by
          unfold planErr
          split
          · rename_i e; cases e
            have k : (!PyData.eqv (.int (2 : Int)) (.int 2)) = true := k
            rw [eqvI] at k
            exact absurd k (by decide)
          · rfl
        rw [e] at h2
        exact h2
      · have k : (!PyData.eqv (.int (ds.length : Int)) (.int 2)) = false := k
        rw [eqvI, Bool.not_eq_false', beq_iff_eq] at k
        obtain ⟨cal, trs, rfl⟩ : ∃ a b, ds = [a, b] := by
          match ds, k with
          | [a, b], _ => exact ⟨a, b, rfl⟩
          | [], k => cases k
          | [_], k => cases k
          | _ :: _ :: _ :: _, k => simp only [List.length_cons] at k; omega
        have sm := (sm_tup h1).2
        refine ⟨_, rfl, t_ixF rfl rfl rfl atI_0 (cd_calS (sm cal (by simp)) ⟨rfl, trivial, t_ite (fun k2 => ?_) fun k2 => ?_⟩)⟩
        · have k2 : (!isCal cal) = true := k2
          rw [Bool.not_eq_true'] at k2
          have e : planErr (.tuple [cal, trs]) = .str "calendar" := by
            unfold planErr
            simp only [k2]
            rfl
          rw [e] at h2
          exact h2
        · have k2 : (!isCal cal) = false := k2
          rw [Bool.not_eq_false'] at k2
          obtain ⟨hk, a, n, c, rfl⟩ := isCal_dec k2
          have e' : (∀ ts, trs ≠ .tuple ts) → planErr (.tuple [.tuple [a, .int n, c], trs]) = .str "trains" := fun h => by
            show (if isCal _ then _ else _) = _
            rw [if_pos k2]
            cases trs <;> first | rfl | exact absurd rfl (h _)
          cases trs with
          | tuple ts =>
            have e : planErr (.tuple [.tuple [a, .int n, c], .tuple ts]) = (if ts.length ≤ 24 then match trsErr n 0 none ts with
              | some e => e
              | none => if (namesT [] (ts.map decT)).length ≤ 16 then (if manyC (ts.map decT) ≤ 200 then .none else .str "many") else .str "stations"
            else .str "trains") := by
              show (if isCal _ then _ else _) = _
              rw [if_pos k2]
              rfl
            rw [e] at h2
            refine ⟨_, rfl, t_ixF rfl rfl rfl atI_1 ⟨rfl, rfl, trivial, t_iteF rfl ⟨_, rfl, t_ixF rfl rfl rfl atI_1 ⟨_, rfl, t_len (ds := ts) rfl rfl ⟨_, rfl, t_isB (t_ite (fun k3 => ?_) fun k3 => ?_)⟩⟩⟩⟩⟩
            · have k3 : decide ((24 : Int) < (ts.length : Int)) = true := k3
              rw [decide_eq_true_iff] at k3
              rw [if_neg (by omega)] at h2
              exact h2
            · have k3 : decide ((24 : Int) < (ts.length : Int)) = false := k3
              rw [decide_eq_false_iff_not] at k3
              rw [if_pos (by omega)] at h2
              have sl : ts.length ≤ 24 := by omega
              have smt : smB (.tuple ts) = true := sm _ (by simp)
              have sts := (sm_tup smt).2
              refine ⟨sz_c rfl, _, sets_cons rfl rfl (sets_cons rfl rfl (sets_cons rfl rfl rfl)), ?_⟩
              refine ⟨_, rfl, t_ixF rfl rfl rfl atI_1 (.inl ⟨_, rfl, _, _, rfl, rfl, forT_enumP ts (fun done ρ => ∃ (least : Int) (s4 s5 s6 s7 s8 : SV), ρ = [.sh (.tuple [.tuple [a, .int n, c], .tuple ts]), .sh (.int least), .ow (.dc (dictOf (namesT [] (done.map decT)) fun _ => .lf (.bool true))), .sh (.int (manyC (done.map decT) : Nat)), s4, s5, s6, s7, s8] ∧ freeAt [4, 5, 6, 7, 8] ρ ∧ 0 ≤ least ∧ ∀ rest, ts = done ++ rest → trsErr n 0 none ts = trsErr n done.length (prevOf least) rest) (fun ρ h => ?_) (fun done d rest ρ N e h kk => ?_) _ ⟨0, _, _, _, _, _, rfl, fun i hi => ?_, Int.le_refl _, fun rest e => by rw [e]; rfl⟩⟩)⟩
              · obtain ⟨least, s4, s5, s6, s7, s8, rfl, hf, l0, hr⟩ := h
                have ee : trsErr n 0 none ts = none := hr [] (List.append_nil _).symm
                rw [ee] at h2
                have h2 : Q (.cl (if (namesT [] (ts.map decT)).length ≤ 16 then (if manyC (ts.map decT) ≤ 200 then .none else .str "many") else .str "stations")) := h2
                have hk : (ODvalsE (dictOf (namesT [] (ts.map decT)) fun _ => OD.lf (.bool true))).length = (namesT [] (ts.map decT)).length := by rw [valsE_dict, dict_len]
                refine ⟨_, rfl, _, rfl, t_lenDc (kvs := ODvalsE (dictOf (namesT [] (ts.map decT)) fun _ => OD.lf (.bool true))) rfl (isIns_keys fun d m => by rw [valsE_dict, dict_keys] at m; obtain ⟨_, _, e⟩ := List.mem_map.mp m; cases e) ⟨_, rfl, t_isB ?_⟩⟩
                rw [hk]
                refine t_ite (fun k5 => ?_) fun k5 => ?_
                · have k5 := of_decide_eq_true k5
                  rw [if_neg (by omega)] at h2
                  exact h2
                · have k5 := of_decide_eq_false k5
                  rw [if_pos (by omega)] at h2
                  refine ⟨_, rfl, _, rfl, t_isB (t_ite (fun k6 => ?_) fun k6 => ?_)⟩
                  · have k6 : decide ((200 : Int) < (manyC (ts.map decT) : Int)) = true := k6
                    rw [decide_eq_true_iff] at k6
                    rw [if_neg (by omega)] at h2
                    exact h2
                  · have k6 : decide ((200 : Int) < (manyC (ts.map decT) : Int)) = false := k6
                    rw [decide_eq_false_iff_not] at k6
                    rw [if_pos (by omega)] at h2
                    exact h2
              · obtain ⟨least, s4, s5, s6, s7, s8, rfl, hf, l0, hr⟩ := h
                have ee := hr _ e
                have ee : trsErr n 0 none ts = if isNoneD (trErr n (prevOf least) d done.length) then trsErr n (done.length + 1) (numD d) rest else some (trErr n (prevOf least) d done.length) := ee
                refine ⟨_, bind_2 (hf 4 (by simp)) (hf 5 (by simp)), ?_⟩
                refine ⟨_, rfl, t_ixF rfl rfl rfl atI_0 ⟨_, rfl, _, rfl, _, rfl, cd_ltrain (sts d (by rw [e]; simp)) l0 ⟨_, set_ok (hf 6 (by simp)) rfl, ?_⟩⟩⟩
                refine ⟨_, rfl, rfl, rfl, rfl, t_isB (t_ite (fun k4 => ?_) fun k4 => ?_)⟩
                · have k4 : (!isNoneD (trErr n (prevOf least) d done.length)) = true := k4
                  rw [Bool.not_eq_true'] at k4
                  rw [k4, if_neg (by simp)] at ee
                  rw [ee] at h2
                  exact h2
                · have k4 : (!isNoneD (trErr n (prevOf least) d done.length)) = false := k4
                  rw [Bool.not_eq_false'] at k4
                  rw [k4, if_pos rfl] at ee
                  have kn := isNone_eq k4
                  obtain ⟨hdec, i, x, cs, rfl⟩ := tr_none kn
                  have hi1 := tr_num kn
                  have hcs := dec_parts hdec
                  generalize et : decT (.tuple [.int i, x, .tuple cs]) = t at hcs hdec
                  have lcs : t.calls.length = cs.length := by rw [← hcs, List.length_map]
                  have smc : cs.length ≤ 20000 := by
                    have := (sm_tup (sts (.tuple [.int i, x, .tuple cs]) (by rw [e]; simp))).2 (.tuple cs) (by simp)
                    exact (sm_tup this).1
                  have hm : (namesT [] (done.map decT)).length ≤ 24 * 20000 := by
                    have h1 := namesT_len (done.map decT) []
                    have h2 := manyCL_le (ts := done) fun q m => sts q (by rw [e]; exact List.mem_append_left _ m)
                    have h3 : done.length ≤ 24 := by
                      have := congrArg List.length e
                      rw [List.length_append] at this
                      omega
                    rw [List.length_nil] at h1
                    have : done.length * 20000 ≤ 24 * 20000 := Nat.mul_le_mul_right _ h3
                    omega
                  refine ⟨_, rfl, t_ixF rfl rfl rfl atI_0 ⟨_, rfl, _, rfl, t_ixF rfl rfl rfl atI_2 ⟨_, rfl, t_len (ds := cs) rfl rfl (t_addI ⟨sz_c rfl, _, sets_cons rfl rfl (sets_cons rfl rfl rfl), ?_⟩)⟩⟩⟩
                  refine ⟨_, rfl, t_ixF rfl rfl rfl atI_2 (t_it rfl ⟨rfl, ?_⟩)⟩
                  rw [← hcs]
                  refine forT_each (enc := cllD) t.calls (fun dn ρ => ∃ s7 s8 : SV, ρ = [.sh (.tuple [.tuple [a, .int n, c], .tuple ts]), .sh (.int i), .ow (.dc (dictOf (namesC (namesT [] (done.map decT)) dn) fun _ => .lf (.bool true))), .sh (.int ((manyC (done.map decT) : Nat) + (cs.length : Int))), .sh (.int (done.length : Int)), .sh (.tuple [.int i, x, .tuple cs]), .sh (trErr n (prevOf least) (.tuple [.int i, x, .tuple cs]) done.length), s7, s8] ∧ freeAt [7, 8] ρ) (fun ρ h => ?_) (fun dn c0 rc ρ N2 ec h k2 => ?_) _ ⟨s7, s8, by rw [hcs]; rfl, fun j hj => ?_⟩
                  · obtain ⟨s7, s8, rfl, hf⟩ := h
                    refine kk _ ⟨i, .sh (.int (done.length : Int)), .sh (.tuple [.int i, x, .tuple cs]), .sh (trErr n (prevOf least) (.tuple [.int i, x, .tuple cs]) done.length), s7, s8, ?_, fun j hj => ?_, by omega, fun rest' e' => ?_⟩
                    · rw [List.map_append, List.map_singleton, et, namesT_add, manyC_one, lcs, Int.natCast_add]
                    · simp only [List.mem_cons, List.not_mem_nil, or_false] at hj
                      rcases hj with rfl | rfl | rfl | rfl | rfl
                      · exact rfl
                      · exact rfl
                      · exact rfl
                      · exact hf 7 (by simp)
                      · exact hf 8 (by simp)
                    · have er : rest' = rest := by
                        have z := e.symm.trans e'
                        rw [List.append_assoc] at z
                        have z := List.append_cancel_left z
                        exact (List.cons.inj z).2.symm
                      rw [er, ee, List.length_append, List.length_singleton]
                      have : prevOf i = some i := if_neg (by omega)
                      rw [this]; rfl
                  · obtain ⟨s7, s8, rfl, hf⟩ := h
                    have l1 := namesC_len dn (namesT [] (done.map decT))
                    have l3 := congrArg List.length ec
                    rw [List.length_append] at l3
                    refine ⟨_, bind_2 (hf 7 (by simp)) (hf 8 (by simp)), ?_⟩
                    refine ⟨rfl, _, rfl, _, rfl, _, rfl, by rw [dict_keys]; exact dict_fit _ _, by rw [dict_len]; exact Nat.lt_of_lt_of_le (by omega : _ < 1000001) (sz_c rfl), ?_⟩
                    refine k2 _ ⟨.sh (.str c0.1), .sh (.int c0.2), ?_, fun j hj => ?_⟩
                    · rw [namesC_add, ← dict_putC]; rfl
                    · simp only [List.mem_cons, List.not_mem_nil, or_false] at hj
                      rcases hj with rfl | rfl <;> rfl
                  · simp only [List.mem_cons, List.not_mem_nil, or_false] at hj
                    rcases hj with rfl | rfl
                    · exact hf 7 (by simp)
                    · exact hf 8 (by simp)
              · simp only [List.mem_cons, List.not_mem_nil, or_false] at hi
                rcases hi with rfl | rfl | rfl | rfl | rfl <;> rfl
          | _ =>
            rw [e' fun ts h => by cases h] at h2
            exact ⟨_, rfl, t_ixF rfl rfl rfl atI_1 ⟨rfl, rfl, trivial, t_iteT rfl (t_iteT rfl h2)⟩⟩
    | _ => exact ⟨_, rfl, rfl, rfl, trivial, t_iteT rfl h2⟩)
abbrev s_law_shared : Stmt := topS 31
theorem sc_law_shared : FnScope ["well", "calls", "rows", "lots", "place", "call", "trains", "number", "lot"] ["well", "calls", "rows"] (defScope s_law_shared) := ⟨rfl, rfl, rfl, by decide +kernel, rfl, by decide +kernel, by decide +kernel⟩
abbrev ct_law_shared : Ct := ctShared
theorem ok_law_shared {f : Addr} {fd : FuncData} {k : Nat} (F : Fun K "_law_shared" "_law_shared" s_law_shared f fd) (m_tuple : mg "tuple" = none) (F__law_draw : CallOk prog w K mg base (PaW w K) k "_law_draw" ["well", "many"] ct_law_draw) (m_enumerate : mg "enumerate" = none) (m_range : mg "range" = none) : FnG prog w K mg base CX0 (k + 1) f fd ["well", "calls", "rows"] (spOf (PaW w K) ct_law_shared) :=
  fnA F sc_law_shared (fun cdv A out s H E P ee C R pn hr =>
    (js_cons (setLc_ C (pn _) [("place", 4)] (rng1_ m_range (a1 (V_ 2) a0)) (fun s H A cl fp => (n_ C.blk 4)) (fun s H A cl fp => jts_nil) (fun s H A cl fp => (je_lst a0)) (i := 3))
      (jss_frz 1 (js_cons (for_ C (fun j _ => pn j) (enum_ C m_enumerate (a1 (V_ 1) a0)) (tp_ C (g1 (n_ C 4) (g1 (n_ C 5) g0))) (js_cons (expr_ (app_ C (ixL_ (L_ 3) (je_if (tcmp_ (dop_cmp _) (V_ 4) (V_ 2)) (V_ 4) (call_ C F__law_draw hr (a1 (W_ 0) (a1 (V_ 2) a0))))) (a1 (V_ 5) a0)))
      js_nil))
      (js_cons (mul_ C [6, 7] ["trains", "number"] (fun j _ => pn j) (a1 (je_lst a0) (a1 je_int a0)))
      (jss_frz 3 (js_cons (for_ C (fun j _ => pn j) (it_ C (V_ 3)) (n_ C 8) (js_cons (set_ C (pn _) (je_bin (dop_add C) (je_bin (dop_add C) (V_ 7) je_int) (call_ C F__law_draw hr (a1 (W_ 0) (a1 je_int a0)))) (i := 7))
      (js_cons (expr_ (app_ C (L_ 6) (a1 (je_tup (a1 (V_ 7) (a1 (je_tup (a1 je_int a0)) (a1 (tuple_ C m_tuple (a1 (V_ 8) a0)) a0)))) a0)))
      js_nil)))
      (js_cons (js_ret (tuple_ C m_tuple (a1 (V_ 6) a0)))
      js_nil))))))))
    (fun _ => rfl) (fun a Q h1 h2 => by
    obtain ⟨s1, cs, rows⟩ := a
    obtain ⟨⟨d, e1, e2⟩, hc, r1, r2⟩ := h1
    have e1 : slv s1 = some d := e1
    have e2 : seqOf d = some (cs.map cllD) := e2
    have hc : ClW cs := hc
    have r1 : 1 ≤ rows := r1
    have r2 : rows ≤ 25 := r2
    have h2 : ∀ ts : List Trn, TrW ts → ts ≠ [] → Q (.cl (.tuple (ts.map trnD))) := h2
    have hcm := hc.many
    refine ⟨_, rfl, _, _, rfl, rfl, smallI_of (by omega) (by omega), rfl, ?_⟩
    refine lcD_by (fun es acc => ∃ n, acc = (List.range n).map (fun _ => Rv.fr (.ls [])) ∧ n + es.length = rows) (fun acc h => ?_) (fun d es acc N h k => ?_) _ _ ⟨0, rfl, by show 0 + (rngD 0 1 _).length = _; simp [rngD]⟩
    · obtain ⟨n, rfl, hn⟩ := h
      obtain rfl : n = rows := hn
      rw [mkC_fr fun _ _ => rfl]
      have eL : ((List.range n).map fun _ => OD.ls []) = lotsO (List.replicate n []) := by
        unfold lotsO
        rw [List.map_replicate]
        exact List.ext_getElem (by simp) (by intros; simp [lotO])
      refine ⟨_, set_ok (s := .ow (.ls (lotsO (List.replicate n [])))) rfl (by rw [eL]; rfl), ?_⟩
      have ef : frzAt 1 [.wl, s1, .sh (.int (n : Int)), .ow (.ls (lotsO (List.replicate n []))), .un, .un, .un, .un, .un] = [.wl, .sh d, .sh (.int (n : Int)), .ow (.ls (lotsO (List.replicate n []))), .un, .un, .un, .un, .un] := by
        cases s1 with
        | sh x => cases e1; rfl
        | ow o => cases e1; rfl
        | _ => cases e1
      obtain ⟨kd, ek⟩ : ∃ kd, seqD d = some (kd, cs.map cllD) := by cases d <;> cases e2 <;> exact ⟨_, rfl⟩
      dsimp only [List.set, List.replicate, List.cons_append, List.nil_append, List.length_cons, List.length_nil]
      refine t_frz (i := 1) ef ?_
      refine ⟨_, rfl, .inl ⟨_, rfl, _, _, ek, rfl, ?_⟩⟩
      refine forT_enum (enc := cllD) cs (fun dn ρ => ∃ (L : List (List Cll)) (s4 s5 : SV), ρ = [.wl, .sh d, .sh (.int (n : Int)), .ow (.ls (lotsO L)), s4, s5, .un, .un, .un] ∧ L.length = n ∧ (∀ lot ∈ L, ∀ c ∈ lot, c ∈ cs) ∧ (L.map List.length).sum = dn.length ∧ slotFree [s4, s5] 0 = true ∧ slotFree [s4, s5] 1 = true) (fun ρ h => ?_) (fun dn c rest ρ N e h kk => ?_) _ ⟨List.replicate n [], .un, .un, rfl, by simp, fun lot m c mc => ?_, by simp, rfl, rfl⟩
      · obtain ⟨L, s4, s5, rfl, lL, hL, sL, f4, f5⟩ := h
        refine ⟨rfl, sz_c rfl, sz_c rfl, _, sets_cons (s := .ow (.ls [])) rfl rfl (sets_cons (s := .sh (.int 0)) rfl rfl rfl), ?_⟩
        refine ⟨_, rfl, t_it (ds := L.map lotD) (congrArg some (lotsO_val L)) ⟨rfl, ?_⟩⟩
        generalize eV : OD.val (.ls (lotsO L)) = V3
        refine forT_each (enc := lotD) L (fun done ρ => ∃ (ts : List Trn) (nu : Int) (s8 : SV), ρ = [.wl, .sh d, .sh (.int (n : Int)), .sh V3, s4, s5, .ow (.ls ((ts.map trnD).map .lf)), .sh (.int nu), s8] ∧ ts.map (·.calls) = done ∧ 0 ≤ nu ∧ nu ≤ 20 * ts.length ∧ (∀ t ∈ ts, 0 ≤ t.number ∧ t.number ≤ nu ∧ t.days = [0]) ∧ slotFree [s8] 0 = true) (fun ρ h => ?_) (fun done lot rest ρ N e h kk => ?_) _ ⟨[], 0, .un, by rw [← eV]; rfl, rfl, by omega, by simp, fun _ m => absurd m List.not_mem_nil, rfl⟩
        · obtain ⟨ts, nu, s8, rfl, et, n0, n1, ht, f8⟩ := h
          have lt : ts.length = n := by
            have := congrArg List.length et
            rw [List.length_map] at this
            omega
          have em : manyC ts = (L.map List.length).sum := by
            unfold manyC
            rw [← et, List.map_map]; rfl
          have mc : ∀ t ∈ ts, ∀ c ∈ t.calls, c ∈ cs := fun t m c mc => hL t.calls (by rw [← et]; exact List.mem_map.mpr ⟨t, m, rfl⟩) c mc
          refine ⟨_, rfl, _, rfl, t_tupleI (ds := ts.map trnD) (congrArg some (vals_lf _)) (trns_imm ts) (h2 ts ⟨by omega, by omega, fun t m c c1 => hc.nm c (mc t m c c1), fun t m c c1 => hc.mi c (mc t m c c1), fun t m => ⟨(ht t m).1, by have := (ht t m).2.1; omega⟩, fun t m => (ht t m).2.2⟩ fun z => by rw [z] at lt; simp at lt; omega)⟩
        · obtain ⟨ts, nu, s8, rfl, et, n0, n1, ht, f8⟩ := h
          have lt : ts.length ≤ 25 := by
            have := congrArg List.length et
            rw [List.length_map] at this
            have le := congrArg List.length e
            rw [List.length_append, List.length_cons] at le
            omega
          refine ⟨_, bind_nm f8, ?_⟩
          refine ⟨_, rfl, rfl, cd_draw (by decide) (by decide) fun z z0 z1 => t_addI ⟨_, set_ok (s := .sh (.int (nu + 1 + z))) rfl rfl, ?_⟩⟩
          refine ⟨_, rfl, _, rfl, _, rfl, rfl, sz_c rfl, _, rfl, _, rfl, t_tupleI (ds := lot.map cllD) rfl (clls_imm lot) ⟨rfl, sz_c rfl, _, rfl, rfl, ?_, kk _ ⟨ts ++ [⟨nu + 1 + z, [0], lot⟩], nu + 1 + z, .sh (lotD lot), ?_, by rw [List.map_append, et]; rfl, by omega, ?_, fun t m => ?_, rfl⟩⟩⟩
          · rw [List.length_map, List.length_map]
            exact Nat.lt_of_lt_of_le (by omega : ts.length < 1000001) (sz_c rfl)
          · rw [List.map_append (f := trnD), List.map_append (f := OD.lf)]
            rfl
          · rw [List.length_append, List.length_singleton]; omega
          · rcases List.mem_append.mp m with m | m
            · have := ht t m
              exact ⟨this.1, by omega, this.2.2⟩
            · rw [List.mem_singleton.mp m]
              exact ⟨by show 0 ≤ nu + 1 + z; omega, Int.le_refl _, rfl⟩
      · obtain ⟨L, s4, s5, rfl, lL, hL, sL, f4, f5⟩ := h
        have lc := congrArg List.length e
        rw [List.length_append, List.length_cons] at lc
        refine ⟨_, bind_2 f4 f5, ?_⟩
        have step : ∀ (i : Nat), i < n → ∃ lot, L[i]? = some lot ∧ lot.length < 10000 ∧ N [.wl, .sh d, .sh (.int (n : Int)), .ow (.ls (lotsO (L.set i (lot ++ [c])))), .sh (.int (dn.length : Int)), .sh (cllD c), .un, .un, .un] := fun i hi => by
          have ei : L[i]? = some (L[i]'(by omega)) := List.getElem?_eq_getElem _
          have ml := List.getElem_mem (l := L) (n := i) (by omega)
          have ll := lot_len ml
          refine ⟨_, ei, by omega, kk _ ⟨_, _, _, rfl, by rw [List.length_set]; exact lL, fun lot m x mx => ?_, ?_, rfl, rfl⟩⟩
          · rcases List.mem_or_eq_of_mem_set m with m | rfl
            · exact hL lot m x mx
            · rcases List.mem_append.mp mx with mx | mx
              · exact hL _ ml x mx
              · rw [List.mem_singleton.mp mx, e]; simp
          · have := sum_set (l2 := L[i]'(by omega) ++ [c]) ei
            rw [List.length_append, List.length_singleton] at this
            rw [List.length_append, List.length_singleton]
            omega
        have fin : ∀ i : Nat, i < n → ∃ lot, (lotsO L)[i]? = some (lotO lot) ∧ ((lot.map cllD).map OD.lf).length < sizeLine ∧ N [.wl, .sh d, .sh (.int (n : Int)), .ow (putO (.ls (lotsO L)) [i] (.ls ((lot.map cllD).map OD.lf ++ [.lf (cllD c)]))), .sh (.int (dn.length : Int)), .sh (cllD c), .un, .un, .un] := fun i hi => by
          obtain ⟨lot, e1, e2, e3⟩ := step i hi
          refine ⟨lot, by unfold lotsO; rw [List.getElem?_map, e1]; rfl, ?_, by rw [putO_lot e1]; exact e3⟩
          rw [List.length_map, List.length_map]
          exact Nat.lt_of_lt_of_le (by omega : lot.length < 1000001) (sz_c rfl)
        have ll : (lotsO L).length = n := by unfold lotsO; rw [List.length_map]; exact lL
        refine ⟨_, rfl, _, rfl, _, rfl, _, rfl, t_isB (t_ite (fun q => ?_) fun q => ?_)⟩
        · have q : (dn.length : Int) < (n : Int) := of_decide_eq_true q
          obtain ⟨lot, e1, e2, e3⟩ := fin dn.length (by omega)
          exact ⟨_, rfl, _, ((dn.length : Nat) : Int), dn.length, _, rfl, rfl, ixN_lt (by rw [ll]; omega), e1, _, rfl, _, rfl, _, rfl, rfl, e2, e3⟩
        · refine ⟨rfl, _, rfl, cd_draw (by omega) (by omega) fun i i0 i1 => ?_⟩
          obtain ⟨i, rfl⟩ := Int.eq_ofNat_of_zero_le i0
          obtain ⟨lot, e1, e2, e3⟩ := fin i (by omega)
          exact ⟨_, ((i : Nat) : Int), i, _, rfl, rfl, ixN_lt (by rw [ll]; omega), e1, _, rfl, _, rfl, _, rfl, rfl, e2, e3⟩
      · rw [List.eq_of_mem_replicate m] at mc
        cases mc
    · obtain ⟨n, rfl, hn⟩ := h
      rw [List.length_cons] at hn
      refine ⟨_, bind_nm rfl, t_iteT rfl ⟨rfl, sz_c rfl, ⟨rfl, rfl, ?_⟩, k _ ⟨n + 1, ?_, by omega⟩⟩⟩
      · rw [List.length_map, List.length_range]; exact Nat.lt_of_lt_of_le (by omega : n < 30) (sz_c rfl)
      · rw [List.range_succ, List.map_append]; rfl)
abbrev s_law_wide : Stmt := topS 32
theorem sc_law_wide : FnScope ["well", "way", "more", "letters", "many", "step", "place", "names", "name", "calls"] ["well", "way"] (defScope s_law_wide) := ⟨rfl, rfl, rfl, by decide +kernel, rfl, by decide +kernel, by decide +kernel⟩
abbrev ct_law_wide : Ct := ctWide
theorem ok_law_wide {f : Addr} {fd : FuncData} {k : Nat} (F : Fun K "_law_wide" "_law_wide" s_law_wide f fd) (F__law_draw : CallOk prog w K mg base (PaW w K) k "_law_draw" ["well", "many"] ct_law_draw) (F__law_shared : CallOk prog w K mg base (PaW w K) k "_law_shared" ["well", "calls", "rows"] ct_law_shared) (m_range : mg "range" = none) (m_enumerate : mg "enumerate" = none) (m_tuple : mg "tuple" = none) : FnG prog w K mg base CX0 (k + 1) f fd ["well", "way"] (spOf (PaW w K) ct_law_wide) :=
  fnA F sc_law_wide (fun cdv A out s H E P ee C R pn hr =>
    (js_cons (mul_ C [2, 3] ["more", "letters"] (fun j _ => pn j) (a1 (call_ C F__law_draw hr (a1 (W_ 0) (a1 je_int a0))) (a1 je_str a0)))
      (js_cons (js_if (tcmp_ (dop_eq C) (V_ 1) je_int) (js_cons (mul_ C [4, 5] ["many", "step"] (fun j _ => pn j) (a1 (je_bin (dop_add C) je_int (V_ 2)) (a1 (je_bin (dop_add C) je_int (call_ C F__law_draw hr (a1 (W_ 0) (a1 je_int a0)))) a0)))
      (js_cons (js_ret (tuple_ C m_tuple (a1 (lc_ C [("place", 6)] (rng1_ m_range (a1 (V_ 4) a0)) (fun s H A cl fp => (n_ C.blk 6)) (fun s H A cl fp => jts_nil) (fun s H A cl fp => (je_tup (a1 (je_bin (dop_add C.blk) je_int (je_bin (dop_mulW C.blk) (V_ 5) (V_ 6))) (a1 (je_tup (a1 je_int a0)) (a1 (je_tup (a1 (je_tup (a1 je_str (a1 (V_ 6) a0))) (a1 (je_tup (a1 je_str (a1 je_int a0))) a0))) a0)))))) a0)))
      js_nil)) js_nil)
      (js_cons (js_if (tcmp_ (dop_eq C) (V_ 1) je_int) (js_cons (setLc_ C (pn _) [("place", 6)] (rng1_ m_range (a1 (je_bin (dop_add C) je_int (V_ 2)) a0)) (fun s H A cl fp => (n_ C.blk 6)) (fun s H A cl fp => jts_nil) (fun s H A cl fp => (je_bin (dop_mulW C.blk) (ix_ C.blk (V_ 3) (V_ 6)) (je_bin (dop_add C.blk) je_int (call_ C.blk F__law_draw hr (a1 (W_ 0) (a1 je_int a0)))))) (i := 7))
      (js_cons (js_ret (call_ C F__law_shared hr (a1 (W_ 0) (a1 (lc_ C [("place", 6), ("name", 8)] (enum_ C m_enumerate (a1 (V_ 7) a0)) (fun s H A cl fp => (tp_ C.blk (g1 (n_ C.blk 6) (g1 (n_ C.blk 8) g0)))) (fun s H A cl fp => jts_nil) (fun s H A cl fp => (je_tup (a1 (V_ 8) (a1 (je_bin (dop_mulW C.blk) je_int (V_ 6)) a0))))) (a1 (je_bin (dop_add C) je_int (call_ C F__law_draw hr (a1 (W_ 0) (a1 je_int a0)))) a0)))))
      js_nil)) js_nil)
      (js_cons (js_if (tcmp_ (dop_eq C) (V_ 1) je_int) (js_cons (setLc_ C (pn _) [("place", 6)] (rng1_ m_range (a1 (je_bin (dop_add C) je_int (V_ 2)) a0)) (fun s H A cl fp => (n_ C.blk 6)) (fun s H A cl fp => jts_nil) (fun s H A cl fp => (je_tup (a1 (ix_ C.blk (V_ 3) (call_ C.blk F__law_draw hr (a1 (W_ 0) (a1 je_int a0)))) (a1 (je_bin (dop_mulW C.blk) je_int (V_ 6)) a0)))) (i := 9))
      (js_cons (js_ret (call_ C F__law_shared hr (a1 (W_ 0) (a1 (V_ 9) (a1 (je_bin (dop_add C) je_int (call_ C F__law_draw hr (a1 (W_ 0) (a1 je_int a0)))) a0)))))
      js_nil)) js_nil)
      (js_cons (js_if (tcmp_ (dop_eq C) (V_ 1) je_int) (js_cons (set_ C (pn _) (je_bin (dop_mulW C) (ix_ C (V_ 3) (call_ C F__law_draw hr (a1 (W_ 0) (a1 je_int a0)))) (je_bin (dop_add C) je_int (V_ 2))) (i := 8))
      (js_cons (js_ret (je_tup (a1 (je_tup (a1 je_int (a1 (je_tup (a1 je_int a0)) (a1 (je_tup (a1 (je_tup (a1 je_str (a1 je_int a0))) (a1 (je_tup (a1 (V_ 8) (a1 je_int a0))) a0))) a0)))) (a1 (je_tup (a1 je_int (a1 (je_tup (a1 je_int a0)) (a1 (je_tup (a1 (je_tup (a1 (je_slice C (V_ 8) jo_none (jo_some je_int)) (a1 je_int a0))) a0)) a0)))) a0))))
      js_nil)) js_nil)
      (js_cons (js_if (tcmp_ (dop_eq C) (V_ 1) je_int) (js_cons (js_ret (je_tup (a1 (je_tup (a1 je_int (a1 (je_tup (a1 je_int a0)) (a1 (je_tup (a1 (je_tup (a1 je_str (a1 je_int a0))) (a1 (je_tup (a1 je_str (a1 (je_bin (dop_add C) je_int (V_ 2)) a0))) a0))) a0)))) a0)))
      js_nil) js_nil)
      (js_cons (js_ret (je_tup (a1 (je_tup (a1 je_int (a1 (je_tup (a1 je_int a0)) (a1 (je_tup (a1 (je_tup (a1 je_str (a1 je_int a0))) a0)) a0)))) (a1 (je_tup (a1 (je_bin (dop_add C) je_int (V_ 2)) (a1 (je_tup (a1 je_int a0)) (a1 (je_tup (a1 (je_tup (a1 je_str (a1 je_int a0))) a0)) a0)))) a0))))
      js_nil))))))))
    (fun _ => rfl) (fun way Q h1 h2 => by
    have h1 : way < 6 := h1
    have h2 : ∀ ts : List Trn, TrW ts → ts ≠ [] → Q (.cl (.tuple (ts.map trnD))) := h2
    refine ⟨rfl, cd_draw (by decide) (by decide) fun m m0 m1 => ⟨sz_c rfl, _, sets_cons (s := .sh (.int m)) rfl rfl (sets_cons (s := .sh (.str lettersZ)) rfl rfl rfl), ?_⟩⟩
    have eqw : ∀ j : Int, PyData.eqv (Rv.cl (.int ((way : Nat) : Int))).val (Rv.cl (.int j)).val = decide ((way : Int) = j) := fun j => eqvI
    have m2 : m = 0 ∨ m = 1 := by omega
    have wl : ∀ {x : Str}, wordS x = true ∧ x.cps.size ≤ 13 → wordS x = true ∧ x.cps.size ≤ 13 := id
    refine ⟨_, rfl, rfl, rfl, ⟨shaped_int _, shaped_int _⟩, t_isB ?_⟩
    rw [eqw]
    by_cases w0 : (way : Int) = 0
    · rw [decide_eq_true w0]
      refine t_iteT rfl ?_
      refine ⟨_, rfl, t_addI ⟨rfl, cd_draw (by decide) (by decide) fun st s0 s1 => t_addI ⟨sz_c rfl, _, sets_cons (s := .sh (.int (24 + m))) rfl rfl (sets_cons (s := .sh (.int (1 + st))) rfl rfl rfl), ?_⟩⟩⟩
      refine ⟨_, rfl, _, _, rfl, rfl, smallI_of (by omega) (by omega), rfl, ?_⟩
      obtain ⟨N, eN, N0, N1⟩ : ∃ N : Nat, (24 + m).toNat = N ∧ 24 ≤ N ∧ N ≤ 25 := ⟨_, rfl, by omega, by omega⟩
      rw [eN, rngD_01]
      refine lcD_all (enc := fun z : Nat => PyData.int (Int.ofNat z)) (fun z : Nat => trnD ⟨1 + (1 + st) * (z : Int), [0], [("a", (z : Int)), ("b", 2879)]⟩) (List.range N) (by rw [List.length_range]; exact sz_of (by omega)) ?_ (fun z mz => ⟨_, bind_nm rfl, fun M R hM => t_iteT rfl ?_⟩)
      · have ee : ((List.range N).map fun z : Nat => trnD ⟨1 + (1 + st) * (z : Int), [0], [("a", (z : Int)), ("b", 2879)]⟩) = ((List.range N).map fun z : Nat => (⟨1 + (1 + st) * (z : Int), [0], [("a", (z : Int)), ("b", 2879)]⟩ : Trn)).map trnD := by rw [List.map_map]; rfl
        refine ⟨_, rfl, t_tupC2 (g := fun z : Nat => trnD ⟨1 + (1 + st) * (z : Int), [0], [("a", (z : Int)), ("b", 2879)]⟩) (by rw [ee]; exact trns_imm _) ?_⟩
        rw [ee]
        refine h2 _ ⟨by rw [List.length_map, List.length_range]; exact N1, ?_, fun t mt c mc => ?_, fun t mt c mc => ?_, fun t mt => ?_, fun t mt => ?_⟩ ?_
        · have := manyC_leW (k := 2) (ts := (List.range N).map fun z : Nat => (⟨1 + (1 + st) * (z : Int), [0], [("a", (z : Int)), ("b", 2879)]⟩ : Trn)) fun t m => by
            obtain ⟨z, _, rfl⟩ := List.mem_map.mp m
            exact Nat.le_refl 2
          rw [List.length_map, List.length_range] at this
          omega
        · obtain ⟨z, mz, rfl⟩ := List.mem_map.mp mt
          have mc : c ∈ [(("a" : Str), (z : Int)), ("b", 2879)] := mc
          simp only [List.mem_cons, List.not_mem_nil, or_false] at mc
          rcases mc with rfl | rfl
          · exact word_a
          · exact word_b
        · obtain ⟨z, mz, rfl⟩ := List.mem_map.mp mt
          have := List.mem_range.mp mz
          have mc : c ∈ [(("a" : Str), (z : Int)), ("b", 2879)] := mc
          simp only [List.mem_cons, List.not_mem_nil, or_false] at mc
          rcases mc with rfl | rfl
          · exact ⟨by show 0 ≤ (z : Int); omega, by show (z : Int) ≤ 3000; omega⟩
          · exact ⟨by decide, by decide⟩
        · obtain ⟨z, mz, rfl⟩ := List.mem_map.mp mt
          have := List.mem_range.mp mz
          have a : (1 + st) * (z : Int) ≤ 400 * 25 := Int.mul_le_mul (by omega) (by omega) (by omega) (by omega)
          have b : 0 ≤ (1 + st) * (z : Int) := Int.mul_nonneg (by omega) (by omega)
          exact ⟨by show 0 ≤ 1 + (1 + st) * (z : Int); omega, by show 1 + (1 + st) * (z : Int) ≤ 20000; omega⟩
        · obtain ⟨z, mz, rfl⟩ := List.mem_map.mp mt
          rfl
        · intro z
          have := congrArg List.length z
          rw [List.length_map, List.length_range] at this
          simp at this
          omega
      · have zl : z < 25 := by have := List.mem_range.mp mz; omega
        refine ⟨_, rfl, _, rfl, t_mulWI (.inl ⟨by omega, by omega⟩) (t_addI ?_)⟩
        refine ⟨rfl, sz_c rfl, _, rfl, rfl, sz_c rfl, rfl, sz_c rfl, rfl, sz_c rfl, rfl, sz_c rfl, hM⟩
    · rw [decide_eq_false w0]
      refine t_iteF rfl ?_
      refine ⟨_, rfl, rfl, rfl, ⟨shaped_int _, shaped_int _⟩, t_isB ?_⟩
      rw [eqw]
      by_cases w1 : (way : Int) = 1
      · rw [decide_eq_true w1]
        refine t_iteT rfl ?_
        refine ⟨_, rfl, t_addI ⟨_, _, rfl, rfl, smallI_of (by omega) (by omega), rfl, ?_⟩⟩
        obtain ⟨N, eN, N0, N1⟩ : ∃ N : Nat, (16 + m).toNat = N ∧ 16 ≤ N ∧ N ≤ 17 := ⟨_, rfl, by omega, by omega⟩
        rw [eN, rngD_01]
        refine lcD_by (fun es acc => ∃ xs : List Str, acc = xs.map (fun x => Rv.cl (.str x)) ∧ (∀ d ∈ es, ∃ z : Nat, d = .int (Int.ofNat z) ∧ z < N) ∧ xs.length + es.length = N ∧ ∀ x ∈ xs, wordS x = true ∧ x.cps.size ≤ 13) (fun acc h => ?_) (fun d es acc N' h k => ?_) _ _ ⟨[], rfl, fun d md => ?_, by rw [nats_len, List.length_range]; simp, fun _ m => absurd m List.not_mem_nil⟩
        · obtain ⟨xs, rfl, _, ln, hx⟩ := h
          have ln : xs.length = N := ln
          rw [mkC_cl2 (g := PyData.str) (txts_imm xs)]
          refine ⟨_, set_ok (s := .ow (.ls ((xs.map PyData.str).map .lf))) rfl rfl, ?_⟩
          refine ⟨rfl, _, rfl, .inl ⟨_, rfl, _, _, congrArg (fun ds => some (SK.l, ds)) (vals_lf _), rfl, ?_⟩⟩
          rw [show enumD 0 (xs.map PyData.str) = xs.zipIdx.map fun q => PyData.tuple [.int (q.2 : Int), .str q.1] from enum_zip xs PyData.str]
          refine lcD_all (enc := fun q : Str × Nat => PyData.tuple [.int (q.2 : Int), .str q.1]) (fun q => cllD (q.1, 3 * (q.2 : Int))) xs.zipIdx (by rw [List.length_zipIdx]; exact sz_of (by omega)) ?_ (fun q mq => ⟨_, bind_2 rfl rfl, fun M R hM => t_iteT rfl ⟨_, rfl, _, rfl, t_mulWI (.inl ⟨by omega, ?_⟩) ⟨rfl, sz_c rfl, hM⟩⟩⟩)
          · have ee : (xs.zipIdx.map fun q => cllD (q.1, 3 * (q.2 : Int))) = (xs.zipIdx.map fun q => ((q.1, 3 * (q.2 : Int)) : Cll)).map cllD := by rw [List.map_map]; rfl
            rw [mkC_cl2 (g := fun q : Str × Nat => cllD (q.1, 3 * (q.2 : Int))) (by rw [ee]; exact clls_imm _), ee]
            refine ⟨rfl, cd_draw (by decide) (by decide) fun r r0 r1 => t_addI (cd_shared (cs := xs.zipIdx.map fun q => ((q.1, 3 * (q.2 : Int)) : Cll)) rfl (congrArg some (vals_lf _)) rfl ⟨by rw [List.length_map, List.length_zipIdx]; omega, fun c mc => ?_, fun c mc => ?_⟩ (by omega) (by omega) fun ts ht ne => h2 ts ht ne)⟩
            · obtain ⟨⟨x, i⟩, mx, rfl⟩ := List.mem_map.mp mc
              exact hx x (List.mem_of_getElem? (List.mem_zipIdx_iff_getElem?.mp mx))
            · obtain ⟨⟨x, i⟩, mx, rfl⟩ := List.mem_map.mp mc
              have il := (List.getElem?_eq_some_iff.mp (List.mem_zipIdx_iff_getElem?.mp mx)).1
              have il : i < xs.length := il
              exact ⟨by show 0 ≤ 3 * (i : Int); omega, by show 3 * (i : Int) ≤ 3000; omega⟩
          · have il := (List.getElem?_eq_some_iff.mp (List.mem_zipIdx_iff_getElem?.mp mq)).1
            have : (q.2 : Int) < 2 ^ 64 := by have : q.2 < xs.length := il; omega
            omega
        · obtain ⟨xs, rfl, hes, ln, hx⟩ := h
          rw [List.length_cons] at ln
          obtain ⟨z, rfl, zl⟩ := hes d List.mem_cons_self
          refine ⟨_, bind_nm rfl, t_iteT rfl ⟨_, rfl, _, rfl, t_letter rfl (by show (0 : Int) ≤ (z : Int); omega) (by show (z : Int) < 17; omega) fun ch hch => ⟨rfl, cd_draw (by decide) (by decide) fun q q0 q1 => t_addI ?_⟩⟩⟩
          obtain ⟨mo, mw, ms⟩ := mul_letter hch (n := 1 + q) (by omega) (by omega)
          refine t_mulS mo ⟨⟨rfl, rfl, ?_⟩, k _ ⟨xs ++ [Txt.mul ⟨#[ch]⟩ (1 + q)], by rw [List.map_append]; rfl, fun d md => hes d (List.mem_cons_of_mem _ md), by rw [List.length_append, List.length_singleton]; omega, fun x mx => ?_⟩⟩
          · rw [List.length_map]
            exact Nat.lt_of_lt_of_le (by omega : xs.length < 10000) (sz_c rfl)
          · rcases List.mem_append.mp mx with mx | mx
            · exact hx x mx
            · rw [List.mem_singleton.mp mx]; exact ⟨mw, ms⟩
        · obtain ⟨z, mz, rfl⟩ := List.mem_map.mp md
          exact ⟨z, rfl, List.mem_range.mp mz⟩
      · rw [decide_eq_false w1]
        refine t_iteF rfl ?_
        refine ⟨_, rfl, rfl, rfl, ⟨shaped_int _, shaped_int _⟩, t_isB ?_⟩
        rw [eqw]
        by_cases w2 : (way : Int) = 2
        · rw [decide_eq_true w2]
          refine t_iteT rfl ?_
          refine ⟨_, rfl, t_addI ⟨_, _, rfl, rfl, smallI_of (by omega) (by omega), rfl, ?_⟩⟩
          obtain ⟨N, eN, N0, N1⟩ : ∃ N : Nat, (200 + m).toNat = N ∧ 200 ≤ N ∧ N ≤ 201 := ⟨_, rfl, by omega, by omega⟩
          rw [eN, rngD_01]
          refine lcD_by (fun es acc => ∃ cs : List Cll, acc = cs.map (fun c => Rv.cl (cllD c)) ∧ (∀ d ∈ es, ∃ z : Nat, d = .int (Int.ofNat z) ∧ z < N) ∧ cs.length + es.length = N ∧ ∀ c ∈ cs, CllW c) (fun acc h => ?_) (fun d es acc N' h k => ?_) _ _ ⟨[], rfl, fun d md => ?_, by rw [nats_len, List.length_range]; simp, fun _ m => absurd m List.not_mem_nil⟩
          · obtain ⟨cs, rfl, _, ln, hc⟩ := h
            have ln : cs.length = N := ln
            rw [mkC_cl2 (g := cllD) (clls_imm cs)]
            refine ⟨_, set_ok (s := .ow (.ls ((cs.map cllD).map .lf))) rfl rfl, ?_⟩
            refine ⟨rfl, _, rfl, rfl, cd_draw (by decide) (by decide) fun r r0 r1 => t_addI (cd_shared (cs := cs) rfl (congrArg some (vals_lf _)) rfl ⟨by omega, fun c m => (hc c m).1, fun c m => (hc c m).2⟩ (by omega) (by omega) fun ts ht ne => h2 ts ht ne)⟩
          · obtain ⟨cs, rfl, hes, ln, hc⟩ := h
            rw [List.length_cons] at ln
            obtain ⟨z, rfl, zl⟩ := hes d List.mem_cons_self
            refine ⟨_, bind_nm rfl, t_iteT rfl ⟨_, rfl, rfl, cd_draw (by decide) (by decide) fun i i0 i1 => t_letter rfl i0 (by omega) fun ch hch => ⟨_, rfl, t_mulWI (.inl ⟨by omega, by omega⟩) ⟨rfl, sz_c rfl, ⟨rfl, rfl, ?_⟩, k _ ⟨cs ++ [(⟨#[ch]⟩, 7 * (z : Int))], by rw [List.map_append]; rfl, fun d md => hes d (List.mem_cons_of_mem _ md), by rw [List.length_append, List.length_singleton]; omega, fun c mc => ?_⟩⟩⟩⟩⟩
            · rw [List.length_map]
              exact Nat.lt_of_lt_of_le (by omega : cs.length < 10000) (sz_c rfl)
            · rcases List.mem_append.mp mc with mc | mc
              · exact hc c mc
              · rw [List.mem_singleton.mp mc]
                exact ⟨⟨letter_word ch hch, by show 1 ≤ 13; decide⟩, by show 0 ≤ 7 * (z : Int); omega, by show 7 * (z : Int) ≤ 3000; omega⟩
          · obtain ⟨z, mz, rfl⟩ := List.mem_map.mp md
            exact ⟨z, rfl, List.mem_range.mp mz⟩
        · rw [decide_eq_false w2]
          refine t_iteF rfl ?_
          refine ⟨_, rfl, rfl, rfl, ⟨shaped_int _, shaped_int _⟩, t_isB ?_⟩
          rw [eqw]
          by_cases w3 : (way : Int) = 3
          · rw [decide_eq_true w3]
            refine t_iteT rfl ?_
            refine ⟨_, rfl, rfl, cd_draw (by decide) (by decide) fun i i0 i1 => t_letter rfl i0 i1 fun ch hch => ?_⟩
            obtain ⟨mo, mw, ms⟩ := mul_letter hch (n := 12 + m) (by omega) (by omega)
            refine ⟨_, rfl, t_addI (t_mulS mo ⟨_, set_ok rfl rfl, ?_⟩)⟩
            generalize Txt.mul ⟨#[ch]⟩ (12 + m) = x at mw ms
            have wc := word_cut mw 12
            have szx : x.length ≤ sizeLine := sz_of (by show x.cps.size ≤ _; omega)
            repeat (first | refine ⟨_, rfl, ?_⟩ | refine ⟨rfl, sz_c rfl, ?_⟩ | refine t_addI ?_ | refine t_slStr szx ?_)
            refine h2 [⟨5, [0], [("a", 1), (x, 2)]⟩, ⟨6, [0], [(cutS x none (some 12), 9)]⟩] (trW_by (by simp) (all_2 ⟨Nat.le_refl 2, all_2 (cllW_a (by decide) (by decide)) ⟨⟨mw, ms⟩, by show (0 : Int) ≤ 2; decide, by show (2 : Int) ≤ 3000; decide⟩, ⟨by show (0 : Int) ≤ 5; decide, by show (5 : Int) ≤ 20000; decide⟩, rfl⟩ ⟨Nat.le_succ 1, all_1 ⟨⟨wc.1, Nat.le_trans wc.2 ms⟩, by show (0 : Int) ≤ 9; decide, by show (9 : Int) ≤ 3000; decide⟩, ⟨by show (0 : Int) ≤ 6; decide, by show (6 : Int) ≤ 20000; decide⟩, rfl⟩)) (by simp)
          · rw [decide_eq_false w3]
            refine t_iteF rfl ?_
            refine ⟨_, rfl, rfl, rfl, ⟨shaped_int _, shaped_int _⟩, t_isB ?_⟩
            rw [eqw]
            by_cases w4 : (way : Int) = 4
            · rw [decide_eq_true w4]
              refine t_iteT rfl ?_
              repeat (first | refine ⟨_, rfl, ?_⟩ | refine ⟨rfl, sz_c rfl, ?_⟩ | refine t_addI ?_)
              exact h2 [⟨5, [0], [("a", 2878), ("b", 2879 + m)]⟩] (trW_by (by simp) (all_1 ⟨Nat.le_refl 2, all_2 (cllW_a (by decide) (by decide)) (cllW_b (by omega) (by omega)), ⟨by show (0 : Int) ≤ 5; decide, by show (5 : Int) ≤ 20000; decide⟩, rfl⟩)) (by simp)
            · rw [decide_eq_false w4]
              refine t_iteF rfl ?_
              repeat (first | refine ⟨_, rfl, ?_⟩ | refine ⟨rfl, sz_c rfl, ?_⟩ | refine t_addI ?_)
              exact h2 [⟨9998, [0], [("a", 0)]⟩, ⟨9999 + m, [0], [("b", 0)]⟩] (trW_by (by simp) (all_2 ⟨by simp, all_1 (cllW_a (by decide) (by decide)), ⟨by decide, by decide⟩, rfl⟩ ⟨by simp, all_1 (cllW_b (by decide) (by decide)), ⟨by show 0 ≤ 9999 + m; omega, by show 9999 + m ≤ 20000; omega⟩, rfl⟩)) (by simp))
abbrev s_law_two : Stmt := topS 33
theorem sc_law_two : FnScope ["well", "trains", "names", "letters", "calls", "place", "at", "number", "days", "odd"] ["well"] (defScope s_law_two) := ⟨rfl, rfl, rfl, by decide +kernel, rfl, by decide +kernel, by decide +kernel⟩
abbrev ct_law_two : Ct := ctTwoW
theorem ok_law_two {f : Addr} {fd : FuncData} {k : Nat} (F : Fun K "_law_two" "_law_two" s_law_two f fd) (F__law_pick : CallOk prog w K mg base (PaW w K) k "_law_pick" ["well", "items"] ct_law_pick) (F__law_draw : CallOk prog w K mg base (PaW w K) k "_law_draw" ["well", "many"] ct_law_draw) (m_len : mg "len" = none) (F__law_shared : CallOk prog w K mg base (PaW w K) k "_law_shared" ["well", "calls", "rows"] ct_law_shared) (m_range : mg "range" = none) (F__law_wide : CallOk prog w K mg base (PaW w K) k "_law_wide" ["well", "way"] ct_law_wide) : FnG prog w K mg base CX0 (k + 1) f fd ["well"] (spOf (PaW w K) ct_law_two) :=
  fnA F sc_law_two (fun cdv A out s H E P ee C R pn hr =>
    (js_cons (mul_ C [1, 2] ["trains", "names"] (fun j _ => pn j) (a1 (call_ C F__law_wide hr (a1 (W_ 0) (a1 je_int a0))) (a1 (je_bin (dop_add C) je_int (call_ C F__law_draw hr (a1 (W_ 0) (a1 je_int a0)))) a0)))
      (js_cons (js_if (tcmp_ (dop_eq C) (call_ C F__law_draw hr (a1 (W_ 0) (a1 je_int a0))) je_int) (js_cons (mul_ C [3, 4] ["letters", "calls"] (fun j _ => pn j) (a1 je_str (a1 (je_lst a0) a0)))
      (js_cons (for_ C (fun j _ => pn j) (rng1_ m_range (a1 (je_bin (dop_add C) je_int (call_ C F__law_draw hr (a1 (W_ 0) (a1 je_int a0)))) a0)) (n_ C 5) (js_cons (expr_ (app_ C (L_ 4) (a1 (je_tup (a1 (ix_ C (V_ 3) (je_if (tcmp_ (dop_cmp _) (V_ 5) (V_ 2)) (V_ 5) (call_ C F__law_draw hr (a1 (W_ 0) (a1 (V_ 2) a0))))) (a1 (je_bin (dop_mulW C) je_int (V_ 5)) a0))) a0)))
      js_nil))
      (js_cons (set_ C (pn _) (call_ C F__law_shared hr (a1 (W_ 0) (a1 (V_ 4) (a1 (je_bin (dop_add C) je_int (call_ C F__law_draw hr (a1 (W_ 0) (a1 je_int a0)))) a0)))) (i := 1))
      (js_cons (js_if (tcmp_ (dop_cmp _) (call_ C F__law_draw hr (a1 (W_ 0) (a1 je_int a0))) je_int) (js_cons (js_retX (M_ 1))
      js_nil) js_nil)
      js_nil)))) js_nil)
      (js_cons (set_ C (pn _) (call_ C F__law_draw hr (a1 (W_ 0) (a1 (len_ C m_len (a1 (V_ 1) a0)) a0))) (i := 6))
      (js_cons (pat_ (ix_ C (V_ 1) (V_ 6)) (tp_ C (g1 (n_ C 7) (g1 (n_ C 8) (g1 (n_ C 4) g0)))) (fun j _ => pn j))
      (js_cons (set_ C (pn _) (je_lst (a1 je_non (a1 (je_tup a0) (a1 (je_tup (a1 je_int (a1 (V_ 8) (a1 (V_ 4) a0)))) (a1 (je_tup (a1 (V_ 7) (a1 (je_tup a0) (a1 (V_ 4) a0)))) (a1 (je_tup (a1 (V_ 7) (a1 (V_ 8) (a1 (je_tup a0) a0)))) (a1 (je_tup (a1 (V_ 7) (a1 (V_ 8) (a1 (je_bin (dop_add C) (V_ 4) (je_slice C (V_ 4) (jo_some (je_neg je_int)) jo_none)) a0)))) a0))))))) (i := 9))
      (jss_frz 9 (js_cons (set_ C (pn _) (je_bin (dop_add C) (V_ 9) (je_lst (a1 (je_tup (a1 (V_ 7) (a1 (V_ 8) (a1 (je_bin (dop_add C) (je_tup (a1 je_non a0)) (V_ 4)) a0)))) (a1 (je_lst (a1 (V_ 7) (a1 (V_ 8) (a1 (V_ 4) a0)))) a0)))) (i := 9))
      (js_cons (js_if (tcmp_ (dop_eq C) (call_ C F__law_draw hr (a1 (W_ 0) (a1 je_int a0))) je_int) (jss_frz 9 (js_cons (js_ret (je_bin (dop_mulW C) (je_tup (a1 (call_ C F__law_pick hr (a1 (W_ 0) (a1 (V_ 9) a0))) a0)) (len_ C m_len (a1 (V_ 1) a0))))
      js_nil)) js_nil)
      (jss_frz 9 (js_cons (js_ret (je_bin (dop_add C) (je_bin (dop_add C) (je_slice C (V_ 1) jo_none (jo_some (V_ 6))) (je_tup (a1 (call_ C F__law_pick hr (a1 (W_ 0) (a1 (V_ 9) a0))) a0))) (je_slice C (V_ 1) (jo_some (je_bin (dop_add C) (V_ 6) je_int)) jo_none)))
      js_nil)))))))))))
    (fun _ => rfl) (fun _ Q h1 h2 => by
    have h2 : ∀ d : PD, smB d = true → Q (.cl d) := h2
    refine ⟨rfl, cd_wide rfl (by decide) (by decide) fun ts ht ne => ⟨rfl, cd_draw (by decide) (by decide) fun v v0 v1 => t_addI ⟨sz_c rfl, _, sets_cons (s := .sh (.tuple (ts.map trnD))) rfl rfl (sets_cons (s := .sh (.int (16 + v))) rfl rfl rfl), ?_⟩⟩⟩
    have smT : ∀ {ts : List Trn}, TrW ts → smB (.tuple (ts.map trnD)) = true := fun h => sm_of_tup (by rw [List.length_map]; have := h.few; omega) fun d m => by
      obtain ⟨t, mt, rfl⟩ := List.mem_map.mp m
      exact h.smT mt
    refine ⟨rfl, cd_draw (by decide) (by decide) fun q q0 q1 => ⟨rfl, rfl, ⟨rfl, rfl⟩, t_isB (t_ite (fun _ => ?_) fun _ => ?_)⟩⟩
    · refine ⟨rfl, sz_c rfl, sz_c rfl, _, sets_cons (s := .sh (.str lettersZ)) rfl rfl (sets_cons (s := .ow (.ls [])) rfl rfl rfl), ?_⟩
      refine ⟨rfl, cd_draw (by decide) (by decide) fun u u0 u1 => t_addI ⟨_, _, rfl, rfl, smallI_of (by omega) (by omega), rfl, ?_⟩⟩
      obtain ⟨N, eN, N0, N1⟩ : ∃ N : Nat, (200 + u).toNat = N ∧ 200 ≤ N ∧ N ≤ 201 := ⟨_, rfl, by omega, by omega⟩
      rw [eN]
      refine forT_range N (fun j ρ => ∃ (cs : List Cll) (s5 : SV), ρ = [.wl, .sh (.tuple (ts.map trnD)), .sh (.int (16 + v)), .sh (.str lettersZ), .ow (.ls ((cs.map cllD).map .lf)), s5, .un, .un, .un, .un] ∧ cs.length = j ∧ (∀ c ∈ cs, CllW c) ∧ slotFree [s5] 0 = true) (fun ρ h => ?_) (fun j ρ N' hj h kk => ?_) _ ⟨[], .un, rfl, rfl, fun _ m => absurd m List.not_mem_nil, rfl⟩
      · obtain ⟨cs, s5, rfl, lc, hc, f5⟩ := h
        clear ht ne
        refine ⟨rfl, _, rfl, rfl, cd_draw (by decide) (by decide) fun r r0 r1 => t_addI (cd_shared (cs := cs) rfl (congrArg some (vals_lf _)) rfl ⟨by omega, fun c m => (hc c m).1, fun c m => (hc c m).2⟩ (by omega) (by omega) fun ts2 ht ne => ⟨_, set_ok (s := .sh (.tuple (ts2.map trnD))) rfl rfl, ?_⟩)⟩
        refine ⟨rfl, cd_draw (by decide) (by decide) fun w w0 w1 => ⟨_, rfl, t_isB (t_ite (fun _ => ?_) fun _ => ?_)⟩⟩
        · exact h2 _ (smT ht)
        · have l0 : 0 < ts2.length := List.length_pos_iff.mpr ne
          have lm : (ts2.map trnD).length = ts2.length := List.length_map _
          have l25 := ht.few
          refine ⟨rfl, _, rfl, _, rfl, t_len (ds := ts2.map trnD) rfl rfl (cd_draw (by omega) (by omega) fun i i0 i1 => ⟨_, set_ok (s := .sh (.int i)) rfl rfl, ?_⟩)⟩
          rw [lm] at i1
          obtain ⟨t, et⟩ : ∃ t, ts2[i.toNat]? = some t := ⟨ts2[i.toNat]'(by omega), List.getElem?_eq_getElem _⟩
          have mt : t ∈ ts2 := List.mem_of_getElem? et
          have ei : atI (ts2.map trnD) i = some (trnD t) := by
            have := atI_nat (xs := ts2.map trnD) (j := i.toNat) (v := trnD t) (by rw [List.getElem?_map, et]; rfl)
            rwa [Int.toNat_of_nonneg i0] at this
          have imt : imm (trnD t) = true := immAll_mem (trns_imm ts2) (List.mem_map.mpr ⟨t, mt, rfl⟩)
          have smt := ht.smT mt
          have sc : smB (.tuple (t.calls.map cllD)) = true := (sm_tup smt).2 _ (by simp)
          have sd : smB (.tuple (nats t.days)) = true := (sm_tup smt).2 _ (by simp)
          have lc := ht.calls mt
          have lcm : (t.calls.map cllD).length = t.calls.length := List.length_map _
          have c1 := cut_len (xs := t.calls.map cllD) (lo := some (-1)) (hi := none)
          have ok := oddL_ok (n := t.number) sd sc (by omega)
          have smTs := smT ht
          refine ⟨_, rfl, _, rfl, t_ixM (ds := ts2.map trnD) rfl rfl ei imt ⟨_, _, rfl, bind_3 rfl rfl rfl, ?_⟩⟩
          repeat (first | refine ⟨_, rfl, ?_⟩ | refine ⟨rfl, sz_c rfl, ?_⟩)
          refine t_slT rfl (t_addT (sz_of (by omega)) ?_)
          repeat refine ⟨rfl, sz_c rfl, ?_⟩
          refine ⟨_, set_ok rfl rfl, ?_⟩
          dsimp only
          repeat (first | refine ⟨_, rfl, ?_⟩ | refine ⟨rfl, sz_c rfl, ?_⟩)
          refine t_addTH (a := [.none]) (b := t.calls.map cllD) rfl rfl rfl rfl (sz_of (by rw [List.length_singleton]; omega)) ?_
          repeat (first | refine ⟨_, rfl, ?_⟩ | refine ⟨rfl, sz_c rfl, ?_⟩)
          refine t_addLh (a := (oddL t.number (.tuple (nats t.days)) (t.calls.map cllD)).take 6) (b := (oddL t.number (.tuple (nats t.days)) (t.calls.map cllD)).drop 6) rfl rfl rfl rfl (sz_of (by show 6 + 2 ≤ _; decide)) ⟨_, set_ok rfl rfl, ?_⟩
          have l1 := cut_len (xs := ts2.map trnD) (lo := none) (hi := some i)
          have l2 := cut_len (xs := ts2.map trnD) (lo := some (i + 1)) (hi := none)
          have one : ∀ {d : PD}, smB d = true → smB (.tuple [d]) = true := fun h => sm_of_tup (by simp) (all_1 h)
          refine ⟨rfl, cd_draw (by decide) (by decide) fun y y0 y1 => ⟨rfl, rfl, ⟨rfl, rfl⟩, t_isB (t_ite (fun _ => ?_) fun _ => ?_)⟩⟩
          · refine ⟨rfl, _, rfl, cd_pickH (ds := oddL t.number (.tuple (nats t.days)) (t.calls.map cllD)) rfl rfl rfl (lt_c rfl) (lt_c rfl) fun d md => ?_⟩
            refine ⟨rfl, sz_c rfl, _, rfl, _, rfl, t_len (ds := ts2.map trnD) rfl rfl (t_repT (by omega) (by omega) (h2 _ ?_))⟩
            exact sm_of_tup (by rw [List.length_replicate, lm]; omega) fun e me => by rw [List.eq_of_mem_replicate me]; exact ok d md
          · refine ⟨_, rfl, _, rfl, _, rfl, t_slT rfl ⟨rfl, _, rfl, cd_pickH (ds := oddL t.number (.tuple (nats t.days)) (t.calls.map cllD)) rfl rfl rfl (lt_c rfl) (lt_c rfl) fun d md => ?_⟩⟩
            refine ⟨rfl, sz_c rfl, t_addTH (a := cut (ts2.map trnD) none (some i)) (b := [d]) rfl rfl rfl rfl (sz_of (by rw [List.length_singleton]; omega)) ?_⟩
            refine ⟨_, rfl, _, rfl, t_addI ⟨_, rfl, t_slT rfl ?_⟩⟩
            refine t_addTH (a := cut (ts2.map trnD) none (some i) ++ [d]) (b := cut (ts2.map trnD) (some (i + 1)) none) rfl rfl rfl rfl (sz_of (by rw [List.length_append, List.length_singleton]; omega)) (h2 _ ?_)
            exact sm_app (sm_app (sm_cut smTs _ _) (one (ok d md)) (by rw [List.length_singleton]; omega)) (sm_cut smTs _ _) (by rw [List.length_append, List.length_singleton]; omega)
      · obtain ⟨cs, s5, rfl, lc, hc, f5⟩ := h
        refine ⟨_, bind_nm f5, ?_⟩
        have fin : ∀ ch ∈ lettersZ.cps.toList, ((cs.map cllD).map OD.lf).length < sizeLine ∧ N' [.wl, .sh (.tuple (ts.map trnD)), .sh (.int (16 + v)), .sh (.str lettersZ), .ow (.ls (((cs ++ [((⟨#[ch]⟩ : Str), 9 * (j : Int))]).map cllD).map .lf)), .sh (.int (0 + (j : Int))), .un, .un, .un, .un] := fun ch hch => by
          refine ⟨?_, kk _ ⟨_, _, rfl, by rw [List.length_append, List.length_singleton]; omega, fun c mc => ?_, rfl⟩⟩
          · rw [List.length_map, List.length_map]
            exact Nat.lt_of_lt_of_le (by omega : cs.length < 10000) (sz_c rfl)
          · rcases List.mem_append.mp mc with mc | mc
            · exact hc c mc
            · rw [List.mem_singleton.mp mc]
              exact ⟨⟨letter_word ch hch, by show 1 ≤ 13; decide⟩, by show 0 ≤ 9 * (j : Int); omega, by show 9 * (j : Int) ≤ 3000; omega⟩
        have ej : (9 : Int) * (0 + (j : Int)) = 9 * (j : Int) := by omega
        refine ⟨_, rfl, _, rfl, _, rfl, _, rfl, _, rfl, _, rfl, t_isB (t_ite (fun c => ?_) fun c => ?_)⟩
        · have c : (0 : Int) + (j : Int) < 16 + v := of_decide_eq_true c
          refine ⟨_, rfl, t_letter rfl (by omega) (by omega) fun ch hch => ?_⟩
          obtain ⟨e1, e2⟩ := fin ch hch
          refine ⟨_, rfl, t_mulWI (.inl ⟨by omega, by omega⟩) ⟨rfl, sz_c rfl, _, rfl, rfl, e1, ?_⟩⟩
          rw [ej]
          rw [List.map_append (f := cllD), List.map_append (f := OD.lf)] at e2
          exact e2
        · refine ⟨rfl, _, rfl, cd_draw (by omega) (by omega) fun i i0 i1 => t_letter rfl i0 (by omega) fun ch hch => ?_⟩
          obtain ⟨e1, e2⟩ := fin ch hch
          refine ⟨_, rfl, t_mulWI (.inl ⟨by omega, by omega⟩) ⟨rfl, sz_c rfl, _, rfl, rfl, e1, ?_⟩⟩
          rw [ej]
          rw [List.map_append (f := cllD), List.map_append (f := OD.lf)] at e2
          exact e2
    · have l0 : 0 < ts.length := List.length_pos_iff.mpr ne
      have lm : (ts.map trnD).length = ts.length := List.length_map _
      have l25 := ht.few
      refine ⟨rfl, _, rfl, _, rfl, t_len (ds := ts.map trnD) rfl rfl (cd_draw (by omega) (by omega) fun i i0 i1 => ⟨_, set_ok (s := .sh (.int i)) rfl rfl, ?_⟩)⟩
      rw [lm] at i1
      obtain ⟨t, et⟩ : ∃ t, ts[i.toNat]? = some t := ⟨ts[i.toNat]'(by omega), List.getElem?_eq_getElem _⟩
      have mt : t ∈ ts := List.mem_of_getElem? et
      have ei : atI (ts.map trnD) i = some (trnD t) := by
        have := atI_nat (xs := ts.map trnD) (j := i.toNat) (v := trnD t) (by rw [List.getElem?_map, et]; rfl)
        rwa [Int.toNat_of_nonneg i0] at this
      have imt : imm (trnD t) = true := immAll_mem (trns_imm ts) (List.mem_map.mpr ⟨t, mt, rfl⟩)
      have smt := ht.smT mt
      have sc : smB (.tuple (t.calls.map cllD)) = true := (sm_tup smt).2 _ (by simp)
      have sd : smB (.tuple (nats t.days)) = true := (sm_tup smt).2 _ (by simp)
      have lc := ht.calls mt
      have lcm : (t.calls.map cllD).length = t.calls.length := List.length_map _
      have c1 := cut_len (xs := t.calls.map cllD) (lo := some (-1)) (hi := none)
      have ok := oddL_ok (n := t.number) sd sc (by omega)
      have smTs := smT ht
      refine ⟨_, rfl, _, rfl, t_ixM (ds := ts.map trnD) rfl rfl ei imt ⟨_, _, rfl, bind_3 rfl rfl rfl, ?_⟩⟩
      repeat (first | refine ⟨_, rfl, ?_⟩ | refine ⟨rfl, sz_c rfl, ?_⟩)
      refine t_slT rfl (t_addT (sz_of (by omega)) ?_)
      repeat refine ⟨rfl, sz_c rfl, ?_⟩
      refine ⟨_, set_ok rfl rfl, ?_⟩
      dsimp only
      repeat (first | refine ⟨_, rfl, ?_⟩ | refine ⟨rfl, sz_c rfl, ?_⟩)
      refine t_addTH (a := [.none]) (b := t.calls.map cllD) rfl rfl rfl rfl (sz_of (by rw [List.length_singleton]; omega)) ?_
      repeat (first | refine ⟨_, rfl, ?_⟩ | refine ⟨rfl, sz_c rfl, ?_⟩)
      refine t_addLh (a := (oddL t.number (.tuple (nats t.days)) (t.calls.map cllD)).take 6) (b := (oddL t.number (.tuple (nats t.days)) (t.calls.map cllD)).drop 6) rfl rfl rfl rfl (sz_of (by show 6 + 2 ≤ _; decide)) ⟨_, set_ok rfl rfl, ?_⟩
      have l1 := cut_len (xs := ts.map trnD) (lo := none) (hi := some i)
      have l2 := cut_len (xs := ts.map trnD) (lo := some (i + 1)) (hi := none)
      have one : ∀ {d : PD}, smB d = true → smB (.tuple [d]) = true := fun h => sm_of_tup (by simp) (all_1 h)
      refine ⟨rfl, cd_draw (by decide) (by decide) fun y y0 y1 => ⟨rfl, rfl, ⟨rfl, rfl⟩, t_isB (t_ite (fun _ => ?_) fun _ => ?_)⟩⟩
      · refine ⟨rfl, _, rfl, cd_pickH (ds := oddL t.number (.tuple (nats t.days)) (t.calls.map cllD)) rfl rfl rfl (lt_c rfl) (lt_c rfl) fun d md => ?_⟩
        refine ⟨rfl, sz_c rfl, _, rfl, _, rfl, t_len (ds := ts.map trnD) rfl rfl (t_repT (by omega) (by omega) (h2 _ ?_))⟩
        exact sm_of_tup (by rw [List.length_replicate, lm]; omega) fun e me => by rw [List.eq_of_mem_replicate me]; exact ok d md
      · refine ⟨_, rfl, _, rfl, _, rfl, t_slT rfl ⟨rfl, _, rfl, cd_pickH (ds := oddL t.number (.tuple (nats t.days)) (t.calls.map cllD)) rfl rfl rfl (lt_c rfl) (lt_c rfl) fun d md => ?_⟩⟩
        refine ⟨rfl, sz_c rfl, t_addTH (a := cut (ts.map trnD) none (some i)) (b := [d]) rfl rfl rfl rfl (sz_of (by rw [List.length_singleton]; omega)) ?_⟩
        refine ⟨_, rfl, _, rfl, t_addI ⟨_, rfl, t_slT rfl ?_⟩⟩
        refine t_addTH (a := cut (ts.map trnD) none (some i) ++ [d]) (b := cut (ts.map trnD) (some (i + 1)) none) rfl rfl rfl rfl (sz_of (by rw [List.length_append, List.length_singleton]; omega)) (h2 _ ?_)
        exact sm_app (sm_app (sm_cut smTs _ _) (one (ok d md)) (by rw [List.length_singleton]; omega)) (sm_cut smTs _ _) (by rw [List.length_append, List.length_singleton]; omega))
abbrev s_law_spans : Stmt := topS 34
theorem sc_law_spans : FnScope ["well", "length", "far", "days", "holidays"] ["well"] (defScope s_law_spans) := ⟨rfl, rfl, rfl, by decide +kernel, rfl, by decide +kernel, by decide +kernel⟩
abbrev ct_law_spans : Ct := ctTwoW
theorem ok_law_spans {f : Addr} {fd : FuncData} {k : Nat} (F : Fun K "_law_spans" "_law_spans" s_law_spans f fd) (F__law_draw : CallOk prog w K mg base (PaW w K) k "_law_draw" ["well", "many"] ct_law_draw) (F__law_pick : CallOk prog w K mg base (PaW w K) k "_law_pick" ["well", "items"] ct_law_pick) (m_tuple : mg "tuple" = none) (m_range : mg "range" = none) : FnG prog w K mg base CX0 (k + 1) f fd ["well"] (spOf (PaW w K) ct_law_spans) :=
  fnA F sc_law_spans (fun cdv A out s H E P ee C R pn hr =>
    (js_cons (mul_ C [1, 2] ["length", "far"] (fun j _ => pn j) (a1 (je_bin (dop_add C) je_int (call_ C F__law_draw hr (a1 (W_ 0) (a1 je_int a0)))) (a1 (call_ C F__law_draw hr (a1 (W_ 0) (a1 je_int a0))) a0)))
      (js_cons (js_if (tcmp_ (dop_eq C) (call_ C F__law_draw hr (a1 (W_ 0) (a1 je_int a0))) je_int) (js_cons (set_ C (pn _) (je_bin (dop_add C) je_int (call_ C F__law_draw hr (a1 (W_ 0) (a1 je_int a0)))) (i := 1))
      js_nil) js_nil)
      (js_cons (set_ C (pn _) (call_ C F__law_pick hr (a1 (W_ 0) (a1 (je_lst (a1 (je_tup (a1 (je_bin (dop_add C) (je_bin (dop_sub) (V_ 1) je_int) (V_ 2)) a0)) (a1 (je_if (tcmp_ (dop_cmp _) (V_ 1) je_int) (je_tup (a1 je_int (a1 (je_bin (dop_sub) (V_ 1) je_int) a0))) (je_tup (a1 je_int a0))) (a1 (tupRg_ C m_tuple m_range (a1 (je_bin (dop_add C) (V_ 1) (V_ 2)) a0)) a0)))) a0))) (i := 3))
      (js_cons (set_ C (pn _) (call_ C F__law_pick hr (a1 (W_ 0) (a1 (je_lst (a1 (je_tup a0) (a1 (je_tup (a1 (je_bin (dop_sub) (V_ 1) je_int) a0)) (a1 (je_tup (a1 (je_bin (dop_add C) (je_bin (dop_sub) (V_ 1) je_int) (call_ C F__law_draw hr (a1 (W_ 0) (a1 je_int a0)))) a0)) a0)))) a0))) (i := 4))
      (js_cons (js_ret (je_tup (a1 (je_tup (a1 (call_ C F__law_draw hr (a1 (W_ 0) (a1 je_int a0))) (a1 (V_ 1) (a1 (V_ 4) a0)))) (a1 (je_tup (a1 (je_tup (a1 je_int (a1 (V_ 3) (a1 (je_tup (a1 (je_tup (a1 je_str (a1 je_int a0))) a0)) a0)))) a0)) a0))))
      js_nil))))))
    (fun _ => rfl) (fun _ Q h1 h2 => by
    have h2 : ∀ d : PD, smB d = true → Q (.cl d) := h2
    have smi : ∀ i : Int, smB (.int i) = true := fun _ => by unfold smB; rfl
    have sma : smB (.str "a") = true := by decide +kernel
    have sm0 : smB (.tuple []) = true := by decide +kernel
    have smt : ∀ ds : List PD, ds.length ≤ 20000 → (∀ d ∈ ds, smB d = true) → smB (.tuple ds) = true := fun ds hl h => sm_of_tup hl h
    have fin : ∀ (w n : Int) (d h : PD), smB d = true → smB h = true → smB (.tuple [.tuple [.int w, .int n, h], .tuple [.tuple [.int 3, d, .tuple [.tuple [.str "a", .int 0]]]]]) = true := fun w n d h hd hh => by
      have t2 : ∀ {a b : PD}, smB a = true → smB b = true → smB (.tuple [a, b]) = true := fun h g => smt _ (by simp) (all_2 h g)
      have t1 : ∀ {a : PD}, smB a = true → smB (.tuple [a]) = true := fun h => smt _ (by simp) (all_1 h)
      have t3 : ∀ {a b c : PD}, smB a = true → smB b = true → smB c = true → smB (.tuple [a, b, c]) = true := fun h g k => smt _ (by simp) fun x m => by
        simp only [List.mem_cons, List.not_mem_nil, or_false] at m
        rcases m with rfl | rfl | rfl <;> assumption
      exact t2 (t3 (smi w) (smi n) hh) (t1 (t3 (smi 3) hd (t1 (t2 sma (smi 0)))))
    refine ⟨rfl, cd_draw (by decide) (by decide) fun l l0 l1 => t_addI ⟨rfl, cd_draw (by decide) (by decide) fun f f0 f1 => ⟨sz_c rfl, _, sets_cons (s := .sh (.int (400 + l))) rfl rfl (sets_cons (s := .sh (.int f)) rfl rfl rfl), ?_⟩⟩⟩
    have smn : ∀ zs : List PD, zs.length ≤ 500 → (∀ d ∈ zs, ∃ i : Int, d = .int i) → smB (.tuple zs) = true := fun zs hl h => smt zs (by omega) fun d m => by
      obtain ⟨i, rfl⟩ := h d m
      exact smi i
    refine ⟨rfl, cd_draw (by decide) (by decide) fun z z0 z1 => ⟨rfl, rfl, ⟨rfl, rfl⟩, t_isB (t_ite (fun _ => ⟨rfl, cd_draw (by decide) (by decide) fun m m0 m1 => t_addI ⟨_, set_ok (s := .sh (.int (1 + m))) rfl rfl, ?_⟩⟩) fun _ => ?_)⟩⟩
    · have n0 : 1 ≤ 1 + m := by omega
      have n1 : 1 + m ≤ 402 := by omega
      generalize 1 + m = n at n0 n1
      refine ⟨rfl, _, rfl, _, _, rfl, rfl, _, rfl, t_addI ⟨rfl, sz_c rfl, ⟨_, rfl, _, rfl, t_isB (t_ite (fun c => ?_) fun c => ?_)⟩⟩⟩
      all_goals first | refine ⟨_, rfl, _, _, rfl, rfl, rfl, sz_c rfl, ?_⟩ | refine ⟨rfl, sz_c rfl, ?_⟩
      all_goals
        have hN : upN 0 (n + f) 1 ≤ 500 := by
          unfold upN
          split
          · rw [Int.ediv_one]; omega
          · omega
        refine ⟨_, rfl, _, rfl, t_addI ⟨0, n + f, 1, upN 0 (n + f) 1, rfl, rgc_up (by decide) (by decide) (by decide) (by decide) (by omega) (by omega), by omega, ?_⟩⟩
        refine ⟨rfl, sz_c rfl, cd_pickH rfl rfl rfl (lt_c rfl) (lt_c rfl) fun d md => ⟨_, set_ok rfl rfl, ?_⟩⟩
        have sd : smB d = true := by
          have md : d ∈ ([_, _, _] : List PD) := md
          simp only [List.mem_cons, List.not_mem_nil, or_false] at md
          rcases md with rfl | rfl | rfl
          · exact smn [.int (n - 1 + f)] (by simp) (all_1 ⟨_, rfl⟩)
          · first | exact smn [.int 0, .int (n - 1)] (by simp) (all_2 ⟨_, rfl⟩ ⟨_, rfl⟩) | exact smn [.int 0] (by simp) (all_1 ⟨_, rfl⟩)
          · refine smn _ (by simp [rngD]; omega) fun x m => ?_
            obtain ⟨i, _, rfl⟩ := List.mem_map.mp m
            exact ⟨_, rfl⟩
        clear md
        refine ⟨rfl, rfl, sz_c rfl, _, rfl, _, _, rfl, rfl, rfl, sz_c rfl, _, rfl, _, _, rfl, rfl, rfl, cd_draw (by decide) (by decide) fun e e0 e1 => t_addI ⟨rfl, sz_c rfl, rfl, sz_c rfl, cd_pickH rfl rfl rfl (lt_c rfl) (lt_c rfl) fun h mh => ⟨_, set_ok rfl rfl, ?_⟩⟩⟩
        have sh : smB h = true := by
          have mh : h ∈ ([_, _, _] : List PD) := mh
          simp only [List.mem_cons, List.not_mem_nil, or_false] at mh
          rcases mh with rfl | rfl | rfl
          · exact sm0
          · exact smn [.int (n - 1)] (by simp) (all_1 ⟨_, rfl⟩)
          · exact smn [.int (n - 1 + e)] (by simp) (all_1 ⟨_, rfl⟩)
        clear mh
        refine ⟨rfl, cd_draw (by decide) (by decide) fun w w0 w1 => ?_⟩
        repeat (first | refine ⟨_, rfl, ?_⟩ | refine ⟨rfl, sz_c rfl, ?_⟩)
        exact h2 _ (fin w n d h sd sh)
    · have n0 : 1 ≤ 400 + l := by omega
      have n1 : 400 + l ≤ 402 := by omega
      generalize 400 + l = n at n0 n1
      refine ⟨rfl, _, rfl, _, _, rfl, rfl, _, rfl, t_addI ⟨rfl, sz_c rfl, ⟨_, rfl, _, rfl, t_isB (t_ite (fun c => ?_) fun c => ?_)⟩⟩⟩
      all_goals first | refine ⟨_, rfl, _, _, rfl, rfl, rfl, sz_c rfl, ?_⟩ | refine ⟨rfl, sz_c rfl, ?_⟩
      all_goals
        have hN : upN 0 (n + f) 1 ≤ 500 := by
          unfold upN
          split
          · rw [Int.ediv_one]; omega
          · omega
        refine ⟨_, rfl, _, rfl, t_addI ⟨0, n + f, 1, upN 0 (n + f) 1, rfl, rgc_up (by decide) (by decide) (by decide) (by decide) (by omega) (by omega), by omega, ?_⟩⟩
        refine ⟨rfl, sz_c rfl, cd_pickH rfl rfl rfl (lt_c rfl) (lt_c rfl) fun d md => ⟨_, set_ok rfl rfl, ?_⟩⟩
        have sd : smB d = true := by
          have md : d ∈ ([_, _, _] : List PD) := md
          simp only [List.mem_cons, List.not_mem_nil, or_false] at md
          rcases md with rfl | rfl | rfl
          · exact smn [.int (n - 1 + f)] (by simp) (all_1 ⟨_, rfl⟩)
          · first | exact smn [.int 0, .int (n - 1)] (by simp) (all_2 ⟨_, rfl⟩ ⟨_, rfl⟩) | exact smn [.int 0] (by simp) (all_1 ⟨_, rfl⟩)
          · refine smn _ (by simp [rngD]; omega) fun x m => ?_
            obtain ⟨i, _, rfl⟩ := List.mem_map.mp m
            exact ⟨_, rfl⟩
        clear md
        refine ⟨rfl, rfl, sz_c rfl, _, rfl, _, _, rfl, rfl, rfl, sz_c rfl, _, rfl, _, _, rfl, rfl, rfl, cd_draw (by decide) (by decide) fun e e0 e1 => t_addI ⟨rfl, sz_c rfl, rfl, sz_c rfl, cd_pickH rfl rfl rfl (lt_c rfl) (lt_c rfl) fun h mh => ⟨_, set_ok rfl rfl, ?_⟩⟩⟩
        have sh : smB h = true := by
          have mh : h ∈ ([_, _, _] : List PD) := mh
          simp only [List.mem_cons, List.not_mem_nil, or_false] at mh
          rcases mh with rfl | rfl | rfl
          · exact sm0
          · exact smn [.int (n - 1)] (by simp) (all_1 ⟨_, rfl⟩)
          · exact smn [.int (n - 1 + e)] (by simp) (all_1 ⟨_, rfl⟩)
        clear mh
        refine ⟨rfl, cd_draw (by decide) (by decide) fun w w0 w1 => ?_⟩
        repeat (first | refine ⟨_, rfl, ?_⟩ | refine ⟨rfl, sz_c rfl, ?_⟩)
        exact h2 _ (fin w n d h sd sh))
abbrev s_law_are_told : Stmt := topS 35
theorem sc_law_are_told : FnScope ["plan", "marked", "number", "days", "calls", "place", "call", "names", "row", "name", "due"] ["plan"] (defScope s_law_are_told) := ⟨rfl, rfl, rfl, by decide +kernel, rfl, by decide +kernel, by decide +kernel⟩
abbrev ct_law_are_told : Ct := ctToldW
theorem ok_law_are_told {f : Addr} {fd : FuncData} {k : Nat} (F : Fun K "_law_are_told" "_law_are_told" s_law_are_told f fd) (m_repr : mg "repr" = none) (F_calls_at : CallOk prog w K mg base (PaW w K) k "calls_at" ["plan", "name"] ct_calls_at) (m_tuple : mg "tuple" = none) (m_sorted : mg "sorted" = none) (F_stations_of : CallOk prog w K mg base (PaW w K) k "stations_of" ["plan"] ct_stations_of) (m_set : mg "set" = none) (m_enumerate : mg "enumerate" = none) : FnG prog w K mg base CX0 (k + 1) f fd ["plan"] (spOf (PaW w K) ct_law_are_told) :=
  fnA F sc_law_are_told (fun cdv A out s H E P ee C R pn hr =>
    (js_cons (set_ C (pn _) (je_lst a0) (i := 1))
      (jss_frz 0 (js_cons (for_ C (fun j _ => pn j) (it_ C (ix_ C (V_ 0) je_int)) (tp_ C (g1 (n_ C 2) (g1 (n_ C 3) (g1 (n_ C 4) g0)))) (js_cons (for_ C (fun j _ => pn j) (enum_ C m_enumerate (a1 (V_ 4) a0)) (tp_ C (g1 (n_ C 5) (g1 (n_ C 6) g0))) (js_cons (expr_ (app_ C (L_ 1) (a1 (je_tup (a1 (ix_ C (V_ 6) je_int) (a1 (ix_ C (V_ 6) je_int) (a1 (V_ 2) (a1 (V_ 5) a0))))) a0)))
      js_nil))
      js_nil))
      (js_cons (set_ C (pn _) (sortedSetS_ C m_sorted m_set (a1 (lc_ C [("row", 8)] (it_ C (V_ 1)) (fun s H A cl fp => (n_ C.blk 8)) (fun s H A cl fp => jts_nil) (fun s H A cl fp => (ix_ C.blk (V_ 8) je_int))) a0)) (i := 7))
      (js_cons (js_if (tcmp_ (dop_neS) (repr_ C m_repr (a1 (call_ C F_stations_of hr (a1 (V_ 0) a0)) a0)) (repr_ C m_repr (a1 (tuple_ C m_tuple (a1 (V_ 7) a0)) a0))) (js_cons (js_ret je_bl)
      js_nil) js_nil)
      (jss_frz 7 (js_cons (for_ C (fun j _ => pn j) (it_ C (V_ 7)) (n_ C 9) (js_cons (set_ C (pn _) (tuple_ C m_tuple (a1 (sorted_ C m_sorted (a1 (lc_ C [("row", 8)] (it_ C (V_ 1)) (fun s H A cl fp => (n_ C.blk 8)) (fun s H A cl fp => jts_one (tcmp_ (dop_eq C.blk) (ix_ C.blk (V_ 8) je_int) (V_ 9))) (fun s H A cl fp => (je_slice C.blk (V_ 8) (jo_some je_int) jo_none))) a0)) a0)) (i := 10))
      (js_cons (js_if (tcmp_ (dop_neS) (repr_ C m_repr (a1 (call_ C F_calls_at hr (a1 (V_ 0) (a1 (V_ 9) a0))) a0)) (repr_ C m_repr (a1 (V_ 10) a0))) (js_cons (js_ret je_bl)
      js_nil) js_nil)
      js_nil)))
      (js_cons (js_ret je_bl)
      js_nil)))))))))
    (fun _ => rfl) (fun p Q h1 h2 => by
    have h1 : TrW p.trains := h1
    have h2 : Q (.cl (.bool true)) := h2
    have mn := h1.many
    have ml := mrwT_len p.trains
    refine ⟨rfl, sz_c rfl, _, set_ok (s := .ow (.ls [])) rfl rfl, ?_⟩
    refine ⟨_, rfl, t_ixM (d := .tuple (p.trains.map trnD)) rfl rfl (by rfl) (imm_tup (trns_imm _)) (t_it rfl ⟨rfl, ?_⟩)⟩
    refine forT_each (enc := trnD) p.trains (fun done ρ => ∃ s2 s3 s4 s5 s6 : SV, ρ = [.sh (plnD p), .ow (.ls (((mrwT done).map mrwD).map .lf)), s2, s3, s4, s5, s6, .un, .un, .un, .un] ∧ freeAt [2, 3, 4, 5, 6] ρ) (fun ρ h => ?_) (fun done t rest ρ N e h kk => ?_) _ ⟨.un, .un, .un, .un, .un, rfl, fun i hi => ?_⟩
    · obtain ⟨s2, s3, s4, s5, s6, rfl, fr⟩ := h
      refine ⟨_, rfl, t_it (ds := (mrwT p.trains).map mrwD) (congrArg some (vals_lf _)) ⟨rfl, ?_⟩⟩
      refine lcD_all (enc := mrwD) (fun r => PyData.str r.1) (mrwT p.trains) (sz_of (by omega)) ?_ (fun r mr => ⟨_, bind_nm rfl, fun M R hM => t_iteT rfl ⟨_, rfl, t_ixM (ds := [.str r.1, .int r.2.1, .int r.2.2.1, .int r.2.2.2]) rfl rfl atI_0 rfl hM⟩⟩)
      have eN : ((mrwT p.trains).map fun r => PyData.str r.1) = txts ((mrwT p.trains).map (·.1)) := by unfold txts; rw [List.map_map]; rfl
      rw [mkC_cl2 (g := fun r : MRw => PyData.str r.1) (by rw [eN]; exact txts_imm _), eN]
      refine ⟨_, rfl, (mrwT p.trains).map (·.1), congrArg PyData.list (vals_lf _), by rw [List.length_map]; omega, fun es e1 e2 nd => ?_⟩
      rw [names_sort (c := p.cal) e1 e2 nd]
      refine ⟨_, set_ok (s := .ow (.ls ((sortD (txts (namesOf p))).map .lf))) rfl rfl, ?_⟩
      have fn : Fit 1 20000 (.tuple (sortD (txts (namesOf p)))) := fit_namesW h1 (c := p.cal)
      refine ⟨_, rfl, cd_stations (p := p) (by omega) ⟨_, rfl, t_repr rfl fn (by decide) (by decide) ⟨_, rfl, _, rfl, t_tupleI (ds := sortD (txts (namesOf p))) (congrArg some (vals_lf _)) (sort_imm (txts_imm _)) ⟨_, rfl, t_repr rfl fn (by decide) (by decide) ⟨_, _, rfl, rfl, t_isB (t_iteF (t_neF rfl) ?_)⟩⟩⟩⟩⟩
      have nm : ∀ d ∈ sortD (txts (namesOf p)), ∃ x, d = .str x ∧ wordS x = true := fun d m => by
        obtain ⟨x, mx, rfl⟩ := List.mem_map.mp (sortD_mem.mp m)
        rcases (namesT_iff p.trains [] x).mp mx with q | ⟨t, mt, c, mc, rfl⟩
        · cases q
        · exact ⟨c.1, rfl, (h1.nm t mt c mc).1⟩
      have shw : ∀ {x : Str}, wordS x = true → SeqAt.shaped (.str x) = true := fun h => shaped_txt (wrd_lay h)
      have f9 : slotFree [s2, s3, s4, s5, s6] 0 = true := fr 2 (by simp)
      refine ⟨_, rfl, t_it (ds := sortD (txts (namesOf p))) (congrArg some (vals_lf _)) ⟨rfl, ?_⟩⟩
      generalize eV : OD.val (.ls ((sortD (txts (namesOf p))).map .lf)) = V7
      refine forT_by (fun es ρ => ∃ s9 s10 : SV, (∀ d ∈ es, d ∈ sortD (txts (namesOf p))) ∧ ρ = [.sh (plnD p), .ow (.ls (((mrwT p.trains).map mrwD).map .lf)), s2, s3, s4, s5, s6, .sh V7, .un, s9, s10] ∧ slotFree [s9, s10] 0 = true ∧ slotFree [s9, s10] 1 = true) (fun ρ h => ?_) (fun d es ρ N h kk => ?_) _ _ ⟨.un, .un, fun _ m => m, by rw [← eV]; rfl, rfl, rfl⟩
      · obtain ⟨s9, s10, _, rfl, g9, g10⟩ := h
        exact h2
      · obtain ⟨s9, s10, hes, rfl, g9, g10⟩ := h
        obtain ⟨x, rfl, wx⟩ := nm d (hes d List.mem_cons_self)
        refine ⟨_, bind_nm g9, ?_⟩
        refine ⟨_, rfl, t_it (ds := (mrwT p.trains).map mrwD) (congrArg some (vals_lf _)) ⟨rfl, ?_⟩⟩
        have rd : ∀ r ∈ mrwT p.trains, wordS r.1 = true := fun r mr => by
          have : r.1 ∈ (mrwT p.trains).map (·.1) := List.mem_map.mpr ⟨r, mr, rfl⟩
          obtain ⟨t, mt, c, mc, e⟩ := mrwT_name.mp this
          rw [← e]
          exact (h1.nm t mt c mc).1
        refine lcD_flt (enc := mrwD) (fun r => decide (r.1 = x)) (fun r => hitD r.2) (mrwT p.trains) (sz_of (by omega)) ?_ (fun r mr => ⟨_, bind_nm rfl, fun M R q1 q2 => ?_⟩)
        · have eH : (((mrwT p.trains).filter fun r => decide (r.1 = x)).map fun r => hitD r.2) = (hitsT x p.trains).map hitD := by
            rw [← mrwT_hits, List.map_map]; rfl
          rw [mkC_cl2 (g := fun r : MRw => hitD r.2) (by rw [eH]; exact hits_imm _), eH]
          have fh := fit_hitsW h1 x
          refine ⟨_, rfl, t_sorted (ds := (hitsT x p.trains).map hitD) (congrArg some (vals_lf _)) (hits_sort _) (hits_imm _) ⟨_, rfl, t_tupleI (ds := sortD ((hitsT x p.trains).map hitD)) (congrArg some (vals_lf _)) (sort_imm (hits_imm _)) ⟨_, set_ok g10 rfl, ?_⟩⟩⟩
          refine ⟨_, rfl, _, rfl, cd_callsAt (p := p) (by omega) (fun t mt c mc => shw (h1.nm t mt c mc).1) (shw wx) ⟨_, rfl, t_repr rfl fh (by decide) (by decide) ⟨_, rfl, _, rfl, t_repr rfl fh (by decide) (by decide) ⟨_, _, rfl, rfl, t_isB (t_iteF (t_neF rfl) ?_)⟩⟩⟩⟩
          exact kk _ ⟨_, _, fun d m => hes d (List.mem_cons_of_mem _ m), rfl, rfl, rfl⟩
        · refine ⟨_, rfl, t_ixM (ds := [.str r.1, .int r.2.1, .int r.2.2.1, .int r.2.2.2]) rfl rfl atI_0 rfl ⟨_, rfl, t_eqD (a := .str r.1) (b := .str x) (c := decide (r.1 = x)) rfl rfl rfl rfl (shw (rd r mr)) (shw wx) (by rw [eqvS]; rfl) (t_isB (t_ite (fun e => ?_) fun e => q2 e))⟩⟩
          refine ⟨_, rfl, _, rfl, t_slT (ds := [.str r.1, .int r.2.1, .int r.2.2.1, .int r.2.2.2]) (cut_tail) (q1 e)⟩
    · obtain ⟨s2, s3, s4, s5, s6, rfl, fr⟩ := h
      have f5 := fr 5 (by simp)
      have f6 := fr 6 (by simp)
      have hm : manyC done + t.calls.length + manyC rest ≤ 201 := by rw [← manyC_mid, ← e]; exact mn
      refine ⟨_, bind_3 (fr 2 (by simp)) (fr 3 (by simp)) (fr 4 (by simp)), ?_⟩
      refine ⟨_, rfl, .inl ⟨_, rfl, _, _, rfl, rfl, forT_enum (enc := cllD) t.calls (fun dn ρ => ∃ s5 s6 : SV, ρ = [.sh (plnD p), .ow (.ls (((mrwT done ++ mrwC t.number 0 dn).map mrwD).map .lf)), .sh (.int t.number), .sh (.tuple (nats t.days)), .sh (.tuple (t.calls.map cllD)), s5, s6, .un, .un, .un, .un] ∧ slotFree [s5, s6] 0 = true ∧ slotFree [s5, s6] 1 = true) (fun ρ h => ?_) (fun dn c r2 ρ M em h k2 => ?_) _ ⟨s5, s6, ?_, f5, f6⟩⟩⟩
      · obtain ⟨s5, s6, rfl, g5, g6⟩ := h
        refine kk _ ⟨.sh (.int t.number), .sh (.tuple (nats t.days)), .sh (.tuple (t.calls.map cllD)), s5, s6, by rw [mrwT_add], fun i hi => ?_⟩
        simp only [List.mem_cons, List.not_mem_nil, or_false] at hi
        rcases hi with rfl | rfl | rfl | rfl | rfl <;> first | rfl | exact g5 | exact g6
      · obtain ⟨s5, s6, rfl, g5, g6⟩ := h
        have lc := congrArg List.length em
        rw [List.length_append, List.length_cons] at lc
        refine ⟨_, bind_2 g5 g6, ?_⟩
        refine ⟨_, rfl, _, rfl, _, rfl, t_ixM (ds := [.str c.1, .int c.2]) rfl rfl atI_0 rfl ⟨_, rfl, t_ixM (ds := [.str c.1, .int c.2]) rfl rfl atI_1 rfl ⟨_, rfl, _, rfl, rfl, sz_c rfl, ?_⟩⟩⟩
        refine ⟨_, rfl, rfl, ?_, k2 _ ⟨.sh (.int (dn.length : Int)), .sh (cllD c), ?_, rfl, rfl⟩⟩
        · rw [List.length_map, List.length_map, List.length_append, mrwT_len, mrwC_len]
          exact Nat.lt_of_lt_of_le (by omega : manyC done + dn.length < 1000001) (sz_c rfl)
        · rw [mrwC_add, ← List.append_assoc, List.map_append (f := mrwD) (l₁ := mrwT done ++ mrwC t.number 0 dn), List.map_append (f := OD.lf) (l₁ := (mrwT done ++ mrwC t.number 0 dn).map mrwD), show (0 : Int) + (dn.length : Int) = (dn.length : Int) by omega]
          rfl
      · rw [show mrwC t.number 0 [] = [] from rfl, List.append_nil]; rfl
    · simp only [List.mem_cons, List.not_mem_nil, or_false] at hi
      rcases hi with rfl | rfl | rfl | rfl | rfl <;> rfl)
abbrev s_law : Stmt := topS 36
theorem sc_law : FnScope ["script", "well", "calendar", "turn", "plan", "due"] ["script"] (defScope s_law) := ⟨rfl, rfl, rfl, by decide +kernel, rfl, by decide +kernel, by decide +kernel⟩
abbrev ct_law : Ct := ctLaw'
theorem ok_law {f : Addr} {fd : FuncData} {k : Nat} (F : Fun K "law" "law" s_law f fd) (F__law_spans : CallOk prog w K mg base (PaW w K) k "_law_spans" ["well"] ct_law_spans) (F__law_two : CallOk prog w K mg base (PaW w K) k "_law_two" ["well"] ct_law_two) (m_repr : mg "repr" = none) (F_plan_error : CallOk prog w K mg base (PaW w K) k "plan_error" ["value"] ct_plan_error) (F__law_error : CallOk prog w K mg base (PaW w K) k "_law_error" ["value"] ct_law_error) (m_range : mg "range" = none) (F__law_are_told : CallOk prog w K mg base (PaW w K) k "_law_are_told" ["plan"] ct_law_are_told) (F__law_wide : CallOk prog w K mg base (PaW w K) k "_law_wide" ["well", "way"] ct_law_wide) (F__law_draw : CallOk prog w K mg base (PaW w K) k "_law_draw" ["well", "many"] ct_law_draw) (F__law_well : CallOk prog w K mg base (PaW w K) k "_law_well" ["script"] ct_law_well) : FnG prog w K mg base CX0 (k + 1) f fd ["script"] (spOf (PaW w K) ct_law) :=
  fnA F sc_law (fun cdv A out s H E P ee C R pn hr =>
    (js_cons (set_ C (pn _) (call_ C F__law_well hr (a1 (V_ 0) a0)) (i := 1))
      (js_cons (set_ C (pn _) (je_tup (a1 (call_ C F__law_draw hr (a1 (W_ 1) (a1 je_int a0))) (a1 (je_bin (dop_add C) je_int (call_ C F__law_draw hr (a1 (W_ 1) (a1 je_int a0)))) (a1 (je_tup a0) a0)))) (i := 2))
      (js_cons (for_ C (fun j _ => pn j) (rng1_ m_range (a1 je_int a0)) (n_ C 3) (js_cons (set_ C (pn _) (je_tup (a1 (V_ 2) (a1 (call_ C F__law_wide hr (a1 (W_ 1) (a1 (call_ C F__law_draw hr (a1 (W_ 1) (a1 je_int a0))) a0))) a0))) (i := 4))
      (js_cons (set_ C (pn _) (call_ C F__law_error hr (a1 (V_ 4) a0)) (i := 5))
      (js_cons (js_if (jt_w (jw_or (tcmp_ (dop_neS) (reprX_ C m_repr (a1 (call_ C F_plan_error hr (a1 (V_ 4) a0)) a0)) (reprX_ C m_repr (a1 (V_ 5) a0))) (jw_or1 (jt_w (jw_and (tcmp_ (dop_is) (V_ 5) je_non) (jw_and (tcmp_ (dop_eq C) (V_ 3) je_int) (jw_and1 (jt_not (truth_ C (call_ C F__law_are_told hr (a1 (V_ 4) a0))))))))))) (js_cons (js_ret je_bl)
      js_nil) js_nil)
      js_nil))))
      (jss_frz 2 (js_cons (for_ C (fun j _ => pn j) (it_ C (je_lst (a1 (je_tup (a1 (V_ 2) (a1 (call_ C F__law_two hr (a1 (W_ 1) a0)) a0))) (a1 (call_ C F__law_spans hr (a1 (W_ 1) a0)) a0)))) (n_ C 4) (js_cons (js_if (tcmp_ (dop_neS) (reprX_ C m_repr (a1 (call_ C F_plan_error hr (a1 (V_ 4) a0)) a0)) (reprX_ C m_repr (a1 (call_ C F__law_error hr (a1 (V_ 4) a0)) a0))) (js_cons (js_ret je_bl)
      js_nil) js_nil)
      js_nil))
      (js_cons (js_ret je_bl)
      js_nil)))))))
    (fun _ => rfl) (fun ns Q h1 h2 => by
    refine ⟨_, rfl, cd_well h1 ⟨_, rfl, ?_⟩⟩
    refine ⟨rfl, cd_draw (by decide) (by decide) fun a a0 a1 => ⟨rfl, cd_draw (by decide) (by decide) fun b b0 b1 => t_addI ⟨rfl, sz_c rfl, rfl, sz_c rfl, ?_⟩⟩⟩
    obtain ⟨a, rfl⟩ := Int.eq_ofNat_of_zero_le a0
    obtain ⟨b, rfl⟩ := Int.eq_ofNat_of_zero_le b0
    have eb : (1 : Int) + (b : Int) = ((1 + b : Nat) : Int) := by omega
    rw [eb]
    obtain ⟨c, ec, hc⟩ : ∃ c : Cal, PyData.tuple [.int (a : Int), .int ((1 + b : Nat) : Int), .tuple []] = calD c ∧ c.hols.length ≤ 20000 := ⟨⟨a, 1 + b, []⟩, rfl, by simp⟩
    refine ⟨_, set_ok (s := .sh (calD c)) rfl (by rw [← ec]; rfl), ?_⟩
    refine ⟨_, _, rfl, rfl, smallI_of (by decide) (by decide), rfl, ?_⟩
    refine forT_range 2 (fun j ρ => ∃ s3 s4 s5 : SV, ρ = [.sc ns, .wl, .sh (calD c), s3, s4, s5] ∧ freeAt [0, 1, 2] [s3, s4, s5]) (fun ρ h => ?_) (fun j ρ N hj h k => ?_) _ ⟨.un, .un, .un, rfl, fun i hi => ?_⟩
    · obtain ⟨s3, s4, s5, rfl, fr⟩ := h
      have f4 := fr 1 (by simp)
      refine ⟨_, rfl, rfl, cd_twoW fun d hd => ⟨rfl, sz_c rfl, rfl, cd_twoW fun e he => ⟨rfl, sz_c rfl, t_it (ds := [.tuple [calD c, d], e]) rfl ⟨rfl, ?_⟩⟩⟩⟩
      have smc : smB (calD c) = true := by
        show smB (.tuple [.int (c.first : Int), .int (c.length : Int), .tuple (nats c.hols)]) = true
        exact sm_3 (sm_int _) (sm_int _) (sm_nats hc)
      have sd : smB (.tuple [calD c, d]) = true := sm_of_tup (by simp) (all_2 smc hd)
      have all : ∀ v ∈ [.tuple [calD c, d], e], smB v = true := all_2 sd he
      refine forT_by (fun es ρ => ∃ s4 : SV, (∀ v ∈ es, v ∈ [.tuple [calD c, d], e]) ∧ ρ = [.sc ns, .wl, .sh (calD c), s3, s4, s5] ∧ slotFree [s4] 0 = true) (fun ρ h => ?_) (fun v es ρ N h kk => ?_) _ _ ⟨s4, fun _ m => m, rfl, f4⟩
      · obtain ⟨s4, _, rfl, f4⟩ := h
        exact h2
      · obtain ⟨s4, hes, rfl, f4⟩ := h
        have sv := all v (hes v List.mem_cons_self)
        refine ⟨_, bind_nm f4, ?_⟩
        refine ⟨_, rfl, cd_planE sv ⟨_, rfl, t_reprErr sv ⟨_, rfl, cd_planE sv ⟨_, rfl, t_reprErr sv ⟨_, _, rfl, rfl, t_isB (t_iteF (t_neF rfl) ?_)⟩⟩⟩⟩⟩
        exact kk _ ⟨_, fun w m => hes w (List.mem_cons_of_mem _ m), rfl, rfl⟩
    · obtain ⟨s3, s4, s5, rfl, fr⟩ := h
      have f4 := fr 1 (by simp)
      have f5 := fr 2 (by simp)
      refine ⟨_, bind_nm (fr 0 (by simp)), ?_⟩
      refine ⟨_, rfl, rfl, rfl, cd_draw (by decide) (by decide) fun w w0 w1 => cd_wide rfl w0 w1 fun ts ht ne => ⟨rfl, sz_c rfl, _, set_ok (s := .sh (plnD ⟨c, ts⟩)) f4 rfl, ?_⟩⟩
      have sm : smB (plnD ⟨c, ts⟩) = true := ht.sm hc
      refine ⟨_, rfl, cd_planE sm ⟨_, set_ok (s := .sh (planErr (plnD ⟨c, ts⟩))) f5 rfl, ?_⟩⟩
      refine ⟨_, rfl, cd_planE sm ⟨_, rfl, t_reprErr sm ⟨_, rfl, _, rfl, t_reprErr sm ⟨_, _, rfl, rfl, t_isB (t_iteF (t_neF rfl) ?_)⟩⟩⟩⟩
      have go : N [.sc ns, .wl, .sh (calD c), .sh (.int (0 + (j : Int))), .sh (plnD ⟨c, ts⟩), .sh (planErr (plnD ⟨c, ts⟩))] := k _ ⟨_, _, _, rfl, fun i hi => by
        simp only [List.mem_cons, List.not_mem_nil, or_false] at hi
        rcases hi with rfl | rfl | rfl <;> rfl⟩
      refine ⟨_, rfl, rfl, rfl, rfl, t_isB (t_ite (fun c1 => ?_) fun c1 => ?_)⟩
      · refine ⟨_, rfl, rfl, rfl, ⟨rfl, rfl⟩, t_isB (t_ite (fun c2 => ?_) fun c2 => ?_)⟩
        · exact ⟨_, rfl, cd_toldW rfl ht ⟨rfl, trivial, t_iteF rfl go⟩⟩
        · exact t_iteF rfl go
      · exact t_iteF rfl go
    · simp only [List.mem_cons, List.not_mem_nil, or_false] at hi
      rcases hi with rfl | rfl | rfl <;> rfl)
end
theorem all_mk {w : World} {K : PySem.W.Frag} {h : Heap} {mg : Str → Option Value} {fa f0 f1 f2 f3 f4 f5 f6 f7 f8 f9 f10 f11 f12 f13 f14 f15 f16 f17 f18 f19 f20 f21 f22 f23 f24 f25 f26 : Addr} {prog : Program} (X : K.In h) (G : h.Ns mainGlobals mg) (hfa : mg "law" = some (.ref fa))
    {od0 an0 od1 an1 od2 an2 od3 an3 od4 an4 od5 an5 od6 an6 od7 an7 od8 an8 od9 an9 od10 an10 od11 an11 od12 an12 od13 an13 od14 an14 od15 an15 od16 an16 od17 an17 od18 an18 od19 an19 od20 an20 od21 an21 od22 an22 od23 an23 od24 an24 od25 an25 od26 an26 : Option Addr} {sl0 sl1 sl2 sl3 sl4 sl5 sl6 sl7 sl8 sl9 sl10 sl11 sl12 sl13 sl14 sl15 sl16 sl17 sl18 sl19 sl20 sl21 sl22 sl23 sl24 sl25 sl26 : Array (Option Value)} {oc0 kV0 dc0 pm0 cd0 ct0 oc1 kV1 dc1 pm1 cd1 ct1 oc2 kV2 dc2 pm2 cd2 ct2 oc3 kV3 dc3 pm3 cd3 ct3 oc4 kV4 dc4 pm4 cd4 ct4 oc5 kV5 dc5 pm5 cd5 ct5 oc6 kV6 dc6 pm6 cd6 ct6 oc7 kV7 dc7 pm7 cd7 ct7 oc8 kV8 dc8 pm8 cd8 ct8 oc9 kV9 dc9 pm9 cd9 ct9 oc10 kV10 dc10 pm10 cd10 ct10 oc11 kV11 dc11 pm11 cd11 ct11 oc12 kV12 dc12 pm12 cd12 ct12 oc13 kV13 dc13 pm13 cd13 ct13 oc14 kV14 dc14 pm14 cd14 ct14 oc15 kV15 dc15 pm15 cd15 ct15 oc16 kV16 dc16 pm16 cd16 ct16 oc17 kV17 dc17 pm17 cd17 ct17 oc18 kV18 dc18 pm18 cd18 ct18 oc19 kV19 dc19 pm19 cd19 ct19 oc20 kV20 dc20 pm20 cd20 ct20 oc21 kV21 dc21 pm21 cd21 ct21 oc22 kV22 dc22 pm22 cd22 ct22 oc23 kV23 dc23 pm23 cd23 ct23 oc24 kV24 dc24 pm24 cd24 ct24 oc25 kV25 dc25 pm25 cd25 ct25 oc26 kV26 dc26 pm26 cd26 ct26 : Value} {t0 t1 t2 t3 t4 t5 t6 t7 : Tok}
    (a0 : PySem.W.nsIn K mainGlobals "is_between" = some (some (.ref f0))) (l0 : K.lookup f0 = some ⟨oc0, od0, .func (PySem.W.fnOf "is_between" "is_between" (defArgs s_is_between) (defBody s_is_between) (defScope s_is_between) .none kV0 dc0 pm0 an0 cd0 ct0), sl0⟩) (c0 : PySem.W.codeIn K cd0 "is_between" = true) (k0 : PySem.W.keepIn K (.ref f0) = true)
    (a1 : PySem.W.nsIn K mainGlobals "is_tuple_of" = some (some (.ref f1))) (l1 : K.lookup f1 = some ⟨oc1, od1, .func (PySem.W.fnOf "is_tuple_of" "is_tuple_of" (defArgs s_is_tuple_of) (defBody s_is_tuple_of) (defScope s_is_tuple_of) .none kV1 dc1 pm1 an1 cd1 ct1), sl1⟩) (c1 : PySem.W.codeIn K cd1 "is_tuple_of" = true) (k1 : PySem.W.keepIn K (.ref f1) = true)
    (a2 : PySem.W.nsIn K mainGlobals "is_name" = some (some (.ref f2))) (l2 : K.lookup f2 = some ⟨oc2, od2, .func (PySem.W.fnOf "is_name" "is_name" (defArgs s_is_name) (defBody s_is_name) (defScope s_is_name) .none kV2 dc2 pm2 an2 cd2 ct2), sl2⟩) (c2 : PySem.W.codeIn K cd2 "is_name" = true) (k2 : PySem.W.keepIn K (.ref f2) = true)
    (a3 : PySem.W.nsIn K mainGlobals "stations_of" = some (some (.ref f3))) (l3 : K.lookup f3 = some ⟨oc3, od3, .func (PySem.W.fnOf "stations_of" "stations_of" (defArgs s_stations_of) (defBody s_stations_of) (defScope s_stations_of) .none kV3 dc3 pm3 an3 cd3 ct3), sl3⟩) (c3 : PySem.W.codeIn K cd3 "stations_of" = true) (k3 : PySem.W.keepIn K (.ref f3) = true)
    (a4 : PySem.W.nsIn K mainGlobals "calls_at" = some (some (.ref f4))) (l4 : K.lookup f4 = some ⟨oc4, od4, .func (PySem.W.fnOf "calls_at" "calls_at" (defArgs s_calls_at) (defBody s_calls_at) (defScope s_calls_at) .none kV4 dc4 pm4 an4 cd4 ct4), sl4⟩) (c4 : PySem.W.codeIn K cd4 "calls_at" = true) (k4 : PySem.W.keepIn K (.ref f4) = true)
    (a5 : PySem.W.nsIn K mainGlobals "_law_well" = some (some (.ref f5))) (l5 : K.lookup f5 = some ⟨oc5, od5, .func (PySem.W.fnOf "_law_well" "_law_well" (defArgs s_law_well) (defBody s_law_well) (defScope s_law_well) .none kV5 dc5 pm5 an5 cd5 ct5), sl5⟩) (c5 : PySem.W.codeIn K cd5 "_law_well" = true) (k5 : PySem.W.keepIn K (.ref f5) = true)
    (a6 : PySem.W.nsIn K mainGlobals "_law_draw" = some (some (.ref f6))) (l6 : K.lookup f6 = some ⟨oc6, od6, .func (PySem.W.fnOf "_law_draw" "_law_draw" (defArgs s_law_draw) (defBody s_law_draw) (defScope s_law_draw) .none kV6 dc6 pm6 an6 cd6 ct6), sl6⟩) (c6 : PySem.W.codeIn K cd6 "_law_draw" = true) (k6 : PySem.W.keepIn K (.ref f6) = true)
    (a7 : PySem.W.nsIn K mainGlobals "_law_is_whole" = some (some (.ref f7))) (l7 : K.lookup f7 = some ⟨oc7, od7, .func (PySem.W.fnOf "_law_is_whole" "_law_is_whole" (defArgs s_law_is_whole) (defBody s_law_is_whole) (defScope s_law_is_whole) .none kV7 dc7 pm7 an7 cd7 ct7), sl7⟩) (c7 : PySem.W.codeIn K cd7 "_law_is_whole" = true) (k7 : PySem.W.keepIn K (.ref f7) = true)
    (a8 : PySem.W.nsIn K mainGlobals "is_number" = some (some (.ref f8))) (l8 : K.lookup f8 = some ⟨oc8, od8, .func (PySem.W.fnOf "is_number" "is_number" (defArgs s_is_number) (defBody s_is_number) (defScope s_is_number) .none kV8 dc8 pm8 an8 cd8 ct8), sl8⟩) (c8 : PySem.W.codeIn K cd8 "is_number" = true) (k8 : PySem.W.keepIn K (.ref f8) = true)
    (a9 : PySem.W.nsIn K mainGlobals "are_days" = some (some (.ref f9))) (l9 : K.lookup f9 = some ⟨oc9, od9, .func (PySem.W.fnOf "are_days" "are_days" (defArgs s_are_days) (defBody s_are_days) (defScope s_are_days) .none kV9 dc9 pm9 an9 cd9 ct9), sl9⟩) (c9 : PySem.W.codeIn K cd9 "are_days" = true) (k9 : PySem.W.keepIn K (.ref f9) = true)
    (a10 : PySem.W.nsIn K mainGlobals "is_call" = some (some (.ref f10))) (l10 : K.lookup f10 = some ⟨oc10, od10, .func (PySem.W.fnOf "is_call" "is_call" (defArgs s_is_call) (defBody s_is_call) (defScope s_is_call) .none kV10 dc10 pm10 an10 cd10 ct10), sl10⟩) (c10 : PySem.W.codeIn K cd10 "is_call" = true) (k10 : PySem.W.keepIn K (.ref f10) = true)
    (a11 : PySem.W.nsIn K mainGlobals "_law_pick" = some (some (.ref f11))) (l11 : K.lookup f11 = some ⟨oc11, od11, .func (PySem.W.fnOf "_law_pick" "_law_pick" (defArgs s_law_pick) (defBody s_law_pick) (defScope s_law_pick) .none kV11 dc11 pm11 an11 cd11 ct11), sl11⟩) (c11 : PySem.W.codeIn K cd11 "_law_pick" = true) (k11 : PySem.W.keepIn K (.ref f11) = true)
    (a12 : PySem.W.nsIn K mainGlobals "_law_is_rise" = some (some (.ref f12))) (l12 : K.lookup f12 = some ⟨oc12, od12, .func (PySem.W.fnOf "_law_is_rise" "_law_is_rise" (defArgs s_law_is_rise) (defBody s_law_is_rise) (defScope s_law_is_rise) .none kV12 dc12 pm12 an12 cd12 ct12), sl12⟩) (c12 : PySem.W.codeIn K cd12 "_law_is_rise" = true) (k12 : PySem.W.keepIn K (.ref f12) = true)
    (a13 : PySem.W.nsIn K mainGlobals "_law_is_call" = some (some (.ref f13))) (l13 : K.lookup f13 = some ⟨oc13, od13, .func (PySem.W.fnOf "_law_is_call" "_law_is_call" (defArgs s_law_is_call) (defBody s_law_is_call) (defScope s_law_is_call) .none kV13 dc13 pm13 an13 cd13 ct13), sl13⟩) (c13 : PySem.W.codeIn K cd13 "_law_is_call" = true) (k13 : PySem.W.keepIn K (.ref f13) = true)
    (a14 : PySem.W.nsIn K mainGlobals "_law_shared" = some (some (.ref f14))) (l14 : K.lookup f14 = some ⟨oc14, od14, .func (PySem.W.fnOf "_law_shared" "_law_shared" (defArgs s_law_shared) (defBody s_law_shared) (defScope s_law_shared) .none kV14 dc14 pm14 an14 cd14 ct14), sl14⟩) (c14 : PySem.W.codeIn K cd14 "_law_shared" = true) (k14 : PySem.W.keepIn K (.ref f14) = true)
    (a15 : PySem.W.nsIn K mainGlobals "_law_are_told" = some (some (.ref f15))) (l15 : K.lookup f15 = some ⟨oc15, od15, .func (PySem.W.fnOf "_law_are_told" "_law_are_told" (defArgs s_law_are_told) (defBody s_law_are_told) (defScope s_law_are_told) .none kV15 dc15 pm15 an15 cd15 ct15), sl15⟩) (c15 : PySem.W.codeIn K cd15 "_law_are_told" = true) (k15 : PySem.W.keepIn K (.ref f15) = true)
    (a16 : PySem.W.nsIn K mainGlobals "is_calendar" = some (some (.ref f16))) (l16 : K.lookup f16 = some ⟨oc16, od16, .func (PySem.W.fnOf "is_calendar" "is_calendar" (defArgs s_is_calendar) (defBody s_is_calendar) (defScope s_is_calendar) .none kV16 dc16 pm16 an16 cd16 ct16), sl16⟩) (c16 : PySem.W.codeIn K cd16 "is_calendar" = true) (k16 : PySem.W.keepIn K (.ref f16) = true)
    (a17 : PySem.W.nsIn K mainGlobals "calls_error" = some (some (.ref f17))) (l17 : K.lookup f17 = some ⟨oc17, od17, .func (PySem.W.fnOf "calls_error" "calls_error" (defArgs s_calls_error) (defBody s_calls_error) (defScope s_calls_error) .none kV17 dc17 pm17 an17 cd17 ct17), sl17⟩) (c17 : PySem.W.codeIn K cd17 "calls_error" = true) (k17 : PySem.W.keepIn K (.ref f17) = true)
    (a18 : PySem.W.nsIn K mainGlobals "_law_is_calendar" = some (some (.ref f18))) (l18 : K.lookup f18 = some ⟨oc18, od18, .func (PySem.W.fnOf "_law_is_calendar" "_law_is_calendar" (defArgs s_law_is_calendar) (defBody s_law_is_calendar) (defScope s_law_is_calendar) .none kV18 dc18 pm18 an18 cd18 ct18), sl18⟩) (c18 : PySem.W.codeIn K cd18 "_law_is_calendar" = true) (k18 : PySem.W.keepIn K (.ref f18) = true)
    (a19 : PySem.W.nsIn K mainGlobals "_law_train_error" = some (some (.ref f19))) (l19 : K.lookup f19 = some ⟨oc19, od19, .func (PySem.W.fnOf "_law_train_error" "_law_train_error" (defArgs s_law_train_error) (defBody s_law_train_error) (defScope s_law_train_error) .none kV19 dc19 pm19 an19 cd19 ct19), sl19⟩) (c19 : PySem.W.codeIn K cd19 "_law_train_error" = true) (k19 : PySem.W.keepIn K (.ref f19) = true)
    (a20 : PySem.W.nsIn K mainGlobals "_law_wide" = some (some (.ref f20))) (l20 : K.lookup f20 = some ⟨oc20, od20, .func (PySem.W.fnOf "_law_wide" "_law_wide" (defArgs s_law_wide) (defBody s_law_wide) (defScope s_law_wide) .none kV20 dc20 pm20 an20 cd20 ct20), sl20⟩) (c20 : PySem.W.codeIn K cd20 "_law_wide" = true) (k20 : PySem.W.keepIn K (.ref f20) = true)
    (a21 : PySem.W.nsIn K mainGlobals "_law_spans" = some (some (.ref f21))) (l21 : K.lookup f21 = some ⟨oc21, od21, .func (PySem.W.fnOf "_law_spans" "_law_spans" (defArgs s_law_spans) (defBody s_law_spans) (defScope s_law_spans) .none kV21 dc21 pm21 an21 cd21 ct21), sl21⟩) (c21 : PySem.W.codeIn K cd21 "_law_spans" = true) (k21 : PySem.W.keepIn K (.ref f21) = true)
    (a22 : PySem.W.nsIn K mainGlobals "train_error" = some (some (.ref f22))) (l22 : K.lookup f22 = some ⟨oc22, od22, .func (PySem.W.fnOf "train_error" "train_error" (defArgs s_train_error) (defBody s_train_error) (defScope s_train_error) .none kV22 dc22 pm22 an22 cd22 ct22), sl22⟩) (c22 : PySem.W.codeIn K cd22 "train_error" = true) (k22 : PySem.W.keepIn K (.ref f22) = true)
    (a23 : PySem.W.nsIn K mainGlobals "_law_error" = some (some (.ref f23))) (l23 : K.lookup f23 = some ⟨oc23, od23, .func (PySem.W.fnOf "_law_error" "_law_error" (defArgs s_law_error) (defBody s_law_error) (defScope s_law_error) .none kV23 dc23 pm23 an23 cd23 ct23), sl23⟩) (c23 : PySem.W.codeIn K cd23 "_law_error" = true) (k23 : PySem.W.keepIn K (.ref f23) = true)
    (a24 : PySem.W.nsIn K mainGlobals "_law_two" = some (some (.ref f24))) (l24 : K.lookup f24 = some ⟨oc24, od24, .func (PySem.W.fnOf "_law_two" "_law_two" (defArgs s_law_two) (defBody s_law_two) (defScope s_law_two) .none kV24 dc24 pm24 an24 cd24 ct24), sl24⟩) (c24 : PySem.W.codeIn K cd24 "_law_two" = true) (k24 : PySem.W.keepIn K (.ref f24) = true)
    (a25 : PySem.W.nsIn K mainGlobals "plan_error" = some (some (.ref f25))) (l25 : K.lookup f25 = some ⟨oc25, od25, .func (PySem.W.fnOf "plan_error" "plan_error" (defArgs s_plan_error) (defBody s_plan_error) (defScope s_plan_error) .none kV25 dc25 pm25 an25 cd25 ct25), sl25⟩) (c25 : PySem.W.codeIn K cd25 "plan_error" = true) (k25 : PySem.W.keepIn K (.ref f25) = true)
    (a26 : PySem.W.nsIn K mainGlobals "law" = some (some (.ref f26))) (l26 : K.lookup f26 = some ⟨oc26, od26, .func (PySem.W.fnOf "law" "law" (defArgs s_law) (defBody s_law) (defScope s_law) .none kV26 dc26 pm26 an26 cd26 ct26), sl26⟩) (c26 : PySem.W.codeIn K cd26 "law" = true) (k26 : PySem.W.keepIn K (.ref f26) = true)
    (z0 : PySem.W.nsIn K mainGlobals "isinstance" = some none)
    (z1 : PySem.W.nsIn K mainGlobals "bool" = some none)
    (z2 : PySem.W.nsIn K mainGlobals "int" = some none)
    (z3 : PySem.W.nsIn K mainGlobals "len" = some none)
    (z4 : PySem.W.nsIn K mainGlobals "tuple" = some none)
    (z5 : PySem.W.nsIn K mainGlobals "all" = some none)
    (z6 : PySem.W.nsIn K mainGlobals "str" = some none)
    (z7 : PySem.W.nsIn K mainGlobals "sorted" = some none)
    (z8 : PySem.W.nsIn K mainGlobals "list" = some none)
    (z9 : PySem.W.nsIn K mainGlobals "enumerate" = some none)
    (z10 : PySem.W.nsIn K mainGlobals "abs" = some none)
    (z11 : PySem.W.nsIn K mainGlobals "zip" = some none)
    (z12 : PySem.W.nsIn K mainGlobals "range" = some none)
    (z13 : PySem.W.nsIn K mainGlobals "repr" = some none)
    (z14 : PySem.W.nsIn K mainGlobals "set" = some none)
    (z15 : PySem.W.nsIn K mainGlobals "max" = some none)
    (z16 : PySem.W.nsIn K mainGlobals "sum" = some none)
    (y0 : PySem.W.nsIn K mainGlobals "LETTERS" = some (some (.str "abcdefghijklmnopqrstuvwxyz" t0)))
    (y1 : PySem.W.nsIn K mainGlobals "MAX_NAME" = some (some (.int 12 t1)))
    (y2 : PySem.W.nsIn K mainGlobals "MAX_NUMBER" = some (some (.int 9999 t2)))
    (y3 : PySem.W.nsIn K mainGlobals "MAX_MINUTE" = some (some (.int 2879 t3)))
    (y4 : PySem.W.nsIn K mainGlobals "MAX_SPAN" = some (some (.int 400 t4)))
    (y5 : PySem.W.nsIn K mainGlobals "MAX_CALLS" = some (some (.int 200 t5)))
    (y6 : PySem.W.nsIn K mainGlobals "MAX_STATIONS" = some (some (.int 16 t6)))
    (y7 : PySem.W.nsIn K mainGlobals "MAX_TRAINS" = some (some (.int 24 t7)))
    : ∃ fd : FuncData, (∀ (s : Shared) (v : Value), BindsTo s fd ⟨[v], []⟩ [("script", v)]) ∧ ∀ base : Heap, K.In base → base.Ns mainGlobals mg → FnG prog w K mg base CX0 6 fa fd ["script"] (spOf (PaW w K) ctLaw) := by
  have e := hfa.symm.trans (PySem.W.mg_of X G a26)
  cases e
  have F0 := fun_mk (st := s_is_between) l0 c0 k0
  have F1 := fun_mk (st := s_is_tuple_of) l1 c1 k1
  have F2 := fun_mk (st := s_is_name) l2 c2 k2
  have F3 := fun_mk (st := s_stations_of) l3 c3 k3
  have F4 := fun_mk (st := s_calls_at) l4 c4 k4
  have F5 := fun_mk (st := s_law_well) l5 c5 k5
  have F6 := fun_mk (st := s_law_draw) l6 c6 k6
  have F7 := fun_mk (st := s_law_is_whole) l7 c7 k7
  have F8 := fun_mk (st := s_is_number) l8 c8 k8
  have F9 := fun_mk (st := s_are_days) l9 c9 k9
  have F10 := fun_mk (st := s_is_call) l10 c10 k10
  have F11 := fun_mk (st := s_law_pick) l11 c11 k11
  have F12 := fun_mk (st := s_law_is_rise) l12 c12 k12
  have F13 := fun_mk (st := s_law_is_call) l13 c13 k13
  have F14 := fun_mk (st := s_law_shared) l14 c14 k14
  have F15 := fun_mk (st := s_law_are_told) l15 c15 k15
  have F16 := fun_mk (st := s_is_calendar) l16 c16 k16
  have F17 := fun_mk (st := s_calls_error) l17 c17 k17
  have F18 := fun_mk (st := s_law_is_calendar) l18 c18 k18
  have F19 := fun_mk (st := s_law_train_error) l19 c19 k19
  have F20 := fun_mk (st := s_law_wide) l20 c20 k20
  have F21 := fun_mk (st := s_law_spans) l21 c21 k21
  have F22 := fun_mk (st := s_train_error) l22 c22 k22
  have F23 := fun_mk (st := s_law_error) l23 c23 k23
  have F24 := fun_mk (st := s_law_two) l24 c24 k24
  have F25 := fun_mk (st := s_plan_error) l25 c25 k25
  have F26 := fun_mk (st := s_law) l26 c26 k26
  have m_isinstance := PySem.W.mg_none_of X G z0
  have m_bool := PySem.W.mg_none_of X G z1
  have m_int := PySem.W.mg_none_of X G z2
  have m_len := PySem.W.mg_none_of X G z3
  have m_tuple := PySem.W.mg_none_of X G z4
  have m_all := PySem.W.mg_none_of X G z5
  have m_str := PySem.W.mg_none_of X G z6
  have m_sorted := PySem.W.mg_none_of X G z7
  have m_list := PySem.W.mg_none_of X G z8
  have m_enumerate := PySem.W.mg_none_of X G z9
  have m_abs := PySem.W.mg_none_of X G z10
  have m_zip := PySem.W.mg_none_of X G z11
  have m_range := PySem.W.mg_none_of X G z12
  have m_repr := PySem.W.mg_none_of X G z13
  have m_set := PySem.W.mg_none_of X G z14
  have m_max := PySem.W.mg_none_of X G z15
  have m_sum := PySem.W.mg_none_of X G z16
  have g_LETTERS := PySem.W.mg_of X G y0
  have g_MAX_NAME := PySem.W.mg_of X G y1
  have g_MAX_NUMBER := PySem.W.mg_of X G y2
  have g_MAX_MINUTE := PySem.W.mg_of X G y3
  have g_MAX_SPAN := PySem.W.mg_of X G y4
  have g_MAX_CALLS := PySem.W.mg_of X G y5
  have g_MAX_STATIONS := PySem.W.mg_of X G y6
  have g_MAX_TRAINS := PySem.W.mg_of X G y7
  refine ⟨(PySem.W.fnOf "law" "law" (defArgs s_law) (defBody s_law) (defScope s_law) .none kV26 dc26 pm26 an26 cd26 ct26), fun s v => .of_eq rfl, fun base KB NB => ?_⟩
  have G0 : FnG prog w K mg base CX0 1 _ _ ["value", "low", "high"] (spOf (PaW w K) ct_is_between) := ok_is_between F0 m_isinstance m_bool m_int
  have b0 := F0.binds (ps := ["value", "low", "high"]) fun _ _ _ _ _ _ us hl => match us, hl with | [_, _, _], _ => rfl
  have F_is_between : CallOk prog w K mg base (PaW w K) 1 "is_between" ["value", "low", "high"] ct_is_between := ⟨⟨_, _, PySem.W.mg_of X G a0, k0, b0, G0⟩⟩
  have G1 : FnG prog w K mg base CX0 1 _ _ ["value", "many"] (spOf (PaW w K) ct_is_tuple_of) := ok_is_tuple_of F1 m_len m_isinstance m_tuple
  have b1 := F1.binds (ps := ["value", "many"]) fun _ _ _ _ _ _ us hl => match us, hl with | [_, _], _ => rfl
  have F_is_tuple_of : CallOk prog w K mg base (PaW w K) 1 "is_tuple_of" ["value", "many"] ct_is_tuple_of := ⟨⟨_, _, PySem.W.mg_of X G a1, k1, b1, G1⟩⟩
  have G2 : FnG prog w K mg base CX0 1 _ _ ["value"] (spOf (PaW w K) ct_is_name) := ok_is_name F2 m_all g_LETTERS m_len g_MAX_NAME m_isinstance m_str
  have b2 := F2.binds (ps := ["value"]) fun _ _ _ _ _ _ us hl => match us, hl with | [_], _ => rfl
  have F_is_name : CallOk prog w K mg base (PaW w K) 1 "is_name" ["value"] ct_is_name := ⟨⟨_, _, PySem.W.mg_of X G a2, k2, b2, G2⟩⟩
  have G3 : FnG prog w K mg base CX0 1 _ _ ["plan"] (spOf (PaW w K) ct_stations_of) := ok_stations_of F3 m_tuple m_sorted m_list
  have b3 := F3.binds (ps := ["plan"]) fun _ _ _ _ _ _ us hl => match us, hl with | [_], _ => rfl
  have F_stations_of : CallOk prog w K mg base (PaW w K) 1 "stations_of" ["plan"] ct_stations_of := ⟨⟨_, _, PySem.W.mg_of X G a3, k3, b3, G3⟩⟩
  have G4 : FnG prog w K mg base CX0 1 _ _ ["plan", "name"] (spOf (PaW w K) ct_calls_at) := ok_calls_at F4 m_tuple m_sorted m_enumerate
  have b4 := F4.binds (ps := ["plan", "name"]) fun _ _ _ _ _ _ us hl => match us, hl with | [_, _], _ => rfl
  have F_calls_at : CallOk prog w K mg base (PaW w K) 1 "calls_at" ["plan", "name"] ct_calls_at := ⟨⟨_, _, PySem.W.mg_of X G a4, k4, b4, G4⟩⟩
  have G5 : FnG prog w K mg base CX0 1 _ _ ["script"] (spOf (PaW w K) ct_law_well) := ok_law_well F5 m_int m_len m_abs
  have b5 := F5.binds (ps := ["script"]) fun _ _ _ _ _ _ us hl => match us, hl with | [_], _ => rfl
  have F__law_well : CallOk prog w K mg base (PaW w K) 1 "_law_well" ["script"] ct_law_well := ⟨⟨_, _, PySem.W.mg_of X G a5, k5, b5, G5⟩⟩
  have G6 : FnG prog w K mg base CX0 1 _ _ ["well", "many"] (spOf (PaW w K) ct_law_draw) := ok_law_draw F6 m_int
  have b6 := F6.binds (ps := ["well", "many"]) fun _ _ _ _ _ _ us hl => match us, hl with | [_, _], _ => rfl
  have F__law_draw : CallOk prog w K mg base (PaW w K) 1 "_law_draw" ["well", "many"] ct_law_draw := ⟨⟨_, _, PySem.W.mg_of X G a6, k6, b6, G6⟩⟩
  have G7 : FnG prog w K mg base CX0 1 _ _ ["value", "low", "high"] (spOf (PaW w K) ct_law_is_whole) := ok_law_is_whole F7 m_isinstance m_bool m_int
  have b7 := F7.binds (ps := ["value", "low", "high"]) fun _ _ _ _ _ _ us hl => match us, hl with | [_, _, _], _ => rfl
  have F__law_is_whole : CallOk prog w K mg base (PaW w K) 1 "_law_is_whole" ["value", "low", "high"] ct_law_is_whole := ⟨⟨_, _, PySem.W.mg_of X G a7, k7, b7, G7⟩⟩
  have G8 : FnG prog w K mg base CX0 2 _ _ ["value"] (spOf (PaW w K) ct_is_number) := ok_is_number F8 (F_is_between.mono (by decide)) g_MAX_NUMBER
  have b8 := F8.binds (ps := ["value"]) fun _ _ _ _ _ _ us hl => match us, hl with | [_], _ => rfl
  have F_is_number : CallOk prog w K mg base (PaW w K) 2 "is_number" ["value"] ct_is_number := ⟨⟨_, _, PySem.W.mg_of X G a8, k8, b8, G8⟩⟩
  have G9 : FnG prog w K mg base CX0 2 _ _ ["value", "length"] (spOf (PaW w K) ct_are_days) := ok_are_days F9 m_enumerate (F_is_between.mono (by decide)) m_isinstance m_tuple
  have b9 := F9.binds (ps := ["value", "length"]) fun _ _ _ _ _ _ us hl => match us, hl with | [_, _], _ => rfl
  have F_are_days : CallOk prog w K mg base (PaW w K) 2 "are_days" ["value", "length"] ct_are_days := ⟨⟨_, _, PySem.W.mg_of X G a9, k9, b9, G9⟩⟩
  have G10 : FnG prog w K mg base CX0 2 _ _ ["value"] (spOf (PaW w K) ct_is_call) := ok_is_call F10 (F_is_between.mono (by decide)) g_MAX_MINUTE (F_is_name.mono (by decide)) (F_is_tuple_of.mono (by decide))
  have b10 := F10.binds (ps := ["value"]) fun _ _ _ _ _ _ us hl => match us, hl with | [_], _ => rfl
  have F_is_call : CallOk prog w K mg base (PaW w K) 2 "is_call" ["value"] ct_is_call := ⟨⟨_, _, PySem.W.mg_of X G a10, k10, b10, G10⟩⟩
  have G11 : FnG prog w K mg base CX0 2 _ _ ["well", "items"] (spOf (PaW w K) ct_law_pick) := ok_law_pick F11 (F__law_draw.mono (by decide)) m_len
  have b11 := F11.binds (ps := ["well", "items"]) fun _ _ _ _ _ _ us hl => match us, hl with | [_, _], _ => rfl
  have F__law_pick : CallOk prog w K mg base (PaW w K) 2 "_law_pick" ["well", "items"] ct_law_pick := ⟨⟨_, _, PySem.W.mg_of X G a11, k11, b11, G11⟩⟩
  have G12 : FnG prog w K mg base CX0 2 _ _ ["value", "low", "high"] (spOf (PaW w K) ct_law_is_rise) := ok_law_is_rise F12 m_zip (F__law_is_whole.mono (by decide)) m_isinstance m_tuple
  have b12 := F12.binds (ps := ["value", "low", "high"]) fun _ _ _ _ _ _ us hl => match us, hl with | [_, _, _], _ => rfl
  have F__law_is_rise : CallOk prog w K mg base (PaW w K) 2 "_law_is_rise" ["value", "low", "high"] ct_law_is_rise := ⟨⟨_, _, PySem.W.mg_of X G a12, k12, b12, G12⟩⟩
  have G13 : FnG prog w K mg base CX0 2 _ _ ["value"] (spOf (PaW w K) ct_law_is_call) := ok_law_is_call F13 (F__law_is_whole.mono (by decide)) m_len m_isinstance m_str m_tuple
  have b13 := F13.binds (ps := ["value"]) fun _ _ _ _ _ _ us hl => match us, hl with | [_], _ => rfl
  have F__law_is_call : CallOk prog w K mg base (PaW w K) 2 "_law_is_call" ["value"] ct_law_is_call := ⟨⟨_, _, PySem.W.mg_of X G a13, k13, b13, G13⟩⟩
  have G14 : FnG prog w K mg base CX0 2 _ _ ["well", "calls", "rows"] (spOf (PaW w K) ct_law_shared) := ok_law_shared F14 m_tuple (F__law_draw.mono (by decide)) m_enumerate m_range
  have b14 := F14.binds (ps := ["well", "calls", "rows"]) fun _ _ _ _ _ _ us hl => match us, hl with | [_, _, _], _ => rfl
  have F__law_shared : CallOk prog w K mg base (PaW w K) 2 "_law_shared" ["well", "calls", "rows"] ct_law_shared := ⟨⟨_, _, PySem.W.mg_of X G a14, k14, b14, G14⟩⟩
  have G15 : FnG prog w K mg base CX0 2 _ _ ["plan"] (spOf (PaW w K) ct_law_are_told) := ok_law_are_told F15 m_repr (F_calls_at.mono (by decide)) m_tuple m_sorted (F_stations_of.mono (by decide)) m_set m_enumerate
  have b15 := F15.binds (ps := ["plan"]) fun _ _ _ _ _ _ us hl => match us, hl with | [_], _ => rfl
  have F__law_are_told : CallOk prog w K mg base (PaW w K) 2 "_law_are_told" ["plan"] ct_law_are_told := ⟨⟨_, _, PySem.W.mg_of X G a15, k15, b15, G15⟩⟩
  have G16 : FnG prog w K mg base CX0 3 _ _ ["value"] (spOf (PaW w K) ct_is_calendar) := ok_is_calendar F16 (F_are_days.mono (by decide)) (F_is_between.mono (by decide)) g_MAX_SPAN (F_is_tuple_of.mono (by decide))
  have b16 := F16.binds (ps := ["value"]) fun _ _ _ _ _ _ us hl => match us, hl with | [_], _ => rfl
  have F_is_calendar : CallOk prog w K mg base (PaW w K) 3 "is_calendar" ["value"] ct_is_calendar := ⟨⟨_, _, PySem.W.mg_of X G a16, k16, b16, G16⟩⟩
  have G17 : FnG prog w K mg base CX0 3 _ _ ["value", "place"] (spOf (PaW w K) ct_calls_error) := ok_calls_error F17 m_range m_len m_enumerate (F_is_call.mono (by decide)) m_isinstance m_tuple
  have b17 := F17.binds (ps := ["value", "place"]) fun _ _ _ _ _ _ us hl => match us, hl with | [_, _], _ => rfl
  have F_calls_error : CallOk prog w K mg base (PaW w K) 3 "calls_error" ["value", "place"] ct_calls_error := ⟨⟨_, _, PySem.W.mg_of X G a17, k17, b17, G17⟩⟩
  have G18 : FnG prog w K mg base CX0 3 _ _ ["value"] (spOf (PaW w K) ct_law_is_calendar) := ok_law_is_calendar F18 (F__law_is_rise.mono (by decide)) (F__law_is_whole.mono (by decide)) m_len m_isinstance m_tuple
  have b18 := F18.binds (ps := ["value"]) fun _ _ _ _ _ _ us hl => match us, hl with | [_], _ => rfl
  have F__law_is_calendar : CallOk prog w K mg base (PaW w K) 3 "_law_is_calendar" ["value"] ct_law_is_calendar := ⟨⟨_, _, PySem.W.mg_of X G a18, k18, b18, G18⟩⟩
  have G19 : FnG prog w K mg base CX0 3 _ _ ["calendar", "value", "least", "place"] (spOf (PaW w K) ct_law_train_error) := ok_law_train_error F19 m_range m_len m_enumerate (F__law_is_call.mono (by decide)) m_isinstance m_tuple (F__law_is_rise.mono (by decide)) (F__law_is_whole.mono (by decide)) m_max
  have b19 := F19.binds (ps := ["calendar", "value", "least", "place"]) fun _ _ _ _ _ _ us hl => match us, hl with | [_, _, _, _], _ => rfl
  have F__law_train_error : CallOk prog w K mg base (PaW w K) 3 "_law_train_error" ["calendar", "value", "least", "place"] ct_law_train_error := ⟨⟨_, _, PySem.W.mg_of X G a19, k19, b19, G19⟩⟩
  have G20 : FnG prog w K mg base CX0 3 _ _ ["well", "way"] (spOf (PaW w K) ct_law_wide) := ok_law_wide F20 (F__law_draw.mono (by decide)) (F__law_shared.mono (by decide)) m_range m_enumerate m_tuple
  have b20 := F20.binds (ps := ["well", "way"]) fun _ _ _ _ _ _ us hl => match us, hl with | [_, _], _ => rfl
  have F__law_wide : CallOk prog w K mg base (PaW w K) 3 "_law_wide" ["well", "way"] ct_law_wide := ⟨⟨_, _, PySem.W.mg_of X G a20, k20, b20, G20⟩⟩
  have G21 : FnG prog w K mg base CX0 3 _ _ ["well"] (spOf (PaW w K) ct_law_spans) := ok_law_spans F21 (F__law_draw.mono (by decide)) (F__law_pick.mono (by decide)) m_tuple m_range
  have b21 := F21.binds (ps := ["well"]) fun _ _ _ _ _ _ us hl => match us, hl with | [_], _ => rfl
  have F__law_spans : CallOk prog w K mg base (PaW w K) 3 "_law_spans" ["well"] ct_law_spans := ⟨⟨_, _, PySem.W.mg_of X G a21, k21, b21, G21⟩⟩
  have G22 : FnG prog w K mg base CX0 4 _ _ ["calendar", "trains", "place"] (spOf (PaW w K) ct_train_error) := ok_train_error F22 (F_calls_error.mono (by decide)) (F_are_days.mono (by decide)) (F_is_number.mono (by decide)) (F_is_tuple_of.mono (by decide))
  have b22 := F22.binds (ps := ["calendar", "trains", "place"]) fun _ _ _ _ _ _ us hl => match us, hl with | [_, _, _], _ => rfl
  have F_train_error : CallOk prog w K mg base (PaW w K) 4 "train_error" ["calendar", "trains", "place"] ct_train_error := ⟨⟨_, _, PySem.W.mg_of X G a22, k22, b22, G22⟩⟩
  have G23 : FnG prog w K mg base CX0 4 _ _ ["value"] (spOf (PaW w K) ct_law_error) := ok_law_error F23 m_len m_enumerate (F__law_train_error.mono (by decide)) m_isinstance m_tuple (F__law_is_calendar.mono (by decide))
  have b23 := F23.binds (ps := ["value"]) fun _ _ _ _ _ _ us hl => match us, hl with | [_], _ => rfl
  have F__law_error : CallOk prog w K mg base (PaW w K) 4 "_law_error" ["value"] ct_law_error := ⟨⟨_, _, PySem.W.mg_of X G a23, k23, b23, G23⟩⟩
  have G24 : FnG prog w K mg base CX0 4 _ _ ["well"] (spOf (PaW w K) ct_law_two) := ok_law_two F24 (F__law_pick.mono (by decide)) (F__law_draw.mono (by decide)) m_len (F__law_shared.mono (by decide)) m_range (F__law_wide.mono (by decide))
  have b24 := F24.binds (ps := ["well"]) fun _ _ _ _ _ _ us hl => match us, hl with | [_], _ => rfl
  have F__law_two : CallOk prog w K mg base (PaW w K) 4 "_law_two" ["well"] ct_law_two := ⟨⟨_, _, PySem.W.mg_of X G a24, k24, b24, G24⟩⟩
  have G25 : FnG prog w K mg base CX0 5 _ _ ["value"] (spOf (PaW w K) ct_plan_error) := ok_plan_error F25 m_sum m_len g_MAX_CALLS (F_stations_of.mono (by decide)) g_MAX_STATIONS m_range (F_train_error.mono (by decide)) g_MAX_TRAINS m_isinstance m_tuple (F_is_calendar.mono (by decide)) (F_is_tuple_of.mono (by decide))
  have b25 := F25.binds (ps := ["value"]) fun _ _ _ _ _ _ us hl => match us, hl with | [_], _ => rfl
  have F_plan_error : CallOk prog w K mg base (PaW w K) 5 "plan_error" ["value"] ct_plan_error := ⟨⟨_, _, PySem.W.mg_of X G a25, k25, b25, G25⟩⟩
  have G26 : FnG prog w K mg base CX0 6 _ _ ["script"] (spOf (PaW w K) ct_law) := ok_law F26 (F__law_spans.mono (by decide)) (F__law_two.mono (by decide)) m_repr (F_plan_error.mono (by decide)) (F__law_error.mono (by decide)) m_range (F__law_are_told.mono (by decide)) (F__law_wide.mono (by decide)) (F__law_draw.mono (by decide)) (F__law_well.mono (by decide))
  exact G26
end K03
open PySem PySem.W PyProof.Rows
set_option maxHeartbeats 0 in
theorem PySem.Challenge.cw_risingsheets_k03_bounds_of_plans_holds : PySem.Challenge.rw_risingsheets_k03_bounds_of_plans.Holds := by
  w_on; o_law; k_head; (case hw => w_witness2)
  k_fill
  refine Rz.walk_ofG (l := PySem.Challenge.rw_risingsheets_k03_bounds_of_plans) (k := 6) (x := "script") (Pf := fun w => Rz.PaW w _) rfl rfl ⟨rfl, by decide, by decide⟩ (fun _ => rfl) (fun w h Y => PySem.W.kIn_of Y) ?F
  case F =>
    intro w mg fa h KX G hmg
    refine' K03.all_mk KX G hmg ?a0 ?l0 ?c0 ?k0 ?a1 ?l1 ?c1 ?k1 ?a2 ?l2 ?c2 ?k2 ?a3 ?l3 ?c3 ?k3 ?a4 ?l4 ?c4 ?k4 ?a5 ?l5 ?c5 ?k5 ?a6 ?l6 ?c6 ?k6 ?a7 ?l7 ?c7 ?k7 ?a8 ?l8 ?c8 ?k8 ?a9 ?l9 ?c9 ?k9 ?a10 ?l10 ?c10 ?k10 ?a11 ?l11 ?c11 ?k11 ?a12 ?l12 ?c12 ?k12 ?a13 ?l13 ?c13 ?k13 ?a14 ?l14 ?c14 ?k14 ?a15 ?l15 ?c15 ?k15 ?a16 ?l16 ?c16 ?k16 ?a17 ?l17 ?c17 ?k17 ?a18 ?l18 ?c18 ?k18 ?a19 ?l19 ?c19 ?k19 ?a20 ?l20 ?c20 ?k20 ?a21 ?l21 ?c21 ?k21 ?a22 ?l22 ?c22 ?k22 ?a23 ?l23 ?c23 ?k23 ?a24 ?l24 ?c24 ?k24 ?a25 ?l25 ?c25 ?k25 ?a26 ?l26 ?c26 ?k26 ?z0 ?z1 ?z2 ?z3 ?z4 ?z5 ?z6 ?z7 ?z8 ?z9 ?z10 ?z11 ?z12 ?z13 ?z14 ?z15 ?z16 ?y0 ?y1 ?y2 ?y3 ?y4 ?y5 ?y6 ?y7
    (case a0 => k_is); (case l0 => k_is); (case c0 => k_is); (case k0 => k_is); (case a1 => k_is); (case l1 => k_is); (case c1 => k_is); (case k1 => k_is); (case a2 => k_is); (case l2 => k_is); (case c2 => k_is); (case k2 => k_is); (case a3 => k_is); (case l3 => k_is); (case c3 => k_is); (case k3 => k_is); (case a4 => k_is); (case l4 => k_is); (case c4 => k_is); (case k4 => k_is); (case a5 => k_is); (case l5 => k_is); (case c5 => k_is); (case k5 => k_is); (case a6 => k_is); (case l6 => k_is); (case c6 => k_is); (case k6 => k_is); (case a7 => k_is); (case l7 => k_is); (case c7 => k_is); (case k7 => k_is); (case a8 => k_is); (case l8 => k_is); (case c8 => k_is); (case k8 => k_is); (case a9 => k_is); (case l9 => k_is); (case c9 => k_is); (case k9 => k_is); (case a10 => k_is); (case l10 => k_is); (case c10 => k_is); (case k10 => k_is); (case a11 => k_is); (case l11 => k_is); (case c11 => k_is); (case k11 => k_is); (case a12 => k_is); (case l12 => k_is); (case c12 => k_is); (case k12 => k_is); (case a13 => k_is); (case l13 => k_is); (case c13 => k_is); (case k13 => k_is); (case a14 => k_is); (case l14 => k_is); (case c14 => k_is); (case k14 => k_is); (case a15 => k_is); (case l15 => k_is); (case c15 => k_is); (case k15 => k_is); (case a16 => k_is); (case l16 => k_is); (case c16 => k_is); (case k16 => k_is); (case a17 => k_is); (case l17 => k_is); (case c17 => k_is); (case k17 => k_is); (case a18 => k_is); (case l18 => k_is); (case c18 => k_is); (case k18 => k_is); (case a19 => k_is); (case l19 => k_is); (case c19 => k_is); (case k19 => k_is); (case a20 => k_is); (case l20 => k_is); (case c20 => k_is); (case k20 => k_is); (case a21 => k_is); (case l21 => k_is); (case c21 => k_is); (case k21 => k_is); (case a22 => k_is); (case l22 => k_is); (case c22 => k_is); (case k22 => k_is); (case a23 => k_is); (case l23 => k_is); (case c23 => k_is); (case k23 => k_is); (case a24 => k_is); (case l24 => k_is); (case c24 => k_is); (case k24 => k_is); (case a25 => k_is); (case l25 => k_is); (case c25 => k_is); (case k25 => k_is); (case a26 => k_is); (case l26 => k_is); (case c26 => k_is); (case k26 => k_is); (case z0 => k_is); (case z1 => k_is); (case z2 => k_is); (case z3 => k_is); (case z4 => k_is); (case z5 => k_is); (case z6 => k_is); (case z7 => k_is); (case z8 => k_is); (case z9 => k_is); (case z10 => k_is); (case z11 => k_is); (case z12 => k_is); (case z13 => k_is); (case z14 => k_is); (case z15 => k_is); (case z16 => k_is); (case y0 => k_is); (case y1 => k_is); (case y2 => k_is); (case y3 => k_is); (case y4 => k_is); (case y5 => k_is); (case y6 => k_is); (case y7 => k_is)
