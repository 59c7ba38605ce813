import PyProof.Rows.All
import Wide.All
import OpenK.AllK
import Wide.FinOn
import HandS.ForMost
import HandS.Exc
import HandS.TryOnly
import HandS.TryMany
import HandS.ExcOwn
import HandS.ExcIs
import HandS.WordsExc
import HandS.CallSlots
import HandS.Codes
import HandS.Flow
import HandS.Style
import HandS.Deep
import HandS.Evl
import HandS.Wide
import HandS.IsInst
import HandS.Text
import HandS.Comp
import HandS.Iter
import PyProof.Draws
import PyProof.EnumMake
import HandS.Ends
import HandS.Replace
import PyProof.Rows.StrLawsPart
import PyProof.Rows.StrRev
import PyProof.SliceStr2
import HandS.ReplaceList
import HandS.Zip
import KE.GoesMore
import KE.GoesEnum
import HandS.Small
import HandS.Conv
import HandS.TupLen
import HandS.More
import PyProof.ListStr
import PyProof.ReprRoads
import PyProof.FitsInt
import PyProof.StrLawsRepr
import PyProof.ReprLen
import PyProof.Fits
import HandS.ExcValue
import KE.KTryMore
import KE.KExcStr
import PyProof.TupleOfSeq
import KE.DataFind
import PyProof.Rows.RegReprOcc
import HandS.SortInts
import HandS.SetFor
import HandS.Strs
import KE.KDictSum
import KE.SortData
import KE.DataMinMax
import PyProof.Rows.RowBridgeK
import KE.DataCmp
import PyProof.Rows.StrFirst
import PyProof.Rows.Digits
import PyProof.Rows.StrOr
import PyProof.SumWalkG
import PyProof.Rows.SumGenD
import HandS.DictComp
import HandS.HeadHook3
import HandS.ReplaceLit
import PySem.Challenge.RW_bracketrows_k09_trees_of_rows
set_option Elab.async false
set_option linter.all false
set_option maxRecDepth 100000
set_option maxHeartbeats 4000000
namespace G
open PySem L2 SX Evl
noncomputable abbrev DK := Sum Int (List Nat)
inductive D where
  | non | bl (b : Bool) | int (i : Int) | str (x : List Nat)
  | lst (ds : List D) | tup (ds : List D)
  | dk (ks : List DK) (ds : List D) | dt (ks : List (List DK)) (ds : List D)
  | exc (n : Nat)
    | ob (c : Nat) (ds : List D)
noncomputable def toKey : DK → Key
  | .inl i => .inl i
  | .inr x => .inr (S x)
noncomputable def excName : Nat → Str
  | 0 => "RowError" | 1 => "NoKinds" | 2 => "NoLine" | 3 => "NotRight" | 4 => "NoTree" | 5 => "NoNumber"
  | 6 => "NoWeights" | 7 => "NoPlace" | 8 => "NoFilling" | 9 => "TooMany" | 10 => "NoName" | _ => "NoRow"
noncomputable def clsName : Nat → Str
  | 0 => "Grower" | 1 => "Desk" | _ => "Begun"
noncomputable def clsAttrs : Nat → List Str
  | 0 => ["kinds", "signs"] | 1 => ["kinds", "kept"] | _ => ["line", "brackets", "counts", "opened", "closed", "place"]
noncomputable def muts : List Str := ["kept", "opened", "closed"]
noncomputable def Pv (H : Hp) (p a : Addr) : Prop := ∃ (C dx : Addr) (fs : List (Str × V)) (n : Str), H p = some (.ins C dx fs) ∧ (n, V.ref a) ∈ fs ∧ n ∈ muts
noncomputable def Cel (H : Hp) (p a : Addr) : Prop := a = p ∨ Pv H p a
noncomputable def OCl (M : Addr → Prop) (H : Hp) (a : Addr) : Prop := ∃ p, M p ∧ Cel H p a
structure Gm where
  K : PySem.W.Frag
  mg : Str → Option Value
noncomputable def exTexts : List (List Nat) := [[119, 111, 114, 100, 115], [], [32, 40, 32, 49, 32, 41, 32, 120], List.replicate 900 120, [32, 65, 32, 114, 111, 119, 44, 32, 40, 63, 41, 32], List.replicate 900 63]
noncomputable def ExX (C a t : Addr) : HO := .ext fun h => ∃ (oe : Obj) (vs : Array Value), h.get? a = some oe ∧ oe.cls = .ref C ∧ oe.data = .fields vs ∧ vs[0]? = some (.ref t)
noncomputable def ExAt (g : Gm) (G : Hp) (a : Addr) (n : Nat) : Prop :=
  (n < 1000 ∧ ∃ cls, g.mg (excName n) = some cls ∧ G a = some (.ext fun h => ∃ (oe : Obj) (vs : Array Value), h.get? a = some oe ∧ Zc cls none oe ∧ oe.data = .fields vs)) ∨
  (1000 ≤ n ∧ ∃ C t, g.mg (excName ((n - 1000) % 12)) = some (.ref C) ∧ G a = some (ExX C a t) ∧ G t = some (.tup [.str (S (exTexts.getD ((n - 1000) / 12) []))]))
mutual
noncomputable def Rp (g : Gm) (G : Hp) : D → V → Prop
  | .non, v => v = .non
  | .bl b, v => v = .bl b
  | .int i, v => v = .int i
  | .str x, v => v = .str (S x)
  | .lst ds, v => ∃ a vs, v = .ref a ∧ SqL g.K G a vs ∧ Rps g G ds vs
  | .tup ds, v => ∃ a vs, v = .ref a ∧ G a = some (.tup vs) ∧ Rps g G ds vs
  | .dk ks ds, v => ∃ a kvs, v = .ref a ∧ Rd G a (.dK kvs) ∧ kvs.map (·.1) = ks.map toKey ∧ Rps g G ds (kvs.map (·.2))
  | .dt ks ds, v => ∃ a kvs, v = .ref a ∧ Rd G a (.dT kvs) ∧ kvs.map (·.1) = ks.map (·.map toKey) ∧ Rps g G ds (kvs.map (·.2))
  | .exc n, v => ∃ a, v = .ref a ∧ ExAt g G a n
  | .ob c ds, v => ∃ a C dx fs, v = .ref a ∧ G a = some (.ins C dx fs) ∧ g.mg (clsName c) = some (.ref C) ∧ fs.map (·.1) = (clsAttrs c).take ds.length ∧ Rps g G ds (fs.map (·.2))
noncomputable def Rps (g : Gm) (G : Hp) : List D → List V → Prop
  | [], vs => vs = []
  | d :: ds, vs => ∃ v r, vs = v :: r ∧ Rp g G d v ∧ Rps g G ds r
end
section
variable {g : Gm} {G G' H H' : Hp}
mutual
theorem Rp.mono (e : Ex G G') : ∀ (d : D) (v : V), Rp g G d v → Rp g G' d v
  | .non, _, h => by simpa [Rp] using h
  | .bl b, _, h => by simpa [Rp] using h
  | .int i, _, h => by simpa [Rp] using h
  | .str x, _, h => by simpa [Rp] using h
  | .lst ds, _, h => by
    obtain ⟨a, vs, e1, h1, h2⟩ := h
    exact ⟨a, vs, e1, ex_l e h1, Rps.mono e ds vs h2⟩
  | .tup ds, _, h => by
    obtain ⟨a, vs, e1, h1, h2⟩ := h
    exact ⟨a, vs, e1, e _ _ h1, Rps.mono e ds vs h2⟩
  | .dk ks ds, _, h => by
    obtain ⟨a, kvs, e1, h1, h2, h3⟩ := h
    exact ⟨a, kvs, e1, ex_rd e h1, h2, Rps.mono e ds _ h3⟩
  | .dt ks ds, _, h => by
    obtain ⟨a, kvs, e1, h1, h2, h3⟩ := h
    exact ⟨a, kvs, e1, ex_rd e h1, h2, Rps.mono e ds _ h3⟩
  | .exc n, _, h => by
    obtain ⟨a, e1, ⟨q, cls, h1, h2⟩ | ⟨q, C, t, h1, h2, h3⟩⟩ := h
    · exact ⟨a, e1, .inl ⟨q, cls, h1, e _ _ h2⟩⟩
    · exact ⟨a, e1, .inr ⟨q, C, t, h1, e _ _ h2, e _ _ h3⟩⟩
  | .ob c ds, _, h => by
    obtain ⟨a, C, dx, fs, e1, h1, h2, h3, h4⟩ := h
    exact ⟨a, C, dx, fs, e1, e _ _ h1, h2, h3, Rps.mono e ds _ h4⟩
theorem Rps.mono (e : Ex G G') : ∀ (ds : List D) (vs : List V), Rps g G ds vs → Rps g G' ds vs
  | [], _, h => h
  | d :: ds, _, h => by
    obtain ⟨v, r, e1, h1, h2⟩ := h
    exact ⟨v, r, e1, Rp.mono e d v h1, Rps.mono e ds r h2⟩
end
theorem Rps.length : ∀ {ds : List D} {vs : List V}, Rps g G ds vs → vs.length = ds.length
  | [], _, h => by rw [show _ = [] from h] <;> rfl
  | d :: ds, _, h => by
    obtain ⟨v, r, e1, _, h2⟩ := h
    rw [e1, List.length_cons, List.length_cons, Rps.length h2]
theorem Rps.get : ∀ {ds : List D} {vs : List V} {i : Nat} {d : D}, Rps g G ds vs → ds[i]? = some d → ∃ v, vs[i]? = some v ∧ Rp g G d v
  | [], _, i, d, _, e => by simp at e
  | d :: ds, _, 0, d', h, e => by
    obtain ⟨v, r, e1, h1, h2⟩ := h
    simp at e
    subst e
    exact ⟨v, by rw [e1] <;> rfl, h1⟩
  | d :: ds, _, i + 1, d', h, e => by
    obtain ⟨v, r, e1, h1, h2⟩ := h
    obtain ⟨w, q1, q2⟩ := Rps.get (i := i) h2 (by simpa using e)
    exact ⟨w, by rw [e1]; simpa using q1, q2⟩
theorem Rps.nil : Rps g G [] [] := by simp [Rps]
theorem Rps.cons {d : D} {ds : List D} {v : V} {vs : List V} (h : Rp g G d v) (t : Rps g G ds vs) : Rps g G (d :: ds) (v :: vs) := ⟨v, vs, rfl, h, t⟩
theorem Rps.append : ∀ {ds es : List D} {vs ws : List V}, Rps g G ds vs → Rps g G es ws → Rps g G (ds ++ es) (vs ++ ws)
  | [], _, _, _, h, t => by rw [show _ = [] from h]; exact t
  | d :: ds, _, _, _, h, t => by
    obtain ⟨v, r, e1, h1, h2⟩ := h
    rw [e1]
    exact Rps.cons h1 (Rps.append h2 t)
theorem Rps.one {d : D} {v : V} (h : Rp g G d v) : Rps g G [d] [v] := Rps.cons h Rps.nil
theorem Rps.take : ∀ {ds : List D} {vs : List V} (n : Nat), Rps g G ds vs → Rps g G (ds.take n) (vs.take n)
  | _, _, 0, _ => by simp [Rps]
  | [], _, n + 1, h => by rw [show _ = [] from h]; simp [Rps]
  | d :: ds, _, n + 1, h => by
    obtain ⟨v, r, e1, h1, h2⟩ := h
    rw [e1]
    exact Rps.cons h1 (Rps.take n h2)
theorem Rps.drop : ∀ {ds : List D} {vs : List V} (n : Nat), Rps g G ds vs → Rps g G (ds.drop n) (vs.drop n)
  | _, _, 0, h => h
  | [], _, n + 1, h => by rw [show _ = [] from h]; simp [Rps]
  | d :: ds, _, n + 1, h => by
    obtain ⟨v, r, e1, h1, h2⟩ := h
    rw [e1]
    exact Rps.drop n h2
theorem Rps.set : ∀ {ds : List D} {vs : List V} (i : Nat) {d : D} {v : V}, Rps g G ds vs → Rp g G d v → Rps g G (ds.set i d) (vs.set i v)
  | [], _, i, _, _, h, _ => by rw [show _ = [] from h]; simp [Rps]
  | d :: ds, _, 0, _, _, h, t => by
    obtain ⟨v, r, e1, h1, h2⟩ := h
    rw [e1]
    exact Rps.cons t h2
  | d :: ds, _, i + 1, _, _, h, t => by
    obtain ⟨v, r, e1, h1, h2⟩ := h
    rw [e1]
    exact Rps.cons h1 (Rps.set i h2 t)
theorem Rps.reverse {ds : List D} {vs : List V} (h : Rps g G ds vs) : Rps g G ds.reverse vs.reverse := by
  induction ds generalizing vs with
  | nil => rw [show vs = [] from h]; exact Rps.nil
  | cons d ds ih =>
    obtain ⟨v, r, e1, h1, h2⟩ := h
    rw [e1, List.reverse_cons, List.reverse_cons]
    exact Rps.append (ih h2) (Rps.one h1)
theorem Rps.flat {ds : List D} {vs : List V} (h : Rps g G ds vs) (n : Nat) : Rps g G (List.replicate n ds).flatten (List.replicate n vs).flatten := by
  induction n with
  | zero => exact Rps.nil
  | succ n ih =>
    rw [List.replicate_succ, List.replicate_succ, List.flatten_cons, List.flatten_cons]
    exact Rps.append h ih
theorem Rps.of_int : ∀ (ns : List Int), Rps g G (ns.map D.int) (ns.map V.int)
  | [] => Rps.nil
  | n :: ns => Rps.cons rfl (Rps.of_int ns)
noncomputable def Co (g : Gm) (G : Hp) : D → HO → Prop
  | .lst ds, o => ∃ vs, o = .lst vs ∧ Rps g G ds vs
  | .dk ks ds, o => ∃ kvs, o = .dK kvs ∧ kvs.map (·.1) = ks.map toKey ∧ Rps g G ds (kvs.map (·.2))
  | .dt ks ds, o => ∃ kvs, o = .dT kvs ∧ kvs.map (·.1) = ks.map (·.map toKey) ∧ Rps g G ds (kvs.map (·.2))
  | _, _ => False
theorem Co.mono (e : Ex G G') {d : D} {o : HO} (h : Co g G d o) : Co g G' d o := by
  cases d with
  | lst ds => obtain ⟨vs, e1, h1⟩ := h; exact ⟨vs, e1, Rps.mono e _ _ h1⟩
  | dk ks ds => obtain ⟨kvs, e1, h1, h2⟩ := h; exact ⟨kvs, e1, h1, Rps.mono e _ _ h2⟩
  | dt ks ds => obtain ⟨kvs, e1, h1, h2⟩ := h; exact ⟨kvs, e1, h1, Rps.mono e _ _ h2⟩
  | _ => exact h.elim
theorem Co.rp (hG : Ex G G') {d : D} {o : HO} {p : Addr} (hp : G' p = some o) (h : Co g G d o) : Rp g G' d (.ref p) := by
  cases d with
  | lst ds => obtain ⟨vs, e1, h1⟩ := h; subst e1; exact ⟨p, vs, rfl, .inl (Rd.of hp), Rps.mono hG _ _ h1⟩
  | dk ks ds => obtain ⟨kvs, e1, h1, h2⟩ := h; subst e1; exact ⟨p, kvs, rfl, Rd.of hp, h1, Rps.mono hG _ _ h2⟩
  | dt ks ds => obtain ⟨kvs, e1, h1, h2⟩ := h; subst e1; exact ⟨p, kvs, rfl, Rd.of hp, h1, Rps.mono hG _ _ h2⟩
  | _ => exact h.elim
theorem Co.no_ins {d : D} {o : HO} (h : Co g G d o) (C dx : Addr) (fs : List (Str × V)) : o ≠ .ins C dx fs := by
  cases d with
  | lst ds => obtain ⟨vs, e1, h1⟩ := h; subst e1; exact fun z => by cases z
  | dk ks ds => obtain ⟨kvs, e1, h1, h2⟩ := h; subst e1; exact fun z => by cases z
  | dt ks ds => obtain ⟨kvs, e1, h1, h2⟩ := h; subst e1; exact fun z => by cases z
  | _ => exact h.elim
noncomputable def Fld (g : Gm) (G H : Hp) (d : D) (n : Str) (v : V) : Prop :=
  (n ∉ muts ∧ Rp g G d v) ∨ (n ∈ muts ∧ ∃ q oq, v = .ref q ∧ G q = none ∧ H q = some oq ∧ Co g G d oq)
noncomputable def Flds (g : Gm) (G H : Hp) : List D → List (Str × V) → Prop
  | [], fs => fs = []
  | d :: ds, fs => ∃ f r, fs = f :: r ∧ Fld g G H d f.1 f.2 ∧ Flds g G H ds r
noncomputable def Apart (fs : List (Str × V)) : Prop := ∀ (i j : Nat) n m q, fs[i]? = some (n, V.ref q) → fs[j]? = some (m, V.ref q) → n ∈ muts → m ∈ muts → i = j
noncomputable def ObC (g : Gm) (G H : Hp) (c : Nat) (ds : List D) (o : HO) : Prop := ∃ C dx fs, o = .ins C dx fs ∧ g.mg (clsName c) = some (.ref C) ∧ fs.map (·.1) = (clsAttrs c).take ds.length ∧ Flds g G H ds fs ∧ Apart fs
noncomputable def CoX (g : Gm) (G H : Hp) (d : D) (o : HO) : Prop := Co g G d o ∨ ∃ c ds, d = .ob c ds ∧ ObC g G H c ds o
noncomputable def Own (g : Gm) (G H : Hp) (d : D) (p : Addr) : Prop := G p = none ∧ ∃ o, H p = some o ∧ CoX g G H d o
theorem Flds.mem : ∀ {ds : List D} {fs : List (Str × V)} {n : Str} {v : V}, Flds g G H ds fs → (n, v) ∈ fs → ∃ d, d ∈ ds ∧ Fld g G H d n v
  | [], _, n, v, h, e => by rw [show _ = [] from h] at e; cases e
  | d :: ds, _, n, v, h, e => by
    obtain ⟨f, r, e1, h1, h2⟩ := h
    rw [e1] at e
    rcases List.mem_cons.mp e with z | z
    · subst z; exact ⟨d, .head _, h1⟩
    · obtain ⟨d', q1, q2⟩ := Flds.mem h2 z; exact ⟨d', .tail _ q1, q2⟩
theorem Fld.imp {d : D} {n : Str} {v : V} (hG : Ex G G') (hk : ∀ q oq, n ∈ muts → v = .ref q → G q = none → H q = some oq → G' q = none ∧ H' q = some oq) (h : Fld g G H d n v) : Fld g G' H' d n v := by
  rcases h with ⟨h1, h2⟩ | ⟨h1, q, oq, e, h2, h3, h4⟩
  · exact .inl ⟨h1, Rp.mono hG _ _ h2⟩
  · obtain ⟨a, b⟩ := hk q oq h1 e h2 h3
    exact .inr ⟨h1, q, oq, e, a, b, h4.mono hG⟩
theorem Flds.imp (hG : Ex G G') : ∀ {ds : List D} {fs : List (Str × V)}, (∀ n q oq, (n, V.ref q) ∈ fs → n ∈ muts → G q = none → H q = some oq → G' q = none ∧ H' q = some oq) → Flds g G H ds fs → Flds g G' H' ds fs
  | [], _, _, h => h
  | d :: ds, _, hk, h => by
    obtain ⟨f, r, e1, h1, h2⟩ := h
    refine ⟨f, r, e1, h1.imp hG fun q oq a b c e => hk f.1 q oq (by rw [e1, ← b]; exact .head _) a c e, Flds.imp hG (fun n q oq a => hk n q oq (by rw [e1]; exact .tail _ a)) h2⟩
theorem Flds.length : ∀ {ds : List D} {fs : List (Str × V)}, Flds g G H ds fs → fs.length = ds.length
  | [], _, h => by rw [show _ = [] from h]; rfl
  | d :: ds, _, h => by
    obtain ⟨f, r, e1, _, h2⟩ := h
    rw [e1, List.length_cons, List.length_cons, h2.length]
theorem Flds.rps (hG : Ex G G') : ∀ {ds : List D} {fs : List (Str × V)}, (∀ n q oq, (n, V.ref q) ∈ fs → n ∈ muts → H q = some oq → G' q = some oq) → Flds g G H ds fs → Rps g G' ds (fs.map (·.2))
  | [], _, _, h => by rw [show _ = [] from h]; exact Rps.nil
  | d :: ds, _, hk, h => by
    obtain ⟨f, r, e1, h1, h2⟩ := h
    rw [e1, List.map_cons]
    refine Rps.cons ?_ (Flds.rps hG (fun n q oq a => hk n q oq (by rw [e1]; exact .tail _ a)) h2)
    rcases h1 with ⟨_, q⟩ | ⟨q1, q, oq, e, _, q3, q4⟩
    · exact Rp.mono hG _ _ q
    · rw [e]; exact q4.rp hG (hk f.1 q oq (by rw [e1, ← e]; exact .head _) q1 q3)
theorem Own.cel {d : D} {p a : Addr} (h : Own g G H d p) (q : Cel H p a) : G a = none ∧ ∃ o, H a = some o := by
  obtain ⟨h1, o, h2, h3⟩ := h
  rcases q with rfl | ⟨C, dx, fs, n, e1, e2, e3⟩
  · exact ⟨h1, o, h2⟩
  · rw [h2] at e1
    cases e1
    rcases h3 with h3 | ⟨c, ds, rfl, C', dx', fs', eo, _, _, h4, _⟩
    · exact absurd rfl (h3.no_ins C dx fs)
    · cases eo
      obtain ⟨d', _, h5⟩ := h4.mem e2
      rcases h5 with ⟨q1, _⟩ | ⟨_, q, oq, e, a1, a2, _⟩
      · exact absurd e3 q1
      · cases e; exact ⟨a1, oq, a2⟩
noncomputable def TupO (o : Option HO) : Prop := ∃ xs, o = some (.tup xs)
theorem Co.nt {d : D} {o : HO} (h : Co g G d o) (xs : List V) : o ≠ .tup xs := by
  cases d with
  | lst ds => obtain ⟨vs, e1, h1⟩ := h; subst e1; exact fun z => by cases z
  | dk ks ds => obtain ⟨kvs, e1, h1, h2⟩ := h; subst e1; exact fun z => by cases z
  | dt ks ds => obtain ⟨kvs, e1, h1, h2⟩ := h; subst e1; exact fun z => by cases z
  | _ => exact h.elim
theorem Own.nt {d : D} {p a : Addr} (h : Own g G H d p) (q : Cel H p a) : ¬ TupO (H a) := by
  rintro ⟨xs, ht⟩
  obtain ⟨h1, o, h2, h3⟩ := h
  rcases q with rfl | ⟨C, dx, fs, n, e1, e2, e3⟩
  · rw [ht] at h2
    cases h2
    rcases h3 with h3 | ⟨c, ds, rfl, C', dx', fs', eo, _⟩
    · exact h3.nt xs rfl
    · cases eo
  · rw [h2] at e1
    cases e1
    rcases h3 with h3 | ⟨c, ds, rfl, C', dx', fs', eo, _, _, h4, _⟩
    · exact absurd rfl (h3.no_ins C dx fs)
    · cases eo
      obtain ⟨d', _, h5⟩ := h4.mem e2
      rcases h5 with ⟨q1, _⟩ | ⟨_, q, oq, e, a1, a2, a3⟩
      · exact absurd e3 q1
      · cases e
        rw [ht] at a2; cases a2
        exact a3.nt xs rfl
theorem Pv.eq {p a : Addr} (h : H' p = H p) (q : Pv H' p a) : Pv H p a := by
  obtain ⟨C, dx, fs, n, e1, e2, e3⟩ := q
  exact ⟨C, dx, fs, n, h ▸ e1, e2, e3⟩
theorem Cel.eq {p a : Addr} (h : H' p = H p) (q : Cel H' p a) : Cel H p a := q.imp id (Pv.eq h)
theorem CoX.later {d : D} {o : HO} {p : Addr} (hG : Ex G G') (hp : H p = some o) (hk : ∀ a, Cel H p a → G a = none → (∃ o, H a = some o) → G' a = none ∧ H' a = H a) (h : CoX g G H d o) : CoX g G' H' d o := by
  rcases h with h | ⟨c, ds, e, C, dx, fs, eo, h1, h2, h3, h4⟩
  · exact .inl (h.mono hG)
  · subst eo
    refine .inr ⟨c, ds, e, C, dx, fs, rfl, h1, h2, h3.imp hG fun n q oq a b c e => ?_, h4⟩
    obtain ⟨z1, z2⟩ := hk q (.inr ⟨C, dx, fs, n, hp, a, b⟩) c ⟨oq, e⟩
    exact ⟨z1, z2.trans e⟩
theorem Own.later {d : D} {p : Addr} (hG : Ex G G') (hk : ∀ a, Cel H p a → G a = none → (∃ o, H a = some o) → G' a = none ∧ H' a = H a) (h : Own g G H d p) : Own g G' H' d p := by
  obtain ⟨h1, o, h2, h3⟩ := h
  obtain ⟨z1, z2⟩ := hk p (.inl rfl) h1 ⟨o, h2⟩
  exact ⟨z1, o, z2.trans h2, h3.later hG h2 hk⟩
theorem Own.up {d : D} {p : Addr} (hG : Ex G G') (hk : ∀ a, Cel H p a → G' a = H a) (h : Own g G H d p) : Rp g G' d (.ref p) := by
  obtain ⟨h1, o, h2, h3⟩ := h
  rcases h3 with h3 | ⟨c, ds, e, C, dx, fs, eo, a1, a2, a3, a4⟩
  · exact h3.rp hG ((hk p (.inl rfl)).trans h2)
  · subst eo
    subst e
    exact ⟨p, C, dx, fs, rfl, (hk p (.inl rfl)).trans h2, a1, a2, a3.rps hG fun n q oq b c e => (hk q (.inr ⟨C, dx, fs, n, h2, b, c⟩)).trans e⟩
theorem CoX.co {d : D} {o : HO} (h : CoX g G H d o) (hd : ∀ c ds, d ≠ .ob c ds) : Co g G d o := by
  rcases h with h | ⟨c, ds, e, _⟩
  · exact h
  · exact absurd e (hd c ds)
theorem Co.x {d : D} {o : HO} (h : Co g G d o) : CoX g G H d o := .inl h
theorem Co.cel {d : D} {o : HO} {p a : Addr} (h : Co g G d o) (hp : H p = some o) (q : Cel H p a) : a = p := by
  rcases q with q | ⟨C, dx, fs, n, e1, _⟩
  · exact q
  · rw [hp] at e1; exact absurd (Option.some.inj e1) (h.no_ins C dx fs)
noncomputable def RB (g : Gm) (G H : Hp) (d : D) (v : V) : Prop := Rp g G d v ∨ ∃ p, v = .ref p ∧ Own g G H d p
theorem RB.rp (hx : Ex G H) {d : D} {v : V} (h : RB g G H d v) : Rp g H d v := by
  rcases h with h | ⟨p, rfl, h⟩
  · exact Rp.mono hx _ _ h
  · exact h.up hx fun _ _ => rfl
theorem RB.plain {d : D} {v : V} (h : RB g G H d v) (hd : ∀ c ds, d ≠ .ob c ds) : Rp g G d v ∨ ∃ p o, v = .ref p ∧ G p = none ∧ H p = some o ∧ Co g G d o := by
  rcases h with h | ⟨p, e, h1, o, h2, h3⟩
  · exact .inl h
  · exact .inr ⟨p, o, e, h1, h2, h3.co hd⟩
theorem RB.lst (hx : Ex G H) {ds : List D} {v : V} (h : RB g G H (.lst ds) v) : ∃ a vs, v = .ref a ∧ SqL g.K H a vs ∧ Rps g G ds vs := by
  rcases h.plain (fun _ _ z => by cases z) with ⟨a, vs, e, h1, h2⟩ | ⟨p, o, rfl, _, hp, vs, rfl, h2⟩
  · exact ⟨a, vs, e, ex_l hx h1, h2⟩
  · exact ⟨p, vs, rfl, .inl (Rd.of hp), h2⟩
theorem RB.tup (hx : Ex G H) {ds : List D} {v : V} (h : RB g G H (.tup ds) v) : ∃ a vs, v = .ref a ∧ SqT g.K H a vs ∧ Rps g G ds vs := by
  rcases h.plain (fun _ _ z => by cases z) with ⟨a, vs, e, h1, h2⟩ | ⟨p, o, rfl, _, hp, hf⟩
  · exact ⟨a, vs, e, SqT.of (hx _ _ h1), h2⟩
  · exact hf.elim
theorem RB.dk (hx : Ex G H) {ks : List DK} {ds : List D} {v : V} (h : RB g G H (.dk ks ds) v) : ∃ a kvs, v = .ref a ∧ Rd H a (.dK kvs) ∧ kvs.map (·.1) = ks.map toKey ∧ Rps g G ds (kvs.map (·.2)) := by
  rcases h.plain (fun _ _ z => by cases z) with ⟨a, kvs, e, h1, h2, h3⟩ | ⟨p, o, rfl, _, hp, kvs, rfl, h2, h3⟩
  · exact ⟨a, kvs, e, ex_rd hx h1, h2, h3⟩
  · exact ⟨p, kvs, rfl, Rd.of hp, h2, h3⟩
theorem RB.dt (hx : Ex G H) {ks : List (List DK)} {ds : List D} {v : V} (h : RB g G H (.dt ks ds) v) : ∃ a kvs, v = .ref a ∧ Rd H a (.dT kvs) ∧ kvs.map (·.1) = ks.map (·.map toKey) ∧ Rps g G ds (kvs.map (·.2)) := by
  rcases h.plain (fun _ _ z => by cases z) with ⟨a, kvs, e, h1, h2, h3⟩ | ⟨p, o, rfl, _, hp, kvs, rfl, h2, h3⟩
  · exact ⟨a, kvs, e, ex_rd hx h1, h2, h3⟩
  · exact ⟨p, kvs, rfl, Rd.of hp, h2, h3⟩
theorem RB.int {i : Int} {v : V} (h : RB g G H (.int i) v) : v = .int i := by
  rcases h.plain (fun _ _ z => by cases z) with h | ⟨p, o, rfl, _, hp, hf⟩
  · exact h
  · exact hf.elim
theorem RB.str {i : List Nat} {v : V} (h : RB g G H (.str i) v) : v = .str (S i) := by
  rcases h.plain (fun _ _ z => by cases z) with h | ⟨p, o, rfl, _, hp, hf⟩
  · exact h
  · exact hf.elim
theorem RB.bl {i : Bool} {v : V} (h : RB g G H (.bl i) v) : v = .bl i := by
  rcases h.plain (fun _ _ z => by cases z) with h | ⟨p, o, rfl, _, hp, hf⟩
  · exact h
  · exact hf.elim
theorem RB.non {v : V} (h : RB g G H .non v) : v = .non := by
  rcases h.plain (fun _ _ z => by cases z) with h | ⟨p, o, rfl, _, hp, hf⟩
  · exact h
  · exact hf.elim
end
inductive Slot where
  | no | im (d : D) | ow (d : D) | io (d : D)
noncomputable abbrev Env := List Slot
inductive Val where
  | im (d : D) | ow (d : D) | loc (i : Nat)
inductive R (ε α : Type) where
  | ok (a : α) | err (c : Nat) (e : ε) | bad
noncomputable def R.bind {ε α β : Type} (m : R ε α) (k : α → R ε β) : R ε β := match m with
  | .ok a => k a
  | .err c e => .err c e
  | .bad => .bad
noncomputable abbrev Den := Env → R Env (Val × Env)
noncomputable def Slot.own : Slot → Option D
  | .ow d => some d
  | .io d => some d
  | _ => none
noncomputable def OA (env : Env) (σ : L2.St) (a : Addr) : Prop := ∃ (i : Nat) (s : Slot) (d : D), env[i]? = some s ∧ s.own = some d ∧ σ[i]? = some (some (.ref a))
structure Sim (g : Gm) (P0 : Nat → Option Addr) (env : Env) (σ : L2.St) (G H : Hp) : Prop where
  ex : Ex G H
  len : env.length = σ.length
  im : ∀ (i : Nat) d, env[i]? = some (.im d) → ∃ v, σ[i]? = some (some v) ∧ Rp g G d v
  ow : ∀ (i : Nat) s d, env[i]? = some s → s.own = some d → ∃ p, σ[i]? = some (some (.ref p)) ∧ Own g G H d p
  dis : ∀ (i j : Nat) s t d e p, env[i]? = some s → s.own = some d → env[j]? = some t → t.own = some e → σ[i]? = some (some (.ref p)) → σ[j]? = some (some (.ref p)) → i = j
  io : ∀ (i : Nat) d, env[i]? = some (.io d) → ∃ p, P0 i = some p ∧ σ[i]? = some (some (.ref p))
  pv : ∀ (i j : Nat) s t d e p q a, env[i]? = some s → s.own = some d → env[j]? = some t → t.own = some e → σ[i]? = some (some (.ref p)) → σ[j]? = some (some (.ref q)) → Pv H p a → Cel H q a → i = j
structure Tr (M0 : Addr → Prop) (G H : Hp) (M1 : Addr → Prop) (G' H' : Hp) : Prop where
  ex : Ex G G'
  keep : ∀ a o, ¬ OCl M0 H a → H a = some o → H' a = some o
  gnew : ∀ a, G' a ≠ none → G a ≠ none ∨ H a = none ∨ OCl M0 H a ∨ TupO (H a)
  own : ∀ p a, M1 p → Cel H' p a → (M0 p ∧ Cel H p a) ∨ H a = none
  dom : ∀ a, H' a = none → H a = none
theorem Tr.ocl {M0 M1 : Addr → Prop} {G H G' H' : Hp} (t : Tr M0 G H M1 G' H') (a : Addr) (h : OCl M1 H' a) : OCl M0 H a ∨ H a = none := by
  obtain ⟨p, h1, h2⟩ := h
  exact (t.own p a h1 h2).imp (fun z => ⟨p, z⟩) id
theorem Tr.refl {M : Addr → Prop} {G H : Hp} : Tr M G H M G H := ⟨Ex.refl G, fun _ _ _ h => h, fun _ h => .inl h, fun _ _ h h' => .inl ⟨h, h'⟩, fun _ h => h⟩
theorem Tr.trans {M0 M1 M2 : Addr → Prop} {G H G1 H1 G2 H2 : Hp} (a : Tr M0 G H M1 G1 H1) (b : Tr M1 G1 H1 M2 G2 H2) : Tr M0 G H M2 G2 H2 where
  ex := a.ex.trans b.ex
  keep := fun x o hm h => b.keep x o (fun hm1 => by
    rcases a.ocl x hm1 with q | q
    · exact hm q
    · rw [q] at h; cases h) (a.keep x o hm h)
  gnew := fun x h => by
    rcases b.gnew x h with q | q | q | q
    · exact a.gnew x q
    · by_cases hm : OCl M0 H x
      · exact .inr (.inr (.inl hm))
      · cases e : H x with
        | none => exact .inr (.inl rfl)
        | some o => rw [a.keep x o hm e] at q; cases q
    · rcases a.ocl x q with q | q
      · exact .inr (.inr (.inl q))
      · exact .inr (.inl q)
    · by_cases hm : OCl M0 H x
      · exact .inr (.inr (.inl hm))
      · cases e : H x with
        | none => exact .inr (.inl rfl)
        | some o => rw [a.keep x o hm e] at q; exact .inr (.inr (.inr q))
  own := fun p x h h' => by
    rcases b.own p x h h' with ⟨q, q'⟩ | q
    · exact a.own p x q q'
    · cases e : H x with
      | none => exact .inr rfl
      | some o => exact absurd (a.dom x q) (by rw [e]; simp)
  dom := fun x h => a.dom x (b.dom x h)
theorem OCl.top {M : Addr → Prop} {H : Hp} {a : Addr} (h : M a) : OCl M H a := ⟨a, h, .inl rfl⟩
theorem OCl.mono {M M' : Addr → Prop} {H : Hp} {a : Addr} (h : ∀ p, M p → M' p) (q : OCl M H a) : OCl M' H a := by
  obtain ⟨p, h1, h2⟩ := q
  exact ⟨p, h p h1, h2⟩
noncomputable def VR (g : Gm) (env : Env) (σ : L2.St) (H0 G H : Hp) : Val → V → Prop
  | .im d, v => Rp g G d v
  | .ow d, v => ∃ p, v = .ref p ∧ Own g G H d p ∧ (∀ a, Cel H p a → ¬ OCl (OA env σ) H a) ∧ ∀ a, Cel H p a → H0 a = none
  | .loc i, v => σ[i]? = some (some v)
noncomputable def Fin (g : Gm) (W : WX) (P0 : Nat → Option Addr) (σ : L2.St) (M0 : Addr → Prop) (G0 H0 : Hp) (Q : VK) : R Env (Val × Env) → Prop
  | .ok (v, env') => ∀ x G' H', Sim g P0 env' σ G' H' → Tr M0 G0 H0 (OA env' σ) G' H' → VR g env' σ H0 G' H' v x → Q x H'
  | .err c env' => ∀ cls G' H', g.mg (excName c) = some cls → Sim g P0 env' σ G' H' → Tr M0 G0 H0 (OA env' σ) G' H' → W cls none σ H'
  | .bad => False
noncomputable def teOf (g : Gm) (W : WX) (d : Den) : TE := fun σ H Q => ∃ P0 env G, Sim g P0 env σ G H ∧ Fin g W P0 σ (OA env σ) G H Q (d env)
noncomputable abbrev gm (X : Cx) : Gm := ⟨X.K, X.mg⟩
noncomputable def SE (X : Cx) (e : Expr) (d : Den) : Prop := ∀ W : WX, Takes X W → PE X e (teOf (gm X) W d)
theorem pe_imp {X : Cx} {e : Expr} {t t' : TE} (h : PE X e t) (i : ∀ σ H Q, t' σ H Q → t σ H Q) : PE X e t' := ⟨fun pins s σ H Q I q => h.run pins s σ H Q I (i σ H Q q)⟩
theorem pt_imp {X : Cx} {e : Expr} {t t' : TT} (h : PT X e t) (i : ∀ σ H Q, t' σ H Q → t σ H Q) : PT X e t' := ⟨fun pins s σ H Q I q => h.run pins s σ H Q I (i σ H Q q)⟩
theorem pa_imp {X : Cx} {e : List Expr} {t t' : TA} (h : PA X e t) (i : ∀ σ H Q, t' σ H Q → t σ H Q) : PA X e t' := ⟨fun pos pins s σ H Q I q => h.run pos pins s σ H Q I (i σ H Q q)⟩
theorem ps_imp {X : Cx} {e : Stmt} {t t' : TS} (h : PS X e t) (i : ∀ D σ H, t' D σ H → t D σ H) : PS X e t' := ⟨fun pins s σ H D I q => h.run pins s σ H D I (i D σ H q)⟩
theorem pss_imp {X : Cx} {e : List Stmt} {t t' : TS} (h : PSs X e t) (i : ∀ D σ H, t' D σ H → t D σ H) : PSs X e t' := ⟨fun pins s σ H D I q => h.run pins s σ H D I (i D σ H q)⟩
section
variable {g : Gm} {P0 : Nat → Option Addr} {env env' : Env} {σ : L2.St} {G H G' H' H0 : Hp}
noncomputable def rd : Val → Env → Option D
  | .im d, _ => some d
  | .ow d, _ => some d
  | .loc i, env => match env[i]? with
    | some (.im d) => some d
    | some (.ow d) => some d
    | some (.io d) => some d
    | _ => none
noncomputable def fz : Val → Env → Option (D × Env)
  | .im d, env => some (d, env)
  | .ow d, env => some (d, env)
  | .loc i, env => match env[i]? with
    | some (.im d) => some (d, env)
    | some (.ow d) => some (d, env.set i (.im d))
    | _ => none
theorem rd_now {v : Val} {x : V} {d : D} (hs : Sim g P0 env σ G H) (hv : VR g env σ H0 G H v x) (h : rd v env = some d) : RB g G H d x := by
  cases v with
  | im e => cases h; exact .inl hv
  | ow e => cases h; obtain ⟨p, e1, h1, _⟩ := hv; exact .inr ⟨p, e1, h1⟩
  | loc i =>
    have hv : σ[i]? = some (some x) := hv
    simp only [rd] at h
    split at h
    · rename_i e he
      cases h
      obtain ⟨v, q1, q2⟩ := hs.im i _ he
      rw [hv] at q1
      cases q1
      exact .inl q2
    · rename_i e he
      cases h
      obtain ⟨p, q1, q2⟩ := hs.ow i _ _ he rfl
      rw [hv] at q1
      cases q1
      exact .inr ⟨p, rfl, q2⟩
    · rename_i e he
      cases h
      obtain ⟨p, q1, q2⟩ := hs.ow i _ _ he rfl
      rw [hv] at q1
      cases q1
      exact .inr ⟨p, rfl, q2⟩
    · cases h
theorem VR.later {v : Val} {x : V} (hv : VR g env σ H0 G H v x) (t : Tr (OA env σ) G H (OA env' σ) G' H') : VR g env' σ H0 G' H' v x := by
  cases v with
  | im e => exact Rp.mono t.ex _ _ hv
  | ow e =>
    obtain ⟨p, e1, h1, h4, h5⟩ := hv
    have hk : ∀ a, Cel H p a → G a = none → (∃ o, H a = some o) → G' a = none ∧ H' a = H a := fun a q1 q2 ⟨o, q3⟩ => by
      refine ⟨?_, (t.keep a o (h4 a q1) q3).trans q3.symm⟩
      cases e : G' a with
      | none => rfl
      | some u =>
        rcases t.gnew a (by rw [e]; simp) with q | q | q | q
        · exact absurd q2 q
        · rw [q3] at q; cases q
        · exact absurd q (h4 a q1)
        · exact absurd q (h1.nt q1)
    have hpp : H' p = H p := (hk p (.inl rfl) h1.1 (by obtain ⟨_, o, h, _⟩ := h1; exact ⟨o, h⟩)).2
    refine ⟨p, e1, h1.later t.ex hk, fun a q q' => ?_, fun a q => h5 a (q.eq hpp)⟩
    rcases t.ocl a q' with z | z
    · exact h4 a (q.eq hpp) z
    · obtain ⟨_, o, z2⟩ := h1.cel (q.eq hpp)
      rw [z2] at z; cases z
  | loc i => exact hv
theorem VR.since {v : Val} {x : V} {Hm : Hp} (hv : VR g env σ H0 G H v x) (h : ∀ a, H0 a = none → Hm a = none) : VR g env σ Hm G H v x := by
  cases v with
  | im e => exact hv
  | ow e => obtain ⟨p, e1, h1, h2, h3⟩ := hv; exact ⟨p, e1, h1, h2, fun a q => h _ (h3 a q)⟩
  | loc i => exact hv
end
end G
set_option Elab.async false
set_option linter.all false
set_option maxRecDepth 100000
set_option maxHeartbeats 4000000
namespace G
open PySem L2 SX Evl
section
variable {g : Gm} {P0 : Nat → Option Addr} {env env' : Env} {σ : L2.St} {G H G' H' H0 : Hp} {p : Addr} {o : HO}
theorem OA.of {i : Nat} {s : Slot} {d : D} {a : Addr} (h1 : env[i]? = some s) (h2 : s.own = some d) (h3 : σ[i]? = some (some (.ref a))) : OA env σ a := ⟨i, s, d, h1, h2, h3⟩
theorem Sim.own (hs : Sim g P0 env σ G H) {a : Addr} (h : OA env σ a) : ∃ d, Own g G H d a := by
  obtain ⟨i, s, d, h1, h2, h3⟩ := h
  obtain ⟨q, q1, q2⟩ := hs.ow i s d h1 h2
  rw [h3] at q1
  cases q1
  exact ⟨d, q2⟩
theorem Sim.oa (hs : Sim g P0 env σ G H) {a : Addr} (h : OA env σ a) : G a = none ∧ ∃ o, H a = some o := by
  obtain ⟨d, h1, o, h2, _⟩ := hs.own h
  exact ⟨h1, o, h2⟩
theorem Sim.cl (hs : Sim g P0 env σ G H) {a : Addr} (h : OCl (OA env σ) H a) : G a = none ∧ ∃ o, H a = some o := by
  obtain ⟨p, h1, h2⟩ := h
  obtain ⟨d, h3⟩ := hs.own h1
  exact h3.cel h2
theorem oa_cl {a : Addr} (h : OA env σ a) : OCl (OA env σ) H a := OCl.top h
theorem cl_grow {M : Addr → Prop} (hM : ∀ p, M p → ∃ o, H p = some o) (hH : Ex H H') {a : Addr} (h : OCl M H' a) : OCl M H a := by
  obtain ⟨p, h1, h2⟩ := h
  obtain ⟨o, ho⟩ := hM p h1
  exact ⟨p, h1, h2.eq ((hH _ _ ho).trans ho.symm)⟩
theorem Sim.grow (hs : Sim g P0 env σ G H) (hG : Ex G G') (hH : Ex H H') (hx : Ex G' H') (hn : ∀ a, G' a ≠ none → G a ≠ none ∨ H a = none ∨ TupO (H a)) : Sim g P0 env σ G' H' where
  ex := hx
  len := hs.len
  im := fun i d h => by
    obtain ⟨v, h1, h2⟩ := hs.im i d h
    exact ⟨v, h1, Rp.mono hG _ _ h2⟩
  ow := fun i s d h h' => by
    obtain ⟨p, h1, h2⟩ := hs.ow i s d h h'
    refine ⟨p, h1, h2.later hG fun a q1 q2 ⟨o, q3⟩ => ⟨?_, (hH _ _ q3).trans q3.symm⟩⟩
    cases e : G' a with
    | none => rfl
    | some u =>
      rcases hn a (by rw [e]; simp) with q | q | q
      · exact absurd q2 q
      · rw [q3] at q; cases q
      · exact absurd q (h2.nt q1)
  dis := hs.dis
  io := hs.io
  pv := fun i j s t d e p q a h1 h2 h3 h4 h5 h6 h7 h8 => by
    obtain ⟨p', z1, _, o, z2, _⟩ := hs.ow i s d h1 h2
    obtain ⟨q', y1, _, u, y2, _⟩ := hs.ow j t e h3 h4
    rw [h5] at z1; cases z1
    rw [h6] at y1; cases y1
    exact hs.pv i j s t d e p q a h1 h2 h3 h4 h5 h6 (h7.eq ((hH _ _ z2).trans z2.symm)) (h8.eq ((hH _ _ y2).trans y2.symm))
theorem Tr.grow {M : Addr → Prop} (hM : ∀ p, M p → ∃ o, H p = some o) (hG : Ex G G') (hH : Ex H H') (hn : ∀ a, G' a ≠ none → G a ≠ none ∨ H a = none ∨ TupO (H a)) : Tr M G H M G' H' :=
  ⟨hG, fun a o _ h => hH a o h, fun a h => by
    rcases hn a h with q | q | q
    · exact .inl q
    · exact .inr (.inl q)
    · exact .inr (.inr (.inr q)), fun p a h h' => by obtain ⟨o, ho⟩ := hM p h; exact .inl ⟨h, h'.eq ((hH _ _ ho).trans ho.symm)⟩, fun a h => by
    cases e : H a with
    | none => rfl
    | some u => rw [hH a u e] at h; cases h⟩
theorem Sim.at (hs : Sim g P0 env σ G H) : ∀ p, OA env σ p → ∃ o, H p = some o := fun p h => (hs.oa h).2
theorem OA.set {i : Nat} {t : Slot} (h : ∀ d, t.own = some d → ∃ s e, env[i]? = some s ∧ s.own = some e) {a : Addr} (q : OA (env.set i t) σ a) : OA env σ a := by
  obtain ⟨j, s, d, h1, h2, h3⟩ := q
  by_cases e : i = j
  · subst e
    have hi : i < env.length := by
      have := (List.getElem?_eq_some_iff.mp h1).1
      simpa using this
    rw [List.getElem?_set_self hi] at h1
    cases h1
    obtain ⟨s', e', q1, q2⟩ := h d h2
    exact ⟨i, s', e', q1, q2, h3⟩
  · rw [List.getElem?_set_ne e] at h1
    exact ⟨j, s, d, h1, h2, h3⟩
theorem get_set {i j : Nat} {t s : Slot} (h : (env.set i t)[j]? = some s) : (i = j ∧ s = t ∧ i < env.length) ∨ (i ≠ j ∧ env[j]? = some s) := by
  by_cases e' : i = j
  · subst e'
    have hil : i < env.length := by
      have := (List.getElem?_eq_some_iff.mp h).1
      simpa using this
    rw [List.getElem?_set_self hil] at h; cases h; exact .inl ⟨rfl, rfl, hil⟩
  · rw [List.getElem?_set_ne e'] at h; exact .inr ⟨e', h⟩
theorem Sim.apart (hs : Sim g P0 env σ G H) {i j : Nat} {s t : Slot} {d e : D} {p q a : Addr} (h1 : env[i]? = some s) (h2 : s.own = some d) (h3 : env[j]? = some t) (h4 : t.own = some e) (h5 : σ[i]? = some (some (.ref p))) (h6 : σ[j]? = some (some (.ref q))) (h7 : Cel H p a) (h8 : Cel H q a) : i = j := by
  rcases h7 with rfl | h7
  · rcases h8 with rfl | h8
    · exact hs.dis i j s t d e _ h1 h2 h3 h4 h5 h6
    · exact (hs.pv j i t s e d q a a h3 h4 h1 h2 h6 h5 h8 (.inl rfl)).symm
  · exact hs.pv i j s t d e p q a h1 h2 h3 h4 h5 h6 h7 h8
open Classical in
noncomputable def stl (G H : Hp) (p : Addr) : Hp := fun a => if Cel H p a then H a else G a
theorem stl_cel {a : Addr} (h : Cel H p a) : stl G H p a = H a := if_pos h
theorem stl_no {a : Addr} (h : ¬ Cel H p a) : stl G H p a = G a := if_neg h
theorem stl_ex {d : D} (ho : Own g G H d p) : Ex G (stl G H p) := fun a u e => by
  rw [stl_no (fun z => by rw [(ho.cel z).1] at e; cases e)]; exact e
theorem stl_sub (hx : Ex G H) : Ex (stl G H p) H := fun a u e => by
  by_cases z : Cel H p a
  · rw [stl_cel z] at e; exact e
  · rw [stl_no z] at e; exact hx a u e
theorem stl_new {a : Addr} (h : stl G H p a ≠ none) : G a ≠ none ∨ Cel H p a := by
  by_cases z : Cel H p a
  · exact .inr z
  · rw [stl_no z] at h; exact .inl h
theorem stl_rp {d : D} (ho : Own g G H d p) : Rp g (stl G H p) d (.ref p) := ho.up (stl_ex ho) fun a q => stl_cel q
theorem Sim.widen (hs : Sim g P0 env σ G H) (hG : Ex G G') (hx : Ex G' H) (hn : ∀ a, G' a ≠ none → G a ≠ none ∨ ¬ OCl (OA env σ) H a) : Sim g P0 env σ G' H where
  ex := hx
  len := hs.len
  im := fun i d h => by
    obtain ⟨v, h1, h2⟩ := hs.im i d h
    exact ⟨v, h1, Rp.mono hG _ _ h2⟩
  ow := fun i s d h h' => by
    obtain ⟨p, h1, h2⟩ := hs.ow i s d h h'
    refine ⟨p, h1, h2.later hG fun a q1 q2 _ => ⟨?_, rfl⟩⟩
    cases e : G' a with
    | none => rfl
    | some u =>
      rcases hn a (by rw [e]; simp) with q | q
      · exact absurd q2 q
      · exact absurd ⟨p, ⟨i, s, d, h, h', h1⟩, q1⟩ q
  dis := hs.dis
  io := hs.io
  pv := hs.pv
theorem Sim.unown {i : Nat} {t : Slot} {σ' : L2.St} (hs : Sim g P0 env σ G H) (hl : σ'.length = σ.length) (hσ : ∀ j, i ≠ j → σ'[j]? = σ[j]?) (ht : t.own = none) (him : ∀ d, t = .im d → i < env.length → ∃ v, σ'[i]? = some (some v) ∧ Rp g G d v) : Sim g P0 (env.set i t) σ' G H where
  ex := hs.ex
  len := by rw [List.length_set, hl]; exact hs.len
  im := fun j e hj => by
    rcases get_set hj with ⟨rfl, rfl, hil⟩ | ⟨hij, hj⟩
    · exact him e rfl hil
    · rw [hσ j hij]; exact hs.im j e hj
  ow := fun j s' e hj hj' => by
    rcases get_set hj with ⟨rfl, rfl, hil⟩ | ⟨hij, hj⟩
    · rw [ht] at hj'; cases hj'
    · rw [hσ j hij]; exact hs.ow j s' e hj hj'
  dis := fun j k s' t' e f q a1 a2 a3 a4 a5 a6 => by
    rcases get_set a1 with ⟨rfl, rfl, _⟩ | ⟨h1, b1⟩
    · rw [ht] at a2; cases a2
    rcases get_set a3 with ⟨rfl, rfl, _⟩ | ⟨h3, b3⟩
    · rw [ht] at a4; cases a4
    rw [hσ _ h1] at a5
    rw [hσ _ h3] at a6
    exact hs.dis j k s' t' e f q b1 a2 b3 a4 a5 a6
  io := fun j e hj => by
    rcases get_set hj with ⟨rfl, rfl, _⟩ | ⟨h1, b1⟩
    · cases ht
    · rw [hσ _ h1]; exact hs.io j e b1
  pv := fun j k s' t' e f q r a a1 a2 a3 a4 a5 a6 a7 a8 => by
    rcases get_set a1 with ⟨rfl, rfl, _⟩ | ⟨h1, b1⟩
    · rw [ht] at a2; cases a2
    rcases get_set a3 with ⟨rfl, rfl, _⟩ | ⟨h3, b3⟩
    · rw [ht] at a4; cases a4
    rw [hσ _ h1] at a5
    rw [hσ _ h3] at a6
    exact hs.pv j k s' t' e f q r a b1 a2 b3 a4 a5 a6 a7 a8
theorem oa_no {i : Nat} {t : Slot} {σ' : L2.St} (hσ : ∀ j, i ≠ j → σ'[j]? = σ[j]?) (ht : t.own = none) {a : Addr} (h : OA (env.set i t) σ' a) : OA env σ a := by
  obtain ⟨j, s, d, h1, h2, h3⟩ := h
  rcases get_set h1 with ⟨rfl, rfl, _⟩ | ⟨e1, b1⟩
  · rw [ht] at h2; cases h2
  · rw [hσ _ e1] at h3; exact ⟨j, s, d, b1, h2, h3⟩
theorem Sim.freeze {i : Nat} {d : D} (hs : Sim g P0 env σ G H) (h : env[i]? = some (.ow d)) : ∃ G', Sim g P0 (env.set i (.im d)) σ G' H ∧ Tr (OA env σ) G H (OA (env.set i (.im d)) σ) G' H ∧ ∃ p, σ[i]? = some (some (.ref p)) ∧ Rp g G' d (.ref p) := by
  obtain ⟨p, h1, ho⟩ := hs.ow i _ d h rfl
  have hG := stl_ex ho
  have s0 : Sim g P0 (env.set i .no) σ G H := hs.unown rfl (fun _ _ => rfl) rfl fun _ z => by cases z
  have s1 : Sim g P0 (env.set i .no) σ (stl G H p) H := s0.widen hG (stl_sub hs.ex) fun a ha => by
    rcases stl_new ha with q | q
    · exact .inl q
    · refine .inr fun ⟨r, ⟨j, s, e, z1, z2, z3⟩, z4⟩ => ?_
      rcases get_set z1 with ⟨rfl, rfl, _⟩ | ⟨hij, b1⟩
      · cases z2
      · exact hij (hs.apart h rfl b1 z2 h1 z3 q z4)
  have s2 : Sim g P0 ((env.set i .no).set i (.im d)) σ (stl G H p) H := s1.unown rfl (fun _ _ => rfl) rfl fun e z _ => by
    cases z; exact ⟨_, h1, stl_rp ho⟩
  rw [List.set_set] at s2
  refine ⟨stl G H p, s2, ⟨hG, fun _ _ _ q => q, fun a ha => ?_, fun r a hr ha => .inl ⟨oa_no (fun _ _ => rfl) rfl hr, ha⟩, fun _ q => q⟩, p, h1, stl_rp ho⟩
  rcases stl_new ha with q | q
  · exact .inl q
  · exact .inr (.inr (.inl ⟨p, ⟨i, _, d, h, rfl, h1⟩, q⟩))
theorem Sim.still {d : D} (hs : Sim g P0 env σ G H) (hn : ∀ a, Cel H p a → ¬ OCl (OA env σ) H a) (ho : Own g G H d p) : ∃ G', Sim g P0 env σ G' H ∧ Ex G G' ∧ (∀ a, G' a ≠ none → G a ≠ none ∨ Cel H p a) ∧ Rp g G' d (.ref p) :=
  ⟨stl G H p, hs.widen (stl_ex ho) (stl_sub hs.ex) fun a ha => (stl_new ha).imp id (hn a), stl_ex ho, fun a ha => stl_new ha, stl_rp ho⟩
theorem fz_now {G0 H0 : Hp} {env0 : Env} {v : Val} {x : V} {d : D} (hs : Sim g P0 env σ G H) (t : Tr (OA env0 σ) G0 H0 (OA env σ) G H) (hv : VR g env σ H0 G H v x) (h : fz v env = some (d, env')) :
    ∃ G', Sim g P0 env' σ G' H ∧ Tr (OA env0 σ) G0 H0 (OA env' σ) G' H ∧ Rp g G' d x := by
  cases v with
  | im e => cases h; exact ⟨G, hs, t, hv⟩
  | ow e =>
    cases h
    obtain ⟨p, e1, h1, h2, h3⟩ := hv
    subst e1
    obtain ⟨G', s', hG, hn, hp⟩ := hs.still h2 h1
    refine ⟨G', s', ⟨t.ex.trans hG, t.keep, fun a ha => ?_, t.own, t.dom⟩, hp⟩
    rcases hn a ha with q | q
    · exact t.gnew a q
    · exact .inr (.inl (h3 a q))
  | loc i =>
    have hv : σ[i]? = some (some x) := hv
    simp only [fz] at h
    split at h
    · rename_i e he
      cases h
      obtain ⟨w, q1, q2⟩ := hs.im i _ he
      rw [hv] at q1
      cases q1
      exact ⟨G, hs, t, q2⟩
    · rename_i e he
      cases h
      obtain ⟨G', s', t', p, q1, q2⟩ := hs.freeze he
      rw [hv] at q1
      cases q1
      exact ⟨G', s', t.trans t', q2⟩
    · cases h
theorem Sim.putX {M0 : Addr → Prop} {G0 : Hp} {i : Nat} {s : Slot} {d d' : D} {t : Slot} (hs : Sim g P0 env σ G H) (tr : Tr M0 G0 H0 (OA env σ) G H) (h : env[i]? = some s) (h' : s.own = some d) (ht : t = .ow d' ∧ (∃ e, s = .ow e) ∨ t = .io d' ∧ ∃ e, s = .io e) (hp : σ[i]? = some (some (.ref p)))
    (hk : ∀ a o, ¬ Cel H p a → H a = some o → H' a = some o) (hd : ∀ a, H' a = none → H a = none) (ho : Own g G H' d' p) (hc : ∀ a, Cel H' p a → Cel H p a ∨ ¬ OCl (OA env σ) H a) (hc0 : ∀ a, Cel H' p a → Cel H p a ∨ H0 a = none) :
    Sim g P0 (env.set i t) σ G H' ∧ Tr M0 G0 H0 (OA (env.set i t) σ) G H' := by
  have hil : i < env.length := (List.getElem?_eq_some_iff.mp h).1
  obtain ⟨p', h1, hown⟩ := hs.ow i s d h h'
  rw [hp] at h1
  cases h1
  have hto : t.own = some d' := by
    rcases ht with ⟨e, _⟩ | ⟨e, _⟩ <;> (rw [e] <;> rfl)
  -- another slot's places
  have oth : ∀ {j : Nat} {s' : Slot} {e : D} {q a : Addr}, i ≠ j → env[j]? = some s' → s'.own = some e → σ[j]? = some (some (.ref q)) → Cel H q a → ¬ Cel H p a := fun {j s' e q a} hij a1 a2 a3 a4 a5 => hij (hs.apart h h' a1 a2 hp a3 a5 a4)
  have same : ∀ {j : Nat} {s' : Slot} {e : D} {q : Addr}, i ≠ j → env[j]? = some s' → s'.own = some e → σ[j]? = some (some (.ref q)) → H' q = H q := fun {j s' e q} hij a1 a2 a3 => by
    obtain ⟨q', z1, _, o, z2, _⟩ := hs.ow j s' e a1 a2
    rw [a3] at z1; cases z1
    rw [z2]; exact hk _ _ (oth hij a1 a2 a3 (.inl rfl)) z2
  have pvs : ∀ (j k : Nat) s' t' e f q r a, (env.set i t)[j]? = some s' → s'.own = some e → (env.set i t)[k]? = some t' → t'.own = some f → σ[j]? = some (some (.ref q)) → σ[k]? = some (some (.ref r)) → Cel H' q a → Cel H' r a → j = k := fun j k s' t' e f q r a a1 a2 a3 a4 a5 a6 a7 a8 => by
    rcases get_set a1 with ⟨e1, _, _⟩ | ⟨e1, b1⟩
    · rcases get_set a3 with ⟨e3, _, _⟩ | ⟨e3, b3⟩
      · exact e1.symm.trans e3
      · subst e1
        rw [hp] at a5; cases a5
        have c8 := a8.eq (same e3 b3 a4 a6)
        rcases hc a a7 with z | z
        · exact absurd z (oth e3 b3 a4 a6 c8)
        · exact absurd ⟨r, ⟨k, t', f, b3, a4, a6⟩, c8⟩ z
    · have c7 := a7.eq (same e1 b1 a2 a5)
      rcases get_set a3 with ⟨e3, _, _⟩ | ⟨e3, b3⟩
      · subst e3
        rw [hp] at a6; cases a6
        rcases hc a a8 with z | z
        · exact absurd z (oth e1 b1 a2 a5 c7)
        · exact absurd ⟨q, ⟨j, s', e, b1, a2, a5⟩, c7⟩ z
      · exact hs.apart b1 a2 b3 a4 a5 a6 c7 (a8.eq (same e3 b3 a4 a6))
  refine ⟨⟨fun a u e => hk a u (fun z => by rw [(hown.cel z).1] at e; cases e) (hs.ex a u e), by rw [List.length_set]; exact hs.len, fun j e hj => ?_, fun j s' e hj hj' => ?_, fun j k s' t' e f q a1 a2 a3 a4 a5 a6 => pvs j k s' t' e f q q q a1 a2 a3 a4 a5 a6 (.inl rfl) (.inl rfl), fun j e hj => ?_,
    fun j k s' t' e f q r a a1 a2 a3 a4 a5 a6 a7 a8 => pvs j k s' t' e f q r a a1 a2 a3 a4 a5 a6 (.inr a7) a8⟩, ⟨tr.ex, fun a u ha q => ?_, tr.gnew, fun q a ha z4 => ?_, fun a q => tr.dom a (hd a q)⟩⟩
  · rcases get_set hj with ⟨_, e2, _⟩ | ⟨e1, b1⟩
    · rw [← e2] at hto; cases hto
    · exact hs.im j e b1
  · rcases get_set hj with ⟨e1, e2, _⟩ | ⟨e1, b1⟩
    · subst e1; subst e2
      rw [hto] at hj'
      cases hj'
      exact ⟨p, hp, ho⟩
    · obtain ⟨q, q1, q2⟩ := hs.ow j s' e b1 hj'
      exact ⟨q, q1, q2.later (Ex.refl G) fun a z1 z2 ⟨o, z3⟩ => ⟨z2, (hk a o (oth e1 b1 hj' q1 z1) z3).trans z3.symm⟩⟩
  · rcases get_set hj with ⟨e1, e2, _⟩ | ⟨e1, b1⟩
    · subst e1
      rcases ht with ⟨z, _⟩ | ⟨_, e, z⟩
      · rw [z] at e2; cases e2
      · subst z; exact hs.io i e h
    · exact hs.io j e b1
  · refine hk a u (fun z => ?_) (tr.keep a u ha q)
    rcases tr.ocl a ⟨p, ⟨i, s, d, h, h', hp⟩, z⟩ with y | y
    · exact ha y
    · rw [y] at q; cases q
  · obtain ⟨j, s', e, z1, z2, z3⟩ := ha
    rcases get_set z1 with ⟨e1, _, _⟩ | ⟨e1, b1⟩
    · subst e1
      rw [hp] at z3; cases z3
      rcases hc0 a z4 with y | y
      · exact tr.own p a ⟨i, s, d, h, h', hp⟩ y
      · exact .inr y
    · exact tr.own q a ⟨j, s', e, b1, z2, z3⟩ (z4.eq (same e1 b1 z2 z3))
theorem Sim.put {i : Nat} {s : Slot} {d d' : D} {t : Slot} (hs : Sim g P0 env σ G H) (h : env[i]? = some s) (h' : s.own = some d) (ht : t = .ow d' ∧ (∃ e, s = .ow e) ∨ t = .io d' ∧ ∃ e, s = .io e) (hp : σ[i]? = some (some (.ref p))) (hc : Co g G d' o) :
    Sim g P0 (env.set i t) σ G (upd H p o) ∧ Tr (OA env σ) G H (OA (env.set i t) σ) G (upd H p o) := by
  obtain ⟨p', h1, hown⟩ := hs.ow i s d h h'
  rw [hp] at h1
  cases h1
  refine hs.putX Tr.refl h h' ht hp (fun a u z e => by rw [upd_ne (fun y => z (.inl y))]; exact e) (fun a q => ?_) ⟨hown.1, o, upd_same, hc.x⟩ (fun a q => .inl (.inl (hc.cel upd_same q))) fun a q => .inl (.inl (hc.cel upd_same q))
  by_cases ea : a = p
  · subst ea; rw [upd_same] at q; cases q
  · rw [upd_ne ea] at q; exact q
theorem Sim.setIm {i : Nat} {d : D} {x : V} (hs : Sim g P0 env σ G H) (hio : ∀ e, env[i]? ≠ some (.io e)) (hx : Rp g G d x) : Sim g P0 (env.set i (.im d)) (σ.set i (some x)) G H ∧ Tr (OA env σ) G H (OA (env.set i (.im d)) (σ.set i (some x))) G H := by
  have hσ : ∀ j, i ≠ j → (σ.set i (some x))[j]? = σ[j]? := fun j hj => List.getElem?_set_ne hj
  refine ⟨hs.unown List.length_set hσ rfl fun e z hil => ?_, ⟨Ex.refl G, fun _ _ _ q => q, fun _ q => .inl q, fun r a hr ha => .inl ⟨oa_no hσ rfl hr, ha⟩, fun _ q => q⟩⟩
  cases z
  exact ⟨x, by rw [List.getElem?_set_self (by rw [← hs.len]; exact hil)], hx⟩
theorem Sim.setOw {i : Nat} {d : D} (hs : Sim g P0 env σ G H) (hio : ∀ e, env[i]? ≠ some (.io e)) (hx : Own g G H d p) (hn : ∀ a, Cel H p a → ¬ OCl (OA env σ) H a) :
    Sim g P0 (env.set i (.ow d)) (σ.set i (some (.ref p))) G H ∧ ∀ a, OA (env.set i (.ow d)) (σ.set i (some (.ref p))) a → OA env σ a ∨ a = p := by
  have hσ : ∀ j, i ≠ j → (σ.set i (some (V.ref p)))[j]? = σ[j]? := fun j hj => List.getElem?_set_ne hj
  have self : i < env.length → (σ.set i (some (V.ref p)))[i]? = some (some (.ref p)) := fun hil => by rw [List.getElem?_set_self (by rw [← hs.len]; exact hil)]
  have pvs : ∀ (j k : Nat) s' t' e f q r a, (env.set i (.ow d))[j]? = some s' → s'.own = some e → (env.set i (.ow d))[k]? = some t' → t'.own = some f → (σ.set i (some (V.ref p)))[j]? = some (some (.ref q)) → (σ.set i (some (V.ref p)))[k]? = some (some (.ref r)) → Cel H q a → Cel H r a → j = k := fun j k s' t' e f q r a a1 a2 a3 a4 a5 a6 a7 a8 => by
    rcases get_set a1 with ⟨e1, e2, hil⟩ | ⟨e1, b1⟩
    · subst e1
      rw [self hil] at a5; cases a5
      rcases get_set a3 with ⟨e3, _, _⟩ | ⟨e3, b3⟩
      · exact e3
      · rw [hσ _ e3] at a6
        exact absurd ⟨r, ⟨k, t', f, b3, a4, a6⟩, a8⟩ (hn a a7)
    · rw [hσ _ e1] at a5
      rcases get_set a3 with ⟨e3, _, hil⟩ | ⟨e3, b3⟩
      · subst e3
        rw [self hil] at a6; cases a6
        exact absurd ⟨q, ⟨j, s', e, b1, a2, a5⟩, a7⟩ (hn a a8)
      · rw [hσ _ e3] at a6
        exact hs.apart b1 a2 b3 a4 a5 a6 a7 a8
  refine ⟨⟨hs.ex, by rw [List.length_set, List.length_set]; exact hs.len, fun j e hj => ?_, fun j s' e hj hj' => ?_, fun j k s' t' e f q a1 a2 a3 a4 a5 a6 => pvs j k s' t' e f q q q a1 a2 a3 a4 a5 a6 (.inl rfl) (.inl rfl), fun j e hj => ?_,
    fun j k s' t' e f q r a a1 a2 a3 a4 a5 a6 a7 a8 => pvs j k s' t' e f q r a a1 a2 a3 a4 a5 a6 (.inr a7) a8⟩, fun a ha => ?_⟩
  · rcases get_set hj with ⟨_, e2, _⟩ | ⟨e1, b1⟩
    · cases e2
    · rw [hσ _ e1]; exact hs.im j e b1
  · rcases get_set hj with ⟨e1, e2, hil⟩ | ⟨e1, b1⟩
    · subst e1; subst e2
      cases hj'
      exact ⟨p, self hil, hx⟩
    · rw [hσ _ e1]; exact hs.ow j s' e b1 hj'
  · rcases get_set hj with ⟨_, e2, _⟩ | ⟨e1, b1⟩
    · cases e2
    · rw [hσ _ e1]; exact hs.io j e b1
  · obtain ⟨j, s', e, z1, z2, z3⟩ := ha
    rcases get_set z1 with ⟨e1, e2, hil⟩ | ⟨e1, b1⟩
    · subst e1
      rw [self hil] at z3; cases z3
      exact .inr rfl
    · rw [hσ _ e1] at z3
      exact .inl ⟨j, s', e, b1, z2, z3⟩
end
end G
set_option Elab.async false
set_option linter.all false
set_option maxRecDepth 100000
set_option maxHeartbeats 4000000
namespace G
open PySem L2 SX Evl
section
variable {g : Gm} {W : WX} {P0 : Nat → Option Addr} {env env' : Env} {σ : L2.St} {M0 : Addr → Prop} {G H G' H' G0 H0 : Hp} {Q : VK}
theorem Tr.back (t : Tr M0 G0 H0 (OA env σ) G H) {a : Addr} (h : H a = none) : H0 a = none := t.dom a h
theorem fin_bind {d : Den} {k : Val × Env → R Env (Val × Env)} (hs : Sim g P0 env σ G H) (t : Tr M0 G0 H0 (OA env σ) G H) (h : Fin g W P0 σ M0 G0 H0 Q ((d env).bind k)) :
    teOf g W d σ H fun x H1 => ∃ v env1 G1, Sim g P0 env1 σ G1 H1 ∧ Tr (OA env σ) G H (OA env1 σ) G1 H1 ∧ Tr M0 G0 H0 (OA env1 σ) G1 H1 ∧ VR g env1 σ H G1 H1 v x ∧ VR g env1 σ H0 G1 H1 v x ∧ Fin g W P0 σ M0 G0 H0 Q (k (v, env1)) := by
  refine ⟨P0, env, G, hs, ?_⟩
  cases e : d env with
  | ok r =>
    obtain ⟨v, env1⟩ := r
    intro x G1 H1 s1 t1 v1
    rw [e] at h
    exact ⟨v, env1, G1, s1, t1, t.trans t1, v1, v1.since fun a q => t.back q, h⟩
  | err c e1 =>
    intro cls G1 H1 hc s1 t1
    rw [e] at h
    exact h cls G1 H1 hc s1 (t.trans t1)
  | bad => rw [e] at h; exact h.elim
structure Grow (G H G' H' : Hp) : Prop where
  ex : Ex G G'
  exH : Ex H H'
  sub : Ex G' H'
  new : ∀ a, G' a ≠ none → G a ≠ none ∨ H a = none ∨ TupO (H a)
theorem Grow.refl (h : Ex G H) : Grow G H G H := ⟨Ex.refl G, Ex.refl H, h, fun _ q => .inl q⟩
noncomputable def VN (g : Gm) (H G' H' : Hp) : Val → V → Prop
  | .im d, v => Rp g G' d v
  | .ow d, v => ∃ p, v = .ref p ∧ (∀ a, Cel H' p a → H a = none) ∧ Own g G' H' d p
  | .loc _, _ => False
noncomputable def Pur (g : Gm) (G H : Hp) (v : Val) (Q : VK) : Prop := ∀ x G' H', Grow G H G' H' → VN g H G' H' v x → Q x H'
theorem fin_pur {v : Val} (hs : Sim g P0 env σ G H) (t : Tr M0 G0 H0 (OA env σ) G H) (h : Fin g W P0 σ M0 G0 H0 Q (.ok (v, env))) : Pur g G H v Q := by
  intro x G' H' gr vn
  refine h x G' H' (hs.grow gr.ex gr.exH gr.sub gr.new) (t.trans (Tr.grow hs.at gr.ex gr.exH gr.new)) ?_
  cases v with
  | im d => exact vn
  | ow d =>
    obtain ⟨p, e, h1, h2⟩ := vn
    refine ⟨p, e, h2, fun a z q => ?_, fun a z => t.back (h1 a z)⟩
    obtain ⟨_, o, ho⟩ := hs.cl (cl_grow hs.at gr.exH q)
    rw [h1 a z] at ho; cases ho
  | loc i => exact vn.elim
theorem Pur.im {d : D} {v : V} (hx : Ex G H) (q : Pur g G H (.im d) Q) (h : Rp g G d v) : Q v H := q v G H (Grow.refl hx) h
theorem Pur.int {i : Int} (hx : Ex G H) (q : Pur g G H (.im (.int i)) Q) : Q (.int i) H := q.im hx rfl
theorem Pur.bl {i : Bool} (hx : Ex G H) (q : Pur g G H (.im (.bl i)) Q) : Q (.bl i) H := q.im hx rfl
theorem Pur.str {i : List Nat} (hx : Ex G H) (q : Pur g G H (.im (.str i)) Q) : Q (.str (S i)) H := q.im hx rfl
theorem Pur.non (hx : Ex G H) (q : Pur g G H (.im .non) Q) : Q .non H := q.im hx rfl
theorem Pur.new {d : D} {o : HO} (hx : Ex G H) (q : Pur g G H (.ow d) Q) (h : Co g G d o) {p : Addr} (hp : H p = none) : Q (.ref p) (upd H p o) := by
  have hG : G p = none := by
    cases e : G p with
    | none => rfl
    | some u => rw [hx p u e] at hp; cases hp
  refine q (.ref p) G (upd H p o) ⟨Ex.refl G, Ex.new hp, fun a u e => ?_, fun a h => .inl h⟩ ⟨p, rfl, fun a z => by rw [h.cel upd_same z]; exact hp, hG, o, upd_same, h.x⟩
  rw [upd_ne (fun z => by rw [z, hG] at e; cases e)]
  exact hx a u e
theorem Pur.newIm {d : D} {o : HO} {p : Addr} (hx : Ex G H) (q : Pur g G H (.im d) Q) (hp : H p = none) (h : Rp g (upd G p o) d (.ref p)) : Q (.ref p) (upd H p o) := by
  have hG : G p = none := by
    cases e : G p with
    | none => rfl
    | some u => rw [hx p u e] at hp; cases hp
  refine q (.ref p) (upd G p o) (upd H p o) ⟨Ex.new hG, Ex.new hp, fun a u e => ?_, fun a h => ?_⟩ h
  · by_cases ea : a = p
    · subst ea; rw [upd_same] at e ⊢; exact e
    · rw [upd_ne ea] at e ⊢; exact hx a u e
  · by_cases ea : a = p
    · subst ea; exact .inr (.inl hp)
    · rw [upd_ne ea] at h; exact .inl h
theorem Pur.tup {ds : List D} {vs : List V} (hx : Ex G H) (q : Pur g G H (.im (.tup ds)) Q) (h : Rps g G ds vs) {p : Addr} (hp : H p = none) : Q (.ref p) (upd H p (.tup vs)) := by
  have hG : G p = none := by
    cases e : G p with
    | none => rfl
    | some u => rw [hx p u e] at hp; cases hp
  exact q.newIm hx hp ⟨p, vs, rfl, upd_same, Rps.mono (Ex.new hG) _ _ h⟩
end
noncomputable def Op2 (g : Gm) (r : R2) (f : D → D → Option Val) : Prop :=
  ∀ G H d1 d2 v1 v2 v Q, Ex G H → RB g G H d1 v1 → RB g G H d2 v2 → f d1 d2 = some v → Pur g G H v Q → r v1 v2 H Q
noncomputable def Op1 (g : Gm) (r : V → Hp → VK → Prop) (f : D → Option Val) : Prop :=
  ∀ G H d1 v1 v Q, Ex G H → RB g G H d1 v1 → f d1 = some v → Pur g G H v Q → r v1 H Q
theorem Op2.or {g : Gm} {r r' : R2} {f f' : D → D → Option Val} (h : Op2 g r f) (h' : Op2 g r' f') : Op2 g (fun x y H Q => r x y H Q ∨ r' x y H Q) (fun a b => (f a b).or (f' a b)) := by
  intro G H d1 d2 v1 v2 v Q hx h1 h2 e q
  have e : (f d1 d2).or (f' d1 d2) = some v := e
  cases e1 : f d1 d2 with
  | some w => rw [e1] at e; cases e; exact .inl (h G H d1 d2 v1 v2 _ Q hx h1 h2 e1 q)
  | none => rw [e1] at e; exact .inr (h' G H d1 d2 v1 v2 _ Q hx h1 h2 (by simpa using e) q)
noncomputable def ans (o : Option Val) (env : Env) : R Env (Val × Env) := match o with
  | some v => .ok (v, env)
  | none => .bad
noncomputable def dBin (f : D → D → Option Val) (a b : Den) : Den := fun env => (a env).bind fun p => (b p.2).bind fun q => match rd p.1 q.2, rd q.1 q.2 with
  | some x, some y => ans (f x y) q.2
  | _, _ => .bad
noncomputable def dUn (f : D → Option Val) (a : Den) : Den := fun env => (a env).bind fun p => match rd p.1 p.2 with
  | some x => ans (f x) p.2
  | _ => .bad
section
variable {X : Cx} {a b e : Expr} {da db d : Den} {pos : Pos} {r : R2} {f : D → D → Option Val}
theorem bin_ok {g : Gm} {W : WX} {σ : L2.St} {H : Hp} {Q : VK} (hf : Op2 g r f) (h : teOf g W (dBin f da db) σ H Q) : tOp r (teOf g W da) (teOf g W db) σ H Q := by
  obtain ⟨P0, env, G, hs, hq⟩ := h
  obtain ⟨P1, env1, G1, hs1, hq1⟩ := fin_bind hs Tr.refl hq
  refine ⟨P1, env1, G1, hs1, ?_⟩
  cases ea : da env1 with
  | bad => rw [ea] at hq1; exact hq1.elim
  | err c e2 => rw [ea] at hq1; exact hq1
  | ok p =>
    rw [ea] at hq1
    intro x G2 H2 s2 t2 v2
    obtain ⟨v, env3, G3, s3, t3, u3, v3, w3, q3⟩ := hq1 x G2 H2 s2 t2 v2
    obtain ⟨P4, env4, G4, hs4, hq4⟩ := fin_bind s3 u3 q3
    refine ⟨P4, env4, G4, hs4, ?_⟩
    cases eb : db env4 with
    | bad => rw [eb] at hq4; exact hq4.elim
    | err c e2 => rw [eb] at hq4; exact hq4
    | ok p =>
      rw [eb] at hq4
      intro y G5 H5 s5 t5 v5
      obtain ⟨v', env6, G6, s6, t6, u6, v6, w6, q6⟩ := hq4 y G5 H5 s5 t5 v5
      have w3' := w3.later t6
      simp only at q6
      split at q6
      · rename_i d1 d2 e1 e2
        have r1 := rd_now s6 w3' e1
        have r2 := rd_now s6 w6 e2
        cases e3 : f d1 d2 with
        | none => rw [e3] at q6; exact q6.elim
        | some w =>
          rw [e3] at q6
          exact hf G6 H5 d1 d2 x y w Q s6.ex r1 r2 e3 (fin_pur s6 u6 q6)
      · exact q6.elim
theorem un_ok {g : Gm} {W : WX} {σ : L2.St} {H : Hp} {Q : VK} {r : V → Hp → VK → Prop} {f : D → Option Val} (hf : Op1 g r f) (h : teOf g W (dUn f da) σ H Q) : tUn r (teOf g W da) σ H Q := by
  obtain ⟨P0, env, G, hs, hq⟩ := h
  obtain ⟨P1, env1, G1, hs1, hq1⟩ := fin_bind hs Tr.refl hq
  refine ⟨P1, env1, G1, hs1, ?_⟩
  cases ea : da env1 with
  | bad => rw [ea] at hq1; exact hq1.elim
  | err c e2 => rw [ea] at hq1; exact hq1
  | ok p =>
    rw [ea] at hq1
    intro x G2 H2 s2 t2 v2
    obtain ⟨v, env3, G3, s3, t3, u3, v3, w3, q3⟩ := hq1 x G2 H2 s2 t2 v2
    simp only at q3
    split at q3
    · rename_i d1 e1
      have r1 := rd_now s3 w3 e1
      cases e3 : f d1 with
      | none => rw [e3] at q3; exact q3.elim
      | some w =>
        rw [e3] at q3
        exact hf G3 H2 d1 x w Q s3.ex r1 e3 (fin_pur s3 u3 q3)
    · exact q3.elim
theorem se_bin {op : Operator} (ho : OpR X (binaryOp op) r) (hf : Op2 (gm X) r f) (ha : SE X a da) (hb : SE X b db) : SE X (.BinOp a op b pos) (dBin f da db) :=
  fun W tk => pe_imp (pe_op ho (ha W tk) (hb W tk)) fun σ H Q h => bin_ok hf h
theorem se_cmp {op : CmpOp} (ho : OpR X (compareOp op) r) (hf : Op2 (gm X) r f) (ha : SE X a da) (hb : SE X b db) (hm : behindInMarks op b = false) : SE X (.Compare a [op] [b] pos) (dBin f da db) :=
  fun W tk => pe_imp (pe_cmpR ho (ha W tk) (hb W tk) hm) fun σ H Q h => bin_ok hf h
theorem se_ix (ho : IxR X r) (hf : Op2 (gm X) r f) (ha : SE X a da) (hb : SE X b db) (hs : PlainIx b) : SE X (.Subscript a b pos) (dBin f da db) :=
  fun W tk => pe_imp (pe_ix ho (ha W tk) (hb W tk) hs) fun σ H Q h => bin_ok hf h
theorem se_un {op : UnaryOp} {r : V → Hp → VK → Prop} {f : D → Option Val} (ho : UnR X (unaryOp op) r) (hf : Op1 (gm X) r f) (ha : SE X a da) : SE X (.UnaryOp op a pos) (dUn f da) :=
  fun W tk => pe_imp (pe_un ho (ha W tk)) fun σ H Q h => un_ok hf h
noncomputable def dName (i : Nat) : Den := fun env => match env[i]? with
  | some (.im d) => .ok (.im d, env)
  | some (.ow _) => .ok (.loc i, env)
  | some (.io _) => .ok (.loc i, env)
  | _ => .bad
noncomputable def dC (d : D) : Den := fun env => .ok (.im d, env)
theorem name_ok {g : Gm} {W : WX} {σ : L2.St} {H : Hp} {Q : VK} {i : Nat} (h : teOf g W (dName i) σ H Q) : tVar i σ H Q := by
  obtain ⟨P0, env, G, hs, hq⟩ := h
  unfold dName at hq
  split at hq
  · rename_i d e
    obtain ⟨v, h1, h2⟩ := hs.im i d e
    exact ⟨v, h1, hq v G H hs Tr.refl h2⟩
  · rename_i d e
    obtain ⟨p, h1, _⟩ := hs.ow i _ d e rfl
    exact ⟨_, h1, hq _ G H hs Tr.refl h1⟩
  · rename_i d e
    obtain ⟨p, h1, _⟩ := hs.ow i _ d e rfl
    exact ⟨_, h1, hq _ G H hs Tr.refl h1⟩
  · exact hq.elim
theorem c_ok {g : Gm} {W : WX} {σ : L2.St} {H : Hp} {Q : VK} {d : D} {v : V} (r : ∀ G, Rp g G d v) (h : teOf g W (dC d) σ H Q) : tC v σ H Q := by
  obtain ⟨P0, env, G, hs, hq⟩ := h
  exact hq v G H hs Tr.refl (r G)
theorem se_name (i : Nat) {x : Str} (hN : X.N[i]? = some x := by rfl) (hv : Vis X.env.scope x := by first | exact Or.inl rfl | exact Or.inr (Or.inl rfl) | exact Or.inr (Or.inr rfl)) (hd : (x == ("__debug__" : Str)) = false := by decide)
    (hcd : (x == ("__classdict__" : Str)) = false := by decide) : SE X (.Name x pos) (dName i) := fun W _ => pe_imp (pv i hN hv hd hcd) fun σ H Q h => name_ok h
theorem se_int {i : Int} {j} : SE X (.Constant (.int i) j pos) (dC (.int i)) := fun W _ => pe_imp pe_int fun σ H Q h => c_ok (d := .int i) (fun _ => rfl) h
theorem se_bl {i : Bool} {j} : SE X (.Constant (.bool i) j pos) (dC (.bl i)) := fun W _ => pe_imp pe_bl fun σ H Q h => c_ok (d := .bl i) (fun _ => rfl) h
theorem se_non {j} : SE X (.Constant .none j pos) (dC .non) := fun W _ => pe_imp pe_non fun σ H Q h => c_ok (d := .non) (fun _ => rfl) h
theorem se_str {x : Str} {l : List Nat} {j} (h : x = S l := by rfl) : SE X (.Constant (.str x) j pos) (dC (.str l)) := fun W _ => pe_imp pe_str fun σ H Q q => c_ok (d := .str l) (fun _ => by rw [h] <;> rfl) q
theorem se_glob {x : Str} {u : Value} {v : V} {d : D} (hg : Gl X x) (hm : X.mg x = some u) (r : RelV v u) (hd : ∀ G, Rp (gm X) G d v) (hdb : (x == ("__debug__" : Str)) = false := by decide) : SE X (.Name x pos) (dC d) :=
  fun W _ => pe_imp (pe_glob hg hm r hdb) fun σ H Q q => c_ok hd q
end
noncomputable abbrev LINE : Nat := 16777216
theorem line_eq : (sizeLine : Nat) = LINE := sizeLine_eq
noncomputable def fAdd : D → D → Option Val
  | .int i, .int j => some (.im (.int (i + j)))
  | .str x, .str y => if x.length + y.length ≤ LINE then some (.im (.str (x ++ y))) else none
  | .lst x, .lst y => if x.length + y.length ≤ LINE then some (.ow (.lst (x ++ y))) else none
  | _, _ => none
noncomputable def fSub : D → D → Option Val
  | .int i, .int j => some (.im (.int (i - j)))
  | _, _ => none
noncomputable def fMul : D → D → Option Val
  | .int i, .int j => if i.natAbs.log2 + j.natAbs.log2 < 1000000 then some (.im (.int (i * j))) else none
  | .str x, .int k => if -(2 ^ 31) < k ∧ k < 2 ^ 31 ∧ x.length * k.toNat ≤ LINE then some (.im (.str (List.replicate k.toNat x).flatten)) else none
  | .lst x, .int k => if -(2 ^ 31) < k ∧ k < 2 ^ 31 ∧ x.length * k.toNat ≤ LINE then some (.ow (.lst (List.replicate k.toNat x).flatten)) else none
  | _, _ => none
noncomputable def fDiv : D → D → Option Val
  | .int i, .int j => if 0 < j ∧ j.natAbs.log2 < 9000 then some (.im (.int (i / j))) else none
  | _, _ => none
noncomputable def fMod : D → D → Option Val
  | .int i, .int j => if 0 < j then some (.im (.int (i % j))) else none
  | _, _ => none
noncomputable def fPow : D → D → Option Val
  | .int i, .int j => if 0 ≤ j ∧ j ≤ 1000 ∧ i.natAbs < 2 ^ 64 then some (.im (.int (i ^ j.toNat))) else none
  | _, _ => none
noncomputable def fNeg : D → Option Val
  | .int i => some (.im (.int (-i)))
  | _ => none
section
variable {g : Gm} {X : Cx}
theorem op2_I0 {h : Int → Int → Int} {f : D → D → Option Val} (hf : ∀ d1 d2 v, f d1 d2 = some v → ∃ i j, d1 = .int i ∧ d2 = .int j ∧ v = .im (.int (h i j))) : Op2 g (rI0 fun i j => .int (h i j)) f := by
  intro G H d1 d2 v1 v2 v Q hx r1 r2 e q
  obtain ⟨i, j, rfl, rfl, rfl⟩ := hf d1 d2 v e
  exact ⟨i, j, r1.int, r2.int, q.int hx⟩
theorem op2_I {C : Int → Int → Prop} {h : Int → Int → Int} {f : D → D → Option Val} (hf : ∀ d1 d2 v, f d1 d2 = some v → ∃ i j, d1 = .int i ∧ d2 = .int j ∧ C i j ∧ v = .im (.int (h i j))) : Op2 g (rI C fun i j => .int (h i j)) f := by
  intro G H d1 d2 v1 v2 v Q hx r1 r2 e q
  obtain ⟨i, j, rfl, rfl, hc, rfl⟩ := hf d1 d2 v e
  exact ⟨i, j, r1.int, r2.int, hc, q.int hx⟩
noncomputable def lstO (its : Array Value) (n : Nat) (sl : Array (Option Value)) : Obj := { cls := .type "list", dict := none, data := .seq its n, slots := sl }
theorem Inv.lstR {pins : List (Addr × Obj)} {σ : L2.St} {H : Hp} {s : Shared} {l : Addr} {xs : List V} (I : Inv X pins σ H s) (hH : SqL X.K H l xs) : xs.length ≤ sizeLine ∧ ∃ (its : List Value) (n : Nat) (sl : Array (Option Value)), Vals xs its ∧ xs.length = its.length ∧ s.heap.get? l = some (lstO its.toArray n sl) := by
  obtain ⟨its, r, ⟨⟨c, dd, dt, sl⟩, n, e, hc, hd, hdt⟩, z⟩ := I.list hH
  have hc : c = .type "list" := hc
  have hd : dd = none := hd
  have hdt : dt = .seq its.toArray n := hdt
  subst hc hd hdt
  exact ⟨z, its, n, sl, r, r.length, e⟩
noncomputable def rCatR (K : PySem.W.Frag) : R2 := fun x y H Q => ∃ l b xs zs, x = .ref l ∧ y = .ref b ∧ SqL K H l xs ∧ SqL K H b zs ∧ xs.length + zs.length ≤ sizeLine ∧ ∀ p, H p = none → Q (.ref p) (upd H p (.lst (xs ++ zs)))
theorem op_catR : OpR X (binaryOp .Add) (rCatR X.K) := by
  intro pins s σ H x y v u Q I rx ry h
  obtain ⟨l, b, xs, zs, rfl, rfl, hH, hB, hz, q⟩ := h
  cases rx
  cases ry
  obtain ⟨z, its, n, sl, r, hl, e⟩ := Inv.lstR I hH
  obtain ⟨z2, its2, n2, sl2, r2, hl2, e2⟩ := Inv.lstR I hB
  refine concat_meets ⟨_, e, rfl⟩ ⟨_, e2, rfl⟩ noFill_list_add seq_list_add F.slot_list_add F.entry_list_add (F.args_list_add_2 _ _)
    (PyProof.Rows.list_addW l b its.toArray its2.toArray n n2 none none sl sl2 (by rw [List.size_toArray, List.size_toArray]; omega)) ⟨e, e2, ?_⟩
  have ea : its.toArray ++ its2.toArray = (its ++ its2).toArray := by simp
  rw [ea]
  exact ⟨.ref _, _, I.lnew (t' := s.toks) (r.append r2) (by rw [List.length_append]; omega), rfl, q _ I.fresh⟩
noncomputable def rRepR (K : PySem.W.Frag) : R2 := fun x y H Q => ∃ l k xs, x = .ref l ∧ y = .int k ∧ SqL K H l xs ∧ -(2 ^ 63) ≤ k ∧ k < 2 ^ 63 ∧ xs.length * k.toNat ≤ sizeLine ∧
  ∀ p, H p = none → Q (.ref p) (upd H p (.lst (List.replicate k.toNat xs).flatten))
noncomputable def rRepS : R2 := fun x y H Q => ∃ l k, x = .str (S l) ∧ y = .int k ∧ -(2 ^ 31) < k ∧ k < 2 ^ 31 ∧ l.length * k.toNat ≤ LINE ∧ Q (.str (S (List.replicate k.toNat l).flatten)) H
end
end G
set_option Elab.async false
set_option linter.all false
set_option maxRecDepth 100000
set_option maxHeartbeats 4000000
namespace G
open PySem PySem.Spec PyProof.Rows L2 SX Evl
section
variable {g : Gm} {X : Cx}
noncomputable def rAddA (K : PySem.W.Frag) : R2 := fun x y H Q => (rI0 fun i j => .int (i + j)) x y H Q ∨ (∃ i j, x = .str i ∧ y = .str j ∧ i.length + j.length ≤ sizeLine ∧ Q (.str (i ++ j)) H) ∨ rCatR K x y H Q
theorem op_addA : OpR X (binaryOp .Add) (rAddA X.K) := op_add.or (op_add_str.or op_catR)
theorem o2_add : Op2 g (rAddA g.K) fAdd := by
  intro G H d1 d2 v1 v2 v Q hx r1 r2 e q
  cases d1 with
  | int i => cases d2 with
    | int j => cases e; exact .inl ⟨i, j, r1.int, r2.int, q.int hx⟩
    | _ => cases e
  | str x => cases d2 with
    | str y =>
      simp only [fAdd] at e
      split at e
      · rename_i hl
        cases e
        refine .inr (.inl ⟨S x, S y, r1.str, r2.str, by rw [S_len, S_len, line_eq]; exact hl, ?_⟩)
        rw [S_cat]
        exact q.str hx
      · cases e
    | _ => cases e
  | lst x => cases d2 with
    | lst y =>
      simp only [fAdd] at e
      split at e
      · rename_i hl
        cases e
        obtain ⟨a, vs, e1, h1, h2⟩ := r1.lst hx
        obtain ⟨b, ws, e2, h3, h4⟩ := r2.lst hx
        refine .inr (.inr ⟨a, b, vs, ws, e1, e2, h1, h3, by rw [h2.length, h4.length, line_eq]; exact hl, fun p hp => q.new hx ⟨_, rfl, h2.append h4⟩ hp⟩)
      · cases e
    | _ => cases e
  | _ => cases e
theorem o2_sub : Op2 g (rI0 fun i j => .int (i - j)) fSub := op2_I0 fun d1 d2 v e => by
  cases d1 with
  | int i => cases d2 with
    | int j => cases e; exact ⟨i, j, rfl, rfl, rfl⟩
    | _ => cases e
  | _ => cases e
theorem int_rmulW (a : Int) (t : Tok) (l : Addr) (its : Array Value) (n : Nat) (sl : Array (Option Value)) :
    Meets (Builtin.«int.__rmul__» ⟨[.int a t, .ref l], []⟩) (fun _ R s => s.heap.get? l = some (lstO its n sl) ∧ R (.ok (.ret Value.notImplemented)) s) := .of_wp fun prog w A R s h => by
  obtain ⟨hp, g, d, tk, os⟩ := s
  obtain ⟨hl, h⟩ := h
  unfold lstO at hl
  wp_walk using AutoSeq1.wpAny_loadPart' hl
  exact ⟨_, rfl, h⟩
theorem list_mulW (l : Addr) (its : Array Value) (n : Nat) (sl : Array (Option Value)) (x : Int) (u : Tok) (hc0 : ¬(!Builtin.List.listFitsIndex x) = true) (hc1 : ¬its.size * x.toNat > (2 ^ 63 - 1) / 8) (hc2 : ¬Builtin.List.listTooLong (its.size * x.toNat) = true) :
    Meets (Builtin.«list.__mul__» ⟨[.ref l, .int x u], []⟩) (fun _ R s => s.heap.get? l = some (lstO its n sl) ∧ R (.ok (.ret (Value.ref s.heap.objs.size))) { s with heap := s.heap.push { cls := Value.type "list", data := Data.seq (List.foldl (fun x1 x2 => x1 ++ x2) #[] (List.replicate (if its.isEmpty = true then 0 else x.toNat) its)) }, toks := s.toks }) := .of_wp fun prog w A R s h => by
  obtain ⟨hp, g, d, tk, os⟩ := s
  obtain ⟨hl, h⟩ := h
  unfold lstO at hl
  have hsz := AutoListH.joined_fits hc2
  have f1 := AutoSeq1.idx_int
  wp_walk using AutoSeq1.wpAny_loadPart' hl
  refine wpAny_ite_false (decide_eq_false (Nat.not_lt.mpr hsz)) ?_
  wp_walk using AutoSeq1.wpAny_loadPart' hl
  exact ⟨_, rfl, h⟩
theorem op_repR : OpR X (binaryOp .Mult) (rRepR X.K) := by
  intro pins s σ H x y v u Q I rx ry h
  obtain ⟨l, k, xs, rfl, rfl, hH, h1, h2, hz, q⟩ := h
  cases rx
  obtain ⟨t, rfl⟩ := ry
  obtain ⟨z, its, n, sl, r, hl, e⟩ := Inv.lstR I hH
  have hlen : its.toArray.size * k.toNat ≤ sizeLine := by rw [List.size_toArray, ← hl]; exact hz
  have hcap : ¬ its.toArray.size * k.toNat > (2 ^ 63 - 1) / 8 := by
    have : (sizeLine : Nat) ≤ (2 ^ 63 - 1) / 8 := by decide
    omega
  have hfit : ¬ (!Builtin.List.listFitsIndex k) = true := by
    rw [fitsIndex_both h1 h2]
    exact Bool.false_ne_true
  have hlong : ¬ Builtin.List.listTooLong (its.toArray.size * k.toNat) = true := by
    rw [notLongL hlen]
    exact Bool.false_ne_true
  have hnew : List.foldl (fun x1 x2 => x1 ++ x2) #[] (List.replicate (if its.toArray.isEmpty = true then 0 else k.toNat) its.toArray) = (List.replicate k.toNat its).flatten.toArray := by
    have f0 : ∀ m : Nat, List.foldl (fun x1 x2 => x1 ++ x2) #[] (List.replicate m its.toArray) = (List.replicate m its).flatten.toArray := fun m => by
      have := foldl_rep its m []
      rw [List.nil_append] at this
      exact this
    rw [f0]
    cases its with
    | nil => simp
    | cons a r' => rw [if_neg (by simp)]
  refine wpAny_binaryOp_repeat_ref (T := "list") (U := "int") (by decide) ⟨_, e, rfl⟩ (fun s' => typeIs_int s' k t) noFill_list_mul F.fills_int_mul F.slot_int_rmul repeat_list F.slot_int_index.lookup
    (call_meets F.slot_int_rmul (typeIs_int s k t) F.entry_int_rmul (F.args_int_rmul_2 _ _) (int_rmulW k t l its.toArray n sl)
      ⟨e, rfl, ⟨_, e, rfl⟩, call_meets F.slot_list_mul ⟨_, e, rfl⟩ F.entry_list_mul (F.args_list_mul_2 _ _) (list_mulW l its.toArray n sl k t hfit hcap hlong) ⟨e, ?_⟩⟩)
  rw [hnew]
  exact ⟨.ref _, _, I.lnew (t' := s.toks) (r.rep k.toNat) (by rw [PyProof.Rows.lm_len_rep_flat, Nat.mul_comm]; exact hz), rfl, q _ I.fresh⟩
theorem foldl_arr (a : Array Nat) : ∀ (n : Nat) (b : Array Nat), ((List.replicate n a).foldl (· ++ ·) b).toList = b.toList ++ (List.replicate n a.toList).flatten
  | 0, b => by simp
  | n + 1, b => by
    rw [List.replicate_succ, List.foldl_cons, foldl_arr a n, List.replicate_succ, List.flatten_cons]
    simp
theorem rep_small {l : List Nat} {k : Int} (h1 : -(2 ^ 31) < k) (h2 : k < 2 ^ 31) (hz : l.length * k.toNat ≤ LINE) {prog : Program} {w : World} {A : Around} {E : Value → Shared → Prop} {s : Shared} {t u : Tok} {Q : Value → Shared → Prop}
    (h : ∀ (v : Value) (n : Nat), RelV (.str (S (List.replicate k.toNat l).flatten)) v → Q v { s with toks := n }) : wpAny (model prog w) A (binaryOp .Mult (.str (S l) t) (.int k u)) Q E s := by
  refine P.mul_str ?_ (fun hk _ => ?_) (fun hk _ => ?_) ?_
  · rw [decide_eq_false (by omega), decide_eq_false (by omega)] <;> rfl
  · have hk' : 1 ≤ k := by omega
    rw [S_len]
    intro hh
    have h3 : (2 ^ 63 - 1) / (2 ^ 31 : Int) ≤ (2 ^ 63 - 1) / k := by
      refine (Int.le_ediv_iff_mul_le (by omega)).mpr ?_
      have : (2 ^ 63 - 1) / (2 ^ 31 : Int) = 4294967295 := by decide
      rw [this]
      omega
    have h4 : (2 ^ 63 - 1) / (2 ^ 31 : Int) = 4294967295 := by decide
    have h5 : (l.length : Int) ≤ 16777216 := by
      have h6 : l.length * 1 ≤ l.length * k.toNat := Nat.mul_le_mul_left _ (by omega)
      have hL : LINE = 16777216 := rfl
      omega
    omega
  · rw [S_len]
    show decide (_ > sizeLine) = false
    rw [line_eq]
    exact decide_eq_false (by omega)
  · by_cases hk : k < 1
    · rw [if_pos hk]
      have e : k.toNat = 0 := by omega
      refine ⟨by decide, h _ _ ?_⟩
      rw [e]
      exact ⟨_, rfl⟩
    · rw [if_neg hk]
      by_cases h0 : (k == 1 || (S l).length == 0) = true
      · rw [if_pos h0]
        refine h _ s.toks ?_
        have e : (List.replicate k.toNat l).flatten = l := by
          rw [Bool.or_eq_true, beq_iff_eq, beq_iff_eq, S_len] at h0
          rcases h0 with h0 | h0
          · rw [h0]; simp
          · rw [List.length_eq_zero_iff] at h0
            subst h0
            simp
        rw [e]
        exact ⟨t, rfl⟩
      · rw [if_neg h0]
        have e : (⟨(List.replicate k.toNat (S l).cps).foldl (· ++ ·) #[]⟩ : Str) = S (List.replicate k.toNat l).flatten := by
          refine TL.ext_tl ?_
          show ((List.replicate k.toNat (S l).cps).foldl (· ++ ·) #[]).toList = (List.replicate k.toNat l).flatten
          rw [foldl_arr]
          simp
        rw [e]
        refine ⟨?_, h _ _ ⟨_, rfl⟩⟩
        rw [S_len, line_eq, PyProof.Rows.lm_len_rep_flat, Nat.mul_comm]
        exact hz
theorem op_repS : OpR X (binaryOp .Mult) rRepS := by
  intro pins s σ H x y v u Q I rx ry h
  obtain ⟨l, k, rfl, rfl, h1, h2, h3, q⟩ := h
  obtain ⟨t, rfl⟩ := rx
  obtain ⟨t', rfl⟩ := ry
  exact rep_small h1 h2 h3 fun v n r => ⟨_, H, I.tok _, r, q⟩
noncomputable def rMulA (K : PySem.W.Frag) : R2 := fun x y H Q => (rI CMulW fun i j => .int (i * j)) x y H Q ∨ rRepS x y H Q ∨ rRepR K x y H Q
theorem op_mulA : OpR X (binaryOp .Mult) (rMulA X.K) := op_mulW.or (op_repS.or op_repR)
theorem o2_mul : Op2 g (rMulA g.K) fMul := by
  intro G H d1 d2 v1 v2 v Q hx r1 r2 e q
  cases d1 with
  | int i => cases d2 with
    | int j =>
      simp only [fMul] at e
      split at e
      · rename_i hc
        cases e
        exact .inl ⟨i, j, r1.int, r2.int, hc, q.int hx⟩
      · cases e
    | _ => cases e
  | str x => cases d2 with
    | int k =>
      simp only [fMul] at e
      split at e
      · rename_i hl
        cases e
        exact .inr (.inl ⟨x, k, r1.str, r2.int, hl.1, hl.2.1, hl.2.2, q.str hx⟩)
      · cases e
    | _ => cases e
  | lst x => cases d2 with
    | int k =>
      simp only [fMul] at e
      split at e
      · rename_i hl
        cases e
        obtain ⟨a, vs, e1, h1, h2⟩ := r1.lst hx
        exact .inr (.inr ⟨a, k, vs, e1, r2.int, h1, by omega, by omega, by rw [h2.length, line_eq]; exact hl.2.2, fun p hp => q.new hx ⟨_, rfl, h2.flat _⟩ hp⟩)
      · cases e
    | _ => cases e
  | _ => cases e
theorem o2_div : Op2 g (rI CDivW fun i j => .int (i / j)) fDiv := op2_I fun d1 d2 v e => by
  cases d1 with
  | int i => cases d2 with
    | int j =>
      simp only [fDiv] at e
      split at e
      · rename_i hc
        cases e
        exact ⟨i, j, rfl, rfl, hc, rfl⟩
      · cases e
    | _ => cases e
  | _ => cases e
theorem o2_mod : Op2 g (rI (fun _ j => 0 < j) fun i j => .int (i % j)) fMod := op2_I fun d1 d2 v e => by
  cases d1 with
  | int i => cases d2 with
    | int j =>
      simp only [fMod] at e
      split at e
      · rename_i hc
        cases e
        exact ⟨i, j, rfl, rfl, hc, rfl⟩
      · cases e
    | _ => cases e
  | _ => cases e
theorem o2_pow : Op2 g (rI CPow fun i j => .int (i ^ j.toNat)) fPow := op2_I fun d1 d2 v e => by
  cases d1 with
  | int i => cases d2 with
    | int j =>
      simp only [fPow] at e
      split at e
      · rename_i hc
        cases e
        exact ⟨i, j, rfl, rfl, ⟨hc.1, by omega, hc.2.2⟩, rfl⟩
      · cases e
    | _ => cases e
  | _ => cases e
theorem o1_neg : Op1 g (rU fun i => .int (-i)) fNeg := by
  intro G H d1 v1 v Q hx r1 e q
  cases d1 with
  | int i => cases e; exact ⟨i, r1.int, q.int hx⟩
  | _ => cases e
end
mutual
noncomputable def toP : D → PyData
  | .non => .none
  | .bl b => .bool b
  | .int i => .int i
  | .str x => .str (S x)
  | .lst ds => .list (toPs ds)
  | .tup ds => .tuple (toPs ds)
  | .dk _ _ => .none
  | .dt _ _ => .none
  | .exc _ => .none
  | .ob _ _ => .none
noncomputable def toPs : List D → List PyData
  | [] => []
  | d :: ds => toP d :: toPs ds
end
mutual
noncomputable def okD : Nat → D → Bool
  | _, .non => true
  | _, .bl _ => true
  | _, .int _ => true
  | _, .str x => x.all (· < 1114112)
  | 0, _ => false
  | n + 1, .lst ds => okDs n ds
  | n + 1, .tup ds => okDs n ds
  | _, _ => false
noncomputable def okDs : Nat → List D → Bool
  | _, [] => true
  | n, d :: ds => okD n d && okDs n ds
end
mutual
noncomputable def eqD : D → D → Bool
  | .non, .non => true
  | .bl a, .bl b => a == b
  | .bl a, .int j => (if a then 1 else 0) == j
  | .int i, .bl b => i == (if b then 1 else 0)
  | .int i, .int j => i == j
  | .str x, .str y => x == y
  | .lst xs, .lst ys => eqDs xs ys
  | .tup xs, .tup ys => eqDs xs ys
  | _, _ => false
noncomputable def eqDs : List D → List D → Bool
  | [], [] => true
  | x :: xs, y :: ys => eqD x y && eqDs xs ys
  | _, _ => false
end
theorem okD_lay : ∀ (d : D) (n : Nat), okD n d = true → (toP d).canLay0 = true ∧ (toP d).depth ≤ n := by
  intro d
  refine D.rec (motive_1 := fun d => ∀ n, okD n d = true → (toP d).canLay0 = true ∧ (toP d).depth ≤ n) (motive_2 := fun ds => ∀ n, okDs n ds = true → PyData.canLayAll0 (toPs ds) = true ∧ PyData.depthAll (toPs ds) ≤ n)
    ?_ ?_ ?_ ?_ ?_ ?_ ?_ ?_ ?_ ?_ ?_ ?_ d
  · intro n _; simp [toP, PyData.canLay0, PyData.depth]
  · intro b n _; simp [toP, PyData.canLay0, PyData.depth]
  · intro i n _; simp [toP, PyData.canLay0, PyData.depth]
  · intro x n h
    have h : x.all (· < 1114112) = true := by cases n <;> simpa [okD] using h
    refine ⟨?_, by simp [toP, PyData.depth]⟩
    show PyData.strOk (S x) = true
    show (S x).cps.all (· < 0x110000) = true
    rw [← Array.all_toList]
    exact h
  · intro ds ih n h
    cases n with
    | zero => simp [okD] at h
    | succ n =>
      obtain ⟨h1, h2⟩ := ih n (by simpa [okD] using h)
      exact ⟨by simpa [toP, PyData.canLay0] using h1, by simp only [toP, PyData.depth]; omega⟩
  · intro ds ih n h
    cases n with
    | zero => simp [okD] at h
    | succ n =>
      obtain ⟨h1, h2⟩ := ih n (by simpa [okD] using h)
      exact ⟨by simpa [toP, PyData.canLay0] using h1, by simp only [toP, PyData.depth]; omega⟩
  · intro ks ds _ n h; cases n <;> simp [okD] at h
  · intro ks ds _ n h; cases n <;> simp [okD] at h
  · intro c n h; cases n <;> simp [okD] at h
  · intro c ds _ n h; cases n <;> simp [okD] at h
  · intro n _; simp [toPs, PyData.canLayAll0, PyData.depthAll]
  · intro d ds ih1 ih2 n h
    have h : okD n d = true ∧ okDs n ds = true := by simpa [okDs] using h
    obtain ⟨h1, h2⟩ := ih1 n h.1
    obtain ⟨h3, h4⟩ := ih2 n h.2
    refine ⟨by simp [toPs, PyData.canLayAll0, h1, h3], ?_⟩
    simp only [toPs, PyData.depthAll]
    omega
theorem okD_shaped {d : D} (h : okD 64 d = true) : SeqAt.shaped (toP d) = true := by
  obtain ⟨h1, h2⟩ := okD_lay d 64 h
  unfold SeqAt.shaped
  rw [Bool.and_eq_true]
  exact ⟨h1, decide_eq_true h2⟩
theorem Rp.dp {g : Gm} {G : Hp} : ∀ (d : D) (n : Nat) (v : V), okD n d = true → Rp g G d v → Dp g.K G v (toP d) := by
  intro d
  refine D.rec (motive_1 := fun d => ∀ (n : Nat) (v : V), okD n d = true → Rp g G d v → Dp g.K G v (toP d)) (motive_2 := fun ds => ∀ (n : Nat) (vs : List V), okDs n ds = true → Rps g G ds vs → DpAll g.K G vs (toPs ds))
    ?_ ?_ ?_ ?_ ?_ ?_ ?_ ?_ ?_ ?_ ?_ ?_ d
  · intro n v _ h; rw [show v = V.non from h]; exact .non
  · intro b n v _ h; rw [show v = V.bl b from h]; exact .bl b
  · intro i n v _ h; rw [show v = V.int i from h]; exact .int i
  · intro x n v _ h; rw [show v = V.str (S x) from h]; exact .str _
  · intro ds ih n v h r
    obtain ⟨a, vs, e, h1, h2⟩ := r
    cases n with
    | zero => simp [okD] at h
    | succ n =>
      rw [e]
      exact .lst h1 (ih n vs (by simpa [okD] using h) h2)
  · intro ds ih n v h r
    obtain ⟨a, vs, e, h1, h2⟩ := r
    cases n with
    | zero => simp [okD] at h
    | succ n =>
      rw [e]
      exact .tup (SqT.of h1) (ih n vs (by simpa [okD] using h) h2)
  · intro ks ds _ n v h; cases n <;> simp [okD] at h
  · intro ks ds _ n v h; cases n <;> simp [okD] at h
  · intro c n v h; cases n <;> simp [okD] at h
  · intro c ds _ n v h; cases n <;> simp [okD] at h
  · intro n vs _ h; rw [show vs = [] from h]; exact .nil
  · intro d ds ih1 ih2 n vs h r
    obtain ⟨v, r', e, h1, h2⟩ := r
    have h : okD n d = true ∧ okDs n ds = true := by simpa [okDs] using h
    rw [e]
    exact .cons (ih1 n v h.1 h1) (ih2 n r' h.2 h2)
theorem eqD_eqv : ∀ (d e : D) (n m : Nat), okD n d = true → okD m e = true → PyData.eqv (toP d) (toP e) = eqD d e := by
  intro d
  refine D.rec (motive_1 := fun d => ∀ (e : D) (n m : Nat), okD n d = true → okD m e = true → PyData.eqv (toP d) (toP e) = eqD d e) (motive_2 := fun ds => ∀ (es : List D) (n m : Nat), okDs n ds = true → okDs m es = true → PyData.eqvAll (toPs ds) (toPs es) = eqDs ds es)
    ?_ ?_ ?_ ?_ ?_ ?_ ?_ ?_ ?_ ?_ ?_ ?_ d
  · intro e n m _ h; cases e <;> first | (cases m <;> simp [okD] at h; done) | simp [toP, PyData.eqv, eqD]
  · intro b e n m _ h; cases e <;> first | (cases m <;> simp [okD] at h; done) | simp [toP, PyData.eqv, eqD]
  · intro i e n m _ h; cases e <;> first | (cases m <;> simp [okD] at h; done) | simp [toP, PyData.eqv, eqD]
  · intro x e n m _ h
    cases e with
    | str y => simp only [toP, PyData.eqv, eqD]; exact S_beq x y
    | _ => first | (cases m <;> simp [okD] at h; done) | simp [toP, PyData.eqv, eqD]
  · intro ds ih e n m h1 h2
    cases e with
    | lst es =>
      cases n with
      | zero => simp [okD] at h1
      | succ n => cases m with
        | zero => simp [okD] at h2
        | succ m => simp only [toP, PyData.eqv, eqD]; exact ih es n m (by simpa [okD] using h1) (by simpa [okD] using h2)
    | _ => first | (cases m <;> simp [okD] at h2; done) | simp [toP, PyData.eqv, eqD]
  · intro ds ih e n m h1 h2
    cases e with
    | tup es =>
      cases n with
      | zero => simp [okD] at h1
      | succ n => cases m with
        | zero => simp [okD] at h2
        | succ m => simp only [toP, PyData.eqv, eqD]; exact ih es n m (by simpa [okD] using h1) (by simpa [okD] using h2)
    | _ => first | (cases m <;> simp [okD] at h2; done) | simp [toP, PyData.eqv, eqD]
  · intro ks ds _ e n m h; cases n <;> simp [okD] at h
  · intro ks ds _ e n m h; cases n <;> simp [okD] at h
  · intro c e n m h; cases n <;> simp [okD] at h
  · intro c ds _ e n m h; cases n <;> simp [okD] at h
  · intro es n m _ _; cases es <;> simp [toPs, PyData.eqvAll, eqDs]
  · intro d ds ih1 ih2 es n m h1 h2
    cases es with
    | nil => simp [toPs, PyData.eqvAll, eqDs]
    | cons e es =>
      have h1 : okD n d = true ∧ okDs n ds = true := by simpa [okDs] using h1
      have h2 : okD m e = true ∧ okDs m es = true := by simpa [okDs] using h2
      simp only [toPs, PyData.eqvAll, eqDs]
      rw [ih1 e n m h1.1 h2.1, ih2 es n m h1.2 h2.2]
noncomputable def flatD : D → Bool
  | .non => true
  | .bl _ => true
  | .int _ => true
  | .str _ => true
  | _ => false
noncomputable def eqOk (d e : D) : Bool := match d, e with
  | .int _, .int _ => true
  | .str _, .str _ => true
  | .bl _, .bl _ => true
  | _, _ => okD 64 d && okD 64 e
noncomputable def fEq (d e : D) : Option Val := if eqOk d e then some (.im (.bl (eqD d e))) else none
noncomputable def fNe (d e : D) : Option Val := if eqOk d e then some (.im (.bl (!eqD d e))) else none
section
variable {g : Gm} {X : Cx}
noncomputable def rEqA (K : PySem.W.Frag) : R2 := fun x y H Q => rEq x y H Q ∨ rEqD K x y H Q
noncomputable def rNeA (K : PySem.W.Frag) : R2 := fun x y H Q => rNe x y H Q ∨ rNeD K x y H Q
theorem op_eqA (hu : X.A.units + 64 < cLine) : OpR X (compareOp .Eq) (rEqA X.K) := op_eq.or (op_eqD hu)
theorem op_neA (hu : X.A.units + 64 < cLine) : OpR X (compareOp .NotEq) (rNeA X.K) := op_ne.or (op_neD hu)
theorem eq_cases {G H : Hp} {d1 d2 : D} {v1 v2 : V} (hx : Ex G H) (r1 : RB g G H d1 v1) (r2 : RB g G H d2 v2) (h : eqOk d1 d2 = true) :
    (scal v1 v2 = true ∧ decide (v1 = v2) = eqD d1 d2) ∨ ∃ d e, Dp g.K H v1 d ∧ Dp g.K H v2 e ∧ SeqAt.shaped d = true ∧ SeqAt.shaped e = true ∧ PyData.eqv d e = eqD d1 d2 := by
  have deep : okD 64 d1 = true → okD 64 d2 = true → ∃ d e, Dp g.K H v1 d ∧ Dp g.K H v2 e ∧ SeqAt.shaped d = true ∧ SeqAt.shaped e = true ∧ PyData.eqv d e = eqD d1 d2 := fun h1 h2 =>
    ⟨_, _, Rp.dp d1 64 v1 h1 (r1.rp hx), Rp.dp d2 64 v2 h2 (r2.rp hx), okD_shaped h1, okD_shaped h2, eqD_eqv d1 d2 64 64 h1 h2⟩
  unfold eqOk at h
  split at h
  · rename_i i j
    rw [r1.int, r2.int]
    refine .inl ⟨rfl, ?_⟩
    rw [dec_int]
    simp [eqD]
  · rename_i x y
    rw [r1.str, r2.str]
    refine .inl ⟨rfl, ?_⟩
    rw [dec_str, S_beq]
    simp [eqD]
  · rename_i x y
    rw [r1.bl, r2.bl]
    refine .inl ⟨rfl, ?_⟩
    rw [dec_bl]
    simp [eqD]
  · rw [Bool.and_eq_true] at h
    exact .inr (deep h.1 h.2)
theorem o2_eq : Op2 g (rEqA g.K) fEq := by
  intro G H d1 d2 v1 v2 v Q hx r1 r2 e q
  unfold fEq at e
  split at e
  · rename_i h
    cases e
    rcases eq_cases hx r1 r2 h with ⟨h1, h2⟩ | ⟨d, e, h1, h2, h3, h4, h5⟩
    · exact .inl ⟨h1, by rw [h2]; exact q.bl hx⟩
    · exact .inr ⟨d, e, h1, h2, h3, h4, by rw [h5]; exact q.bl hx⟩
  · cases e
theorem o2_ne : Op2 g (rNeA g.K) fNe := by
  intro G H d1 d2 v1 v2 v Q hx r1 r2 e q
  unfold fNe at e
  split at e
  · rename_i h
    cases e
    rcases eq_cases hx r1 r2 h with ⟨h1, h2⟩ | ⟨d, e, h1, h2, h3, h4, h5⟩
    · exact .inl ⟨h1, by rw [h2]; exact q.bl hx⟩
    · exact .inr ⟨d, e, h1, h2, h3, h4, by rw [h5]; exact q.bl hx⟩
  · cases e
noncomputable def fRel (p : Int → Int → Bool) : D → D → Option Val
  | .int i, .int j => some (.im (.bl (p i j)))
  | _, _ => none
theorem o2_rel {p : Int → Int → Bool} : Op2 g (rI0 fun i j => .bl (p i j)) (fRel p) := by
  intro G H d1 d2 v1 v2 v Q hx r1 r2 e q
  cases d1 with
  | int i => cases d2 with
    | int j => cases e; exact ⟨i, j, r1.int, r2.int, q.bl hx⟩
    | _ => cases e
  | _ => cases e
noncomputable abbrev fLt := fRel fun i j => decide (i < j)
noncomputable abbrev fLe := fRel fun i j => decide (i ≤ j)
noncomputable abbrev fGt := fRel fun i j => decide (j < i)
noncomputable abbrev fGe := fRel fun i j => decide (j ≤ i)
noncomputable def D.isNon : D → Bool
  | .non => true
  | _ => false
theorem Rp.isNon {G : Hp} {d : D} {v : V} (h : Rp g G d v) : decide (v = .non) = d.isNon := by
  cases d with
  | non => rw [show v = V.non from h]; rfl
  | bl b => rw [show v = V.bl b from h]; rfl
  | int i => rw [show v = V.int i from h]; rfl
  | str x => rw [show v = V.str _ from h]; rfl
  | lst _ => obtain ⟨a, vs, e, _⟩ := h; rw [e]; rfl
  | tup _ => obtain ⟨a, vs, e, _⟩ := h; rw [e]; rfl
  | dk _ _ => obtain ⟨a, vs, e, _⟩ := h; rw [e]; rfl
  | dt _ _ => obtain ⟨a, vs, e, _⟩ := h; rw [e]; rfl
  | exc _ => obtain ⟨a, e, _⟩ := h; rw [e]; rfl
  | ob _ _ => obtain ⟨a, C, dx, fs, e, _⟩ := h; rw [e]; rfl
noncomputable def fIs : D → D → Option Val
  | d, .non => some (.im (.bl d.isNon))
  | .bl a, .bl b => some (.im (.bl (decide (a = b))))
  | _, _ => none
noncomputable def rIsA : R2 := fun x y H Q => (y = .non ∧ Q (.bl (decide (x = .non))) H) ∨ rIsB x y H Q
theorem o2_is : Op2 g rIsA fIs := by
  intro G H d1 d2 v1 v2 v Q hx r1 r2 e q
  cases d2 with
  | non =>
    have e : some (Val.im (.bl d1.isNon)) = some v := by cases d1 <;> exact e
    cases e
    exact .inl ⟨r2.non, by rw [(r1.rp hx).isNon]; exact q.bl hx⟩
  | bl b => cases d1 with
    | bl a => cases e; exact .inr ⟨a, b, r1.bl, r2.bl, q.bl hx⟩
    | _ => cases e
  | _ => cases d1 <;> cases e
theorem op_isA : OpR X (compareOp .Is) rIsA := op_isN.or op_isBl
end
end G
set_option Elab.async false
set_option linter.all false
set_option maxRecDepth 100000
set_option maxHeartbeats 4000000
namespace G
open PySem PySem.Spec PyProof.Rows L2 SX Evl
section
variable {g : Gm} {X : Cx} {G H : Hp}
noncomputable def fIx : D → D → Option Val
  | .lst ds, .int i => (atI ds i).map .im
  | .tup ds, .int i => (atI ds i).map .im
  | .str x, .int i => if x.length ≤ LINE then (atI x i).map fun c => .im (.str [c]) else none
  | _, _ => none
theorem Rps.at {ds : List D} {vs : List V} {i : Int} {d : D} (h : Rps g G ds vs) (e : atI ds i = some d) : ∃ v, atI vs i = some v ∧ Rp g G d v := by
  unfold atI at e ⊢
  rw [h.length]
  cases q : ixN ds.length i with
  | none => rw [q] at e; cases e
  | some j =>
    rw [q] at e
    exact h.get e
theorem o2_ix : Op2 g (rIx g.K) fIx := by
  intro G H d1 d2 v1 v2 v Q hx r1 r2 e q
  cases d1 with
  | lst ds => cases d2 with
    | int i =>
      obtain ⟨d, e1, e2⟩ := Option.map_eq_some_iff.mp (show (atI ds i).map Val.im = some v from e)
      subst e2
      obtain ⟨a, vs, e3, h1, h2⟩ := r1.lst hx
      obtain ⟨w, e4, h3⟩ := h2.at e1
      exact .inl ⟨a, vs, i, w, e3, r2.int, h1, e4, q.im hx h3⟩
    | _ => cases e
  | tup ds => cases d2 with
    | int i =>
      obtain ⟨d, e1, e2⟩ := Option.map_eq_some_iff.mp (show (atI ds i).map Val.im = some v from e)
      subst e2
      obtain ⟨a, vs, e3, h1, h2⟩ := r1.tup hx
      obtain ⟨w, e4, h3⟩ := h2.at e1
      exact .inr (.inl ⟨a, vs, i, w, e3, r2.int, h1, e4, q.im hx h3⟩)
    | _ => cases e
  | str x => cases d2 with
    | int i =>
      simp only [fIx] at e
      split at e
      · rename_i hl
        obtain ⟨c, e1, e2⟩ := Option.map_eq_some_iff.mp e
        subst e2
        exact .inr (.inr ⟨S x, i, c, r1.str, r2.int, by rw [S_len, line_eq]; exact hl, e1, q.str hx⟩)
      · cases e
    | _ => cases e
  | _ => cases e
noncomputable def fInB : D → D → Option Bool
  | .str x, .str y => match x with
    | [c] => some (decide (c ∈ y))
    | _ => none
  | d, .lst ds => if flatD d && ds.all flatD then some (ds.any fun e => eqD e d) else if okD 64 d && okD 64 (.lst ds) then some (ds.any fun e => eqD e d) else none
  | d, .tup ds => if flatD d && ds.all flatD then some (ds.any fun e => eqD e d) else none
  | _, _ => none
noncomputable def fNotIn (d e : D) : Option Val := (fInB d e).map fun b => .im (.bl (!b))
theorem Rp.flat {d : D} {v : V} (h : Rp g G d v) (f : flatD d = true) : flatV v = true := by
  cases d with
  | non => rw [show v = V.non from h]; rfl
  | bl b => rw [show v = V.bl b from h]; rfl
  | int i => rw [show v = V.int i from h]; rfl
  | str x => rw [show v = V.str _ from h]; rfl
  | _ => cases f
theorem Rp.eqV {d e : D} {v w : V} (h : Rp g G d v) (k : Rp g G e w) (f : flatD d = true) (f' : flatD e = true) : L2.eqV v w = eqD d e := by
  cases d with
  | non => rw [show v = V.non from h]; cases e with
    | non => rw [show w = V.non from k]; simp [L2.eqV, eqD]
    | bl b => rw [show w = V.bl b from k]; simp [L2.eqV, eqD]
    | int i => rw [show w = V.int i from k]; simp [L2.eqV, eqD]
    | str x => rw [show w = V.str _ from k]; simp [L2.eqV, eqD]
    | _ => cases f'
  | bl b => rw [show v = V.bl b from h]; cases e with
    | non => rw [show w = V.non from k]; simp [L2.eqV, eqD]
    | bl b => rw [show w = V.bl b from k]; simp [L2.eqV, eqD]
    | int i => rw [show w = V.int i from k]; simp [L2.eqV, eqD]
    | str x => rw [show w = V.str _ from k]; simp [L2.eqV, eqD]
    | _ => cases f'
  | int i => rw [show v = V.int i from h]; cases e with
    | non => rw [show w = V.non from k]; simp [L2.eqV, eqD]
    | bl b => rw [show w = V.bl b from k]; simp [L2.eqV, eqD]
    | int i => rw [show w = V.int i from k]; simp [L2.eqV, eqD]
    | str x => rw [show w = V.str _ from k]; simp [L2.eqV, eqD]
    | _ => cases f'
  | str x => rw [show v = V.str _ from h]; cases e with
    | non => rw [show w = V.non from k]; simp [L2.eqV, eqD]
    | bl b => rw [show w = V.bl b from k]; simp [L2.eqV, eqD]
    | int i => rw [show w = V.int i from k]; simp [L2.eqV, eqD]
    | str y => rw [show w = V.str _ from k]; simp only [L2.eqV, eqD]; exact S_beq x y
    | _ => cases f'
  | _ => cases f
theorem Rps.flat_all {ds : List D} {vs : List V} (h : Rps g G ds vs) (f : ds.all flatD = true) : vs.all flatV = true := by
  induction ds generalizing vs with
  | nil => rw [show vs = [] from h]; rfl
  | cons d ds ih =>
    obtain ⟨v, r, e, h1, h2⟩ := h
    rw [List.all_cons, Bool.and_eq_true] at f
    rw [e, List.all_cons, Bool.and_eq_true]
    exact ⟨h1.flat f.1, ih h2 f.2⟩
theorem Rps.inV {ds : List D} {vs : List V} {d : D} {v : V} (h : Rps g G ds vs) (f : ds.all flatD = true) (k : Rp g G d v) (f' : flatD d = true) : inV v vs = ds.any fun e => eqD e d := by
  unfold L2.inV
  induction ds generalizing vs with
  | nil => rw [show vs = [] from h]; rfl
  | cons e ds ih =>
    obtain ⟨w, r, e1, h1, h2⟩ := h
    rw [List.all_cons, Bool.and_eq_true] at f
    rw [e1, List.any_cons, List.any_cons, h1.eqV k f.1 f', ih h2 f.2]
theorem any_eqv {d : D} {n m : Nat} (hd : okD n d = true) : ∀ ds : List D, okDs m ds = true → ((toPs ds).any fun z => PyData.eqv z (toP d)) = ds.any fun e => eqD e d
  | [], _ => rfl
  | e :: ds, h => by
    have h : okD m e = true ∧ okDs m ds = true := by simpa [okDs] using h
    simp only [toPs, List.any_cons]
    rw [eqD_eqv e d m n h.1 hd, any_eqv hd ds h.2]
noncomputable def rInA (K : PySem.W.Frag) (neg : Bool) : R2 := fun x y H Q => (∃ (c : Nat) (z : Str), x = .str ⟨#[c]⟩ ∧ y = .str z ∧ Q (.bl (if neg then !decide (c ∈ z.cps.toList) else decide (c ∈ z.cps.toList))) H) ∨ rIn K neg x y H Q ∨
  ∃ d ds, Dp K H x d ∧ Dp K H y (.list ds) ∧ SeqAt.shaped d = true ∧ SeqAt.shaped (.list ds) = true ∧ Q (.bl (if neg then !(ds.any fun z => PyData.eqv z d) else ds.any fun z => PyData.eqv z d)) H
theorem op_notInA (hu : X.A.units + 65 < cLine) : OpR X (compareOp .NotIn) (rInA X.K true) := op_notIn_sign.or (op_notIn_seq.or (op_notInD hu))
theorem in_ok {neg : Bool} {d1 d2 : D} {v1 v2 : V} {b : Bool} {Q : VK} (hx : Ex G H) (r1 : RB g G H d1 v1) (r2 : RB g G H d2 v2) (e : fInB d1 d2 = some b) (q : Q (.bl (if neg then !b else b)) H) : rInA g.K neg v1 v2 H Q := by
  have flat : ∀ (ds : List D) (p : Addr) (vs : List V), v2 = .ref p → (SqL g.K H p vs ∨ SqT g.K H p vs) → Rps g G ds vs → flatD d1 = true → ds.all flatD = true → (ds.any fun e => eqD e d1) = b → rIn g.K neg v1 v2 H Q := fun ds p vs e1 h1 h2 f1 f2 e2 => by
    have k := (r1.rp hx)
    have h2' := Rps.mono hx _ _ h2
    refine ⟨p, vs, e1, h1, k.flat f1, h2'.flat_all f2, ?_⟩
    rw [h2'.inV f2 k f1, e2]
    exact q
  cases d2 with
  | str y => cases d1 with
    | str x =>
      simp only [fInB] at e
      split at e
      · rename_i c
        cases e
        exact .inl ⟨c, S y, r1.str, r2.str, q⟩
      · cases e
    | _ => cases e
  | lst ds =>
    have e : (if flatD d1 && ds.all flatD then some (ds.any fun e => eqD e d1) else if okD 64 d1 && okD 64 (.lst ds) then some (ds.any fun e => eqD e d1) else none) = some b := by cases d1 <;> exact e
    split at e
    · rename_i f
      rw [Bool.and_eq_true] at f
      obtain ⟨a, vs, e1, h1, h2⟩ := r2.lst hx
      exact .inr (.inl (flat ds a vs e1 (.inl h1) h2 f.1 f.2 (Option.some.inj e)))
    · split at e
      · rename_i f
        rw [Bool.and_eq_true] at f
        refine .inr (.inr ⟨toP d1, toPs ds, Rp.dp _ _ _ f.1 (r1.rp hx), Rp.dp (.lst ds) _ _ f.2 (r2.rp hx), okD_shaped f.1, okD_shaped (d := .lst ds) f.2, ?_⟩)
        rw [any_eqv f.1 ds (m := 63) (by simpa [okD] using f.2), Option.some.inj e]
        exact q
      · cases e
  | tup ds =>
    have e : (if flatD d1 && ds.all flatD then some (ds.any fun e => eqD e d1) else none) = some b := by cases d1 <;> exact e
    split at e
    · rename_i f
      rw [Bool.and_eq_true] at f
      obtain ⟨a, vs, e1, h1, h2⟩ := r2.tup hx
      exact .inr (.inl (flat ds a vs e1 (.inr (h1)) h2 f.1 f.2 (Option.some.inj e)))
    · cases e
  | _ => cases d1 <;> cases e
theorem o2_notIn : Op2 g (rInA g.K true) fNotIn := by
  intro G H d1 d2 v1 v2 v Q hx r1 r2 e q
  obtain ⟨b, e1, e2⟩ := Option.map_eq_some_iff.mp e
  subst e2
  exact in_ok hx r1 r2 e1 (by rw [if_pos rfl]; exact q.bl hx)
noncomputable def cutD {α : Type} (xs : List α) (lo hi : Option Int) : List α := (xs.drop (HT.sIx xs.length 0 lo)).take (HT.sIx xs.length xs.length hi - HT.sIx xs.length 0 lo)
noncomputable def fSl (d : D) (lo hi : Option Int) : Option Val := match d with
  | .lst ds => some (.ow (.lst (cutD ds lo hi)))
  | .str x => if x.length ≤ LINE then some (.im (.str (cutD x lo hi))) else none
  | _ => none
noncomputable def dPart (o : Option Den) (k : Option Int → Env → R Env (Val × Env)) : Env → R Env (Val × Env) := match o with
  | none => fun env => k none env
  | some d => fun env => (d env).bind fun p => match rd p.1 p.2 with
    | some (.int i) => k (some i) p.2
    | _ => .bad
noncomputable def dSl (a : Den) (lo hi : Option Den) : Den := fun env => (a env).bind fun p => dPart lo (fun l e1 => dPart hi (fun h e2 => match rd p.1 e2 with
  | some x => ans (fSl x l h) e2
  | _ => .bad) e1) p.2
noncomputable def rSlA (K : PySem.W.Frag) : V → Option Int → Option Int → Hp → VK → Prop := fun x lo hi H Q => rSlL K x lo hi H Q ∨ rSlS x lo hi H Q
theorem sl_A : SlR X (rSlA X.K) := sl_list.or sl_str
theorem cut_S (x : List Nat) (lo hi : Option Int) : cutS (S x) lo hi = S (cutD x lo hi) := by
  unfold cutS cutD
  rw [S_len]
theorem fSl_ok {d : D} {lo hi : Option Int} {v1 : V} {v : Val} {Q : VK} (hx : Ex G H) (r1 : RB g G H d v1) (e : fSl d lo hi = some v) (q : Pur g G H v Q) : rSlA g.K v1 lo hi H Q := by
  cases d with
  | lst ds =>
    cases e
    obtain ⟨a, vs, e3, h1, h2⟩ := r1.lst hx
    refine .inl ⟨a, vs, e3, h1, fun p hp => q.new hx ⟨_, rfl, ?_⟩ hp⟩
    have hl := h2.length
    show Rps g G (cutD ds lo hi) (cutV vs lo hi)
    unfold cutD cutV
    rw [hl]
    exact (h2.drop _).take _
  | str x =>
    simp only [fSl] at e
    split at e
    · rename_i hl
      cases e
      refine .inr ⟨S x, r1.str, by rw [S_len, line_eq]; exact hl, ?_⟩
      rw [cut_S]
      exact q.str hx
    · cases e
  | _ => cases e
noncomputable def toOf (g : Gm) (W : WX) : Option Den → TO
  | none => tNoPart
  | some d => tPart (teOf g W d)
theorem part_ok {g : Gm} {W : WX} {P0 : Nat → Option Addr} {env : Env} {σ : L2.St} {M0 : Addr → Prop} {G H G0 H0 : Hp} {Q : VK} {o : Option Den} {k : Option Int → Env → R Env (Val × Env)} {R : Option Int → Hp → Prop} (hs : Sim g P0 env σ G H) (t : Tr M0 G0 H0 (OA env σ) G H)
    (h : Fin g W P0 σ M0 G0 H0 Q (dPart o k env)) (hR : ∀ i env1 G1 H1, Sim g P0 env1 σ G1 H1 → Tr (OA env σ) G H (OA env1 σ) G1 H1 → Tr M0 G0 H0 (OA env1 σ) G1 H1 → Fin g W P0 σ M0 G0 H0 Q (k i env1) → R i H1) : toOf g W o σ H R := by
  cases o with
  | none => exact hR none env G H hs Tr.refl t h
  | some d =>
    obtain ⟨P1, env1, G1, hs1, hq1⟩ := fin_bind hs t h
    refine ⟨P1, env1, G1, hs1, ?_⟩
    cases ea : d env1 with
    | bad => rw [ea] at hq1; exact hq1.elim
    | err c e2 => rw [ea] at hq1; exact hq1
    | ok p =>
      rw [ea] at hq1
      intro x G2 H2 s2 t2 v2
      obtain ⟨v, env3, G3, s3, t3, u3, v3, w3, q3⟩ := hq1 x G2 H2 s2 t2 v2
      simp only at q3
      split at q3
      · rename_i i e1
        have r1 := rd_now s3 w3 e1
        exact ⟨i, r1.int, hR (some i) env3 G3 H2 s3 t3 u3 q3⟩
      · exact q3.elim
theorem sl_ok {g : Gm} {W : WX} {σ : L2.St} {H : Hp} {Q : VK} {da : Den} {lo hi : Option Den} (h : teOf g W (dSl da lo hi) σ H Q) : tSl (rSlA g.K) (teOf g W da) (toOf g W lo) (toOf g W hi) σ H Q := by
  obtain ⟨P0, env, G, hs, hq⟩ := h
  obtain ⟨P1, env1, G1, hs1, hq1⟩ := fin_bind hs Tr.refl hq
  refine ⟨P1, env1, G1, hs1, ?_⟩
  cases ea : da env1 with
  | bad => rw [ea] at hq1; exact hq1.elim
  | err c e2 => rw [ea] at hq1; exact hq1
  | ok p =>
    rw [ea] at hq1
    intro x G2 H2 s2 t2 v2
    obtain ⟨v, env3, G3, s3, t3, u3, v3, w3, q3⟩ := hq1 x G2 H2 s2 t2 v2
    refine part_ok s3 u3 q3 fun l env4 G4 H4 s4 t4 u4 q4 => part_ok s4 u4 q4 fun m env5 G5 H5 s5 t5 u5 q5 => ?_
    have w5 := (w3.later t4).later t5
    split at q5
    · rename_i d e1
      have r1 := rd_now s5 w5 e1
      cases e3 : fSl d l m with
      | none => rw [e3] at q5; exact q5.elim
      | some w =>
        rw [e3] at q5
        exact fSl_ok s5.ex r1 e3 (fin_pur s5 u5 q5)
    · exact q5.elim
noncomputable def SO (X : Cx) (o : Option Expr) (d : Option Den) : Prop := ∀ W : WX, Takes X W → PO X o (toOf (gm X) W d)
theorem so_none : SO X none none := fun W _ => po_none
theorem so_some {e : Expr} {d : Den} (h : SE X e d) : SO X (some e) (some d) := fun W tk => po_some (h W tk)
theorem se_sl {e : Expr} {lo hi : Option Expr} {da : Den} {l h : Option Den} {p2 pos : Pos} (he : SE X e da) (hl : SO X lo l) (hh : SO X hi h) : SE X (.Subscript e (.Slice lo hi none p2) pos) (dSl da l h) :=
  fun W tk => pe_imp (pe_slice sl_A (he W tk) (hl W tk) (hh W tk)) fun σ H Q q => sl_ok q
end
end G
set_option Elab.async false
set_option linter.all false
set_option maxRecDepth 100000
set_option maxHeartbeats 4000000
namespace G
open PySem PySem.Spec PyProof.Rows L2 SX Evl
section
variable {g : Gm} {W : WX} {P0 : Nat → Option Addr} {env env' : Env} {σ : L2.St} {M0 : Addr → Prop} {G H G' H' G0 H0 : Hp} {Q : VK}
theorem fin_tail {d : Den} (hs : Sim g P0 env σ G H) (t : Tr M0 G0 H0 (OA env σ) G H) (h : Fin g W P0 σ M0 G0 H0 Q (d env)) : teOf g W d σ H Q := by
  refine ⟨P0, env, G, hs, ?_⟩
  cases e : d env with
  | ok r =>
    obtain ⟨v, env1⟩ := r
    intro x G1 H1 s1 t1 v1
    rw [e] at h
    exact h x G1 H1 s1 (t.trans t1) (v1.since fun a q => t.back q)
  | err c e1 =>
    intro cls G1 H1 hc s1 t1
    rw [e] at h
    exact h cls G1 H1 hc s1 (t.trans t1)
  | bad => rw [e] at h; exact h.elim
theorem te_first {d : Den} {k : Val × Env → R Env (Val × Env)} {R : VK} (h : teOf g W (fun env => (d env).bind k) σ H Q)
    (hR : ∀ P0 env0 G0 v env1 G1 x H1, Sim g P0 env1 σ G1 H1 → Tr (OA env0 σ) G0 H (OA env1 σ) G1 H1 → VR g env1 σ H G1 H1 v x → Fin g W P0 σ (OA env0 σ) G0 H Q (k (v, env1)) → R x H1) : teOf g W d σ H R := by
  obtain ⟨P0, env, G, hs, hq⟩ := h
  obtain ⟨P1, env1, G1, hs1, hq1⟩ := fin_bind hs Tr.refl hq
  refine ⟨P1, env1, G1, hs1, ?_⟩
  cases ea : d env1 with
  | bad => rw [ea] at hq1; exact hq1.elim
  | err c e2 => rw [ea] at hq1; exact hq1
  | ok p =>
    rw [ea] at hq1
    intro x G2 H2 s2 t2 v2
    obtain ⟨v, env3, G3, s3, t3, u3, v3, w3, q3⟩ := hq1 x G2 H2 s2 t2 v2
    exact hR _ _ _ v env3 G3 x H2 s3 u3 w3 q3
theorem te_next {d : Den} {k : Val × Env → R Env (Val × Env)} {R : VK} (hs : Sim g P0 env σ G H) (t : Tr M0 G0 H0 (OA env σ) G H) (h : Fin g W P0 σ M0 G0 H0 Q ((d env).bind k))
    (hR : ∀ v env1 G1 x H1, Sim g P0 env1 σ G1 H1 → Tr (OA env σ) G H (OA env1 σ) G1 H1 → Tr M0 G0 H0 (OA env1 σ) G1 H1 → VR g env1 σ H0 G1 H1 v x → Fin g W P0 σ M0 G0 H0 Q (k (v, env1)) → R x H1) : teOf g W d σ H R := by
  obtain ⟨P1, env1, G1, hs1, hq1⟩ := fin_bind hs t h
  refine ⟨P1, env1, G1, hs1, ?_⟩
  cases ea : d env1 with
  | bad => rw [ea] at hq1; exact hq1.elim
  | err c e2 => rw [ea] at hq1; exact hq1
  | ok p =>
    rw [ea] at hq1
    intro x G2 H2 s2 t2 v2
    obtain ⟨v, env3, G3, s3, t3, u3, v3, w3, q3⟩ := hq1 x G2 H2 s2 t2 v2
    exact hR v env3 G3 x H2 s3 t3 u3 w3 q3
end
noncomputable def tru (v : Val) (env : Env) : Option Bool := match rd v env with
  | some (.bl b) => some b
  | _ => none
noncomputable def dNot (a : Den) : Den := fun env => (a env).bind fun p => match tru p.1 p.2 with
  | some b => .ok (.im (.bl (!b)), p.2)
  | none => .bad
noncomputable def dAnd (a b : Den) : Den := fun env => (a env).bind fun p => match tru p.1 p.2 with
  | some true => b p.2
  | some false => .ok (.im (.bl false), p.2)
  | none => .bad
noncomputable def dOr (a b : Den) : Den := fun env => (a env).bind fun p => match tru p.1 p.2 with
  | some true => .ok (.im (.bl true), p.2)
  | some false => b p.2
  | none => .bad
section
variable {g : Gm} {W : WX} {P0 : Nat → Option Addr} {env env' : Env} {σ : L2.St} {G H H0 : Hp} {Q : VK} {da db dt : Den}
theorem tru_ok {v : Val} {x : V} {b : Bool} (hs : Sim g P0 env σ G H) (hv : VR g env σ H0 G H v x) (h : tru v env = some b) : x = .bl b := by
  unfold tru at h
  split at h
  · rename_i c e
    cases h
    exact (rd_now hs hv e).bl
  · cases h
theorem not_ok (h : teOf g W (dNot da) σ H Q) : teOf g W da σ H fun x H1 => ∃ c, x = .bl c ∧ Q (.bl (!c)) H1 := te_first h fun P0 env0 G0 v env1 G1 x H1 s t w q => by
  simp only at q
  split at q
  · rename_i b e
    exact ⟨b, tru_ok s w e, q (.bl (!b)) G1 H1 s t rfl⟩
  · exact q.elim
theorem and_ok (h : teOf g W (dAnd da db) σ H Q) : teOf g W da σ H fun x H1 => ∃ c, x = .bl c ∧ if c = true then teOf g W db σ H1 Q else Q (.bl false) H1 := te_first h fun P0 env0 G0 v env1 G1 x H1 s t w q => by
  simp only at q
  split at q
  · rename_i e
    refine ⟨true, tru_ok s w e, ?_⟩
    rw [if_pos rfl]
    exact fin_tail s t q
  · rename_i e
    refine ⟨false, tru_ok s w e, ?_⟩
    rw [if_neg Bool.false_ne_true]
    exact q (.bl false) G1 H1 s t rfl
  · exact q.elim
theorem or_ok (h : teOf g W (dOr da db) σ H Q) : teOf g W da σ H fun x H1 => ∃ c, x = .bl c ∧ if c = true then Q (.bl true) H1 else teOf g W db σ H1 Q := te_first h fun P0 env0 G0 v env1 G1 x H1 s t w q => by
  simp only at q
  split at q
  · rename_i e
    refine ⟨true, tru_ok s w e, ?_⟩
    rw [if_pos rfl]
    exact q (.bl true) G1 H1 s t rfl
  · rename_i e
    refine ⟨false, tru_ok s w e, ?_⟩
    rw [if_neg Bool.false_ne_true]
    exact fin_tail s t q
  · exact q.elim
end
noncomputable def ST (X : Cx) (e : Expr) (d : Den) : Prop := ∀ W : WX, Takes X W → PT X e (tB (teOf (gm X) W d))
noncomputable def SW (X : Cx) (e : Expr) (d : Den) : Prop := ∀ W : WX, Takes X W → PW X e (tB (teOf (gm X) W d))
theorem pw_imp {X : Cx} {e : Expr} {t t' : TT} (h : PW X e t) (i : ∀ σ H Q, t' σ H Q → t σ H Q) : PW X e t' := ⟨fun wh pins s σ H Q I q => h.run wh pins s σ H Q I (i σ H Q q)⟩
theorem te_mono {g : Gm} {W : WX} {d : Den} {σ : L2.St} {H : Hp} {Q Q' : VK} (h : teOf g W d σ H Q) (i : ∀ x H', Q x H' → Q' x H') : teOf g W d σ H Q' := by
  obtain ⟨P0, env, G, hs, hq⟩ := h
  refine ⟨P0, env, G, hs, ?_⟩
  cases e : d env with
  | ok r =>
    rw [e] at hq
    exact fun x G1 H1 s1 t1 v1 => i _ _ (hq x G1 H1 s1 t1 v1)
  | err c e1 => rw [e] at hq; exact hq
  | bad => rw [e] at hq; exact hq
section
variable {X : Cx} {a b c e : Expr} {da db dc d : Den} {pos : Pos} {r : R2} {f : D → D → Option Val} {rest : List Expr}
theorem st_cmp {op : CmpOp} (ho : OpR X (compareOp op) r) (hf : Op2 (gm X) r f) (ha : SE X a da) (hb : SE X b db) (hm : behindInMarks op b = false) : ST X (.Compare a [op] [b] pos) (dBin f da db) :=
  fun W tk => pt_imp (pt_cmpR ho (ha W tk) (hb W tk) hm) fun σ H Q h => bin_ok hf h
theorem st_val (h : SE X e d) (he : ∀ whole, isTrue e X.env whole = (do let v ← whole; standAt e.pos; holding [v] (truthy v)) := by intro _; rfl) : ST X e d := fun W tk => pt_val (h W tk) he
theorem st_not (h : ST X a da) : ST X (.UnaryOp .Not a pos) (dNot da) := fun W tk => pt_imp (pt_not (h W tk)) fun σ H Q q =>
  te_mono (not_ok q) fun x H' ⟨c, e, k, e2, q2⟩ => ⟨c, e, by cases e2; exact q2⟩
theorem sw_and1 (h : ST X a da) : SW X (.BoolOp .And [a] pos) da := fun W tk => pw_and1 (h W tk)
theorem sw_or1 (h : ST X a da) : SW X (.BoolOp .Or [a] pos) da := fun W tk => pw_or1 (h W tk)
theorem sw_and (ha : ST X a da) (hb : SW X (.BoolOp .And (b :: rest) pos) db) : SW X (.BoolOp .And (a :: b :: rest) pos) (dAnd da db) := fun W tk => pw_imp (pw_and (ha W tk) (hb W tk)) fun σ H Q q =>
  te_mono (and_ok q) fun x H' ⟨c, e, q2⟩ => ⟨c, e, by
    cases c with
    | true => rw [if_pos rfl] at q2 ⊢; exact q2
    | false =>
      rw [if_neg Bool.false_ne_true] at q2 ⊢
      obtain ⟨k, e2, q3⟩ := q2
      cases e2
      exact q3⟩
theorem sw_or (ha : ST X a da) (hb : SW X (.BoolOp .Or (b :: rest) pos) db) : SW X (.BoolOp .Or (a :: b :: rest) pos) (dOr da db) := fun W tk => pw_imp (pw_or (ha W tk) (hb W tk)) fun σ H Q q =>
  te_mono (or_ok q) fun x H' ⟨c, e, q2⟩ => ⟨c, e, by
    cases c with
    | false => rw [if_neg Bool.false_ne_true] at q2 ⊢; exact q2
    | true =>
      rw [if_pos rfl] at q2 ⊢
      obtain ⟨k, e2, q3⟩ := q2
      cases e2
      exact q3⟩
theorem st_w (h : SW X e d) : ST X e d := fun W tk => (h W tk).pt
theorem se_not (h : SE X a da) : SE X (.UnaryOp .Not a pos) (dNot da) := fun W tk => pe_imp (pe_not (h W tk)) fun σ H Q q => not_ok q
theorem se_one {op} (h : SE X a da) : SE X (.BoolOp op [a] pos) da := fun W tk => pe_one (h W tk)
theorem se_and (ha : SE X a da) (hb : SE X (.BoolOp .And (b :: rest) pos) db) : SE X (.BoolOp .And (a :: b :: rest) pos) (dAnd da db) := fun W tk => pe_imp (pe_and (ha W tk) (hb W tk)) fun σ H Q q => and_ok q
end
noncomputable def dChain (f f' : D → D → Option Val) (a b c : Den) : Den := fun env => (a env).bind fun p => (b p.2).bind fun q => match rd p.1 q.2, rd q.1 q.2 with
  | some x, some y => match f x y with
    | some (.im (.bl true)) => (c q.2).bind fun r => match rd q.1 r.2, rd r.1 r.2 with
      | some y', some z => ans (f' y' z) r.2
      | _, _ => .bad
    | some (.im (.bl false)) => .ok (.im (.bl false), q.2)
    | _ => .bad
  | _, _ => .bad
theorem chain_ok {g : Gm} {W : WX} {σ : L2.St} {H : Hp} {Q : VK} {da db dc : Den} {r r' : R2} {f f' : D → D → Option Val} (hf : Op2 g r f) (hf' : Op2 g r' f') (h : teOf g W (dChain f f' da db dc) σ H Q) :
    tChain r r' (teOf g W da) (teOf g W db) (teOf g W dc) σ H Q := by
  refine te_first h fun P0 env0 G0 v env1 G1 x H1 s t w q => ?_
  refine te_next s t q fun v2 env2 G2 y H2 s2 t2 u2 w2 q2 => ?_
  have w' := w.later t2
  simp only at q2
  split at q2
  · rename_i d1 d2 e1 e2
    have r1 := rd_now s2 w' e1
    have r2 := rd_now s2 w2 e2
    split at q2
    · rename_i e3
      refine hf G2 H2 d1 d2 x y _ _ s2.ex r1 r2 e3 fun z G3 H3 gr vn => ?_
      rw [show z = V.bl true from vn]
      refine ⟨true, rfl, ?_⟩
      have s3 := s2.grow gr.ex gr.exH gr.sub gr.new
      have tg : Tr (OA env2 σ) G2 H2 (OA env2 σ) G3 H3 := Tr.grow s2.at gr.ex gr.exH gr.new
      have w3 := w2.later tg
      have go : teOf g W dc σ H3 fun z H4 => r' y z H4 Q := te_next s3 (u2.trans tg) q2 fun v4 env4 G4 z H4 s4 t4 u4 w4 q4 => by
        have w3' := w3.later t4
        split at q4
        · rename_i d3 d4 e4 e5
          have r3 := rd_now s4 w3' e4
          have r4 := rd_now s4 w4 e5
          cases e6 : f' d3 d4 with
          | none => rw [e6] at q4; exact q4.elim
          | some w =>
            rw [e6] at q4
            exact hf' G4 H4 d3 d4 y z w Q s4.ex r3 r4 e6 (fin_pur s4 u4 q4)
        · exact q4.elim
      exact go
    · rename_i e3
      refine hf G2 H2 d1 d2 x y _ _ s2.ex r1 r2 e3 fun z G3 H3 gr vn => ?_
      rw [show z = V.bl false from vn]
      refine ⟨false, rfl, ?_⟩
      have s3 := s2.grow gr.ex gr.exH gr.sub gr.new
      have tg : Tr (OA env2 σ) G2 H2 (OA env2 σ) G3 H3 := Tr.grow s2.at gr.ex gr.exH gr.new
      exact q2 (.bl false) G3 H3 s3 (u2.trans tg) rfl
    · exact q2.elim
  · exact q2.elim
section
variable {X : Cx} {a b c : Expr} {da db dc : Den} {pos : Pos} {r r' : R2} {f f' : D → D → Option Val} {op op' : CmpOp}
theorem se_chain (ho : OpR X (compareOp op) r) (ho' : OpR X (compareOp op') r') (hf : Op2 (gm X) r f) (hf' : Op2 (gm X) r' f') (ha : SE X a da) (hb : SE X b db) (hc : SE X c dc) (hm : lastMarks [op, op'] [b, c] = false := by with_unfolding_all rfl) :
    SE X (.Compare a [op, op'] [b, c] pos) (dChain f f' da db dc) := fun W tk => pe_imp (pe_chain ho ho' (ha W tk) (hb W tk) (hc W tk) hm) fun σ H Q q => chain_ok hf hf' q
theorem st_chain (ho : OpR X (compareOp op) r) (ho' : OpR X (compareOp op') r') (hf : Op2 (gm X) r f) (hf' : Op2 (gm X) r' f') (ha : SE X a da) (hb : SE X b db) (hc : SE X c dc) (hm : lastMarks [op, op'] [b, c] = false := by with_unfolding_all rfl) :
    ST X (.Compare a [op, op'] [b, c] pos) (dChain f f' da db dc) := fun W tk => pt_imp (pt_chain ho ho' (ha W tk) (hb W tk) (hc W tk) hm) fun σ H Q q => chain_ok hf hf' q
end
end G
set_option Elab.async false
set_option linter.all false
set_option maxRecDepth 100000
set_option maxHeartbeats 4000000
namespace G
open PySem PySem.Spec PyProof.Rows L2 SX Evl
noncomputable def Cl1 (g : Gm) (r : List V → Hp → VK → Prop) (f : D → Option Val) : Prop :=
  ∀ G H d1 v1 v Q, Ex G H → RB g G H d1 v1 → f d1 = some v → Pur g G H v Q → r [v1] H Q
noncomputable def Cl2 (g : Gm) (r : List V → Hp → VK → Prop) (f : D → D → Option Val) : Prop :=
  ∀ G H d1 d2 v1 v2 v Q, Ex G H → RB g G H d1 v1 → RB g G H d2 v2 → f d1 d2 = some v → Pur g G H v Q → r [v1, v2] H Q
section
variable {X : Cx} {a b e : Expr} {da db d : Den} {p pos : Pos} {x : Str} {id T : String} {r : List V → Hp → VK → Prop}
theorem cb1_ok {g : Gm} {W : WX} {σ : L2.St} {H : Hp} {Q : VK} {f : D → Option Val} (hf : Cl1 g r f) (h : teOf g W (dUn f da) σ H Q) : tCB r (tCons (teOf g W da) tNil) σ H Q :=
  un_ok (r := fun v H Q => r [v] H Q) hf h
theorem cb2_ok {g : Gm} {W : WX} {σ : L2.St} {H : Hp} {Q : VK} {f : D → D → Option Val} (hf : Cl2 g r f) (h : teOf g W (dBin f da db) σ H Q) : tCB r (tCons (teOf g W da) (tCons (teOf g W db) tNil)) σ H Q :=
  bin_ok (r := fun v w H Q => r [v, w] H Q) hf h
theorem se_callB1 {f : D → Option Val} (hc : CallR X (.builtin id) r) (hf : Cl1 (gm X) r f) (hg : Gl X x) (hm : X.mg x = none) (hv : bootBuiltins x = some (.builtin id)) (ha : SE X a da) (hn : x ≠ "__name__" := by decide) (hdb : (x == ("__debug__" : Str)) = false := by decide)
    (hs : starEach [a] X.env = (false, eval a X.env) :: starEach [] X.env := by rfl) : SE X (.Call (.Name x p) [a] [] pos) (dUn f da) :=
  fun W tk => pe_imp (pe_callB hc hg hm hv (pa_cons (ha W tk) pa_nil hs) hn hdb hs) fun σ H Q q => cb1_ok hf q
theorem se_callB2 {f : D → D → Option Val} (hc : CallR X (.builtin id) r) (hf : Cl2 (gm X) r f) (hg : Gl X x) (hm : X.mg x = none) (hv : bootBuiltins x = some (.builtin id)) (ha : SE X a da) (hb : SE X b db) (hn : x ≠ "__name__" := by decide) (hdb : (x == ("__debug__" : Str)) = false := by decide)
    (hs : starEach [a, b] X.env = (false, eval a X.env) :: starEach [b] X.env := by rfl) (hs2 : starEach [b] X.env = (false, eval b X.env) :: starEach [] X.env := by rfl) (hpl : (backTo pos (starEach [b] X.env)).any (·.1) = false := by rfl) : SE X (.Call (.Name x p) [a, b] [] pos) (dBin f da db) :=
  fun W tk => pe_imp (pe_callB hc hg hm hv (pa_cons (ha W tk) (pa_cons (hb W tk) pa_nil hs2) hs) hn hdb hs hpl) fun σ H Q q => cb2_ok hf q
end
section
variable {g : Gm} {X : Cx}
noncomputable def fLen : D → Option Val
  | .str x => if x.length ≤ LINE then some (.im (.int x.length)) else none
  | .lst ds => some (.im (.int ds.length))
  | .tup ds => some (.im (.int ds.length))
  | _ => none
theorem c1_len : Cl1 g (fun xs H Q => ∃ x n, xs = [x] ∧ LenV g.K x H n ∧ Q (.int n) H) fLen := by
  intro G H d1 v1 v Q hx r1 e q
  cases d1 with
  | str x =>
    simp only [fLen] at e
    split at e
    · rename_i hl
      cases e
      refine ⟨v1, x.length, rfl, ?_, q.int hx⟩
      rw [r1.str]
      exact ⟨by rw [S_len, line_eq]; exact hl, (S_len x).symm⟩
    · cases e
  | lst ds =>
    cases e
    obtain ⟨a, vs, e1, h1, h2⟩ := r1.lst hx
    refine ⟨v1, ds.length, rfl, ?_, q.int hx⟩
    rw [e1]
    exact .inl ⟨vs, h1, h2.length.symm⟩
  | tup ds =>
    cases e
    obtain ⟨a, vs, e1, h1, h2⟩ := r1.tup hx
    refine ⟨v1, ds.length, rfl, ?_, q.int hx⟩
    rw [e1]
    exact .inr ⟨vs, h1, h2.length.symm⟩
  | _ => cases e
noncomputable def fMax2 : D → D → Option Val
  | .int i, .int j => some (.im (.int (max i j)))
  | _, _ => none
noncomputable def fMin2 : D → D → Option Val
  | .int i, .int j => some (.im (.int (min i j)))
  | _, _ => none
theorem c2_max : Cl2 g (fun xs H Q => ∃ i j, xs = [.int i, .int j] ∧ Q (.int (if j > i then j else i)) H) fMax2 := by
  intro G H d1 d2 v1 v2 v Q hx r1 r2 e q
  cases d1 with
  | int i => cases d2 with
    | int j =>
      cases e
      refine ⟨i, j, by rw [r1.int, r2.int], ?_⟩
      have : (if j > i then j else i) = max i j := by split <;> omega
      rw [this]
      exact q.int hx
    | _ => cases e
  | _ => cases e
theorem c2_min : Cl2 g (fun xs H Q => ∃ i j, xs = [.int i, .int j] ∧ Q (.int (if j < i then j else i)) H) fMin2 := by
  intro G H d1 d2 v1 v2 v Q hx r1 r2 e q
  cases d1 with
  | int i => cases d2 with
    | int j =>
      cases e
      refine ⟨i, j, by rw [r1.int, r2.int], ?_⟩
      have : (if j < i then j else i) = min i j := by split <;> omega
      rw [this]
      exact q.int hx
    | _ => cases e
  | _ => cases e
noncomputable def tyN : D → Option String
  | .non => some "NoneType"
  | .bl _ => some "bool"
  | .int _ => some "int"
  | .str _ => some "str"
  | .lst _ => some "list"
  | .tup _ => some "tuple"
  | .dk _ _ => some "dict"
  | .dt _ _ => some "dict"
  | .exc _ => none
  | .ob _ _ => none
noncomputable def fIsi (T : String) (d : D) : Option Val := match tyN d with
  | some t => some (.im (.bl (t == T || (t == "bool" && T == "int"))))
  | none => none
noncomputable def TyOk (T : String) : Prop := ∀ t ∈ ["NoneType", "bool", "int", "str", "list", "tuple", "dict"], kitB t T = some (t == T || (t == "bool" && T == "int"))
theorem tyOk_int : TyOk "int" := by unfold TyOk; decide +kernel
theorem tyOk_bool : TyOk "bool" := by unfold TyOk; decide +kernel
theorem tyOk_str : TyOk "str" := by unfold TyOk; decide +kernel
theorem tyOk_list : TyOk "list" := by unfold TyOk; decide +kernel
theorem tyOk_tuple : TyOk "tuple" := by unfold TyOk; decide +kernel
theorem Rp.ty {G : Hp} {d : D} {v : V} {t : String} (h : Rp g G d v) (e : tyN d = some t) : (∃ ks ds, d = .dt ks ds) ∨ TyX g.K G v (.type t) := by
  cases d with
  | non => rw [show v = V.non from h]; cases e; exact .inr (.base .non)
  | bl b => rw [show v = V.bl b from h]; cases e; exact .inr (.base (.bl b))
  | int i => rw [show v = V.int i from h]; cases e; exact .inr (.base (.int i))
  | str x => rw [show v = V.str _ from h]; cases e; exact .inr (.base (.str _))
  | lst ds =>
    obtain ⟨a, vs, e1, h1, _⟩ := h
    rw [e1]
    cases e
    rcases h1 with (h1 | ⟨o, h1⟩) | ⟨o, its, n, hk, hc, _⟩
    · exact .inr (.base (.lst h1))
    · exact .inr (.base (.frz h1))
    · exact .inr (.kList hk hc)
  | tup ds =>
    obtain ⟨a, vs, e1, h1, _⟩ := h
    rw [e1]
    cases e
    exact .inr (.base (.tup h1))
  | dk ks ds =>
    obtain ⟨a, vs, e1, h1, _⟩ := h
    rw [e1]
    cases e
    rcases h1 with h1 | ⟨o, h1⟩
    · exact .inr (.base (.dK h1))
    · exact .inr (.fDict h1)
  | dt ks ds => exact .inl ⟨ks, ds, rfl⟩
  | exc _ => cases e
  | ob _ _ => cases e
theorem tyN_mem {d : D} {t : String} (e : tyN d = some t) : t ∈ ["NoneType", "bool", "int", "str", "list", "tuple", "dict"] := by
  cases d <;> cases e <;> decide
noncomputable def fIsi' (T : String) (d : D) : Option Val := match d with
  | .dt _ _ => none
  | _ => fIsi T d
theorem isi_ok {T : String} (hT : TyOk T) {G H : Hp} {d : D} {v1 : V} {v : Val} {Q : VK} (hx : Ex G H) (r1 : RB g G H d v1) (e : fIsi' T d = some v) (q : Pur g G H v Q) : rIsi g.K [v1, .ty T] H Q := by
  have hd : ∀ ks ds, d ≠ .dt ks ds := fun ks ds z => by subst z; cases e
  have e : fIsi T d = some v := by cases d <;> first | exact e | exact absurd rfl (hd _ _)
  unfold fIsi at e
  split at e
  · rename_i t et
    cases e
    rcases Rp.ty (r1.rp hx) et with ⟨ks, ds, z⟩ | ty
    · exact absurd z (hd ks ds)
    · exact ⟨v1, .ty T, .type t, .type T, _, rfl, .ty T, ty, kit_ty (hT t (tyN_mem et)), q.bl hx⟩
  · cases e
end
section
variable {X : Cx} {a e : Expr} {da d : Den} {p p2 pos : Pos} {x : Str} {T : String}
theorem se_isi (hT : TyOk T) (hg : Gl X "isinstance") (hm : X.mg "isinstance" = none) (hg2 : Gl X x) (hm2 : X.mg x = none) (hv2 : bootBuiltins x = some (.type T)) (ha : SE X a da) (hn : x ≠ "__name__" := by decide) (hdb : (x == ("__debug__" : Str)) = false := by decide)
    (hs : starEach [a, .Name x p2] X.env = (false, eval a X.env) :: starEach [.Name x p2] X.env := by rfl) : SE X (.Call (.Name "isinstance" p) [a, .Name x p2] [] pos) (dUn (fIsi' T) da) :=
  fun W tk => pe_imp (pe_callB call_isi hg hm (by decide +kernel) (pa_cons (ha W tk) (pa_cons (pe_bltn (v := .ty T) hg2 hm2 hv2 rfl hn hdb) pa_nil) hs) (by decide) (by decide) hs) fun σ H Q q =>
    un_ok (r := fun v H Q => rIsi X.K [v, .ty T] H Q) (fun G H d1 v1 v Q hx r1 e q => isi_ok (g := gm X) hT hx r1 e q) q
end
noncomputable def isLoc (b : Bool) (v : Val) : Option Nat := match b, v with
  | true, .loc i => some i
  | _, _ => none
noncomputable def dArgs : List (Bool × Den) → Env → R Env (List Val × Env)
  | [], env => .ok ([], env)
  | (b, d) :: r, env => (d env).bind fun p => match isLoc b p.1 with
    | some i => (dArgs r p.2).bind fun q => .ok (.loc i :: q.1, q.2)
    | none => match fz p.1 p.2 with
      | some (x, e1) => (dArgs r e1).bind fun q => .ok (.im x :: q.1, q.2)
      | none => .bad
noncomputable def VRs (g : Gm) (σ : L2.St) (G : Hp) : List Val → List V → Prop := Paired fun v x => match v with
  | .im d => Rp g G d x
  | .loc i => σ[i]? = some (some x)
  | .ow _ => False
theorem VRs.mono {g : Gm} {σ : L2.St} {G G' : Hp} (e : Ex G G') {vs : List Val} {xs : List V} (h : VRs g σ G vs xs) : VRs g σ G' vs xs := by
  unfold VRs at h ⊢
  refine Paired.mapP h fun v x q => ?_
  cases v with
  | im d => exact Rp.mono e _ _ q
  | loc i => exact q
  | ow d => exact q
noncomputable def FinA (g : Gm) (W : WX) (P0 : Nat → Option Addr) (σ : L2.St) (M0 : Addr → Prop) (G0 H0 : Hp) (Q : List V → Hp → Prop) : R Env (List Val × Env) → Prop
  | .ok (vs, env') => ∀ xs G' H', Sim g P0 env' σ G' H' → Tr M0 G0 H0 (OA env' σ) G' H' → VRs g σ G' vs xs → Q xs H'
  | .err c env' => ∀ cls G' H', g.mg (excName c) = some cls → Sim g P0 env' σ G' H' → Tr M0 G0 H0 (OA env' σ) G' H' → W cls none σ H'
  | .bad => False
noncomputable def taOf (g : Gm) (W : WX) (ds : List (Bool × Den)) : TA := fun σ H Q => ∃ P0 env G, Sim g P0 env σ G H ∧ FinA g W P0 σ (OA env σ) G H Q (dArgs ds env)
noncomputable def SA (X : Cx) (es : List Expr) (ds : List (Bool × Den)) : Prop := ∀ W : WX, Takes X W → PA X es (taOf (gm X) W ds)
theorem sa_nil {X : Cx} : SA X [] [] := fun W _ => pa_imp pa_nil fun σ H Q ⟨P0, env, G, hs, hq⟩ => hq [] G H hs Tr.refl .nil
theorem sa_cons {X : Cx} {e : Expr} {es : List Expr} {b : Bool} {d : Den} {ds : List (Bool × Den)} (h : SE X e d) (t : SA X es ds) (hs : starEach (e :: es) X.env = (false, eval e X.env) :: starEach es X.env := by rfl) : SA X (e :: es) ((b, d) :: ds) := by
  refine fun W tk => pa_imp (pa_cons (h W tk) (t W tk) hs) fun σ H Q q => ?_
  obtain ⟨P0, env, G, s, hq⟩ := q
  refine ⟨P0, env, G, s, ?_⟩
  simp only [dArgs] at hq
  cases ea : d env with
  | bad => rw [ea] at hq; exact hq.elim
  | err c e2 => rw [ea] at hq; exact hq
  | ok p =>
    obtain ⟨v, env1⟩ := p
    rw [ea] at hq
    intro x G1 H1 s1 t1 v1
    simp only [R.bind] at hq
    have go : ∀ env2 G2 w, Sim (gm X) P0 env2 σ G2 H1 → Tr (OA env σ) G H (OA env2 σ) G2 H1 → (∀ G3, Ex G2 G3 → VRs (gm X) σ G3 [w] [x]) → FinA (gm X) W P0 σ (OA env σ) G H Q ((dArgs ds env2).bind fun q => .ok (w :: q.1, q.2)) → taOf (gm X) W ds σ H1 fun xs H2 => Q (x :: xs) H2 := fun env2 G2 w s2 t2 w2 q2 => by
      refine ⟨P0, env2, G2, s2, ?_⟩
      cases eb : dArgs ds env2 with
      | bad => rw [eb] at q2; exact q2.elim
      | err c e2 =>
        rw [eb] at q2
        exact fun cls G3 H3 hc s3 t3 => q2 cls G3 H3 hc s3 (t2.trans t3)
      | ok r =>
        rw [eb] at q2
        intro xs G3 H3 s3 t3 v3
        refine q2 (x :: xs) G3 H3 s3 (t2.trans t3) ?_
        have z := w2 G3 t3.ex
        cases z with
        | cons z1 _ => exact .cons z1 v3
    cases el : isLoc b v with
    | some i =>
      simp only [el] at hq
      have ev : v = .loc i := by
        unfold isLoc at el
        split at el
        · cases el; rfl
        · cases el
      subst ev
      exact go env1 G1 (.loc i) s1 t1 (fun _ _ => .cons v1 .nil) hq
    | none =>
      simp only [el] at hq
      split at hq
      · rename_i dd e1 ef
        obtain ⟨G2, s2, t2, r2⟩ := fz_now s1 t1 v1 ef
        exact go e1 G2 (.im dd) s2 t2 (fun G3 e3 => .cons (Rp.mono e3 _ _ r2) .nil) hq
      · exact hq.elim
noncomputable def imD : List Val → Option (List D)
  | [] => some []
  | .im d :: r => (imD r).map (d :: ·)
  | _ :: _ => none
theorem imD_rps {g : Gm} {σ : L2.St} {G : Hp} : ∀ {vs : List Val} {xs : List V} {ds : List D}, VRs g σ G vs xs → imD vs = some ds → Rps g G ds xs
  | [], _, _, .nil, e => by cases e; exact Rps.nil
  | .im d :: r, _, ds, .cons h t, e => by
    obtain ⟨es, e1, e2⟩ := Option.map_eq_some_iff.mp (show (imD r).map (d :: ·) = some ds from e)
    subst e2
    exact Rps.cons h (imD_rps t e1)
  | .ow d :: r, _, ds, .cons h t, e => by cases e
  | .loc d :: r, _, ds, .cons h t, e => by cases e
noncomputable def dLst (as : List Den) : Den := fun env => (dArgs (as.map fun d => (false, d)) env).bind fun p => match imD p.1 with
  | some ds => if ds.length ≤ LINE then .ok (.ow (.lst ds), p.2) else .bad
  | none => .bad
noncomputable def dTup (as : List Den) : Den := fun env => (dArgs (as.map fun d => (false, d)) env).bind fun p => match imD p.1 with
  | some ds => if ds.length ≤ LINE then .ok (.im (.tup ds), p.2) else .bad
  | none => .bad
theorem args_go {g : Gm} {W : WX} {ds : List (Bool × Den)} {k : List Val × Env → R Env (Val × Env)} {σ : L2.St} {H : Hp} {Q : VK} {R : List V → Hp → Prop} (h : teOf g W (fun env => (dArgs ds env).bind k) σ H Q)
    (hR : ∀ P0 env0 G0 vs env1 G1 xs H1, Sim g P0 env1 σ G1 H1 → Tr (OA env0 σ) G0 H (OA env1 σ) G1 H1 → VRs g σ G1 vs xs → Fin g W P0 σ (OA env0 σ) G0 H Q (k (vs, env1)) → R xs H1) : taOf g W ds σ H R := by
  obtain ⟨P0, env, G, hs, hq⟩ := h
  refine ⟨P0, env, G, hs, ?_⟩
  simp only at hq
  cases e : dArgs ds env with
  | bad => rw [e] at hq; exact hq.elim
  | err c e2 => rw [e] at hq; exact hq
  | ok r =>
    rw [e] at hq
    exact fun xs G1 H1 s1 t1 v1 => hR P0 env G r.1 r.2 G1 xs H1 s1 t1 v1 hq
section
variable {X : Cx} {es : List Expr} {as : List Den} {pos : Pos}
theorem se_lst (h : SA X es (as.map fun d => (false, d))) : SE X (.List es pos) (dLst as) := fun W tk => pe_imp (pe_lst (h W tk)) fun σ H Q q => args_go q fun P0 env0 G0 vs env1 G1 xs H1 s t w q => by
  simp only at q
  split at q
  · rename_i ds e
    have r := imD_rps w e
    split at q
    · rename_i hl
      exact ⟨by rw [r.length, line_eq]; exact hl, fun p hp => (fin_pur s t q).new s.ex ⟨xs, rfl, r⟩ hp⟩
    · exact q.elim
  · exact q.elim
theorem se_tup {k : Nat} (h : SA X es (as.map fun d => (false, d))) : SE X (.Tuple es k pos) (dTup as) := fun W tk => pe_imp (pe_tup (h W tk)) fun σ H Q q => args_go q fun P0 env0 G0 vs env1 G1 xs H1 s t w q => by
  simp only at q
  split at q
  · rename_i ds e
    have r := imD_rps w e
    split at q
    · rename_i hl
      exact ⟨by rw [r.length, line_eq]; exact hl, fun p hp => (fin_pur s t q).tup s.ex r hp⟩
    · exact q.elim
  · exact q.elim
end
end G
set_option Elab.async false
set_option linter.all false
set_option maxRecDepth 100000
set_option maxHeartbeats 4000000
namespace G
open PySem PySem.Spec PyProof.Rows L2 SX Evl
inductive Fl where
  | nx | bk | ct | rt (v : Val)
noncomputable abbrev SDen := Env → R Env (Fl × Env)
noncomputable def FinS (g : Gm) (W : WX) (P0 : Nat → Option Addr) (M0 : Addr → Prop) (G0 H0 : Hp) (D : Ends) : R Env (Fl × Env) → Prop
  | .ok (f, env') => ∀ σ' G' H', Sim g P0 env' σ' G' H' → Tr M0 G0 H0 (OA env' σ') G' H' → match f with
    | .nx => D.nx σ' H'
    | .bk => D.bk σ' H'
    | .ct => D.ct σ' H'
    | .rt v => ∀ x, VR g env' σ' H0 G' H' v x → D.rt x H'
  | .err c env' => ∀ cls σ' G' H', g.mg (excName c) = some cls → Sim g P0 env' σ' G' H' → Tr M0 G0 H0 (OA env' σ') G' H' → W cls none σ' H'
  | .bad => False
noncomputable def tsOf (g : Gm) (W : WX) (d : SDen) : TS := fun D σ H => ∃ P0 env G, Sim g P0 env σ G H ∧ FinS g W P0 (OA env σ) G H D (d env)
noncomputable def SS (X : Cx) (st : Stmt) (d : SDen) : Prop := ∀ W : WX, Takes X W → PS X st (tsOf (gm X) W d)
noncomputable def SSs (X : Cx) (st : List Stmt) (d : SDen) : Prop := ∀ W : WX, Takes X W → PSs X st (tsOf (gm X) W d)
section
variable {g : Gm} {W : WX} {P0 : Nat → Option Addr} {env env' : Env} {σ : L2.St} {M0 : Addr → Prop} {G H G' H' G0 H0 : Hp} {D : Ends}
theorem fins_from {r : R Env (Fl × Env)} (t : Tr M0 G0 H0 (OA env σ) G H) (h : FinS g W P0 M0 G0 H0 D r) : FinS g W P0 (OA env σ) G H D r := by
  cases r with
  | ok p =>
    obtain ⟨f, e⟩ := p
    intro σ' G' H' s t'
    have q := h σ' G' H' s (t.trans t')
    cases f with
    | nx => exact q
    | bk => exact q
    | ct => exact q
    | rt v => exact fun x z => q x (z.since fun a e => t.dom a e)
  | err c e => exact fun cls σ' G' H' hc s t' => h cls σ' G' H' hc s (t.trans t')
  | bad => exact h
theorem ts_here {d : SDen} (hs : Sim g P0 env σ G H) (t : Tr M0 G0 H0 (OA env σ) G H) (h : FinS g W P0 M0 G0 H0 D (d env)) : tsOf g W d D σ H := ⟨P0, env, G, hs, fins_from t h⟩
theorem te_stmt {d : Den} {k : Val × Env → R Env (Fl × Env)} {R : VK} (hs : Sim g P0 env σ G H) (t : Tr M0 G0 H0 (OA env σ) G H) (h : FinS g W P0 M0 G0 H0 D ((d env).bind k))
    (hR : ∀ v env1 G1 x H1, Sim g P0 env1 σ G1 H1 → Tr (OA env σ) G H (OA env1 σ) G1 H1 → Tr M0 G0 H0 (OA env1 σ) G1 H1 → VR g env1 σ H0 G1 H1 v x → FinS g W P0 M0 G0 H0 D (k (v, env1)) → R x H1) : teOf g W d σ H R := by
  refine ⟨P0, env, G, hs, ?_⟩
  cases e : d env with
  | ok p =>
    obtain ⟨v, env1⟩ := p
    rw [e] at h
    exact fun x G1 H1 s1 t1 v1 => hR v env1 G1 x H1 s1 t1 (t.trans t1) (v1.since fun a q => t.dom a q) h
  | err c e1 =>
    rw [e] at h
    exact fun cls G1 H1 hc s1 t1 => h cls σ G1 H1 hc s1 (t.trans t1)
  | bad => rw [e] at h; exact h.elim
end
noncomputable def sNil : SDen := fun env => .ok (.nx, env)
noncomputable def sSeq (a b : SDen) : SDen := fun env => match a env with
  | .ok (.nx, e1) => b e1
  | r => r
section
variable {X : Cx} {st : Stmt} {rest : List Stmt} {a b : SDen} {pos : Pos} {e : Expr} {d : Den}
theorem ss_nil : SSs X [] sNil := fun W tk => pss_imp pss_nil fun D σ H ⟨P0, env, G, s, q⟩ => q σ G H s Tr.refl
theorem seq_ok {g : Gm} {W : WX} {D : Ends} {σ : L2.St} {H : Hp} (h : tsOf g W (sSeq a b) D σ H) : tSeq (tsOf g W a) (tsOf g W b) D σ H := by
  obtain ⟨P0, env, G, s, q⟩ := h
  refine ⟨P0, env, G, s, ?_⟩
  unfold sSeq at q
  cases e : a env with
  | ok p =>
    obtain ⟨f, env1⟩ := p
    rw [e] at q
    intro σ1 G1 H1 s1 t1
    cases f with
    | nx => exact ts_here s1 t1 q
    | bk => exact q σ1 G1 H1 s1 t1
    | ct => exact q σ1 G1 H1 s1 t1
    | rt v => exact q σ1 G1 H1 s1 t1
  | err c e1 => rw [e] at q; exact q
  | bad => rw [e] at q; exact q
theorem ss_cons (h : SS X st a) (t : SSs X rest b) : SSs X (st :: rest) (sSeq a b) := fun W tk => pss_imp (pss_cons (h W tk) (t W tk)) fun D σ H q => seq_ok q
theorem ss_one (h : SS X st a) : SSs X [st] a := fun W tk => pss_one (h W tk)
noncomputable def sExpr (d : Den) : SDen := fun env => (d env).bind fun p => .ok (.nx, p.2)
noncomputable def sRet (d : Den) : SDen := fun env => (d env).bind fun p => .ok (.rt p.1, p.2)
noncomputable def sIf (t : Den) (a b : SDen) : SDen := fun env => (t env).bind fun p => match tru p.1 p.2 with
  | some true => a p.2
  | some false => b p.2
  | none => .bad
theorem ss_expr (h : SE X e d) (hs : swapsWith e none pos.line X.env = pure false := by rfl) : SS X (.Expr e pos) (sExpr d) := fun W tk => ps_imp (ps_expr (h W tk) hs) fun D σ H ⟨P0, env, G, s, q⟩ =>
  te_stmt s Tr.refl q fun v env1 G1 x H1 s1 t1 u1 w1 q1 => q1 σ G1 H1 s1 u1
theorem ss_ret (h : SE X e d) : SS X (.Return (some e) pos) (sRet d) := fun W tk => ps_imp (ps_ret (h W tk)) fun D σ H ⟨P0, env, G, s, q⟩ =>
  te_stmt s Tr.refl q fun v env1 G1 x H1 s1 t1 u1 w1 q1 => q1 σ G1 H1 s1 u1 x w1
theorem ss_if {c : Expr} {x y : List Stmt} {dt : Den} (hc : ST X c dt) (ha : SSs X x a) (hb : SSs X y b) : SS X (.If c x y pos) (sIf dt a b) := fun W tk => ps_imp (ps_if (hc W tk) (ha W tk) (hb W tk)) fun D σ H ⟨P0, env, G, s, q⟩ =>
  te_stmt s Tr.refl q fun v env1 G1 x H1 s1 t1 u1 w1 q1 => by
    simp only at q1
    split at q1
    · rename_i e
      exact ⟨true, tru_ok s1 w1 e, iteT (ts_here s1 u1 q1)⟩
    · rename_i e
      exact ⟨false, tru_ok s1 w1 e, iteF (ts_here s1 u1 q1)⟩
    · exact q1.elim
end
noncomputable def store (i : Nat) (v : Val) (env : Env) : Option Env := match env[i]? with
  | some (.io _) => none
  | none => none
  | _ => match v with
    | .im d => some (env.set i (.im d))
    | .ow d => some (env.set i (.ow d))
    | .loc j => match env[j]? with
      | some (.im d) => some (env.set i (.im d))
      | some (.ow d) => some ((env.set j (.im d)).set i (.im d))
      | _ => none
noncomputable def opt {ε α : Type} (o : Option α) (k : α → R ε β) : R ε β := match o with
  | some a => k a
  | none => .bad
noncomputable def sAsg (i : Nat) (d : Den) : SDen := fun env => (d env).bind fun p => opt (store i p.1 p.2) fun e1 => .ok (.nx, e1)
theorem store_now {g : Gm} {P0 : Nat → Option Addr} {env env1 : Env} {σ : L2.St} {M0 : Addr → Prop} {G H G0 H0 : Hp} {i : Nat} {v : Val} {x : V} (hs : Sim g P0 env σ G H) (t : Tr M0 G0 H0 (OA env σ) G H) (hv : VR g env σ H0 G H v x) (h : store i v env = some env1) :
    ∃ G', Sim g P0 env1 (σ.set i (some x)) G' H ∧ Tr M0 G0 H0 (OA env1 (σ.set i (some x))) G' H := by
  unfold store at h
  have hio : (∃ e, env[i]? = some (.io e)) → False := fun ⟨e, z⟩ => by rw [z] at h; cases h
  have hio : ∀ e, env[i]? ≠ some (.io e) := fun e z => hio ⟨e, z⟩
  split at h
  · cases h
  · cases h
  cases v with
  | im d =>
    cases h
    obtain ⟨s1, t1⟩ := hs.setIm hio hv
    exact ⟨G, s1, t.trans t1⟩
  | ow d =>
    cases h
    obtain ⟨p, e, h1, h2, h3⟩ := hv
    subst e
    obtain ⟨s1, t1⟩ := hs.setOw hio h1 h2
    refine ⟨G, s1, t.ex, t.keep, t.gnew, fun r a hr ha => ?_, t.dom⟩
    rcases t1 r hr with q | q
    · exact t.own r a q ha
    · subst q; exact .inr (h3 a ha)
  | loc j =>
    have hv : σ[j]? = some (some x) := hv
    simp only at h
    split at h
    · rename_i d e
      cases h
      obtain ⟨y, q1, q2⟩ := hs.im j d e
      rw [hv] at q1
      cases q1
      obtain ⟨s1, t1⟩ := hs.setIm hio q2
      exact ⟨G, s1, t.trans t1⟩
    · rename_i d e
      cases h
      obtain ⟨G1, s1, t1, p, q1, q2⟩ := hs.freeze e
      rw [hv] at q1
      cases q1
      have hio' : ∀ e', (env.set j (.im d))[i]? ≠ some (.io e') := fun e' z => by
        by_cases ij : j = i
        · subst ij
          have hl : j < env.length := (List.getElem?_eq_some_iff.mp e).1
          rw [List.getElem?_set_self hl] at z
          cases z
        · rw [List.getElem?_set_ne ij] at z
          exact hio e' z
      obtain ⟨s2, t2⟩ := s1.setIm hio' q2
      exact ⟨G1, s2, (t.trans t1).trans t2⟩
    · cases h
section
variable {X : Cx} {e : Expr} {d : Den} {i : Nat} {x : Str} {pos pos' : Pos}
theorem ss_set (hN : X.N.Nodup) (hi : X.N[i]? = some x) (hx : Loc X.env.scope x) (he : SE X e d) (hs : swapsWith e (some (.Name x pos')) pos.line X.env = pure false := by rfl) (hf : X.fn x = true ∨ X.env.scope.names.lookup x = some .local := by first | exact .inl rfl | exact .inr rfl | assumption) :
    SS X (.Assign [.Name x pos'] e pos) (sAsg i d) := fun W tk => ps_imp (ps_set hN hi hx (he W tk) hs hf) fun D σ H ⟨P0, env, G, s, q⟩ =>
  te_stmt s Tr.refl q fun v env1 G1 x H1 s1 t1 u1 w1 q1 => by
    simp only [opt] at q1
    split at q1
    · rename_i e1 ee
      obtain ⟨G2, s2, u2⟩ := store_now s1 u1 w1 ee
      exact q1 _ G2 H1 s2 u2
    · exact q1.elim
end
noncomputable def sAug (i : Nat) (f : Int → Int → Int) (d : Den) : SDen := fun env => match env[i]? with
  | some (.im (.int a)) => (d env).bind fun p => match rd p.1 p.2 with
    | some (.int b) => .ok (.nx, p.2.set i (.im (.int (f a b))))
    | _ => .bad
  | _ => .bad
section
variable {X : Cx} {e : Expr} {d : Den} {i : Nat} {x : Str} {pos pos' : Pos}
theorem ss_aug {f : Int → Int → Int} {op : Operator} (hN : X.N.Nodup) (hi : X.N[i]? = some x) (hx : Loc X.env.scope x) (he : SE X e d) (ho : PIp X op (ipI f)) (hf : X.fn x = true ∨ X.env.scope.names.lookup x = some .local := by first | exact .inl rfl | exact .inr rfl | assumption) :
    SS X (.AugAssign (.Name x pos') op e pos) (sAug i f d) := fun W tk => ps_imp (ps_aug hN hi hx (he W tk) ho hf) fun D σ H ⟨P0, env, G, s, q⟩ => by
  unfold sAug at q
  split at q
  · rename_i a ea
    obtain ⟨y, h1, h2⟩ := s.im i _ ea
    cases (show y = V.int a from h2)
    refine ⟨.int a, h1, te_stmt s Tr.refl q fun v env1 G1 z H1 s1 t1 u1 w1 q1 => ?_⟩
    simp only at q1
    split at q1
    · rename_i b eb
      have r1 := (rd_now s1 w1 eb).int
      refine ⟨a, b, rfl, r1, ?_⟩
      have hio : ∀ e', env1[i]? ≠ some (.io e') := fun e' z => by
        obtain ⟨p, z1, z2⟩ := s1.ow i _ _ z rfl
        rw [h1] at z1
        cases z1
      obtain ⟨s2, t2⟩ := s1.setIm (i := i) (d := .int (f a b)) (x := .int (f a b)) hio rfl
      exact q1 _ G1 H1 s2 (u1.trans t2)
    · exact q1.elim
  · exact q.elim
end
end G
set_option Elab.async false
set_option linter.all false
set_option maxRecDepth 100000
set_option maxHeartbeats 4000000
namespace G
open PySem PySem.Spec PyProof.Rows L2 SX Evl
noncomputable def ownAt (j : Nat) (env : Env) : Option D := (env[j]?).bind Slot.own
noncomputable def Slot.put (d : D) : Slot → Slot
  | .ow _ => .ow d
  | .io _ => .io d
  | s => s
noncomputable def putAt (j : Nat) (d : D) (env : Env) : Env := match env[j]? with
  | some s => env.set j (s.put d)
  | none => env
section
variable {g : Gm} {P0 : Nat → Option Addr} {env : Env} {σ : L2.St} {G H : Hp}
theorem own_put {j : Nat} {d : D} (hs : Sim g P0 env σ G H) (h : ownAt j env = some d) : ∃ p o, σ[j]? = some (some (.ref p)) ∧ G p = none ∧ H p = some o ∧ CoX g G H d o ∧
    ∀ d' o', Co g G d' o' → Sim g P0 (putAt j d' env) σ G (upd H p o') ∧ Tr (OA env σ) G H (OA (putAt j d' env) σ) G (upd H p o') := by
  unfold ownAt at h
  cases e : env[j]? with
  | none => rw [e] at h; cases h
  | some s =>
    rw [e] at h
    have h : s.own = some d := h
    obtain ⟨p, h1, h2, o, h3, h4⟩ := hs.ow j s d e h
    refine ⟨p, o, h1, h2, h3, h4, fun d' o' hc => ?_⟩
    unfold putAt
    rw [e]
    refine hs.put e h ?_ h1 hc
    cases s with
    | ow x => exact .inl ⟨rfl, x, rfl⟩
    | io x => exact .inr ⟨rfl, x, rfl⟩
    | no => cases h
    | im _ => cases h
end
noncomputable def setL (d : D) (k : Int) (v : D) : Option D := match d with
  | .lst ds => (ixN ds.length k).map fun m => .lst (ds.set m v)
  | _ => none
noncomputable def sSetL (j : Nat) (ix val : Den) : SDen := fun env => (val env).bind fun p => opt (fz p.1 p.2) fun q => opt (ownAt j q.2) fun _ => (ix q.2).bind fun r => match rd r.1 r.2 with
  | some (.int k) => opt (ownAt j r.2) fun d => opt (setL d k q.1) fun d' => .ok (.nx, putAt j d' r.2)
  | _ => .bad
section
variable {X : Cx} {e i : Expr} {de di : Den} {j : Nat} {x : Str} {p1 tpos pos : Pos}
theorem fins_opt {α : Type} {g : Gm} {W : WX} {P0 : Nat → Option Addr} {M0 : Addr → Prop} {G0 H0 : Hp} {D : Ends} {o : Option α} {k : α → R Env (Fl × Env)} (h : FinS g W P0 M0 G0 H0 D (opt o k)) : ∃ a, o = some a ∧ FinS g W P0 M0 G0 H0 D (k a) := by
  cases o with
  | none => exact h.elim
  | some a => exact ⟨a, rfl, h⟩
theorem fin_opt {α : Type} {g : Gm} {W : WX} {P0 : Nat → Option Addr} {σ : L2.St} {M0 : Addr → Prop} {G0 H0 : Hp} {Q : VK} {o : Option α} {k : α → R Env (Val × Env)} (h : Fin g W P0 σ M0 G0 H0 Q (opt o k)) : ∃ a, o = some a ∧ Fin g W P0 σ M0 G0 H0 Q (k a) := by
  cases o with
  | none => exact h.elim
  | some a => exact ⟨a, rfl, h⟩
theorem ss_setL (hN : X.N[j]? = some x) (hv : Vis X.env.scope x) (hi : SE X i di) (he : SE X e de) (hd : (x == ("__debug__" : Str)) = false := by decide) (hcd : (x == ("__classdict__" : Str)) = false := by decide)
    (ha : ∀ v, assign (.Subscript (.Name x p1) i tpos) X.env v = (do
      let ov ← holding [v] (eval (.Name x p1) X.env)
      let iv ← holding [v, ov] (eval i X.env)
      standAt tpos
      holding [v, ov, iv] (setItem ov iv v)
      release [v, ov, iv] []) := by intro _; rfl)
    (hs : swapsWithSole [.Subscript (.Name x p1) i tpos] e pos.line X.env = pure false := by rfl) (hw : swappedStores [.Subscript (.Name x p1) i tpos] e X.env = pure none := by rfl)
    (h1 : (assignEach [.Subscript (.Name x p1) i tpos] X.env).map (·.2) = [assign (.Subscript (.Name x p1) i tpos) X.env] := by rfl) :
    SS X (.Assign [.Subscript (.Name x p1) i tpos] e pos) (sSetL j di de) := fun W tk =>
  ps_imp (ps_asg (he W tk) (pg_sub (pv j hN hv hd hcd) (hi W tk) set_list ha) hs hw h1) fun Dd σ H ⟨P0, env, G, s, q⟩ =>
  te_stmt s Tr.refl q fun v env1 G1 y H1 s1 t1 u1 w1 q1 => by
    obtain ⟨⟨dv, env2⟩, er, q2⟩ := fins_opt q1
    obtain ⟨G2, s2, u2, r2⟩ := fz_now s1 u1 w1 er
    obtain ⟨d0, ed, q3⟩ := fins_opt q2
    obtain ⟨p, o, hp, hpn, hpo, hc, _⟩ := own_put s2 ed
    refine ⟨.ref p, hp, te_stmt s2 u2 q3 fun v2 env3 G3 z H3 s3 t3 u3 w3 q4 => ?_⟩
    simp only at q4
    split at q4
    · rename_i k ek
      have r3 := (rd_now s3 w3 ek).int
      obtain ⟨d, ed3, q5⟩ := fins_opt q4
      obtain ⟨d', ed', q6⟩ := fins_opt q5
      obtain ⟨p', o', hp', hpn', hpo', hc', put⟩ := own_put s3 ed3
      rw [hp] at hp'
      cases hp'
      cases d with
      | lst ds =>
        obtain ⟨vs, eo, hr⟩ := hc'.co (fun _ _ z => by cases z)
        subst eo
        obtain ⟨m, em, ed2⟩ := Option.map_eq_some_iff.mp (show (ixN ds.length k).map (fun m => D.lst (ds.set m dv)) = some d' from ed')
        subst ed2
        obtain ⟨s4, t4⟩ := put (.lst (ds.set m dv)) (.lst (vs.set m y)) ⟨_, rfl, hr.set m (Rp.mono t3.ex _ _ r2)⟩
        exact ⟨p, vs, k, m, rfl, r3, hpo', by rw [hr.length]; exact em, q6 σ G3 _ s4 (u3.trans t4)⟩
      | _ => cases ed'
    · exact q4.elim
end
noncomputable def MOp (g : Gm) (r : V → List V → Hp → VK → Prop) (f : D → List D → Option (D × D)) : Prop :=
  ∀ G H p o d as vs dv d' , Ex G H → H p = some o → Co g G d o → Rps g G as vs → f d as = some (dv, d') → ∃ o', Co g G d' o' ∧ ∀ Q : VK, (∀ x, Rp g G dv x → Q x (upd H p o')) → r (.ref p) vs H Q
noncomputable def kindL : D → Bool
  | .lst _ => true
  | _ => false
noncomputable def dMeth (kd : D → Bool) (j : Nat) (as : List Den) (f : D → List D → Option (D × D)) : Den := fun env => opt (ownAt j env) fun d0 => if kd d0 then (dArgs (as.map fun d => (false, d)) env).bind fun p => opt (imD p.1) fun ds => opt (ownAt j p.2) fun d => opt (f d ds) fun r => .ok (.im r.1, putAt j r.2 p.2) else .bad
theorem meth_ok {g : Gm} {W : WX} {σ : L2.St} {H : Hp} {Q : VK} {T : String} {kd : D → Bool} {j : Nat} {as : List Den} {f : D → List D → Option (D × D)} {r : V → List V → Hp → VK → Prop} (hf : MOp g r f) (hkd : ∀ c ds, kd (.ob c ds) = false) (hob : ∀ c ds as, f (.ob c ds) as = none)
    (hT : ∀ G H d o p, kd d = true → H p = some o → Co g G d o → tyV g.K T (.ref p) H) (h : teOf g W (dMeth kd j as f) σ H Q) :
    ∃ p, σ[j]? = some (some (.ref p)) ∧ tyV g.K T (.ref p) H ∧ taOf g W (as.map fun d => (false, d)) σ H fun xs H2 => r (.ref p) xs H2 Q := by
  obtain ⟨P0, env, G, s, q⟩ := h
  obtain ⟨d0, ed0, q1⟩ := fin_opt q
  obtain ⟨p, o, hp, hpn, hpo, hc, _⟩ := own_put s ed0
  split at q1
  · rename_i hk
    refine ⟨p, hp, hT G H d0 o p hk hpo (hc.co fun c ds z => by rw [z, hkd] at hk; cases hk), ?_⟩
    refine ⟨P0, env, G, s, ?_⟩
    cases e : dArgs (as.map fun d => (false, d)) env with
    | bad => rw [e] at q1; exact q1.elim
    | err c e2 => rw [e] at q1; exact q1
    | ok r1 =>
      rw [e] at q1
      intro xs G1 H1 s1 t1 v1
      obtain ⟨ds, eds, q2⟩ := fin_opt q1
      obtain ⟨d, ed, q3⟩ := fin_opt q2
      obtain ⟨r2, er, q4⟩ := fin_opt q3
      obtain ⟨p', o', hp', hpn', hpo', hc', put⟩ := own_put s1 ed
      rw [hp] at hp'
      cases hp'
      have rs := imD_rps v1 eds
      obtain ⟨o2, hc2, hr⟩ := hf G1 H1 p o' d ds xs r2.1 r2.2 s1.ex hpo' (hc'.co fun c ds z => by rw [z, hob] at er; cases er) rs er
      obtain ⟨s2, t2⟩ := put r2.2 o2 hc2
      exact hr Q fun x rx => q4 x G1 _ s2 (t1.trans t2) rx
  · exact q1.elim
section
variable {X : Cx} {e : Expr} {es : List Expr} {j : Nat} {x : Str} {p1 apos cpos : Pos} {T id : String} {name : Str} {kd : D → Bool} {as : List Den} {f : D → List D → Option (D × D)} {r : V → List V → Hp → VK → Prop}
theorem se_meth0 (pa : PlainAttrs T) (slot : PySem.Slot T name id) (hty : typeOf (.builtin id) = pure (.type "method_descriptor")) (hm : MtR X id r) (hf : MOp (gm X) r f) (hT : ∀ G H d o p, kd d = true → H p = some o → Co (gm X) G d o → tyV X.K T (.ref p) H)
    (hN : X.N[j]? = some x) (hv : Vis X.env.scope x) (hd : (x == ("__debug__" : Str)) = false := by decide) (hcd : (x == ("__classdict__" : Str)) = false := by decide)
    (hbase : attributeBase (.Name x p1) name X.env (eval (.Name x p1) X.env) = eval (.Name x p1) X.env := by rfl) (hline : (apos.endLine == cpos.line) = true := by rfl) (hkd : ∀ c ds, kd (.ob c ds) = false := by intro _ _; rfl) (hob : ∀ c ds as, f (.ob c ds) as = none := by intro _ _ as; first | rfl | (cases as <;> rfl)) : SE X (.Call (.Attribute (.Name x p1) name apos) [] [] cpos) (dMeth kd j [] f) := fun W tk =>
  pe_imp (pe_bm0 pa slot hty hm (pv j hN hv hd hcd) hbase hline) fun σ H Q q => by
    obtain ⟨p, h1, h2, P0, env, G, s, h3⟩ := meth_ok (T := T) hf hkd hob hT q
    exact ⟨.ref p, h1, h2, h3 [] G H s Tr.refl .nil⟩
theorem se_meth (pa : PlainAttrs T) (slot : PySem.Slot T name id) (hty : typeOf (.builtin id) = pure (.type "method_descriptor")) (hm : MtR X id r) (hf : MOp (gm X) r f) (hT : ∀ G H d o p, kd d = true → H p = some o → Co (gm X) G d o → tyV X.K T (.ref p) H)
    (hN : X.N[j]? = some x) (hv : Vis X.env.scope x) (ha : SA X (e :: es) (as.map fun d => (false, d))) (hd : (x == ("__debug__" : Str)) = false := by decide) (hcd : (x == ("__classdict__" : Str)) = false := by decide)
    (hbase : attributeBase (.Name x p1) name X.env (eval (.Name x p1) X.env) = eval (.Name x p1) X.env := by rfl)
    (hfew : ((backTo cpos (starEach (e :: es) X.env)).all (fun x => !x.1) && (backToKw cpos (keywordEach [] X.env)).all (fun x => x.1.isSome)
      && decide ((e :: es).length + ([] : List Keyword).length + (if ([] : List Keyword).isEmpty then 0 else 1) < 30)) = true := by rfl)
    (hline : (apos.endLine == cpos.line) = true := by rfl) (hs : starEach (e :: es) X.env = (false, eval e X.env) :: starEach es X.env := by rfl) (hplain : (backTo cpos (starEach es X.env)).any (·.1) = false := by rfl) (hkd : ∀ c ds, kd (.ob c ds) = false := by intro _ _; rfl) (hob : ∀ c ds as, f (.ob c ds) as = none := by intro _ _ as; first | rfl | (cases as <;> rfl)) :
    SE X (.Call (.Attribute (.Name x p1) name apos) (e :: es) [] cpos) (dMeth kd j as f) := fun W tk =>
  pe_imp (pe_bm pa slot hty hm (pv j hN hv hd hcd) (ha W tk) hbase hfew hline hs hplain) fun σ H Q q => by
    obtain ⟨p, h1, h2, h3⟩ := meth_ok (T := T) hf hkd hob hT q
    exact ⟨.ref p, h1, h2, h3⟩
end
section
variable {g : Gm} {X : Cx}
theorem tyL : ∀ (G H : Hp) (d : D) (o : HO) (p : Addr), kindL d = true → H p = some o → Co g G d o → tyV g.K "list" (.ref p) H := fun G H d o p k h c => by
  cases d with
  | lst ds => obtain ⟨vs, e, _⟩ := c; subst e; exact .inl ⟨rfl, vs, SqL.of h⟩
  | _ => cases k
noncomputable def mAppend : D → List D → Option (D × D)
  | .lst ds, [d] => if ds.length < LINE then some (.non, .lst (ds ++ [d])) else none
  | _, _ => none
noncomputable def mPop : D → List D → Option (D × D)
  | .lst ds, [] => ds.getLast?.map fun d => (d, .lst ds.dropLast)
  | _, _ => none
noncomputable def mExtend : D → List D → Option (D × D)
  | .lst ds, [.lst es] => if ds.length + es.length ≤ LINE then some (.non, .lst (ds ++ es)) else none
  | _, _ => none
theorem m_append : MOp g rAppend mAppend := by
  intro G H p o d as vs dv d' hx hp hc hr e
  cases d with
  | lst ds =>
    obtain ⟨ws, eo, hw⟩ := hc
    subst eo
    match as, hr, e with
    | [a], ⟨v, r, e1, h1, h2⟩, e =>
      simp only [mAppend] at e
      split at e
      · rename_i hl
        cases e
        rw [show r = [] from h2] at e1
        subst e1
        exact ⟨.lst (ws ++ [v]), ⟨_, rfl, hw.append (Rps.one h1)⟩, fun Q k => ⟨p, ws, v, rfl, rfl, hp, by rw [hw.length, line_eq]; exact hl, k _ rfl⟩⟩
      · cases e
    | [], _, e => cases e
    | _ :: _ :: _, _, e => cases e
  | _ => cases as <;> cases e
theorem Rps.zero {G : Hp} {vs : List V} (h : Rps g G [] vs) : vs = [] := h
theorem Rps.getLast {G : Hp} {ds : List D} {vs : List V} {d : D} (h : Rps g G ds vs) (e : ds.getLast? = some d) : ∃ v, vs[vs.length - 1]? = some v ∧ Rp g G d v := by
  rw [List.getLast?_eq_getElem?] at e
  rw [h.length]
  exact h.get e
theorem Rps.dropLast {G : Hp} {ds : List D} {vs : List V} (h : Rps g G ds vs) : Rps g G ds.dropLast vs.dropLast := by
  rw [List.dropLast_eq_take, List.dropLast_eq_take, h.length]
  exact h.take _
theorem m_pop : MOp g rPop mPop := by
  intro G H p o d as vs dv d' hx hp hc hr e
  cases d with
  | lst ds =>
    obtain ⟨ws, eo, hw⟩ := hc
    subst eo
    cases as with
    | nil =>
      have e1 := hr.zero
      subst e1
      obtain ⟨a, ea, e2⟩ := Option.map_eq_some_iff.mp (show ds.getLast?.map (fun d => (d, D.lst ds.dropLast)) = some (dv, d') from e)
      cases e2
      obtain ⟨v, hv, rv⟩ := hw.getLast ea
      exact ⟨.lst ws.dropLast, ⟨_, rfl, hw.dropLast⟩, fun Q k => ⟨p, ws, v, rfl, rfl, hp, hv, k _ rv⟩⟩
    | cons _ _ => cases e
  | _ => cases as <;> cases e
noncomputable def rExtendR (K : PySem.W.Frag) : V → List V → Hp → VK → Prop := fun x vs H Q => ∃ l b xs zs, x = .ref l ∧ vs = [.ref b] ∧ H l = some (.lst xs) ∧ SqL K H b zs ∧ xs.length + zs.length ≤ sizeLine ∧ Q .non (upd H l (.lst (xs ++ zs)))
theorem list_extendW (l : Addr) (its : Array Value) (n : Nat) (b : Addr) (its2 : Array Value) (n2 : Nat) (sl2 : Array (Option Value)) (hc0 : ¬(!its.isEmpty && Builtin.List.listTooLong (its.size + its2.size)) = true) (hc1 : its.size ≤ sizeLine) (hs2 : its.size + its2.size ≤ sizeLine + 1) :
    Meets (Builtin.«list.extend» ⟨[.ref l, .ref b], []⟩) (fun _ R s => s.heap.get? l = some { cls := .type "list", dict := none, data := .seq its n, slots := #[] } ∧ s.heap.get? b = some (lstO its2 n2 sl2) ∧ R (.ok (.ret Value.none)) { s with heap := s.heap.update l (Obj.mapSeq fun x => x ++ its2), toks := s.toks }) := .of_wp fun prog w A R s h => by
  obtain ⟨hp, g, d, tk, os⟩ := s
  obtain ⟨hl, hb, h⟩ := h
  unfold lstO at hb
  have f1 := AutoSeq1.idx_int
  have f2 := AutoSeq1.sub_tuple_tuple
  have f3 := AutoSeq1.sub_list_list
  have f4 := AutoSeq1.sub_tuple_list
  have f5 := AutoSeq1.sub_list_tuple
  have hz' : (its ++ its2).size ≤ sizeLine + 1 := by rw [Array.size_append]; exact hs2
  wp_walk using (wpAny_updateSeq hl rfl (hz := hc1) (_hz' := hz')), AutoSeq1.wpAny_loadPart' hl, AutoSeq1.wpAny_loadPart' hb
  exact ⟨_, rfl, h⟩
theorem mt_extendR : MtM X "list.extend" (rExtendR X.K) := by
  intro pins s σ H x vs v us Q I rx rv h
  obtain ⟨l, b, xs, zs, rfl, rfl, hH, hB, hz, q⟩ := h
  cases rx
  obtain ⟨u, rfl, ru⟩ := rv.one
  cases ru
  obtain ⟨z, its, n, r, hl, e⟩ := I.lstM hH
  obtain ⟨z2, its2, n2, sl2, r2, hl2, e2⟩ := Inv.lstR I hB
  have hsz : its.toArray.size + its2.toArray.size ≤ sizeLine := by rw [List.size_toArray, List.size_toArray]; omega
  have hlong : ¬ (!its.toArray.isEmpty && Builtin.List.listTooLong (its.toArray.size + its2.toArray.size)) = true := by
    rw [notLongL hsz, Bool.and_false]
    exact Bool.false_ne_true
  refine call_meets F.slot_list_extend ⟨_, e, rfl⟩ F.entry_list_extend (F.args_list_extend_2 _ _)
    (list_extendW l its.toArray n b its2.toArray n2 sl2 hlong (by rw [List.size_toArray]; omega) (by omega)) ⟨e, e2, ?_⟩
  refine ⟨.non, _, I.lset (its' := its ++ its2) hH e (by simp) (r.append r2) ?_, rfl, q⟩
  rw [List.length_append]
  omega
theorem m_extend : MOp g (rExtendR g.K) mExtend := by
  intro G H p o d as vs dv d' hx hp hc hr e
  cases d with
  | lst ds =>
    obtain ⟨ws, eo, hw⟩ := hc
    subst eo
    match as, hr, e with
    | [.lst es], ⟨v, r, e1, ⟨b, zs, ev, h1, h3⟩, h2⟩, e =>
      simp only [mExtend] at e
      split at e
      · rename_i hl
        cases e
        rw [show r = [] from h2] at e1
        subst e1 ev
        exact ⟨.lst (ws ++ zs), ⟨_, rfl, hw.append h3⟩, fun Q k => ⟨p, b, ws, zs, rfl, rfl, hp, ex_l hx h1, by rw [hw.length, h3.length, line_eq]; exact hl, k _ rfl⟩⟩
      · cases e
    | [], _, e => cases e
    | [.non], _, e => cases e
    | [.bl _], _, e => cases e
    | [.int _], _, e => cases e
    | [.str _], _, e => cases e
    | [.tup _], _, e => cases e
    | [.dk _ _], _, e => cases e
    | [.dt _ _], _, e => cases e
    | [.exc _], _, e => cases e
    | [.ob _ _], _, e => cases e
    | _ :: _ :: _, _, e => simp [mExtend] at e
  | _ => cases as <;> cases e
end
end G
set_option Elab.async false
set_option linter.all false
set_option maxRecDepth 100000
set_option maxHeartbeats 4000000
namespace G
open PySem PySem.Spec PyProof.Rows L2 SX Evl
noncomputable abbrev IDen := Env → R Env (List D × Env)
structure Walk (g : Gm) (G : Hp) (ds : List D) (J : It) : Prop where
  go : ∀ G' H' (i : Nat), Ex G G' → Ex G' H' → i < ds.length → J.go i H'
  yld : ∀ G' H' (i : Nat) x H'' d, Ex G G' → Ex G' H' → ds[i]? = some d → J.yld i H' x H'' → ∃ G'', Grow G' H' G'' H'' ∧ Rp g G'' d x
  stop : ∀ G' H' (i : Nat), Ex G G' → Ex G' H' → ds.length = i → J.stop i H'
noncomputable def FinI (g : Gm) (W : WX) (P0 : Nat → Option Addr) (σ : L2.St) (M0 : Addr → Prop) (G0 H0 : Hp) (Q : It → Hp → Prop) : R Env (List D × Env) → Prop
  | .ok (ds, env') => ∀ J G' H', Sim g P0 env' σ G' H' → Tr M0 G0 H0 (OA env' σ) G' H' → Walk g G' ds J → Q J H'
  | .err c env' => ∀ cls G' H', g.mg (excName c) = some cls → Sim g P0 env' σ G' H' → Tr M0 G0 H0 (OA env' σ) G' H' → W cls none σ H'
  | .bad => False
noncomputable def tiOf (g : Gm) (W : WX) (d : IDen) : TI := fun σ H Q => ∃ P0 env G, Sim g P0 env σ G H ∧ FinI g W P0 σ (OA env σ) G H Q (d env)
noncomputable def SI (X : Cx) (tg e : Expr) (d : IDen) : Prop := ∀ W : WX, Takes X W → PI X tg e (tiOf (gm X) W d)
theorem pi_imp {X : Cx} {tg e : Expr} {t t' : TI} (h : PI X tg e t) (i : ∀ σ H R, t' σ H R → t σ H R) : PI X tg e t' := ⟨fun pins s σ H R I q => h.run pins s σ H R I (i σ H R q)⟩
noncomputable abbrev TDen := D → Env → Option Env
noncomputable def But (ix : List Nat) (σ σ1 : L2.St) : Prop := σ1.length = σ.length ∧ ∀ j, j ∉ ix → σ1[j]? = σ[j]?
structure TgOk (g : Gm) (t : TG) (td : TDen) (ix : List Nat) : Prop where
  run : ∀ P0 env σ G H d x env1 (R : L2.St → Hp → Prop), Sim g P0 env σ G H → Rp g G d x → td d env = some env1 → (∀ σ1, But ix σ σ1 → Sim g P0 env1 σ1 G H → Tr (OA env σ) G H (OA env1 σ1) G H → R σ1 H) → t x σ H R
noncomputable def tgName (i : Nat) : TDen := fun d env => match env[i]? with
  | some (.io _) => none
  | none => none
  | _ => some (env.set i (.im d))
theorem tg_name {g : Gm} (i : Nat) : TgOk g (gName i) (tgName i) [i] := ⟨fun P0 env σ G H d x env1 R hs hr h hR => by
  have hio : ∀ e, env[i]? ≠ some (.io e) := fun e z => by unfold tgName at h; rw [z] at h; cases h
  have e1 : env1 = env.set i (.im d) := by
    unfold tgName at h
    split at h
    · cases h
    · cases h
    · exact (Option.some.inj h).symm
  subst e1
  obtain ⟨s1, t1⟩ := hs.setIm hio hr
  exact hR _ ⟨List.length_set, fun j hj => List.getElem?_set_ne (fun z => hj (by simp [z]))⟩ s1 t1⟩
noncomputable abbrev TDens := List D → Env → Option Env
structure TgsOk (g : Gm) (t : TGs) (td : TDens) (ix : List Nat) : Prop where
  run : ∀ P0 env σ G H ds xs env1 (R : L2.St → Hp → Prop), Sim g P0 env σ G H → Rps g G ds xs → td ds env = some env1 → (∀ σ1, But ix σ σ1 → Sim g P0 env1 σ1 G H → Tr (OA env σ) G H (OA env1 σ1) G H → R σ1 H) → t xs σ H R
noncomputable def tgNil : TDens := fun ds env => match ds with
  | [] => some env
  | _ => none
noncomputable def tgCons (t : TDen) (u : TDens) : TDens := fun ds env => match ds with
  | d :: r => (t d env).bind (u r)
  | _ => none
theorem tgs_nil {g : Gm} : TgsOk g gNil tgNil [] := ⟨fun P0 env σ G H ds xs env1 R hs hr h hR => by
  cases ds with
  | nil =>
    cases h
    exact ⟨hr.zero, hR σ ⟨rfl, fun _ _ => rfl⟩ hs Tr.refl⟩
  | cons _ _ => cases h⟩
theorem tgs_cons {g : Gm} {t : TG} {u : TGs} {td : TDen} {ud : TDens} {ix iy : List Nat} (h1 : TgOk g t td ix) (h2 : TgsOk g u ud iy) : TgsOk g (gCons t u) (tgCons td ud) (ix ++ iy) := ⟨fun P0 env σ G H ds xs env1 R hs hr h hR => by
  cases ds with
  | nil => cases h
  | cons d r =>
    obtain ⟨v, w, e, r1, r2⟩ := hr
    obtain ⟨env2, e1, e2⟩ := Option.bind_eq_some_iff.mp (show (td d env).bind (ud r) = some env1 from h)
    exact ⟨v, w, e, h1.run P0 env σ G H d v env2 _ hs r1 e1 fun σ1 b1 s1 t1 => h2.run P0 env2 σ1 G H r w env1 R s1 r2 e2 fun σ2 b2 s2 t2 => hR σ2 ⟨b2.1.trans b1.1, fun j hj => by rw [List.mem_append, not_or] at hj; rw [b2.2 j hj.2, b1.2 j hj.1]⟩ s2 (t1.trans t2)⟩⟩
noncomputable def tgTup (n : Nat) (u : TDens) : TDen := fun d env => match d with
  | .tup ds => if ds.length = n then u ds env else none
  | _ => none
theorem tg_tup {g : Gm} {u : TGs} {ud : TDens} {n : Nat} {ix : List Nat} (h : TgsOk g u ud ix) : TgOk g (gTup g.K n u) (tgTup n ud) ix := ⟨fun P0 env σ G H d x env1 R hs hr e hR => by
  cases d with
  | tup ds =>
    simp only [tgTup] at e
    split at e
    · rename_i hl
      obtain ⟨a, vs, e1, h1, h2⟩ := hr
      exact ⟨a, vs, e1, SqT.of (hs.ex _ _ h1), by rw [h2.length, hl], h.run P0 env σ G H ds vs env1 R hs h2 e hR⟩
    · cases e
  | _ => cases e⟩
noncomputable def sForL (td : TDen) (body : SDen) : List D → SDen
  | [], env => .ok (.nx, env)
  | d :: ds, env => opt (td d env) fun e1 => match body e1 with
    | .ok (.nx, e2) => sForL td body ds e2
    | .ok (.ct, e2) => sForL td body ds e2
    | .ok (.bk, e2) => .ok (.nx, e2)
    | .ok (.rt v, e2) => .ok (.rt v, e2)
    | .err c e2 => .err c e2
    | .bad => .bad
noncomputable def sFor (src : IDen) (td : TDen) (body : SDen) : SDen := fun env => (src env).bind fun p => sForL td body p.1 p.2
section
variable {X : Cx} {tg iter : Expr} {body : List Stmt} {src : IDen} {td : TDen} {b : SDen} {pos : Pos} {gt : TG} {ix : List Nat}
theorem for_ok {g : Gm} {W : WX} {D : Ends} {σ : L2.St} {H : Hp} (hg : TgOk g gt td ix) (h : tsOf g W (sFor src td b) D σ H) : tFor (tiOf g W src) gt (tsOf g W b) D σ H := by
  obtain ⟨P0, env, G, s, q⟩ := h
  refine ⟨P0, env, G, s, ?_⟩
  unfold sFor at q
  cases e : src env with
  | bad => rw [e] at q; exact q.elim
  | err c e1 => rw [e] at q; exact fun cls G1 H1 hc s1 t1 => q cls σ G1 H1 hc s1 t1
  | ok p =>
    obtain ⟨ds, env1⟩ := p
    rw [e] at q
    intro J G1 H1 s1 t1 wk
    refine ⟨fun i m σ' H' => ∃ env' G', m = ds.length - i ∧ i ≤ ds.length ∧ Sim g P0 env' σ' G' H' ∧ Tr (OA env σ) G H (OA env' σ') G' H' ∧ Ex G1 G' ∧ FinS g W P0 (OA env σ) G H D (sForL td b (ds.drop i) env'),
      ⟨ds.length, env1, G1, by simp, Nat.zero_le _, s1, t1, Ex.refl _, by rw [List.drop_zero]; exact q⟩, ?_⟩
    rintro i m σ' H' ⟨env', G', rfl, hi, s', t', x', q'⟩
    by_cases hlt : i < ds.length
    · refine .inr ⟨wk.go G' H' i x' s'.ex hlt, fun σ2 H2 => ∃ env2 G2, Sim g P0 env2 σ2 G2 H2 ∧ Tr (OA env σ) G H (OA env2 σ2) G2 H2 ∧ Ex G1 G2 ∧ FinS g W P0 (OA env σ) G H D (sForL td b (ds.drop (i + 1)) env2),
        fun σ2 H2 ⟨env2, G2, a1, a2, a3, a4⟩ => ⟨ds.length - (i + 1), by omega, env2, G2, rfl, hlt, a1, a2, a3, a4⟩, fun x H'' y => ?_⟩
      obtain ⟨G'', gr, hr⟩ := wk.yld G' H' i x H'' ds[i] x' s'.ex (by simp [hlt]) y
      have s2 := s'.grow gr.ex gr.exH gr.sub gr.new
      have t2 := t'.trans (Tr.grow s'.at gr.ex gr.exH gr.new)
      rw [List.drop_eq_getElem_cons hlt] at q'
      obtain ⟨env2, ee, q2⟩ := fins_opt (show FinS g W P0 (OA env σ) G H D (opt (td ds[i] env') _) from q')
      refine hg.run P0 env' σ' G'' H'' ds[i] x env2 _ s2 hr ee fun σ3 _ s3 t3 => ?_
      have t4 := t2.trans t3
      refine ⟨P0, env2, G'', s3, ?_⟩
      cases eb : b env2 with
      | bad => rw [eb] at q2; exact q2.elim
      | err c e1 => rw [eb] at q2; exact fun cls σ5 G5 H5 hc s5 t5 => q2 cls σ5 G5 H5 hc s5 (t4.trans t5)
      | ok p =>
        obtain ⟨f, env3⟩ := p
        rw [eb] at q2
        intro σ5 G5 H5 s5 t5
        cases f with
        | nx => exact ⟨env3, G5, s5, t4.trans t5, (x'.trans gr.ex).trans t5.ex, q2⟩
        | ct => exact ⟨env3, G5, s5, t4.trans t5, (x'.trans gr.ex).trans t5.ex, q2⟩
        | bk => exact q2 σ5 G5 H5 s5 (t4.trans t5)
        | rt v => exact fun z w => q2 σ5 G5 H5 s5 (t4.trans t5) z (w.since fun a e => t4.dom a e)
    · have hi' : ds.length ≤ i := by omega
      refine .inl ⟨wk.stop G' H' i x' s'.ex (by omega), ?_⟩
      rw [List.drop_eq_nil_of_le hi'] at q'
      exact q' σ' G' H' s' t'
theorem ss_for (hp : PassesOwn (model X.prog X.w) X.A X.env X.xe) (hc : X.calm = true) (hi : SI X tg iter src) (hg : PG X tg gt) (ht : TgOk (gm X) gt td ix) (hb : SSs X body b)
    (hs : ∀ x, foldedSetIterable iter X.env x = pure x := by intro _; rfl) : SS X (.For tg iter body [] pos) (sFor src td b) := fun W tk => ps_imp (ps_for hp hc (hi W tk) hg (hb W tk) hs) fun D σ H q => for_ok ht q
end
noncomputable def sWhile (c : Den) (body : SDen) : Nat → SDen
  | 0, _ => .bad
  | n + 1, env => (c env).bind fun p => match tru p.1 p.2 with
    | some true => match body p.2 with
      | .ok (.nx, e2) => sWhile c body n e2
      | .ok (.ct, e2) => sWhile c body n e2
      | .ok (.bk, e2) => .ok (.nx, e2)
      | .ok (.rt v, e2) => .ok (.rt v, e2)
      | .err c e2 => .err c e2
      | .bad => .bad
    | some false => .ok (.nx, p.2)
    | none => .bad
section
variable {X : Cx} {c : Expr} {body : List Stmt} {dc : Den} {b : SDen} {pos : Pos}
theorem while_ok {g : Gm} {W : WX} {D : Ends} {σ : L2.St} {H : Hp} {n : Nat} (h : tsOf g W (sWhile dc b n) D σ H) : tWhile (tB (teOf g W dc)) (tsOf g W b) D σ H := by
  obtain ⟨P0, env, G, s, q⟩ := h
  refine ⟨fun m σ' H' => ∃ env' G', Sim g P0 env' σ' G' H' ∧ Tr (OA env σ) G H (OA env' σ') G' H' ∧ FinS g W P0 (OA env σ) G H D (sWhile dc b m env'), ⟨n, env, G, s, Tr.refl, q⟩, ?_⟩
  rintro m σ' H' ⟨env', G', s', t', q'⟩
  cases m with
  | zero => exact q'.elim
  | succ m =>
    unfold sWhile at q'
    refine te_stmt s' t' q' fun v env1 G1 x H1 s1 t1 u1 w1 q1 => ?_
    simp only at q1
    split at q1
    · rename_i e
      refine ⟨true, tru_ok s1 w1 e, iteT ?_⟩
      refine ⟨fun σ2 H2 => ∃ env2 G2, Sim g P0 env2 σ2 G2 H2 ∧ Tr (OA env σ) G H (OA env2 σ2) G2 H2 ∧ FinS g W P0 (OA env σ) G H D (sWhile dc b m env2), fun σ2 H2 ⟨env2, G2, a1, a2, a3⟩ => ⟨m, by omega, env2, G2, a1, a2, a3⟩, P0, env1, G1, s1, ?_⟩
      cases eb : b env1 with
      | bad => rw [eb] at q1; exact q1.elim
      | err c e1 => rw [eb] at q1; exact fun cls σ5 G5 H5 hc s5 t5 => q1 cls σ5 G5 H5 hc s5 (u1.trans t5)
      | ok p =>
        obtain ⟨f, env3⟩ := p
        rw [eb] at q1
        intro σ5 G5 H5 s5 t5
        cases f with
        | nx => exact ⟨env3, G5, s5, u1.trans t5, q1⟩
        | ct => exact ⟨env3, G5, s5, u1.trans t5, q1⟩
        | bk => exact q1 σ5 G5 H5 s5 (u1.trans t5)
        | rt v => exact fun z w => q1 σ5 G5 H5 s5 (u1.trans t5) z (w.since fun a e => u1.dom a e)
    · rename_i e
      refine ⟨false, tru_ok s1 w1 e, iteF ?_⟩
      exact q1 σ' G1 H1 s1 u1
    · exact q1.elim
theorem ss_while (n : Nat) (hp : PassesOwn (model X.prog X.w) X.A X.env X.xe) (hc : ST X c dc) (hb : SSs X body b) : SS X (.While c body [] pos) (sWhile dc b n) := fun W tk => ps_imp (ps_while hp (hc W tk) (hb W tk)) fun D σ H q => while_ok q
end
end G
set_option Elab.async false
set_option linter.all false
set_option maxRecDepth 100000
set_option maxHeartbeats 4000000
namespace G
open PySem PySem.Spec PyProof.Rows L2 SX Evl
section
variable {g : Gm} {G H : Hp}
theorem Rps.getD {ds : List D} {vs : List V} {i : Nat} {d : D} (h : Rps g G ds vs) (e : ds[i]? = some d) : ∃ v, vs[i]? = some v ∧ Rp g G d v := h.get e
theorem walk_list {a : Addr} {ds : List D} {vs : List V} (h1 : SqL g.K G a vs) (h2 : Rps g G ds vs) : Walk g G ds (Itl g.K a) where
  go := fun G' H' i e x hi => by
    have hi' : i < vs.length := by rw [h2.length]; exact hi
    exact ⟨vs, vs[i], ex_l x (ex_l e h1), by simp [hi']⟩
  yld := fun G' H' i x H'' d e hx hd y => by
    obtain ⟨rfl, y⟩ := y
    obtain ⟨v, q1, q2⟩ := h2.get hd
    have q := y vs (ex_l hx (ex_l e h1))
    rw [q1] at q
    cases q
    exact ⟨G', Grow.refl hx, Rp.mono e _ _ q2⟩
  stop := fun G' H' i e x hi => ⟨vs, ex_l x (ex_l e h1), by rw [h2.length]; exact Nat.le_of_eq hi⟩
theorem walk_tup {a : Addr} {ds : List D} {vs : List V} (h1 : SqT g.K G a vs) (h2 : Rps g G ds vs) : Walk g G ds (Itt g.K a) where
  go := fun G' H' i e x hi => by
    have hi' : i < vs.length := by rw [h2.length]; exact hi
    exact ⟨vs, vs[i], ex_t x (ex_t e h1), by simp [hi']⟩
  yld := fun G' H' i x H'' d e hx hd y => by
    obtain ⟨rfl, y⟩ := y
    obtain ⟨v, q1, q2⟩ := h2.get hd
    have q := y vs (ex_t hx (ex_t e h1))
    rw [q1] at q
    cases q
    exact ⟨G', Grow.refl hx, Rp.mono e _ _ q2⟩
  stop := fun G' H' i e x hi => ⟨vs, ex_t x (ex_t e h1), by rw [h2.length]; exact Nat.le_of_eq hi⟩
noncomputable def chars (x : List Nat) : List D := x.map fun c => .str [c]
theorem walk_str (x : List Nat) : Walk g G (chars x) (Its (S x)) where
  go := fun G' H' i e hx hi => by
    show i < (S x).cps.size
    have : (S x).cps.size = x.length := S_len x
    rw [this]; simpa [chars] using hi
  yld := fun G' H' i v H'' d e hx hd y => by
    obtain ⟨rfl, c, q1, rfl⟩ := y
    have q1 : x[i]? = some c := by
      have : (S x).cps[i]? = x[i]? := by simp [S]
      rw [← this]; exact q1
    have : d = .str [c] := by
      unfold chars at hd
      rw [List.getElem?_map, q1] at hd
      exact (Option.some.inj hd).symm
    subst this
    exact ⟨G', Grow.refl hx, rfl⟩
  stop := fun G' H' i e hx hi => by
    have hi := Nat.le_of_eq hi
    show (S x).cps.size ≤ i
    have : (S x).cps.size = x.length := S_len x
    rw [this]; simpa [chars] using hi
noncomputable def rng (lo c : Int) (n : Nat) : List D := (List.range n).map fun i => .int (lo + (i : Nat) * c)
theorem walk_range (lo : Int) (n : Nat) : Walk g G (rng lo 1 n) (Itr lo n) where
  go := fun G' H' i e hx hi => by
    show i < n
    simpa [rng] using hi
  yld := fun G' H' i v H'' d e hx hd y => by
    obtain ⟨rfl, rfl⟩ := y
    have hi : i < n := by
      have := (List.getElem?_eq_some_iff.mp hd).1
      simpa [rng] using this
    have : d = .int (lo + (i : Nat)) := by
      unfold rng at hd
      rw [List.getElem?_map, List.getElem?_range hi] at hd
      have z : d = .int (lo + (i : Nat) * 1) := (Option.some.inj hd).symm
      rw [Int.mul_one] at z
      exact z
    subst this
    exact ⟨G', Grow.refl hx, rfl⟩
  stop := fun G' H' i e hx hi => by
    have hi := Nat.le_of_eq hi
    show n ≤ i
    simpa [rng] using hi
end
noncomputable def iSeq (d : Den) : IDen := fun env => (d env).bind fun p => match fz p.1 p.2 with
  | some (.lst ds, e1) => .ok (ds, e1)
  | some (.tup ds, e1) => .ok (ds, e1)
  | some (.str x, e1) => .ok (chars x, e1)
  | _ => .bad
noncomputable def iAnySeq (K : PySem.W.Frag) (te : TE) : TI := fun σ H R => te σ H fun x H1 => (∃ a, x = .ref a ∧ (∃ xs, SqL K H1 a xs) ∧ R (Itl K a) H1) ∨ (∃ a, x = .ref a ∧ (∃ xs, SqT K H1 a xs) ∧ R (Itt K a) H1) ∨ ∃ y, x = .str y ∧ R (Its y) H1
section
variable {X : Cx} {tg e : Expr} {te : TE} {d : Den}
theorem pi_any (he : PE X e te) : PI X tg e (iAnySeq X.K te) := by
  refine ⟨fun pins s σ H R I h => thn (he.run pins s σ H _ I h) ?_⟩
  rintro v s1 ⟨x, H1, I1, r1, q1⟩
  have key : ∀ (J : It) (o : Obj) (tn : Nat → Heap → Prop), Turn X.prog X.w X.K tg J [s1.heap.objs.size] s1.heap.objs.size tn → tn 0 (s1.heap.push o) → R J H1 → PIE X pins σ tg R (.ref s1.heap.objs.size) { s1 with heap := s1.heap.push o } := fun J o tn T st q => pi_one (tk := s1.toks) I1 o T st q
  rcases q1 with ⟨a, rfl, ⟨xs, hq⟩, q⟩ | ⟨a, rfl, ⟨xs, hq⟩, q⟩ | ⟨y, rfl, q⟩
  · cases r1
    obtain ⟨its, _, p, _⟩ := I1.list hq
    exact wpAny_pyIter_list p.isList (key _ _ _ (turn_list a _) ⟨_, Heap.get?_push_size _ rfl, rfl, rfl⟩ q)
  · cases r1
    obtain ⟨its, _, p, _⟩ := I1.tuple hq
    exact wpAny_pyIter_tuple (show s1.heap.IsTuple a its.toArray from p) (key _ _ _ (turn_tuple a _) ⟨_, Heap.get?_push_size _ rfl, rfl, rfl⟩ q)
  · obtain ⟨t, rfl⟩ := r1
    cases ha : y.cps.all (· < 128)
    · exact wpAny_pyIter_wide ha (key _ _ _ (turn_str _ y t "str_iterator" (.inr rfl)) ⟨_, Heap.get?_push_size _ rfl, rfl, rfl⟩ q)
    · exact wpAny_pyIter_ascii ha (key _ _ _ (turn_str _ y t "str_ascii_iterator" (.inl rfl)) ⟨_, Heap.get?_push_size _ rfl, rfl, rfl⟩ q)
theorem te_src {g : Gm} {W : WX} {P0 : Nat → Option Addr} {env : Env} {σ : L2.St} {M0 : Addr → Prop} {G H G0 H0 : Hp} {Q : It → Hp → Prop} {d : Den} {k : Val × Env → R Env (List D × Env)} {R : VK} (hs : Sim g P0 env σ G H) (t : Tr M0 G0 H0 (OA env σ) G H) (h : FinI g W P0 σ M0 G0 H0 Q ((d env).bind k))
    (hR : ∀ v env1 G1 x H1, Sim g P0 env1 σ G1 H1 → Tr (OA env σ) G H (OA env1 σ) G1 H1 → Tr M0 G0 H0 (OA env1 σ) G1 H1 → VR g env1 σ H0 G1 H1 v x → FinI g W P0 σ M0 G0 H0 Q (k (v, env1)) → R x H1) : teOf g W d σ H R := by
  refine ⟨P0, env, G, hs, ?_⟩
  cases e : d env with
  | ok p =>
    obtain ⟨v, env1⟩ := p
    rw [e] at h
    exact fun x G1 H1 s1 t1 v1 => hR v env1 G1 x H1 s1 t1 (t.trans t1) (v1.since fun a q => t.dom a q) h
  | err c e1 =>
    rw [e] at h
    exact fun cls G1 H1 hc s1 t1 => h cls G1 H1 hc s1 (t.trans t1)
  | bad => rw [e] at h; exact h.elim
theorem seq_src {g : Gm} {W : WX} {σ : L2.St} {H : Hp} {Q : It → Hp → Prop} {d : Den} (h : tiOf g W (iSeq d) σ H Q) : iAnySeq g.K (teOf g W d) σ H Q := by
  obtain ⟨P0, env, G, s, q⟩ := h
  refine te_src s Tr.refl q fun v env1 G1 x H1 s1 t1 u1 w1 q1 => ?_
  simp only at q1
  split at q1
  · rename_i ds e1 ef
    obtain ⟨G2, s2, u2, a, vs, ex, h1, h2⟩ := fz_now s1 u1 w1 ef
    exact .inl ⟨a, ex, ⟨vs, ex_l s2.ex h1⟩, q1 _ G2 H1 s2 u2 (walk_list h1 h2)⟩
  · rename_i ds e1 ef
    obtain ⟨G2, s2, u2, a, vs, ex, h1, h2⟩ := fz_now s1 u1 w1 ef
    exact .inr (.inl ⟨a, ex, ⟨vs, SqT.of (s2.ex _ _ h1)⟩, q1 _ G2 H1 s2 u2 (walk_tup (SqT.of h1) h2)⟩)
  · rename_i y e1 ef
    obtain ⟨G2, s2, u2, ex⟩ := fz_now s1 u1 w1 ef
    exact .inr (.inr ⟨S y, ex, q1 _ G2 H1 s2 u2 (walk_str y)⟩)
  · exact q1.elim
theorem si_seq (he : SE X e d) : SI X tg e (iSeq d) := fun W tk => pi_imp (pi_any (he W tk)) fun σ H Q q => seq_src q
end
noncomputable def iInt (d : Den) (k : Int → Env → R Env (List D × Env)) : Env → R Env (List D × Env) := fun env => (d env).bind fun p => match rd p.1 p.2 with
  | some (.int i) => k i p.2
  | _ => .bad
noncomputable abbrev BIG : Int := 4611686018427387904
theorem big_eq : BIG = 2 ^ 62 := by decide
noncomputable def iR1 (a : Den) : IDen := iInt a fun j env => if -BIG ≤ j ∧ j < BIG then .ok (rng 0 1 j.toNat, env) else .bad
section
variable {X : Cx} {tg a b c : Expr} {da db dc : Den} {p pos : Pos}
theorem int_src {g : Gm} {W : WX} {P0 : Nat → Option Addr} {env : Env} {σ : L2.St} {M0 : Addr → Prop} {G H G0 H0 : Hp} {Q : It → Hp → Prop} {d : Den} {k : Int → Env → R Env (List D × Env)} {R : VK} (hs : Sim g P0 env σ G H) (t : Tr M0 G0 H0 (OA env σ) G H) (h : FinI g W P0 σ M0 G0 H0 Q (iInt d k env))
    (hR : ∀ i env1 G1 H1, Sim g P0 env1 σ G1 H1 → Tr M0 G0 H0 (OA env1 σ) G1 H1 → FinI g W P0 σ M0 G0 H0 Q (k i env1) → R (.int i) H1) : teOf g W d σ H R := te_src hs t h fun v env1 G1 x H1 s1 t1 u1 w1 q1 => by
  simp only at q1
  split at q1
  · rename_i i e
    rw [(rd_now s1 w1 e).int]
    exact hR i env1 G1 H1 s1 u1 q1
  · exact q1.elim
theorem fini_if {g : Gm} {W : WX} {P0 : Nat → Option Addr} {σ : L2.St} {M0 : Addr → Prop} {G0 H0 : Hp} {Q : It → Hp → Prop} {c : Prop} [Decidable c] {r : R Env (List D × Env)} (h : FinI g W P0 σ M0 G0 H0 Q (if c then r else .bad)) : c ∧ FinI g W P0 σ M0 G0 H0 Q r := by
  by_cases hc : c
  · rw [if_pos hc] at h; exact ⟨hc, h⟩
  · rw [if_neg hc] at h; exact h.elim
theorem si_r1 (hg : Gl X "range") (hm : X.mg "range" = none) (ha : SE X a da) (hs : starEach [a] X.env = [(false, eval a X.env)] := by rfl) : SI X tg (.Call (.Name "range" p) [a] [] pos) (iR1 da) := fun W tk => pi_imp (pi_range1 hg hm (pa_cons (ha W tk) pa_nil hs) hs) fun σ H Q ⟨P0, env, G, s, q⟩ =>
  int_src s Tr.refl q fun j env1 G1 H1 s1 u1 q1 => by
    obtain ⟨⟨h1, h2⟩, q2⟩ := fini_if q1
    exact ⟨j, rfl, by rw [← big_eq]; exact h1, by rw [← big_eq]; exact h2, q2 _ G1 H1 s1 u1 (walk_range 0 _)⟩
end
noncomputable def ItE (x : Str) : It := ⟨fun i _ => i < x.cps.size, fun i H v H' => ∃ T c, v = .ref T ∧ H T = none ∧ H' = upd H T (.tup [.int (i : Nat), .str ⟨#[c]⟩]) ∧ x.cps[i]? = some c, fun i _ => x.cps.size ≤ i⟩
theorem draws_str {P : Program} {w : World} {A : Around} (hh : A.handled = none) (it : Addr) (x : Str) (t : Tok) :
    Draws P w A it [it] x.cps.size (fun i v => ∃ c u, x.cps[i]? = some c ∧ v = .str ⟨#[c]⟩ u) (fun i h => h.IsStrIter it (strIterType x) x t i) := by
  unfold strIterType
  split
  · exact Draws.strAscii hh it x t
  · exact Draws.strWide hh it x t
theorem turn_enumS {P : Program} {w : World} {K : PySem.W.Frag} {elts : List Expr} {kk : Nat} {tpos : Pos} (x : Str) (t : Tok) (e it : Addr) :
    Turn P w K (.Tuple elts kk tpos) (ItE x) [e, it] e (fun i h => (∃ old, IsEnum h e it ((i : Nat) : Int) old) ∧ h.IsStrIter it (strIterType x) x t i ∧ e ≠ it ∧ i ≤ x.cps.size) where
  mem := by simp
  obj := fun i h st b hb => by
    obtain ⟨⟨old, he⟩, ⟨o, ho, hc, hd⟩, _⟩ := st
    have e' : b = e ∨ b = it := by simpa using hb
    rcases e' with z | z
    · rw [show b = e from z]
      exact ⟨_, he, fun v q => nomatch q⟩
    · exact ⟨o, by rw [z]; exact ho, fun v q => by rw [hd] at q; cases q⟩
  keep := fun i h h' st k => by
    obtain ⟨⟨old, he⟩, ⟨o, ho, r⟩, hne⟩ := st
    exact ⟨⟨old, k e (by simp) _ he⟩, ⟨o, k it (by simp) o ho, r⟩, hne⟩
  item := by
    intro X hP hw hK hc i pins s σ H E I hf st hg
    subst hP hw hK
    obtain ⟨⟨old, he⟩, hit, hne, hle⟩ := st
    have hel := Heap.lt_size he
    have hil : it < s.heap.objs.size := by obtain ⟨_, q, _⟩ := hit; exact Heap.lt_size q
    have D0 : Draws X.prog X.w X.A.in1 it [it] _ _ _ := draws_str (P := X.prog) (w := X.w) (show X.A.in1.handled = none from I.ok.hd hc) it x t
    refine wpAny_pyNext_enum_itemD D0 he hit hg hne (by simpa using hne) fun u h' tk hu ho hit' hT hsz hk => ⟨_, rfl, ?_⟩
    obtain ⟨c, z, hx, rfl⟩ := hu
    refine wpAny_letOwnedTupleGo_enum (s := { s with heap := h', toks := tk + 1 }) ho fun h'' he' sb => ?_
    have hT2 := (sb.2 _ (Nat.ne_of_gt hel)).trans hT
    have new : ObjOk X.prog X.w (upd H s.heap.objs.size (.tup [.int (i : Nat), .str ⟨#[c]⟩])) h'' s.heap.objs.size (.tup [.int (i : Nat), .str ⟨#[c]⟩]) :=
      ⟨by show 2 ≤ sizeLine; decide, [.int i tk, .str ⟨#[c]⟩ z], .cons ⟨_, rfl⟩ (.cons ⟨_, rfl⟩ .nil), ⟨_, hT2, rfl, _, rfl⟩⟩
    have I1 : Inv X pins σ (upd H s.heap.objs.size (.tup [.int (i : Nat), .str ⟨#[c]⟩])) { s with heap := h'', toks := tk + 1 } :=
      I.turnedNew (ch := [e, it]) (fun b ob hb q => (sb.2 b (fun z => hb (by simp [z]))).trans (hk b ob (fun z => hb (by simp [z])) (fun z => hb (by simp [z])) q)) hf (Nat.le_refl _) new
    refine ⟨.ref s.heap.objs.size, _, I1, rfl, ⟨_, c, rfl, I.hok.fresh (Nat.le_refl _), rfl, hx⟩, ⟨⟨_, by simpa using he'⟩, ?_, hne, hg⟩, fun b hb => ?_⟩
    · obtain ⟨o, q, r⟩ := hit'
      exact ⟨o, (sb.2 it (Ne.symm hne)).trans q, r⟩
    · have e' : b = e ∨ b = it := by simpa using hb
      have hb' : b < s.heap.objs.size := by rcases e' with z | z <;> (rw [z]; assumption)
      rw [upd_ne (Nat.ne_of_lt hb')]
      exact (hf b hb).1
  done := by
    intro X hP hw hK hc i pins s σ H E I hf st hg
    subst hP hw hK
    obtain ⟨⟨old, he⟩, hit, hne, hle⟩ := st
    obtain ⟨f0, f1, f2, f3, f4, f5⟩ := hf it (by simp)
    have D0 : Draws X.prog X.w X.A.in1 it [it] _ _ _ := draws_str (P := X.prog) (w := X.w) (show X.A.in1.handled = none from I.ok.hd hc) it x t
    have hi : i = x.cps.size := Nat.le_antisymm hle hg
    exact wpAny_pyNext_enum_endD D0 he (by rw [← hi]; exact hit) fun h' eb => ⟨rfl, I.turned (t' := s.toks) (fun b o hb q => eb b o hb q) f0 f1 f3 f4 f5⟩
  self := fun A i s Q E st h => by
    obtain ⟨⟨old, he⟩, _⟩ := st
    exact wpAny_pyIter_enum he h
noncomputable def iEnumA (K : PySem.W.Frag) (ta : TA) : TI := fun σ H R => ta σ H fun vs H1 => (∃ a xs, vs = [.ref a] ∧ SqL K H1 a xs ∧ R (Ite K a) H1) ∨ ∃ x, vs = [.str x] ∧ R (ItE x) H1
theorem pi_enumA {X : Cx} {e : Expr} {ta : TA} {p pos tpos : Pos} {elts : List Expr} {kk : Nat} (hg : Gl X "enumerate") (hm : X.mg "enumerate" = none) (ha : PA X [e] ta) (hs : starEach [e] X.env = [(false, eval e X.env)] := by rfl) :
    PI X (.Tuple elts kk tpos) (.Call (.Name "enumerate" p) [e] [] pos) (iEnumA X.K ta) := by
  refine ⟨fun pins s σ H R I h => Call_ (ld_blt I hg hm boot_enumerate (PyProof.Rows.callWith_type1 (thn (ha.run pos pins s σ H _ I h) ?_) hs rfl))⟩
  rintro us s1 ⟨vs, H1, I1, r1, q1⟩
  have two : ∀ b, b ∈ [s1.heap.objs.size + 1, s1.heap.objs.size] → FpOk X pins H1 b := fun b hb => by
    have hle : s1.heap.objs.size ≤ b := by
      simp only [List.mem_cons, List.not_mem_nil, or_false] at hb
      omega
    exact I1.fpOk hle (I1.hok.fresh hle)
  rcases q1 with ⟨a, xs, rfl, hq, q⟩ | ⟨x, rfl, q⟩
  · cases r1 with
    | cons r rr =>
      cases rr
      cases r
      obtain ⟨its, rv, p', hz⟩ := I1.list hq
      refine call_enumerate_list p'.isList fun h' he hit hsz hk => wpAny_pyIter_enum he ⟨_, [s1.heap.objs.size + 1, s1.heap.objs.size], _, _, H1, rfl, I1.kept (t' := s1.toks) hk, turn_enum a _ _, ⟨⟨.none, he⟩, hit, Nat.succ_ne_self _⟩, two, q⟩
  · cases r1 with
    | cons r rr =>
      cases rr
      obtain ⟨t, rfl⟩ := r
      refine call_enumerate_str fun h' he hit hsz hk => wpAny_pyIter_enum he ⟨_, [s1.heap.objs.size + 1, s1.heap.objs.size], _, _, H1, rfl, I1.kept (t' := s1.toks) hk, turn_enumS x t _ _, ⟨⟨.none, he⟩, hit, Nat.succ_ne_self _, Nat.zero_le _⟩, two, q⟩
noncomputable def enumL (i : Nat) : List D → List D
  | [] => []
  | d :: ds => .tup [.int i, d] :: enumL (i + 1) ds
theorem enumL_len : ∀ (ds : List D) (i : Nat), (enumL i ds).length = ds.length
  | [], _ => rfl
  | _ :: ds, i => by rw [enumL, List.length_cons, List.length_cons, enumL_len ds]
theorem enumL_get : ∀ (ds : List D) (k i : Nat) (e : D), (enumL k ds)[i]? = some e → ∃ d, ds[i]? = some d ∧ e = .tup [.int (k + i : Nat), d]
  | [], _, i, _, h => by simp [enumL] at h
  | d :: ds, k, 0, e, h => by
    simp [enumL] at h
    exact ⟨d, rfl, h.symm⟩
  | d :: ds, k, i + 1, e, h => by
    rw [enumL, List.getElem?_cons_succ] at h
    obtain ⟨d', q1, q2⟩ := enumL_get ds (k + 1) i e h
    exact ⟨d', by simpa using q1, by rw [q2]; congr 4; omega⟩
theorem grow_tup {g : Gm} {G H : Hp} {ds : List D} {vs : List V} {p : Addr} (hx : Ex G H) (hp : H p = none) (r : Rps g G ds vs) : Grow G H (upd G p (.tup vs)) (upd H p (.tup vs)) ∧ Rp g (upd G p (.tup vs)) (.tup ds) (.ref p) := by
  have hG : G p = none := by
    cases e : G p with
    | none => rfl
    | some u => rw [hx p u e] at hp; cases hp
  refine ⟨⟨Ex.new hG, Ex.new hp, fun a u e => ?_, fun a h => ?_⟩, p, vs, rfl, upd_same, Rps.mono (Ex.new hG) _ _ r⟩
  · by_cases ea : a = p
    · subst ea; rw [upd_same] at e ⊢; exact e
    · rw [upd_ne ea] at e ⊢; exact hx a u e
  · by_cases ea : a = p
    · subst ea; exact .inr (.inl hp)
    · rw [upd_ne ea] at h; exact .inl h
theorem walk_enumL {g : Gm} {G : Hp} {a : Addr} {ds : List D} {vs : List V} (h1 : SqL g.K G a vs) (h2 : Rps g G ds vs) : Walk g G (enumL 0 ds) (Ite g.K a) where
  go := fun G' H' i e x hi => by
    have hi' : i < vs.length := by rw [h2.length]; rw [enumL_len] at hi; exact hi
    exact ⟨vs, vs[i], ex_l x (ex_l e h1), by simp [hi']⟩
  yld := fun G' H' i x H'' d e hx hd y => by
    obtain ⟨T, z, rfl, hT, rfl, y⟩ := y
    obtain ⟨d', q1, rfl⟩ := enumL_get ds 0 i d hd
    obtain ⟨v, q2, q3⟩ := h2.get q1
    have q := y vs (ex_l hx (ex_l e h1))
    rw [q2] at q
    cases q
    rw [Nat.zero_add]
    exact ⟨_, grow_tup hx hT (Rps.cons (d := .int (i : Nat)) rfl (Rps.one (Rp.mono e _ _ q3)))⟩
  stop := fun G' H' i e x hi => ⟨vs, ex_l x (ex_l e h1), by rw [h2.length]; rw [enumL_len] at hi; exact Nat.le_of_eq hi⟩
theorem walk_enumS {g : Gm} {G : Hp} (x : List Nat) : Walk g G (enumL 0 (chars x)) (ItE (S x)) where
  go := fun G' H' i e hx hi => by
    show i < (S x).cps.size
    have : (S x).cps.size = x.length := S_len x
    rw [enumL_len] at hi
    rw [this]; simpa [chars] using hi
  yld := fun G' H' i v H'' d e hx hd y => by
    obtain ⟨T, c, rfl, hT, rfl, q1⟩ := y
    have q1 : x[i]? = some c := by
      have : (S x).cps[i]? = x[i]? := by simp [S]
      rw [← this]; exact q1
    obtain ⟨d', q2, rfl⟩ := enumL_get _ 0 i d hd
    have : d' = .str [c] := by
      unfold chars at q2
      rw [List.getElem?_map, q1] at q2
      exact (Option.some.inj q2).symm
    subst this
    rw [Nat.zero_add]
    exact ⟨_, grow_tup hx hT (Rps.cons (d := .int (i : Nat)) rfl (Rps.one (d := .str [c]) rfl))⟩
  stop := fun G' H' i e hx hi => by
    have hi := Nat.le_of_eq hi
    show (S x).cps.size ≤ i
    have : (S x).cps.size = x.length := S_len x
    rw [enumL_len] at hi
    rw [this]; simpa [chars] using hi
noncomputable def iEnum' (d : Den) : IDen := fun env => (d env).bind fun p => match fz p.1 p.2 with
  | some (.lst ds, e1) => .ok (enumL 0 ds, e1)
  | some (.str x, e1) => .ok (enumL 0 (chars x), e1)
  | _ => .bad
theorem si_enum {X : Cx} {e : Expr} {d : Den} {p pos tpos : Pos} {elts : List Expr} {kk : Nat} (hg : Gl X "enumerate") (hm : X.mg "enumerate" = none) (he : SE X e d) (hs : starEach [e] X.env = [(false, eval e X.env)] := by rfl) :
    SI X (.Tuple elts kk tpos) (.Call (.Name "enumerate" p) [e] [] pos) (iEnum' d) := fun W tk => pi_imp (pi_enumA hg hm (pa_cons (he W tk) pa_nil hs) hs) fun σ H Q ⟨P0, env, G, s, q⟩ =>
  te_src s Tr.refl q fun v env1 G1 x H1 s1 t1 u1 w1 q1 => by
    simp only at q1
    split at q1
    · rename_i ds e1 ef
      obtain ⟨G2, s2, u2, a, vs, ex, h1, h2⟩ := fz_now s1 u1 w1 ef
      subst ex
      exact .inl ⟨a, vs, rfl, ex_l s2.ex h1, q1 _ G2 H1 s2 u2 (walk_enumL h1 h2)⟩
    · rename_i y e1 ef
      obtain ⟨G2, s2, u2, ex⟩ := fz_now s1 u1 w1 ef
      rw [show x = V.str (S y) from ex]
      exact .inr ⟨S y, rfl, q1 _ G2 H1 s2 u2 (walk_enumS y)⟩
    · exact q1.elim
end G
set_option Elab.async false
set_option linter.all false
set_option maxRecDepth 100000
set_option maxHeartbeats 4000000
namespace G
open PySem PySem.Spec PyProof.Rows L2 SX Evl
section
variable {g : Gm} {P0 : Nat → Option Addr} {env env' : Env} {σ σ' : L2.St} {G H G' H' G0 H0 : Hp} {p : Addr} {o : HO} {M M' M0 M1 M2 : Addr → Prop}
theorem cl_side (hn : ¬ M p) {a : Addr} : OCl M (upd H p o) a ↔ OCl M H a := by
  constructor
  · rintro ⟨q, h1, h2⟩
    exact ⟨q, h1, h2.eq (upd_ne fun z => hn (by rw [← z]; exact h1)).symm.symm⟩
  · rintro ⟨q, h1, h2⟩
    exact ⟨q, h1, h2.eq (upd_ne fun z => hn (by rw [← z]; exact h1)).symm⟩
theorem Sim.side (hs : Sim g P0 env σ G H) (hG : G p = none) (hn : ¬ OCl (OA env σ) H p) : Sim g P0 env σ G (upd H p o) where
  ex := fun a u e => by
    rw [upd_ne (fun z => by rw [z, hG] at e; cases e)]
    exact hs.ex a u e
  len := hs.len
  im := hs.im
  ow := fun i s d h h' => by
    obtain ⟨q, h1, h2⟩ := hs.ow i s d h h'
    exact ⟨q, h1, h2.later (Ex.refl G) fun a z1 z2 _ => ⟨z2, upd_ne fun y => hn ⟨q, ⟨i, s, d, h, h', h1⟩, by rw [← y]; exact z1⟩⟩⟩
  dis := hs.dis
  io := hs.io
  pv := fun i j s t d e q r a a1 a2 a3 a4 a5 a6 a7 a8 =>
    hs.pv i j s t d e q r a a1 a2 a3 a4 a5 a6 (a7.eq (upd_ne fun y => hn (oa_cl ⟨i, s, d, a1, a2, by rw [← y]; exact a5⟩)).symm.symm) (a8.eq (upd_ne fun y => hn (oa_cl ⟨j, t, e, a3, a4, by rw [← y]; exact a6⟩)).symm.symm)
theorem Tr.side (t : Tr M0 G0 H0 M G H) (hp : H0 p = none) (hm : ¬ M p) : Tr M0 G0 H0 M G (upd H p o) where
  ex := t.ex
  keep := fun a u ha e => by
    rw [upd_ne (fun z => by rw [z, hp] at e; cases e)]
    exact t.keep a u ha e
  gnew := t.gnew
  own := fun r a hr ha => t.own r a hr (ha.eq (upd_ne fun z => hm (by rw [← z]; exact hr)).symm.symm)
  dom := fun a e => by
    by_cases z : a = p
    · rw [z]; exact hp
    · rw [upd_ne z] at e; exact t.dom a e
theorem Tr.less (t : Tr M0 G0 H0 M G H) (h : ∀ a, M' a → M a) : Tr M0 G0 H0 M' G H := ⟨t.ex, t.keep, t.gnew, fun r a hr ha => t.own r a (h r hr) ha, t.dom⟩
theorem Tr.more (t : Tr M0 G0 H0 M G H) (h : ∀ a, M0 a → M1 a) : Tr M1 G0 H0 M G H := ⟨t.ex, fun a o ha => t.keep a o fun q => ha (q.mono h), fun a q => (t.gnew a q).imp id fun r => r.imp id fun z => z.imp (fun y => y.mono h) id, fun r a hr ha => (t.own r a hr ha).imp (fun z => ⟨h r z.1, z.2⟩) id, t.dom⟩
structure Held (p : Addr) (o : HO) (M : Addr → Prop) (G H : Hp) : Prop where
  m : ¬ OCl M H p
  g : G p = none
  h : H p = some o
theorem Held.tr (h : Held p o M G H) (t : Tr M G H M' G' H') (hn : ∀ xs, o ≠ .tup xs) : Held p o M' G' H' where
  m := fun q => by
    rcases t.ocl p q with z | z
    · exact h.m z
    · rw [h.h] at z; cases z
  g := by
    cases e : G' p with
    | none => rfl
    | some u =>
      rcases t.gnew p (by rw [e]; simp) with z | z | z | ⟨xs, z⟩
      · exact absurd h.g z
      · rw [h.h] at z; cases z
      · exact absurd z h.m
      · rw [h.h] at z; exact absurd (Option.some.inj z) (hn xs)
  h := t.keep p o h.m h.h
theorem Held.upd (h : ¬ OCl M H p) (hg : G p = none) : Held p o M G (upd H p o) := ⟨fun z => h ((cl_side fun y => h (OCl.top y)).mp z), hg, upd_same⟩
theorem Held.vr {d : D} (h : Held p o M G H) (hc : Co g G d o) (hm : ∀ a, OA env σ a → M a) (h0 : H0 p = none) : VR g env σ H0 G H (.ow d) (.ref p) :=
  ⟨p, rfl, ⟨h.g, o, h.h, hc.x⟩, fun a z q => by rw [hc.cel h.h z] at q; exact h.m (q.mono hm), fun a z => by rw [hc.cel h.h z]; exact h0⟩
noncomputable def wipeE (env : Env) : List Nat → Env
  | [] => env
  | v :: vs => (wipeE env vs).set v .no
noncomputable def plainAt (env : Env) (vs : List Nat) : Bool := vs.all fun v => match env[v]? with
  | some .no => true
  | some (.im _) => true
  | _ => false
noncomputable def back (env0 env : Env) : List Nat → Env
  | [] => env
  | v :: vs => match env0[v]? with
    | some s => (back env0 env vs).set v s
    | none => back env0 env vs
theorem wipeE_len (env : Env) : ∀ vs : List Nat, (wipeE env vs).length = env.length
  | [] => rfl
  | v :: vs => by unfold wipeE; rw [List.length_set, wipeE_len env vs]
theorem wipeE_own {env : Env} {i : Nat} {s : Slot} : ∀ {vs : List Nat}, (wipeE env vs)[i]? = some s → s = .no ∨ (i ∉ vs ∧ env[i]? = some s)
  | [], h => .inr ⟨by simp, h⟩
  | v :: vs, h => by
    unfold wipeE at h
    by_cases hv : v = i
    · subst hv
      by_cases hl : v < (wipeE env vs).length
      · rw [List.getElem?_set_self hl] at h
        exact .inl (Option.some.inj h).symm
      · rw [List.getElem?_eq_none (by rw [List.length_set]; omega)] at h
        cases h
    · rw [List.getElem?_set_ne hv] at h
      rcases wipeE_own h with q | ⟨q1, q2⟩
      · exact .inl q
      · exact .inr ⟨by simp [q1, Ne.symm hv], q2⟩
theorem back_len (env0 env : Env) : ∀ vs : List Nat, (back env0 env vs).length = env.length
  | [] => rfl
  | v :: vs => by
    unfold back
    split
    · rw [List.length_set, back_len env0 env vs]
    · exact back_len env0 env vs
theorem back_own {env0 env : Env} {i : Nat} {s : Slot} (hl : env.length = env0.length) : ∀ {vs : List Nat}, (back env0 env vs)[i]? = some s → (i ∈ vs ∧ env0[i]? = some s) ∨ (i ∉ vs ∧ env[i]? = some s)
  | [], h => .inr ⟨by simp, h⟩
  | v :: vs, h => by
    unfold back at h
    split at h
    · rename_i u hu
      by_cases hv : v = i
      · subst hv
        have : v < (back env0 env vs).length := by rw [back_len, hl]; exact (List.getElem?_eq_some_iff.mp hu).1
        rw [List.getElem?_set_self this] at h
        exact .inl ⟨by simp, by rw [hu, h]⟩
      · rw [List.getElem?_set_ne hv] at h
        rcases back_own hl h with ⟨q1, q2⟩ | ⟨q1, q2⟩
        · exact .inl ⟨by simp [q1], q2⟩
        · exact .inr ⟨by simp [q1, Ne.symm hv], q2⟩
    · rename_i hu
      rcases back_own hl h with ⟨q1, q2⟩ | ⟨q1, q2⟩
      · exact .inl ⟨by simp [q1], q2⟩
      · refine .inr ⟨?_, q2⟩
        by_cases hv : i = v
        · subst hv
          have := (List.getElem?_eq_some_iff.mp q2).1
          rw [List.getElem?_eq_none_iff] at hu
          omega
        · simp [q1, hv]
theorem wipe_but {ix vs : List Nat} (h : But ix σ σ') (hs : ∀ i ∈ ix, i ∈ vs) : wipe σ' vs = wipe σ vs := by
  have key : ∀ (ws : List Nat) (j : Nat), j ∈ ws → ∀ ρ : L2.St, (wipe ρ ws)[j]? = if j < ρ.length then some none else none := by
    intro ws
    induction ws with
    | nil => intro j hj; simp at hj
    | cons v ws ih =>
      intro j hj ρ
      show ((wipe ρ ws).set v none)[j]? = _
      by_cases hv : v = j
      · subst hv
        rw [List.getElem?_set, if_pos rfl, wipe_length]
      · rw [List.getElem?_set_ne hv]
        refine ih j ?_ ρ
        simpa [Ne.symm hv] using hj
  refine List.ext_getElem? fun j => ?_
  by_cases hj : j ∈ vs
  · rw [key vs j hj, key vs j hj, h.1]
  · rw [wipe_out hj, wipe_out hj]
    exact h.2 j fun z => hj (hs j z)
theorem Sim.wipe (hs : Sim g P0 env σ G H) (vs : List Nat) : Sim g P0 (wipeE env vs) (wipe σ vs) G H where
  ex := hs.ex
  len := by rw [wipeE_len, wipe_length]; exact hs.len
  im := fun i d h => by
    rcases wipeE_own h with q | ⟨q1, q2⟩
    · cases q
    · rw [wipe_out q1]; exact hs.im i d q2
  ow := fun i s d h h' => by
    rcases wipeE_own h with q | ⟨q1, q2⟩
    · subst q; cases h'
    · rw [wipe_out q1]; exact hs.ow i s d q2 h'
  dis := fun i j s t d e p h1 h2 h3 h4 h5 h6 => by
    rcases wipeE_own h1 with q | ⟨q1, q2⟩
    · subst q; cases h2
    rcases wipeE_own h3 with q | ⟨q3, q4⟩
    · subst q; cases h4
    rw [wipe_out q1] at h5
    rw [wipe_out q3] at h6
    exact hs.dis i j s t d e p q2 h2 q4 h4 h5 h6
  io := fun i d h => by
    rcases wipeE_own h with q | ⟨q1, q2⟩
    · cases q
    · rw [wipe_out q1]; exact hs.io i d q2
  pv := fun i j s t d e p r a h1 h2 h3 h4 h5 h6 h7 h8 => by
    rcases wipeE_own h1 with q | ⟨q1, q2⟩
    · subst q; cases h2
    rcases wipeE_own h3 with q | ⟨q3, q4⟩
    · subst q; cases h4
    rw [wipe_out q1] at h5
    rw [wipe_out q3] at h6
    exact hs.pv i j s t d e p r a q2 h2 q4 h4 h5 h6 h7 h8
theorem oa_wipe {vs : List Nat} {a : Addr} (h : OA (wipeE env vs) (wipe σ vs) a) : OA env σ a := by
  obtain ⟨i, s, d, h1, h2, h3⟩ := h
  rcases wipeE_own h1 with q | ⟨q1, q2⟩
  · subst q; cases h2
  · rw [wipe_out q1] at h3; exact ⟨i, s, d, q2, h2, h3⟩
theorem plain_slot {vs : List Nat} (h : plainAt env vs = true) {i : Nat} {s : Slot} (hi : i ∈ vs) (e : env[i]? = some s) : s = .no ∨ ∃ d, s = .im d := by
  have := (List.all_eq_true.mp h) i hi
  rw [e] at this
  cases s with
  | no => exact .inl rfl
  | im d => exact .inr ⟨d, rfl⟩
  | ow d => cases this
  | io d => cases this
theorem Sim.home {vs : List Nat} {G1 : Hp} (h0 : ∀ (i : Nat) (d : D), env[i]? = some (Slot.im d) → ∃ v, σ[i]? = some (some v) ∧ Rp g G1 d v) (hl : env.length = σ.length) (hp : plainAt env vs = true) (hx : Ex G1 G') (hs : Sim g P0 env' (L2.wipe σ vs) G' H') :
    Sim g P0 (back env env' vs) σ G' H' ∧ ∀ a, OA (back env env' vs) σ a → OA env' (L2.wipe σ vs) a := by
  have hl' : env'.length = env.length := by rw [hs.len, wipe_length, hl]
  have own : ∀ (i : Nat) s d, (back env env' vs)[i]? = some s → s.own = some d → i ∉ vs ∧ env'[i]? = some s ∧ (L2.wipe σ vs)[i]? = σ[i]? := fun i s d h h' => by
    rcases back_own hl' h with ⟨q1, q2⟩ | ⟨q1, q2⟩
    · rcases plain_slot hp q1 q2 with q | ⟨e, q⟩ <;> (subst q; cases h')
    · exact ⟨q1, q2, wipe_out q1⟩
  refine ⟨⟨hs.ex, by rw [back_len, hl', hl], fun i d h => ?_, fun i s d h h' => ?_, fun i j s t d e p h1 h2 h3 h4 h5 h6 => ?_, fun i d h => ?_, fun i j s t d e p r a h1 h2 h3 h4 h5 h6 h7 h8 => ?_⟩, fun a ⟨i, s, d, h1, h2, h3⟩ => ?_⟩
  · rcases back_own hl' h with ⟨q1, q2⟩ | ⟨q1, q2⟩
    · obtain ⟨v, a1, a2⟩ := h0 i d q2
      exact ⟨v, a1, Rp.mono hx _ _ a2⟩
    · rw [← wipe_out (σ := σ) q1]; exact hs.im i d q2
  · obtain ⟨q1, q2, q3⟩ := own i s d h h'
    rw [← q3]; exact hs.ow i s d q2 h'
  · obtain ⟨q1, q2, q3⟩ := own i s d h1 h2
    obtain ⟨q4, q5, q6⟩ := own j t e h3 h4
    exact hs.dis i j s t d e p q2 h2 q5 h4 (by rw [q3]; exact h5) (by rw [q6]; exact h6)
  · obtain ⟨q1, q2, q3⟩ := own i _ d h rfl
    rw [← q3]; exact hs.io i d q2
  · obtain ⟨q1, q2, q3⟩ := own i s d h1 h2
    obtain ⟨q4, q5, q6⟩ := own j t e h3 h4
    exact hs.pv i j s t d e p r a q2 h2 q5 h4 (by rw [q3]; exact h5) (by rw [q6]; exact h6) h7 h8
  · obtain ⟨q1, q2, q3⟩ := own i s d h1 h2
    exact ⟨i, s, d, q2, h2, by rw [q3]; exact h3⟩
end
noncomputable def dYes : Den := fun env => .ok (.im (.bl true), env)
noncomputable def lcT (td : TDen) (c e : Den) (vs : List Nat) (rest : Env → R Env (List D × Env)) (d : D) : Env → R Env (List D × Env) := fun env => opt (td d env) fun e1 => match c e1 with
  | .ok (v, e2) => opt (tru v e2) fun b => if b = true then (match e e2 with
      | .ok (u, e3) => opt (fz u e3) fun q => match rest (wipeE q.2 vs) with
        | .ok (r, e4) => .ok (q.1 :: r, e4)
        | _ => .bad
      | _ => .bad) else rest (wipeE e2 vs)
  | _ => .bad
noncomputable def lcL (td : TDen) (c e : Den) (vs : List Nat) : List D → Env → R Env (List D × Env)
  | [], env => .ok ([], env)
  | d :: ds, env => lcT td c e vs (lcL td c e vs ds) d env
noncomputable def dLc (src : IDen) (td : TDen) (c e : Den) (vs : List Nat) : Den := fun env => (src env).bind fun p => if plainAt p.2 vs = true ∧ p.1.length ≤ LINE then (match lcL td c e vs p.1 (wipeE p.2 vs) with
  | .ok (r, e2) => .ok (.ow (.lst r), back p.2 e2 vs)
  | _ => .bad) else .bad
noncomputable def WF : WX := fun _ _ _ _ => False
theorem takesF {X : Cx} {s : Shared} {H : Hp} {scope : Scope} {cenv : PySem.Env} {fp : List Addr} : Takes (X.blk s H scope cenv fp) WF := fun u s' ⟨_, _, _, _, _, _, _, _, _, _, _, _, _, _, _, _, w⟩ => w.elim
section
variable {X : Cx} {tg iter elt : Expr} {ifs : List Expr} {scope : Scope} {own : List (Str × Nat)} {src : IDen} {td : TDen} {c e : Den} {gt : TG} {ix : List Nat} {pos : Pos}
theorem lcT_ok {vs : List Nat} {td : TDen} {c e : Den} {d : D} {rest : Env → R Env (List D × Env)} {env env' : Env} {r : List D} (h : lcT td c e vs rest d env = .ok (r, env')) :
    ∃ e1 b e2, td d env = some e1 ∧ (∃ v, c e1 = .ok (v, e2) ∧ tru v e2 = some b) ∧ (b = true → ∃ u e3 q r', e e2 = .ok (u, e3) ∧ fz u e3 = some q ∧ rest (wipeE q.2 vs) = .ok (r', env') ∧ r = q.1 :: r') ∧ (b = false → rest (wipeE e2 vs) = .ok (r, env')) := by
  unfold lcT at h
  cases h1 : td d env with
  | none => rw [h1] at h; cases h
  | some e1 =>
    rw [h1] at h
    simp only [opt] at h
    cases h2 : c e1 with
    | bad => rw [h2] at h; cases h
    | err _ _ => rw [h2] at h; cases h
    | ok p =>
      obtain ⟨v, e2⟩ := p
      rw [h2] at h
      simp only at h
      cases h3 : tru v e2 with
      | none => rw [h3] at h; cases h
      | some b =>
        rw [h3] at h
        simp only at h
        refine ⟨e1, b, e2, rfl, ⟨v, h2, h3⟩, fun hb => ?_, fun hb => ?_⟩
        · rw [if_pos hb] at h
          cases h4 : e e2 with
          | bad => rw [h4] at h; cases h
          | err _ _ => rw [h4] at h; cases h
          | ok p =>
            obtain ⟨u, e3⟩ := p
            rw [h4] at h
            simp only at h
            cases h5 : fz u e3 with
            | none => rw [h5] at h; cases h
            | some q =>
              rw [h5] at h
              simp only at h
              cases h6 : rest (wipeE q.2 vs) with
              | bad => rw [h6] at h; cases h
              | err _ _ => rw [h6] at h; cases h
              | ok p =>
                obtain ⟨r', e4⟩ := p
                rw [h6] at h
                cases h
                exact ⟨u, e3, q, r', rfl, h5, h6, rfl⟩
        · rw [if_neg (by rw [hb]; exact Bool.false_ne_true)] at h
          exact h
theorem lc_ok {g : Gm} {W : WX} {σ : L2.St} {H : Hp} {Q : VK} {vs : List Nat} {tt : TT} (hg : TgOk g gt td ix) (hix : ∀ i ∈ ix, i ∈ vs) (htt : ∀ σ H Q, tB (teOf g WF c) σ H Q → tt σ H Q)
    (h : teOf g W (dLc src td c e vs) σ H Q) : tLc (tiOf g W src) gt tt (teOf g WF e) vs σ H Q := by
  obtain ⟨P0, env, G, s, q⟩ := h
  refine ⟨P0, env, G, s, ?_⟩
  unfold dLc at q
  cases es : src env with
  | bad => rw [es] at q; exact q.elim
  | err k e1 => rw [es] at q; exact q
  | ok p =>
    obtain ⟨ds, env1⟩ := p
    rw [es] at q
    simp only [R.bind] at q
    intro J G1 H1 s1 t1 wk Dl hD
    split at q
    · rename_i hc
      obtain ⟨hpl, hlen⟩ := hc
      split at q
      · rename_i r envz er
        have hDn : H Dl = none := t1.dom _ hD
        have hDG : G1 Dl = none := by
          cases z : G1 Dl with
          | none => rfl
          | some u => rw [s1.ex _ _ z] at hD; cases hD
        have hDO : ¬ OCl (OA env1 σ) H1 Dl := fun z => by
          obtain ⟨_, o, z2⟩ := s1.cl z
          rw [hD] at z2; cases z2
        refine ⟨fun i m H' => ∃ env' G' acc accd r', m = ds.length - i ∧ i ≤ ds.length ∧ accd.length ≤ i ∧ Sim g P0 env' (wipe σ vs) G' H' ∧ Tr (OA env σ) G H (OA env' (wipe σ vs)) G' H' ∧ Ex G1 G' ∧ Held Dl (.lst acc) (OA env' (wipe σ vs)) G' H' ∧ Rps g G' accd acc ∧
          lcL td c e vs (ds.drop i) env' = .ok (r', envz) ∧ r = accd ++ r', ⟨ds.length, wipeE env1 vs, G1, [], [], r, by simp, Nat.zero_le _, Nat.zero_le _, (s1.wipe vs).side hDG (fun z => hDO (z.mono fun _ => oa_wipe)), (t1.less fun a z => oa_wipe z).side hDn (fun z => hDO (oa_cl (oa_wipe z))), Ex.refl _, Held.upd (fun z => hDO (z.mono fun _ => oa_wipe)) hDG, Rps.nil, by rw [List.drop_zero]; exact er, rfl⟩, ?_⟩
        rintro i m H' ⟨env', G', acc, accd, r', rfl, hi, hal, s', t', x', hd', ra, er', e'⟩
        by_cases hlt : i < ds.length
        · rw [List.drop_eq_getElem_cons hlt] at er'
          obtain ⟨e1, b, e2, k1, ⟨v, k2, k3⟩, k4, k5⟩ := lcT_ok er'
          refine .inr ⟨wk.go G' H' i x' s'.ex hlt, _, fun H2 z => ⟨ds.length - (i + 1), by omega, z⟩, fun x H'' y => ?_⟩
          obtain ⟨G'', gr, hr⟩ := wk.yld G' H' i x H'' ds[i] x' s'.ex (by simp [hlt]) y
          have s2 := s'.grow gr.ex gr.exH gr.sub gr.new
          have t2 : Tr (OA env' (wipe σ vs)) G' H' (OA env' (wipe σ vs)) G'' H'' := Tr.grow s'.at gr.ex gr.exH gr.new
          have hd2 := hd'.tr t2 (fun _ z => by cases z)
          refine hg.run P0 env' (wipe σ vs) G'' H'' ds[i] x e1 _ s2 hr k1 fun σ3 b3 s3 t3 => ⟨?_, ?_⟩
          · have := wipe_but b3 hix
            rw [this]
            exact wipe_but (ix := vs) ⟨wipe_length _ _, fun j hj => by rw [wipe_out hj]⟩ (fun _ z => z)
          have t23 := t2.trans t3
          have hw3 : wipe σ3 vs = wipe σ vs := by
            rw [wipe_but b3 hix]
            exact wipe_but (ix := vs) ⟨wipe_length _ _, fun j hj => by rw [wipe_out hj]⟩ (fun _ z => z)
          refine htt _ _ _ ⟨P0, e1, G'', s3, ?_⟩
          rw [k2]
          intro y3 G4 H4 s4 t4 v4
          refine ⟨b, tru_ok s4 v4 k3, ?_⟩
          have t24 := t23.trans t4
          have hd4 := hd2.tr (t3.trans t4) (fun _ z => by cases z)
          have tt4 := t'.trans t24
          have ra4 := Rps.mono t24.ex _ _ ra
          cases b with
          | true =>
            refine iteT ?_
            obtain ⟨u, e3, q4, r4, a1, a2, a3, a4⟩ := k4 rfl
            refine ⟨P0, e2, G4, s4, ?_⟩
            rw [a1]
            intro y5 G5 H5 s5 t5 v5
            obtain ⟨G6, s6, t6, r6⟩ := fz_now s5 t5 v5 a2
            have hd6 := hd4.tr t6 (fun _ z => by cases z)
            have ra6 := Rps.mono t6.ex _ _ ra4
            have s7 := s6.wipe vs
            rw [hw3] at s7
            have t7 := (tt4.trans t6).less (M' := OA (wipeE q4.2 vs) (wipe σ vs)) fun a z => by rw [← hw3] at z; exact oa_wipe z
            have m7 : ¬ OCl (OA (wipeE q4.2 vs) (wipe σ vs)) H5 Dl := fun z => by rw [← hw3] at z; exact hd6.m (z.mono fun _ => oa_wipe)
            refine ⟨acc, hd6.h, by rw [ra.length, line_eq]; omega, wipeE q4.2 vs, G6, acc ++ [y5], accd ++ [q4.1], r4, rfl, hlt, by rw [List.length_append]; simp; omega, s7.side hd6.g m7, t7.side hDn (fun z => m7 (oa_cl z)), (x'.trans t24.ex).trans t6.ex, Held.upd m7 hd6.g, ra6.append (Rps.one r6), a3, by rw [e', a4]; simp⟩
          | false =>
            refine iteF ?_
            have s7 := s4.wipe vs
            rw [hw3] at s7
            have t7 := tt4.less (M' := OA (wipeE e2 vs) (wipe σ vs)) fun a z => by rw [← hw3] at z; exact oa_wipe z
            have m7 : ¬ OCl (OA (wipeE e2 vs) (wipe σ vs)) H4 Dl := fun z => by rw [← hw3] at z; exact hd4.m (z.mono fun _ => oa_wipe)
            exact ⟨wipeE e2 vs, G4, acc, accd, r', rfl, hlt, by omega, s7, t7, x'.trans t24.ex, ⟨m7, hd4.g, hd4.h⟩, ra4, k5 rfl, e'⟩
        · have hi' : ds.length ≤ i := by omega
          refine .inl ⟨wk.stop G' H' i x' s'.ex (by omega), ?_⟩
          rw [List.drop_eq_nil_of_le hi'] at er'
          cases er'
          rw [List.append_nil] at e'
          subst e'
          obtain ⟨s8, o8⟩ := Sim.home (env := env1) (G1 := G1) (fun i d h => s1.im i d h) s1.len hpl x' s'
          exact q (.ref Dl) G' H' s8 (t'.less o8) (hd'.vr ⟨acc, rfl, ra⟩ o8 hDn)
      · exact q.elim
    · exact q.elim
noncomputable def ttOf (g : Gm) : Option Den → TT
  | none => tYes
  | some c => tB (teOf g WF c)
noncomputable def cOf : Option Den → Den
  | none => dYes
  | some c => c
noncomputable def STs (X : Cx) (ifs : List Expr) (c : Option Den) : Prop := Takes X WF → PTs X ifs (ttOf (gm X) c)
theorem sts_nil : STs X [] none := fun _ => pts_nil
theorem sts_one {t : Expr} (h : ST X t c) : STs X [t] (some c) := fun tk => pts_one (h WF tk)
theorem tt_of {g : Gm} (c : Option Den) (σ : L2.St) (H : Hp) (Q : Bool → Hp → Prop) (h : tB (teOf g WF (cOf c)) σ H Q) : ttOf g c σ H Q := by
  cases c with
  | none =>
    obtain ⟨P0, env, G, s, q⟩ := h
    obtain ⟨k, e, q⟩ := q (.bl true) G H s Tr.refl rfl
    cases e
    exact q
  | some c => exact h
noncomputable abbrev CB (X : Cx) (scope : Scope) (P : Cx → Prop) : Prop := ∀ (s : Shared) (H : Hp) (C : Addr) (cl : List (Str × Addr)) (fp : List Addr), P (X.blk s H scope (compEnvC scope cl C X.env) fp)
end
end G
set_option Elab.async false
set_option linter.all false
set_option maxRecDepth 100000
set_option maxHeartbeats 4000000
namespace G
open PySem PySem.Spec PyProof.Rows L2 SX Evl
structure FnG (P : Program) (w : World) (K : PySem.W.Frag) (mg : Str → Option Value) (base : Heap) (XC : CXT) (k : Nat) (f : Addr) (fd : FuncData) (ps : List Str) (sp : Sp) : Prop where
  len : ∀ vs H Q E, sp vs H Q E → vs.length = ps.length
  go : ∀ (A : Around) (up : List PySem.Env) (s : Shared) (H : Hp) (ar : Args) (us : List Value) (vs : List V) (Q : VK) (E : XK), A.guards = some [] → Room k A →
    Env0 P w K mg base A up s H → BindsTo s fd ar (ps.zip us) → Vals vs us → sp vs H Q E → codeAny (model P w) A (.call (.ref f) ar) (CR XC up P w H s Q E) s
section
variable {P : Program} {w : World} {K : PySem.W.Frag} {mg : Str → Option Value} {base : Heap} {XC : CXT} {k : Nat} {f : Addr} {fd : FuncData} {ps N : List Str} {sp sp' : Sp}
theorem FnG.imp (F : FnG P w K mg base XC k f fd ps sp) (i : ∀ vs H Q E, sp' vs H Q E → sp vs H Q E) : FnG P w K mg base XC k f fd ps sp' where
  len vs H Q E q := F.len vs H Q E (i _ _ _ _ q)
  go A up s H ar us vs Q E g r e b v q := F.go A up s H ar us vs Q E g r e b v (i _ _ _ _ q)
theorem fnG_of {name qual : Str} {prm : Arguments} {body : List Stmt} {sc : Scope} {dV kV dc pm cdv ct oc : Value} {an od : Option Addr} {osl : Array (Option Value)}
    (lk : K.lookup f = some ⟨oc, od, .func (PySem.W.fnOf name qual prm body sc dV kV dc pm an cdv ct), osl⟩) (hcd : PySem.W.codeIn K cdv qual = true) (S : FnScope N ps sc)
    (hl : ∀ vs H Q E, sp vs H Q E → vs.length = ps.length)
    (hb : ∀ (A : Around) (up : List PySem.Env) (s : Shared) (H : Hp) (vs : List V) (Q : VK) (E : XK), (A.deeper (envOfC qual sc s.heap.objs.size f cdv)).guards = some [] → Room k (A.deeper (envOfC qual sc s.heap.objs.size f cdv)) → sp vs H Q E →
      ∃ t, PSs (cxOf XC P w K mg base N qual sc f cdv A up s H E) body t ∧ t { nx := fun _ G => Q .non G, rt := Q } (start N vs) H) :
    FnG P w K mg base XC (k + 1) f (PySem.W.fnOf name qual prm body sc dV kV dc pm an cdv ct) ps sp := by
  constructor
  · exact hl
  intro A up s H ar us vs Q E hg room e0 bd rv q
  have still : ∀ b o, base.get? b = some o → s.heap.get? b = some o := fun b o e => (e0.bs b o e).1
  have KX : K.In s.heap := e0.mod.kin.keeps still
  have ki : ∀ y ∈ ps.zip us, sc.names.lookup y.1 = some .local ∨ (sc.names.lookup y.1 = some .cell ∧ ((cellsFrom (s.heap.objs.size + 1) sc.names []).lookup y.1).isSome = true) := by
    intro y hy
    obtain ⟨n, u⟩ := y
    exact (S.par n (List.of_mem_zip hy).1).imp (fun z => z) fun z => ⟨z, PySem.W.cellsFrom_some _ _ _ (.inl z)⟩
  apply codeAny_call_function room.depth (KX _ _ lk) rfl S.co S.gen rfl (PySem.W.codeRec_of KX hcd) (bd _ _ _ _ _)
  apply wpAny_newFunctionEnv_cells S.kind ki
  intro env he s1 x
  subst he
  refine ⟨(e0.mod.nolimit.keeps still).keeps x.toInCall.keep, codeAny_func ?_⟩
  obtain ⟨t, ht, hq⟩ := hb A up s H vs Q E hg (room.deeper _) q
  have I := inv_start (CX := XC) (w := w) (f := f) (cd := cdv) (qual := qual) (E := E) S room.hd e0 (hl _ _ _ _ q) rv x
  apply wpAny_mono (ht.run [] s1 (start N vs) H _ I hq) _ fun e s' z => z
  intro fl s' z
  cases fl with
  | ret u =>
    obtain ⟨v, σ', H', J, r, q⟩ := z
    exact ⟨v, H', J.os, J.bare, J.base, J.hok, r, q⟩
  | next =>
    obtain ⟨σ', H', J, q⟩ := z
    exact ⟨V.non, H', J.os, J.bare, J.base, J.hok, rfl, q⟩
  | brk => obtain ⟨_, _, _, q⟩ := z; exact False.elim q
  | cont => obtain ⟨_, _, _, q⟩ := z; exact False.elim q
end
section
variable {X : Cx} {XC : CXT} {k : Nat} {f : Addr} {fd : FuncData} {ps : List Str} {sp : Sp} {E : L2.St → XK} {x : Str} {p pos : Pos} {e : Expr} {es : List Expr} {t : TA}
theorem pe_callG (F : FnG X.prog X.w X.K X.mg X.base XC k f fd ps sp) (hgd : X.A.guards = some []) (room : Room k X.A) (hg : Gl X x) (hm : X.mg x = some (.ref f)) (hk : PySem.W.keepIn X.K (.ref f) = true) (hb : Binds X.K fd ps [])
    (hx : ∀ σ, PassesAt XC X σ (E σ)) (ha : PA X (e :: es) t) (hdb : (x == ("__debug__" : Str)) = false := by decide) (he : starEach (e :: es) X.env = (false, eval e X.env) :: starEach es X.env := by rfl)
    (hpl : (backTo pos (starEach es X.env)).any (·.1) = false := by rfl) : PE X (.Call (.Name x p) (e :: es) [] pos) (tCallS sp E t) := by
  constructor
  intro pins s σ H Q I h
  apply wpAny_Call_Name_kw (ld_glob I hg hm ?_ hdb)
  apply PySem.W.callWith_K (h₀ := X.base) I.ok.mod.kin hk (thn (ha.run pos pins s σ H _ I h) ?_) he hpl
  rintro us s1 ⟨vs, H1, I1, r, q⟩
  refine ⟨I1.kIn, ?_⟩
  have n : us.length = ps.length := r.length.symm.trans (F.len _ _ _ _ q)
  have b := hb s1 us I1.kIn (by rw [List.append_nil]; exact n)
  rw [List.append_nil] at b
  apply wpAny_call (codeAny_mono (F.go X.A X.stack s1 H1 ⟨us, []⟩ us vs Q (E σ) hgd room I1.env0 b r q) _)
  intro z s2 hz
  cases z with
  | error u => exact hx σ pins H1 s1 u s2 I1 hz
  | ok fl => cases fl with
    | ret u => exact I1.after hz
    | next => exact hz.elim
    | brk => exact hz.elim
    | cont => exact hz.elim
end
noncomputable def scriptHp (a : Addr) (o : Obj) (ns : List Int) (own : Bool) : Hp := fun b => if own = true then none else if b = a then some (.frz o (.lst (ns.map V.int))) else none
theorem law_callG {P : Program} {w : World} {K : PySem.W.Frag} {mg mb : Str → Option Value} {XC : CXT} {k : Nat} {fa a : Addr} {fd : FuncData} {x : Str} {sp : Sp} {s : Shared} {vs : List Value} {ns : List Int}
    (KX : K.In s.heap) (h1 : s.heap.Ns mainGlobals mg) (h2 : s.heap.Ns builtinsNs mb) (h3 : ∀ x : Str, x ≠ "__name__" → mb x = bootBuiltins x) (h4 : s.heap.NoLimit) (h5 : s.gens = #[])
    (h6 : s.heap.get? a = some { cls := .type "list", data := .seq vs.toArray }) (hi : IntsAre vs ns) (hl : ns.length ≤ sizeLine) (room : Room k callerA)
    (F : ∀ base : Heap, K.In base → base.Ns mainGlobals mg → FnG P w K mg base XC k fa fd [x] sp) (hb : ∀ (s : Shared) (u : Value), BindsTo s fd ⟨[u], []⟩ [(x, u)])
    (hsp : ∀ H : Hp, SqL K H a (ns.map V.int) → sp [.ref a] H (fun v _ => v = .bl true) fun _ _ _ => False)
    (hXC : ∀ H e s', XC [] H s (fun _ _ _ => False) e s' → False) :
    codeAny (model P w) callerA (.call (.ref fa) ⟨[.ref a], []⟩) (fun r s' => r = .ok (.ret (.bool true)) ∧ OldK s.heap s'.heap ∧ s'.os = s.os ∧ AllBare s'.gens) s := by
  have rv := vals_ints hi
  have core : ∀ own : Bool, (own = false → K.lookup a = none) → SqL K (scriptHp a { cls := .type "list", data := .seq vs.toArray } ns own) a (ns.map V.int) →
      codeAny (model P w) callerA (.call (.ref fa) ⟨[.ref a], []⟩) (fun r s' => r = .ok (.ret (.bool true)) ∧ OldK s.heap s'.heap ∧ s'.os = s.os ∧ AllBare s'.gens) s := by
    intro own hK hS
    obtain ⟨H, eH⟩ : ∃ H, H = scriptHp a { cls := .type "list", data := .seq vs.toArray } ns own := ⟨_, rfl⟩
    rw [← eH] at hS
    have only : ∀ b, H b = none ∨ (own = false ∧ b = a ∧ H b = some (.frz { cls := .type "list", data := .seq vs.toArray } (.lst (ns.map V.int)))) := by
      intro b
      rw [eH]
      unfold scriptHp
      cases own with
      | true => exact .inl rfl
      | false =>
        by_cases q : b = a
        · exact .inr ⟨rfl, q, by rw [if_neg (by decide), if_pos q]⟩
        · exact .inl (by rw [if_neg (by decide), if_neg q])
    have hok : HOk P w H s.heap := by
      intro b u z
      rcases only b with q | ⟨_, rfl, q⟩
      · rw [q] at z; cases z
      · rw [q] at z
        cases z
        exact ⟨h6, by rw [List.length_map]; exact hl, vs, _, rv, h6⟩
    have free : ∀ {b : Addr} {o : Obj}, s.heap.get? b = some o → (∀ es ep, o.data = .dict es ep → True) → (∃ es ep, o.data = .dict es ep) → H b = none := by
      rintro b o e - ⟨es, ep, d⟩
      rcases only b with q | ⟨_, rfl, _⟩
      · exact q
      · rw [h6] at e; cases e; cases d
    have nsK : ∀ {b : Addr} {m : Str → Option Value}, s.heap.Ns b m → (hidT s.heap H).Ns b m := fun {b m} ⟨o, es, ep, e, d, r⟩ => ⟨o, es, ep, hidT_get e (free e (fun _ _ _ => trivial) ⟨es, ep, d⟩), d, r⟩
    have kin : K.In (hidT s.heap H) := by
      intro b o e
      refine hidT_get (KX b o e) ?_
      rcases only b with q | ⟨w1, rfl, _⟩
      · exact q
      · rw [hK w1] at e; cases e
    have hM : Mod K mg (hidT s.heap H) := ⟨kin, nsK h1, ⟨mb, nsK h2, h3⟩, let ⟨mc, q1, q2⟩ := h4; ⟨mc, nsK q1, q2⟩⟩
    have nil : ∀ b : Addr, b ∉ frs ([] : List PySem.Env) := fun b z => by cases z
    have e0 : Env0 P w K mg (hidT s.heap H) callerA [] s H := { frames := rfl, mod := hM, bs := fun b o e => of_hidT e, bsz := Nat.le_of_eq (hidT_size _ _), funs := trivial, frf := fun b z => (nil b z).elim, hok := hok, bare := .of_eq h5 }
    refine codeAny_mono ((F _ kin (nsK h1)).go callerA [] s H ⟨[.ref a], []⟩ [.ref a] [.ref a] _ _ rfl room e0 (hb s (.ref a)) (.cons rfl .nil) (hsp H hS)) ?_
    intro r s' z
    cases r with
    | error e => exact (hXC H e s' z).elim
    | ok fl => cases fl with
      | next => exact False.elim z
      | brk => exact False.elim z
      | cont => exact False.elim z
      | ret u =>
        obtain ⟨v, H', os, bare, un, hok', rr, qq⟩ := z
        obtain rfl : v = .bl true := qq
        obtain rfl : u = Value.bool true := rr
        refine ⟨rfl, OldK.of_keep fun b o e => ?_, os, bare⟩
        rcases only b with q | ⟨_, rfl, q⟩
        · exact un.keep b o e q (nil b) (by simp)
        · obtain ⟨e2, _⟩ := hok' b _ (un.frzs b _ _ q)
          rw [h6] at e
          cases e
          exact e2
  cases hk : K.lookup a with
  | none => exact core false (fun _ => hk) (.inl (.inr ⟨_, by unfold scriptHp; rw [if_neg (by decide), if_pos rfl]⟩))
  | some o =>
    have e := KX a o hk
    rw [h6] at e
    cases e
    exact core true (fun z => by cases z) (.inr ⟨_, vs.toArray, _, hk, rfl, rfl, rfl, by rw [List.size_toArray, hi.length]; exact hl, by simpa using rv⟩)
theorem walk_ofG {l : PySem.W.OpenLaw} {n k : Nat} {q : Program} {loose : List Str} {XP : (Str → Option Value) → Heap → Prop} {YP : World → Heap → Prop} {d : DefRec} {K : Params → PySem.W.Frag} {XC : World → CXT} {sp : World → Sp} {x : Str}
    (hn : l.most = some n) (hn2 : n ≤ sizeLine) (hdf : d.params.defaults = []) (room : Room k callerA) (hY : ∀ (w : World) (h : Heap), YP w h → (K w.params).In h)
    (F : ∀ (w : World) (mg : Str → Option Value) (fa : Addr) (h : Heap), (K w.params).In h → h.Ns mainGlobals mg → mg d.name = some (.ref fa) →
      ∃ fd : FuncData, (∀ (s : Shared) (u : Value), BindsTo s fd ⟨[u], []⟩ [(x, u)]) ∧ ∀ base : Heap, (K w.params).In base → base.Ns mainGlobals mg → FnG l.prog w (K w.params) mg base (XC w) k fa fd [x] (sp w))
    (hsp : ∀ (w : World) (H : Hp) (a : Addr) (ns : List Int), ns.length ≤ n → SqL (K w.params) H a (ns.map V.int) → sp w [.ref a] H (fun v _ => v = .bl true) fun _ _ _ => False)
    (hXC : ∀ (w : World) (H : Hp) (s : Shared) (e : Value) (s' : Shared), XC w [] H s (fun _ _ _ => False) e s' → False) : PySem.W.WalkO q loose XP YP l.row.toRowW d [] (fun f vs => PySem.call f vs) := by
  apply Att.attach_call hn hdf
  intro w s0 s1 mg mb fa o pm cd doc a vs ns G Y ho hd hcd hmg hobj hints hlen hgen
  obtain ⟨fd, hb, hF⟩ := F w mg fa _ (hY w _ Y) G.T.g hmg
  exact law_callG (hY w _ Y) G.T.g G.T.b G.T.builtins G.T.nolimit hgen hobj hints (Nat.le_trans hlen hn2) room hF hb (fun H hS => hsp w H a ns hlen hS) fun H e s' => hXC w H s1 e s'
end G
set_option Elab.async false
set_option linter.all false
set_option maxRecDepth 100000
set_option maxHeartbeats 4000000
namespace G
open PySem PySem.Spec PyProof.Rows L2 SX Evl
noncomputable abbrev FD := List Slot → R (List Slot) (Val × List Slot)
noncomputable def outs : List Slot → Env → Option (List Slot)
  | [], _ => some []
  | .io _ :: r, .io d :: c => (outs r c).map (.io d :: ·)
  | .im d :: r, _ :: c => (outs r c).map (.im d :: ·)
  | _, _ => none
noncomputable def retV (v : Val) (ce : Env) : Option Val := match v with
  | .im d => some (.im d)
  | .ow d => some (.ow d)
  | .loc i => match ce[i]? with
    | some (.im d) => some (.im d)
    | some (.ow d) => some (.ow d)
    | _ => none
noncomputable def fnOf (n : Nat) (body : SDen) : FD := fun sl => match body (sl ++ List.replicate (n - sl.length) .no) with
  | .ok (.rt v, ce) => opt (retV v ce) fun w => opt (outs sl ce) fun l => .ok (w, l)
  | .ok (.nx, ce) => opt (outs sl ce) fun l => .ok (.im .non, l)
  | .err c ce => opt (outs sl ce) fun l => .err c l
  | _ => .bad
noncomputable def argOk : List Slot → Bool
  | [] => true
  | .io _ :: r => argOk r
  | .im _ :: r => argOk r
  | _ :: _ => false
noncomputable def VRn (g : Gm) (M : Addr → Prop) (H0 G H : Hp) : Val → V → Prop
  | .im d, v => Rp g G d v
  | .ow d, v => ∃ p, v = .ref p ∧ Own g G H d p ∧ (∀ a, Cel H p a → ¬ OCl M H a) ∧ ∀ a, Cel H p a → H0 a = none
  | .loc _, _ => False
noncomputable def FinF (g : Gm) (P0 : Nat → Option Addr) (σ : L2.St) (M0 : Addr → Prop) (G0 H0 : Hp) (Q : VK) (E : XK) : R (List Slot) (Val × List Slot) → Prop
  | .ok (w, l) => ∀ x G' H', Sim g P0 l σ G' H' → Tr M0 G0 H0 (OA l σ) G' H' → VRn g (OA l σ) H0 G' H' w x → Q x H'
  | .err c l => ∀ cls G' H', g.mg (excName c) = some cls → Sim g P0 l σ G' H' → Tr M0 G0 H0 (OA l σ) G' H' → E cls none H'
  | .bad => False
noncomputable def spF (g : Gm) (n : Nat) (F : FD) : Sp := fun vs H Q E => vs.length = n ∧ ∃ P0 sl G, argOk sl = true ∧ Sim g P0 sl (vs.map some) G H ∧ FinF g P0 (vs.map some) (OA sl (vs.map some)) G H Q E (F sl)
section
variable {g : Gm} {P0 : Nat → Option Addr} {sl l : List Slot} {vs : List V} {σ σ' : L2.St} {G H G' H' : Hp} {m : Nat}
theorem pad_get {env : Env} {i : Nat} {s : Slot} (h : (env ++ List.replicate m Slot.no)[i]? = some s) (hs : s ≠ .no) : env[i]? = some s := by
  by_cases hi : i < env.length
  · rw [List.getElem?_append_left hi] at h; exact h
  · rw [List.getElem?_append_right (by omega), List.getElem?_replicate] at h
    split at h
    · exact absurd (Option.some.inj h).symm hs
    · cases h
theorem pad_own {env : Env} {i : Nat} {s : Slot} {d : D} (h : (env ++ List.replicate m Slot.no)[i]? = some s) (hs : s.own = some d) : env[i]? = some s := pad_get h fun z => by rw [z] at hs; cases hs
theorem Sim.pad (hs : Sim g P0 sl σ G H) (m : Nat) : Sim g P0 (sl ++ List.replicate m .no) (σ ++ List.replicate m none) G H where
  ex := hs.ex
  len := by simp [hs.len]
  im := fun i d h => by
    have h := pad_get h (fun z => by cases z)
    obtain ⟨v, h1, h2⟩ := hs.im i d h
    exact ⟨v, by rw [List.getElem?_append_left (List.getElem?_eq_some_iff.mp h1).1]; exact h1, h2⟩
  ow := fun i s d h h' => by
    have h := pad_own h h'
    obtain ⟨v, h1, h2⟩ := hs.ow i s d h h'
    exact ⟨v, by rw [List.getElem?_append_left (List.getElem?_eq_some_iff.mp h1).1]; exact h1, h2⟩
  dis := fun i j s t d e p h1 h2 h3 h4 h5 h6 => by
    have h1 := pad_own h1 h2
    have h3 := pad_own h3 h4
    have l1 : i < σ.length := by rw [← hs.len]; exact (List.getElem?_eq_some_iff.mp h1).1
    have l2 : j < σ.length := by rw [← hs.len]; exact (List.getElem?_eq_some_iff.mp h3).1
    rw [List.getElem?_append_left l1] at h5
    rw [List.getElem?_append_left l2] at h6
    exact hs.dis i j s t d e p h1 h2 h3 h4 h5 h6
  io := fun i d h => by
    have h := pad_get h (fun z => by cases z)
    obtain ⟨p, h1, h2⟩ := hs.io i d h
    exact ⟨p, h1, by rw [List.getElem?_append_left (List.getElem?_eq_some_iff.mp h2).1]; exact h2⟩
  pv := fun i j s t d e p r a h1 h2 h3 h4 h5 h6 h7 h8 => by
    have h1 := pad_own h1 h2
    have h3 := pad_own h3 h4
    have l1 : i < σ.length := by rw [← hs.len]; exact (List.getElem?_eq_some_iff.mp h1).1
    have l2 : j < σ.length := by rw [← hs.len]; exact (List.getElem?_eq_some_iff.mp h3).1
    rw [List.getElem?_append_left l1] at h5
    rw [List.getElem?_append_left l2] at h6
    exact hs.pv i j s t d e p r a h1 h2 h3 h4 h5 h6 h7 h8
theorem oa_pad (hs : Sim g P0 sl σ G H) {a : Addr} : OA (sl ++ List.replicate m .no) (σ ++ List.replicate m none) a ↔ OA sl σ a := by
  constructor
  · rintro ⟨i, s, d, h1, h2, h3⟩
    have h1 := pad_own h1 h2
    have l1 : i < σ.length := by rw [← hs.len]; exact (List.getElem?_eq_some_iff.mp h1).1
    rw [List.getElem?_append_left l1] at h3
    exact ⟨i, s, d, h1, h2, h3⟩
  · rintro ⟨i, s, d, h1, h2, h3⟩
    exact ⟨i, s, d, by rw [List.getElem?_append_left (List.getElem?_eq_some_iff.mp h1).1]; exact h1, h2, by rw [List.getElem?_append_left (List.getElem?_eq_some_iff.mp h3).1]; exact h3⟩
theorem outs_len : ∀ {sl : List Slot} {ce : Env} {l : List Slot}, outs sl ce = some l → l.length = sl.length
  | [], _, _, h => by cases h; rfl
  | .no :: _, _, _, h => by cases h
  | .ow _ :: _, _, _, h => by cases h
  | .io _ :: r, [], _, h => by cases h
  | .im _ :: r, [], _, h => by cases h
  | .io _ :: r, c :: ce, l, h => by
    cases c with
    | io d =>
      obtain ⟨l', h1, rfl⟩ := Option.map_eq_some_iff.mp (show (outs r ce).map (Slot.io d :: ·) = some l from h)
      rw [List.length_cons, List.length_cons, outs_len h1]
    | _ => cases h
  | .im d :: r, c :: ce, l, h => by
    obtain ⟨l', h1, rfl⟩ := Option.map_eq_some_iff.mp (show (outs r ce).map (Slot.im d :: ·) = some l from h)
    rw [List.length_cons, List.length_cons, outs_len h1]
theorem outs_get : ∀ {sl : List Slot} {ce : Env} {l : List Slot} {i : Nat} {s : Slot}, outs sl ce = some l → l[i]? = some s → (∃ d, s = .im d ∧ sl[i]? = some (.im d)) ∨ ∃ d d0, s = .io d ∧ sl[i]? = some (.io d0) ∧ ce[i]? = some (.io d)
  | [], _, _, i, s, h, e => by cases h; simp at e
  | .no :: _, _, _, _, _, h, _ => by cases h
  | .ow _ :: _, _, _, _, _, h, _ => by cases h
  | .io _ :: r, [], _, _, _, h, _ => by cases h
  | .im _ :: r, [], _, _, _, h, _ => by cases h
  | .io d0 :: r, c :: ce, l, i, s, h, e => by
    cases c with
    | io d =>
      obtain ⟨l', h1, rfl⟩ := Option.map_eq_some_iff.mp (show (outs r ce).map (Slot.io d :: ·) = some l from h)
      cases i with
      | zero => simp at e; exact .inr ⟨d, d0, e.symm, rfl, rfl⟩
      | succ i =>
        rw [List.getElem?_cons_succ] at e
        rw [List.getElem?_cons_succ, List.getElem?_cons_succ]
        exact outs_get h1 e
    | _ => cases h
  | .im d :: r, c :: ce, l, i, s, h, e => by
    obtain ⟨l', h1, rfl⟩ := Option.map_eq_some_iff.mp (show (outs r ce).map (Slot.im d :: ·) = some l from h)
    cases i with
    | zero => simp at e; exact .inl ⟨d, e.symm, rfl⟩
    | succ i =>
      rw [List.getElem?_cons_succ] at e
      rw [List.getElem?_cons_succ, List.getElem?_cons_succ]
      exact outs_get h1 e
theorem arg_slot : ∀ {sl : List Slot} {i : Nat} {s : Slot}, argOk sl = true → sl[i]? = some s → (∃ d, s = .im d) ∨ ∃ d, s = .io d
  | [], _, _, _, e => by simp at e
  | .no :: _, _, _, h, _ => by cases h
  | .ow _ :: _, _, _, h, _ => by cases h
  | .io d :: r, 0, s, h, e => by simp at e; exact .inr ⟨d, e.symm⟩
  | .im d :: r, 0, s, h, e => by simp at e; exact .inl ⟨d, e.symm⟩
  | .io d :: r, i + 1, s, h, e => arg_slot (sl := r) h (by simpa using e)
  | .im d :: r, i + 1, s, h, e => arg_slot (sl := r) h (by simpa using e)
theorem Sim.outd {ce : Env} (h0 : Sim g P0 sl σ G H) (hx : Ex G G') (hs : Sim g P0 ce σ' G' H') (ho : outs sl ce = some l) : Sim g P0 l σ G' H' ∧ ∀ a, OA l σ a → OA sl σ a ∧ ∃ (i : Nat) (d : D), ce[i]? = some (.io d) ∧ σ'[i]? = some (some (.ref a)) := by
  have io : ∀ (i : Nat) s d, l[i]? = some s → s.own = some d → ∃ d0 p, s = .io d ∧ sl[i]? = some (.io d0) ∧ ce[i]? = some (.io d) ∧ σ[i]? = some (some (.ref p)) ∧ σ'[i]? = some (some (.ref p)) ∧ P0 i = some p := fun i s d h h' => by
    rcases outs_get ho h with ⟨e, rfl, _⟩ | ⟨e, d0, rfl, h1, h2⟩
    · cases h'
    · cases h'
      obtain ⟨p, a1, a2⟩ := h0.io i d0 h1
      obtain ⟨q, b1, b2⟩ := hs.io i d h2
      rw [a1] at b1
      cases b1
      exact ⟨d0, p, rfl, h1, h2, a2, b2, a1⟩
  refine ⟨⟨hs.ex, by rw [outs_len ho]; exact h0.len, fun i d h => ?_, fun i s d h h' => ?_, fun i j s t d e p h1 h2 h3 h4 h5 h6 => ?_, fun i d h => ?_, fun i j s t d e p r a h1 h2 h3 h4 h5 h6 h7 h8 => ?_⟩, fun a ⟨i, s, d, h1, h2, h3⟩ => ?_⟩
  · rcases outs_get ho h with ⟨e, e1, h1⟩ | ⟨e, d0, e1, _, _⟩
    · cases e1
      obtain ⟨v, a1, a2⟩ := h0.im i d h1
      exact ⟨v, a1, Rp.mono hx _ _ a2⟩
    · cases e1
  · obtain ⟨d0, p, rfl, a1, a2, a3, a4, a5⟩ := io i s d h h'
    obtain ⟨q, b1, b2⟩ := hs.ow i _ d a2 rfl
    rw [a4] at b1
    cases b1
    exact ⟨p, a3, b2⟩
  · obtain ⟨d0, p1, rfl, a1, a2, a3, a4, a5⟩ := io i s d h1 h2
    obtain ⟨d1, p2, rfl, b1, b2, b3, b4, b5⟩ := io j t e h3 h4
    exact h0.dis i j _ _ _ _ p a1 rfl b1 rfl h5 h6
  · obtain ⟨d0, p, _, a1, a2, a3, a4, a5⟩ := io i _ d h rfl
    exact ⟨p, a5, a3⟩
  · obtain ⟨d0, p1, rfl, a1, a2, a3, a4, a5⟩ := io i s d h1 h2
    obtain ⟨d1, p2, rfl, b1, b2, b3, b4, b5⟩ := io j t e h3 h4
    rw [a3] at h5; cases h5
    rw [b3] at h6; cases h6
    exact hs.pv i j _ _ d e p r a a2 rfl b2 rfl a4 b4 h7 h8
  · obtain ⟨d0, p, rfl, a1, a2, a3, a4, a5⟩ := io i s d h1 h2
    rw [a3] at h3
    cases h3
    exact ⟨⟨i, _, d0, a1, rfl, a3⟩, i, d, a2, a4⟩
end
section
variable {g : Gm} {n N : Nat} {body : SDen} {vs : List V} {H : Hp} {Q : VK} {E : XK}
theorem opt_some {ε α β : Type} {o : Option α} {k : α → R ε β} {r : R ε β} (h : opt o k = r) (hb : r ≠ .bad) : ∃ a, o = some a ∧ k a = r := by
  cases o with
  | none => exact absurd h.symm hb
  | some a => exact ⟨a, rfl, h⟩
theorem fn_ok (hl : vs.length ≤ N) (h : spF g n (fnOf N body) vs H Q E) : tsOf g (fun cls d _ H => E cls d H) body { nx := fun _ H' => Q .non H', rt := Q } (vs.map some ++ List.replicate (N - vs.length) none) H := by
  obtain ⟨_, P0, sl, G, hok, s, q⟩ := h
  have hsl : sl.length = vs.length := by rw [s.len, List.length_map]
  refine ⟨P0, sl ++ List.replicate (N - vs.length) .no, G, s.pad _, ?_⟩
  unfold fnOf at q
  rw [hsl] at q
  have go : ∀ {ce : Env} {l : List Slot} {σ' : L2.St} {G' H' : Hp}, outs sl ce = some l → Sim g P0 ce σ' G' H' → Tr (OA (sl ++ List.replicate (N - vs.length) .no) (vs.map some ++ List.replicate (N - vs.length) none)) G H (OA ce σ') G' H' →
      Sim g P0 l (vs.map some) G' H' ∧ Tr (OA sl (vs.map some)) G H (OA l (vs.map some)) G' H' ∧ ∀ a, OA l (vs.map some) a → ∃ (i : Nat) (d : D), ce[i]? = some (.io d) ∧ σ'[i]? = some (some (.ref a)) := fun {ce l σ' G' H'} ho s' t' => by
    obtain ⟨a1, a2⟩ := s.outd t'.ex s' ho
    refine ⟨a1, ?_, fun a z => (a2 a z).2⟩
    exact (t'.more fun a z => (oa_pad s).mp z).less fun a z => by obtain ⟨i, d, h1, h2⟩ := (a2 a z).2; exact ⟨i, _, d, h1, rfl, h2⟩
  cases e : body (sl ++ List.replicate (N - vs.length) .no) with
  | bad => rw [e] at q; exact q.elim
  | err c ce =>
    rw [e] at q
    intro cls σ' G' H' hc s' t'
    cases eo : outs sl ce with
    | none => simp only [eo, opt] at q; exact q.elim
    | some l =>
      simp only [eo, opt] at q
      obtain ⟨a1, a2, a3⟩ := go eo s' t'
      exact q cls G' H' hc a1 a2
  | ok p =>
    obtain ⟨f, ce⟩ := p
    rw [e] at q
    intro σ' G' H' s' t'
    cases f with
    | nx =>
      cases eo : outs sl ce with
      | none => simp only [eo, opt] at q; exact q.elim
      | some l =>
        simp only [eo, opt] at q
        obtain ⟨a1, a2, a3⟩ := go eo s' t'
        exact q .non G' H' a1 a2 rfl
    | bk => exact q.elim
    | ct => exact q.elim
    | rt v =>
      intro x w
      cases ev : retV v ce with
      | none => simp only [ev, opt] at q; exact q.elim
      | some u =>
        cases eo : outs sl ce with
        | none => simp only [ev, eo, opt] at q; exact q.elim
        | some l =>
          simp only [ev, eo, opt] at q
          obtain ⟨a1, a2, a3⟩ := go eo s' t'
          refine q x G' H' a1 a2 ?_
          cases v with
          | im d => cases ev; exact w
          | ow d =>
            cases ev
            obtain ⟨p, w1, w2, w3, w4⟩ := w
            exact ⟨p, w1, w2, fun a z q => w3 a z (q.mono fun r hr => by obtain ⟨i, d, h1, h2⟩ := a3 r hr; exact ⟨i, _, d, h1, rfl, h2⟩), w4⟩
          | loc i =>
            have w : σ'[i]? = some (some x) := w
            unfold retV at ev
            simp only at ev
            split at ev
            · rename_i d ei
              cases ev
              obtain ⟨y, b1, b2⟩ := s'.im i d ei
              rw [w] at b1
              cases b1
              exact b2
            · rename_i d ei
              cases ev
              obtain ⟨p, b1, b2⟩ := s'.ow i _ d ei rfl
              rw [w] at b1
              cases b1
              refine ⟨p, rfl, b2, fun a ha ⟨r, hr, z4⟩ => ?_, fun a ha => ?_⟩
              · obtain ⟨j, dj, h1, h2⟩ := a3 r hr
                have := s'.apart ei rfl h1 rfl w h2 ha z4
                subst this
                rw [ei] at h1
                cases h1
              rcases t'.own p a ⟨i, _, d, ei, rfl, w⟩ ha with ⟨z, _⟩ | z
              · exfalso
                obtain ⟨j, sj, dj, c1, c2, c3⟩ := (oa_pad s).mp z
                rcases arg_slot hok c1 with ⟨dd, rfl⟩ | ⟨dd, rfl⟩
                · cases c2
                · have hjl : j < l.length := by rw [outs_len eo]; exact (List.getElem?_eq_some_iff.mp c1).1
                  rcases outs_get (i := j) (s := l[j]) eo (by simp [hjl]) with ⟨d1, _, f2⟩ | ⟨d1, d2, f1, f2, f3⟩
                  · rw [c1] at f2; cases f2
                  · obtain ⟨p1, g1, g2⟩ := s'.io j d1 f3
                    obtain ⟨p2, g3, g4⟩ := s.io j dd c1
                    rw [g1] at g3
                    cases g3
                    rw [c3] at g4
                    cases g4
                    have := s'.dis i j _ _ d d1 p ei rfl f3 rfl w g2
                    subst this
                    rw [ei] at f3
                    cases f3
              · exact z
            · cases ev
end
structure CalF (P : Program) (w : World) (K : PySem.W.Frag) (mg : Str → Option Value) (base : Heap) (k : Nat) (x : Str) (n : Nat) (F : FD) : Prop where
  ex : ∃ (f : Addr) (fd : FuncData) (ps : List Str), mg x = some (.ref f) ∧ PySem.W.keepIn K (.ref f) = true ∧ Binds K fd ps [] ∧ FnG P w K mg base (L2.CX P w) k f fd ps (spF ⟨K, mg⟩ n F)
section
variable {P : Program} {w : World} {K : PySem.W.Frag} {mg : Str → Option Value} {base : Heap}
theorem fd_ok {x qual : Str} {st : Stmt} {f : Addr} {fd : FuncData} {N ps : List Str} {k : Nat} {b : SDen} (F : Fun K x qual st f fd) (S : FnScope N ps (defScope st))
    (hb : ∀ (cdv : Value) (A : Around) (outer : List PySem.Env) (s : Shared) (H : Hp) (E : XK), (A.deeper (envOfC qual (defScope st) s.heap.objs.size f cdv)).guards = some [] → Room k (A.deeper (envOfC qual (defScope st) s.heap.objs.size f cdv)) → SSs (cxOf (L2.CX P w) P w K mg base N qual (defScope st) f cdv A outer s H E) (defBody st) b) :
    FnG P w K mg base (L2.CX P w) (k + 1) f fd ps (spF ⟨K, mg⟩ ps.length (fnOf N.length b)) := by
  have hpl : ps.length ≤ N.length := by have := congrArg List.length S.pre; rw [List.length_take] at this; omega
  obtain ⟨oc, od, kV, doc, pm, an, cdv, ct, osl, rfl, lk, hcd⟩ := F.ex
  refine fnG_of lk hcd S (fun vs H Q E h => h.1) fun A up s H vs Q E hg hr h => ⟨_, hb cdv A up s H E hg hr _ (takes_of rfl rfl rfl rfl), ?_⟩
  exact fn_ok (by rw [h.1]; exact hpl) h
theorem cal_ok {x : Str} {st : Stmt} {f : Addr} {fd : FuncData} {N ps : List Str} {k : Nat} {b : SDen} (F : Fun K x x st f fd) (S : FnScope N ps (defScope st)) (hm : mg x = some (.ref f)) (hB : Binds K fd ps [])
    (hb : ∀ (cdv : Value) (A : Around) (outer : List PySem.Env) (s : Shared) (H : Hp) (E : XK), (A.deeper (envOfC x (defScope st) s.heap.objs.size f cdv)).guards = some [] → Room k (A.deeper (envOfC x (defScope st) s.heap.objs.size f cdv)) → SSs (cxOf (L2.CX P w) P w K mg base N x (defScope st) f cdv A outer s H E) (defBody st) b) :
    CalF P w K mg base (k + 1) x ps.length (fnOf N.length b) := ⟨f, fd, ps, hm, F.kp, hB, fd_ok F S hb⟩
end
noncomputable def enter : List Val → Env → Option (List Slot)
  | [], _ => some []
  | .im d :: r, env => (enter r env).map (.im d :: ·)
  | .loc i :: r, env => match env[i]? with
    | some (.ow d) => (enter r env).map (.io d :: ·)
    | some (.io d) => (enter r env).map (.io d :: ·)
    | _ => none
  | .ow _ :: _, _ => none
noncomputable def posOf (j : Nat) : List Val → Option Nat
  | [] => none
  | .loc i :: r => if i = j then some 0 else (posOf j r).map (· + 1)
  | _ :: r => (posOf j r).map (· + 1)
noncomputable def onceL : List Val → Bool
  | [] => true
  | .loc i :: r => (posOf i r).isNone && onceL r
  | _ :: r => onceL r
noncomputable def leaveS (vs : List Val) (l : List Slot) (j : Nat) (s : Slot) : Slot := match posOf j vs with
  | some i => match l[i]? with
    | some (.io d) => s.put d
    | _ => s
  | none => s
noncomputable def leaveG (vs : List Val) (l : List Slot) : Nat → Env → Env
  | _, [] => []
  | j, s :: r => leaveS vs l j s :: leaveG vs l (j + 1) r
noncomputable def leave (vs : List Val) (l : List Slot) (env : Env) : Env := leaveG vs l 0 env
noncomputable def dCall (F : FD) (as : List (Bool × Den)) : Den := fun env => (dArgs as env).bind fun p => if onceL p.1 = true then opt (enter p.1 p.2) fun sl => match F sl with
  | .ok (w, l) => .ok (w, leave p.1 l p.2)
  | .err c l => .err c (leave p.1 l p.2)
  | .bad => .bad else .bad
section
variable {g : Gm} {W : WX} {P0 : Nat → Option Addr} {env : Env} {σ : L2.St} {G H G' H' : Hp} {vs : List Val} {xs : List V} {sl l : List Slot}
theorem leaveG_len : ∀ (env : Env) (j : Nat), (leaveG vs l j env).length = env.length
  | [], _ => rfl
  | s :: r, j => by rw [leaveG, List.length_cons, List.length_cons, leaveG_len r]
theorem leaveG_get : ∀ (env : Env) (k i : Nat), (leaveG vs l k env)[i]? = (env[i]?).map (leaveS vs l (k + i))
  | [], _, _ => rfl
  | s :: r, k, 0 => by rw [leaveG]; rfl
  | s :: r, k, i + 1 => by
    rw [leaveG, List.getElem?_cons_succ, List.getElem?_cons_succ, leaveG_get r]
    congr 2
    omega
theorem leave_get (i : Nat) : (leave vs l env)[i]? = (env[i]?).map (leaveS vs l i) := by
  unfold leave
  rw [leaveG_get, Nat.zero_add]
theorem posOf_some {j i : Nat} : ∀ {vs : List Val}, posOf j vs = some i → vs[i]? = some (.loc j)
  | [], h => by cases h
  | .im d :: r, h => by
    obtain ⟨k, h1, rfl⟩ := Option.map_eq_some_iff.mp (show (posOf j r).map (· + 1) = some i from h)
    rw [List.getElem?_cons_succ]
    exact posOf_some h1
  | .ow d :: r, h => by
    obtain ⟨k, h1, rfl⟩ := Option.map_eq_some_iff.mp (show (posOf j r).map (· + 1) = some i from h)
    rw [List.getElem?_cons_succ]
    exact posOf_some h1
  | .loc a :: r, h => by
    unfold posOf at h
    split at h
    · rename_i e
      cases h
      rw [e]; rfl
    · obtain ⟨k, h1, rfl⟩ := Option.map_eq_some_iff.mp h
      rw [List.getElem?_cons_succ]
      exact posOf_some h1
theorem posOf_none {j i : Nat} : ∀ {vs : List Val}, posOf j vs = none → vs[i]? ≠ some (.loc j)
  | [], _ => by simp
  | .im d :: r, h => by
    have h1 := Option.map_eq_none_iff.mp (show (posOf j r).map (· + 1) = none from h)
    cases i with
    | zero => simp
    | succ i => rw [List.getElem?_cons_succ]; exact posOf_none h1
  | .ow d :: r, h => by
    have h1 := Option.map_eq_none_iff.mp (show (posOf j r).map (· + 1) = none from h)
    cases i with
    | zero => simp
    | succ i => rw [List.getElem?_cons_succ]; exact posOf_none h1
  | .loc a :: r, h => by
    unfold posOf at h
    split at h
    · cases h
    · rename_i e
      have h1 := Option.map_eq_none_iff.mp h
      cases i with
      | zero => simp [e]
      | succ i => rw [List.getElem?_cons_succ]; exact posOf_none h1
theorem once_at : ∀ {vs : List Val} {i j k : Nat}, onceL vs = true → vs[i]? = some (.loc k) → vs[j]? = some (.loc k) → i = j
  | [], i, _, _, _, h, _ => by simp at h
  | .im d :: r, i, j, k, o, h, h' => by
    cases i with
    | zero => simp at h
    | succ i => cases j with
      | zero => simp at h'
      | succ j => exact congrArg (· + 1) (once_at (vs := r) o (by simpa using h) (by simpa using h'))
  | .ow d :: r, i, j, k, o, h, h' => by
    cases i with
    | zero => simp at h
    | succ i => cases j with
      | zero => simp at h'
      | succ j => exact congrArg (· + 1) (once_at (vs := r) o (by simpa using h) (by simpa using h'))
  | .loc a :: r, i, j, k, o, h, h' => by
    have o : ((posOf a r).isNone && onceL r) = true := o
    rw [Bool.and_eq_true] at o
    have hn := Option.isNone_iff_eq_none.mp o.1
    cases i with
    | zero => cases j with
      | zero => rfl
      | succ j =>
        simp at h h'
        subst h
        exact absurd h' (posOf_none hn)
    | succ i => cases j with
      | zero =>
        simp at h h'
        subst h'
        exact absurd h (posOf_none hn)
      | succ j => exact congrArg (· + 1) (once_at (vs := r) o.2 (by simpa using h) (by simpa using h'))
theorem vrs_get : ∀ {vs : List Val} {xs : List V} {i : Nat} {v : Val}, VRs g σ G vs xs → vs[i]? = some v → ∃ x, xs[i]? = some x ∧ (match v with
    | .im d => Rp g G d x
    | .loc j => σ[j]? = some (some x)
    | .ow _ => False)
  | _, _, _, _, .nil, e => by simp at e
  | _, _, 0, v, .cons h t, e => by simp at e; subst e; exact ⟨_, rfl, h⟩
  | _, _, i + 1, v, .cons h t, e => by
    obtain ⟨x, h1, h2⟩ := vrs_get (i := i) t (by simpa using e)
    exact ⟨x, by simpa using h1, h2⟩
theorem vrs_len : ∀ {vs : List Val} {xs : List V}, VRs g σ G vs xs → xs.length = vs.length
  | _, _, .nil => rfl
  | _, _, .cons _ t => congrArg (· + 1) (vrs_len t)
theorem enter_get : ∀ {vs : List Val} {sl : List Slot} {i : Nat} {s : Slot}, enter vs env = some sl → sl[i]? = some s → (∃ d, s = .im d ∧ vs[i]? = some (.im d)) ∨ ∃ d j t, s = .io d ∧ vs[i]? = some (.loc j) ∧ env[j]? = some t ∧ t.own = some d
  | [], _, i, s, h, e => by cases h; simp at e
  | .ow _ :: _, _, _, _, h, _ => by cases h
  | .im d :: r, sl, i, s, h, e => by
    obtain ⟨l', h1, rfl⟩ := Option.map_eq_some_iff.mp (show (enter r env).map (Slot.im d :: ·) = some sl from h)
    cases i with
    | zero => simp at e; exact .inl ⟨d, e.symm, rfl⟩
    | succ i => exact enter_get (vs := r) h1 (by simpa using e)
  | .loc j :: r, sl, i, s, h, e => by
    have key : ∀ (t : Slot) (d : D), env[j]? = some t → t.own = some d → (enter r env).map (Slot.io d :: ·) = some sl → (∃ d, s = .im d ∧ (Val.loc j :: r)[i]? = some (.im d)) ∨ ∃ d k t, s = .io d ∧ (Val.loc j :: r)[i]? = some (.loc k) ∧ env[k]? = some t ∧ t.own = some d := fun t d et ed h => by
      obtain ⟨l', h1, rfl⟩ := Option.map_eq_some_iff.mp h
      cases i with
      | zero => simp at e; exact .inr ⟨d, j, t, e.symm, rfl, et, ed⟩
      | succ i => exact enter_get (vs := r) h1 (by simpa using e)
    unfold enter at h
    split at h
    · rename_i d et; exact key _ d et rfl h
    · rename_i d et; exact key _ d et rfl h
    · cases h
theorem enter_of : ∀ {vs : List Val} {sl : List Slot} {i j : Nat} {t : Slot} {d : D}, enter vs env = some sl → vs[i]? = some (.loc j) → env[j]? = some t → t.own = some d → sl[i]? = some (.io d)
  | [], _, i, _, _, _, h, e, _, _ => by simp at e
  | .ow _ :: _, _, _, _, _, _, h, _, _, _ => by cases h
  | .im d :: r, sl, i, j, t, dd, h, e, et, ed => by
    obtain ⟨l', h1, rfl⟩ := Option.map_eq_some_iff.mp (show (enter r env).map (Slot.im d :: ·) = some sl from h)
    cases i with
    | zero => simp at e
    | succ i =>
      rw [List.getElem?_cons_succ]
      exact enter_of (vs := r) h1 (by simpa using e) et ed
  | .loc k :: r, sl, i, j, t, dd, h, e, et, ed => by
    have key : ∀ (t' : Slot) (d : D), env[k]? = some t' → t'.own = some d → (enter r env).map (Slot.io d :: ·) = some sl → sl[i]? = some (.io dd) := fun t' d et' ed' h => by
      obtain ⟨l', h1, rfl⟩ := Option.map_eq_some_iff.mp h
      cases i with
      | zero =>
        simp at e
        subst e
        rw [et] at et'
        cases et'
        rw [ed] at ed'
        cases ed'
        rfl
      | succ i =>
      rw [List.getElem?_cons_succ]
      exact enter_of (vs := r) h1 (by simpa using e) et ed
    unfold enter at h
    split at h
    · rename_i d et'; exact key _ d et' rfl h
    · rename_i d et'; exact key _ d et' rfl h
    · cases h
theorem enter_len : ∀ {vs : List Val} {sl : List Slot}, enter vs env = some sl → sl.length = vs.length
  | [], _, h => by cases h; rfl
  | .ow _ :: _, _, h => by cases h
  | .im d :: r, sl, h => by
    obtain ⟨l', h1, rfl⟩ := Option.map_eq_some_iff.mp (show (enter r env).map (Slot.im d :: ·) = some sl from h)
    exact congrArg (· + 1) (enter_len h1)
  | .loc j :: r, sl, h => by
    unfold enter at h
    split at h
    · obtain ⟨l', h1, rfl⟩ := Option.map_eq_some_iff.mp h
      exact congrArg (· + 1) (enter_len h1)
    · obtain ⟨l', h1, rfl⟩ := Option.map_eq_some_iff.mp h
      exact congrArg (· + 1) (enter_len h1)
    · cases h
theorem enter_ok : ∀ {vs : List Val} {sl : List Slot}, enter vs env = some sl → argOk sl = true
  | [], _, h => by cases h; rfl
  | .ow _ :: _, _, h => by cases h
  | .im d :: r, sl, h => by
    obtain ⟨l', h1, rfl⟩ := Option.map_eq_some_iff.mp (show (enter r env).map (Slot.im d :: ·) = some sl from h)
    exact (enter_ok h1 : argOk l' = true)
  | .loc j :: r, sl, h => by
    unfold enter at h
    split at h
    · obtain ⟨l', h1, rfl⟩ := Option.map_eq_some_iff.mp h
      exact (enter_ok (vs := r) h1 : argOk l' = true)
    · obtain ⟨l', h1, rfl⟩ := Option.map_eq_some_iff.mp h
      exact (enter_ok (vs := r) h1 : argOk l' = true)
    · cases h
noncomputable def lentP (xs : List V) : Nat → Option Addr := fun i => match xs[i]? with
  | some (.ref p) => some p
  | _ => none
theorem oa_enter (hs : Sim g P0 env σ G H) (hv : VRs g σ G vs xs) (he : enter vs env = some sl) {i : Nat} {s : Slot} {d : D} (h : sl[i]? = some s) (h' : s.own = some d) :
    ∃ j t p, s = .io d ∧ vs[i]? = some (.loc j) ∧ env[j]? = some t ∧ t.own = some d ∧ xs[i]? = some (.ref p) ∧ σ[j]? = some (some (.ref p)) ∧ Own g G H d p := by
  rcases enter_get he h with ⟨e, rfl, _⟩ | ⟨e, j, t, rfl, h1, h2, h3⟩
  · cases h'
  · cases h'
    obtain ⟨x, a1, a2⟩ := vrs_get hv h1
    obtain ⟨p, b1, b2⟩ := hs.ow j t d h2 h3
    rw [show σ[j]? = some (some x) from a2] at b1
    cases b1
    exact ⟨j, t, p, rfl, h1, h2, h3, a1, a2, b2⟩
theorem map_get {xs : List V} {i : Nat} {x : V} (h : xs[i]? = some x) : (xs.map some)[i]? = some (some x) := by rw [List.getElem?_map, h] <;> rfl
theorem Sim.entr (hs : Sim g P0 env σ G H) (hv : VRs g σ G vs xs) (he : enter vs env = some sl) (ho : onceL vs = true) : Sim g (lentP xs) sl (xs.map some) G H ∧ ∀ a, OA sl (xs.map some) a → OA env σ a := by
  refine ⟨⟨hs.ex, by rw [enter_len he, List.length_map, vrs_len hv], fun i d h => ?_, fun i s d h h' => ?_, fun i j s t d e p h1 h2 h3 h4 h5 h6 => ?_, fun i d h => ?_, fun i j s t d e p r a h1 h2 h3 h4 h5 h6 h7 h8 => ?_⟩, fun a ⟨i, s, d, h1, h2, h3⟩ => ?_⟩
  · rcases enter_get he h with ⟨e, e1, h1⟩ | ⟨_, _, _, e1, _⟩
    · cases e1
      obtain ⟨x, a1, a2⟩ := vrs_get hv h1
      exact ⟨x, map_get a1, a2⟩
    · cases e1
  · obtain ⟨j, t, p, _, _, _, _, a1, a2, a3⟩ := oa_enter hs hv he h h'
    exact ⟨p, map_get a1, a3⟩
  · obtain ⟨j1, t1, p1, _, a1, a2, a3, a4, a5, _⟩ := oa_enter hs hv he h1 h2
    obtain ⟨j2, t2, p2, _, b1, b2, b3, b4, b5, _⟩ := oa_enter hs hv he h3 h4
    rw [map_get a4] at h5
    cases h5
    rw [map_get b4] at h6
    cases h6
    have := hs.dis j1 j2 t1 t2 _ _ p a2 a3 b2 b3 a5 b5
    subst this
    exact once_at ho a1 b1
  · obtain ⟨j, t, p, _, _, _, _, a1, a2, a3⟩ := oa_enter hs hv he h rfl
    exact ⟨p, by unfold lentP; rw [a1], map_get a1⟩
  · obtain ⟨j1, t1, p1, _, a1, a2, a3, a4, a5, _⟩ := oa_enter hs hv he h1 h2
    obtain ⟨j2, t2, p2, _, b1, b2, b3, b4, b5, _⟩ := oa_enter hs hv he h3 h4
    rw [map_get a4] at h5
    cases h5
    rw [map_get b4] at h6
    cases h6
    have := hs.pv j1 j2 t1 t2 _ _ p r a a2 a3 b2 b3 a5 b5 h7 h8
    subst this
    exact once_at ho a1 b1
  · obtain ⟨j, t, p, _, _, b1, b2, a1, a2, a3⟩ := oa_enter hs hv he h1 h2
    rw [map_get a1] at h3
    cases h3
    exact ⟨j, t, d, b1, b2, a2⟩
theorem put_own {s : Slot} {d d' e : D} (h : s.own = some d) (h' : (s.put d').own = some e) : e = d' := by
  cases s with
  | no => cases h
  | im _ => cases h
  | ow x => exact (Option.some.inj (show some d' = some e from h')).symm
  | io x => exact (Option.some.inj (show some d' = some e from h')).symm
theorem put_own' {s : Slot} {d e : D} (h : (s.put d).own = some e) : ∃ d0, s.own = some d0 := by
  cases s with
  | ow x => exact ⟨x, rfl⟩
  | io x => exact ⟨x, rfl⟩
  | no => cases h
  | im _ => cases h
theorem leaveS_cases (j : Nat) (s : Slot) : leaveS vs l j s = s ∨ ∃ i d, posOf j vs = some i ∧ l[i]? = some (.io d) ∧ leaveS vs l j s = s.put d := by
  unfold leaveS
  split
  · rename_i i hi
    split
    · rename_i d hd; exact .inr ⟨i, d, hi, hd, rfl⟩
    · exact .inl rfl
  · exact .inl rfl
theorem Sim.left (hs : Sim g P0 env σ G H) (hv : VRs g σ G vs xs) (he : enter vs env = some sl) (ho : onceL vs = true) (t : Tr (OA sl (xs.map some)) G H (OA l (xs.map some)) G' H') (hl : Sim g (lentP xs) l (xs.map some) G' H') (hll : ∀ (i : Nat) (d : D), sl[i]? = some (Slot.io d) → ∃ d', l[i]? = some (Slot.io d')) :
    Sim g P0 (leave vs l env) σ G' H' ∧ Tr (OA env σ) G H (OA (leave vs l env) σ) G' H' ∧ ∀ a, OCl (OA (leave vs l env) σ) H' a → OCl (OA l (xs.map some)) H' a ∨ ∃ o, H a = some o := by
  have back : ∀ (i : Nat) s d, (leave vs l env)[i]? = some s → s.own = some d → ∃ t d0, env[i]? = some t ∧ t.own = some d0 ∧ ((s = t) ∨ ∃ k d', posOf i vs = some k ∧ l[k]? = some (.io d') ∧ s = t.put d' ∧ d = d') := fun i s d h h' => by
    rw [leave_get] at h
    obtain ⟨t, h1, h2⟩ := Option.map_eq_some_iff.mp h
    rcases leaveS_cases (vs := vs) (l := l) i t with e | ⟨k, d', e1, e2, e3⟩
    · rw [e] at h2; subst h2; exact ⟨_, d, h1, h', .inl rfl⟩
    · rw [e3] at h2; subst h2
      obtain ⟨d0, q⟩ := put_own' h'
      exact ⟨t, d0, h1, q, .inr ⟨k, d', e1, e2, rfl, put_own q h'⟩⟩
  have oal : ∀ a, OA sl (xs.map some) a → OA env σ a := (hs.entr hv he ho).2
  have sub : ∀ a, OA (leave vs l env) σ a → OA env σ a := fun a ⟨i, s, d, h1, h2, h3⟩ => by
    obtain ⟨u, d0, a1, a2, _⟩ := back i s d h1 h2
    exact ⟨i, u, d0, a1, a2, h3⟩
  have cls : ∀ (i : Nat) s d p, (leave vs l env)[i]? = some s → s.own = some d → σ[i]? = some (some (.ref p)) → (∃ (k : Nat) (d' : D), vs[k]? = some (.loc i) ∧ l[k]? = some (.io d') ∧ (xs.map some)[k]? = some (some (.ref p))) ∨ ∀ a, Cel H p a → ¬ OCl (OA sl (xs.map some)) H a := fun i s d p h h' hp => by
    obtain ⟨u, d0, h1, h2, _⟩ := back i s d h h'
    cases hps : posOf i vs with
    | some k =>
      have hv1 := posOf_some hps
      obtain ⟨x, b1, b2⟩ := vrs_get hv hv1
      rw [show σ[i]? = some (some x) from b2] at hp
      cases hp
      obtain ⟨d', hd'⟩ := hll k d0 (enter_of he hv1 h1 h2)
      exact .inl ⟨k, d', hv1, hd', map_get b1⟩
    | none =>
      refine .inr fun a ha ⟨r, ⟨k, s', e', z1, z2, z3⟩, z4⟩ => ?_
      obtain ⟨j, t', p', _, b1, b2, b3, b4, b5, _⟩ := oa_enter hs hv he z1 z2
      rw [map_get b4] at z3
      cases z3
      have := hs.apart h1 h2 b2 b3 hp b5 ha z4
      subst this
      exact posOf_none hps b1
  have some_of : ∀ (i : Nat) s d p a, (leave vs l env)[i]? = some s → s.own = some d → σ[i]? = some (some (.ref p)) → Cel H p a → ∃ o, H a = some o := fun i s d p a h h' hp ha => by
    obtain ⟨u, d0, h1, h2, _⟩ := back i s d h h'
    exact (hs.cl ⟨p, ⟨i, u, d0, h1, h2, hp⟩, ha⟩).2
  have far : ∀ (i : Nat) s d p, (leave vs l env)[i]? = some s → s.own = some d → σ[i]? = some (some (.ref p)) → (∀ a, Cel H p a → ¬ OCl (OA sl (xs.map some)) H a) → H' p = H p := fun i s d p h h' hp hf => by
    obtain ⟨o, ho⟩ := some_of i s d p p h h' hp (.inl rfl)
    rw [ho]; exact t.keep p o (hf p (.inl rfl)) ho
  refine ⟨⟨hl.ex, by unfold leave; rw [leaveG_len]; exact hs.len, fun i d h => ?_, fun i s d h h' => ?_, fun i j s u d e p h1 h2 h3 h4 h5 h6 => ?_, fun i d h => ?_, fun i j s u d e p q a h1 h2 h3 h4 h5 h6 h7 h8 => ?_⟩, ⟨(t.more oal).ex, (t.more oal).keep, (t.more oal).gnew, fun r a hr ha => ?_, t.dom⟩, fun a ⟨r, hr, ha⟩ => ?_⟩
  · rw [leave_get] at h
    obtain ⟨u, h1, h2⟩ := Option.map_eq_some_iff.mp h
    have : u = .im d := by
      rcases leaveS_cases (vs := vs) (l := l) i u with e | ⟨k, d', e1, e2, e3⟩
      · rw [e] at h2; exact h2
      · rw [e3] at h2
        cases u <;> first | exact h2 | cases h2
    subst this
    obtain ⟨v, a1, a2⟩ := hs.im i d h1
    exact ⟨v, a1, Rp.mono t.ex _ _ a2⟩
  · obtain ⟨u, d0, h1, h2, h3⟩ := back i s d h h'
    obtain ⟨p, a1, a2⟩ := hs.ow i u d0 h1 h2
    cases hp : posOf i vs with
    | some k =>
      have hv1 := posOf_some hp
      obtain ⟨x, b1, b2⟩ := vrs_get hv hv1
      rw [show σ[i]? = some (some x) from b2] at a1
      cases a1
      have hsl := enter_of he hv1 h1 h2
      obtain ⟨d', hd'⟩ := hll k d0 hsl
      obtain ⟨q, c1, c2⟩ := hl.ow k _ d' hd' rfl
      rw [map_get b1] at c1
      cases c1
      rcases h3 with e | ⟨k', d2, e1, e2, e3, e4⟩
      · rw [leave_get, h1] at h
        have hz : leaveS vs l i u = s := Option.some.inj h
        have hu : leaveS vs l i u = u.put d' := by unfold leaveS; rw [hp]; simp only; rw [hd']
        rw [hz] at hu
        have k1 : (u.put d').own = some d := by rw [← hu]; exact h'
        have k2 := put_own h2 k1
        rw [k2]
        exact ⟨_, b2, c2⟩
      · rw [hp] at e1
        cases e1
        rw [hd'] at e2
        cases e2
        subst e4
        exact ⟨_, b2, c2⟩
    | none =>
      rcases h3 with e | ⟨k', d2, e1, _⟩
      · subst e
        rw [h'] at h2
        cases h2
        have hn : ∀ a, Cel H p a → ¬ OCl (OA sl (xs.map some)) H a := fun a ha ⟨r, ⟨k, s', e', z1, z2, z3⟩, z4⟩ => by
          obtain ⟨j, t', p', _, b1, b2, b3, b4, b5, _⟩ := oa_enter hs hv he z1 z2
          rw [map_get b4] at z3
          cases z3
          have := hs.apart h1 h' b2 b3 a1 b5 ha z4
          subst this
          exact posOf_none hp b1
        refine ⟨p, a1, a2.later t.ex fun a q1 q2 ⟨o, q3⟩ => ?_⟩
        have hh : Held a o (OA sl (xs.map some)) G H := ⟨hn a q1, q2, q3⟩
        have h2 := hh.tr t fun xs z => a2.nt q1 ⟨xs, by rw [q3, z]⟩
        exact ⟨h2.g, h2.h.trans q3.symm⟩
      · rw [hp] at e1; cases e1
  · obtain ⟨u1, d1, a1, a2, _⟩ := back i s d h1 h2
    obtain ⟨u2, d2, b1, b2, _⟩ := back j u e h3 h4
    exact hs.dis i j u1 u2 d1 d2 p a1 a2 b1 b2 h5 h6
  · obtain ⟨u, d0, h1, h2, h3⟩ := back i _ d h rfl
    rcases h3 with e | ⟨k, d', e1, e2, e3, e4⟩
    · subst e; exact hs.io i d h1
    · cases u with
      | io x => exact hs.io i x h1
      | ow x => cases e3
      | no => cases h2
      | im x => cases h2
  · rcases cls i s d p h1 h2 h5 with ⟨k1, e1, x1, x2, x3⟩ | x1
    · rcases cls j u e q h3 h4 h6 with ⟨k2, e2, y1, y2, y3⟩ | y1
      · have := hl.apart x2 rfl y2 rfl x3 y3 (.inr h7) h8
        subst this
        rw [x1] at y1
        cases y1; rfl
      · have h8' := h8.eq (far j u e q h3 h4 h6 y1)
        rcases t.own p a ⟨k1, _, e1, x2, rfl, x3⟩ (.inr h7) with ⟨_, z⟩ | z
        · obtain ⟨u1, d1, a1, a2, _⟩ := back i s d h1 h2
          obtain ⟨u2, d2, b1, b2, _⟩ := back j u e h3 h4
          exact hs.apart a1 a2 b1 b2 h5 h6 z h8'
        · obtain ⟨o, ho⟩ := some_of j u e q a h3 h4 h6 h8'
          rw [ho] at z; cases z
    · have h7' := h7.eq (far i s d p h1 h2 h5 x1)
      rcases cls j u e q h3 h4 h6 with ⟨k2, e2, y1, y2, y3⟩ | y1
      · rcases t.own q a ⟨k2, _, e2, y2, rfl, y3⟩ h8 with ⟨_, z⟩ | z
        · obtain ⟨u1, d1, a1, a2, _⟩ := back i s d h1 h2
          obtain ⟨u2, d2, b1, b2, _⟩ := back j u e h3 h4
          exact hs.apart a1 a2 b1 b2 h5 h6 (.inr h7') z
        · obtain ⟨o, ho⟩ := some_of i s d p a h1 h2 h5 (.inr h7')
          rw [ho] at z; cases z
      · obtain ⟨u1, d1, a1, a2, _⟩ := back i s d h1 h2
        obtain ⟨u2, d2, b1, b2, _⟩ := back j u e h3 h4
        exact hs.apart a1 a2 b1 b2 h5 h6 (.inr h7') (h8.eq (far j u e q h3 h4 h6 y1))
  · obtain ⟨i, s, d, h1, h2, h3⟩ := hr
    rcases cls i s d r h1 h2 h3 with ⟨k1, e1, x1, x2, x3⟩ | x1
    · exact (t.own r a ⟨k1, _, e1, x2, rfl, x3⟩ ha).imp (fun z => ⟨sub r ⟨i, s, d, h1, h2, h3⟩, z.2⟩) id
    · exact .inl ⟨sub r ⟨i, s, d, h1, h2, h3⟩, ha.eq (far i s d r h1 h2 h3 x1)⟩
  · obtain ⟨i, s, d, h1, h2, h3⟩ := hr
    rcases cls i s d r h1 h2 h3 with ⟨k1, e1, x1, x2, x3⟩ | x1
    · exact .inl ⟨r, ⟨k1, _, e1, x2, rfl, x3⟩, ha⟩
    · exact .inr (some_of i s d r a h1 h2 h3 (ha.eq (far i s d r h1 h2 h3 x1)))
end
theorem dArgs_len : ∀ {as : List (Bool × Den)} {env env' : Env} {vs : List Val}, dArgs as env = .ok (vs, env') → vs.length = as.length
  | [], _, _, _, h => by cases h; rfl
  | (b, d) :: r, env, env', vs, h => by
    unfold dArgs at h
    cases e : d env with
    | bad => rw [e] at h; cases h
    | err _ _ => rw [e] at h; cases h
    | ok p =>
      rw [e] at h
      have go : ∀ {w : Val} {e1 : Env}, ((dArgs r e1).bind fun q => R.ok (w :: q.1, q.2)) = .ok (vs, env') → vs.length = r.length + 1 := fun {w e1} h => by
        cases e2 : dArgs r e1 with
        | bad => rw [e2] at h; cases h
        | err _ _ => rw [e2] at h; cases h
        | ok q =>
          rw [e2] at h
          cases h
          exact congrArg (· + 1) (dArgs_len e2)
      simp only [R.bind] at h
      split at h
      · exact go h
      · split at h
        · exact go h
        · cases h
theorem fnOf_out {N : Nat} {b : SDen} {sl l : List Slot} {r : Val} (h : fnOf N b sl = .ok (r, l)) {i : Nat} {d : D} (hi : sl[i]? = some (.io d)) : ∃ d', l[i]? = some (.io d') := by
  have key : ∀ {ce : Env}, outs sl ce = some l → ∃ d', l[i]? = some (.io d') := fun {ce} ho => by
    have hl : i < l.length := by rw [outs_len ho]; exact (List.getElem?_eq_some_iff.mp hi).1
    rcases outs_get (i := i) (s := l[i]) ho (by simp [hl]) with ⟨e, _, h2⟩ | ⟨e, d0, h1, _⟩
    · rw [hi] at h2; cases h2
    · exact ⟨e, by rw [← h1]; simp [hl]⟩
  unfold fnOf at h
  split at h
  · obtain ⟨w, h1, h2⟩ := opt_some h (by simp)
    obtain ⟨l', h3, h4⟩ := opt_some h2 (by simp)
    cases h4
    exact key h3
  · obtain ⟨l', h3, h4⟩ := opt_some h (by simp)
    cases h4
    exact key h3
  · obtain ⟨l', h3, h4⟩ := opt_some h (by simp)
    cases h4
  · cases h
theorem fnOf_err {N : Nat} {b : SDen} {sl l : List Slot} {c : Nat} (h : fnOf N b sl = .err c l) {i : Nat} {d : D} (hi : sl[i]? = some (.io d)) : ∃ d', l[i]? = some (.io d') := by
  have key : ∀ {ce : Env}, outs sl ce = some l → ∃ d', l[i]? = some (.io d') := fun {ce} ho => by
    have hl : i < l.length := by rw [outs_len ho]; exact (List.getElem?_eq_some_iff.mp hi).1
    rcases outs_get (i := i) (s := l[i]) ho (by simp [hl]) with ⟨e, _, h2⟩ | ⟨e, d0, h1, _⟩
    · rw [hi] at h2; cases h2
    · exact ⟨e, by rw [← h1]; simp [hl]⟩
  unfold fnOf at h
  split at h
  · obtain ⟨w, h1, h2⟩ := opt_some h (by simp)
    obtain ⟨l', h3, h4⟩ := opt_some h2 (by simp)
    cases h4
  · obtain ⟨l', h3, h4⟩ := opt_some h (by simp)
    cases h4
  · obtain ⟨l', h3, h4⟩ := opt_some h (by simp)
    cases h4
    exact key h3
  · cases h
structure FDok (F : FD) : Prop where
  out : ∀ {sl l : List Slot} {r : Val}, F sl = .ok (r, l) → ∀ (i : Nat) (d : D), sl[i]? = some (Slot.io d) → ∃ d', l[i]? = some (Slot.io d')
  err : ∀ {sl l : List Slot} {c : Nat}, F sl = .err c l → ∀ (i : Nat) (d : D), sl[i]? = some (Slot.io d) → ∃ d', l[i]? = some (Slot.io d')
theorem fdok (N : Nat) (b : SDen) : FDok (fnOf N b) := ⟨fun h _ _ hi => fnOf_out h hi, fun h _ _ hi => fnOf_err h hi⟩
section
variable {X : Cx} {F : FD} {as : List (Bool × Den)}
theorem call_ok {g : Gm} {W : WX} {σ : L2.St} {H : Hp} {Q : VK} {n : Nat} (hF : FDok F) (hn : as.length = n) (h : teOf g W (dCall F as) σ H Q) : tCallS (spF g n F) (WE W) (taOf g W as) σ H Q := by
  obtain ⟨P0, env, G, hs, hq⟩ := h
  refine ⟨P0, env, G, hs, ?_⟩
  unfold dCall at hq
  cases e : dArgs as env with
  | bad => rw [e] at hq; exact hq.elim
  | err c e2 => rw [e] at hq; exact hq
  | ok r =>
    obtain ⟨vs, env1⟩ := r
    have hlen := dArgs_len e
    rw [e] at hq
    intro xs G1 H1 s1 t1 v1
    refine ⟨by rw [vrs_len v1, hlen, hn], ?_⟩
    simp only [R.bind] at hq
    split at hq
    · rename_i ho
      cases he : enter vs env1 with
      | none => simp only [he, opt] at hq; exact hq.elim
      | some sl =>
        simp only [he, opt] at hq
        obtain ⟨s2, o2⟩ := s1.entr v1 he ho
        refine ⟨lentP xs, sl, G1, enter_ok he, s2, ?_⟩
        cases hf : F sl with
        | bad => rw [hf] at hq; exact hq.elim
        | err c l =>
          rw [hf] at hq
          intro cls G3 H3 hc s3 t3
          obtain ⟨s4, t4, _⟩ := s1.left v1 he ho t3 s3 (hF.err hf)
          exact hq cls G3 H3 hc s4 (t1.trans t4)
        | ok p =>
          obtain ⟨w, l⟩ := p
          rw [hf] at hq
          intro x G3 H3 s3 t3 w3
          obtain ⟨s4, t4, o4⟩ := s1.left v1 he ho t3 s3 (hF.out hf)
          refine hq x G3 H3 s4 (t1.trans t4) ?_
          cases w with
          | im d => exact w3
          | ow d =>
            obtain ⟨p, w5, w6, w8, w7⟩ := w3
            refine ⟨p, w5, w6, fun a z q => ?_, fun a z => t1.dom a (w7 a z)⟩
            rcases o4 a q with y | ⟨o, q2⟩
            · exact w8 a z y
            · rw [w7 a z] at q2; cases q2
          | loc i => exact w3.elim
    · exact hq.elim
theorem se_call {k n : Nat} {x : Str} {p pos : Pos} {e : Expr} {es : List Expr} (c : CalF X.prog X.w X.K X.mg X.base k x n F) (hF : FDok F) (hgd : X.A.guards = some []) (hr : Room k X.A) (hg : Gl X x) (ha : SA X (e :: es) as) (hn : as.length = n := by rfl) (hdb : (x == ("__debug__" : Str)) = false := by decide)
    (he : starEach (e :: es) X.env = (false, eval e X.env) :: starEach es X.env := by rfl) (hpl : (backTo pos (starEach es X.env)).any (·.1) = false := by rfl) : SE X (.Call (.Name x p) (e :: es) [] pos) (dCall F as) := fun W tk => by
  obtain ⟨f, fd, ps, h1, h2, h3, h4⟩ := c.ex
  exact pe_imp (pe_callG h4 hgd hr hg h1 h2 h3 (fun σ => passAt tk σ) (ha W tk) hdb he hpl) fun σ H Q q => call_ok hF hn q
end
end G
set_option Elab.async false
set_option linter.all false
set_option maxRecDepth 100000
set_option maxHeartbeats 4000000
namespace G
open PySem PySem.Spec PyProof.Rows L2 SX Evl
noncomputable def unlE {α : Type} (j : Nat) : R Env (α × Env) → R Env (α × Env)
  | .ok (f, e) => match e[j]? with
    | some (.io x) => .ok (f, e.set j (.ow x))
    | _ => .bad
  | .err c e => match e[j]? with
    | some (.io x) => .err c (e.set j (.ow x))
    | _ => .bad
  | .bad => .bad
noncomputable def lend {α : Type} (j : Nat) (d : Env → R Env (α × Env)) : Env → R Env (α × Env) := fun env => match env[j]? with
  | some (.ow x) => unlE j (d (env.set j (.io x)))
  | some (.io _) => d env
  | _ => .bad
noncomputable def updP (P0 : Nat → Option Addr) (j : Nat) (p : Addr) : Nat → Option Addr := fun i => if i = j then some p else P0 i
section
variable {g : Gm} {W : WX} {P0 : Nat → Option Addr} {env env' : Env} {σ σ' : L2.St} {G H G' H' : Hp} {j : Nat} {x : D} {p : Addr}
theorem own_same {env : Env} {j : Nat} {s t : Slot} (h : env[j]? = some s) (hs : ∃ d, s.own = some d ∧ t.own = some d) {i : Nat} {u : Slot} {d : D} (hi : (env.set j t)[i]? = some u) (hu : u.own = some d) : ∃ u', env[i]? = some u' ∧ u'.own = some d := by
  by_cases e : j = i
  · subst e
    rw [List.getElem?_set_self (List.getElem?_eq_some_iff.mp h).1] at hi
    cases hi
    obtain ⟨d', h1, h2⟩ := hs
    rw [h2] at hu
    cases hu
    exact ⟨s, h, h1⟩
  · rw [List.getElem?_set_ne e] at hi
    exact ⟨u, hi, hu⟩
theorem oa_same {s t : Slot} (h : env[j]? = some s) (hs : ∃ d, s.own = some d ∧ t.own = some d) {a : Addr} : OA (env.set j t) σ a ↔ OA env σ a := by
  constructor
  · rintro ⟨i, u, d, h1, h2, h3⟩
    obtain ⟨u', a1, a2⟩ := own_same h hs h1 h2
    exact ⟨i, u', d, a1, a2, h3⟩
  · rintro ⟨i, u, d, h1, h2, h3⟩
    by_cases e : j = i
    · subst e
      rw [h] at h1
      cases h1
      obtain ⟨d', b1, b2⟩ := hs
      exact ⟨j, t, d', List.getElem?_set_self (List.getElem?_eq_some_iff.mp h).1, b2, h3⟩
    · exact ⟨i, u, d, by rw [List.getElem?_set_ne e]; exact h1, h2, h3⟩
theorem Sim.reslot {P1 : Nat → Option Addr} {s t : Slot} (hs : Sim g P0 env σ G H) (h : env[j]? = some s) (ho : ∃ d, s.own = some d ∧ t.own = some d) (hP : ∀ i, i ≠ j → P1 i = P0 i) (hio : ∀ d, t = .io d → ∃ p, P1 j = some p ∧ σ[j]? = some (some (.ref p))) : Sim g P1 (env.set j t) σ G H where
  ex := hs.ex
  len := by rw [List.length_set]; exact hs.len
  im := fun i d e => by
    by_cases ij : j = i
    · subst ij
      rw [List.getElem?_set_self (List.getElem?_eq_some_iff.mp h).1] at e
      obtain ⟨d', _, b⟩ := ho
      rw [Option.some.inj e] at b
      cases b
    · rw [List.getElem?_set_ne ij] at e; exact hs.im i d e
  ow := fun i u d e e' => by
    obtain ⟨u', a1, a2⟩ := own_same h ho e e'
    exact hs.ow i u' d a1 a2
  dis := fun i k u v d e p h1 h2 h3 h4 h5 h6 => by
    obtain ⟨u', a1, a2⟩ := own_same h ho h1 h2
    obtain ⟨v', b1, b2⟩ := own_same h ho h3 h4
    exact hs.dis i k u' v' d e p a1 a2 b1 b2 h5 h6
  pv := fun i k u v d e p r a h1 h2 h3 h4 h5 h6 h7 h8 => by
    obtain ⟨u', a1, a2⟩ := own_same h ho h1 h2
    obtain ⟨v', b1, b2⟩ := own_same h ho h3 h4
    exact hs.pv i k u' v' d e p r a a1 a2 b1 b2 h5 h6 h7 h8
  io := fun i d e => by
    by_cases ij : j = i
    · subst ij
      rw [List.getElem?_set_self (List.getElem?_eq_some_iff.mp h).1] at e
      exact hio d (Option.some.inj e)
    · rw [List.getElem?_set_ne ij] at e
      rw [hP i (Ne.symm ij)]
      exact hs.io i d e
theorem updP_ne {i : Nat} (h : i ≠ j) : updP P0 j p i = P0 i := if_neg h
theorem updP_self : updP P0 j p j = some p := if_pos rfl
theorem Sim.lendS (hs : Sim g P0 env σ G H) (h : env[j]? = some (.ow x)) : ∃ p, Sim g (updP P0 j p) (env.set j (.io x)) σ G H := by
  obtain ⟨p, h1, _⟩ := hs.ow j _ x h rfl
  exact ⟨p, hs.reslot h ⟨x, rfl, rfl⟩ (fun i hi => updP_ne hi) fun d _ => ⟨p, updP_self, h1⟩⟩
theorem Sim.unlS (hs : Sim g (updP P0 j p) env' σ' G' H') (h : env'[j]? = some (.io x)) : Sim g P0 (env'.set j (.ow x)) σ' G' H' :=
  hs.reslot h ⟨x, rfl, rfl⟩ (fun i hi => (updP_ne hi).symm) fun d z => nomatch z
theorem lend_te {H : Hp} {Q : VK} {d : Den} (h : teOf g W (lend j d) σ H Q) : teOf g W d σ H Q := by
  obtain ⟨P0, env, G, s, q⟩ := h
  unfold lend at q
  split at q
  · rename_i x ex
    obtain ⟨p, s1⟩ := s.lendS ex
    refine ⟨_, _, G, s1, ?_⟩
    have hM : ∀ a, OA (env.set j (.io x)) σ a ↔ OA env σ a := fun a => oa_same ex ⟨x, rfl, rfl⟩
    cases e : d (env.set j (.io x)) with
    | bad => rw [e] at q; exact q.elim
    | err c e1 =>
      rw [e] at q
      intro cls G' H' hc s' t'
      simp only [unlE] at q
      split at q
      · rename_i y ey
        exact q cls G' H' hc (s'.unlS ey) ((t'.more fun a z => (hM a).mp z).less fun a z => (oa_same ey ⟨y, rfl, rfl⟩).mp z)
      · exact q.elim
    | ok r =>
      obtain ⟨v, e1⟩ := r
      rw [e] at q
      intro z G' H' s' t' w
      simp only [unlE] at q
      split at q
      · rename_i y ey
        refine q z G' H' (s'.unlS ey) ((t'.more fun a z => (hM a).mp z).less fun a z => (oa_same ey ⟨y, rfl, rfl⟩).mp z) ?_
        cases v with
        | im _ => exact w
        | ow _ =>
          obtain ⟨a, w1, w2, w3, w4⟩ := w
          exact ⟨a, w1, w2, fun b z k => w3 b z (k.mono fun r => (oa_same ey ⟨y, rfl, rfl⟩).mp), w4⟩
        | loc _ => exact w
      · exact q.elim
  · exact ⟨P0, env, G, s, q⟩
  · exact q.elim
end
noncomputable def itemAt (j n i : Nat) (env : Env) : Option D := match env[j]? with
  | some (.io (.lst cur)) => if cur.length = n then cur[i]? else none
  | _ => none
noncomputable def lenIs (j n : Nat) (env : Env) : Bool := match env[j]? with
  | some (.io (.lst cur)) => decide (cur.length = n)
  | _ => false
noncomputable def ownLen (j : Nat) (env : Env) : Option Nat := match env[j]? with
  | some (.io (.lst cur)) => some cur.length
  | _ => none
noncomputable def isIm (j : Nat) (env : Env) : Bool := match env[j]? with
  | some (.im _) => true
  | _ => false
section
variable {g : Gm} {W : WX} {P0 : Nat → Option Addr} {env env' : Env} {σ σ' : L2.St} {G H G' H' : Hp} {j n i : Nat} {d : D} {p : Addr}
theorem io_here (hs : Sim g P0 env σ G H) (hp : P0 j = some p) {ds : List D} (h : env[j]? = some (.io (.lst ds))) : ∃ vs, σ[j]? = some (some (.ref p)) ∧ H p = some (.lst vs) ∧ Rps g G ds vs := by
  obtain ⟨q, h1, h2⟩ := hs.io j _ h
  rw [hp] at h1
  cases h1
  obtain ⟨q2, h3, _, o, h4, hx⟩ := hs.ow j _ _ h rfl
  obtain ⟨vs, h5, h6⟩ := hx.co (fun _ _ z => by cases z)
  rw [h2] at h3
  cases h3
  subst h5
  exact ⟨vs, h2, h4, h6⟩
theorem itemAt_ok (hs : Sim g P0 env σ G H) (hp : P0 j = some p) (h : itemAt j n i env = some d) : ∃ vs v, H p = some (.lst vs) ∧ vs.length = n ∧ vs[i]? = some v ∧ Rp g G d v := by
  unfold itemAt at h
  split at h
  · rename_i cur ec
    split at h
    · rename_i hl
      obtain ⟨vs, _, h2, h3⟩ := io_here hs hp ec
      obtain ⟨v, h4, h5⟩ := h3.get h
      exact ⟨vs, v, h2, by rw [h3.length, hl], h4, h5⟩
    · cases h
  · cases h
theorem lenIs_ok (hs : Sim g P0 env σ G H) (hp : P0 j = some p) (h : lenIs j n env = true) : ∃ vs, H p = some (.lst vs) ∧ vs.length = n := by
  unfold lenIs at h
  split at h
  · rename_i cur ec
    obtain ⟨vs, _, h2, h3⟩ := io_here hs hp ec
    exact ⟨vs, h2, by rw [h3.length]; exact of_decide_eq_true h⟩
  · cases h
end
section
variable {X : Cx} {tg : Expr} {x : Str} {body : List Stmt} {td : TDen} {b : SDen} {pos p1 : Pos} {gt : TG} {ix : List Nat} {j : Nat}
theorem any_mono {K : PySem.W.Frag} {te te' : TE} {σ : L2.St} {H : Hp} {Q : It → Hp → Prop} (hi : ∀ Q : VK, te σ H Q → te' σ H Q) (h : iAnySeq K te σ H Q) : iAnySeq K te' σ H Q := hi _ h
end
noncomputable def lcO (td : TDen) (c e : Den) (vs : List Nat) (j n : Nat) : Nat → Env → R Env (List D × Env)
  | 0, env => if lenIs j n env = true then .ok ([], env) else .bad
  | k + 1, env => opt (itemAt j n (n - (k + 1)) env) fun d => lcT td c e vs (lcO td c e vs j n k) d env
noncomputable def dLcJ (j : Nat) (td : TDen) (c e : Den) (vs : List Nat) : Den := fun env => opt (ownLen j env) fun n => if plainAt env vs = true ∧ n ≤ LINE then (match lcO td c e vs j n n (wipeE env vs) with
  | .ok (r, e2) => .ok (.ow (.lst r), back env e2 vs)
  | _ => .bad) else .bad
noncomputable def dLcN (j : Nat) (td : TDen) (c e : Den) (vs : List Nat) : Den := fun env => if isIm j env = true then dLc (iSeq (dName j)) td c e vs env else lend j (dLcJ j td c e vs) env
theorem opt_ok {α β : Type} {o : Option α} {k : α → R Env β} {r : β} (h : opt o k = .ok r) : ∃ a, o = some a ∧ k a = .ok r := by
  cases o with
  | none => cases h
  | some a => exact ⟨a, rfl, h⟩
section
variable {X : Cx} {tg elt : Expr} {x : Str} {ifs : List Expr} {scope : Scope} {own : List (Str × Nat)} {td : TDen} {c e : Den} {gt : TG} {ix : List Nat} {pos p1 : Pos} {j : Nat}
theorem lcJ_ok {g : Gm} {W : WX} {σ : L2.St} {H : Hp} {Q : VK} {vs : List Nat} {tt : TT} (hg : TgOk g gt td ix) (hix : ∀ i ∈ ix, i ∈ vs) (htt : ∀ σ H Q, tB (teOf g WF c) σ H Q → tt σ H Q)
    (h : teOf g W (dLcJ j td c e vs) σ H Q) : tLc (iAnySeq g.K (tVar j)) gt tt (teOf g WF e) vs σ H Q := by
  obtain ⟨P0, env1, G1, s1, q⟩ := h
  unfold dLcJ at q
  obtain ⟨n, en, q⟩ := fin_opt q
  unfold ownLen at en
  split at en
  · rename_i cur ec
    cases en
    obtain ⟨p, hp, hσ⟩ := s1.io j _ ec
    obtain ⟨us, _, h2, h3⟩ := io_here s1 hp ec
    refine ⟨.ref p, hσ, .inl ⟨p, rfl, ⟨us, .inl (.inl h2)⟩, ?_⟩⟩
    intro Dl hD
    split at q
    · rename_i hc
      obtain ⟨hpl, hlen⟩ := hc
      split at q
      · rename_i r envz er
        have hDG : G1 Dl = none := by
          cases z : G1 Dl with
          | none => rfl
          | some u => rw [s1.ex _ _ z] at hD; cases hD
        have hDO : ¬ OCl (OA env1 σ) H Dl := fun z => by
          obtain ⟨_, o, z2⟩ := s1.cl z
          rw [hD] at z2; cases z2
        refine ⟨fun i m H' => ∃ env' G' acc accd r', m + i = cur.length ∧ accd.length ≤ i ∧ Sim g P0 env' (wipe σ vs) G' H' ∧ Tr (OA env1 σ) G1 H (OA env' (wipe σ vs)) G' H' ∧ Held Dl (.lst acc) (OA env' (wipe σ vs)) G' H' ∧ Rps g G' accd acc ∧
          lcO td c e vs j cur.length m env' = .ok (r', envz) ∧ r = accd ++ r', ⟨cur.length, wipeE env1 vs, G1, [], [], r, by simp, Nat.zero_le _, (s1.wipe vs).side hDG (fun z => hDO (z.mono fun _ => oa_wipe)), (Tr.refl.less fun a z => oa_wipe z).side hD (fun z => hDO (oa_cl (oa_wipe z))), Held.upd (fun z => hDO (z.mono fun _ => oa_wipe)) hDG, Rps.nil, er, rfl⟩, ?_⟩
        rintro i m H' ⟨env', G', acc, accd, r', hm, hal, s', t', hd', ra, er', e'⟩
        cases m with
        | zero =>
          unfold lcO at er'
          split at er'
          · rename_i hl
            obtain ⟨ws, k1, k2⟩ := lenIs_ok s' hp hl
            cases er'
            rw [List.append_nil] at e'
            subst e'
            obtain ⟨s8, o8⟩ := Sim.home (env := env1) (G1 := G1) (fun i d h => s1.im i d h) s1.len hpl t'.ex s'
            exact .inl ⟨⟨ws, .inl (.inl k1), by rw [k2]; omega⟩, q (.ref Dl) G' H' s8 (t'.less o8) (hd'.vr ⟨acc, rfl, ra⟩ o8 hD)⟩
          · cases er'
        | succ m =>
          unfold lcO at er'
          have ei : cur.length - (m + 1) = i := by omega
          rw [ei] at er'
          obtain ⟨d, ed, er2⟩ := opt_ok er'
          obtain ⟨e1, b, e2, k1, ⟨v, k2, k3⟩, k4, k5⟩ := lcT_ok er2
          obtain ⟨ws, u0, w1, w2, w3, w4⟩ := itemAt_ok s' hp ed
          refine .inr ⟨⟨ws, u0, .inl (.inl w1), w3⟩, _, fun H2 z => ⟨m, by omega, z⟩, fun x H'' y => ?_⟩
          obtain ⟨rfl, y⟩ := y
          have hx := y ws (.inl (.inl w1))
          rw [w3] at hx
          cases hx
          refine hg.run P0 env' (wipe σ vs) G' H'' d u0 e1 _ s' w4 k1 fun σ3 b3 s3 t3 => ?_
          have hw3 : wipe σ3 vs = wipe σ vs := by
            rw [wipe_but b3 hix]
            exact wipe_but (ix := vs) ⟨wipe_length _ _, fun j hj => by rw [wipe_out hj]⟩ (fun _ z => z)
          refine ⟨hw3, htt _ _ _ ⟨P0, e1, G', s3, ?_⟩⟩
          rw [k2]
          intro y3 G4 H4 s4 t4 v4
          refine ⟨b, tru_ok s4 v4 k3, ?_⟩
          have t24 := t3.trans t4
          have hd4 := hd'.tr t24 (fun _ z => by cases z)
          have tt4 := t'.trans t24
          have ra4 := Rps.mono t24.ex _ _ ra
          cases b with
          | true =>
            refine iteT ?_
            obtain ⟨u, e3, q4, r4, a1, a2, a3, a4⟩ := k4 rfl
            refine ⟨P0, e2, G4, s4, ?_⟩
            rw [a1]
            intro y5 G5 H5 s5 t5 v5
            obtain ⟨G6, s6, t6, r6⟩ := fz_now s5 t5 v5 a2
            have hd6 := hd4.tr t6 (fun _ z => by cases z)
            have ra6 := Rps.mono t6.ex _ _ ra4
            have s7 := s6.wipe vs
            rw [hw3] at s7
            have t7 := (tt4.trans t6).less (M' := OA (wipeE q4.2 vs) (wipe σ vs)) fun a z => by rw [← hw3] at z; exact oa_wipe z
            have m7 : ¬ OCl (OA (wipeE q4.2 vs) (wipe σ vs)) H5 Dl := fun z => by rw [← hw3] at z; exact hd6.m (z.mono fun _ => oa_wipe)
            have hal2 : accd.length < LINE := by omega
            refine ⟨acc, hd6.h, by rw [ra.length, line_eq]; exact hal2, wipeE q4.2 vs, G6, acc ++ [y5], accd ++ [q4.1], r4, by omega, by rw [List.length_append]; simp; omega, s7.side hd6.g m7, t7.side hD (fun z => m7 (oa_cl z)), Held.upd m7 hd6.g, ra6.append (Rps.one r6), a3, by rw [e', a4]; simp⟩
          | false =>
            refine iteF ?_
            have s7 := s4.wipe vs
            rw [hw3] at s7
            have t7 := tt4.less (M' := OA (wipeE e2 vs) (wipe σ vs)) fun a z => by rw [← hw3] at z; exact oa_wipe z
            have m7 : ¬ OCl (OA (wipeE e2 vs) (wipe σ vs)) H4 Dl := fun z => by rw [← hw3] at z; exact hd4.m (z.mono fun _ => oa_wipe)
            exact ⟨wipeE e2 vs, G4, acc, accd, r', by omega, by omega, s7, t7, ⟨m7, hd4.g, hd4.h⟩, ra4, k5 rfl, e'⟩
      · exact q.elim
    · exact q.elim
  · cases en
theorem lcN_ok {g : Gm} {W : WX} {σ : L2.St} {H : Hp} {Q : VK} {vs : List Nat} {tt : TT} (hg : TgOk g gt td ix) (hix : ∀ i ∈ ix, i ∈ vs) (htt : ∀ σ H Q, tB (teOf g WF c) σ H Q → tt σ H Q)
    (h : teOf g W (dLcN j td c e vs) σ H Q) : tLc (iAnySeq g.K (tVar j)) gt tt (teOf g WF e) vs σ H Q := by
  obtain ⟨P0, env, G, s, q⟩ := h
  unfold dLcN at q
  split at q
  · have q1 : tLc (tiOf g W (iSeq (dName j))) gt tt (teOf g WF e) vs σ H Q := lc_ok hg hix htt ⟨P0, env, G, s, q⟩
    exact any_mono (fun Q z => name_ok z) (seq_src q1)
  · exact lcJ_ok hg hix htt (lend_te ⟨P0, env, G, s, q⟩)
theorem se_lcN {c : Option Den} (hN : X.N[j]? = some x) (hv : Vis X.env.scope x) (hc : X.calm = true) (hNd : X.N.Nodup) (ok : BlkOk X.N X.env.scope scope own) (hg : CB X scope fun B => PG B tg gt) (ht : TgOk (gm X) gt td ix) (hix : ∀ i ∈ ix, i ∈ own.map (·.2))
    (hts : CB X scope fun B => STs B ifs c) (he : CB X scope fun B => SE B elt e) (hd : (x == ("__debug__" : Str)) = false := by decide) (hcd : (x == ("__classdict__" : Str)) = false := by decide) (hs : ∀ z, foldedSetIterable (.Name x p1) X.env z = pure z := by intro _; rfl) : SE X (.ListComp elt [⟨tg, .Name x p1, ifs, 0⟩] scope pos) (dLcN j td (cOf c) e (own.map (·.2))) := fun W tk =>
  pe_imp (pe_lc hc hNd (pi_any (pv j hN hv hd hcd)) ok hg (fun s H C cl fp => hts s H C cl fp takesF) (fun s H C cl fp => he s H C cl fp WF takesF) hs) fun σ H Q q => lcN_ok ht hix (tt_of c) q
end
end G
set_option Elab.async false
set_option linter.all false
set_option maxRecDepth 100000
set_option maxHeartbeats 4000000
namespace G
open PySem PySem.Spec PyProof.Rows L2 SX Evl
noncomputable def kdAt (kd : D → Bool) (v : Val) (env : Env) : Bool := match rd v env with
  | some x => kd x
  | none => false
noncomputable def dMethR (kd : D → Bool) (o : Den) (as : List Den) (f : D → List D → Option Val) : Den := fun env => (o env).bind fun p => if kdAt kd p.1 p.2 = true then (dArgs (as.map fun d => (false, d)) p.2).bind fun q => opt (imD q.1) fun ds => match rd p.1 q.2 with
  | some x => ans (f x ds) q.2
  | none => .bad else .bad
noncomputable def MROp (g : Gm) (r : V → List V → Hp → VK → Prop) (f : D → List D → Option Val) : Prop :=
  ∀ G H d as v vs w Q, Ex G H → RB g G H d v → Rps g G as vs → f d as = some w → Pur g G H w Q → r v vs H Q
noncomputable def KdOk (g : Gm) (T : String) (kd : D → Bool) : Prop := ∀ G H d v, Ex G H → RB g G H d v → kd d = true → tyV g.K T v H
noncomputable def kStr : D → Bool
  | .str _ => true
  | _ => false
theorem kd_str {g : Gm} : KdOk g "str" kStr := fun G H d v hx r k => by
  cases d with
  | str x => rw [r.str]; rfl
  | _ => cases k
section
variable {g : Gm} {o : Den} {as : List Den} {f : D → List D → Option Val} {r : V → List V → Hp → VK → Prop} {T : String} {kd : D → Bool}
theorem methR_ok {W : WX} {σ : L2.St} {H : Hp} {Q : VK} (hf : MROp g r f) (hT : KdOk g T kd) (h : teOf g W (dMethR kd o as f) σ H Q) : tBM g.K T r (teOf g W o) (taOf g W (as.map fun d => (false, d))) σ H Q := by
  refine te_first (k := fun p => if kdAt kd p.1 p.2 = true then (dArgs (as.map fun d => (false, d)) p.2).bind fun q => opt (imD q.1) fun ds => match rd p.1 q.2 with
    | some x => ans (f x ds) q.2
    | none => .bad else .bad) h fun P0 env0 G0 v env1 G1 x H1 s1 t1 w1 q => ?_
  simp only at q
  split at q
  · rename_i hk
    unfold kdAt at hk
    split at hk
    · rename_i x0 e0
      refine ⟨hT G1 H1 x0 x s1.ex (rd_now s1 w1 e0) hk, P0, env1, G1, s1, ?_⟩
      cases e : dArgs (as.map fun d => (false, d)) env1 with
      | bad => rw [e] at q; exact q.elim
      | err c e2 => rw [e] at q; exact fun cls G2 H2 hc s2 t2 => q cls G2 H2 hc s2 (t1.trans t2)
      | ok r1 =>
        rw [e] at q
        intro xs G2 H2 s2 t2 v2
        obtain ⟨ds, eds, q2⟩ := fin_opt q
        have w2 := w1.later t2
        split at q2
        · rename_i d ed
          cases ef : f d ds with
          | none => rw [ef] at q2; exact q2.elim
          | some u =>
            rw [ef] at q2
            exact hf G2 H2 d ds x xs u Q s2.ex (rd_now s2 w2 ed) (imD_rps v2 eds) ef (fin_pur s2 (t1.trans t2) q2)
        · exact q2.elim
    · cases hk
  · exact q.elim
end
section
variable {X : Cx} {o e : Expr} {es : List Expr} {apos cpos : Pos} {T id : String} {name : Str} {kd : D → Bool} {d : Den} {as : List Den} {f : D → List D → Option Val} {r : V → List V → Hp → VK → Prop}
theorem se_methR (pa : PlainAttrs T) (slot : PySem.Slot T name id) (hty : typeOf (.builtin id) = pure (.type "method_descriptor")) (hm : MtR X id r) (hf : MROp (gm X) r f) (hT : KdOk (gm X) T kd) (ho : SE X o d) (ha : SA X (e :: es) (as.map fun d => (false, d)))
    (hbase : attributeBase o name X.env (eval o X.env) = eval o X.env := by rfl)
    (hfew : ((backTo cpos (starEach (e :: es) X.env)).all (fun x => !x.1) && (backToKw cpos (keywordEach [] X.env)).all (fun x => x.1.isSome)
      && decide ((e :: es).length + ([] : List Keyword).length + (if ([] : List Keyword).isEmpty then 0 else 1) < 30)) = true := by rfl)
    (hline : (apos.endLine == cpos.line) = true := by rfl) (hs : starEach (e :: es) X.env = (false, eval e X.env) :: starEach es X.env := by rfl) (hplain : (backTo cpos (starEach es X.env)).any (·.1) = false := by rfl) :
    SE X (.Call (.Attribute o name apos) (e :: es) [] cpos) (dMethR kd d as f) := fun W tk => pe_imp (pe_bm pa slot hty hm (ho W tk) (ha W tk) hbase hfew hline hs hplain) fun σ H Q q => methR_ok hf hT q
end
noncomputable def strL : List D → Option (List (List Nat))
  | [] => some []
  | .str x :: r => (strL r).map (x :: ·)
  | _ :: _ => none
noncomputable def fJoin : D → List D → Option Val
  | .str a, [.lst ds] => (strL ds).bind fun ys => if (ys.map List.length).sum + ys.length * a.length ≤ LINE then some (.im (.str (TL.joinL a ys))) else none
  | _, _ => none
theorem strL_rps {g : Gm} {G : Hp} : ∀ {ds : List D} {ys : List (List Nat)} {vs : List V}, strL ds = some ys → Rps g G ds vs → vs = (ys.map S).map V.str
  | [], _, _, h, r => by cases h; exact r
  | .str x :: ds, ys, vs, h, r => by
    obtain ⟨zs, h1, rfl⟩ := Option.map_eq_some_iff.mp (show (strL ds).map (x :: ·) = some ys from h)
    obtain ⟨v, w, e, r1, r2⟩ := r
    rw [e, show v = V.str (S x) from r1, strL_rps h1 r2] <;> rfl
  | .non :: _, _, _, h, _ => by cases h
  | .bl _ :: _, _, _, h, _ => by cases h
  | .int _ :: _, _, _, h, _ => by cases h
  | .lst _ :: _, _, _, h, _ => by cases h
  | .tup _ :: _, _, _, h, _ => by cases h
  | .dk _ _ :: _, _, _, h, _ => by cases h
  | .dt _ _ :: _, _, _, h, _ => by cases h
  | .exc _ :: _, _, _, h, _ => by cases h
  | .ob _ _ :: _, _, _, h, _ => by cases h
theorem mr_join {g : Gm} : MROp g (fun x xs H Q => ∃ a p, ∃ ys : List Str, x = .str a ∧ xs = [.ref p] ∧ (SqL g.K H p (ys.map V.str) ∨ SqT g.K H p (ys.map V.str)) ∧ (ys.map (·.length)).sum + ys.length * a.length ≤ 16777216 ∧ Q (.str (Txt.join a ys)) H) fJoin := by
  intro G H d as v vs w Q hx r rs e q
  match d, as, e, rs with
  | .str a, [.lst ds], e, ⟨u, us, e1, ⟨b, zs, e2, h1, h2⟩, e3⟩ =>
    obtain ⟨ys, h3, h4⟩ := Option.bind_eq_some_iff.mp (show (strL ds).bind _ = some w from e)
    split at h4
    · rename_i hl
      cases h4
      have e3 : us = [] := e3
      subst e1 e2 e3
      refine ⟨S a, b, ys.map S, r.str, rfl, .inl (by rw [← strL_rps h3 h2]; exact ex_l hx h1), ?_, ?_⟩
      · have : ((ys.map S).map (·.length)) = ys.map List.length := by
          rw [List.map_map]
          exact List.map_congr_left fun z _ => S_len z
        rw [this, List.length_map, S_len]
        exact hl
      · rw [join_S]
        exact q.str hx
    · cases h4
  | .str a, [], e, _ => cases e
  | .str a, [.non], e, _ => cases e
  | .str a, [.bl _], e, _ => cases e
  | .str a, [.int _], e, _ => cases e
  | .str a, [.str _], e, _ => cases e
  | .str a, [.tup _], e, _ => cases e
  | .str a, [.dk _ _], e, _ => cases e
  | .str a, [.dt _ _], e, _ => cases e
  | .str a, [.exc _], e, _ => cases e
  | .str a, [.ob _ _], e, _ => cases e
  | .str a, _ :: _ :: _, e, _ => simp [fJoin] at e
  | .non, _, e, _ => cases e
  | .bl _, _, e, _ => cases e
  | .int _, _, e, _ => cases e
  | .lst _, _, e, _ => cases e
  | .tup _, _, e, _ => cases e
  | .dk _ _, _, e, _ => cases e
  | .dt _ _, _, e, _ => cases e
  | .exc _, _, e, _ => cases e
  | .ob _ _, _, e, _ => cases e
noncomputable def fSIndex : D → List D → Option Val
  | .str x, [.str [c]] => if c ∈ x ∧ x.Nodup then some (.im (.int (x.idxOf c : Nat))) else none
  | _, _ => none
theorem occ_one {x : List Nat} {c : Nat} (hm : c ∈ x) (hn : x.Nodup) : ∃ rest, Builtin.Str.occurrences (S x) (S [c]) 0 (S x).length 1 = x.idxOf c :: rest := by
  have h1 := in_one x c
  rw [decide_eq_true hm] at h1
  cases ho : Builtin.Str.occurrences (S x) (S [c]) 0 (S x).length 1 with
  | nil => rw [ho] at h1; cases h1
  | cons i rest =>
    have h2 := StrLaws.occ_spec (S x) (S [c]) 0 (S x).length 1 i (by rw [ho]; simp)
    obtain ⟨h3, h4⟩ := h2
    have h5 : i < x.length := by
      rw [S_len, S_len] at h3
      have h3 : i + 1 ≤ x.length := by simpa using h3
      omega
    have h6 : x[i]? = some c := by
      have h7 : ((S x).cps.extract i (i + 1) == (S [c]).cps) = true := h4
      have h8 := congrArg Array.toList (eq_of_beq h7)
      simp [S] at h8
      rw [List.getElem?_eq_getElem h5]
      have h9 : (x.drop i).take 1 = [c] := by
        rw [← h8]
      rw [List.drop_eq_getElem_cons h5, List.take_succ_cons] at h9
      exact congrArg some (List.cons.inj h9).1
    have h7 : x.idxOf c = i := by
      have e := (List.getElem?_eq_some_iff.mp h6).2
      rw [← e]
      exact hn.idxOf_getElem i h5
    exact ⟨rest, by rw [h7]⟩
theorem mr_sindex {g : Gm} : MROp g (fun x xs H Q => ∃ a b i rest, x = .str a ∧ xs = [.str b] ∧ Builtin.Str.occurrences a b 0 a.length 1 = i :: rest ∧ Q (.int (i : Nat)) H) fSIndex := by
  intro G H d as v vs w Q hx r rs e q
  unfold fSIndex at e
  split at e
  · rename_i x c
    split at e
    · rename_i hc
      cases e
      obtain ⟨u, us, e1, e2, e3⟩ := rs
      have e2 : u = V.str (S [c]) := e2
      have e3 : us = [] := e3
      subst e1 e2 e3
      obtain ⟨rest, ho⟩ := occ_one hc.1 hc.2
      exact ⟨S x, S [c], _, rest, r.str, rfl, ho, q.int hx⟩
    · cases e
  · cases e
structure ExcF (K : PySem.W.Frag) (mg : Str → Option Value) (c : Nat) : Prop where
  ex : ∃ C : Addr, mg (excName c) = some (.ref C) ∧ PySem.W.excIn K C [.type "ValueError", .type "Exception", .type "BaseException", .type "object"] "ValueError.__new__" = true ∧ PySem.W.keepIn K (.ref C) = true ∧
    PySem.W.subIn K (.ref C) (.type "BaseException") = some true ∧ PySem.W.typeIn K (.ref C) = some (.type "type")
noncomputable def sRaise (c : Nat) : SDen := fun env => .err c env
theorem ss_raise {X : Cx} {m : Str} {j : Nat} {p p2 pos pos2 : Pos} {c : Nat} {x : Str} (hc : X.calm = true) (f : ExcF X.K X.mg c) (hx : x = excName c) (hg : Gl X x) (hdb : (x == ("__debug__" : Str)) = false := by decide) :
    SS X (.Raise (some (.Call (.Name x p) [.Constant (.str m) j p2] [] pos)) none pos2) (sRaise c) := fun W tk => by
  obtain ⟨C, h1, h2, h3, h4, h5⟩ := f.ex
  subst hx
  exact ps_imp (ps_raise hc tk (pmk_own PySem.F.excBase_ValueError h2 h1 h3 (raises_own h4 h5) hg hdb)) fun D σ H ⟨P0, env, G, s, q⟩ => q _ σ G H h1 s Tr.refl
end G
set_option Elab.async false
set_option linter.all false
set_option maxRecDepth 100000
set_option maxHeartbeats 4000000
namespace G
open PySem PySem.Spec PyProof.Rows L2 SX Evl
end G
set_option Elab.async false
set_option linter.all false
set_option maxRecDepth 100000
set_option maxHeartbeats 4000000
namespace G
open PySem PySem.Spec PyProof.Rows L2 SX Evl
noncomputable def spL (K : PySem.W.Frag) : Sp := fun vs H Q _ => ∃ (a : Addr) (ns : List Int), vs = [.ref a] ∧ ns.length ≤ 63 ∧ SqL K H a (ns.map V.int) ∧ ∀ H', Q (.bl true) H'
noncomputable def Keeps (F : FD) : Prop := ∀ ns : List Int, ns.length ≤ 63 → ∃ l, F [.im (.lst (ns.map D.int))] = .ok (.im (.bl true), l)
theorem spL_ok {g : Gm} {F : FD} (h : Keeps F) (vs : List V) (H : Hp) (Q : VK) (E : XK) (q : spL g.K vs H Q E) : spF g 1 F vs H Q E := by
  obtain ⟨a, ns, rfl, hl, hs, q⟩ := q
  obtain ⟨l, e⟩ := h ns hl
  refine ⟨rfl, fun _ => none, [.im (.lst (ns.map D.int))], H, rfl, ⟨Ex.refl H, rfl, fun i d hi => ?_, fun i s d hi hd => ?_, fun i j s t d e p hi hd => ?_, fun i d hi => ?_, fun i j s t d e p q a hi hd => ?_⟩, ?_⟩
  · cases i with
    | zero =>
      cases hi
      exact ⟨.ref a, rfl, a, ns.map V.int, rfl, hs, Rps.of_int ns⟩
    | succ i => simp at hi
  · cases i with
    | zero => cases hi; cases hd
    | succ i => simp at hi
  · cases i with
    | zero => cases hi; cases hd
    | succ i => simp at hi
  · cases i with
    | zero => cases hi
    | succ i => simp at hi
  · cases i with
    | zero => cases hi; cases hd
    | succ i => simp at hi
  · rw [e]
    intro x G' H' _ _ r
    rw [show x = V.bl true from r]
    exact q H'
theorem cx_no {P : Program} {w : World} {H : Hp} {s : Shared} {e : Value} {s' : Shared} (h : L2.CX P w [] H s (fun _ _ _ => False) e s') : False := by
  obtain ⟨_, _, _, _, _, _, _, _, _, _, _, _, z⟩ := h
  exact z
theorem law_ok {P : Program} {w : World} {K : PySem.W.Frag} {mg : Str → Option Value} {base : Heap} {k : Nat} {f : Addr} {fd : FuncData} {ps : List Str} {F : FD} (h : Keeps F) (o : FnG P w K mg base (L2.CX P w) k f fd ps (spF ⟨K, mg⟩ 1 F)) : FnG P w K mg base (L2.CX P w) k f fd ps (spL K) :=
  o.imp fun vs H Q E q => spL_ok (g := ⟨K, mg⟩) h vs H Q E q
theorem u65 {k : Nat} {A : Around} (r : Room k A) : A.units + 65 < cLine := by have := r.un; omega
section
variable {X : Cx} {x : Str} {pos : Pos}
theorem se_gstr {l : List Nat} (h : ∃ t, X.mg x = some (.str (S l) t)) (hg : Gl X x) (hdb : (x == ("__debug__" : Str)) = false := by decide) : SE X (.Name x pos) (dC (.str l)) := by
  obtain ⟨t, h⟩ := h
  exact se_glob (v := .str (S l)) hg h ⟨t, rfl⟩ (fun _ => rfl) hdb
theorem se_gint {i : Int} (h : ∃ t, X.mg x = some (.int i t)) (hg : Gl X x) (hdb : (x == ("__debug__" : Str)) = false := by decide) : SE X (.Name x pos) (dC (.int i)) := by
  obtain ⟨t, h⟩ := h
  exact se_glob (v := .int i) hg h ⟨t, rfl⟩ (fun _ => rfl) hdb
end
noncomputable def FUEL : Nat := 1000000000000
end G
set_option Elab.async false
set_option linter.all false
set_option maxRecDepth 100000
set_option maxHeartbeats 4000000
namespace G
open PySem PySem.Spec PyProof.Rows L2 SX Evl
noncomputable def fRev : D → Option Val
  | .str x => if x.length ≤ LINE then some (.im (.str x.reverse)) else none
  | .lst ds => some (.ow (.lst ds.reverse))
  | _ => none
noncomputable def tRevA (K : PySem.W.Frag) (te : TE) : TE := fun σ H Q => te σ H fun x H1 => (∃ a xs, x = .ref a ∧ SqL K H1 a xs ∧ ∀ p, H1 p = none → Q (.ref p) (upd H1 p (.lst xs.reverse))) ∨ ∃ l : List Nat, x = .str (S l) ∧ l.length ≤ sizeLine ∧ Q (.str (S l.reverse)) H1
theorem rev_S (l : List Nat) : (⟨((Builtin.Str.strSliceIndices none none (-1) (S l).length).filterMap ((S l).cps[·]?)).toArray⟩ : Str) = S l.reverse := by
  rw [picked_rev]
  congr 1
  rw [filterMap_get]
  · refine congrArg List.toArray ?_
    rw [List.map_map, S_len]
    refine List.ext_getElem? fun i => ?_
    by_cases h : i < l.length
    · rw [List.getElem?_map, List.getElem?_range h, List.getElem?_reverse h]
      simp [Array.getD, show l.length - 1 - i < l.length by omega]
    · rw [List.getElem?_eq_none (by simp; omega), List.getElem?_eq_none (by simp; omega)]
  · intro i hi
    obtain ⟨k, hk, rfl⟩ := List.mem_map.mp hi
    have hk' : k < (S l).length := List.mem_range.mp hk
    rw [S_len] at hk' ⊢
    show l.length - 1 - k < l.toArray.size
    rw [List.size_toArray]
    omega
section
variable {X : Cx}
theorem pe_revA {e : Expr} {te : TE} {k : Nat} {p1 p2 p3 pos : Pos} (he : PE X e te) : PE X (.Subscript e (.Slice none none (some (.UnaryOp .USub (.Constant (.int 1) k p1) p2)) p3) pos) (tRevA X.K te) := by
  refine ⟨fun pins s σ H Q I h => ?_⟩
  refine Subscript_ (thn (he.run pins s σ H _ I h) fun v s1 ⟨x, H1, I1, r1, q1⟩ => ?_)
  have hst : PO X (some (.UnaryOp .USub (.Constant (.int 1) k p1) p2)) (tPart (tUn (rU fun i => .int (-i)) (tC (.int 1)))) := po_some (pe_un un_neg pe_int)
  refine wpAny_Slice (thn (po_none.run pins s1 σ H1 (fun o H2 => o = none ∧ H2 = H1) I1 ⟨rfl, rfl⟩) fun vl s2 ⟨l, H2, I2, pl, el, e2⟩ => ?_)
  subst el e2
  refine thn (po_none.run pins s2 σ H2 (fun o H3 => o = none ∧ H3 = H2) I2 ⟨rfl, rfl⟩) fun vu s3 ⟨u, H3, I3, pu, eu, e3⟩ => ?_
  subst eu e3
  refine thn (hst.run pins s3 σ H3 (fun o H4 => o = some (-1) ∧ H4 = H3) I3 ⟨1, rfl, -1, rfl, rfl, rfl⟩) fun vs s4 ⟨o, H4, I4, ps, eo, e4⟩ => ?_
  subst eo e4
  have I5 : Inv X pins σ H4 { s4 with heap := s4.heap.push { cls := .type "slice", data := .fields #[vl, vu, vs] } } := I4.kept (t' := s4.toks) fun b ob q => Heap.get?_push_of_some _ q
  show wpAny (model X.prog X.w) X.A (subscriptTail e (.Slice none none (some (.UnaryOp .USub (.Constant (.int 1) k p1) p2)) p3) v (.ref s4.heap.objs.size)) (EP X pins σ Q) X.xe { s4 with heap := s4.heap.push { cls := .type "slice", data := .fields #[vl, vu, vs] } }
  rcases q1 with ⟨a, xs, ex, hx, q⟩ | ⟨z, ex, hz, q⟩
  · subst ex
    cases r1
    obtain ⟨its, r, ht, hz⟩ := I5.list hx
    have hlen := r.length
    refine tail_any (ops := [.ref a, .ref s4.heap.objs.size]) ht.isList.typeIs (PySem.slot_list_getitem.lookup) ?_ (by with_unfolding_all rfl)
    refine wpAny_getItem_list_slice ht.isList (Heap.IsSliceOf.new _ vl vu vs) pl pu ps (by decide) ?_ (by rw [List.size_toArray]; omega)
    rw [PySem.W.krv_pick]
    refine ⟨.ref _, _, I5.laid (t' := s4.toks) (o := .lst xs.reverse) (fun b ob q => Heap.get?_push_of_some _ q) (Nat.le_refl _) ?_, rfl, q _ (I5.hok.fresh (Nat.le_refl _))⟩
    exact ⟨by rw [List.length_reverse]; exact hz, _, 0, r.reverse, Heap.get?_push_size _ rfl⟩
  · subst ex
    obtain ⟨t, rfl⟩ := r1
    obtain ⟨l, rfl, hl⟩ := IsPart.raw pl
    obtain ⟨u, rfl, hu⟩ := IsPart.raw pu
    obtain ⟨w, rfl, hw⟩ := IsPart.raw ps
    have l0 : l = none := by cases l with
      | none => rfl
      | some _ => cases hl
    have u0 : u = none := by cases u with
      | none => rfl
      | some _ => cases hu
    subst l0 u0
    cases w with
    | none => cases hw
    | some w =>
    obtain ⟨j, tj⟩ := w
    have hj : j = -1 := by simpa using hw
    subst hj
    refine tail_any (ops := [.ref s4.heap.objs.size, .str (S z) t]) (typeIs_str _ _ _) (F.slot_str_getitem.lookup) ?_ (by with_unfolding_all rfl)
    obtain ⟨os, hos, hcs, hds⟩ := Heap.IsSliceOf.new s4.heap (partValue none) (partValue none) (partValue (some ((-1 : Int), tj)))
    refine wpAny_getItem_str_slice (l := none) (u := none) (st := some (-1, tj)) ⟨os, hos, hcs, hds⟩ rfl ?_
    show Made.post (if ((-1 : Int) == 1 && (Builtin.Str.strSliceIndices none none (-1) (S z).length).length == (S z).length) = true then Made.val (.str (S z) t)
      else Made.str ⟨((Builtin.Str.strSliceIndices none none (-1) (S z).length).filterMap ((S z).cps[·]?)).toArray⟩) (EP X pins σ Q) _
    rw [if_neg (by simp), rev_S]
    exact ⟨by rw [S_len, List.length_reverse]; exact hz, .str _, H4, I5.tok _, ⟨_, rfl⟩, q⟩
end
theorem rev_ok {g : Gm} {W : WX} {σ : L2.St} {H : Hp} {Q : VK} {da : Den} (h : teOf g W (dUn fRev da) σ H Q) : tRevA g.K (teOf g W da) σ H Q := by
  obtain ⟨P0, env, G, hs, hq⟩ := h
  obtain ⟨P1, env1, G1, hs1, hq1⟩ := fin_bind hs Tr.refl hq
  refine ⟨P1, env1, G1, hs1, ?_⟩
  cases ea : da env1 with
  | bad => rw [ea] at hq1; exact hq1.elim
  | err c e2 => rw [ea] at hq1; exact hq1
  | ok p =>
    rw [ea] at hq1
    intro x G2 H2 s2 t2 v2
    obtain ⟨v, env3, G3, s3, t3, u3, v3, w3, q3⟩ := hq1 x G2 H2 s2 t2 v2
    simp only at q3
    split at q3
    · rename_i d1 e1
      have r1 := rd_now s3 w3 e1
      cases d1 with
      | lst ds =>
        obtain ⟨a, vs, e3, h1, h2⟩ := r1.lst s3.ex
        exact .inl ⟨a, vs, e3, h1, fun p hp => (fin_pur s3 u3 q3).new s3.ex ⟨_, rfl, h2.reverse⟩ hp⟩
      | str x =>
        simp only [fRev] at q3
        split at q3
        · rename_i hl
          exact .inr ⟨x, r1.str, by rw [line_eq]; exact hl, (fin_pur s3 u3 q3).str s3.ex⟩
        · exact q3.elim
      | _ => exact q3.elim
    · exact q3.elim
theorem se_rev {X : Cx} {e : Expr} {da : Den} {k : Nat} {p1 p2 p3 pos : Pos} (he : SE X e da) : SE X (.Subscript e (.Slice none none (some (.UnaryOp .USub (.Constant (.int 1) k p1) p2)) p3) pos) (dUn fRev da) :=
  fun W tk => pe_imp (pe_revA (he W tk)) fun σ H Q q => rev_ok q
end G
set_option Elab.async false
set_option linter.all false
set_option maxRecDepth 100000
set_option maxHeartbeats 4000000
namespace G
open PySem PySem.Spec PyProof.Rows L2 SX Evl
section
variable {X : Cx} {e tg : Expr} {d : Den} {td : TDen} {g : TG} {ix : List Nat} {pos : Pos}
end
noncomputable def sDrop (is : List Nat) (d : SDen) : SDen := fun env => match d env with
  | .ok (.rt v, e) => .ok (.rt v, e)
  | .ok (.nx, e) => .ok (.nx, wipeE e is)
  | .ok (.bk, e) => .ok (.bk, wipeE e is)
  | .ok (.ct, e) => .ok (.ct, wipeE e is)
  | .err c e => .err c e
  | .bad => .bad
section
variable {g : Gm} {P0 : Nat → Option Addr} {env : Env} {σ : L2.St} {G H : Hp}
theorem Sim.drop (hs : Sim g P0 env σ G H) (is : List Nat) : Sim g P0 (wipeE env is) σ G H where
  ex := hs.ex
  len := by rw [wipeE_len]; exact hs.len
  im := fun i d h => by
    rcases wipeE_own h with q | ⟨_, q⟩
    · cases q
    · exact hs.im i d q
  ow := fun i s d h h' => by
    rcases wipeE_own h with q | ⟨_, q⟩
    · subst q; cases h'
    · exact hs.ow i s d q h'
  dis := fun i j s t d e p h1 h2 h3 h4 h5 h6 => by
    rcases wipeE_own h1 with q | ⟨_, q⟩
    · subst q; cases h2
    · rcases wipeE_own h3 with z | ⟨_, z⟩
      · subst z; cases h4
      · exact hs.dis i j s t d e p q h2 z h4 h5 h6
  io := fun i d h => by
    rcases wipeE_own h with q | ⟨_, q⟩
    · cases q
    · exact hs.io i d q
  pv := fun i j s t d e p r a h1 h2 h3 h4 h5 h6 h7 h8 => by
    rcases wipeE_own h1 with q | ⟨_, q⟩
    · subst q; cases h2
    · rcases wipeE_own h3 with z | ⟨_, z⟩
      · subst z; cases h4
      · exact hs.pv i j s t d e p r a q h2 z h4 h5 h6 h7 h8
theorem oa_drop {is : List Nat} {a : Addr} (h : OA (wipeE env is) σ a) : OA env σ a := by
  obtain ⟨i, s, d, h1, h2, h3⟩ := h
  rcases wipeE_own h1 with q | ⟨_, q⟩
  · subst q; cases h2
  · exact ⟨i, s, d, q, h2, h3⟩
theorem fins_drop {W : WX} {M0 : Addr → Prop} {G0 H0 : Hp} {D : Ends} {d : SDen} {is : List Nat} (h : FinS g W P0 M0 G0 H0 D (sDrop is d env)) : FinS g W P0 M0 G0 H0 D (d env) := by
  unfold sDrop at h
  cases e : d env with
  | bad => rw [e] at h; exact h.elim
  | err c e1 => rw [e] at h; exact h
  | ok p =>
    obtain ⟨f, e1⟩ := p
    rw [e] at h
    cases f with
    | rt v => exact h
    | nx => exact fun σ' G' H' s t => h σ' G' H' (s.drop is) (t.less fun a => oa_drop)
    | bk => exact fun σ' G' H' s t => h σ' G' H' (s.drop is) (t.less fun a => oa_drop)
    | ct => exact fun σ' G' H' s t => h σ' G' H' (s.drop is) (t.less fun a => oa_drop)
end
section
variable {X : Cx} {st : Stmt} {sts : List Stmt} {d : SDen}
theorem ss_drop (is : List Nat) (h : SS X st d) : SS X st (sDrop is d) := fun W tk => ps_imp (h W tk) fun D σ H ⟨P0, env, G, s, q⟩ => ⟨P0, env, G, s, fins_drop q⟩
theorem sss_drop (is : List Nat) (h : SSs X sts d) : SSs X sts (sDrop is d) := fun W tk => pss_imp (h W tk) fun D σ H ⟨P0, env, G, s, q⟩ => ⟨P0, env, G, s, fins_drop q⟩
end
end G
set_option Elab.async false
set_option linter.all false
set_option maxRecDepth 100000
set_option maxHeartbeats 4000000
namespace G
open PySem PySem.Spec PyProof.Rows L2 SX Evl
section
variable {X : Cx} {pins : List (Addr × Obj)} {σ : L2.St} {H : Hp} {s : Shared}
end
section
variable {X : Cx} {e : Expr} {te : TE} {i : Nat} {x : Str} {rest : List Stmt} {u : TS} {pos pos' : Pos}
end
section
variable {X : Cx} {es : List Expr} {ls : List (List Nat)} {il ip : Nat} {kx px : Str} {j0 : Nat} {p0 p1 p2 p3 p4 c0 apos pos lpos cpos : Pos}
end
section
variable {X : Cx} {st : Stmt} {rest : List Stmt} {a b : SDen}
end
section
variable {X : Cx} {es : List Expr} {ls : List (List Nat)} {il ip : Nat} {kx px : Str} {j0 : Nat} {p0 p1 p2 p3 p4 c0 apos pos lpos cpos : Pos} {rest : List Stmt} {b : SDen}
end
section
variable {X : Cx} {e : Expr} {d : Den} {b : SDen} {i : Nat} {x : Str} {rest : List Stmt} {pos pos' : Pos}
end
end G
set_option Elab.async false
set_option linter.all false
set_option maxRecDepth 100000
set_option maxHeartbeats 4000000
namespace G
open PySem PySem.Spec PyProof.Rows L2 SX Evl
section
variable {g : Gm} {P0 : Nat → Option Addr} {env env' : Env} {σ : L2.St} {G H : Hp}
theorem fz_nowE {G0 H0 : Hp} {env0 : Env} {v : Val} {x : V} {d : D} (hs : Sim g P0 env σ G H) (t : Tr (OA env0 σ) G0 H0 (OA env σ) G H) (hv : VR g env σ H0 G H v x) (h : fz v env = some (d, env')) :
    ∃ G', Ex G G' ∧ Sim g P0 env' σ G' H ∧ Tr (OA env0 σ) G0 H0 (OA env' σ) G' H ∧ Rp g G' d x := by
  cases v with
  | im e => cases h; exact ⟨G, Ex.refl G, hs, t, hv⟩
  | ow e =>
    cases h
    obtain ⟨p, e1, h1, h2, h3⟩ := hv
    subst e1
    obtain ⟨G', s', hG, hn, hp⟩ := hs.still h2 h1
    refine ⟨G', hG, s', ⟨t.ex.trans hG, t.keep, fun a ha => ?_, t.own, t.dom⟩, hp⟩
    rcases hn a ha with q | q
    · exact t.gnew a q
    · exact .inr (.inl (h3 a q))
  | loc i =>
    have hv : σ[i]? = some (some x) := hv
    simp only [fz] at h
    split at h
    · rename_i e he
      cases h
      obtain ⟨w, q1, q2⟩ := hs.im i _ he
      rw [hv] at q1
      cases q1
      exact ⟨G, Ex.refl G, hs, t, q2⟩
    · rename_i e he
      cases h
      obtain ⟨G', s', t', p, q1, q2⟩ := hs.freeze he
      rw [hv] at q1
      cases q1
      exact ⟨G', t'.ex, s', t.trans t', q2⟩
    · cases h
end
section
variable {X : Cx} {a b : Expr} {da db : Den} {i j : Nat} {x y : Str} {px py pt pos : Pos} {kt k2 pt2}
end
end G
set_option Elab.async false
set_option linter.all false
set_option maxRecDepth 100000
set_option maxHeartbeats 4000000
namespace G
open PySem PySem.Spec PyProof.Rows L2 SX Evl
noncomputable def zipL : List D → List D → List D
  | a :: x, b :: y => .tup [a, b] :: zipL x y
  | _, _ => []
theorem zipL_len : ∀ (x y : List D), (zipL x y).length = min x.length y.length
  | a :: x, b :: y => by simp [zipL, zipL_len x y]
  | [], y => by simp [zipL]
  | _ :: _, [] => by simp [zipL]
theorem zipL_get : ∀ (x y : List D) (i : Nat) (e : D), (zipL x y)[i]? = some e → ∃ a b, x[i]? = some a ∧ y[i]? = some b ∧ e = .tup [a, b]
  | a :: x, b :: y, 0, e, h => ⟨a, b, rfl, rfl, by simpa [zipL] using h.symm⟩
  | a :: x, b :: y, i + 1, e, h => by
    obtain ⟨c, d, h1, h2, h3⟩ := zipL_get x y i e (by simpa [zipL] using h)
    exact ⟨c, d, by simpa using h1, by simpa using h2, h3⟩
  | [], y, i, e, h => by simp [zipL] at h
  | _ :: _, [], i, e, h => by simp [zipL] at h
inductive ZSrc where
  | lst (a : Addr) | tup (a : Addr) | str (x : Str)
noncomputable def ZSrc.v : ZSrc → V
  | .lst a => .ref a
  | .tup a => .ref a
  | .str x => .str x
noncomputable def ZSrc.has (K : PySem.W.Frag) (H : Hp) : ZSrc → List V → Prop
  | .lst a, xs => SqL K H a xs
  | .tup a, xs => SqT K H a xs
  | .str x, xs => xs = x.cps.toList.map fun c => V.str ⟨#[c]⟩
noncomputable def ZSrc.st (h : Heap) (i : Addr) (k : Nat) : ZSrc → Prop
  | .lst a => h.IsListIter i a k
  | .tup a => h.IsTupleIter i a k
  | .str x => ∃ t, h.IsStrIter i (strIterType x) x t k
noncomputable def ZSrc.cells : ZSrc → List Addr
  | .lst a => [a]
  | .tup a => [a]
  | .str _ => []
section
variable {h h' : Heap} {i : Addr} {k : Nat}
theorem ZSrc.st_obj : ∀ {p : ZSrc}, p.st h i k → ∃ o, h.get? i = some o ∧ ∀ v, o.data ≠ .cell v
  | .lst a, ⟨o, e, _, d⟩ => ⟨o, e, fun v q => by rw [d] at q; cases q⟩
  | .tup a, ⟨o, e, _, d⟩ => ⟨o, e, fun v q => by rw [d] at q; cases q⟩
  | .str x, ⟨t, o, e, _, d⟩ => ⟨o, e, fun v q => by rw [d] at q; cases q⟩
theorem ZSrc.st_at : ∀ {p : ZSrc}, p.st h i k → (∀ o, h.get? i = some o → h'.get? i = some o) → p.st h' i k
  | .lst a, st, kp => Heap.IsListIter.at (show h.IsListIter i a k from st) kp
  | .tup a, st, kp => Heap.IsTupleIter.at (show h.IsTupleIter i a k from st) kp
  | .str x, ⟨t, o, e, c, d⟩, kp => ⟨t, o, kp o e, c, d⟩
end
section
variable {X : Cx} {pins : List (Addr × Obj)} {σ : L2.St} {H : Hp} {s : Shared}
theorem ZSrc.draws (I : Inv X pins σ H s) (hc : X.calm = true) {p : ZSrc} {xs : List V} {i : Addr} {k : Nat} (hs : p.has X.K H xs) (hi : H i = none) (ne : i ∉ p.cells) (hst : p.st s.heap i k) :
    ∃ P St, Draws X.prog X.w X.A.in1 i (i :: p.cells) xs.length P St ∧ St k s.heap ∧ (∀ j h, St j h → p.st h i j) ∧ ∀ j u, P j u → ∃ x, xs[j]? = some x ∧ RelV x u := by
  have hh : X.A.in1.handled = none := I.ok.hd hc
  cases p with
  | lst a =>
    have hs : SqL X.K H a xs := hs
    obtain ⟨its, rv, pl, _⟩ := I.list hs
    have na : a ≠ i := fun z => ne (by rw [z]; exact List.mem_singleton.mpr rfl)
    have D := Draws.list (prog := X.prog) (w := X.w) hh i a na its.toArray
    have e : its.toArray.size = xs.length := by rw [List.size_toArray]; exact rv.length.symm
    rw [e] at D
    refine ⟨_, _, D, ⟨hst, pl.isList⟩, fun j h st => st.1, fun j u hu => ?_⟩
    have hu : its[j]? = some u := by simpa using hu
    have hj : j < xs.length := by
      have := (List.getElem?_eq_some_iff.mp hu).1
      rw [rv.length]; exact this
    obtain ⟨u', e1, r⟩ := rv.get (List.getElem?_eq_getElem hj)
    rw [hu] at e1
    cases e1
    exact ⟨_, List.getElem?_eq_getElem hj, r⟩
  | tup a =>
    have hs : SqT X.K H a xs := hs
    obtain ⟨its, rv, pl, _⟩ := I.tuple hs
    have na : a ≠ i := fun z => ne (by rw [z]; exact List.mem_singleton.mpr rfl)
    have D := Draws.tuple (prog := X.prog) (w := X.w) hh i a na its.toArray
    have e : its.toArray.size = xs.length := by rw [List.size_toArray]; exact rv.length.symm
    rw [e] at D
    refine ⟨_, _, D, ⟨hst, show s.heap.IsTuple a its.toArray from pl⟩, fun j h st => st.1, fun j u hu => ?_⟩
    have hu : its[j]? = some u := by simpa using hu
    have hj : j < xs.length := by
      have := (List.getElem?_eq_some_iff.mp hu).1
      rw [rv.length]; exact this
    obtain ⟨u', e1, r⟩ := rv.get (List.getElem?_eq_getElem hj)
    rw [hu] at e1
    cases e1
    exact ⟨_, List.getElem?_eq_getElem hj, r⟩
  | str x =>
    obtain rfl : xs = x.cps.toList.map fun c => V.str ⟨#[c]⟩ := hs
    obtain ⟨t, st⟩ := hst
    have D := Draws.text (prog := X.prog) (w := X.w) hh i x t
    have e : x.cps.size = (x.cps.toList.map fun c => V.str ⟨#[c]⟩).length := by simp
    rw [e] at D
    refine ⟨_, _, D, st, fun j h z => ⟨t, z⟩, fun j u hu => ?_⟩
    obtain ⟨c, u', e1, rfl⟩ := hu
    refine ⟨V.str ⟨#[c]⟩, ?_, ⟨u', rfl⟩⟩
    rw [List.getElem?_map, Array.getElem?_toList, e1]; rfl
end
theorem ZSrc.has_uq {X : Cx} {pins : List (Addr × Obj)} {σ : L2.St} {H : Hp} {s : Shared} (I : Inv X pins σ H s) : ∀ {p : ZSrc} {xs ys : List V}, p.has X.K H xs → p.has X.K H ys → xs = ys
  | .lst _, _, _, h, h' => I.list_inj h h'
  | .tup _, _, _, h, h' => I.tuple_inj h h'
  | .str _, _, _, h, h' => h.trans h'.symm
noncomputable def ItzM (K : PySem.W.Frag) (p q : ZSrc) : It :=
  ⟨fun i H => ∃ (xs ys : List V) (x y : V), p.has K H xs ∧ q.has K H ys ∧ xs[i]? = some x ∧ ys[i]? = some y,
    fun i H v H' => ∃ T x y, v = .ref T ∧ H T = none ∧ H' = upd H T (.tup [x, y]) ∧ (∀ xs, p.has K H xs → xs[i]? = some x) ∧ ∀ ys, q.has K H ys → ys[i]? = some y,
    fun i H => ∃ xs ys : List V, p.has K H xs ∧ q.has K H ys ∧ min xs.length ys.length = i⟩
theorem turn_zipM {P : Program} {w : World} {K : PySem.W.Frag} {elts : List Expr} {kk : Nat} {tpos : Pos} {p q : ZSrc} {z TI TO i1 i2 : Addr} (S : ZipSep2 z TI TO i1 i2 (i1 :: p.cells) (i2 :: q.cells)) (n1 : i1 ∉ p.cells) (n2 : i2 ∉ q.cells) :
    Turn P w K (.Tuple elts kk tpos) (ItzM K p q) [z, TI, TO, i1, i2] z (fun i h => IsZip h z TI TO .none ∧ IsTupOf2 h TI (.ref i1) (.ref i2) ∧ (∃ x y, IsTupOf2 h TO x y) ∧ p.st h i1 i ∧ q.st h i2 i) where
  mem := by simp
  obj := by
    rintro i h ⟨hz, hTI, ⟨x, y, hTO⟩, h1, h2⟩ c hcm
    simp only [List.mem_cons, List.not_mem_nil, or_false] at hcm
    rcases hcm with e | e | e | e | e
    · rw [e]; exact ⟨_, hz, fun v q => nomatch q⟩
    · rw [e]; exact ⟨_, hTI, fun v q => nomatch q⟩
    · rw [e]; exact ⟨_, hTO, fun v q => nomatch q⟩
    · rw [e]; exact ZSrc.st_obj h1
    · rw [e]; exact ZSrc.st_obj h2
  keep := by
    rintro i h h' ⟨hz, hTI, ⟨x, y, hTO⟩, h1, h2⟩ k
    exact ⟨k z (by simp) _ hz, k TI (by simp) _ hTI, ⟨x, y, k TO (by simp) _ hTO⟩, ZSrc.st_at h1 fun o q => k i1 (by simp) o q, ZSrc.st_at h2 fun o q => k i2 (by simp) o q⟩
  item := by
    rintro X rfl rfl rfl hc i pins s σ H E I hf ⟨hz, hTI, ⟨x0, y0, hTO⟩, h1, h2⟩ ⟨xs, ys, x, y, hx, hy, ex, ey⟩
    have l1 := (List.getElem?_eq_some_iff.mp ex).1
    have l2 := (List.getElem?_eq_some_iff.mp ey).1
    obtain ⟨P1, St1, D1, s1, g1, r1⟩ := ZSrc.draws I hc hx (hf i1 (by simp)).1 n1 h1
    obtain ⟨P2, St2, D2, s2, g2, r2⟩ := ZSrc.draws I hc hy (hf i2 (by simp)).1 n2 h2
    have hzl : z < s.heap.objs.size := Heap.lt_size hz
    refine wpAny_pyNext_zipD2_item S D1 D2 hz hTI hTO s1 s2 l1 l2 fun u1 u2 h' tk p1 p2 z' TO' t1 t2 hT hsz hk => ⟨_, rfl, ?_⟩
    obtain ⟨w1, e1, ru1⟩ := r1 i u1 p1
    obtain ⟨w2, e2, ru2⟩ := r2 i u2 p2
    refine wpAny_letOwnedTupleGo_zip (s := { s with heap := h', toks := tk }) z' fun h'' z'' sb => ?_
    have hT2 : h''.get? s.heap.objs.size = some { cls := .type "tuple", data := .seq #[u1, u2] } := (sb.2 _ (Nat.ne_of_gt hzl)).trans hT
    have new : ObjOk X.prog X.w (upd H s.heap.objs.size (.tup [w1, w2])) h'' s.heap.objs.size (.tup [w1, w2]) :=
      ⟨by show 2 ≤ sizeLine; decide, [u1, u2], .cons ru1 (.cons ru2 .nil), ⟨_, hT2, rfl, _, rfl⟩⟩
    have keep : ∀ c o, c ∉ [z, TI, TO, i1, i2] → s.heap.get? c = some o → h''.get? c = some o := fun c o hb e => by
      simp only [List.mem_cons, List.not_mem_nil, or_false, not_or] at hb
      exact (sb.2 c hb.1).trans (hk c o hb.1 hb.2.2.1 hb.2.2.2.1 hb.2.2.2.2 e)
    have I1 : Inv X pins σ (upd H s.heap.objs.size (.tup [w1, w2])) { s with heap := h'', toks := tk } := I.turnedNew (t' := tk) (ch := [z, TI, TO, i1, i2]) keep hf (Nat.le_refl _) new
    refine ⟨.ref s.heap.objs.size, _, I1, rfl, ⟨_, w1, w2, rfl, I.hok.fresh (Nat.le_refl _), rfl, fun l hl => by rw [ZSrc.has_uq I hl hx]; exact e1, fun l hl => by rw [ZSrc.has_uq I hl hy]; exact e2⟩, ⟨z'', ?_, ⟨u1, u2, ?_⟩, ?_, ?_⟩, fun c hcm => ?_⟩
    · exact (sb.2 _ S.TIz).trans (hk _ _ S.TIz S.TITO S.TIi1 S.TIi2 hTI)
    · exact (sb.2 _ S.TOz).trans TO'
    · exact ZSrc.st_at (g1 _ _ t1) fun o q => (sb.2 _ S.zi1.symm).trans q
    · exact ZSrc.st_at (g2 _ _ t2) fun o q => (sb.2 _ S.zi2.symm).trans q
    · have hlt : c < s.heap.objs.size := by
        have hcm2 := hcm
        simp only [List.mem_cons, List.not_mem_nil, or_false] at hcm2
        rcases hcm2 with e | e | e | e | e
        · rw [e]; exact hzl
        · rw [e]; exact Heap.lt_size hTI
        · rw [e]; exact Heap.lt_size hTO
        · rw [e]; obtain ⟨_, e1, _⟩ := ZSrc.st_obj h1; exact Heap.lt_size e1
        · rw [e]; obtain ⟨_, e2, _⟩ := ZSrc.st_obj h2; exact Heap.lt_size e2
      rw [upd_ne (Nat.ne_of_lt hlt)]
      exact (hf c hcm).1
  done := by
    rintro X rfl rfl rfl hc i pins s σ H E I hf ⟨hz, hTI, ⟨x0, y0, hTO⟩, h1, h2⟩ ⟨xs, ys, hx, hy, hm⟩
    obtain ⟨P1, St1, D1, s1, _, _⟩ := ZSrc.draws I hc hx (hf i1 (by simp)).1 n1 h1
    obtain ⟨P2, St2, D2, s2, _, _⟩ := ZSrc.draws I hc hy (hf i2 (by simp)).1 n2 h2
    refine wpAny_pyNext_zipD2_end S D1 D2 hz hTI hTO s1 s2 (by omega) (by omega) (by omega) fun h' tk hk => ⟨rfl, ?_⟩
    refine I.turnedL (t' := tk) (ch := [z, TI, TO, i1, i2]) (fun c o hb q => ?_) hf
    simp only [List.mem_cons, List.not_mem_nil, or_false, not_or] at hb
    exact hk c o hb.1 hb.2.2.1 hb.2.2.2.1 hb.2.2.2.2 q
  self := fun A i s Q E st h => wpAny_pyIter_zip st.1 h
theorem ZSrc.begins {X : Cx} {pins : List (Addr × Obj)} {σ : L2.St} {H : Hp} {s : Shared} (I : Inv X pins σ H s) {p : ZSrc} {xs : List V} {u : Value} (hs : p.has X.K H xs) (r : RelV p.v u) :
    ∃ o Hh, Begins u o Hh ∧ Hh s.heap ∧ (∀ a ∈ p.cells, a < s.heap.objs.size) ∧ ∀ (h : Heap) (i : Addr), h.get? i = some o → p.st h i 0 := by
  cases p with
  | lst a =>
    obtain rfl : u = Value.ref a := r
    obtain ⟨its, rv, pl, _⟩ := I.list (show SqL X.K H a xs from hs)
    refine ⟨_, _, begins_list a its.toArray, pl.isList, fun b hb => ?_, fun h i e => ⟨_, e, rfl, rfl⟩⟩
    rw [List.mem_singleton.mp hb]; exact pl.lt
  | tup a =>
    obtain rfl : u = Value.ref a := r
    obtain ⟨its, rv, pl, _⟩ := I.tuple (show SqT X.K H a xs from hs)
    refine ⟨_, _, begins_tuple a its.toArray, show s.heap.IsTuple a its.toArray from pl, fun b hb => ?_, fun h i e => ⟨_, e, rfl, rfl⟩⟩
    rw [List.mem_singleton.mp hb]; obtain ⟨o, e, _⟩ := pl; exact Heap.lt_size e
  | str x =>
    obtain ⟨t, rfl⟩ : ∃ t, u = Value.str x t := r
    exact ⟨_, fun _ => True, begins_text x t, trivial, (fun b hb => by cases hb), fun h i e => ⟨t, _, e, rfl, rfl⟩⟩
noncomputable def iZipV (K : PySem.W.Frag) (ta : TA) : TI := fun σ H R => ta σ H fun vs H1 => ∃ (p q : ZSrc) (xs ys : List V), vs = [p.v, q.v] ∧ p.has K H1 xs ∧ q.has K H1 ys ∧ R (ItzM K p q) H1
theorem pi_zipV {X : Cx} {e e2 : Expr} {ta : TA} {p pos tpos : Pos} {elts : List Expr} {kk : Nat} (hg : Gl X "zip") (hm : X.mg "zip" = none) (ha : PA X [e, e2] ta)
    (hs : starEach [e, e2] X.env = (false, eval e X.env) :: starEach [e2] X.env := by rfl) (hpl : (backTo pos (starEach [e2] X.env)).any (·.1) = false := by rfl) :
    PI X (.Tuple elts kk tpos) (.Call (.Name "zip" p) [e, e2] [] pos) (iZipV X.K ta) := by
  constructor
  intro pins s σ H R I h
  apply Call_ (ld_blt I hg hm PyProof.Rows.boot_zip (PyProof.Rows.callWith_type1 (thn (ha.run pos pins s σ H _ I h) ?_) hs hpl))
  rintro us s1 ⟨vs, H1, I1, r1, p, q, xs, ys, rfl, hx, hy, hR⟩
  cases r1 with
  | @cons _ u1 _ _ ru1 rr => cases rr with
    | @cons _ u2 _ _ ru2 rr =>
      cases rr
      obtain ⟨o1, Hh1, B1, b1, c1, k1⟩ := ZSrc.begins I1 hx ru1
      obtain ⟨o2, Hh2, B2, b2, c2, k2⟩ := ZSrc.begins I1 hy ru2
      refine zip_begins2 B1 B2 b1 b2 fun h' hz hTI hTO g1 g2 hsz hk => wpAny_pyIter_zip hz ?_
      have f5 : ∀ c ∈ [s1.heap.objs.size + 4, s1.heap.objs.size + 2, s1.heap.objs.size + 3, s1.heap.objs.size, s1.heap.objs.size + 1], FpOk X pins H1 c := fun c hcm => by
        have hle : s1.heap.objs.size ≤ c := by
          simp only [List.mem_cons, List.not_mem_nil, or_false] at hcm
          omega
        exact I1.fpOk hle (I1.hok.fresh hle)
      refine ⟨s1.heap.objs.size + 4, [s1.heap.objs.size + 4, s1.heap.objs.size + 2, s1.heap.objs.size + 3, s1.heap.objs.size, s1.heap.objs.size + 1], _, _, H1, rfl, I1.kept (t' := s1.toks) hk, turn_zipM (zip_sep2 c1 c2) (fun z => Nat.lt_irrefl _ (c1 _ z)) (fun z => absurd (c2 _ z) (Nat.not_lt_of_le (Nat.le_succ _))), ⟨hz, hTI, ⟨_, _, hTO⟩, k1 _ _ g1, k2 _ _ g2⟩, f5, hR⟩
noncomputable def ZSrc.is (g : Gm) (G : Hp) (p : ZSrc) (ds : List D) : Prop := ∃ vs, p.has g.K G vs ∧ Rps g G ds vs
theorem ZSrc.has_ex {K : PySem.W.Frag} {G H : Hp} (e : Ex G H) : ∀ {p : ZSrc} {xs : List V}, p.has K G xs → p.has K H xs
  | .lst _, _, h => ex_l e h
  | .tup _, _, h => ex_t e h
  | .str _, _, h => h
theorem walk_zipM {g : Gm} {G : Hp} {p q : ZSrc} {ds es : List D} (h1 : p.is g G ds) (h2 : q.is g G es) : Walk g G (zipL ds es) (ItzM g.K p q) := by
  obtain ⟨vs, a1, a2⟩ := h1
  obtain ⟨ws, b1, b2⟩ := h2
  have l1 := a2.length
  have l2 := b2.length
  constructor
  · intro G' H' i e x hi
    rw [zipL_len] at hi
    exact ⟨vs, ws, vs[i]'(by omega), ws[i]'(by omega), ZSrc.has_ex x (ZSrc.has_ex e a1), ZSrc.has_ex x (ZSrc.has_ex e b1), by simp, by simp⟩
  · intro G' H' i x H'' d e hx hd y
    obtain ⟨T, x', y', rfl, hT, rfl, f1, f2⟩ := y
    obtain ⟨d1, d2, q1, q2, rfl⟩ := zipL_get ds es i d hd
    obtain ⟨v1, p1, r1⟩ := a2.get q1
    obtain ⟨v2, p2, r2⟩ := b2.get q2
    have z1 := f1 vs (ZSrc.has_ex hx (ZSrc.has_ex e a1))
    have z2 := f2 ws (ZSrc.has_ex hx (ZSrc.has_ex e b1))
    rw [p1] at z1
    rw [p2] at z2
    cases z1
    cases z2
    exact ⟨_, grow_tup hx hT (Rps.cons (Rp.mono e _ _ r1) (Rps.one (Rp.mono e _ _ r2)))⟩
  · intro G' H' i e x hi
    rw [zipL_len] at hi
    exact ⟨vs, ws, ZSrc.has_ex x (ZSrc.has_ex e a1), ZSrc.has_ex x (ZSrc.has_ex e b1), by omega⟩
noncomputable def itemsD : D → Option (List D)
  | .lst ds => some ds
  | .tup ds => some ds
  | .str x => some (chars x)
  | _ => none
theorem rps_chr {g : Gm} {G : Hp} : ∀ x : List Nat, Rps g G (chars x) (x.map fun c => V.str ⟨#[c]⟩)
  | [] => Rps.nil
  | c :: x => Rps.cons rfl (rps_chr x)
theorem src_of {g : Gm} {G : Hp} {d : D} {ds : List D} {v : V} (h : Rp g G d v) (e : itemsD d = some ds) : ∃ p : ZSrc, v = p.v ∧ p.is g G ds := by
  cases d with
  | lst l =>
    cases e
    obtain ⟨a, vs, e1, h1, h2⟩ := h
    exact ⟨.lst a, e1, vs, h1, h2⟩
  | tup l =>
    cases e
    obtain ⟨a, vs, e1, h1, h2⟩ := h
    exact ⟨.tup a, e1, vs, SqT.of h1, h2⟩
  | str x =>
    cases e
    refine ⟨.str (S x), h, _, rfl, ?_⟩
    have := rps_chr (g := g) (G := G) x
    simpa [S] using this
  | _ => cases e
noncomputable def iZip (d e : Den) : IDen := fun env => (d env).bind fun p => match fz p.1 p.2 with
  | some (a, e1) => (e e1).bind fun p2 => match fz p2.1 p2.2 with
    | some (b, e2) => match itemsD a, itemsD b with
      | some ds, some es => .ok (zipL ds es, e2)
      | _, _ => .bad
    | _ => .bad
  | _ => .bad
theorem si_zip {X : Cx} {e e2 : Expr} {d d2 : Den} {p pos tpos : Pos} {elts : List Expr} {kk : Nat} (hg : Gl X "zip") (hm : X.mg "zip" = none) (he : SE X e d) (he2 : SE X e2 d2)
    (hs : starEach [e, e2] X.env = (false, eval e X.env) :: starEach [e2] X.env := by rfl) (hs2 : starEach [e2] X.env = (false, eval e2 X.env) :: starEach [] X.env := by rfl) (hpl : (backTo pos (starEach [e2] X.env)).any (·.1) = false := by rfl) :
    SI X (.Tuple elts kk tpos) (.Call (.Name "zip" p) [e, e2] [] pos) (iZip d d2) := fun W tk => pi_imp (pi_zipV hg hm (pa_cons (he W tk) (pa_cons (he2 W tk) pa_nil hs2) hs) hs hpl) fun σ H Q ⟨P0, env, G, s, q⟩ =>
  te_src s Tr.refl q fun v env1 G1 x H1 s1 t1 u1 w1 q1 => by
    simp only at q1
    split at q1
    · rename_i a e1 ef
      obtain ⟨G2, g2, s2, t2, h1⟩ := fz_nowE s1 u1 w1 ef
      refine te_src s2 t2 q1 fun v3 env3 G3 y H3 s3 t3 u3 w3 q3 => ?_
      simp only at q3
      split at q3
      · rename_i b e4 ef2
        split at q3
        · rename_i ds es ea eb
          obtain ⟨G4, g4, s4, t4, h3⟩ := fz_nowE s3 u3 w3 ef2
          obtain ⟨p1, rfl, i1⟩ := src_of (Rp.mono (t3.ex.trans g4) _ _ h1) ea
          obtain ⟨p2, rfl, i2⟩ := src_of h3 eb
          obtain ⟨vs, a1, a2⟩ := id i1
          obtain ⟨ws, b1, b2⟩ := id i2
          exact ⟨p1, p2, vs, ws, rfl, ZSrc.has_ex s4.ex a1, ZSrc.has_ex s4.ex b1, q3 _ G4 H3 s4 t4 (walk_zipM i1 i2)⟩
        · exact q3.elim
      · exact q3.elim
    · exact q1.elim
end G
set_option Elab.async false
set_option linter.all false
set_option maxRecDepth 100000
set_option maxHeartbeats 4000000
namespace G
open PySem PySem.Spec PyProof.Rows L2 SX Evl
noncomputable def alGet {κ : Type} [DecidableEq κ] : List κ → List D → κ → Option D
  | k :: ks, d :: ds, x => if k = x then some d else alGet ks ds x
  | _, _, _ => none
noncomputable def alPutK {κ : Type} [DecidableEq κ] (ks : List κ) (x : κ) : List κ := if x ∈ ks then ks else ks ++ [x]
noncomputable def alPutD {κ : Type} [DecidableEq κ] (ks : List κ) (ds : List D) (x : κ) (v : D) : List D := if x ∈ ks then (ks.zip ds).map fun p => if p.1 = x then v else p.2 else ds ++ [v]
section
variable {κ κ' : Type} [DecidableEq κ] [DecidableEq κ'] {τ : κ → κ'} {g : Gm} {G : Hp}
end
noncomputable def keyD : D → Option DK
  | .int i => some (.inl i)
  | .str x => some (.inr x)
  | _ => none
noncomputable def keysD : List D → Option (List DK)
  | [] => some []
  | d :: ds => (keyD d).bind fun k => (keysD ds).map (k :: ·)
section
variable {g : Gm} {G H : Hp}
noncomputable def lookD : D → D → Option (Option D)
  | .dk ks ds, y => (keyD y).map fun k => alGet ks ds k
  | .dt ks ds, .tup ys => (keysD ys).map fun k => alGet ks ds k
  | _, _ => none
noncomputable def fDGet (d y : D) : Option Val := (lookD d y).bind fun o => o.map .im
noncomputable def kDict : D → Bool
  | .dk _ _ => true
  | .dt _ _ => true
  | _ => false
end
noncomputable def putD (d y v : D) : Option D := match d, y with
  | .dk ks ds, y => (keyD y).bind fun k => if ds.length < LINE then some (.dk (alPutK ks k) (alPutD ks ds k v)) else none
  | .dt ks ds, .tup ys => (keysD ys).bind fun k => if ds.length < LINE then some (.dt (alPutK ks k) (alPutD ks ds k v)) else none
  | _, _ => none
section
variable {X : Cx} {e i : Expr} {de di : Den} {j : Nat} {x : Str} {p1 tpos pos : Pos}
end
end G
namespace G
open PySem L2
theorem u1 {k : Nat} {A : Around} (hr : Room k A) : A.units + 1 < cLine := by have := u65 hr; omega
end G
set_option Elab.async false
set_option linter.all false
set_option maxRecDepth 100000
set_option maxHeartbeats 4000000
namespace G
open PySem PySem.Spec PyProof.Rows L2 SX Evl
variable {g : Gm}
end G
set_option Elab.async false
set_option linter.all false
set_option maxRecDepth 100000
set_option maxHeartbeats 4000000
namespace G
open PySem PySem.Spec PyProof.Rows L2 SX Evl
section
variable {X : Cx}
end
end G
set_option Elab.async false
set_option linter.all false
set_option maxRecDepth 100000
set_option maxHeartbeats 4000000
namespace G
open PySem PySem.Spec PyProof.Rows L2 SX Evl
mutual
noncomputable def pyD : D → PyData
  | .non => .none
  | .bl b => .bool b
  | .int i => .int i
  | .str x => .str (S x)
  | .lst ds => .list (pyDs ds)
  | .tup ds => .tuple (pyDs ds)
  | _ => .none
noncomputable def pyDs : List D → List PyData
  | [] => []
  | d :: ds => pyD d :: pyDs ds
end
mutual
noncomputable def rsz : D → Option Nat
  | .non => some 5
  | .bl _ => some 5
  | .int i => if i.natAbs.log2 < 1920 then some 1921 else none
  | .str x => if x.all (fun c => decide (c < 4294967296)) then some (10 * x.length + 2) else none
  | .lst ds => (rszs ds).map (· + 3)
  | .tup ds => (rszs ds).map (· + 3)
  | _ => none
noncomputable def rszs : List D → Option Nat
  | [] => some 0
  | d :: ds => (rsz d).bind fun n => (rszs ds).map fun m => n + 2 + m
end
section
variable {X : Cx} {pins : List (Addr × Obj)} {σ : L2.St} {H : Hp} {s : Shared}
end
end G
set_option Elab.async false
set_option linter.all false
set_option maxRecDepth 100000
set_option maxHeartbeats 4000000
namespace G
open PySem PySem.Spec PyProof.Rows L2 SX Evl
noncomputable def leafD : D → Bool
  | .non => true
  | .bl _ => true
  | .int _ => true
  | .str _ => true
  | _ => false
noncomputable def pyK : DK → PyData
  | .inl i => .int i
  | .inr x => .str (S x)
noncomputable def pyKv (ks : List DK) (ds : List D) : PyData := .dict ((ks.map pyK).zip (ds.map pyD))
end G
set_option Elab.async false
set_option linter.all false
set_option maxRecDepth 100000
set_option maxHeartbeats 4000000
namespace G
open PySem PySem.Spec PyProof.Rows L2 SX Evl
noncomputable def ExT (cls : Value) (a : Addr) : HO := .ext fun h => ∃ (oe : Obj) (vs : Array Value), h.get? a = some oe ∧ Zc cls none oe ∧ oe.data = .fields vs
section
variable {X : Cx} {pins : List (Addr × Obj)} {σ : L2.St} {H : Hp} {s : Shared} {a : Addr}
end
section
variable {X : Cx} {x n : Str} {c : Value} {i : Nat} {body suite : List Stmt} {b₀ : Stmt} {np pos pos' : Pos} {tb : WX → TS} {ts : TS} {Wout : WX}
end
noncomputable def catches (n m : Nat) : Bool := n == 0 || m == n || (decide (11 ≤ n) && decide (11 ≤ m))
noncomputable def CatchF (K : PySem.W.Frag) (mg : Str → Option Value) (n : Nat) : Prop := ∀ m cls c, mg (excName m) = some cls → mg (excName n) = some c → PySem.W.exmOne K cls c = some (catches n m)
section
variable {g : Gm} {P0 : Nat → Option Addr} {env : Env} {σ : L2.St} {G H : Hp}
theorem Sim.gone {j : Nat} (hs : Sim g P0 env σ G H) : Sim g P0 (wipeE env [j]) (σ.set j none) G H := by
  have hd := hs.drop [j]
  have ne : ∀ (i : Nat) (s : Slot), (wipeE env [j])[i]? = some s → s ≠ .no → j ≠ i := fun i s h hn z => by
    rcases wipeE_own h with q | ⟨q, _⟩
    · exact hn q
    · exact q (by rw [z]; simp)
  refine ⟨hd.ex, by rw [List.length_set]; exact hd.len, fun i d h => ?_, fun i s d h h' => ?_, fun i k s t d e p h1 h2 h3 h4 h5 h6 => ?_, fun i d h => ?_, fun i k s t d e p r a h1 h2 h3 h4 h5 h6 h7 h8 => ?_⟩
  · rw [List.getElem?_set_ne (ne i _ h (fun z => nomatch z))]
    exact hd.im i d h
  · rw [List.getElem?_set_ne (ne i _ h (fun z => by rw [z] at h'; cases h'))]
    exact hd.ow i s d h h'
  · rw [List.getElem?_set_ne (ne i _ h1 (fun z => by rw [z] at h2; cases h2))] at h5
    rw [List.getElem?_set_ne (ne k _ h3 (fun z => by rw [z] at h4; cases h4))] at h6
    exact hd.dis i k s t d e p h1 h2 h3 h4 h5 h6
  · rw [List.getElem?_set_ne (ne i _ h (fun z => nomatch z))]
    exact hd.io i d h
  · rw [List.getElem?_set_ne (ne i _ h1 (fun z => by rw [z] at h2; cases h2))] at h5
    rw [List.getElem?_set_ne (ne k _ h3 (fun z => by rw [z] at h4; cases h4))] at h6
    exact hd.pv i k s t d e p r a h1 h2 h3 h4 h5 h6 h7 h8
end
section
variable {X : Cx} {x nm : Str} {c : Value} {n j : Nat} {body suite : List Stmt} {b₀ : Stmt} {np pos pos' : Pos} {b h : SDen}
end
end G
set_option Elab.async false
set_option linter.all false
set_option maxRecDepth 100000
set_option maxHeartbeats 4000000
namespace G
open PySem PySem.Spec PyProof.Rows L2 SX Evl
noncomputable def excOk (K : PySem.W.Frag) (C : Addr) : Bool := decide (PySem.W.findIn K (.ref C) "__getattribute__" = some (some (.builtin "BaseException.__getattribute__"))) && decide (PySem.W.findIn K (.ref C) "__getattr__" = some none) &&
  decide (PySem.W.subIn K (.ref C) (.type "BaseException") = some true) && PySem.W.hasDictIn K C && decide (PySem.W.findIn K (.ref C) "__class__" = some (some (.builtin "object.__class__"))) &&
  decide (PySem.W.specialIn K (.builtin "object.__class__") "__get__" = some (some (.builtin "getset_descriptor.__get__"))) && decide (PySem.W.takesIn K (.builtin "object.__class__") = some true) && decide (PySem.W.mroIn K C (.type "object") = some true)
theorem excOk_of {K : PySem.W.Frag} {C : Addr} (h : excOk K C = true) : ExcC K C := by
  unfold excOk at h
  simp only [Bool.and_eq_true, decide_eq_true_eq] at h
  obtain ⟨⟨⟨⟨⟨⟨⟨h1, h2⟩, h3⟩, h4⟩, h5⟩, h6⟩, h7⟩, h8⟩ := h
  exact ⟨h1, h2, h3, h4, h5, h6, h7, h8⟩
noncomputable def tabOk (K : PySem.W.Frag) (T : List (Nat × Addr)) : Bool := T.all fun m => excOk K m.2 && decide (PySem.W.kitOne K (.ref m.2) (.type "ValueError") = some true) &&
  T.all fun n => decide (PySem.W.kitOne K (.ref m.2) (.ref n.2) = some (catches n.1 m.1)) && decide (PySem.W.exmOne K (.ref m.2) (.ref n.2) = some (catches n.1 m.1))
structure ExTab (K : PySem.W.Frag) (mg : Str → Option Value) (T : List (Nat × Addr)) : Prop where
  all : ∀ m cls, mg (excName m) = some cls → ∃ C, cls = .ref C ∧ (min m 11, C) ∈ T
  ok : tabOk K T = true
theorem catches_min (n m : Nat) : catches (min n 11) (min m 11) = catches n m := by
  unfold catches
  by_cases h0 : n = 0
  · subst h0; rfl
  · have e0 : (min n 11 == 0) = false := by simp <;> omega
    have e1 : (n == 0) = false := by simp <;> omega
    rw [e0, e1, Bool.false_or, Bool.false_or]
    by_cases h1 : 11 ≤ n
    · by_cases h2 : 11 ≤ m
      · rw [decide_eq_true h1, decide_eq_true h2, decide_eq_true (show 11 ≤ min n 11 by omega), decide_eq_true (show 11 ≤ min m 11 by omega)]; simp
      · have e2 : (min m 11 == min n 11) = false := by simp <;> omega
        have e3 : (m == n) = false := by simp <;> omega
        rw [e2, e3, decide_eq_false h2, decide_eq_false (show ¬ 11 ≤ min m 11 by omega)]; simp
    · rw [decide_eq_false h1, decide_eq_false (show ¬ 11 ≤ min n 11 by omega)]
      by_cases h2 : 11 ≤ m
      · have e2 : (min m 11 == min n 11) = false := by simp <;> omega
        have e3 : (m == n) = false := by simp <;> omega
        rw [e2, e3]; simp
      · rw [show min m 11 = m by omega, show min n 11 = n by omega]
theorem ExTab.pair {K : PySem.W.Frag} {mg : Str → Option Value} {T : List (Nat × Addr)} (h : ExTab K mg T) {n m : Nat} {c cls : Value} (hn : mg (excName n) = some c) (hm : mg (excName m) = some cls) :
    ∃ C D, c = .ref C ∧ cls = .ref D ∧ ExcC K D ∧ PySem.W.kitOne K (.ref D) (.type "ValueError") = some true ∧ PySem.W.kitOne K (.ref D) (.ref C) = some (catches n m) ∧ PySem.W.exmOne K (.ref D) (.ref C) = some (catches n m) := by
  obtain ⟨C, rfl, hC⟩ := h.all n c hn
  obtain ⟨D, rfl, hD⟩ := h.all m cls hm
  have ok := h.ok
  unfold tabOk at ok
  have o1 := List.all_eq_true.mp ok _ hD
  simp only [Bool.and_eq_true, decide_eq_true_eq] at o1
  obtain ⟨⟨o2, o3⟩, o4⟩ := o1
  have o5 := List.all_eq_true.mp o4 _ hC
  simp only [Bool.and_eq_true, decide_eq_true_eq] at o5
  rw [catches_min] at o5
  exact ⟨C, D, rfl, rfl, excOk_of o2, o3, o5.1, o5.2⟩
theorem ExTab.one {K : PySem.W.Frag} {mg : Str → Option Value} {T : List (Nat × Addr)} (h : ExTab K mg T) {m : Nat} {cls : Value} (hm : mg (excName m) = some cls) :
    ∃ D, cls = .ref D ∧ ExcC K D ∧ PySem.W.kitOne K (.ref D) (.type "ValueError") = some true := by
  obtain ⟨_, D, _, e, h1, h2, _⟩ := h.pair hm hm
  exact ⟨D, e, h1, h2⟩
section
variable {X : Cx}
theorem pe_cls {x : Str} {C : Addr} {p : Pos} (hg : Gl X x) (hm : X.mg x = some (.ref C)) (hd : (x == ("__debug__" : Str)) = false := by decide) : PE X (.Name x p) (tC (.ref C)) :=
  ⟨fun _ _ _ H _ I h => ld_glob I hg hm ⟨.ref C, H, I, rfl, h⟩ hd⟩
end
theorem RB.exc {g : Gm} {G H : Hp} (hx : Ex G H) {m : Nat} {v : V} (hm : m < 1000) (h : RB g G H (.exc m) v) : ∃ a cls, v = .ref a ∧ g.mg (excName m) = some cls ∧ H a = some (ExT cls a) := by
  obtain ⟨a, e, ⟨_, cls, h1, h2⟩ | ⟨q, _⟩⟩ := h.rp hx
  · exact ⟨a, cls, e, h1, h2⟩
  · omega
section
variable {X : Cx} {a : Expr} {da : Den} {p p2 pos : Pos} {x : Str} {n : Nat} {T : List (Nat × Addr)}
inductive ClsN (X : Cx) : List Expr → List Nat → List Addr → Prop
  | nil : ClsN X [] [] []
  | cons {x : Str} {n : Nat} {C : Addr} {p : Pos} {es : List Expr} {ns : List Nat} {cs : List Addr} (hg : Gl X x) (hd : (x == ("__debug__" : Str)) = false) (hx : x = excName n) (hm : X.mg (excName n) = some (.ref C)) (h : ClsN X es ns cs) : ClsN X (.Name x p :: es) (n :: ns) (C :: cs)
noncomputable def tCls (cs : List Addr) : TA := fun σ H Q => Q (cs.map V.ref) H
theorem ClsN.pa : ∀ {es : List Expr} {ns : List Nat} {cs : List Addr}, ClsN X es ns cs → PA X es (tCls cs)
  | _, _, _, .nil => pa_imp pa_nil fun σ H Q q => q
  | _, _, _, .cons hg hd hx hm h => pa_imp (pa_cons (pe_cls hg (by rw [hx]; exact hm) hd) h.pa (by rfl)) fun σ H Q q => q
theorem ClsN.any {K : PySem.W.Frag} {mg : Str → Option Value} (hE : ExTab K mg T) {m : Nat} {D : Addr} (hD : mg (excName m) = some (.ref D)) : ∀ {X : Cx} (_ : X.mg = mg) {es : List Expr} {ns : List Nat} {cs : List Addr}, ClsN X es ns cs → PySem.W.kitAny K (.ref D) (cs.map Value.ref) = some (ns.any fun n => catches n m)
  | _, _, _, _, _, .nil => rfl
  | X, hX, _, _, _, .cons (n := n) (C := C) (ns := ns) (cs := cs) hg hd hx hm h => by
    rw [hX] at hm
    obtain ⟨C', D', e1, e2, _, _, h4, _⟩ := hE.pair hm hD
    cases e1; cases e2
    have ih := ClsN.any hE hD hX h
    rw [List.map_cons, List.any_cons]
    show (match PySem.W.kitOne K (.ref D) (.ref C) with | some true => some true | some false => PySem.W.kitAny K (.ref D) (cs.map Value.ref) | none => none) = _
    rw [h4]
    cases catches n m
    · exact ih
    · rfl
theorem ClsN.len : ∀ {es : List Expr} {ns : List Nat} {cs : List Addr}, ClsN X es ns cs → cs.length = es.length
  | _, _, _, .nil => rfl
  | _, _, _, .cons _ _ _ _ h => by rw [List.length_cons, List.length_cons, h.len]
end
end G
set_option Elab.async false
set_option linter.all false
set_option maxRecDepth 100000
set_option maxHeartbeats 4000000
namespace G
open PySem PySem.Spec PyProof.Rows L2 SX Evl
local macro_rules
  | `(tactic| congr) => `(tactic| first | refine post_k ?_ | refine need_k ?_ | refine needI_k ?_ | refine needB_k ?_ | refine wpP_k ?_ | refine wpE_k ?_ | refine wpS_k ?_ | refine wpA_k ?_ | refine wpI_k ?_ | refine wpF_k ?_ | congr 50)
structure RoomN (k : Nat) (A : Around) : Prop where
  dp : A.depth + 3 * k + 5 < recursionLimit
  un : A.units + 16 * k + 200 < cLine
theorem RoomN.mono {j k : Nat} {A : Around} (r : RoomN k A) (h : j ≤ k) : RoomN j A := ⟨by have := r.dp; omega, by have := r.un; omega⟩
theorem RoomN.deeper {k : Nat} {A : Around} (r : RoomN (k + 1) A) (env : PySem.Env) : RoomN k (A.deeper env) :=
  ⟨by have := r.dp; show A.depth + 1 + 3 * k + 5 < _; omega, by have := r.un; show A.units + 3 + 16 * k + 200 < _; omega⟩
theorem RoomN.depth {k : Nat} {A : Around} (r : RoomN k A) : A.depth < recursionLimit := by have := r.dp; omega
theorem RoomN.units {k : Nat} {A : Around} (r : RoomN k A) : A.units + 64 < cLine := by have := r.un; omega
section
variable {P : Program} {w : World} {K : PySem.W.Frag} {mg : Str → Option Value} {base : Heap} {XC : CXT} {k : Nat} {f : Addr} {fd : FuncData} {ps N : List Str} {sp sp' : Sp}
end
section
variable {X : Cx} {XC : CXT} {k : Nat} {f : Addr} {fd : FuncData} {ps : List Str} {sp : Sp} {E : L2.St → XK} {x : Str} {p pos : Pos} {e : Expr} {es : List Expr} {t : TA}
end
section
variable {P : Program} {w : World} {K : PySem.W.Frag} {mg : Str → Option Value} {base : Heap}
end
section
variable {X : Cx} {F : FD} {as : List (Bool × Den)}
end
end G
set_option Elab.async false
set_option linter.all false
set_option maxRecDepth 100000
set_option maxHeartbeats 4000000
namespace G
open PySem PySem.Spec PyProof.Rows L2 SX Evl
section
variable {X : Cx}
end
end G
set_option Elab.async false
set_option linter.all false
set_option maxRecDepth 100000
set_option maxHeartbeats 4000000
namespace G
open PySem PySem.Spec PyProof.Rows L2 SX Evl
section
variable {X : Cx} {pins : List (Addr × Obj)} {σ : L2.St} {H : Hp} {s : Shared} {a : Addr}
end
section
variable {X : Cx}
end
end G
set_option Elab.async false
set_option linter.all false
set_option maxRecDepth 100000
set_option maxHeartbeats 4000000
namespace G
open PySem PySem.Spec PyProof.Rows L2 SX Evl
section
variable {X : Cx} {XC : CXT} {k : Nat} {f : Addr} {fd : FuncData} {ps : List Str} {sp : Sp} {E : L2.St → XK} {x : Str} {p pos : Pos}
end
section
variable {X : Cx} {F : FD}
end
end G
set_option Elab.async false
set_option linter.all false
set_option maxRecDepth 100000
set_option maxHeartbeats 4000000
namespace G
open PySem PySem.Spec PyProof.Rows L2 SX Evl
mutual
noncomputable def pyN : D → PyData
  | .dk ks ds => pyKv ks ds
  | .lst ds => .list (pyNs ds)
  | .tup ds => .tuple (pyNs ds)
  | d => pyD d
noncomputable def pyNs : List D → List PyData
  | [] => []
  | d :: ds => pyN d :: pyNs ds
end
mutual
noncomputable def itOk : D → Bool
  | .dk ks ds => ds.all leafD && decide (ks.length = ds.length) && (pyKv ks ds).showable
  | .lst ds => itOks ds
  | .tup ds => itOks ds
  | d => (rsz d).isSome
noncomputable def itOks : List D → Bool
  | [] => true
  | d :: ds => itOk d && itOks ds
end
section
variable {X : Cx} {pins : List (Addr × Obj)} {σ : L2.St} {H : Hp} {s : Shared}
end
end G
set_option Elab.async false
set_option linter.all false
set_option maxRecDepth 100000
set_option maxHeartbeats 4000000
namespace G
open PySem PySem.Spec PyProof.Rows L2 SX Evl
section
variable {prog : Program} {w : World} {A : Around} {E : Value → Shared → Prop} {s : Shared}
end
section
variable {X : Cx}
end
end G
set_option Elab.async false
set_option linter.all false
set_option maxRecDepth 100000
set_option maxHeartbeats 4000000
namespace G
open PySem PySem.Spec PyProof.Rows L2 SX Evl
section
variable {X : Cx}
end
end G
set_option Elab.async false
set_option linter.all false
set_option maxRecDepth 100000
set_option maxHeartbeats 4000000
namespace G
open PySem PySem.Spec PyProof.Rows L2 SX Evl
local macro_rules
  | `(tactic| congr) => `(tactic| first | refine post_k ?_ | refine need_k ?_ | refine needI_k ?_ | refine needB_k ?_ | refine wpP_k ?_ | refine wpE_k ?_ | refine wpS_k ?_ | refine wpA_k ?_ | refine wpI_k ?_ | refine wpF_k ?_ | congr 50)
noncomputable def Ge (G G' : Hp) : Prop := ∀ a, G' a = G a ∨ (∃ ob kvs, G a = some (.frz ob (.dK kvs)) ∧ G' a = some (.dK kvs)) ∨ (∃ ob kvs, G a = some (.dK kvs) ∧ G' a = some (.frz ob (.dK kvs)))
section
variable {g : Gm} {G G' : Hp}
theorem Ge.lst (e : Ge G G') {a : Addr} {vs : List V} (h : SqL g.K G a vs) : SqL g.K G' a vs := by
  rcases h with (h | ⟨o, h⟩) | h
  · rcases e a with q | ⟨ob, kvs, q, _⟩ | ⟨ob, kvs, q, _⟩
    · exact .inl (.inl (q.trans h))
    · rw [h] at q; cases q
    · rw [h] at q; cases q
  · rcases e a with q | ⟨ob, kvs, q, _⟩ | ⟨ob, kvs, q, _⟩
    · exact .inl (.inr ⟨o, q.trans h⟩)
    · rw [h] at q; cases q
    · rw [h] at q; cases q
  · exact .inr h
theorem Ge.one (e : Ge G G') {a : Addr} {o : HO} (h : G a = some o) (h1 : ∀ ob kvs, o ≠ .frz ob (.dK kvs)) (h2 : ∀ kvs, o ≠ .dK kvs) : G' a = some o := by
  rcases e a with q | ⟨ob, kvs, q, _⟩ | ⟨ob, kvs, q, _⟩
  · exact q.trans h
  · rw [h] at q; cases q; exact absurd rfl (h1 _ _)
  · rw [h] at q; cases q; exact absurd rfl (h2 _)
theorem Ge.dK (e : Ge G G') {a : Addr} {kvs : List (Key × V)} (h : Rd G a (.dK kvs)) : Rd G' a (.dK kvs) := by
  rcases h with h | ⟨o, h⟩
  · rcases e a with q | ⟨ob, kv, q, _⟩ | ⟨ob, kv, q, q2⟩
    · exact .inl (q.trans h)
    · rw [h] at q; cases q
    · rw [h] at q; cases q; exact .inr ⟨ob, q2⟩
  · rcases e a with q | ⟨ob, kv, q, q2⟩ | ⟨ob, kv, q, _⟩
    · exact .inr ⟨o, q.trans h⟩
    · rw [h] at q; cases q; exact .inl q2
    · rw [h] at q; cases q
theorem Ge.dT (e : Ge G G') {a : Addr} {kvs : List (List Key × V)} (h : Rd G a (.dT kvs)) : Rd G' a (.dT kvs) := by
  rcases h with h | ⟨o, h⟩
  · exact .inl (e.one h (fun _ _ z => nomatch z) (fun _ z => nomatch z))
  · exact .inr ⟨o, e.one h (fun _ _ z => by cases z) (fun _ z => nomatch z)⟩
mutual
theorem Rp.ge (e : Ge G G') : ∀ (d : D) (v : V), Rp g G d v → Rp g G' d v
  | .non, _, h => by simpa [Rp] using h
  | .bl b, _, h => by simpa [Rp] using h
  | .int i, _, h => by simpa [Rp] using h
  | .str x, _, h => by simpa [Rp] using h
  | .lst ds, _, h => by
    obtain ⟨a, vs, e1, h1, h2⟩ := h
    exact ⟨a, vs, e1, e.lst h1, Rps.ge e ds vs h2⟩
  | .tup ds, _, h => by
    obtain ⟨a, vs, e1, h1, h2⟩ := h
    exact ⟨a, vs, e1, e.one h1 (fun _ _ z => nomatch z) (fun _ z => nomatch z), Rps.ge e ds vs h2⟩
  | .dk ks ds, _, h => by
    obtain ⟨a, kvs, e1, h1, h2, h3⟩ := h
    exact ⟨a, kvs, e1, e.dK h1, h2, Rps.ge e ds _ h3⟩
  | .dt ks ds, _, h => by
    obtain ⟨a, kvs, e1, h1, h2, h3⟩ := h
    exact ⟨a, kvs, e1, e.dT h1, h2, Rps.ge e ds _ h3⟩
  | .exc n, _, h => by
    obtain ⟨a, e1, ⟨q, cls, h1, h2⟩ | ⟨q, C, t, h1, h2, h3⟩⟩ := h
    · exact ⟨a, e1, .inl ⟨q, cls, h1, e.one h2 (fun _ _ z => nomatch z) (fun _ z => nomatch z)⟩⟩
    · exact ⟨a, e1, .inr ⟨q, C, t, h1, e.one h2 (fun _ _ z => nomatch z) (fun _ z => nomatch z), e.one h3 (fun _ _ z => nomatch z) (fun _ z => nomatch z)⟩⟩
  | .ob c ds, _, h => by
    obtain ⟨a, C, dx, fs, e1, h1, h2, h3, h4⟩ := h
    exact ⟨a, C, dx, fs, e1, e.one h1 (fun _ _ z => nomatch z) (fun _ z => nomatch z), h2, h3, Rps.ge e ds _ h4⟩
theorem Rps.ge (e : Ge G G') : ∀ (ds : List D) (vs : List V), Rps g G ds vs → Rps g G' ds vs
  | [], _, h => h
  | d :: ds, _, h => by
    obtain ⟨v, r, e1, h1, h2⟩ := h
    exact ⟨v, r, e1, Rp.ge e d v h1, Rps.ge e ds r h2⟩
end
theorem Co.ge (e : Ge G G') {d : D} {o : HO} (h : Co g G d o) : Co g G' d o := by
  cases d with
  | lst ds => obtain ⟨vs, e1, h1⟩ := h; exact ⟨vs, e1, Rps.ge e _ _ h1⟩
  | dk ks ds => obtain ⟨kvs, e1, h1, h2⟩ := h; exact ⟨kvs, e1, h1, Rps.ge e _ _ h2⟩
  | dt ks ds => obtain ⟨kvs, e1, h1, h2⟩ := h; exact ⟨kvs, e1, h1, Rps.ge e _ _ h2⟩
  | non => exact h.elim
  | bl _ => exact h.elim
  | int _ => exact h.elim
  | str _ => exact h.elim
  | tup _ => exact h.elim
  | exc _ => exact h.elim
  | ob _ _ => exact h.elim
theorem Flds.ge {H H' : Hp} (e : Ge G G') : ∀ {ds : List D} {fs : List (Str × V)}, (∀ n q oq, (n, V.ref q) ∈ fs → n ∈ muts → G q = none → H q = some oq → G' q = none ∧ H' q = some oq) → Flds g G H ds fs → Flds g G' H' ds fs
  | [], _, _, h => h
  | d :: ds, _, hk, h => by
    obtain ⟨f, r, e1, h1, h2⟩ := h
    refine ⟨f, r, e1, ?_, Flds.ge e (fun n q oq a => hk n q oq (by rw [e1]; exact .tail _ a)) h2⟩
    rcases h1 with ⟨h1, h2⟩ | ⟨h1, q, oq, e2, h2, h3, h4⟩
    · exact .inl ⟨h1, Rp.ge e _ _ h2⟩
    · obtain ⟨a, b⟩ := hk f.1 q oq (by rw [e1, ← e2]; exact .head _) h1 h2 h3
      exact .inr ⟨h1, q, oq, e2, a, b, h4.ge e⟩
theorem Own.ge {H H' : Hp} {d : D} {p : Addr} (e : Ge G G') (hk : ∀ a, Cel H p a → G a = none → (∃ o, H a = some o) → G' a = none ∧ H' a = H a) (h : Own g G H d p) : Own g G' H' d p := by
  obtain ⟨h1, o, h2, h3⟩ := h
  obtain ⟨z1, z2⟩ := hk p (.inl rfl) h1 ⟨o, h2⟩
  refine ⟨z1, o, z2.trans h2, ?_⟩
  rcases h3 with h3 | ⟨c, ds, e0, C, dx, fs, eo, a1, a2, a3, a4⟩
  · exact .inl (h3.ge e)
  · subst eo
    refine .inr ⟨c, ds, e0, C, dx, fs, rfl, a1, a2, a3.ge e fun n q oq b1 b2 b3 b4 => ?_, a4⟩
    obtain ⟨y1, y2⟩ := hk q (.inr ⟨C, dx, fs, n, h2, b1, b2⟩) b3 ⟨oq, b4⟩
    exact ⟨y1, y2.trans b4⟩
end
section
variable {g : Gm} {P0 : Nat → Option Addr} {env : Env} {σ : L2.St} {G H : Hp} {d : Addr} {o o' : HO}
end
section
variable {X : Cx} {pins : List (Addr × Obj)} {σ : L2.St} {H : Hp} {s : Shared} {d : Addr} {kvs : List (Key × V)}
end
noncomputable def Un1 (X : Cx) (Q : Hp → Prop) (H : Hp) : Prop := Q H ∨ ∃ (d : Addr) (ob : Obj) (kvs : List (Key × V)), H d = some (.frz ob (.dK kvs)) ∧ (∀ o u, X.H_0 d ≠ some (.frz o u)) ∧ Q (upd H d (.dK kvs))
section
variable {X : Cx} {pins : List (Addr × Obj)} {σ : L2.St} {H : Hp} {s : Shared}
end
structure Vw (X : Cx) (g : Gm) (a : Addr) (F : HO) (Vu : Hp → Hp) : Prop where
  ne : ∀ (G : Hp) b, b ≠ a → Vu G b = G b
  eq : ∀ G G' : Hp, G a = some F → G' a = some F → Vu G a = Vu G' a ∧ Vu G a ≠ none
  sim : ∀ (P0 : Nat → Option Addr) (env : Env) (σ : L2.St) (G H : Hp), Sim g P0 env σ G H → G a = some F → Sim g P0 env σ (Vu G) (Vu H)
  ge : ∀ G : Hp, G a = some F → Ge G (Vu G)
  un : ∀ (Q : Hp → Prop) (H : Hp), H a = some F → Q (Vu H) → Un1 X Q H
  ni : ∀ (G : Hp) C dx fs, G a = some F → F ≠ .ins C dx fs ∧ Vu G a ≠ some (.ins C dx fs)
theorem Vw.cel {X : Cx} {g : Gm} {a : Addr} {F : HO} {Vu : Hp → Hp} (vw : Vw X g a F Vu) {H : Hp} (h : H a = some F) {p b : Addr} : Cel (Vu H) p b ↔ Cel H p b := by
  by_cases e : p = a
  · subst e
    constructor
    · rintro (q | ⟨C, dx, fs, n, q, _⟩)
      · exact .inl q
      · exact absurd q (vw.ni H C dx fs h).2
    · rintro (q | ⟨C, dx, fs, n, q, _⟩)
      · exact .inl q
      · rw [h] at q; exact absurd (Option.some.inj q) (vw.ni H C dx fs h).1
  · exact ⟨fun q => q.eq (vw.ne H p e).symm.symm, fun q => q.eq (vw.ne H p e).symm⟩
theorem Vw.cl {X : Cx} {g : Gm} {a : Addr} {F : HO} {Vu : Hp → Hp} (vw : Vw X g a F Vu) {H : Hp} (h : H a = some F) {M : Addr → Prop} {b : Addr} : OCl M (Vu H) b ↔ OCl M H b :=
  ⟨fun ⟨p, q1, q2⟩ => ⟨p, q1, (vw.cel h).mp q2⟩, fun ⟨p, q1, q2⟩ => ⟨p, q1, (vw.cel h).mpr q2⟩⟩
section
variable {X : Cx} {g : Gm} {a : Addr} {F : HO} {Vu : Hp → Hp} {M M' : Addr → Prop} {G H G' H' : Hp}
theorem Vw.tr (vw : Vw X g a F Vu) (t : Tr M G H M' G' H') (h1 : G a = some F) (h2 : H a = some F) (h3 : G' a = some F) (h4 : H' a = some F) : Tr M (Vu G) (Vu H) M' (Vu G') (Vu H') where
  ex := fun b o q => by
    by_cases e : b = a
    · subst e; rw [← (vw.eq G G' h1 h3).1]; exact q
    · rw [vw.ne _ _ e] at q ⊢; exact t.ex b o q
  keep := fun b o hm q => by
    by_cases e : b = a
    · subst e; rw [← (vw.eq H H' h2 h4).1]; exact q
    · rw [vw.ne _ _ e] at q ⊢; exact t.keep b o (fun z => hm ((vw.cl h2).mpr z)) q
  gnew := fun b q => by
    by_cases e : b = a
    · subst e; exact .inl (vw.eq G G h1 h1).2
    · rw [vw.ne _ _ e] at q ⊢
      rw [vw.ne _ _ e]; exact (t.gnew b q).imp id fun z => z.imp id fun y => y.imp (fun w => (vw.cl h2).mpr w) id
  own := fun r b q q' => by
    rcases t.own r b q ((vw.cel h4).mp q') with ⟨z, z'⟩ | z
    · exact .inl ⟨z, (vw.cel h2).mpr z'⟩
    · have e : b ≠ a := fun e => by rw [e, h2] at z; cases z
      exact .inr (by rw [vw.ne _ _ e]; exact z)
  dom := fun b q => by
    have e : b ≠ a := fun e => by rw [e] at q; exact absurd q (vw.eq H' H' h4 h4).2
    rw [vw.ne _ _ e] at q ⊢
    exact t.dom b q
theorem Vw.vr (vw : Vw X g a F Vu) {env : Env} {σ : L2.St} {H0 : Hp} {v : Val} {x : L2.V} (hG : G a = some F) (hx : Ex G H) (h : VR g env σ H0 G H v x) : VR g env σ H0 (Vu G) (Vu H) v x := by
  cases v with
  | im d => exact Rp.ge (vw.ge G hG) _ _ h
  | loc i => exact h
  | ow d =>
    obtain ⟨p, e1, q, h2, h3⟩ := h
    have hH := hx _ _ hG
    refine ⟨p, e1, q.ge (vw.ge G hG) fun b z1 z2 z3 => ?_, fun b z1 z2 => h2 b ((vw.cel hH).mp z1) ((vw.cl hH).mp z2), fun b z1 => h3 b ((vw.cel hH).mp z1)⟩
    have e : b ≠ a := fun e => by rw [e, hG] at z2; cases z2
    exact ⟨by rw [vw.ne _ _ e]; exact z2, vw.ne _ _ e⟩
end
section
variable {X : Cx} {tg iter : Expr} {body : List Stmt} {de : Den} {td : TDen} {b : SDen} {pos : Pos} {gt : TG} {ix : List Nat}
end
theorem Vw.side {X : Cx} {g : Gm} {a : Addr} {F : HO} {Vu : Hp → Hp} (vw : Vw X g a F Vu) {H : Hp} {p : Addr} {o : HO} (h : H a = some F) (hp : p ≠ a) : Vu (upd H p o) = upd (Vu H) p o := by
  funext b
  by_cases e : b = a
  · subst e
    rw [upd_ne (fun z => hp z.symm)]
    exact (vw.eq (upd H p o) H (by rw [upd_ne (fun z => hp z.symm)]; exact h) h).1
  · rw [vw.ne _ _ e]
    by_cases e2 : b = p
    · subst e2; rw [upd_same, upd_same]
    · rw [upd_ne e2, upd_ne e2, vw.ne _ _ e]
section
variable {X : Cx} {td : TDen} {gt : TG} {ix : List Nat} {c e : Den}
end
section
variable {X : Cx} {elt tg iter : Expr} {ifs : List Expr} {scope : Scope} {own : List (Str × Nat)} {pos : Pos} {gt : TG} {td : TDen} {e de : Den} {ix : List Nat}
end
end G
set_option Elab.async false
set_option linter.all false
set_option maxRecDepth 100000
set_option maxHeartbeats 4000000
namespace G
open PySem PySem.Spec PyProof.Rows L2 SX Evl
end G
set_option Elab.async false
set_option linter.all false
set_option maxRecDepth 100000
set_option maxHeartbeats 4000000
namespace G
open PySem PySem.Spec PyProof.Rows L2 SX Evl
section
variable {g : Gm}
end
end G
set_option Elab.async false
set_option linter.all false
set_option maxRecDepth 100000
set_option maxHeartbeats 4000000
namespace G
open PySem PySem.Spec PyProof.Rows L2 SX Evl
section
variable {P : Program} {w : World} {A : Around} {E : Value → Shared → Prop} {s : Shared}
end
noncomputable def dd : List Int → List Int
  | [] => []
  | x :: r => if x ∈ r then dd r else x :: dd r
section
variable {X : Cx} {a : Expr} {da : Den} {p p2 pos pos2 : Pos} {x x2 : Str}
end
end G
set_option Elab.async false
set_option linter.all false
set_option maxRecDepth 100000
set_option maxHeartbeats 4000000
namespace G
open PySem PySem.Spec PyProof.Rows L2 SX Evl
local macro_rules
  | `(tactic| congr) => `(tactic| first | refine post_k ?_ | refine need_k ?_ | refine needI_k ?_ | refine needB_k ?_ | refine wpP_k ?_ | refine wpE_k ?_ | refine wpS_k ?_ | refine wpA_k ?_ | refine wpI_k ?_ | refine wpF_k ?_ | congr 50)
noncomputable def GeT (G G' : Hp) : Prop := ∀ a, G' a = G a ∨ (∃ ob kvs, G a = some (.frz ob (.dT kvs)) ∧ G' a = some (.dT kvs)) ∨ (∃ ob kvs, G a = some (.dT kvs) ∧ G' a = some (.frz ob (.dT kvs)))
section
variable {g : Gm} {G G' : Hp}
theorem GeT.lst (e : GeT G G') {a : Addr} {vs : List V} (h : SqL g.K G a vs) : SqL g.K G' a vs := by
  rcases h with (h | ⟨o, h⟩) | h
  · rcases e a with q | ⟨ob, kvs, q, _⟩ | ⟨ob, kvs, q, _⟩
    · exact .inl (.inl (q.trans h))
    · rw [h] at q; cases q
    · rw [h] at q; cases q
  · rcases e a with q | ⟨ob, kvs, q, _⟩ | ⟨ob, kvs, q, _⟩
    · exact .inl (.inr ⟨o, q.trans h⟩)
    · rw [h] at q; cases q
    · rw [h] at q; cases q
  · exact .inr h
theorem GeT.one (e : GeT G G') {a : Addr} {o : HO} (h : G a = some o) (h1 : ∀ ob kvs, o ≠ .frz ob (.dT kvs)) (h2 : ∀ kvs, o ≠ .dT kvs) : G' a = some o := by
  rcases e a with q | ⟨ob, kvs, q, _⟩ | ⟨ob, kvs, q, _⟩
  · exact q.trans h
  · rw [h] at q; cases q; exact absurd rfl (h1 _ _)
  · rw [h] at q; cases q; exact absurd rfl (h2 _)
theorem GeT.dT (e : GeT G G') {a : Addr} {kvs : List (List Key × V)} (h : Rd G a (.dT kvs)) : Rd G' a (.dT kvs) := by
  rcases h with h | ⟨o, h⟩
  · rcases e a with q | ⟨ob, kv, q, _⟩ | ⟨ob, kv, q, q2⟩
    · exact .inl (q.trans h)
    · rw [h] at q; cases q
    · rw [h] at q; cases q; exact .inr ⟨ob, q2⟩
  · rcases e a with q | ⟨ob, kv, q, q2⟩ | ⟨ob, kv, q, _⟩
    · exact .inr ⟨o, q.trans h⟩
    · rw [h] at q; cases q; exact .inl q2
    · rw [h] at q; cases q
theorem GeT.dK (e : GeT G G') {a : Addr} {kvs : List (Key × V)} (h : Rd G a (.dK kvs)) : Rd G' a (.dK kvs) := by
  rcases h with h | ⟨o, h⟩
  · exact .inl (e.one h (fun _ _ z => nomatch z) (fun _ z => nomatch z))
  · exact .inr ⟨o, e.one h (fun _ _ z => by cases z) (fun _ z => nomatch z)⟩
mutual
theorem Rp.geT (e : GeT G G') : ∀ (d : D) (v : V), Rp g G d v → Rp g G' d v
  | .non, _, h => by simpa [Rp] using h
  | .bl b, _, h => by simpa [Rp] using h
  | .int i, _, h => by simpa [Rp] using h
  | .str x, _, h => by simpa [Rp] using h
  | .lst ds, _, h => by
    obtain ⟨a, vs, e1, h1, h2⟩ := h
    exact ⟨a, vs, e1, e.lst h1, Rps.geT e ds vs h2⟩
  | .tup ds, _, h => by
    obtain ⟨a, vs, e1, h1, h2⟩ := h
    exact ⟨a, vs, e1, e.one h1 (fun _ _ z => nomatch z) (fun _ z => nomatch z), Rps.geT e ds vs h2⟩
  | .dt ks ds, _, h => by
    obtain ⟨a, kvs, e1, h1, h2, h3⟩ := h
    exact ⟨a, kvs, e1, e.dT h1, h2, Rps.geT e ds _ h3⟩
  | .dk ks ds, _, h => by
    obtain ⟨a, kvs, e1, h1, h2, h3⟩ := h
    exact ⟨a, kvs, e1, e.dK h1, h2, Rps.geT e ds _ h3⟩
  | .exc n, _, h => by
    obtain ⟨a, e1, ⟨q, cls, h1, h2⟩ | ⟨q, C, t, h1, h2, h3⟩⟩ := h
    · exact ⟨a, e1, .inl ⟨q, cls, h1, e.one h2 (fun _ _ z => nomatch z) (fun _ z => nomatch z)⟩⟩
    · exact ⟨a, e1, .inr ⟨q, C, t, h1, e.one h2 (fun _ _ z => nomatch z) (fun _ z => nomatch z), e.one h3 (fun _ _ z => nomatch z) (fun _ z => nomatch z)⟩⟩
  | .ob c ds, _, h => by
    obtain ⟨a, C, dx, fs, e1, h1, h2, h3, h4⟩ := h
    exact ⟨a, C, dx, fs, e1, e.one h1 (fun _ _ z => nomatch z) (fun _ z => nomatch z), h2, h3, Rps.geT e ds _ h4⟩
theorem Rps.geT (e : GeT G G') : ∀ (ds : List D) (vs : List V), Rps g G ds vs → Rps g G' ds vs
  | [], _, h => h
  | d :: ds, _, h => by
    obtain ⟨v, r, e1, h1, h2⟩ := h
    exact ⟨v, r, e1, Rp.geT e d v h1, Rps.geT e ds r h2⟩
end
theorem Co.geT (e : GeT G G') {d : D} {o : HO} (h : Co g G d o) : Co g G' d o := by
  cases d with
  | lst ds => obtain ⟨vs, e1, h1⟩ := h; exact ⟨vs, e1, Rps.geT e _ _ h1⟩
  | dk ks ds => obtain ⟨kvs, e1, h1, h2⟩ := h; exact ⟨kvs, e1, h1, Rps.geT e _ _ h2⟩
  | dt ks ds => obtain ⟨kvs, e1, h1, h2⟩ := h; exact ⟨kvs, e1, h1, Rps.geT e _ _ h2⟩
  | non => exact h.elim
  | bl _ => exact h.elim
  | int _ => exact h.elim
  | str _ => exact h.elim
  | tup _ => exact h.elim
  | exc _ => exact h.elim
  | ob _ _ => exact h.elim
theorem Flds.geT {H H' : Hp} (e : GeT G G') : ∀ {ds : List D} {fs : List (Str × V)}, (∀ n q oq, (n, V.ref q) ∈ fs → n ∈ muts → G q = none → H q = some oq → G' q = none ∧ H' q = some oq) → Flds g G H ds fs → Flds g G' H' ds fs
  | [], _, _, h => h
  | d :: ds, _, hk, h => by
    obtain ⟨f, r, e1, h1, h2⟩ := h
    refine ⟨f, r, e1, ?_, Flds.geT e (fun n q oq a => hk n q oq (by rw [e1]; exact .tail _ a)) h2⟩
    rcases h1 with ⟨h1, h2⟩ | ⟨h1, q, oq, e2, h2, h3, h4⟩
    · exact .inl ⟨h1, Rp.geT e _ _ h2⟩
    · obtain ⟨a, b⟩ := hk f.1 q oq (by rw [e1, ← e2]; exact .head _) h1 h2 h3
      exact .inr ⟨h1, q, oq, e2, a, b, h4.geT e⟩
theorem Own.geT {H H' : Hp} {d : D} {p : Addr} (e : GeT G G') (hk : ∀ a, Cel H p a → G a = none → (∃ o, H a = some o) → G' a = none ∧ H' a = H a) (h : Own g G H d p) : Own g G' H' d p := by
  obtain ⟨h1, o, h2, h3⟩ := h
  obtain ⟨z1, z2⟩ := hk p (.inl rfl) h1 ⟨o, h2⟩
  refine ⟨z1, o, z2.trans h2, ?_⟩
  rcases h3 with h3 | ⟨c, ds, e0, C, dx, fs, eo, a1, a2, a3, a4⟩
  · exact .inl (h3.geT e)
  · subst eo
    refine .inr ⟨c, ds, e0, C, dx, fs, rfl, a1, a2, a3.geT e fun n q oq b1 b2 b3 b4 => ?_, a4⟩
    obtain ⟨y1, y2⟩ := hk q (.inr ⟨C, dx, fs, n, h2, b1, b2⟩) b3 ⟨oq, b4⟩
    exact ⟨y1, y2.trans b4⟩
end
section
variable {g : Gm} {P0 : Nat → Option Addr} {env : Env} {σ : L2.St} {G H : Hp} {d : Addr} {o o' : HO}
end
section
variable {X : Cx} {pins : List (Addr × Obj)} {σ : L2.St} {H : Hp} {s : Shared} {d : Addr} {kvs : List (List Key × V)}
end
noncomputable def Un1T (X : Cx) (Q : Hp → Prop) (H : Hp) : Prop := Q H ∨ ∃ (d : Addr) (ob : Obj) (kvs : List (List Key × V)), H d = some (.frz ob (.dT kvs)) ∧ (∀ o u, X.H_0 d ≠ some (.frz o u)) ∧ Q (upd H d (.dT kvs))
section
variable {X : Cx} {pins : List (Addr × Obj)} {σ : L2.St} {H : Hp} {s : Shared}
end
structure VwT (X : Cx) (g : Gm) (a : Addr) (F : HO) (Vu : Hp → Hp) : Prop where
  ne : ∀ (G : Hp) b, b ≠ a → Vu G b = G b
  eq : ∀ G G' : Hp, G a = some F → G' a = some F → Vu G a = Vu G' a ∧ Vu G a ≠ none
  sim : ∀ (P0 : Nat → Option Addr) (env : Env) (σ : L2.St) (G H : Hp), Sim g P0 env σ G H → G a = some F → Sim g P0 env σ (Vu G) (Vu H)
  geT : ∀ G : Hp, G a = some F → GeT G (Vu G)
  un : ∀ (Q : Hp → Prop) (H : Hp), H a = some F → Q (Vu H) → Un1T X Q H
  ni : ∀ (G : Hp) C dx fs, G a = some F → F ≠ .ins C dx fs ∧ Vu G a ≠ some (.ins C dx fs)
theorem VwT.cel {X : Cx} {g : Gm} {a : Addr} {F : HO} {Vu : Hp → Hp} (vw : VwT X g a F Vu) {H : Hp} (h : H a = some F) {p b : Addr} : Cel (Vu H) p b ↔ Cel H p b := by
  by_cases e : p = a
  · subst e
    constructor
    · rintro (q | ⟨C, dx, fs, n, q, _⟩)
      · exact .inl q
      · exact absurd q (vw.ni H C dx fs h).2
    · rintro (q | ⟨C, dx, fs, n, q, _⟩)
      · exact .inl q
      · rw [h] at q; exact absurd (Option.some.inj q) (vw.ni H C dx fs h).1
  · exact ⟨fun q => q.eq (vw.ne H p e).symm.symm, fun q => q.eq (vw.ne H p e).symm⟩
theorem VwT.cl {X : Cx} {g : Gm} {a : Addr} {F : HO} {Vu : Hp → Hp} (vw : VwT X g a F Vu) {H : Hp} (h : H a = some F) {M : Addr → Prop} {b : Addr} : OCl M (Vu H) b ↔ OCl M H b :=
  ⟨fun ⟨p, q1, q2⟩ => ⟨p, q1, (vw.cel h).mp q2⟩, fun ⟨p, q1, q2⟩ => ⟨p, q1, (vw.cel h).mpr q2⟩⟩
section
variable {X : Cx} {g : Gm} {a : Addr} {F : HO} {Vu : Hp → Hp} {M M' : Addr → Prop} {G H G' H' : Hp}
theorem VwT.tr (vw : VwT X g a F Vu) (t : Tr M G H M' G' H') (h1 : G a = some F) (h2 : H a = some F) (h3 : G' a = some F) (h4 : H' a = some F) : Tr M (Vu G) (Vu H) M' (Vu G') (Vu H') where
  ex := fun b o q => by
    by_cases e : b = a
    · subst e; rw [← (vw.eq G G' h1 h3).1]; exact q
    · rw [vw.ne _ _ e] at q ⊢; exact t.ex b o q
  keep := fun b o hm q => by
    by_cases e : b = a
    · subst e; rw [← (vw.eq H H' h2 h4).1]; exact q
    · rw [vw.ne _ _ e] at q ⊢; exact t.keep b o (fun z => hm ((vw.cl h2).mpr z)) q
  gnew := fun b q => by
    by_cases e : b = a
    · subst e; exact .inl (vw.eq G G h1 h1).2
    · rw [vw.ne _ _ e] at q ⊢
      rw [vw.ne _ _ e]; exact (t.gnew b q).imp id fun z => z.imp id fun y => y.imp (fun w => (vw.cl h2).mpr w) id
  own := fun r b q q' => by
    rcases t.own r b q ((vw.cel h4).mp q') with ⟨z, z'⟩ | z
    · exact .inl ⟨z, (vw.cel h2).mpr z'⟩
    · have e : b ≠ a := fun e => by rw [e, h2] at z; cases z
      exact .inr (by rw [vw.ne _ _ e]; exact z)
  dom := fun b q => by
    have e : b ≠ a := fun e => by rw [e] at q; exact absurd q (vw.eq H' H' h4 h4).2
    rw [vw.ne _ _ e] at q ⊢
    exact t.dom b q
theorem VwT.vr (vw : VwT X g a F Vu) {env : Env} {σ : L2.St} {H0 : Hp} {v : Val} {x : L2.V} (hG : G a = some F) (hx : Ex G H) (h : VR g env σ H0 G H v x) : VR g env σ H0 (Vu G) (Vu H) v x := by
  cases v with
  | im d => exact Rp.geT (vw.geT G hG) _ _ h
  | loc i => exact h
  | ow d =>
    obtain ⟨p, e1, q, h2, h3⟩ := h
    have hH := hx _ _ hG
    refine ⟨p, e1, q.geT (vw.geT G hG) fun b z1 z2 z3 => ?_, fun b z1 z2 => h2 b ((vw.cel hH).mp z1) ((vw.cl hH).mp z2), fun b z1 => h3 b ((vw.cel hH).mp z1)⟩
    have e : b ≠ a := fun e => by rw [e, hG] at z2; cases z2
    exact ⟨by rw [vw.ne _ _ e]; exact z2, vw.ne _ _ e⟩
end
section
variable {X : Cx} {tg iter : Expr} {body : List Stmt} {de : Den} {td : TDen} {b : SDen} {pos : Pos} {gt : TG} {ix : List Nat}
end
end G
set_option Elab.async false
set_option linter.all false
set_option maxRecDepth 100000
set_option maxHeartbeats 4000000
namespace PySem.W
open PySem PySem.Calls PyProof.Rows PyProof.V PySem.Spec
section
variable {prog : Program} {w : World} {A : Around} {E : Value → Shared → Prop} {s : Shared} {T : String} {r d : Addr} {n : Nat} {P : Nat → Value → Prop} {OK : Heap → Prop} {Q : Value → Shared → Prop}
end
end PySem.W
namespace G
open PySem PySem.Spec PyProof.Rows L2 SX Evl
noncomputable abbrev P2 := Int × Int
section
variable {X : Cx} {pins : List (Addr × Obj)} {σ : L2.St} {H : Hp} {s : Shared}
end
end G
set_option Elab.async false
set_option linter.all false
set_option maxRecDepth 100000
set_option maxHeartbeats 4000000
namespace G
open PySem PySem.Spec PyProof.Rows L2 SX Evl
section
variable {X : Cx}
variable {pins : List (Addr × Obj)} {σ : L2.St} {H : Hp} {s : Shared}
end
end G
set_option Elab.async false
set_option linter.all false
set_option maxRecDepth 100000
set_option maxHeartbeats 4000000
namespace G
open PySem PySem.Spec PyProof.Rows L2 SX Evl
section
variable {X : Cx} {pins : List (Addr × Obj)} {σ : L2.St} {H : Hp} {s : Shared}
open PySem.W
end
end G
set_option Elab.async false
set_option linter.all false
set_option maxRecDepth 100000
set_option maxHeartbeats 4000000
namespace G
open PySem PySem.Spec PyProof.Rows L2 SX Evl
theorem rps_pt {g : Gm} {G : Hp} : ∀ (ds : List D) (vs : List V), vs.length = ds.length → (∀ (i : Nat) d v, ds[i]? = some d → vs[i]? = some v → Rp g G d v) → Rps g G ds vs
  | [], vs, hl, _ => by
    cases vs with
    | nil => exact Rps.nil
    | cons _ _ => cases hl
  | d :: ds, vs, hl, h => by
    cases vs with
    | nil => cases hl
    | cons v vs => exact Rps.cons (h 0 d v rfl rfl) (rps_pt ds vs (by simpa using hl) fun i d v h1 h2 => h (i + 1) d v h1 h2)
noncomputable def dpS : Slot → Option (Option Nat × List D)
  | .im (.lst ds) => some (none, ds)
  | .im (.tup [.int n, .lst ds]) => some (some n.toNat, ds)
  | _ => none
noncomputable def Kids (g : Gm) (G H : Hp) (lo : HO) (lk : Option Nat) (ds : List D) (cs : List Addr) : Prop := cs.length = ds.length ∧ ∀ (i : Nat) d c, ds[i]? = some d → cs[i]? = some c → ∃ kvs, Co g G d (.dK kvs) ∧ (lk ≠ some i → H c = some (.dK kvs)) ∧ (lk = some i → ∃ ob, lo = .frz ob (.dK kvs) ∧ H c = some lo)
theorem Kids.mono {g : Gm} {G G' H H' : Hp} {lo : HO} {lk : Option Nat} {ds : List D} {cs : List Addr} (k : Kids g G H lo lk ds cs) (hG : Ex G G') (hH : Ex H H') : Kids g G' H' lo lk ds cs :=
  ⟨k.1, fun i d c h1 h2 => by
    obtain ⟨kvs, a, b, e⟩ := k.2 i d c h1 h2
    exact ⟨kvs, a.mono hG, fun z => hH _ _ (b z), fun z => by obtain ⟨ob, q0, q⟩ := e z; exact ⟨ob, q0, hH _ _ q⟩⟩⟩
structure Bs where
  P0 : Nat → Option Addr
  M0 : Addr → Prop
  G0 : Hp
  H0 : Hp
  p : Addr
  cs : List Addr
  lo : HO
noncomputable def Deep (g : Gm) (B : Bs) (G H : Hp) (s : Option Slot) (v : Option (Option V)) : Prop := ∃ ds lk, s.bind dpS = some (lk, ds) ∧ v = some (some (.ref B.p)) ∧ G B.p = none ∧ B.H0 B.p = none ∧ H B.p = some (.lst (B.cs.map V.ref)) ∧ B.cs.Nodup ∧ (∀ c ∈ B.cs, G c = none ∧ B.H0 c = none ∧ c ≠ B.p) ∧ Kids g G H B.lo lk ds B.cs
structure Sim2 (g : Gm) (j : Nat) (B : Bs) (env : Env) (σ : L2.St) (G H : Hp) : Prop where
  sim : Sim g B.P0 (env.set j .no) σ G H
  tr : Tr B.M0 B.G0 B.H0 (fun _ => False) G H
  no : ∀ (i : Nat) s, env[i]? = some s → s.own = none
  deep : Deep g B G H env[j]? σ[j]?
section
variable {g : Gm} {W : WX} {B : Bs} {j : Nat} {env env' : Env} {σ : L2.St} {G H G' H' : Hp}
theorem no_oa (h : ∀ (i : Nat) s, env[i]? = some s → s.own = none) {a : Addr} : ¬ OA env σ a := fun ⟨i, s, d, h1, h2, _⟩ => by rw [h i s h1] at h2; cases h2
theorem no_set (h : ∀ (i : Nat) s, env[i]? = some s → s.own = none) {i : Nat} {t : Slot} (ht : t.own = none) : ∀ (k : Nat) s, (env.set i t)[k]? = some s → s.own = none := fun k s e => by
  by_cases z : i = k
  · subst z
    have hl : i < env.length := by have := (List.getElem?_eq_some_iff.mp e).1; simpa using this
    rw [List.getElem?_set_self hl] at e; cases e; exact ht
  · rw [List.getElem?_set_ne z] at e; exact h k s e
theorem Sim2.grow (s : Sim2 g j B env σ G H) (hG : Ex G G') (hH : Ex H H') (hx : Ex G' H') (hn : ∀ a, G' a ≠ none → G a ≠ none ∨ H a = none ∨ TupO (H a)) : Sim2 g j B env σ G' H' where
  sim := s.sim.grow hG hH hx hn
  tr := s.tr.trans (Tr.grow (fun _ z => z.elim) hG hH hn)
  no := s.no
  deep := by
    obtain ⟨ds, lk, h1, h2, h3, h4, h5, h6, h7, h8⟩ := s.deep
    have fr : ∀ a o, G a = none → H a = some o → (∀ xs, o ≠ .tup xs) → G' a = none := fun a o q1 q2 q3 => by
      cases e : G' a with
      | none => rfl
      | some u =>
        rcases hn a (by rw [e]; simp) with z | z | ⟨xs, z⟩
        · exact absurd q1 z
        · rw [q2] at z; cases z
        · rw [q2] at z; exact absurd (Option.some.inj z) (q3 xs)
    refine ⟨ds, lk, h1, h2, fr B.p _ h3 h5 (fun _ z => by cases z), h4, hH _ _ h5, h6, fun c hc => ?_, h8.mono hG hH⟩
    obtain ⟨a1, a2, a3⟩ := h7 c hc
    obtain ⟨i, hi⟩ := List.getElem?_of_mem hc
    have hil : i < ds.length := by rw [← h8.1]; exact (List.getElem?_eq_some_iff.mp hi).1
    obtain ⟨kvs, _, b1, b2⟩ := h8.2 i ds[i] c (by simp [hil]) hi
    refine ⟨?_, a2, a3⟩
    by_cases hl : lk = some i
    · obtain ⟨ob, e0, q⟩ := b2 hl; exact fr c _ a1 q (fun _ z => by rw [e0] at z; cases z)
    · exact fr c _ a1 (b1 hl) (fun _ z => by cases z)
theorem Sim2.up {ds : List D} (s : Sim2 g j B env σ G H) (h : env[j]? = some (.im (.lst ds))) : ∃ G1, Sim g B.P0 env σ G1 H ∧ Ex G G1 ∧ Tr B.M0 B.G0 B.H0 (OA env σ) G1 H := by
  classical
  obtain ⟨ds', lk, h1, h2, h3, h4, h5, h6, h7, h8⟩ := s.deep
  rw [h] at h1
  cases h1
  let G1 : Hp := fun a => if a = B.p ∨ a ∈ B.cs then H a else G a
  have gp : G1 B.p = H B.p := if_pos (.inl rfl)
  have gc : ∀ c ∈ B.cs, G1 c = H c := fun c hc => if_pos (.inr hc)
  have hG : Ex G G1 := fun a o e => by
    show (if a = B.p ∨ a ∈ B.cs then H a else G a) = _
    rw [if_neg, e]
    rintro (z | z)
    · rw [z, h3] at e; cases e
    · rw [(h7 a z).1] at e; cases e
  have hx : Ex G1 H := fun a o e => by
    have e : (if a = B.p ∨ a ∈ B.cs then H a else G a) = some o := e
    split at e
    · exact e
    · exact s.sim.ex _ _ e
  have hno : ∀ a, ¬ OA env σ a := fun a => no_oa s.no
  refine ⟨G1, ⟨hx, by have := s.sim.len; rwa [List.length_set] at this, fun i d hi => ?_, fun i t d hi hi' => (by rw [s.no i t hi] at hi'; cases hi'), fun i k t u d e q a1 a2 => (by rw [s.no i t a1] at a2; cases a2), fun i d hi => (by have := s.no i _ hi; cases this), fun i k t u d e q r a a1 a2 => (by rw [s.no i t a1] at a2; cases a2)⟩, hG, ⟨s.tr.ex.trans hG, s.tr.keep, fun a ha => ?_, fun r a hr => absurd hr (hno r), s.tr.dom⟩⟩
  · by_cases e : j = i
    · subst e
      rw [h] at hi
      cases hi
      refine ⟨_, h2, B.p, B.cs.map V.ref, rfl, .inl (Rd.of (gp.trans h5)), rps_pt _ _ (by rw [List.length_map]; exact h8.1) fun i d v e1 e2 => ?_⟩
      rw [List.getElem?_map] at e2
      obtain ⟨c, hc, rfl⟩ := Option.map_eq_some_iff.mp e2
      obtain ⟨kvs, b0, b1, _⟩ := h8.2 i d c e1 hc
      exact b0.rp hG ((gc c (List.mem_of_getElem? hc)).trans (b1 (by simp)))
    · obtain ⟨v, q1, q2⟩ := s.sim.im i d (by rw [List.getElem?_set_ne e]; exact hi)
      exact ⟨v, q1, Rp.mono hG _ _ q2⟩
  · have ha : (if a = B.p ∨ a ∈ B.cs then H a else G a) ≠ none := ha
    split at ha
    · rename_i z
      rcases z with z | z
      · subst z; exact .inr (.inl h4)
      · exact .inr (.inl (h7 a z).2.1)
    · exact s.tr.gnew a ha
noncomputable def flat : D → Bool
  | .non => true
  | .bl _ => true
  | .int _ => true
  | .str _ => true
  | _ => false
theorem flat_rp {d : D} {x : V} (f : flat d = true) (h : Rp g G d x) : Rp g G' d x := by
  cases d with
  | non => exact h
  | bl _ => exact h
  | int _ => exact h
  | str _ => exact h
  | _ => cases f
end
section
variable {X : Cx} {j : Nat} {e : Expr} {d : Den}
end
section
variable {g : Gm} {W : WX} {B : Bs} {j : Nat} {env env' : Env} {σ : L2.St} {G H G' H' : Hp} {D : Ends}
end
section
variable {X : Cx} {j : Nat} {st : Stmt} {rest : List Stmt} {a b : SDen} {pos : Pos} {e : Expr} {d : Den}
theorem Sim2.setIm {g : Gm} {B : Bs} {env : Env} {σ : L2.St} {G H : Hp} {i : Nat} {d : D} {x : V} (s : Sim2 g j B env σ G H) (hij : i ≠ j) (hx : Rp g G d x) : Sim2 g j B (env.set i (.im d)) (σ.set i (some x)) G H where
  sim := by
    have h := (s.sim.setIm (i := i) (d := d) (x := x) (fun e z => by have := no_set s.no (i := j) (t := .no) rfl i _ z; cases this) hx).1
    rwa [List.set_comm _ _ (fun z => hij z.symm)] at h
  tr := s.tr
  no := no_set s.no rfl
  deep := by rw [List.getElem?_set_ne hij, List.getElem?_set_ne hij]; exact s.deep
end
end G
set_option Elab.async false
set_option linter.all false
set_option maxRecDepth 100000
set_option maxHeartbeats 4000000
namespace G
open PySem PySem.Spec PyProof.Rows L2 SX Evl
section
variable {X : Cx} {j : Nat} {tg e : Expr} {src : IDen} {d : Den}
end
section
variable {X : Cx} {j n : Nat} {tg iter : Expr} {body : List Stmt} {src : IDen} {b : SDen} {pos : Pos}
end
section
variable {X : Cx} {j n : Nat} {tg iter : Expr} {body : List Stmt} {d1 : Den} {b : SDen} {pos : Pos}
end
end G
set_option Elab.async false
set_option linter.all false
set_option maxRecDepth 100000
set_option maxHeartbeats 4000000
namespace G
open PySem PySem.Spec PyProof.Rows L2 SX Evl
section
variable {g : Gm} {P0 : Nat → Option Addr} {env env' : Env} {σ : L2.St} {G H G' H' G0 H0 : Hp}
end
section
variable {X : Cx} {tg iter : Expr} {scope : Scope} {own : List (Str × Nat)} {src : IDen} {td : TDen} {gt : TG} {ix : List Nat} {pos spos py pd : Pos} {j : Nat} {y : Str} {rest : List Stmt} {b : SDen}
end
end G
set_option Elab.async false
set_option linter.all false
set_option maxRecDepth 100000
set_option maxHeartbeats 4000000
namespace G
open PySem PySem.Spec PyProof.Rows L2 SX Evl
structure Ar (g : Gm) (G : Hp) (env : Env) (σ : L2.St) : Prop where
  len : env.length = σ.length
  im : ∀ (i : Nat) d, env[i]? = some (.im d) → ∃ v, σ[i]? = some (some v) ∧ Rp g G d v
  no : ∀ (i : Nat) s, env[i]? = some s → s.own = none
section
variable {g : Gm} {P0 : Nat → Option Addr} {env : Env} {σ : L2.St} {G H G' H' : Hp}
theorem Ar.sim (a : Ar g G env σ) (hx : Ex G H) : Sim g P0 env σ G H where
  ex := hx
  len := a.len
  im := a.im
  ow := fun i s d h h' => by rw [a.no i s h] at h'; cases h'
  dis := fun i j s t d e p h1 h2 => by rw [a.no i s h1] at h2; cases h2
  io := fun i d h => by have := a.no i _ h; cases this
  pv := fun i j s t d e p q r h1 h2 => by rw [a.no i s h1] at h2; cases h2
theorem Ar.mono (a : Ar g G env σ) (hG : Ex G G') : Ar g G' env σ := ⟨a.len, fun i d h => by obtain ⟨v, h1, h2⟩ := a.im i d h; exact ⟨v, h1, Rp.mono hG _ _ h2⟩, a.no⟩
theorem Ar.but (a : Ar g G env σ) {σ1 : L2.St} {ix : List Nat} (b : But ix σ σ1) (h : ∀ i ∈ ix, env[i]? = some .no) : Ar g G env σ1 where
  len := by rw [b.1]; exact a.len
  im := fun i d e => by
    by_cases hi : i ∈ ix
    · rw [h i hi] at e; cases e
    · rw [b.2 i hi]; exact a.im i d e
  no := a.no
theorem Ar.set (a : Ar g G env σ) {j : Nat} {x : Option V} (h : env[j]? = some .no) : Ar g G env (σ.set j x) :=
  a.but (ix := [j]) ⟨List.length_set, fun i hi => List.getElem?_set_ne (fun z => hi (by simp [z]))⟩ fun i hi => by rw [List.mem_singleton] at hi; rw [hi]; exact h
end
section
variable {g : Gm} {W : WX} {G H H0 : Hp} {env : Env} {σ : L2.St} {D0 : Ends} {p h : Addr} {ds : List D} {cs : List Addr}
structure Bd (g : Gm) (G H0 : Hp) (p : Addr) (ds : List D) (cs : List Addr) (H : Hp) : Prop where
  ex0 : Ex H0 H
  lp : H p = some (.lst (cs.map V.ref))
  g0 : G p = none ∧ H0 p = none
  nd : cs.Nodup
  fr : ∀ c ∈ cs, G c = none ∧ H0 c = none ∧ c ≠ p
  kd : Kids g G H (.lst []) none ds cs
theorem Bd.grow {H' : Hp} (b : Bd g G H0 p ds cs H) (hH : Ex H H') : Bd g G H0 p ds cs H' := ⟨b.ex0.trans hH, hH _ _ b.lp, b.g0, b.nd, b.fr, b.kd.mono (Ex.refl _) hH⟩
theorem Kids.side {o : HO} {a : Addr} (k : Kids g G H (.lst []) none ds cs) (h : a ∉ cs) : Kids g G (upd H a o) (.lst []) none ds cs := ⟨k.1, fun i d c e1 e2 => by
  obtain ⟨kvs, q1, q2, q3⟩ := k.2 i d c e1 e2
  have hne : c ≠ a := fun z => h (z ▸ List.mem_of_getElem? e2)
  exact ⟨kvs, q1, fun z => by rw [upd_ne hne]; exact q2 z, fun z => by cases z⟩⟩
theorem Bd.side {o : HO} {a : Addr} (b : Bd g G H0 p ds cs H) (h0 : H0 a = none) (hp : a ≠ p) (hc : a ∉ cs) : Bd g G H0 p ds cs (upd H a o) :=
  ⟨fun c o' e => by
    have hne : c ≠ a := fun z => by rw [z, h0] at e; cases e
    rw [upd_ne hne]; exact b.ex0 _ _ e, by rw [upd_ne (fun z => hp z.symm)]; exact b.lp, b.g0, b.nd, b.fr, b.kd.side hc⟩
end
end G
set_option Elab.async false
set_option linter.all false
set_option maxRecDepth 100000
set_option maxHeartbeats 4000000
namespace G
open PySem PySem.Spec PyProof.Rows L2 SX Evl
section
variable {P : Program} {w : World} {K : PySem.W.Frag} {mg : Str → Option Value} {base : Heap}
end
section
variable {X : Cx} {W : WX} {jf js jh jb : Nat} {fx sx hx bx : Str} {srcO src : IDen} {gt : TG} {dE : Den} {itO itI tgI E : Expr} {q1 q2 q3 q4 q5 q6 q7 q8 q9 q10 q11 q12 q13 q14 q15 q16 q17 q18 q19 q20 : Pos}
end
section
variable {X : Cx} {k n j : Nat} {fx y : Str} {p pos py spos : Pos} {e : Expr} {es : List Expr} {as : List Den} {F : List D → Option (List D)} {rest : List Stmt} {b : SDen}
end
end G
set_option Elab.async false
set_option linter.all false
set_option maxRecDepth 100000
set_option maxHeartbeats 4000000
namespace G
open PySem PySem.Spec PyProof.Rows L2 SX Evl
theorem wipeE_set {env : Env} {j : Nat} {s : Slot} : ∀ {is : List Nat}, j ∉ is → wipeE (env.set j s) is = (wipeE env is).set j s
  | [], _ => rfl
  | v :: ws, h => by
    simp only [List.mem_cons, not_or] at h
    show (wipeE (env.set j s) ws).set v .no = ((wipeE env ws).set v .no).set j s
    rw [wipeE_set h.2, List.set_comm _ _ h.1]
theorem wipeE_get {env : Env} {j : Nat} : ∀ {is : List Nat}, j ∉ is → (wipeE env is)[j]? = env[j]?
  | [], _ => rfl
  | v :: ws, h => by
    simp only [List.mem_cons, not_or] at h
    show ((wipeE env ws).set v .no)[j]? = _
    rw [List.getElem?_set_ne (Ne.symm h.1), wipeE_get h.2]
section
variable {g : Gm} {W : WX} {B : Bs} {j : Nat} {env : Env} {σ : L2.St} {G H : Hp} {X : Cx} {st : Stmt} {sts : List Stmt} {d : SDen}
theorem Sim2.drop {is : List Nat} (s : Sim2 g j B env σ G H) (hj : j ∉ is) : Sim2 g j B (wipeE env is) σ G H where
  sim := by rw [← wipeE_set hj]; exact s.sim.drop is
  tr := s.tr
  no := fun i t h => by
    rcases wipeE_own h with q | ⟨_, q⟩
    · subst q; rfl
    · exact s.no i t q
  deep := by rw [wipeE_get hj]; exact s.deep
end
end G
set_option Elab.async false
set_option linter.all false
set_option maxRecDepth 100000
set_option maxHeartbeats 4000000
namespace G
open PySem PySem.Spec PyProof.Rows L2 SX Evl
noncomputable def dLRg (a : Den) : Den := fun env => (a env).bind fun p => match rd p.1 p.2 with
  | some (.int n) => if 0 ≤ n ∧ n ≤ 1000000 then .ok (.ow (.lst (rng 0 1 n.toNat)), p.2) else .bad
  | _ => .bad
theorem se_listRg {X : Cx} {a : Expr} {da : Den} {p p2 pos pos2 : Pos} (hc : X.calm = true) (hg : Gl X "list") (hm : X.mg "list" = none) (hg2 : Gl X "range") (hm2 : X.mg "range" = none) (ha : SE X a da)
    (na : starEach [a] X.env = (false, eval a X.env) :: starEach [] X.env := by rfl)
    (nb : starEach [.Call (.Name "range" p2) [a] [] pos2] X.env = (false, eval (.Call (.Name "range" p2) [a] [] pos2) X.env) :: starEach [] X.env := by rfl) :
    SE X (.Call (.Name "list" p) [.Call (.Name "range" p2) [a] [] pos2] [] pos) (dLRg da) := fun W tk =>
  pe_imp (pe_listRg hc hg hm (prg_1 hg2 hm2 (ha W tk) na) nb) fun σ H Q q => by
    show teOf (gm X) W da σ H _
    refine te_first (show teOf (gm X) W (dLRg da) σ H Q from q) fun P0 env0 G0 v env1 G1 x H1 s t w q => ?_
    simp only at q
    split at q
    · rename_i n en
      have ex := (rd_now s w en).int
      split at q
      · rename_i hn
        refine ⟨n, ex, ⟨by omega, by omega, by omega, by omega, by omega⟩, fun p hp => ?_⟩
        refine (fin_pur s t q).new s.ex ⟨_, rfl, ?_⟩ hp
        have : rgV 0 n = (List.range n.toNat).map fun i : Nat => V.int (0 + (i : Int) * 1) := by
          unfold rgV
          rw [show (n - 0).toNat = n.toNat by omega]
          exact List.map_congr_left fun (i : Nat) _ => by rw [Int.mul_one]
        rw [this]
        have h := Rps.of_int (g := gm X) (G := G1) ((List.range n.toNat).map fun i => (0 + ((i : Nat) : Int) * 1))
        rw [List.map_map, List.map_map] at h
        exact h
      · exact q.elim
    · exact q.elim
end G
set_option Elab.async false
set_option linter.all false
set_option maxRecDepth 100000
set_option maxHeartbeats 4000000
namespace G
open PySem PySem.Spec PyProof.Rows L2 SX Evl
end G
set_option Elab.async false
set_option linter.all false
set_option maxRecDepth 100000
set_option maxHeartbeats 4000000
namespace G
open L2 (atI ixN)
noncomputable abbrev EX := Nat → Env → Prop
noncomputable def XF : EX := fun _ _ => False
theorem XF_ap (c : Nat) (e : Env) : XF c e = False := propext Iff.rfl
variable {X : EX}
structure Tg {α : Sort _} (a : α) : Type where
noncomputable def need {α : Type} (o : Option α) (Q : α → Prop) (_t : Tg Q := ⟨⟩) : Prop := match o with
  | some a => Q a
  | none => False
theorem need_some {α : Type} (a : α) (Q : α → Prop) : need (some a) Q = Q a := propext Iff.rfl
theorem need_none {α : Type} (Q : α → Prop) : need none Q = False := propext Iff.rfl
theorem need_if {α : Type} (c : Prop) [Decidable c] (o : Option α) (Q : α → Prop) : need (if c then o else none) Q = (c ∧ need o Q) := by
  by_cases h : c <;> simp [h, need]
theorem need_map {α β : Type} (f : α → β) (o : Option α) (Q : β → Prop) : need (o.map f) Q = need o fun a => Q (f a) := by cases o <;> rfl
noncomputable def post {α β : Type} (X : EX) (r : R Env (α × β)) (Q : α → β → Prop) : Prop := match r with
  | .ok p => Q p.1 p.2
  | .err c e => X c e
  | .bad => False
theorem post_ok {α β : Type} (a : α) (b : β) (Q : α → β → Prop) : post X (R.ok (a, b) : R Env (α × β)) Q = Q a b := propext Iff.rfl
theorem post_bad {α β : Type} (Q : α → β → Prop) : post X (R.bad : R Env (α × β)) Q = False := propext Iff.rfl
theorem post_bind {α β γ δ : Type} (m : R Env (α × β)) (k : α × β → R Env (γ × δ)) (Q : γ → δ → Prop) : post X (m.bind k) Q = post X m fun a b => post X (k (a, b)) Q := by cases m <;> rfl
theorem post_opt {α β γ : Type} (o : Option γ) (k : γ → R Env (α × β)) (Q : α → β → Prop) : post X (opt o k) Q = need o fun a => post X (k a) Q := by cases o <;> rfl
theorem post_ans (o : Option Val) (env : Env) (Q : Val → Env → Prop) : post X (ans o env) Q = need o fun u => Q u env := by cases o <;> rfl
theorem post_if {α β : Type} (c : Prop) [Decidable c] (x y : R Env (α × β)) (Q : α → β → Prop) : post X (if c then x else y) Q = if c then post X x Q else post X y Q := by
  by_cases h : c <;> simp [h]
theorem post_mono {α β : Type} {r : R Env (α × β)} {Q Q' : α → β → Prop} (h : post X r Q) (i : ∀ a b, Q a b → Q' a b) : post X r Q' := by
  cases r with
  | ok p => exact i _ _ h
  | err _ _ => exact h
  | bad => exact h
theorem post_ex {α β : Type} {r : R Env (α × β)} {Q : α → β → Prop} (h : post XF r Q) : ∃ a b, r = .ok (a, b) ∧ Q a b := by
  cases r with
  | ok p => exact ⟨p.1, p.2, rfl, h⟩
  | err _ _ => exact h.elim
  | bad => exact h.elim
theorem post_k {α β : Type} {X : EX} {r : R Env (α × β)} {Q Q' : α → β → Prop} (h : Q = Q') : post X r Q = post X r Q' := by rw [h]
theorem need_k {α : Type} {o : Option α} {Q Q' : α → Prop} (h : Q = Q') : need o Q = need o Q' := by rw [h]
@[irreducible] noncomputable def wpE (X : EX) (d : Den) (env : Env) (Q : Val → Env → Prop) (_t : Tg Q := ⟨⟩) : Prop := post X (d env) Q
@[irreducible] noncomputable def wpS (X : EX) (d : SDen) (env : Env) (Q : Fl → Env → Prop) (_t : Tg Q := ⟨⟩) : Prop := post X (d env) Q
@[irreducible] noncomputable def wpA (X : EX) (as : List (Bool × Den)) (env : Env) (Q : List Val → Env → Prop) (_t : Tg Q := ⟨⟩) : Prop := post X (dArgs as env) Q
@[irreducible] noncomputable def wpI (X : EX) (d : IDen) (env : Env) (Q : List D → Env → Prop) (_t : Tg Q := ⟨⟩) : Prop := post X (d env) Q
@[irreducible] noncomputable def wpF (X : EX) (F : FD) (sl : List Slot) (Q : Val → List Slot → Prop) (_t : Tg Q := ⟨⟩) : Prop := post X (F sl) Q
theorem wpE_k {d : Den} {e : Env} {Q Q' : Val → Env → Prop} (h : Q = Q') : wpE X d e Q = wpE X d e Q' := by rw [h]
theorem wpS_k {d : SDen} {e : Env} {Q Q' : Fl → Env → Prop} (h : Q = Q') : wpS X d e Q = wpS X d e Q' := by rw [h]
theorem wpA_k {d : List (Bool × Den)} {e : Env} {Q Q' : List Val → Env → Prop} (h : Q = Q') : wpA X d e Q = wpA X d e Q' := by rw [h]
theorem wpI_k {d : IDen} {e : Env} {Q Q' : List D → Env → Prop} (h : Q = Q') : wpI X d e Q = wpI X d e Q' := by rw [h]
theorem wpF_k {F : FD} {e : List Slot} {Q Q' : Val → List Slot → Prop} (h : Q = Q') : wpF X F e Q = wpF X F e Q' := by rw [h]
noncomputable def needB (o : Option Val) (Q : Bool → Prop) (_t : Tg Q := ⟨⟩) : Prop := match o with
  | some (.im (.bl b)) => Q b
  | _ => False
noncomputable def needI (o : Option D) (Q : Int → Prop) (_t : Tg Q := ⟨⟩) : Prop := match o with
  | some (.int i) => Q i
  | _ => False
noncomputable def wpP (X : EX) (o : Option Den) (env : Env) (Q : Option Int → Env → Prop) (_t : Tg Q := ⟨⟩) : Prop := match o with
  | none => Q none env
  | some d => wpE X d env fun v e => need (rd v e) fun x => match x with
    | .int i => Q (some i) e
    | _ => False
theorem needB_k {o : Option Val} {Q Q' : Bool → Prop} (h : Q = Q') : needB o Q = needB o Q' := by rw [h]
theorem needI_k {o : Option D} {Q Q' : Int → Prop} (h : Q = Q') : needI o Q = needI o Q' := by rw [h]
theorem wpP_k {o : Option Den} {e : Env} {Q Q' : Option Int → Env → Prop} (h : Q = Q') : wpP X o e Q = wpP X o e Q' := by rw [h]
local macro_rules
  | `(tactic| congr) => `(tactic| first | refine post_k ?_ | refine need_k ?_ | refine needI_k ?_ | refine needB_k ?_ | refine wpP_k ?_ | refine wpE_k ?_ | refine wpS_k ?_ | refine wpA_k ?_ | refine wpI_k ?_ | refine wpF_k ?_ | congr 50)
theorem wpF_ex {F : FD} {sl : List Slot} {Q : Val → List Slot → Prop} (h : wpF XF F sl Q) : ∃ w l, F sl = .ok (w, l) ∧ Q w l := by unfold wpF at h; exact post_ex h
theorem wpS_mono {d : SDen} {env : Env} {Q Q' : Fl → Env → Prop} (h : wpS X d env Q) (i : ∀ w l, Q w l → Q' w l) : wpS X d env Q' := by unfold wpS at h ⊢; exact post_mono h i
theorem wpE_mono {d : Den} {env : Env} {Q Q' : Val → Env → Prop} (h : wpE X d env Q) (i : ∀ w l, Q w l → Q' w l) : wpE X d env Q' := by unfold wpE at h ⊢; exact post_mono h i
noncomputable def slotV (i : Nat) (env : Env) : Option Val := match env[i]? with
  | some (.im d) => some (.im d)
  | some (.ow _) => some (.loc i)
  | some (.io _) => some (.loc i)
  | _ => none
section
variable {s : Slot} {r : Env} {Q : Val → Env → Prop} {a b c : Den} {f f' : D → D → Option Val}
theorem wpE_name (i : Nat) : wpE X (dName i) (s :: r) Q = need (slotV i (s :: r)) fun v => Q v (s :: r) := by
  unfold wpE dName slotV
  cases (s :: r)[i]? with
  | none => rfl
  | some t => cases t <;> rfl
theorem wpE_C (d : D) : wpE X (dC d) (s :: r) Q = Q (.im d) (s :: r) := by unfold wpE; exact propext Iff.rfl
theorem wpE_bin : wpE X (dBin f a b) (s :: r) Q = wpE X a (s :: r) fun v e1 => wpE X b e1 fun w e2 => need (rd v e2) fun x => need (rd w e2) fun y => need (f x y) fun u => Q u e2 := by
  unfold wpE dBin
  rw [post_bind]
  congr; funext v e1
  rw [post_bind]
  congr; funext w e2
  simp only
  cases rd v e2 with
  | none => rfl
  | some x => cases rd w e2 with
    | none => rfl
    | some y => exact post_ans _ _ _
theorem wpE_un {f : D → Option Val} : wpE X (dUn f a) (s :: r) Q = wpE X a (s :: r) fun v e1 => need (rd v e1) fun x => need (f x) fun u => Q u e1 := by
  unfold wpE dUn
  rw [post_bind]
  congr; funext v e1
  simp only
  cases rd v e1 with
  | none => rfl
  | some x => exact post_ans _ _ _
theorem wpE_not : wpE X (dNot a) (s :: r) Q = wpE X a (s :: r) fun v e1 => need (tru v e1) fun b => Q (.im (.bl (!b))) e1 := by
  unfold wpE dNot
  rw [post_bind]
  congr; funext v e1
  simp only
  cases tru v e1 <;> rfl
theorem wpE_and : wpE X (dAnd a b) (s :: r) Q = wpE X a (s :: r) fun v e1 => need (tru v e1) fun t => if t = true then wpE X b e1 Q else Q (.im (.bl false)) e1 := by
  unfold wpE dAnd
  rw [post_bind]
  congr; funext v e1
  simp only
  rcases tru v e1 with _ | (_ | _) <;> simp [need, post]
theorem wpE_or : wpE X (dOr a b) (s :: r) Q = wpE X a (s :: r) fun v e1 => need (tru v e1) fun t => if t = true then Q (.im (.bl true)) e1 else wpE X b e1 Q := by
  unfold wpE dOr
  rw [post_bind]
  congr; funext v e1
  simp only
  rcases tru v e1 with _ | (_ | _) <;> simp [need, post]
theorem needB_bl (b : Bool) (Q : Bool → Prop) : needB (some (.im (.bl b))) Q = Q b := propext Iff.rfl
theorem needB_if (c : Prop) [Decidable c] (o : Option Val) (Q : Bool → Prop) : needB (if c then o else none) Q = (c ∧ needB o Q) := by
  by_cases h : c <;> simp [h, needB]
theorem wpE_chain : wpE X (dChain f f' a b c) (s :: r) Q = wpE X a (s :: r) fun v e1 => wpE X b e1 fun w e2 => need (rd v e2) fun x => need (rd w e2) fun y => needB (f x y) fun t => if t = true then wpE X c e2 (fun z e3 => need (rd w e3) fun y' => need (rd z e3) fun z' => need (f' y' z') fun q => Q q e3) else Q (.im (.bl false)) e2 := by
  unfold wpE dChain
  rw [post_bind]
  congr; funext v e1
  rw [post_bind]
  congr; funext w e2
  simp only
  cases rd v e2 with
  | none => rfl
  | some x => cases rd w e2 with
    | none => rfl
    | some y =>
      simp only [need_some]
      cases f x y with
      | none => rfl
      | some u => cases u with
        | im d => cases d with
          | bl t => cases t with
            | true =>
              simp only [needB, if_true]
              rw [post_bind]
              congr; funext z e3
              simp only
              cases rd w e3 with
              | none => rfl
              | some y' => cases rd z e3 with
                | none => rfl
                | some z' => exact post_ans _ _ _
            | false => simp [needB, post]
          | _ => rfl
        | ow _ => rfl
        | loc _ => rfl
theorem wpA_nil {e : Env} {Q : List Val → Env → Prop} : wpA X [] e Q = Q [] e := by unfold wpA; exact propext Iff.rfl
theorem wpA_cons {bb : Bool} {d : Den} {as : List (Bool × Den)} {Q : List Val → Env → Prop} : wpA X ((bb, d) :: as) (s :: r) Q = wpE X d (s :: r) fun v e1 => match isLoc bb v with
    | some i => wpA X as e1 fun vs e2 => Q (.loc i :: vs) e2
    | none => need (fz v e1) fun q => wpA X as q.2 fun vs e2 => Q (.im q.1 :: vs) e2 := by
  unfold wpE wpA
  rw [dArgs, post_bind]
  congr; funext v e1
  simp only
  cases isLoc bb v with
  | some i => simp only [post_bind, post_ok]
  | none =>
    cases fz v e1 with
    | none => rfl
    | some q => simp only [post_bind, post_ok, need_some]
noncomputable def xCall (vs : List Val) (e1 : Env) (X : EX) : EX := fun c l => X c (leave vs l e1)
theorem xCall_F (vs : List Val) (e1 : Env) : xCall vs e1 XF = XF := funext fun _ => funext fun _ => propext Iff.rfl
theorem xCall_ap (vs : List Val) (e1 l : Env) (c : Nat) : xCall vs e1 X c l = X c (leave vs l e1) := propext Iff.rfl
noncomputable def leaveK (vs : List Val) (e1 : Env) (Q : Val → Env → Prop) : Val → List Slot → Prop := fun w l => Q w (leave vs l e1)
theorem leaveK_ap (vs : List Val) (e1 l : Env) (Q : Val → Env → Prop) (w : Val) : leaveK vs e1 Q w l = Q w (leave vs l e1) := propext Iff.rfl
theorem wpE_call {F : FD} {as : List (Bool × Den)} : wpE X (dCall F as) (s :: r) Q = wpA X as (s :: r) fun vs e1 => onceL vs = true ∧ need (enter vs e1) fun sl => wpF (xCall vs e1 X) F sl (leaveK vs e1 Q) := by
  unfold wpE wpA dCall wpF
  rw [post_bind]
  congr; funext vs e1
  simp only [post_if, post_opt]
  by_cases h : onceL vs = true
  · rw [if_pos h]
    simp only [h, true_and]
    congr; funext sl
    cases F sl with
    | ok p => rfl
    | err _ _ => rfl
    | bad => rfl
  · rw [if_neg h]
    simp [h, post]
theorem wpE_lst {as : List Den} : wpE X (dLst as) (s :: r) Q = wpA X (as.map fun d => (false, d)) (s :: r) fun vs e1 => need (imD vs) fun ds => ds.length ≤ LINE ∧ Q (.ow (.lst ds)) e1 := by
  unfold wpE wpA dLst
  rw [post_bind]
  congr; funext vs e1
  simp only
  cases imD vs with
  | none => rfl
  | some ds =>
    simp only [need_some, post_if, post_ok, post_bad]
    by_cases h : ds.length ≤ LINE <;> simp [h]
theorem wpE_tup {as : List Den} : wpE X (dTup as) (s :: r) Q = wpA X (as.map fun d => (false, d)) (s :: r) fun vs e1 => need (imD vs) fun ds => ds.length ≤ LINE ∧ Q (.im (.tup ds)) e1 := by
  unfold wpE wpA dTup
  rw [post_bind]
  congr; funext vs e1
  simp only
  cases imD vs with
  | none => rfl
  | some ds =>
    simp only [need_some, post_if, post_ok, post_bad]
    by_cases h : ds.length ≤ LINE <;> simp [h]
theorem wpE_sl {lo hi : Option Den} : wpE X (dSl a lo hi) (s :: r) Q = wpE X a (s :: r) fun v e1 => wpP X lo e1 fun l e2 => wpP X hi e2 fun h e3 => need (rd v e3) fun x => need (fSl x l h) fun u => Q u e3 := by
  have part : ∀ (o : Option Den) (k : Option Int → Env → R Env (Val × Env)) (env : Env), post X (dPart o k env) Q = wpP X o env fun i e => post X (k i e) Q := by
    intro o k env
    cases o with
    | none => rfl
    | some d =>
      unfold dPart wpP wpE
      rw [post_bind]
      congr; funext v e
      simp only
      cases rd v e with
      | none => rfl
      | some x => cases x <;> rfl
  unfold wpE dSl
  rw [post_bind]
  congr; funext v e1
  rw [part]
  congr; funext l e2
  rw [part]
  congr; funext h e3
  simp only
  cases rd v e3 with
  | none => rfl
  | some x => exact post_ans _ _ _
theorem wpE_meth {kd : D → Bool} {j : Nat} {as : List Den} {f : D → List D → Option (D × D)} : wpE X (dMeth kd j as f) (s :: r) Q = need (ownAt j (s :: r)) fun d0 => kd d0 = true ∧ wpA X (as.map fun d => (false, d)) (s :: r) fun vs e1 => need (imD vs) fun ds => need (ownAt j e1) fun d => need (f d ds) fun q => Q (.im q.1) (putAt j q.2 e1) := by
  unfold wpE wpA dMeth
  rw [post_opt]
  congr; funext d0
  by_cases h : kd d0 = true
  · simp only [h, if_true, true_and]
    rw [post_bind]
    congr; funext vs e1
    repeat (rw [post_opt]; congr; funext _)
    rw [post_ok]
  · simp [h, post]
theorem wpE_methR {kd : D → Bool} {o : Den} {as : List Den} {f : D → List D → Option Val} : wpE X (dMethR kd o as f) (s :: r) Q = wpE X o (s :: r) fun v e1 => kdAt kd v e1 = true ∧ wpA X (as.map fun d => (false, d)) e1 fun vs e2 => need (imD vs) fun ds => need (rd v e2) fun x => need (f x ds) fun u => Q u e2 := by
  unfold wpE wpA dMethR
  rw [post_bind]
  congr; funext v e1
  by_cases h : kdAt kd v e1 = true
  · simp only [h, if_true, true_and]
    rw [post_bind]
    congr; funext vs e2
    simp only [post_opt]
    congr; funext ds
    cases rd v e2 with
    | none => rfl
    | some x => exact post_ans _ _ _
  · simp [h, post]
end
section
variable {s : Slot} {r : Env} {Q : Fl → Env → Prop} {a b : SDen} {c d ix : Den} {j : Nat}
noncomputable def then_ (Q : Env → Prop) (P : Fl → Env → Prop) : Fl → Env → Prop
  | .nx, e => Q e
  | f, e => P f e
theorem wpS_seq : wpS X (sSeq a b) (s :: r) Q = wpS X a (s :: r) (then_ (fun e => wpS X b e Q) Q) := by
  unfold wpS sSeq
  cases a (s :: r) with
  | ok p => obtain ⟨f, e⟩ := p; cases f <;> rfl
  | err _ _ => rfl
  | bad => rfl
theorem wpS_nil : wpS X sNil (s :: r) Q = Q .nx (s :: r) := by unfold wpS; exact propext Iff.rfl
theorem wpS_expr : wpS X (sExpr d) (s :: r) Q = wpE X d (s :: r) fun _ e => Q .nx e := by
  unfold wpS wpE sExpr
  rw [post_bind] <;> rfl
theorem wpS_ret : wpS X (sRet d) (s :: r) Q = wpE X d (s :: r) fun v e => Q (.rt v) e := by
  unfold wpS wpE sRet
  rw [post_bind] <;> rfl
theorem wpS_raise {c : Nat} : wpS X (sRaise c) (s :: r) Q = X c (s :: r) := by unfold wpS sRaise; exact propext Iff.rfl
theorem wpS_if : wpS X (sIf c a b) (s :: r) Q = wpE X c (s :: r) fun v e1 => need (tru v e1) fun t => if t = true then wpS X a e1 Q else wpS X b e1 Q := by
  unfold wpS wpE sIf
  rw [post_bind]
  congr; funext v e1
  simp only
  rcases tru v e1 with _ | (_ | _) <;> simp [need, post]
theorem wpS_asg {i : Nat} : wpS X (sAsg i d) (s :: r) Q = wpE X d (s :: r) fun v e => need (store i v e) fun e1 => Q .nx e1 := by
  unfold wpS wpE sAsg
  rw [post_bind]
  congr; funext v e1
  rw [post_opt] <;> rfl
theorem needI_int (i : Int) (Q : Int → Prop) : needI (some (.int i)) Q = Q i := propext Iff.rfl
noncomputable def imInt (i : Nat) (env : Env) : Option D := match env[i]? with
  | some (.im d) => some d
  | _ => none
theorem wpS_aug {i : Nat} {f : Int → Int → Int} : wpS X (sAug i f d) (s :: r) Q = needI (imInt i (s :: r)) fun a => wpE X d (s :: r) fun v e => needI (rd v e) fun b => Q .nx (e.set i (.im (.int (f a b)))) := by
  unfold wpS wpE sAug imInt
  cases e : (s :: r)[i]? with
  | none => rfl
  | some t => cases t with
    | im x => cases x with
      | int a =>
        simp only [needI]
        rw [post_bind]
        congr; funext v e1
        simp only
        cases rd v e1 with
        | none => rfl
        | some x => cases x <;> rfl
      | _ => rfl
    | _ => rfl
theorem wpS_setL : wpS X (sSetL j ix d) (s :: r) Q = wpE X d (s :: r) fun v e1 => need (fz v e1) fun q => need (ownAt j q.2) fun _ => wpE X ix q.2 fun w e2 => needI (rd w e2) fun k => need (ownAt j e2) fun d0 => need (setL d0 k q.1) fun d' => Q .nx (putAt j d' e2) := by
  unfold wpS wpE sSetL
  rw [post_bind]
  congr; funext v e1
  rw [post_opt]
  congr; funext q
  rw [post_opt]
  congr; funext _
  rw [post_bind]
  congr; funext w e2
  simp only
  cases rd w e2 with
  | none => rfl
  | some x => cases x with
    | int k =>
      show _ = need (ownAt j e2) _
      repeat (rw [post_opt]; congr; funext _)
      rfl
    | _ => rfl
noncomputable def fnK (sl : List Slot) (Q : Val → List Slot → Prop) : Fl → Env → Prop
  | .rt v, ce => need (retV v ce) fun w => need (outs sl ce) fun l => Q w l
  | .nx, ce => need (outs sl ce) fun l => Q (.im .non) l
  | _, _ => False
theorem fnK_rt (sl : List Slot) (Q : Val → List Slot → Prop) (v : Val) (ce : Env) : fnK sl Q (.rt v) ce = need (retV v ce) fun w => need (outs sl ce) fun l => Q w l := propext Iff.rfl
noncomputable def xFn (sl : List Slot) (X : EX) : EX := fun c ce => need (outs sl ce) fun l => X c l
theorem xFn_ap (sl : List Slot) (c : Nat) (ce : Env) : xFn sl X c ce = need (outs sl ce) fun l => X c l := propext Iff.rfl
theorem xFn_F (sl : List Slot) : xFn sl XF = XF := by
  funext c ce
  unfold xFn
  cases outs sl ce <;> rfl
theorem wpF_fn {N : Nat} {body : SDen} {sl : List Slot} {Q : Val → List Slot → Prop} : wpF X (fnOf N body) sl Q = wpS (xFn sl X) body (sl ++ List.replicate (N - sl.length) .no) (fnK sl Q) := by
  unfold wpF wpS fnOf
  cases body (sl ++ List.replicate (N - sl.length) .no) with
  | ok p =>
    obtain ⟨f, ce⟩ := p
    cases f with
    | nx => show post X (opt _ _) Q = need (outs sl ce) _; repeat (rw [post_opt]; congr; funext _); rfl
    | bk => rfl
    | ct => rfl
    | rt v => exact (post_opt _ _ _).trans (need_k (funext fun w => (post_opt _ _ _).trans (need_k rfl)))
  | err c ce => simp only [post_opt]; rfl
  | bad => rfl
theorem wp_forL {td : TDen} {body : SDen} {ds : List D} {env : Env} {Q : Fl → Env → Prop} (I : Nat → Env → Prop) (h0 : I 0 env) (hn : ∀ e, I ds.length e → Q .nx e)
    (hs : ∀ i d e, ds[i]? = some d → I i e → need (td d e) fun e1 => wpS X body e1 fun f e2 => match f with
      | .nx => I (i + 1) e2
      | .ct => I (i + 1) e2
      | .bk => Q .nx e2
      | .rt v => Q (.rt v) e2) : wpS X (sForL td body ds) env Q := by
  have key : ∀ (l : List D) (k : Nat) (e : Env), (∀ i, ds[k + i]? = l[i]?) → k + l.length = ds.length → I k e → wpS X (sForL td body l) e Q := by
    intro l
    induction l with
    | nil =>
      intro k e hl hk hI
      unfold wpS
      exact hn e (by rw [← hk]; exact hI)
    | cons d l ih =>
      intro k e hl hk hI
      have h1 := hs k d e (by rw [show k = k + 0 from rfl, hl 0] <;> rfl) hI
      unfold wpS sForL
      rw [post_opt]
      cases ht : td d e with
      | none => rw [ht] at h1; exact h1
      | some e1 =>
        rw [ht] at h1
        simp only [need_some] at h1 ⊢
        unfold wpS at h1
        cases hb : body e1 with
        | bad => rw [hb] at h1; exact h1
        | err _ _ => rw [hb] at h1; exact h1
        | ok p =>
          obtain ⟨f, e2⟩ := p
          rw [hb] at h1
          have nx : I (k + 1) e2 → post X (sForL td body l e2) Q := fun hI2 => by
            have := ih (k + 1) e2 (fun i => by rw [show k + 1 + i = k + (i + 1) by omega, hl (i + 1)]; simp) (by rw [List.length_cons] at hk; omega) hI2
            unfold wpS at this
            exact this
          cases f with
          | nx => exact nx h1
          | ct => exact nx h1
          | bk => exact h1
          | rt v => exact h1
  exact key ds 0 env (fun i => by rw [Nat.zero_add]) (by rw [Nat.zero_add]) h0
theorem wpS_for {src : IDen} {td : TDen} {body : SDen} {env : Env} {Q : Fl → Env → Prop} : wpS X (sFor src td body) env Q = wpI X src env fun ds e => wpS X (sForL td body ds) e Q := by
  unfold wpS wpI sFor
  rw [post_bind]
theorem wp_while {cd : Den} {body : SDen} {Q : Fl → Env → Prop} (I : Nat → Env → Prop)
    (hs : ∀ m e, I m e → wpE X cd e fun v e1 => need (tru v e1) fun t => if t = true then wpS X body e1 (fun f e2 => match f with
      | .nx => ∃ k, k < m ∧ I k e2
      | .ct => ∃ k, k < m ∧ I k e2
      | .bk => Q .nx e2
      | .rt v => Q (.rt v) e2) else Q .nx e1) : ∀ (n m : Nat) (e : Env), m < n → I m e → wpS X (sWhile cd body n) e Q := by
  intro n
  induction n with
  | zero => intro m e h; omega
  | succ n ih =>
    intro m e hm hI
    have h1 := hs m e hI
    unfold wpE at h1
    unfold wpS sWhile
    rw [post_bind]
    refine post_mono h1 fun v e1 h2 => ?_
    simp only
    cases ht : tru v e1 with
    | none => rw [ht] at h2; exact h2
    | some t =>
      rw [ht] at h2
      simp only [need_some] at h2
      cases t with
      | false => exact h2
      | true =>
        simp only [if_true] at h2
        unfold wpS at h2
        simp only
        cases hb : body e1 with
        | bad => rw [hb] at h2; exact h2
        | err _ _ => rw [hb] at h2; exact h2
        | ok p =>
          obtain ⟨f, e2⟩ := p
          rw [hb] at h2
          cases f with
          | nx => obtain ⟨k, hk, hI2⟩ := h2; have := ih k e2 (by omega) hI2; unfold wpS at this; exact this
          | ct => obtain ⟨k, hk, hI2⟩ := h2; have := ih k e2 (by omega) hI2; unfold wpS at this; exact this
          | bk => exact h2
          | rt v => exact h2
end
end G
set_option Elab.async false
set_option linter.all false
set_option maxRecDepth 100000
set_option maxHeartbeats 4000000
namespace G
open L2 (atI ixN)
local macro_rules
  | `(tactic| congr) => `(tactic| first | refine post_k ?_ | refine need_k ?_ | refine needI_k ?_ | refine needB_k ?_ | refine wpP_k ?_ | refine wpE_k ?_ | refine wpS_k ?_ | refine wpA_k ?_ | refine wpI_k ?_ | refine wpF_k ?_ | congr 50)
variable {X : EX}
noncomputable def itemsOf : D → Option (List D)
  | .lst ds => some ds
  | .tup ds => some ds
  | .str x => some (chars x)
  | _ => none
noncomputable def enumOf : D → Option (List D)
  | .lst ds => some (enumL 0 ds)
  | .str x => some (enumL 0 (chars x))
  | _ => none
section
variable {s : Slot} {r : Env} {Q : List D → Env → Prop} {a b c : Den}
theorem wpI_seq : wpI X (iSeq a) (s :: r) Q = wpE X a (s :: r) fun v e => need (fz v e) fun q => need (itemsOf q.1) fun ds => Q ds q.2 := by
  unfold wpI wpE iSeq
  rw [post_bind]
  congr; funext v e
  simp only
  cases fz v e with
  | none => rfl
  | some q =>
    obtain ⟨d, e1⟩ := q
    cases d <;> rfl
theorem wpI_enum : wpI X (iEnum' a) (s :: r) Q = wpE X a (s :: r) fun v e => need (fz v e) fun q => need (enumOf q.1) fun ds => Q ds q.2 := by
  unfold wpI wpE iEnum'
  rw [post_bind]
  congr; funext v e
  simp only
  cases fz v e with
  | none => rfl
  | some q =>
    obtain ⟨d, e1⟩ := q
    cases d <;> rfl
theorem post_int {k : Int → Env → R Env (List D × Env)} {e : Env} : post X (iInt a k e) Q = wpE X a e fun v e1 => needI (rd v e1) fun i => post X (k i e1) Q := by
  unfold wpE iInt
  rw [post_bind]
  congr; funext v e1
  simp only
  cases rd v e1 with
  | none => rfl
  | some x => cases x <;> rfl
theorem wpI_r1 : wpI X (iR1 a) (s :: r) Q = wpE X a (s :: r) fun v e => needI (rd v e) fun j => (-BIG ≤ j ∧ j < BIG) ∧ Q (rng 0 1 j.toNat) e := by
  unfold wpI iR1
  rw [post_int]
  congr; funext v e; congr; funext j
  rw [post_if]
  by_cases h : -BIG ≤ j ∧ j < BIG
  · rw [if_pos h]; simp only [h, true_and]; rfl
  · rw [if_neg h]; simp [h, post]
end
theorem rng_len (lo c : Int) (n : Nat) : (rng lo c n).length = n := by simp [rng]
theorem rng_get {lo c : Int} {n i : Nat} {d : D} (h : (rng lo c n)[i]? = some d) : i < n ∧ d = .int (lo + i * c) := by
  have hi : i < n := by
    have := (List.getElem?_eq_some_iff.mp h).1
    rwa [rng_len] at this
  refine ⟨hi, ?_⟩
  unfold rng at h
  rw [List.getElem?_map, List.getElem?_range hi] at h
  exact (Option.some.inj h).symm
section
variable {s : Slot} {r : Env} {td : TDen} {c el : Den} {vs : List Nat}
theorem wpE_lc {src : IDen} {Q : Val → Env → Prop} : wpE X (dLc src td c el vs) (s :: r) Q = wpI X src (s :: r) fun ds e1 => (plainAt e1 vs = true ∧ ds.length ≤ LINE) ∧ post XF (lcL td c el vs ds (wipeE e1 vs)) fun l e2 => Q (.ow (.lst l)) (back e1 e2 vs) := by
  unfold wpE wpI dLc
  rw [post_bind]
  congr; funext ds e1
  rw [post_if]
  by_cases h : plainAt e1 vs = true ∧ ds.length ≤ LINE
  · rw [if_pos h]
    simp only [h, true_and]
    cases lcL td c el vs ds (wipeE e1 vs) <;> rfl
  · rw [if_neg h]; simp only [h, false_and]; rfl
noncomputable def turnQ (c el : Den) (vs : List Nat) (e1 : Env) (K : List D → Env → Prop) : Prop := wpE XF c e1 fun v e2 => need (tru v e2) fun b => if b = true then wpE XF el e2 (fun u e3 => need (fz u e3) fun q => K [q.1] (wipeE q.2 vs)) else K [] (wipeE e2 vs)
theorem post_lcT {rest : Env → R Env (List D × Env)} {d : D} {env : Env} {Q : List D → Env → Prop} : post XF (lcT td c el vs rest d env) Q = need (td d env) fun e1 => turnQ c el vs e1 fun g e2 => post XF (rest e2) fun l e3 => Q (g ++ l) e3 := by
  unfold lcT turnQ
  rw [post_opt]
  congr; funext e1
  unfold wpE
  cases c e1 with
  | bad => rfl
  | err _ _ => rfl
  | ok p =>
    obtain ⟨v, e2⟩ := p
    show post XF (opt (tru v e2) _) Q = need (tru v e2) _
    rw [post_opt]
    congr; funext b
    cases b with
    | true =>
      simp only [if_true]
      cases el e2 with
      | bad => rfl
      | err _ _ => rfl
      | ok p =>
        obtain ⟨u, e3⟩ := p
        show post XF (opt (fz u e3) _) Q = need (fz u e3) _
        rw [post_opt]
        congr; funext q
        cases rest (wipeE q.2 vs) <;> rfl
    | false =>
      simp only [Bool.false_eq_true, if_false]
      rfl
theorem wp_lcL {ds : List D} {env : Env} {Q : List D → Env → Prop} (I : Nat → List D → Env → Prop) (h0 : I 0 [] env) (hn : ∀ acc e, I ds.length acc e → Q acc e)
    (hs : ∀ i d acc e, ds[i]? = some d → I i acc e → need (td d e) fun e1 => turnQ c el vs e1 fun g e2 => I (i + 1) (acc ++ g) e2) : post XF (lcL td c el vs ds env) Q := by
  have key : ∀ (l : List D) (k : Nat) (acc : List D) (e : Env), (∀ i, ds[k + i]? = l[i]?) → k + l.length = ds.length → I k acc e → post XF (lcL td c el vs l e) fun g e2 => Q (acc ++ g) e2 := by
    intro l
    induction l with
    | nil =>
      intro k acc e hl hk hI
      show Q (acc ++ []) e
      rw [List.append_nil]
      exact hn acc e (by rw [← hk]; exact hI)
    | cons d l ih =>
      intro k acc e hl hk hI
      have h1 := hs k d acc e (by rw [show k = k + 0 from rfl, hl 0] <;> rfl) hI
      rw [lcL, post_lcT]
      cases ht : td d e with
      | none => rw [ht] at h1; exact h1
      | some e1 =>
        rw [ht] at h1
        simp only [need_some] at h1 ⊢
        have nx : ∀ g e2, I (k + 1) (acc ++ g) e2 → post XF (lcL td c el vs l e2) fun g' e3 => Q (acc ++ (g ++ g')) e3 := fun g e2 hI2 => by
          have := ih (k + 1) (acc ++ g) e2 (fun i => by rw [show k + 1 + i = k + (i + 1) by omega, hl (i + 1)]; simp) (by rw [List.length_cons] at hk; omega) hI2
          simpa [List.append_assoc] using this
        unfold turnQ at h1 ⊢
        refine wpE_mono h1 fun v e2 h2 => ?_
        cases htr : tru v e2 with
        | none => rw [htr] at h2; exact h2
        | some b =>
          rw [htr] at h2
          simp only [need_some] at h2 ⊢
          cases b with
          | true =>
            simp only [if_true] at h2 ⊢
            refine wpE_mono h2 fun u e3 h3 => ?_
            cases hf : fz u e3 with
            | none => rw [hf] at h3; exact h3
            | some q => rw [hf] at h3; exact nx _ _ h3
          | false =>
            simp only [Bool.false_eq_true, if_false] at h2 ⊢
            exact nx _ _ h2
  have := key ds 0 [] env (fun i => by rw [Nat.zero_add]) (by rw [Nat.zero_add]) h0
  simpa using this
theorem wpE_lcN_im {j : Nat} {env : Env} {Q : Val → Env → Prop} (h : isIm j env = true) : wpE X (dLcN j td c el vs) env Q = wpE X (dLc (iSeq (dName j)) td c el vs) env Q := by
  unfold wpE dLcN
  rw [if_pos h]
end
theorem fEq_int (i j : Int) : fEq (.int i) (.int j) = some (.im (.bl (decide (i = j)))) := by
  have : (i == j) = decide (i = j) := rfl
  simp [fEq, eqOk, eqD, this]
theorem fNe_int (i j : Int) : fNe (.int i) (.int j) = some (.im (.bl (!decide (i = j)))) := by
  have : (i == j) = decide (i = j) := rfl
  simp [fNe, eqOk, eqD, this]
theorem fEq_str (x y : List Nat) : fEq (.str x) (.str y) = some (.im (.bl (decide (x = y)))) := by
  have : (x == y) = decide (x = y) := by by_cases h : x = y <;> simp [h]
  simp [fEq, eqOk, eqD, this]
theorem fNe_str (x y : List Nat) : fNe (.str x) (.str y) = some (.im (.bl (!decide (x = y)))) := by
  have : (x == y) = decide (x = y) := by by_cases h : x = y <;> simp [h]
  simp [fNe, eqOk, eqD, this]
noncomputable def stOk : Option Slot → Bool
  | some .no => true
  | some (.im _) => true
  | some (.ow _) => true
  | _ => false
theorem stOk_no : stOk (some .no) = true := rfl
theorem stOk_im (d : D) : stOk (some (.im d)) = true := rfl
theorem stOk_ow (d : D) : stOk (some (.ow d)) = true := rfl
theorem store_im (i : Nat) (d : D) (env : Env) : store i (.im d) env = if stOk env[i]? = true then some (env.set i (.im d)) else none := by
  unfold store
  cases env[i]? with
  | none => rfl
  | some t => cases t <;> rfl
theorem store_ow (i : Nat) (d : D) (env : Env) : store i (.ow d) env = if stOk env[i]? = true then some (env.set i (.ow d)) else none := by
  unfold store
  cases env[i]? with
  | none => rfl
  | some t => cases t <;> rfl
noncomputable def storeL (i j : Nat) (env : Env) : Option Slot → Option Env
  | some (.im d) => some (env.set i (.im d))
  | some (.ow d) => some ((env.set j (.im d)).set i (.im d))
  | _ => none
theorem store_loc (i j : Nat) (env : Env) : store i (.loc j) env = if stOk env[i]? = true then storeL i j env env[j]? else none := by
  unfold store
  cases h : env[i]? with
  | none => rfl
  | some t => cases t with
    | io d => rfl
    | _ =>
      simp only [stOk, if_true]
      cases env[j]? with
      | none => rfl
      | some u => cases u <;> rfl
theorem storeL_im (i j : Nat) (env : Env) (d : D) : storeL i j env (some (.im d)) = some (env.set i (.im d)) := rfl
theorem storeL_ow (i j : Nat) (env : Env) (d : D) : storeL i j env (some (.ow d)) = some ((env.set j (.im d)).set i (.im d)) := rfl
theorem tgName_st (i : Nat) (d : D) (env : Env) : tgName i d env = if stOk env[i]? = true then some (env.set i (.im d)) else none := by
  unfold tgName
  cases env[i]? with
  | none => rfl
  | some t => cases t <;> rfl
theorem tgTup_two (u : TDens) (x y : D) (env : Env) : tgTup 2 u (.tup [x, y]) env = u [x, y] env := rfl
theorem tgCons_cons (t : TDen) (u : TDens) (d : D) (ds : List D) (env : Env) : tgCons t u (d :: ds) env = (t d env).bind (u ds) := rfl
theorem tgNil_nil (env : Env) : tgNil [] env = some env := rfl
theorem wp_whileP {cd : Den} {body : SDen} {Q : Fl → Env → Prop} (I : Nat → Env → Prop)
    (hs : ∀ m e, I m e → ∃ t, wpE X cd e (fun v e1 => v = .im (.bl t) ∧ e1 = e) ∧ (t = true → wpS X body e fun f e2 => match f with
      | .nx => ∃ k, k < m ∧ I k e2
      | .ct => ∃ k, k < m ∧ I k e2
      | .bk => Q .nx e2
      | .rt v => Q (.rt v) e2) ∧ (t = false → Q .nx e)) (n m : Nat) (e : Env) (hm : m < n) (h : I m e) : wpS X (sWhile cd body n) e Q :=
  wp_while I (fun m e hI => by
    obtain ⟨t, h1, h2, h3⟩ := hs m e hI
    refine wpE_mono h1 fun v e1 h => ?_
    obtain ⟨rfl, rfl⟩ := h
    simp only [tru, rd, need_some]
    cases t with
    | true => exact h2 rfl
    | false => exact h3 rfl) n m e hm h
theorem wpS_ifP {c : Den} {a b : SDen} {s : Slot} {r : Env} {Q : Fl → Env → Prop} (t : Bool) (h : wpE X c (s :: r) fun v e => v = .im (.bl t) ∧ e = s :: r) (h1 : t = true → wpS X a (s :: r) Q) (h2 : t = false → wpS X b (s :: r) Q) : wpS X (sIf c a b) (s :: r) Q := by
  rw [wpS_if]
  refine wpE_mono h fun v e h => ?_
  obtain ⟨rfl, rfl⟩ := h
  simp only [tru, rd, need_some]
  cases t with
  | true => exact h1 rfl
  | false => exact h2 rfl
theorem fNotIn_one (c : Nat) (y : List Nat) : fNotIn (.str [c]) (.str y) = some (.im (.bl (!decide (c ∈ y)))) := rfl
end G
set_option Elab.async false
set_option linter.all false
set_option maxRecDepth 100000
set_option maxHeartbeats 4000000
namespace G
open L2 (atI ixN)
local macro_rules
  | `(tactic| congr) => `(tactic| first | refine post_k ?_ | refine need_k ?_ | refine needI_k ?_ | refine needB_k ?_ | refine wpP_k ?_ | refine wpE_k ?_ | refine wpS_k ?_ | refine wpA_k ?_ | refine wpI_k ?_ | refine wpF_k ?_ | congr 50)
variable {X : EX}
noncomputable def dropK (is : List Nat) (Q : Fl → Env → Prop) : Fl → Env → Prop
  | .rt v, e => Q (.rt v) e
  | f, e => Q f (wipeE e is)
theorem dropK_rt (is : List Nat) (Q : Fl → Env → Prop) (v : Val) (e : Env) : dropK is Q (.rt v) e = Q (.rt v) e := propext Iff.rfl
theorem dropK_nx (is : List Nat) (Q : Fl → Env → Prop) (e : Env) : dropK is Q .nx e = Q .nx (wipeE e is) := propext Iff.rfl
theorem dropK_bk (is : List Nat) (Q : Fl → Env → Prop) (e : Env) : dropK is Q .bk e = Q .bk (wipeE e is) := propext Iff.rfl
theorem dropK_ct (is : List Nat) (Q : Fl → Env → Prop) (e : Env) : dropK is Q .ct e = Q .ct (wipeE e is) := propext Iff.rfl
theorem wpS_drop {s : Slot} {r : Env} {is : List Nat} {d : SDen} {Q : Fl → Env → Prop} : wpS X (sDrop is d) (s :: r) Q = wpS X d (s :: r) (dropK is Q) := by
  unfold wpS sDrop
  cases d (s :: r) with
  | ok p => obtain ⟨f, e⟩ := p; cases f <;> rfl
  | err _ _ => rfl
  | bad => rfl
theorem wipeE_nil (env : Env) : wipeE env [] = env := rfl
theorem wipeE_cons (env : Env) (v : Nat) (vs : List Nat) : wipeE env (v :: vs) = (wipeE env vs).set v .no := rfl
theorem itemsD_eq (d : D) : itemsD d = itemsOf d := by cases d <;> rfl
theorem wpI_zip {a b : Den} {s : Slot} {r : Env} {Q : List D → Env → Prop} : wpI X (iZip a b) (s :: r) Q = wpE X a (s :: r) fun v e => need (fz v e) fun q => wpE X b q.2 fun v2 e2 => need (fz v2 e2) fun q2 => need (itemsOf q.1) fun ds => need (itemsOf q2.1) fun es => Q (zipL ds es) q2.2 := by
  unfold wpI wpE iZip
  rw [post_bind]
  congr; funext v e
  cases fz v e with
  | none => rfl
  | some q =>
    obtain ⟨d, e1⟩ := q
    simp only
    rw [post_bind, need_some]
    congr; funext v2 e2
    simp only
    cases fz v2 e2 with
    | none => rfl
    | some q2 =>
      obtain ⟨d2, e3⟩ := q2
      simp only [itemsD_eq, need_some]
      cases itemsOf d with
      | none => rfl
      | some ds => cases itemsOf d2 with
        | none => rfl
        | some es => rfl
noncomputable def nxt (I : Env → Prop) (Q : Fl → Env → Prop) : Fl → Env → Prop
  | .nx, e => I e
  | .ct, e => I e
  | .bk, e => Q .nx e
  | .rt v, e => Q (.rt v) e
theorem nxt_nx (I : Env → Prop) (Q : Fl → Env → Prop) (e : Env) : nxt I Q .nx e = I e := propext Iff.rfl
theorem nxt_ct (I : Env → Prop) (Q : Fl → Env → Prop) (e : Env) : nxt I Q .ct e = I e := propext Iff.rfl
theorem nxt_bk (I : Env → Prop) (Q : Fl → Env → Prop) (e : Env) : nxt I Q .bk e = Q .nx e := propext Iff.rfl
theorem nxt_rt (I : Env → Prop) (Q : Fl → Env → Prop) (v : Val) (e : Env) : nxt I Q (.rt v) e = Q (.rt v) e := propext Iff.rfl
theorem wp_for {td : TDen} {body : SDen} {ds : List D} {env : Env} {Q : Fl → Env → Prop} (I : Nat → Env → Prop) (h0 : I 0 env) (hn : ∀ e, I ds.length e → Q .nx e)
    (hs : ∀ i d e, ds[i]? = some d → I i e → ∀ K : Env → Prop, (∀ e, I (i + 1) e → K e) → need (td d e) fun e1 => wpS X body e1 (nxt K Q)) : wpS X (sForL td body ds) env Q :=
  wp_forL I h0 hn fun i d e hd hI => by
    have h := hs i d e hd hI _ fun e h => h
    cases ht : td d e with
    | none => rw [ht] at h; exact h
    | some e1 =>
      rw [ht] at h
      simp only [need_some] at h ⊢
      exact wpS_mono h fun f e2 q => by cases f <;> exact q
theorem wp_forK {td : TDen} {body : SDen} {ds : List D} {env : Env} {Q : Fl → Env → Prop} (hn : Q .nx env)
    (hs : ∀ d, d ∈ ds → ∀ K : Env → Prop, K env → need (td d env) fun e1 => wpS X body e1 (nxt K Q)) : wpS X (sForL td body ds) env Q :=
  wp_for (fun _ e => e = env) rfl (fun e h => by rw [h]; exact hn) fun i d e hd h K hK => by
    rw [h]; exact hs d (List.mem_of_getElem? hd) K (hK env rfl)
theorem chars_map (x : List Nat) : chars x = x.map fun c => D.str [c] := rfl
theorem turnQ_mono {c el : Den} {vs : List Nat} {e1 : Env} {K K' : List D → Env → Prop} (hk : ∀ g e, K g e → K' g e) (hq : turnQ c el vs e1 K) : turnQ c el vs e1 K' := by
  unfold turnQ at hq ⊢
  refine wpE_mono hq fun v e2 h2 => ?_
  cases htr : tru v e2 with
  | none => rw [htr] at h2; exact h2
  | some b =>
    rw [htr] at h2
    simp only [need_some] at h2 ⊢
    cases b with
    | true =>
      simp only [if_true] at h2 ⊢
      refine wpE_mono h2 fun u e3 h3 => ?_
      cases hf : fz u e3 with
      | none => rw [hf] at h3; exact h3
      | some q => rw [hf] at h3; exact hk _ _ h3
    | false =>
      simp only [Bool.false_eq_true, if_false] at h2 ⊢
      exact hk _ _ h2
theorem wp_lcM {α : Type} {td : TDen} {c el : Den} {vs : List Nat} {inj : α → D} {xs : List α} {env : Env} {Q : List D → Env → Prop} (f : α → List D)
    (hs : ∀ x, x ∈ xs → need (td (inj x) env) fun e1 => turnQ c el vs e1 fun g e2 => g = f x ∧ e2 = env) (q : Q (xs.flatMap f) env) : post XF (lcL td c el vs (xs.map inj) env) Q := by
  refine wp_lcL (fun i acc e => acc = (xs.take i).flatMap f ∧ e = env) ⟨rfl, rfl⟩ (fun acc e h => ?_) fun i d acc e hd h => ?_
  · rw [List.length_map, List.take_length] at h
    rw [h.1, h.2]
    exact q
  · rw [List.getElem?_map] at hd
    cases hx : xs[i]? with
    | none => rw [hx] at hd; cases hd
    | some x =>
      rw [hx] at hd
      cases hd
      have e1 : xs.take (i + 1) = xs.take i ++ [x] := by rw [List.take_add_one, hx]; rfl
      have z := hs x (List.mem_of_getElem? hx)
      rw [h.2]
      cases ht : td (inj x) env with
      | none => rw [ht] at z; exact z
      | some e1' =>
        rw [ht] at z
        simp only [need_some] at z ⊢
        refine turnQ_mono (fun g e2 hg => ?_) z
        rw [e1, List.flatMap_append, h.1, hg.1, hg.2]
        exact ⟨by simp, rfl⟩
theorem turnQ_def {c el : Den} {vs : List Nat} {s : Slot} {r : Env} {K : List D → Env → Prop} : turnQ c el vs (s :: r) K = wpE XF c (s :: r) fun v e2 => need (tru v e2) fun b => if b = true then wpE XF el e2 (fun u e3 => need (fz u e3) fun q => K [q.1] (wipeE q.2 vs)) else K [] (wipeE e2 vs) := propext Iff.rfl
theorem wpE_yes {s : Slot} {r : Env} {Q : Val → Env → Prop} : wpE X dYes (s :: r) Q = Q (.im (.bl true)) (s :: r) := by unfold wpE; exact propext Iff.rfl
theorem cOf_none : cOf none = dYes := rfl
theorem cOf_some (d : Den) : cOf (some d) = d := rfl
theorem wp_whileT {cd : Den} {body : SDen} {Q : Fl → Env → Prop} (I : Nat → Env → Prop)
    (hs : ∀ m e, I m e → ∃ t, wpE X cd e (fun v e1 => v = .im (.bl t) ∧ e1 = e) ∧ (t = true → ∀ K : Env → Prop, (∀ k e, k < m → I k e → K e) → wpS X body e (nxt K Q)) ∧ (t = false → Q .nx e)) (n m : Nat) (e : Env) (hm : m < n) (h : I m e) : wpS X (sWhile cd body n) e Q :=
  wp_whileP I (fun m e hI => by
    obtain ⟨t, h1, h2, h3⟩ := hs m e hI
    exact ⟨t, h1, fun ht => wpS_mono (h2 ht (fun e => ∃ k, k < m ∧ I k e) fun k e hk hI => ⟨k, hk, hI⟩) fun f e2 q => by cases f <;> exact q, h3⟩) n m e hm h
theorem tgTup_three (u : TDens) (x y z : D) (env : Env) : tgTup 3 u (.tup [x, y, z]) env = u [x, y, z] env := rfl
theorem fLenL (ds : List D) : fLen (.lst ds) = some (.im (.int ds.length)) := rfl
theorem fLenT (ds : List D) : fLen (.tup ds) = some (.im (.int ds.length)) := rfl
end G
set_option Elab.async false
set_option linter.all false
set_option maxRecDepth 100000
set_option maxHeartbeats 4000000
namespace G
noncomputable abbrev BR : List Nat := [40, 41, 91, 93, 123, 125, 60, 62]
noncomputable def sgs (k : Nat) : List Nat := BR.take (2 * k) ++ [63]
noncomputable def brs (k : Nat) : List Nat := BR.take (2 * k)
noncomputable def rowOk (k : Nat) (row : List Nat) : Prop := ∀ c ∈ row, c ∈ sgs k
noncomputable instance (k : Nat) (row : List Nat) : Decidable (rowOk k row) := inferInstanceAs (Decidable (∀ c ∈ row, c ∈ sgs k))
noncomputable def isOp (c : Nat) : Bool := decide (c ∈ [40, 91, 123, 60])
noncomputable def oth (c : Nat) : Nat := if c = 40 then 41 else if c = 41 then 40 else if c = 91 then 93 else if c = 93 then 91 else if c = 123 then 125 else if c = 125 then 123 else if c = 60 then 62 else 60
noncomputable def opc (i : Nat) : Nat := [40, 91, 123, 60].getD i 40
noncomputable def clc (i : Nat) : Nat := [41, 93, 125, 62].getD i 41
theorem br_cases {c : Nat} (h : c ∈ BR) {P : Nat → Prop} (h1 : P 40) (h2 : P 41) (h3 : P 91) (h4 : P 93) (h5 : P 123) (h6 : P 125) (h7 : P 60) (h8 : P 62) : P c := by
  simp only [BR, List.mem_cons, List.not_mem_nil, or_false] at h
  rcases h with rfl | rfl | rfl | rfl | rfl | rfl | rfl | rfl <;> assumption
theorem op_cases {c : Nat} (h : isOp c = true) {P : Nat → Prop} (h1 : P 40) (h3 : P 91) (h5 : P 123) (h7 : P 60) : P c := by
  have h := of_decide_eq_true h
  simp only [List.mem_cons, List.not_mem_nil, or_false] at h
  rcases h with rfl | rfl | rfl | rfl <;> assumption
theorem k_cases {k : Nat} (hk : 1 ≤ k) (hk4 : k ≤ 4) {P : Nat → Prop} (h1 : P 1) (h2 : P 2) (h3 : P 3) (h4 : P 4) : P k := by
  have : k = 1 ∨ k = 2 ∨ k = 3 ∨ k = 4 := by omega
  rcases this with rfl | rfl | rfl | rfl <;> assumption
theorem i_cases {i : Nat} (hk4 : i < 4) {P : Nat → Prop} (h0 : P 0) (h1 : P 1) (h2 : P 2) (h3 : P 3) : P i := by
  have : i = 0 ∨ i = 1 ∨ i = 2 ∨ i = 3 := by omega
  rcases this with rfl | rfl | rfl | rfl <;> assumption
theorem op_br {c : Nat} (h : isOp c = true) : c ∈ BR := op_cases h (P := fun c => c ∈ BR) (by decide) (by decide) (by decide) (by decide)
theorem oth_op {c : Nat} (h : isOp c = true) : isOp (oth c) = false := op_cases h (P := fun c => isOp (oth c) = false) rfl rfl rfl rfl
theorem oth_oth {c : Nat} (h : c ∈ BR) : oth (oth c) = c := br_cases h (P := fun c => oth (oth c) = c) rfl rfl rfl rfl rfl rfl rfl rfl
theorem oth_br {c : Nat} (h : c ∈ BR) : oth c ∈ BR := br_cases h (P := fun c => oth c ∈ BR) (by decide) (by decide) (by decide) (by decide) (by decide) (by decide) (by decide) (by decide)
theorem opc_op {i : Nat} (h : i < 4) : isOp (opc i) = true := i_cases h (P := fun i => isOp (opc i) = true) rfl rfl rfl rfl
theorem oth_opc {i : Nat} (h : i < 4) : oth (opc i) = clc i := i_cases h (P := fun i => oth (opc i) = clc i) rfl rfl rfl rfl
theorem sgs_lt {k c : Nat} (h : c ∈ sgs k) : c ∈ BR ∨ c = 63 := by
  unfold sgs at h
  rw [List.mem_append, List.mem_singleton] at h
  exact h.imp (fun h => List.mem_of_mem_take h) id
theorem sgs_code {k c : Nat} (h : c ∈ sgs k) : c < 1114112 := by
  rcases sgs_lt h with h | rfl
  · exact br_cases h (P := fun c => c < 1114112) (by decide) (by decide) (by decide) (by decide) (by decide) (by decide) (by decide) (by decide)
  · decide
theorem sgs_more {k k' c : Nat} (h : c ∈ sgs k) (hk : k ≤ k') : c ∈ sgs k' := by
  unfold sgs at h ⊢
  rw [List.mem_append] at h ⊢
  refine h.imp (fun h => ?_) id
  have : BR.take (2 * k) = (BR.take (2 * k')).take (2 * k) := by rw [List.take_take]; congr 1; omega
  rw [this] at h
  exact List.mem_of_mem_take h
theorem rowOk.more {k k' : Nat} {row : List Nat} (h : rowOk k row) (hk : k ≤ k') : rowOk k' row := fun c hc => sgs_more (h c hc) hk
theorem opc_sgs {k i : Nat} (hi : i < k) (hk : k ≤ 4) : opc i ∈ sgs k ∧ clc i ∈ sgs k := by
  refine k_cases (k := k) (by omega) hk (P := fun k => i < k → opc i ∈ sgs k ∧ clc i ∈ sgs k) ?_ ?_ ?_ ?_ hi
  · intro h; obtain rfl : i = 0 := by omega
    decide
  · intro h; have : i = 0 ∨ i = 1 := by omega
    rcases this with rfl | rfl <;> decide
  · intro h; have : i = 0 ∨ i = 1 ∨ i = 2 := by omega
    rcases this with rfl | rfl | rfl <;> decide
  · intro h; exact i_cases h (P := fun i => opc i ∈ sgs 4 ∧ clc i ∈ sgs 4) (by decide) (by decide) (by decide) (by decide)
inductive RR : List Nat → Prop
  | nil : RR []
  | cat {c : Nat} {x y : List Nat} (hc : isOp c = true) (hx : RR x) (hy : RR y) : RR (c :: (x ++ oth c :: y))
theorem RR.app {x y : List Nat} (h : RR x) (h' : RR y) : RR (x ++ y) := by
  induction h with
  | nil => exact h'
  | cat hc hx _ _ ih => rw [List.cons_append, List.append_assoc, List.cons_append]; exact RR.cat hc hx ih
theorem RR.br {x : List Nat} (h : RR x) : ∀ c ∈ x, c ∈ BR := by
  induction h with
  | nil => intro c hc; simp at hc
  | cat hc _ _ h1 h2 =>
    intro c' hc'
    simp only [List.mem_cons, List.mem_append] at hc'
    rcases hc' with rfl | h | rfl | h
    · exact op_br hc
    · exact h1 _ h
    · exact oth_br (op_br hc)
    · exact h2 _ h
noncomputable def stp : Option (List Nat) → Nat → Option (List Nat)
  | none, _ => none
  | some st, c => if isOp c = true then some (oth c :: st) else match st with
    | t :: st' => if c = t then some st' else none
    | [] => none
noncomputable def run (st : List Nat) (row : List Nat) : Option (List Nat) := row.foldl stp (some st)
theorem stp_none (x : List Nat) : x.foldl stp none = none := by
  induction x with
  | nil => rfl
  | cons c x ih => exact ih
theorem run_op {c : Nat} (h : isOp c = true) (st x : List Nat) : run st (c :: x) = run (oth c :: st) x := by
  unfold run; rw [List.foldl_cons]; simp only [stp, h, if_true]
theorem run_cl {c : Nat} (h : isOp c = false) (st x : List Nat) : run (c :: st) (c :: x) = run st x := by
  unfold run; rw [List.foldl_cons]; simp [stp, h]
theorem run_no {c : Nat} (h : isOp c = false) {st : List Nat} (hs : ∀ s, st ≠ c :: s) (x : List Nat) : run st (c :: x) = none := by
  unfold run; rw [List.foldl_cons]
  cases st with
  | nil => simp [stp, h, stp_none]
  | cons t s =>
    have : c ≠ t := fun e => hs s (by rw [e])
    simp [stp, h, this, stp_none]
theorem run_app (st x y : List Nat) : run st (x ++ y) = (run st x).bind fun s => run s y := by
  unfold run
  rw [List.foldl_append]
  cases List.foldl stp (some st) x with
  | none => exact stp_none y
  | some s => rfl
theorem RR.run {x : List Nat} (h : RR x) : ∀ st : List Nat, G.run st x = some st := by
  induction h with
  | nil => exact fun st => rfl
  | cat hc hx hy h1 h2 =>
    intro st
    rw [run_op hc, run_app, h1, Option.bind_some, run_cl (oth_op hc), h2]
noncomputable def Dec : List Nat → List Nat → Prop
  | [], row => RR row
  | t :: st, row => ∃ x y, RR x ∧ row = x ++ t :: y ∧ Dec st y
theorem dec_run : ∀ (row st : List Nat), run st row = some [] → Dec st row
  | [], st, h => by cases h; exact RR.nil
  | c :: row, st, h => by
    by_cases hc : isOp c = true
    · rw [run_op hc] at h
      obtain ⟨x, y, hx, rfl, hd⟩ := dec_run row _ h
      cases st with
      | nil => exact RR.cat hc hx hd
      | cons t st =>
        obtain ⟨x', y', h1, rfl, h2⟩ := hd
        exact ⟨c :: (x ++ oth c :: x'), y', RR.cat hc hx h1, by simp, h2⟩
    · have hc : isOp c = false := by simpa using hc
      by_cases hs : ∃ s, st = c :: s
      · obtain ⟨s, rfl⟩ := hs
        rw [run_cl hc] at h
        exact ⟨[], row, RR.nil, rfl, dec_run row s h⟩
      · rw [run_no hc fun s e => hs ⟨s, e⟩] at h
        cases h
theorem rr_iff (row : List Nat) : RR row ↔ run [] row = some [] := ⟨fun h => h.run [], fun h => dec_run row [] h⟩
inductive Par : List Nat → List Nat → Prop
  | nil : Par [] []
  | cat {c : Nat} {x y f g : List Nat} (hc : isOp c = true) (hx : Par x f) (hy : Par y g) : Par (c :: (x ++ oth c :: y)) ((f.length + 1) :: (f.map (· + 1) ++ 0 :: g.map (· + (f.length + 2))))
theorem Par.len {x f : List Nat} (h : Par x f) : f.length = x.length := by
  induction h with
  | nil => rfl
  | cat _ _ _ h1 h2 => simp only [List.length_cons, List.length_append, List.length_map, h1, h2]
theorem Par.rr {x f : List Nat} (h : Par x f) : RR x := by
  induction h with
  | nil => exact .nil
  | cat hc _ _ h1 h2 => exact RR.cat hc h1 h2
theorem RR.par {x : List Nat} (h : RR x) : ∃ f, Par x f := by
  induction h with
  | nil => exact ⟨[], .nil⟩
  | cat hc _ _ h1 h2 => obtain ⟨f, h1⟩ := h1; obtain ⟨g, h2⟩ := h2; exact ⟨_, Par.cat hc h1 h2⟩
theorem map_add_add (l : List Nat) (a b : Nat) : (l.map (· + a)).map (· + b) = l.map (· + (a + b)) := by
  rw [List.map_map]; congr 1; funext n; simp [Nat.add_assoc]
theorem Par.app {x y f g : List Nat} (h : Par x f) (h' : Par y g) : Par (x ++ y) (f ++ g.map (· + f.length)) := by
  induction h with
  | nil => simpa using h'
  | @cat c x y' f' g' hc hx hy _ ih =>
    have := Par.cat hc hx ih
    rw [List.cons_append, List.append_assoc, List.cons_append]
    refine (congrArg (Par _) ?_).mp this
    simp only [List.map_append, map_add_add, List.cons_append, List.append_assoc, List.length_cons, List.length_append, List.length_map]
    congr 4
    refine congrArg (fun n => List.map (fun x => x + n) g) ?_
    omega
noncomputable def pst (row : List Nat) : Option (List Nat × List Nat) → Nat → Option (List Nat × List Nat)
  | none, _ => none
  | some (f, st), p => if row.getD p 63 = 63 then none else if isOp (row.getD p 63) = true then some (f, p :: st) else match st with
    | [] => none
    | q :: st' => if row.getD q 63 = oth (row.getD p 63) then some ((f.set p q).set q p, st') else none
noncomputable def pfold (row : List Nat) : Option (List Nat × List Nat) := (List.range row.length).foldl (pst row) (some (List.replicate row.length 0, []))
theorem par_go {x f : List Nat} (h : Par x f) : ∀ (row a b fd st : List Nat), row = a ++ x ++ b → fd.length = row.length → ∃ fd', (List.range' a.length x.length).foldl (pst row) (some (fd, st)) = some (fd', st) ∧ fd'.length = fd.length ∧
    (∀ i, i < a.length ∨ a.length + x.length ≤ i → fd'[i]? = fd[i]?) ∧ ∀ i, i < x.length → fd'[a.length + i]? = (f[i]?).map (· + a.length) := by
  induction h with
  | nil => exact fun row a b fd st _ _ => ⟨fd, rfl, rfl, fun _ _ => rfl, fun i hi => by simp at hi⟩
  | @cat c x y f g hc hx hy ih1 ih2 =>
    intro row a b fd st hr hl
    have e1 : List.range' a.length (c :: (x ++ oth c :: y)).length = a.length :: (List.range' (a ++ [c]).length x.length ++ (a.length + 1 + x.length) :: List.range' (a ++ [c] ++ x ++ [oth c]).length y.length) := by
      simp only [List.length_cons, List.length_append, List.length_nil]
      rw [show x.length + (y.length + 1) + 1 = 1 + (x.length + (1 + y.length)) by omega, ← List.range'_append_1, ← List.range'_append_1, ← List.range'_append_1]
      simp [List.range'_one, Nat.add_assoc]
    have r1 : row = (a ++ [c]) ++ x ++ (oth c :: y ++ b) := by rw [hr]; simp
    have r2 : row = (a ++ [c] ++ x ++ [oth c]) ++ y ++ b := by rw [hr]; simp
    have g1 : row.getD a.length 63 = c := by rw [hr]; simp
    have g2 : row.getD (a.length + 1 + x.length) 63 = oth c := by
      have : row = (a ++ [c] ++ x) ++ oth c :: (y ++ b) := by rw [hr]; simp
      rw [this, show a.length + 1 + x.length = (a ++ [c] ++ x).length by simp; omega]
      simp
    have c63 : c ≠ 63 := op_cases hc (P := fun c => c ≠ 63) (by decide) (by decide) (by decide) (by decide)
    have o63 : oth c ≠ 63 := op_cases hc (P := fun c => oth c ≠ 63) (by decide) (by decide) (by decide) (by decide)
    obtain ⟨f1, q1, l1, q2, q3⟩ := ih1 row (a ++ [c]) _ fd (a.length :: st) r1 hl
    have hlen : fd.length = a.length + 1 + x.length + 1 + y.length + b.length := by rw [hl, hr]; simp; omega
    obtain ⟨f2, q4, l2, q5, q6⟩ := ih2 row (a ++ [c] ++ x ++ [oth c]) b ((f1.set (a.length + 1 + x.length) a.length).set a.length (a.length + 1 + x.length)) st r2 (by simp [l1, hl])
    simp only [List.length_append, List.length_cons, List.length_nil] at q2 q3 q5 q6 l2 q1 q4
    simp only [List.length_set] at l2
    refine ⟨f2, ?_, by rw [l2, l1], ?_, ?_⟩
    · rw [e1, List.foldl_cons]
      have s1 : pst row (some (fd, st)) a.length = some (fd, a.length :: st) := by simp only [pst]; rw [g1, if_neg c63, if_pos hc]
      rw [s1, List.foldl_append]
      simp only [List.length_append, List.length_cons, List.length_nil]
      rw [q1, List.foldl_cons]
      have s2 : pst row (some (f1, a.length :: st)) (a.length + 1 + x.length) = some ((f1.set (a.length + 1 + x.length) a.length).set a.length (a.length + 1 + x.length), st) := by
        simp only [pst]; rw [g1, g2, if_neg o63, if_neg (by simp [oth_op hc]), if_pos (oth_oth (op_br hc)).symm]
      rw [s2]
      exact q4
    · intro i hi
      simp only [List.length_cons, List.length_append] at hi
      rw [q5 i (by omega), List.getElem?_set_ne (by omega), List.getElem?_set_ne (by omega), q2 i (by omega)]
    · intro i hi
      simp only [List.length_cons, List.length_append] at hi
      have hfl := hx.len
      by_cases h0 : i = 0
      · subst h0
        have z := q5 a.length (by omega)
        rw [show a.length + 0 = a.length from rfl, z, List.getElem?_set_self (by rw [List.length_set]; omega)]
        simp [hfl]; omega
      · by_cases h1 : i ≤ x.length
        · rw [q5 _ (by omega), List.getElem?_set_ne (by omega), List.getElem?_set_ne (by omega)]
          have := q3 (i - 1) (by omega)
          rw [show a.length + 1 + (i - 1) = a.length + i by omega] at this
          rw [this, show i = (i - 1) + 1 by omega, List.getElem?_cons_succ, List.getElem?_append_left (by simp; omega), List.getElem?_map]
          rw [Option.map_map]
          congr 1
          funext n
          simp; omega
        · by_cases h2 : i = x.length + 1
          · subst h2
            rw [q5 _ (by omega), List.getElem?_set_ne (by omega), show a.length + (x.length + 1) = a.length + 1 + x.length by omega, List.getElem?_set_self (by omega)]
            rw [List.getElem?_cons_succ, List.getElem?_append_right (by simp; omega)]
            simp [hfl]
          · have := q6 (i - x.length - 2) (by omega)
            rw [show a.length + 1 + x.length + 1 + (i - x.length - 2) = a.length + i by omega] at this
            rw [this, show i = (i - 1) + 1 by omega, List.getElem?_cons_succ, List.getElem?_append_right (by simp; omega)]
            simp only [List.length_map, hfl]
            rw [show i - 1 - x.length = (i - 1 + 1 - x.length - 2) + 1 by omega, List.getElem?_cons_succ, List.getElem?_map, Option.map_map]
            congr 1
            funext n
            simp; omega
theorem pst_len {row : List Nat} {f0 : List Nat} : ∀ {i : Nat} {f st : List Nat}, (List.range i).foldl (pst row) (some (f0, [])) = some (f, st) → st.length ≤ i
  | 0, f, st, h => by cases h; exact Nat.le_refl 0
  | i + 1, f, st, h => by
    rw [List.range_succ, List.foldl_append] at h
    cases e : (List.range i).foldl (pst row) (some (f0, [])) with
    | none => rw [e] at h; cases h
    | some p =>
      obtain ⟨g, su⟩ := p
      have ih := pst_len e
      rw [e] at h
      simp only [List.foldl_cons, List.foldl_nil, pst] at h
      split at h
      · cases h
      · split at h
        · cases h; simp only [List.length_cons]; omega
        · split at h
          · cases h
          · split at h
            · cases h; simp only [List.length_cons] at ih; omega
            · cases h
theorem par_fold {x f : List Nat} (h : Par x f) : pfold x = some (f, []) := by
  obtain ⟨fd', h1, h2, _, h3⟩ := par_go h x [] [] (List.replicate x.length 0) [] (by simp) (by simp)
  unfold pfold
  rw [List.range_eq_range']
  rw [show ([] : List Nat).length = 0 from rfl] at h1
  rw [h1]
  congr 2
  refine List.ext_getElem? fun i => ?_
  by_cases hi : i < x.length
  · have := h3 i hi
    simpa using this
  · rw [List.getElem?_eq_none (by rw [h2]; simpa using hi), List.getElem?_eq_none (by rw [h.len]; omega)]
theorem Par.fn {x f g : List Nat} (h : Par x f) (h' : Par x g) : f = g := by
  have := (par_fold h).symm.trans (par_fold h')
  simpa using this
theorem rowOk.br {k : Nat} {row : List Nat} (h : rowOk k row) : ∀ c ∈ row, c ∈ BR ∨ c = 63 := fun c hc => sgs_lt (h c hc)
noncomputable def stepH (c : Nat) : Int := if isOp c = true then 1 else -1
noncomputable def hgt (x : List Nat) : Int := (x.map stepH).sum
theorem hgt_nil : hgt [] = 0 := rfl
theorem hgt_cons (c : Nat) (x : List Nat) : hgt (c :: x) = stepH c + hgt x := by simp [hgt]
theorem hgt_app (x y : List Nat) : hgt (x ++ y) = hgt x + hgt y := by simp [hgt]
theorem RR.hgt {x : List Nat} (h : RR x) : G.hgt x = 0 := by
  induction h with
  | nil => rfl
  | cat hc _ _ h1 h2 =>
    rw [hgt_cons, hgt_app, hgt_cons, h1, h2]
    simp [stepH, hc, oth_op hc]
theorem RR.hgt_take {x : List Nat} (h : RR x) : ∀ j, 0 ≤ G.hgt (x.take j) := by
  induction h with
  | nil => intro j; simp [hgt_nil]
  | @cat c x y hc hx hy h1 h2 =>
    intro j
    cases j with
    | zero => simp [hgt_nil]
    | succ j =>
      rw [List.take_succ_cons, hgt_cons, List.take_append]
      rw [hgt_app]
      have e : stepH c = 1 := by simp [stepH, hc]
      by_cases hj : j ≤ x.length
      · rw [show j - x.length = 0 by omega, List.take_zero, hgt_nil]
        have := h1 j
        omega
      · obtain ⟨m, hm⟩ : ∃ m, j - x.length = m + 1 := ⟨j - x.length - 1, by omega⟩
        rw [hm, List.take_succ_cons, hgt_cons, List.take_of_length_le (by omega), hx.hgt]
        have e2 : stepH (oth c) = -1 := by simp [stepH, oth_op hc]
        have := h2 m
        omega
noncomputable def hst (p : Int × Int) (c : Nat) : Int × Int := (p.1 + stepH c, max p.2 (p.1 + stepH c))
noncomputable def deep (row : List Nat) : Int := (row.foldl hst (0, 0)).2
inductive PP : List Nat → List Nat → List (List Nat) → Prop
  | nil : PP [] [] []
  | cat {c : Nat} {x y f g : List Nat} {l : List (List Nat)} (hc : isOp c = true) (hx : Par x f) (hy : PP y g l) : PP (c :: (x ++ oth c :: y)) ((f.length + 1) :: (f.map (· + 1) ++ 0 :: g.map (· + (f.length + 2)))) ((c :: (x ++ [oth c])) :: l)
theorem PP.par {x f : List Nat} {l : List (List Nat)} (h : PP x f l) : Par x f := by
  induction h with
  | nil => exact .nil
  | cat hc hx _ h2 => exact .cat hc hx h2
theorem RR.pp {x : List Nat} (h : RR x) : ∃ f l, PP x f l := by
  induction h with
  | nil => exact ⟨[], [], .nil⟩
  | cat hc hx _ _ h2 => obtain ⟨f, hf⟩ := hx.par; obtain ⟨g, l, h2⟩ := h2; exact ⟨_, _, PP.cat hc hf h2⟩
noncomputable def cst (row : List Nat) (p : List (List Nat) × Nat) (i : Nat) : List (List Nat) × Nat := if hgt (row.take (i + 1)) = 0 then (p.1 ++ [(row.take (i + 1)).drop p.2], i + 1) else p
theorem cst_go {y g : List Nat} {l : List (List Nat)} (h : PP y g l) : ∀ (row a : List Nat) (cs : List (List Nat)), row = a ++ y → hgt a = 0 → (List.range' a.length y.length).foldl (cst row) (cs, a.length) = (cs ++ l, row.length) := by
  induction h with
  | nil => intro row a cs hr _; simp [hr]
  | @cat c x y f g l hc hx hy ih =>
    intro row a cs hr ha
    have hxr := hx.rr
    have e1 : List.range' a.length (c :: (x ++ oth c :: y)).length = List.range' a.length (1 + x.length) ++ (a.length + (1 + x.length)) :: List.range' (a ++ (c :: (x ++ [oth c]))).length y.length := by
      simp only [List.length_cons, List.length_append, List.length_nil]
      rw [show x.length + (y.length + 1) + 1 = (1 + x.length) + (1 + y.length) by omega, ← List.range'_append_1, ← List.range'_append_1 (n := y.length)]
      simp [List.range'_one, Nat.add_assoc, Nat.add_comm 1]
    have stay : ∀ m, m ≤ 1 + x.length → (List.range' a.length m).foldl (cst row) (cs, a.length) = (cs, a.length) := by
      intro m
      induction m with
      | zero => intro _; rfl
      | succ m ihm =>
        intro hm
        rw [← List.range'_append_1, List.foldl_append, ihm (by omega), List.range'_one, List.foldl_cons, List.foldl_nil]
        unfold cst
        rw [if_neg]
        have : row.take (a.length + m + 1) = a ++ c :: x.take m := by
          rw [hr, List.take_append, List.take_of_length_le (by omega), show a.length + m + 1 - a.length = m + 1 by omega, List.take_succ_cons, List.take_append, show m - x.length = 0 by omega]
          simp
        rw [this, hgt_app, ha, hgt_cons]
        have := hxr.hgt_take m
        have e : stepH c = 1 := by simp [stepH, hc]
        omega
    rw [e1, List.foldl_append, stay _ (Nat.le_refl _), List.foldl_cons]
    have et : row.take (a.length + (1 + x.length) + 1) = a ++ c :: (x ++ [oth c]) := by
      rw [hr, List.take_append, List.take_of_length_le (by omega), show a.length + (1 + x.length) + 1 - a.length = x.length + 1 + 1 by omega, List.take_succ_cons, List.take_append, List.take_of_length_le (by omega), show x.length + 1 - x.length = 1 by omega]
      simp
    have s : cst row (cs, a.length) (a.length + (1 + x.length)) = (cs ++ [c :: (x ++ [oth c])], (a ++ (c :: (x ++ [oth c]))).length) := by
      unfold cst
      rw [et, if_pos, List.drop_append_of_le_length (Nat.le_refl _), List.drop_length, List.nil_append]
      · simp only [List.length_append, List.length_cons, List.length_nil]
        congr 1; omega
      · rw [hgt_app, ha, hgt_cons, hgt_app, hxr.hgt, hgt_cons, hgt_nil]
        simp [stepH, hc, oth_op hc]
    rw [s, ih row (a ++ (c :: (x ++ [oth c]))) _ (by rw [hr]; simp) (by
      rw [hgt_app, ha, hgt_cons, hgt_app, hxr.hgt, hgt_cons, hgt_nil]
      simp [stepH, hc, oth_op hc])]
    simp
end G
set_option Elab.async false
set_option linter.all false
set_option maxRecDepth 100000
set_option maxHeartbeats 4000000
namespace G
theorem Par.lt {x f : List Nat} (h : Par x f) : ∀ v ∈ f, v < x.length := by
  induction h with
  | nil => intro v hv; simp at hv
  | @cat c x y f g hc hx hy h1 h2 =>
    have := hx.len
    intro v hv
    simp only [List.mem_cons, List.mem_append, List.mem_map] at hv
    simp only [List.length_cons, List.length_append]
    rcases hv with rfl | ⟨u, hu, rfl⟩ | rfl | ⟨u, hu, rfl⟩
    · omega
    · have := h1 u hu; omega
    · omega
    · have := h2 u hu; omega
theorem RR.first {x y z : List Nat} {t : Nat} (h : RR x) (ht : isOp t = false) (h' : RR y) (e : y = x ++ t :: z) : False := by
  have := h'.run []
  rw [e, run_app, h.run, Option.bind_some, run_no ht (by simp)] at this
  cases this
end G
set_option Elab.async false
set_option linter.all false
set_option maxRecDepth 100000
set_option maxHeartbeats 4000000
namespace G
theorem PP.app {x f y g : List Nat} {l m : List (List Nat)} (h : PP x f l) (h' : PP y g m) : ∃ fg, PP (x ++ y) fg (l ++ m) := by
  induction h with
  | nil => exact ⟨g, h'⟩
  | @cat c x y' f' g' l hc hx hy ih =>
    obtain ⟨fg, ih⟩ := ih
    have := PP.cat hc hx ih
    rw [show c :: (x ++ oth c :: y') ++ y = c :: (x ++ oth c :: (y' ++ y)) by simp]
    exact ⟨_, this⟩
theorem PP.fn {x f f' : List Nat} {l l' : List (List Nat)} (h : PP x f l) (h' : PP x f' l') : l = l' := by
  have a := cst_go h x [] [] rfl rfl
  have b := cst_go h' x [] [] rfl rfl
  rw [a] at b
  simpa using congrArg Prod.fst b
theorem PP.one {c : Nat} {x : List Nat} (hc : isOp c = true) (hx : RR x) : ∃ f, PP (c :: (x ++ [oth c])) f [c :: (x ++ [oth c])] := by
  obtain ⟨f, hf⟩ := hx.par
  exact ⟨_, PP.cat hc hf .nil⟩
end G
set_option Elab.async false
set_option linter.all false
set_option maxRecDepth 100000
set_option maxHeartbeats 4000000
namespace G
noncomputable def lets (s b : Nat) : Bool := decide (s = 63 ∨ s = b)
noncomputable def fit : List Nat → List Nat → Bool
  | [], [] => true
  | s :: r, b :: x => lets s b && fit r x
  | _, _ => false
theorem fit_len : ∀ {r x : List Nat}, fit r x = true → x.length = r.length
  | [], [], _ => rfl
  | [], _ :: _, h => by cases h
  | _ :: _, [], h => by cases h
  | s :: r, b :: x, h => by
    simp only [fit, Bool.and_eq_true] at h
    rw [List.length_cons, List.length_cons, fit_len h.2]
theorem fit_app : ∀ {r x r' x' : List Nat}, x.length = r.length → fit (r ++ r') (x ++ x') = (fit r x && fit r' x')
  | [], [], _, _, _ => by simp [fit]
  | [], _ :: _, _, _, h => by cases h
  | _ :: _, [], _, _, h => by cases h
  | s :: r, b :: x, r', x', h => by
    simp only [List.cons_append, fit, fit_app (r := r) (x := x) (r' := r') (x' := x') (by simpa using h), Bool.and_assoc]
noncomputable def kin (k : Nat) (x : List Nat) : Prop := ∀ c ∈ x, c ∈ brs k
theorem opc_brs {k i : Nat} (hi : i < k) (hk : k ≤ 4) : opc i ∈ brs k ∧ clc i ∈ brs k := by
  refine k_cases (k := k) (by omega) hk (P := fun k => i < k → opc i ∈ brs k ∧ clc i ∈ brs k) ?_ ?_ ?_ ?_ hi
  · intro h; obtain rfl : i = 0 := by omega
    decide
  · intro h; have : i = 0 ∨ i = 1 := by omega
    rcases this with rfl | rfl <;> decide
  · intro h; have : i = 0 ∨ i = 1 ∨ i = 2 := by omega
    rcases this with rfl | rfl | rfl <;> decide
  · intro h; exact i_cases h (P := fun i => opc i ∈ brs 4 ∧ clc i ∈ brs 4) (by decide) (by decide) (by decide) (by decide)
theorem brs_op {k c : Nat} (hk : k ≤ 4) (h : c ∈ brs k) (ho : isOp c = true) : ∃ i, i < k ∧ c = opc i := by
  have h0 : k = 0 ∨ k = 1 ∨ k = 2 ∨ k = 3 ∨ k = 4 := by omega
  unfold brs BR at h
  rcases h0 with rfl | rfl | rfl | rfl | rfl
  · simp at h
  all_goals
    simp only [Nat.reduceMul, List.take_succ_cons, List.take_zero, List.mem_cons, List.not_mem_nil, or_false] at h
  · rcases h with rfl | rfl
    · exact ⟨0, by omega, rfl⟩
    · cases ho
  · rcases h with rfl | rfl | rfl | rfl
    · exact ⟨0, by omega, rfl⟩
    · cases ho
    · exact ⟨1, by omega, rfl⟩
    · cases ho
  · rcases h with rfl | rfl | rfl | rfl | rfl | rfl
    · exact ⟨0, by omega, rfl⟩
    · cases ho
    · exact ⟨1, by omega, rfl⟩
    · cases ho
    · exact ⟨2, by omega, rfl⟩
    · cases ho
  · rcases h with rfl | rfl | rfl | rfl | rfl | rfl | rfl | rfl
    · exact ⟨0, by omega, rfl⟩
    · cases ho
    · exact ⟨1, by omega, rfl⟩
    · cases ho
    · exact ⟨2, by omega, rfl⟩
    · cases ho
    · exact ⟨3, by omega, rfl⟩
    · cases ho
noncomputable def W (k : Nat) : List Nat → List (List Nat)
  | [] => [[]]
  | s :: r => (List.range r.length).flatMap fun m => if hm : m < r.length then (List.range k).flatMap fun i =>
      if lets s (opc i) && lets r[m] (clc i) then (W k (r.take m)).flatMap fun x => (W k (r.drop (m + 1))).map fun y => opc i :: (x ++ clc i :: y) else [] else []
termination_by row => row.length
decreasing_by
  all_goals simp only [List.length_cons, List.length_take, List.length_drop]; omega
noncomputable def cnt (k : Nat) (row : List Nat) : Nat := (W k row).length
end G
namespace G
end G
namespace G
end G
set_option Elab.async false
set_option linter.all false
set_option maxRecDepth 100000
set_option maxHeartbeats 4000000
namespace G
noncomputable def brc (b : Nat) : Nat := BR.getD b 0
noncomputable def LtB (x y : List Nat) : Prop := ∃ u a b v w, x = u ++ a :: v ∧ y = u ++ b :: w ∧ BR.idxOf a < BR.idxOf b
theorem LtB.ext {x y : List Nat} (h : LtB x y) (v w : List Nat) : LtB (x ++ v) (y ++ w) := by
  obtain ⟨u, a, b, v', w', rfl, rfl, h⟩ := h
  exact ⟨u, a, b, v' ++ v, w' ++ w, by simp, by simp, h⟩
theorem fit_snoc {r x : List Nat} {s c : Nat} (h : x.length = r.length) : fit (r ++ [s]) (x ++ [c]) = (fit r x && lets s c) := by
  rw [fit_app h]; simp [fit]
end G
set_option Elab.async false
set_option linter.all false
set_option maxRecDepth 100000
set_option maxHeartbeats 4000000
namespace G
theorem kin_app {k : Nat} {x y : List Nat} : kin k (x ++ y) ↔ kin k x ∧ kin k y := by
  unfold kin
  simp only [List.mem_append]
  exact ⟨fun h => ⟨fun c hc => h c (.inl hc), fun c hc => h c (.inr hc)⟩, fun h c hc => hc.elim (h.1 c) (h.2 c)⟩
end G
set_option Elab.async false
set_option linter.all false
set_option maxRecDepth 100000
set_option maxHeartbeats 4000000
namespace G
end G
namespace G
end G
set_option Elab.async false
set_option linter.all false
set_option maxRecDepth 100000
set_option maxHeartbeats 4000000
namespace G
open L2 (atI ixN)
local macro_rules
  | `(tactic| congr) => `(tactic| first | refine post_k ?_ | refine need_k ?_ | refine needI_k ?_ | refine needB_k ?_ | refine wpP_k ?_ | refine wpE_k ?_ | refine wpS_k ?_ | refine wpA_k ?_ | refine wpI_k ?_ | refine wpF_k ?_ | congr 50)
theorem LINE_big : 1000000 ≤ LINE := by decide
theorem BIG_big : 1000000 ≤ BIG := by decide
theorem lg_lt {i : Int} (h1 : -100000000000000000000000000000000000000000000000000000000000000000000000000000000 ≤ i) (h2 : i ≤ 100000000000000000000000000000000000000000000000000000000000000000000000000000000) : i.natAbs.log2 < 400 := by
  by_cases h : i.natAbs = 0
  · rw [h]; decide
  · rw [Nat.log2_lt h]
    have : (100000000000000000000000000000000000000000000000000000000000000000000000000000000 : Nat) < 2 ^ 400 := by decide
    omega
theorem mul_nn {x y A B : Int} (h1 : 0 ≤ x) (h2 : x ≤ A) (h3 : 0 ≤ y) (h4 : y ≤ B) : 0 ≤ x * y ∧ x * y ≤ A * B :=
  ⟨Int.mul_nonneg h1 h3, Int.mul_le_mul h2 h4 h3 (Int.le_trans h1 h2)⟩
section
variable {α : Type}
theorem atI_of {xs : List α} {i : Int} {v : α} (h0 : 0 ≤ i) (h : xs[i.toNat]? = some v) : atI xs i = some v := by
  have hn : i.toNat < xs.length := (List.getElem?_eq_some_iff.mp h).1
  unfold atI ixN
  rw [if_pos h0, if_pos (by omega)]
  exact h
theorem cut_to (x : List α) {j : Int} (h : 0 ≤ j) : cutD x none (some j) = x.take j.toNat := by
  unfold cutD
  obtain ⟨n, rfl⟩ : ∃ n : Nat, j = n := ⟨j.toNat, by omega⟩
  rw [HT.sIx_none, show HT.sIx x.length x.length (some (n : Int)) = min n x.length from HT.sIx_nat x.length x.length n, Int.toNat_natCast, List.drop_zero, Nat.sub_zero]
  by_cases h : n ≤ x.length
  · rw [Nat.min_eq_left h]
  · rw [Nat.min_eq_right (by omega), List.take_length, List.take_of_length_le (by omega)]
theorem cut_from (x : List α) {i : Int} (h : 0 ≤ i) : cutD x (some i) none = x.drop i.toNat := by
  unfold cutD
  obtain ⟨n, rfl⟩ : ∃ n : Nat, i = n := ⟨i.toNat, by omega⟩
  rw [HT.sIx_none, show HT.sIx x.length 0 (some (n : Int)) = min n x.length from HT.sIx_nat x.length 0 n, Int.toNat_natCast]
  by_cases h : n ≤ x.length
  · rw [Nat.min_eq_left h, List.take_of_length_le (by simp)]
  · rw [Nat.min_eq_right (by omega), List.drop_length, List.take_nil, List.drop_of_length_le (by omega)]
theorem cut_both (x : List α) {i j : Int} (h : 0 ≤ i) (h' : 0 ≤ j) : cutD x (some i) (some j) = (x.take j.toNat).drop i.toNat := by
  unfold cutD
  obtain ⟨n, rfl⟩ : ∃ n : Nat, i = n := ⟨i.toNat, by omega⟩
  obtain ⟨m, rfl⟩ : ∃ n : Nat, j = n := ⟨j.toNat, by omega⟩
  rw [show HT.sIx x.length 0 (some (n : Int)) = min n x.length from HT.sIx_nat x.length 0 n, show HT.sIx x.length x.length (some (m : Int)) = min m x.length from HT.sIx_nat x.length x.length m, Int.toNat_natCast, Int.toNat_natCast, List.drop_take]
  by_cases h : n ≤ x.length
  · rw [Nat.min_eq_left h]
    by_cases h2 : m ≤ x.length
    · rw [Nat.min_eq_left h2]
    · rw [Nat.min_eq_right (show x.length ≤ m by omega), List.take_of_length_le (by simp), List.take_of_length_le (by simp; omega)]
  · rw [Nat.min_eq_right (show x.length ≤ n by omega), List.drop_length, List.drop_of_length_le (show x.length ≤ n by omega), List.take_nil, List.take_nil]
end
theorem slS_to {x : List Nat} (hl : x.length ≤ LINE) {j : Int} (h : 0 ≤ j) : fSl (.str x) none (some j) = some (.im (.str (x.take j.toNat))) := by
  show (if x.length ≤ LINE then some (Val.im (.str (cutD x none (some j)))) else none) = _
  rw [if_pos hl, cut_to x h]
theorem slS_from {x : List Nat} (hl : x.length ≤ LINE) {j : Int} (h : 0 ≤ j) : fSl (.str x) (some j) none = some (.im (.str (x.drop j.toNat))) := by
  show (if x.length ≤ LINE then some (Val.im (.str (cutD x (some j) none))) else none) = _
  rw [if_pos hl, cut_from x h]
theorem slS_both {x : List Nat} (hl : x.length ≤ LINE) {i j : Int} (h : 0 ≤ i) (h' : 0 ≤ j) : fSl (.str x) (some i) (some j) = some (.im (.str ((x.take j.toNat).drop i.toNat))) := by
  show (if x.length ≤ LINE then some (Val.im (.str (cutD x (some i) (some j)))) else none) = _
  rw [if_pos hl, cut_both x h h']
theorem ixS {x : List Nat} {i : Int} {c : Nat} (hl : x.length ≤ LINE) (h0 : 0 ≤ i) (h : x[i.toNat]? = some c) : fIx (.str x) (.int i) = some (.im (.str [c])) := by
  show (if x.length ≤ LINE then (atI x i).map fun c => Val.im (.str [c]) else none) = _
  rw [if_pos hl, atI_of h0 h] <;> rfl
theorem ixL {x : List D} {i : Int} {d : D} (h0 : 0 ≤ i) (h : x[i.toNat]? = some d) : fIx (.lst x) (.int i) = some (.im d) := by
  show (atI x i).map Val.im = _
  rw [atI_of h0 h] <;> rfl
theorem atI_last {α : Type} (xs : List α) (a : α) : atI (xs ++ [a]) (-1) = some a := by
  unfold atI ixN
  rw [if_neg (by omega), if_pos (by simp only [List.length_append, List.length_cons, List.length_nil]; omega)]
  have : (-1 + ((xs ++ [a]).length : Int)).toNat = xs.length := by
    simp only [List.length_append, List.length_cons, List.length_nil]; omega
  rw [this]
  simp
theorem ixL_last (x : List D) (d : D) : fIx (.lst (x ++ [d])) (.int (-1)) = some (.im d) := by
  show (atI (x ++ [d]) (-1)).map Val.im = _
  rw [atI_last] <;> rfl
theorem lenS {x : List Nat} (hl : x.length ≤ LINE) : fLen (.str x) = some (.im (.int x.length)) := by
  show (if x.length ≤ LINE then some (Val.im (.int x.length)) else none) = _
  rw [if_pos hl]
theorem addS {x y : List Nat} (hl : x.length + y.length ≤ LINE) : fAdd (.str x) (.str y) = some (.im (.str (x ++ y))) := by
  show (if x.length + y.length ≤ LINE then some (Val.im (.str (x ++ y))) else none) = _
  rw [if_pos hl]
theorem addL {x y : List D} (hl : x.length + y.length ≤ LINE) : fAdd (.lst x) (.lst y) = some (.ow (.lst (x ++ y))) := by
  show (if x.length + y.length ≤ LINE then some (Val.ow (.lst (x ++ y))) else none) = _
  rw [if_pos hl]
theorem addI (i j : Int) : fAdd (.int i) (.int j) = some (.im (.int (i + j))) := rfl
theorem rep_one {α : Type} (d : α) : ∀ n : Nat, (List.replicate n [d]).flatten = List.replicate n d
  | 0 => rfl
  | n + 1 => by rw [List.replicate_succ, List.flatten_cons, rep_one d n, List.replicate_succ]; rfl
theorem repL {d : D} {n : Int} (hn : n ≤ 1000000) (h0 : 0 ≤ n) : fMul (.lst [d]) (.int n) = some (.ow (.lst (List.replicate n.toNat d))) := by
  have := LINE_big
  show (if -(2 ^ 31) < n ∧ n < 2 ^ 31 ∧ [d].length * n.toNat ≤ LINE then some (Val.ow (.lst (List.replicate n.toNat [d]).flatten)) else none) = _
  rw [if_pos ⟨by omega, by omega, by simp only [List.length_cons, List.length_nil]; omega⟩, rep_one]
theorem revS {x : List Nat} (hl : x.length ≤ LINE) : fRev (.str x) = some (.im (.str x.reverse)) := by
  show (if x.length ≤ LINE then some (Val.im (.str x.reverse)) else none) = _
  rw [if_pos hl]
theorem appL {ds : List D} (h : ds.length < LINE) (d : D) : mAppend (.lst ds) [d] = some (.non, .lst (ds ++ [d])) := by
  show (if ds.length < LINE then some (D.non, D.lst (ds ++ [d])) else none) = _
  rw [if_pos h]
theorem popL (ds : List D) (d : D) : mPop (.lst (ds ++ [d])) [] = some (d, .lst ds) := by
  show ((ds ++ [d]).getLast?).map (fun x => (x, D.lst (ds ++ [d]).dropLast)) = _
  simp
theorem setLn {ds : List D} {i : Int} (h0 : 0 ≤ i) (h : i < ds.length) (v : D) : setL (.lst ds) i v = some (.lst (ds.set i.toNat v)) := by
  show (ixN ds.length i).map (fun m => D.lst (ds.set m v)) = _
  unfold ixN
  rw [if_pos h0, if_pos (by omega)] <;> rfl
theorem strL_map (l : List (List Nat)) : strL (l.map D.str) = some l := by
  induction l with
  | nil => rfl
  | cons x l ih => rw [List.map_cons, strL, ih]; rfl
theorem joinL_nil (l : List (List Nat)) : TL.joinL [] l = l.flatten := by
  induction l with
  | nil => rfl
  | cons x l ih =>
    cases l with
    | nil => simp [TL.joinL]
    | cons y l =>
      show x ++ ([] ++ TL.joinL [] (y :: l)) = _
      rw [ih]; simp
theorem join0 {l : List (List Nat)} (h : (l.map List.length).sum ≤ LINE) : fJoin (.str []) [.lst (l.map D.str)] = some (.im (.str l.flatten)) := by
  show (strL (l.map D.str)).bind _ = _
  rw [strL_map]
  simp only [Option.bind_some]
  rw [if_pos (by simpa using h), joinL_nil]
mutual
theorem eqD_self : ∀ (d : D) (n : Nat), okD n d = true → eqD d d = true
  | .non, _, _ => rfl
  | .bl b, _, _ => by cases b <;> rfl
  | .int i, _, _ => by show (i == i) = true; simp
  | .str x, _, _ => by show (x == x) = true; simp
  | .lst ds, 0, h => by cases h
  | .lst ds, n + 1, h => eqDs_self ds n h
  | .tup ds, 0, h => by cases h
  | .tup ds, n + 1, h => eqDs_self ds n h
  | .dk _ _, 0, h => by cases h
  | .dk _ _, n + 1, h => by cases h
  | .dt _ _, 0, h => by cases h
  | .dt _ _, n + 1, h => by cases h
  | .exc _, 0, h => by cases h
  | .ob _ _, 0, h => by cases h
  | .exc _, n + 1, h => by cases h
  | .ob _ _, n + 1, h => by cases h
theorem eqDs_self : ∀ (ds : List D) (n : Nat), okDs n ds = true → eqDs ds ds = true
  | [], _, _ => rfl
  | d :: ds, n, h => by
    have h : (okD n d && okDs n ds) = true := h
    rw [Bool.and_eq_true] at h
    show (eqD d d && eqDs ds ds) = true
    rw [eqD_self d n h.1, eqDs_self ds n h.2]; rfl
end
theorem okDs_all : ∀ (n : Nat) (l : List D), (∀ d ∈ l, okD n d = true) → okDs n l = true
  | _, [], _ => by cases ‹Nat› <;> rfl
  | n, d :: l, h => by
    show (okD n d && okDs n l) = true
    rw [h d (by simp), okDs_all n l fun d hd => h d (by simp [hd])]; rfl
theorem okD_int (n : Nat) (i : Int) : okD n (.int i) = true := by cases n <;> rfl
theorem okD_str {n : Nat} {x : List Nat} (h : ∀ c ∈ x, c < 1114112) : okD n (.str x) = true := by
  have : x.all (· < 1114112) = true := by rw [List.all_eq_true]; intro c hc; exact decide_eq_true (h c hc)
  cases n <;> exact this
theorem eqL {x y : List D} (hx : okDs 63 x = true) (hy : okDs 63 y = true) : fEq (.lst x) (.lst y) = some (.im (.bl (eqDs x y))) := by
  have : eqOk (.lst x) (.lst y) = true := by
    show (okDs 63 x && okDs 63 y) = true
    rw [hx, hy]; rfl
  unfold fEq
  rw [if_pos this]; rfl
theorem neL {x y : List D} (hx : okDs 63 x = true) (hy : okDs 63 y = true) : fNe (.lst x) (.lst y) = some (.im (.bl (!eqDs x y))) := by
  have : eqOk (.lst x) (.lst y) = true := by
    show (okDs 63 x && okDs 63 y) = true
    rw [hx, hy]; rfl
  unfold fNe
  rw [if_pos this]; rfl
theorem eqL_self {x : List D} (hx : okDs 63 x = true) : fEq (.lst x) (.lst x) = some (.im (.bl true)) := by rw [eqL hx hx, eqDs_self x 63 hx]
theorem neL_self {x : List D} (hx : okDs 63 x = true) : fNe (.lst x) (.lst x) = some (.im (.bl false)) := by rw [neL hx hx, eqDs_self x 63 hx]; rfl
theorem eqL_nil {l : List D} (h : okDs 63 l = true) : fEq (.lst l) (.lst []) = some (.im (.bl l.isEmpty)) := by
  rw [eqL h rfl]; cases l <;> rfl
theorem neL_nil {l : List D} (h : okDs 63 l = true) : fNe (.lst l) (.lst []) = some (.im (.bl (!l.isEmpty))) := by
  rw [neL h rfl]; cases l <;> rfl
noncomputable abbrev li (l : List Nat) : List D := l.map fun (x : Nat) => D.int (x : Int)
theorem okLi (l : List Nat) : okDs 63 (li l) = true := okDs_all _ _ fun d hd => by
  obtain ⟨x, _, rfl⟩ := List.mem_map.mp hd
  exact okD_int _ _
theorem okC {l : List Nat} (h : ∀ c ∈ l, c < 1114112) : okDs 63 (l.map fun c => D.str [c]) = true := okDs_all _ _ fun d hd => by
  obtain ⟨x, hx, rfl⟩ := List.mem_map.mp hd
  exact okD_str (by simpa using h x hx)
end G
namespace G
theorem cut_m1 {α : Type} (x : List α) (a : α) : cutD (x ++ [a]) none (some (-1)) = x := by
  unfold cutD
  rw [HT.sIx_none]
  have : HT.sIx (x ++ [a]).length (x ++ [a]).length (some (-1)) = x.length := by
    unfold HT.sIx
    simp
    omega
  rw [this]
  simp
end G
namespace G
end G
namespace G
end G
namespace G
end G
set_option Elab.async false
set_option linter.all false
set_option maxRecDepth 100000
set_option maxHeartbeats 4000000
namespace G
open L2 (atI ixN)
local macro_rules
  | `(tactic| congr) => `(tactic| first | refine post_k ?_ | refine need_k ?_ | refine needI_k ?_ | refine needB_k ?_ | refine wpP_k ?_ | refine wpE_k ?_ | refine wpS_k ?_ | refine wpA_k ?_ | refine wpI_k ?_ | refine wpF_k ?_ | congr 50)
section
variable {i j : Nat} {d d' : D} {e r : Env} {s : Slot} {v : Val}
noncomputable def slO (i : Nat) : Option Slot → Option Val
  | some (.im d) => some (.im d)
  | some (.ow _) => some (.loc i)
  | some (.io _) => some (.loc i)
  | _ => none
theorem slotV_r : slotV i e = slO i e[i]? := by unfold slotV; cases e[i]? with | none => rfl | some s => cases s <;> rfl
theorem slO_im : slO i (some (.im d)) = some (.im d) := rfl
theorem slO_ow : slO i (some (.ow d)) = some (.loc i) := rfl
theorem slO_io : slO i (some (.io d)) = some (.loc i) := rfl
noncomputable def rdO : Option Slot → Option D
  | some (.im d) => some d
  | some (.ow d) => some d
  | some (.io d) => some d
  | _ => none
theorem rd_im : rd (.im d) e = some d := rfl
theorem rd_ow : rd (.ow d) e = some d := rfl
theorem rd_loc : rd (.loc i) e = rdO e[i]? := by simp only [rd]; cases e[i]? with | none => rfl | some s => cases s <;> rfl
theorem rdO_im : rdO (some (.im d)) = some d := rfl
theorem rdO_ow : rdO (some (.ow d)) = some d := rfl
theorem rdO_io : rdO (some (.io d)) = some d := rfl
noncomputable def fzO (i : Nat) (e : Env) : Option Slot → Option (D × Env)
  | some (.im d) => some (d, e)
  | some (.ow d) => some (d, e.set i (.im d))
  | _ => none
theorem fz_im : fz (.im d) e = some (d, e) := rfl
theorem fz_ow : fz (.ow d) e = some (d, e) := rfl
theorem fz_loc : fz (.loc i) e = fzO i e e[i]? := by simp only [fz]; cases e[i]? with | none => rfl | some s => cases s <;> rfl
theorem fzO_im : fzO i e (some (.im d)) = some (d, e) := rfl
theorem fzO_ow : fzO i e (some (.ow d)) = some (d, e.set i (.im d)) := rfl
theorem fzO_io : fzO i e (some (.io d)) = none := rfl
theorem tru_bl (b : Bool) : tru (.im (.bl b)) e = some b := rfl
theorem isLoc_f : isLoc false v = none := rfl
theorem isLoc_loc : isLoc true (.loc i) = some i := rfl
theorem isLoc_im : isLoc true (.im d) = none := rfl
theorem isLoc_ow : isLoc true (.ow d) = none := rfl
theorem ownAt_r : ownAt j e = (e[j]?).bind Slot.own := rfl
theorem own_ow : Slot.own (.ow d) = some d := rfl
theorem own_io : Slot.own (.io d) = some d := rfl
theorem own_im : Slot.own (.im d) = none := rfl
theorem own_no : Slot.own .no = none := rfl
noncomputable def putO (j : Nat) (d : D) (e : Env) : Option Slot → Env
  | some s => e.set j (s.put d)
  | none => e
theorem putAt_r : putAt j d e = putO j d e e[j]? := by unfold putAt; cases e[j]? <;> rfl
theorem putO_some : putO j d e (some s) = e.set j (s.put d) := rfl
theorem put_ow : Slot.put d (.ow d') = .ow d := rfl
theorem put_io : Slot.put d (.io d') = .io d := rfl
theorem kindL_lst (ds : List D) : kindL (.lst ds) = true := rfl
theorem kStr_str (x : List Nat) : kStr (.str x) = true := rfl
noncomputable def kdO (kd : D → Bool) : Option D → Bool
  | some x => kd x
  | none => false
theorem kdAt_r {kd : D → Bool} : kdAt kd v e = kdO kd (rd v e) := by unfold kdAt; cases rd v e <;> rfl
theorem kdO_some {kd : D → Bool} : kdO kd (some d) = kd d := rfl
theorem enter_nil : enter [] e = some [] := rfl
theorem enter_im {vs : List Val} : enter (.im d :: vs) e = (enter vs e).map (.im d :: ·) := rfl
noncomputable def entO (o : Option (List Slot)) : Option Slot → Option (List Slot)
  | some (.ow d) => o.map (.io d :: ·)
  | some (.io d) => o.map (.io d :: ·)
  | _ => none
theorem enter_loc {vs : List Val} : enter (.loc i :: vs) e = entO (enter vs e) e[i]? := by rw [enter]; cases e[i]? with | none => rfl | some s => cases s <;> rfl
theorem entO_ow {o : Option (List Slot)} : entO o (some (.ow d)) = o.map (.io d :: ·) := rfl
theorem entO_io {o : Option (List Slot)} : entO o (some (.io d)) = o.map (.io d :: ·) := rfl
theorem onceL_nil : onceL [] = true := rfl
theorem onceL_im {vs : List Val} : onceL (.im d :: vs) = onceL vs := rfl
theorem onceL_loc {vs : List Val} : onceL (.loc i :: vs) = ((posOf i vs).isNone && onceL vs) := rfl
theorem posOf_nil : posOf j [] = none := rfl
theorem posOf_im {vs : List Val} : posOf j (.im d :: vs) = (posOf j vs).map (· + 1) := rfl
theorem posOf_loc {vs : List Val} : posOf j (.loc i :: vs) = if i = j then some 0 else (posOf j vs).map (· + 1) := rfl
theorem leaveG_nil {vs : List Val} {l : List Slot} : leaveG vs l j [] = [] := rfl
theorem leaveG_cons {vs : List Val} {l : List Slot} : leaveG vs l j (s :: r) = leaveS vs l j s :: leaveG vs l (j + 1) r := rfl
theorem leave_r {vs : List Val} {l : List Slot} : leave vs l e = leaveG vs l 0 e := rfl
noncomputable def lvO (s : Slot) : Option Slot → Slot
  | some (.io d) => s.put d
  | _ => s
noncomputable def lvP (l : List Slot) (s : Slot) : Option Nat → Slot
  | some i => lvO s l[i]?
  | none => s
theorem leaveS_r {vs : List Val} {l : List Slot} : leaveS vs l j s = lvP l s (posOf j vs) := by
  unfold leaveS
  cases posOf j vs with
  | none => rfl
  | some i => simp only [lvP]; cases l[i]? with
    | none => rfl
    | some t => cases t <;> rfl
theorem lvP_none {l : List Slot} : lvP l s none = s := rfl
theorem lvP_some {l : List Slot} : lvP l s (some i) = lvO s l[i]? := rfl
theorem lvO_io : lvO s (some (.io d)) = s.put d := rfl
theorem lvO_im : lvO s (some (.im d)) = s := rfl
theorem outs_nil : outs [] e = some [] := rfl
theorem outs_im : outs (.im d :: r) (s :: e) = (outs r e).map (.im d :: ·) := by rw [outs]
theorem outs_io : outs (.io d :: r) (.io d' :: e) = (outs r e).map (.io d' :: ·) := by rw [outs]
noncomputable def rtO : Option Slot → Option Val
  | some (.im d) => some (.im d)
  | some (.ow d) => some (.ow d)
  | _ => none
theorem retV_im : retV (.im d) e = some (.im d) := rfl
theorem retV_ow : retV (.ow d) e = some (.ow d) := rfl
theorem retV_loc : retV (.loc i) e = rtO e[i]? := by simp only [retV]; cases e[i]? with | none => rfl | some s => cases s <;> rfl
theorem rtO_im : rtO (some (.im d)) = some (.im d) := rfl
theorem rtO_ow : rtO (some (.ow d)) = some (.ow d) := rfl
noncomputable def imO : Option Slot → Option D
  | some (.im d) => some d
  | _ => none
theorem imInt_r : imInt i e = imO e[i]? := by unfold imInt; cases e[i]? with | none => rfl | some s => cases s <;> rfl
theorem imO_im : imO (some (.im d)) = some d := rfl
theorem itemsOf_lst (ds : List D) : itemsOf (.lst ds) = some ds := rfl
theorem itemsOf_tup (ds : List D) : itemsOf (.tup ds) = some ds := rfl
theorem itemsOf_str (x : List Nat) : itemsOf (.str x) = some (chars x) := rfl
theorem enumOf_lst (ds : List D) : enumOf (.lst ds) = some (enumL 0 ds) := rfl
theorem enumOf_str (x : List Nat) : enumOf (.str x) = some (enumL 0 (chars x)) := rfl
noncomputable def bkO (v : Nat) (e : Env) : Option Slot → Env
  | some s => e.set v s
  | none => e
theorem back_nil {e0 : Env} : back e0 e [] = e := rfl
theorem back_cons {e0 : Env} {vs : List Nat} : back e0 e (j :: vs) = bkO j (back e0 e vs) e0[j]? := by rw [back]; cases e0[j]? <;> rfl
theorem bkO_some : bkO j e (some s) = e.set j s := rfl
noncomputable def stO (o : Option Slot) (x : Option Env) : Option Env := if stOk o = true then x else none
theorem store_imR : store i (.im d) e = stO e[i]? (some (e.set i (.im d))) := store_im i d e
theorem store_owR : store i (.ow d) e = stO e[i]? (some (e.set i (.ow d))) := store_ow i d e
theorem store_locR : store i (.loc j) e = stO e[i]? (storeL i j e e[j]?) := store_loc i j e
theorem stO_no {x : Option Env} : stO (some .no) x = x := rfl
theorem stO_im {x : Option Env} : stO (some (.im d)) x = x := rfl
theorem stO_ow {x : Option Env} : stO (some (.ow d)) x = x := rfl
theorem tgName_R : tgName i d e = stO e[i]? (some (e.set i (.im d))) := tgName_st i d e
theorem then_nx {Q : Env → Prop} {P : Fl → Env → Prop} : then_ Q P .nx e = Q e := propext Iff.rfl
theorem then_bk {Q : Env → Prop} {P : Fl → Env → Prop} : then_ Q P .bk e = P .bk e := propext Iff.rfl
theorem then_ct {Q : Env → Prop} {P : Fl → Env → Prop} : then_ Q P .ct e = P .ct e := propext Iff.rfl
theorem then_rt {Q : Env → Prop} {P : Fl → Env → Prop} : then_ Q P (.rt v) e = P (.rt v) e := propext Iff.rfl
theorem imD_nil : imD [] = some [] := rfl
theorem imD_im {vs : List Val} : imD (.im d :: vs) = (imD vs).map (d :: ·) := rfl
end
theorem wpP_none {X : EX} {e : Env} {Q : Option Int → Env → Prop} : wpP X none e Q = Q none e := propext Iff.rfl
theorem wpP_some {X : EX} {d : Den} {e : Env} {Q : Option Int → Env → Prop} : wpP X (some d) e Q = wpE X d e fun v e1 => needI (rd v e1) fun i => Q (some i) e1 := by
  show wpE X d e _ = wpE X d e _
  congr; funext v e1
  cases rd v e1 with
  | none => rfl
  | some x => cases x <;> rfl
theorem subI (i j : Int) : fSub (.int i) (.int j) = some (.im (.int (i - j))) := rfl
theorem negI (i : Int) : fNeg (.int i) = some (.im (.int (-i))) := rfl
theorem relI {p : Int → Int → Bool} (i j : Int) : fRel p (.int i) (.int j) = some (.im (.bl (p i j))) := rfl
theorem min2I (i j : Int) : fMin2 (.int i) (.int j) = some (.im (.int (min i j))) := rfl
theorem max2I (i j : Int) : fMax2 (.int i) (.int j) = some (.im (.int (max i j))) := rfl
theorem modI {i j : Int} (h : 0 < j) : fMod (.int i) (.int j) = some (.im (.int (i % j))) := by simp only [fMod]; rw [if_pos h]
theorem divI {i j : Int} (h : 0 < j) (h2 : j ≤ 100000000000000000000000000000000000000000000000000000000000000000000000000000000) : fDiv (.int i) (.int j) = some (.im (.int (i / j))) := by
  simp only [fDiv]
  rw [if_pos ⟨h, by have := lg_lt (i := j) (by omega) h2; omega⟩]
theorem mulI {i j : Int} (h1 : -100000000000000000000000000000000000000000000000000000000000000000000000000000000 ≤ i) (h2 : i ≤ 100000000000000000000000000000000000000000000000000000000000000000000000000000000) (h3 : -100000000000000000000000000000000000000000000000000000000000000000000000000000000 ≤ j) (h4 : j ≤ 100000000000000000000000000000000000000000000000000000000000000000000000000000000) : fMul (.int i) (.int j) = some (.im (.int (i * j))) := by
  simp only [fMul]
  rw [if_pos]
  have := lg_lt h1 h2
  have := lg_lt h3 h4
  omega
theorem isi_lst (ds : List D) (T : String) : fIsi' T (.lst ds) = some (.im (.bl ("list" == T || ("list" == "bool" && T == "int")))) := rfl
theorem isi_str (x : List Nat) (T : String) : fIsi' T (.str x) = some (.im (.bl ("str" == T || ("str" == "bool" && T == "int")))) := rfl
theorem isi_int (i : Int) (T : String) : fIsi' T (.int i) = some (.im (.bl ("int" == T || ("int" == "bool" && T == "int")))) := rfl
theorem isi_bl (i : Bool) (T : String) : fIsi' T (.bl i) = some (.im (.bl ("bool" == T || ("bool" == "bool" && T == "int")))) := rfl
theorem isi_tup (ds : List D) (T : String) : fIsi' T (.tup ds) = some (.im (.bl ("tuple" == T || ("tuple" == "bool" && T == "int")))) := rfl
theorem isi_non (T : String) : fIsi' T .non = some (.im (.bl ("NoneType" == T || ("NoneType" == "bool" && T == "int")))) := rfl
noncomputable def plO : Option Slot → Bool
  | some .no => true
  | some (.im _) => true
  | _ => false
theorem plain_nil {e : Env} : plainAt e [] = true := rfl
theorem plain_cons {e : Env} {v : Nat} {vs : List Nat} : plainAt e (v :: vs) = (plO e[v]? && plainAt e vs) := by
  unfold plainAt
  rw [List.all_cons]
  cases e[v]? with
  | none => rfl
  | some s => cases s <;> rfl
theorem plO_no : plO (some .no) = true := rfl
theorem plO_im {d : D} : plO (some (.im d)) = true := rfl
theorem leLine {n : Nat} (h : n ≤ LINE) : (n ≤ LINE) = True := eq_true h
theorem ltLine {n : Nat} (h : n < LINE) : (n < LINE) = True := eq_true h
theorem leBig {j : Int} (h : -BIG ≤ j) : (-BIG ≤ j) = True := eq_true h
theorem ltBig {j : Int} (h : j < BIG) : (j < BIG) = True := eq_true h
end G
namespace G
theorem wpF_eq {X : EX} {F : FD} {sl l : List Slot} {w : Val} {Q : Val → List Slot → Prop} (h : F sl = .ok (w, l)) : wpF X F sl Q = Q w l := by unfold wpF; rw [h]; exact propext Iff.rfl
theorem wp_true {F : FD} {sl : List Slot} (h : wpF XF F sl (fun w _ => w = .im (.bl true))) : ∃ l, F sl = .ok (.im (.bl true), l) := by
  obtain ⟨w, l, e, h⟩ := wpF_ex h
  subst h
  exact ⟨l, e⟩
theorem filter_flat (p : Nat → Bool) (l : List Nat) : (l.flatMap fun c => if p c = true then [D.str [c]] else []) = (l.filter p).map fun c => D.str [c] := by
  induction l with
  | nil => rfl
  | cons c l ih =>
    rw [List.flatMap_cons, ih, List.filter_cons]
    by_cases h : p c = true <;> simp [h]
theorem flat_one {α β : Type} (f : α → β) (l : List α) : (l.flatMap fun c => [f c]) = l.map f := by
  induction l with
  | nil => rfl
  | cons c l ih => rw [List.flatMap_cons, ih]; rfl
end G
set_option Elab.async false
set_option linter.all false
set_option maxRecDepth 100000
set_option maxHeartbeats 4000000
namespace G
local macro_rules
  | `(tactic| congr) => `(tactic| first | refine post_k ?_ | refine need_k ?_ | refine needI_k ?_ | refine needB_k ?_ | refine wpP_k ?_ | refine wpE_k ?_ | refine wpS_k ?_ | refine wpA_k ?_ | refine wpI_k ?_ | refine wpF_k ?_ | congr 50)
variable {X : EX} {s : Slot} {r : Env}
theorem kDict_dk (ks : List DK) (ds : List D) : kDict (.dk ks ds) = true := rfl
theorem kDict_dt (ks : List (List DK)) (ds : List D) : kDict (.dt ks ds) = true := rfl
section
variable {κ : Type} [DecidableEq κ]
theorem zip_same (k : κ) (v : D) : ∀ (ks : List κ) (ds : List D), ks.length = ds.length → k ∉ ks → ((ks.zip ds).map fun p => if p.1 = k then v else p.2) = ds
  | [], [], _, _ => rfl
  | [], _ :: _, h, _ => nomatch h
  | _ :: _, [], h, _ => nomatch h
  | k' :: ks, d :: ds, hl, h => by
    simp only [List.mem_cons, not_or] at h
    simp only [List.zip_cons_cons, List.map_cons]
    rw [if_neg (Ne.symm h.1), zip_same k v ks ds (by simpa using hl) h.2]
theorem alGet_put (x y : κ) (v : D) : ∀ (ks : List κ) (ds : List D), ks.length = ds.length → alGet (alPutK ks x) (alPutD ks ds x v) y = if x = y then some v else alGet ks ds y := by
  have app : ∀ (ks : List κ) (ds : List D), ks.length = ds.length → x ∉ ks → alGet (ks ++ [x]) (ds ++ [v]) y = if x = y then some v else alGet ks ds y := by
    intro ks
    induction ks with
    | nil =>
      intro ds hl _
      cases ds with
      | nil => simp [alGet]
      | cons _ _ => cases hl
    | cons k ks ih =>
      intro ds hl hx
      cases ds with
      | nil => cases hl
      | cons d ds =>
        simp only [List.mem_cons, not_or] at hx
        simp only [List.cons_append, alGet]
        by_cases h : k = y
        · rw [if_pos h, if_pos h, if_neg (fun z => hx.1 (z.trans h.symm))]
        · rw [if_neg h, if_neg h, ih ds (by simpa using hl) hx.2]
  have mp : ∀ (ks : List κ) (ds : List D), ks.length = ds.length → x ∈ ks → alGet ks ((ks.zip ds).map fun p => if p.1 = x then v else p.2) y = if x = y then some v else alGet ks ds y := by
    intro ks
    induction ks with
    | nil => intro ds _ h; simp at h
    | cons k ks ih =>
      intro ds hl hx
      cases ds with
      | nil => cases hl
      | cons d ds =>
        simp only [List.zip_cons_cons, List.map_cons, alGet]
        by_cases h : k = y
        · subst h
          rw [if_pos rfl, if_pos rfl]
          by_cases hk : k = x
          · rw [if_pos hk, if_pos hk.symm]
          · rw [if_neg hk, if_neg (fun z => hk z.symm)]
        · rw [if_neg h, if_neg h]
          by_cases hxs : x ∈ ks
          · exact ih ds (by simpa using hl) hxs
          · have hkx : k = x := by
              rw [List.mem_cons] at hx
              rcases hx with h | h
              · exact h.symm
              · exact absurd h hxs
            subst hkx
            rw [if_neg h]
            rw [zip_same k v ks ds (by simpa using hl) hxs]
  intro ks ds hl
  unfold alPutK alPutD
  by_cases h : x ∈ ks
  · rw [if_pos h, if_pos h]; exact mp ks ds hl h
  · rw [if_neg h, if_neg h]; exact app ks ds hl h
theorem alPut_len (x : κ) (v : D) (ks : List κ) (ds : List D) (hl : ks.length = ds.length) : (alPutK ks x).length = (alPutD ks ds x v).length ∧ (alPutD ks ds x v).length ≤ ds.length + 1 := by
  unfold alPutK alPutD
  by_cases h : x ∈ ks
  · rw [if_pos h, if_pos h]; simp [hl]
  · rw [if_neg h, if_neg h]; simp [hl]
end
structure DT2 (d : D) (n : Nat) (f : Int → Int → Option D) : Prop where
  ex : ∃ ks ds, d = .dt ks ds ∧ ks.length = ds.length ∧ ds.length ≤ n ∧ ∀ i j, alGet ks ds [.inl i, .inl j] = f i j
theorem DT2.nil {n : Nat} : DT2 (.dt [] []) n fun _ _ => none := ⟨⟨[], [], rfl, rfl, by simp, fun _ _ => rfl⟩⟩
theorem DT2.get {d : D} {n : Nat} {f : Int → Int → Option D} (h : DT2 d n f) (i j : Int) : fDGet d (.tup [.int i, .int j]) = (f i j).map .im := by
  obtain ⟨ks, ds, rfl, hl, hn, hf⟩ := h.ex
  show (Option.bind (some (alGet ks ds [.inl i, .inl j])) fun o => o.map Val.im) = _
  rw [hf]; rfl
theorem DT2.kd {d : D} {n : Nat} {f : Int → Int → Option D} (h : DT2 d n f) : kDict d = true := by
  obtain ⟨ks, ds, rfl, _⟩ := h.ex; rfl
theorem DT2.put {d : D} {n : Nat} {f : Int → Int → Option D} (h : DT2 d n f) (hn : n ≤ 100000) (i j : Int) (v : D) : ∃ d', putD d (.tup [.int i, .int j]) v = some d' ∧ DT2 d' (n + 1) fun a b => if i = a ∧ j = b then some v else f a b := by
  obtain ⟨ks, ds, rfl, hl, hn', hf⟩ := h.ex
  have hLINE := LINE_big
  refine ⟨.dt (alPutK ks [.inl i, .inl j]) (alPutD ks ds [.inl i, .inl j] v), ?_, ?_⟩
  · show (Option.bind (some [Sum.inl i, Sum.inl j]) fun k => if ds.length < LINE then some (D.dt (alPutK ks k) (alPutD ks ds k v)) else none) = _
    simp only [Option.bind_some]
    rw [if_pos (by omega)]
  · obtain ⟨q1, q2⟩ := alPut_len [Sum.inl i, Sum.inl j] v ks ds hl
    refine ⟨⟨_, _, rfl, q1, by omega, fun a b => ?_⟩⟩
    rw [alGet_put _ _ _ _ _ hl, hf]
    by_cases h : i = a ∧ j = b
    · rw [if_pos h, if_pos (by rw [h.1, h.2])]
    · rw [if_neg h, if_neg (fun z => h (by simpa using z))]
noncomputable def imS (o : Option Slot) (A B : Prop) : Prop := match o with
  | some (.im _) => A
  | _ => B
theorem imS_im (d : D) (A B : Prop) : imS (some (.im d)) A B = A := propext Iff.rfl
theorem imS_ow (d : D) (A B : Prop) : imS (some (.ow d)) A B = B := propext Iff.rfl
theorem imS_io (d : D) (A B : Prop) : imS (some (.io d)) A B = B := propext Iff.rfl
noncomputable def dLcNo (j : Nat) (td : TDen) (c el : Den) (vs : List Nat) : Den := dLcN j td c el vs
theorem wpE_lcN_R {j : Nat} {td : TDen} {c el : Den} {vs : List Nat} {Q : Val → Env → Prop} : wpE X (dLcN j td c el vs) (s :: r) Q = imS (s :: r)[j]? (wpE X (dLc (iSeq (dName j)) td c el vs) (s :: r) Q) (wpE X (dLcNo j td c el vs) (s :: r) Q) := by
  cases h : (s :: r)[j]? with
  | none => rfl
  | some t => cases t with
    | im d => exact wpE_lcN_im (by unfold isIm; rw [h])
    | _ => rfl
end G
namespace G
theorem DT2.le {d : D} {n m : Nat} {f : Int → Int → Option D} (h : DT2 d n f) (hm : n ≤ m) : DT2 d m f := by
  obtain ⟨ks, ds, e, hl, hn, hf⟩ := h.ex
  exact ⟨⟨ks, ds, e, hl, by omega, hf⟩⟩
theorem DT2.congr {d : D} {n : Nat} {f g : Int → Int → Option D} (h : DT2 d n f) (e : ∀ i j, f i j = g i j) : DT2 d n g := by
  obtain ⟨ks, ds, e', hl, hn, hf⟩ := h.ex
  exact ⟨⟨ks, ds, e', hl, hn, fun i j => by rw [hf, e]⟩⟩
end G
set_option Elab.async false
set_option linter.all false
set_option maxRecDepth 100000
set_option maxHeartbeats 4000000
namespace G
local macro_rules
  | `(tactic| congr) => `(tactic| first | refine post_k ?_ | refine need_k ?_ | refine needI_k ?_ | refine needB_k ?_ | refine wpP_k ?_ | refine wpE_k ?_ | refine wpS_k ?_ | refine wpA_k ?_ | refine wpI_k ?_ | refine wpF_k ?_ | congr 50)
theorem keyD_str (x : List Nat) : keyD (.str x) = some (.inr x) := rfl
theorem keyD_int (i : Int) : keyD (.int i) = some (.inl i) := rfl
end G
set_option Elab.async false
set_option linter.all false
set_option maxRecDepth 100000
set_option maxHeartbeats 4000000
namespace G
variable {X : EX} {s : Slot} {r : Env}
theorem catches_0 (c : Nat) : catches 0 c = true := rfl
noncomputable def itLd (m : Nat) (d : D) (n : Nat) : Prop := itOk d = true ∧ (pyN d).shown.length ≤ n ∧ (pyN d).depth ≤ m
theorem itLd.mono {d : D} {m m2 n n2 : Nat} (h : itLd m d n) (h1 : n ≤ n2) (h2 : m ≤ m2) : itLd m2 d n2 := ⟨h.1, Nat.le_trans h.2.1 h1, Nat.le_trans h.2.2 h2⟩
end G
set_option Elab.async false
set_option linter.all false
set_option maxRecDepth 100000
set_option maxHeartbeats 4000000
namespace G
local macro_rules
  | `(tactic| congr) => `(tactic| first | refine post_k ?_ | refine need_k ?_ | refine needI_k ?_ | refine needB_k ?_ | refine wpP_k ?_ | refine wpE_k ?_ | refine wpS_k ?_ | refine wpA_k ?_ | refine wpI_k ?_ | refine wpF_k ?_ | congr 50)
variable {X : EX} {s : Slot} {r : Env} {j n m : Nat}
theorem flat_int (i : Int) : flat (.int i) = true := rfl
theorem flat_str (i : List Nat) : flat (.str i) = true := rfl
theorem flat_bl (i : Bool) : flat (.bl i) = true := rfl
theorem flat_non : flat .non = true := rfl
theorem wpE_lrg {a : Den} {Q : Val → Env → Prop} : wpE X (dLRg a) (s :: r) Q = wpE X a (s :: r) fun v e => needI (rd v e) fun n => 0 ≤ n ∧ n ≤ 1000000 ∧ Q (.ow (.lst (rng 0 1 n.toNat))) e := by
  unfold wpE dLRg
  rw [post_bind]
  congr; funext v e
  cases rd v e with
  | none => rfl
  | some d =>
    cases d with
    | int n =>
      show post X (if _ then _ else _) Q = _
      by_cases h : 0 ≤ n ∧ n ≤ 1000000
      · rw [if_pos h]; simp [needI, h.1, h.2, post]
      · rw [if_neg h, show needI (some (.int n)) (fun n => 0 ≤ n ∧ n ≤ 1000000 ∧ Q (.ow (.lst (rng 0 1 n.toNat))) e) = (0 ≤ n ∧ n ≤ 1000000 ∧ Q (.ow (.lst (rng 0 1 n.toNat))) e) from rfl, ← and_assoc]
        exact propext ⟨fun z => z.elim, fun z => absurd z.1 h⟩
    | _ => rfl
end G
set_option Elab.async false
set_option linter.all false
set_option maxRecDepth 100000
set_option maxHeartbeats 4000000
namespace G
local macro_rules
  | `(tactic| congr) => `(tactic| first | refine post_k ?_ | refine need_k ?_ | refine needI_k ?_ | refine needB_k ?_ | refine wpP_k ?_ | refine wpE_k ?_ | refine wpS_k ?_ | refine wpA_k ?_ | refine wpI_k ?_ | refine wpF_k ?_ | congr 50)
variable {X : EX} {s : Slot} {r : Env} {j : Nat}
end G
set_option Elab.async false
set_option linter.all false
set_option maxRecDepth 100000
set_option maxHeartbeats 4000000
namespace G
noncomputable def idB (c : Nat) : Int := (BR.idxOf c : Nat)
noncomputable def pl (x : List Nat) : List Int := x.map idB
structure Rt (k n : Nat) (x : List Nat) : Prop where
  rr : RR x
  kn : kin k x
  ln : x.length = n
end G
namespace G
structure St1 (n a : Nat) (p : List Nat × List Nat) : Prop where
  ln : p.1.length = a
  bd : p.2.length ≤ n - a + 1
  cl : ∀ c ∈ p.2, ∃ j, j < 8 ∧ j % 2 = 1 ∧ c = brc j
end G
namespace G
end G
set_option Elab.async false
set_option linter.all false
set_option maxRecDepth 100000
set_option maxHeartbeats 4000000
namespace G
theorem Rt.br {k n : Nat} {x : List Nat} (h : Rt k n x) : ∀ c ∈ x, c ∈ BR := h.rr.br
end G
set_option Elab.async false
set_option linter.all false
set_option maxRecDepth 100000
set_option maxHeartbeats 4000000
namespace G
noncomputable def compl (k : Nat) : List Nat → List Nat → List (List Nat)
  | [], st => if st = [] then [[]] else []
  | s :: r, st => ((List.range k).flatMap fun d => if lets s (opc d) = true then (compl k r (clc d :: st)).map (opc d :: ·) else []) ++ (st.take 1).flatMap fun c => if lets s c = true then (compl k r (st.drop 1)).map (c :: ·) else []
noncomputable def Cl (k : Nat) (st : List Nat) : Prop := ∀ c ∈ st, ∃ d, d < k ∧ c = clc d
theorem isOp_clc {d : Nat} (h : d < 4) : isOp (clc d) = false := i_cases (i := d) h (P := fun d => isOp (clc d) = false) rfl rfl rfl rfl
noncomputable def cc (k : Nat) (row st : List Nat) : Nat := (compl k row st).length
noncomputable def nxT (k s : Nat) (w : List Nat) : List (List Nat) := ((List.range k).filter fun d => lets s (opc d)).map (fun d => w ++ [clc d]) ++ (match w.reverse with
  | [] => []
  | c :: _ => if lets s c = true then [w.dropLast] else [])
noncomputable def psT (k : Nat) (row : List Nat) : List (List Nat) := row.foldl (fun l s => l.flatMap (nxT k s)) [[]]
theorem psT_snoc (k s : Nat) (row : List Nat) : psT k (row ++ [s]) = (psT k row).flatMap (nxT k s) := by unfold psT; rw [List.foldl_append]; rfl
theorem nxT_cl {k s : Nat} {w w' : List Nat} (hw : Cl k w) (h : w' ∈ nxT k s w) : Cl k w' ∧ w'.length ≤ w.length + 1 := by
  unfold nxT at h
  rw [List.mem_append] at h
  rcases h with h | h
  · obtain ⟨d, hd, rfl⟩ := List.mem_map.mp h
    rw [List.mem_filter, List.mem_range] at hd
    refine ⟨fun c hc => ?_, by simp⟩
    rw [List.mem_append, List.mem_singleton] at hc
    rcases hc with hc | rfl
    · exact hw c hc
    · exact ⟨d, hd.1, rfl⟩
  · cases e : w.reverse with
    | nil => rw [e] at h; simp at h
    | cons c st =>
      rw [e] at h
      simp only at h
      split at h
      · rw [List.mem_singleton] at h
        subst h
        exact ⟨fun c hc => hw c (List.dropLast_subset _ hc), by rw [List.length_dropLast]; omega⟩
      · simp at h
theorem psT_cl {k : Nat} : ∀ (n : Nat) (row : List Nat), row.length ≤ n → ∀ w ∈ psT k row, Cl k w ∧ w.length ≤ row.length := by
  intro n row _
  have key : ∀ (row : List Nat) (l : List (List Nat)) (b : Nat), (∀ w ∈ l, Cl k w ∧ w.length ≤ b) → ∀ w ∈ row.foldl (fun l s => l.flatMap (nxT k s)) l, Cl k w ∧ w.length ≤ b + row.length := by
    intro row
    induction row with
    | nil => intro l b h w hw; exact h w hw
    | cons s row ih =>
      intro l b h w hw
      rw [List.foldl_cons] at hw
      have := ih _ (b + 1) (fun w' hw' => by
        obtain ⟨w0, h0, h1⟩ := List.mem_flatMap.mp hw'
        obtain ⟨q1, q2⟩ := nxT_cl (h w0 h0).1 h1
        exact ⟨q1, by have := (h w0 h0).2; omega⟩) w hw
      exact ⟨this.1, by rw [List.length_cons]; omega⟩
  intro w hw
  have := key row [[]] 0 (fun w h => by rw [List.mem_singleton] at h; subst h; exact ⟨fun c hc => by simp at hc, by simp⟩) w hw
  exact ⟨this.1, by omega⟩
end G
set_option Elab.async false
set_option linter.all false
set_option maxRecDepth 100000
set_option maxHeartbeats 4000000
namespace G
theorem run_snoc_op {z : List Nat} {a : Nat} {st : List Nat} (ha : isOp a = true) (h : run [] z = some st) : run [] (z ++ [a]) = some (oth a :: st) := by
  rw [run_app, h, Option.bind_some, run_op ha]; rfl
theorem run_snoc {z : List Nat} {a : Nat} {st : List Nat} (h : run [] (z ++ [a]) = some st) : ∃ s0, run [] z = some s0 ∧ ((isOp a = true ∧ st = oth a :: s0) ∨ (isOp a = false ∧ s0 = a :: st)) := by
  rw [run_app] at h
  cases e : run [] z with
  | none => rw [e] at h; cases h
  | some s0 =>
    rw [e, Option.bind_some] at h
    refine ⟨s0, rfl, ?_⟩
    by_cases ha : isOp a = true
    · rw [run_op ha] at h
      exact .inl ⟨ha, (Option.some.inj h).symm⟩
    · have ha : isOp a = false := by simpa using ha
      refine .inr ⟨ha, ?_⟩
      by_cases hs : ∃ s, s0 = a :: s
      · obtain ⟨s, rfl⟩ := hs
        rw [run_cl ha] at h
        rw [Option.some.inj h]
      · rw [run_no ha fun s e => hs ⟨s, e⟩] at h
        cases h
noncomputable def OpAt (k : Nat) (row : List Nat) (p h : Nat) : Prop := ∃ z st, kin k z ∧ fit (row.take p) z = true ∧ run [] z = some st ∧ st.length = h
theorem mem_nxT {k s : Nat} {w w' : List Nat} : w' ∈ nxT k s w ↔ (∃ d, d < k ∧ lets s (opc d) = true ∧ w' = w ++ [clc d]) ∨ ∃ c, w = w' ++ [c] ∧ lets s c = true := by
  unfold nxT
  rw [List.mem_append, List.mem_map]
  constructor
  · rintro (⟨d, hd, rfl⟩ | h)
    · rw [List.mem_filter, List.mem_range] at hd
      exact .inl ⟨d, hd.1, hd.2, rfl⟩
    · cases hw : w.reverse with
      | nil => rw [hw] at h; simp at h
      | cons c st =>
        rw [hw] at h
        simp only at h
        split at h
        · rename_i hl
          rw [List.mem_singleton] at h
          have e : w = st.reverse ++ [c] := by
            have := congrArg List.reverse hw
            simpa using this
          subst e
          rw [List.dropLast_concat] at h
          subst h
          exact .inr ⟨c, rfl, hl⟩
        · simp at h
  · rintro (⟨d, h1, h2, rfl⟩ | ⟨c, rfl, hl⟩)
    · exact .inl ⟨d, List.mem_filter.mpr ⟨List.mem_range.mpr h1, h2⟩, rfl⟩
    · right
      rw [List.reverse_append]
      simp [hl]
theorem psT_run {k : Nat} (hk : k ≤ 4) : ∀ (n : Nat) (row : List Nat), row.length = n → ∀ w, w ∈ psT k row ↔ ∃ z, kin k z ∧ fit row z = true ∧ run [] z = some w.reverse
  | 0, row, hn, w => by
    have : row = [] := List.length_eq_zero_iff.mp hn
    subst this
    constructor
    · intro h
      have h : w ∈ [([] : List Nat)] := h
      rw [List.mem_singleton] at h
      subst h
      exact ⟨[], fun c hc => by simp at hc, rfl, rfl⟩
    · rintro ⟨z, _, h2, h3⟩
      have : z = [] := List.length_eq_zero_iff.mp (by have := fit_len h2; simpa using this)
      subst this
      have h3 : ([] : List Nat) = w.reverse := Option.some.inj h3
      have : w = [] := by simpa using h3.symm
      subst this
      show [] ∈ [([] : List Nat)]
      simp
  | n + 1, row, hn, w => by
    rcases List.eq_nil_or_concat row with rfl | ⟨r, s, rfl⟩
    · cases hn
    rw [List.concat_eq_append] at hn ⊢
    rw [List.length_append, List.length_singleton] at hn
    have ih := psT_run hk n r (by omega)
    rw [psT_snoc, List.mem_flatMap]
    constructor
    · rintro ⟨w0, hw0, hw⟩
      obtain ⟨z, h1, h2, h3⟩ := (ih w0).mp hw0
      rcases mem_nxT.mp hw with ⟨d, hd, hl, rfl⟩ | ⟨c, rfl, hl⟩
      · refine ⟨z ++ [opc d], kin_app.mpr ⟨h1, fun c hc => ?_⟩, by rw [fit_snoc (fit_len h2), h2, hl]; rfl, ?_⟩
        · rw [List.mem_singleton] at hc; subst hc; exact (opc_brs hd hk).1
        · rw [run_snoc_op (opc_op (by omega)) h3, oth_opc (by omega)]; simp
      · have hcl := (psT_cl (k := k) r.length r (Nat.le_refl _) _ hw0).1
        obtain ⟨i, hi, rfl⟩ := hcl c (by simp)
        refine ⟨z ++ [clc i], kin_app.mpr ⟨h1, fun c hc => ?_⟩, by rw [fit_snoc (fit_len h2), h2, hl]; rfl, ?_⟩
        · rw [List.mem_singleton] at hc; subst hc; exact (opc_brs hi hk).2
        · rw [run_app, h3, Option.bind_some, List.reverse_append]
          exact run_cl (isOp_clc (by omega)) _ _
    · rintro ⟨z, h1, h2, h3⟩
      have hl := fit_len h2
      rcases List.eq_nil_or_concat z with rfl | ⟨y, a, rfl⟩
      · rw [List.length_append] at hl; simp at hl
      rw [List.concat_eq_append] at h1 h2 h3 hl
      simp only [List.length_append, List.length_singleton] at hl
      rw [fit_snoc (by omega)] at h2
      simp only [Bool.and_eq_true] at h2
      rw [kin_app] at h1
      have ha : a ∈ brs k := h1.2 a (by simp)
      obtain ⟨s0, h0, ⟨ho, e⟩ | ⟨ho, e⟩⟩ := run_snoc h3
      · obtain ⟨i, hi, rfl⟩ := brs_op hk ha ho
        refine ⟨s0.reverse, (ih _).mpr ⟨y, h1.1, h2.1, by rw [List.reverse_reverse]; exact h0⟩, mem_nxT.mpr (.inl ⟨i, hi, h2.2, ?_⟩)⟩
        rw [oth_opc (by omega)] at e
        have := congrArg List.reverse e
        simpa using this
      · refine ⟨s0.reverse, (ih _).mpr ⟨y, h1.1, h2.1, by rw [List.reverse_reverse]; exact h0⟩, mem_nxT.mpr (.inr ⟨a, ?_, h2.2⟩)⟩
        rw [e]; simp
theorem op_ps {k : Nat} (hk : k ≤ 4) {row : List Nat} {p h : Nat} : OpAt k row p h ↔ ∃ w ∈ psT k (row.take p), w.length = h := by
  constructor
  · rintro ⟨z, st, h1, h2, h3, h4⟩
    exact ⟨st.reverse, (psT_run hk _ _ rfl _).mpr ⟨z, h1, h2, by rw [List.reverse_reverse]; exact h3⟩, by rw [List.length_reverse, h4]⟩
  · rintro ⟨w, hw, rfl⟩
    obtain ⟨z, h1, h2, h3⟩ := (psT_run hk _ _ rfl _).mp hw
    exact ⟨z, w.reverse, h1, h2, h3, List.length_reverse⟩
theorem op_le {k : Nat} {row : List Nat} {p h : Nat} (hk : k ≤ 4) (o : OpAt k row p h) : h ≤ p := by
  obtain ⟨w, hw, rfl⟩ := (op_ps hk).mp o
  have := (psT_cl (k := k) _ _ (Nat.le_refl _) w hw).2
  rw [List.length_take] at this; omega
end G
set_option Elab.async false
set_option linter.all false
set_option maxRecDepth 100000
set_option maxHeartbeats 4000000
namespace G
open PySem PySem.Spec PyProof.Rows L2 SX Evl
section
variable {X : Cx} {XC : CXT} {k : Nat} {f C : Addr} {fd : FuncData} {ps : List Str} {sp : Sp} {E : L2.St → XK} {x m : Str} {p pos apos : Pos} {e o : Expr} {es : List Expr} {ta : TE} {t : TA}
end
section
variable {P : Program} {w : World} {K : PySem.W.Frag} {mg : Str → Option Value} {base : Heap}
end
section
variable {g : Gm} {G H : Hp}
end
section
variable {X : Cx} {e : Expr} {d : Den} {pos : Pos} {c i : Nat} {f : Str}
end
section
variable {X : Cx} {F : FD} {as : List (Bool × Den)} {c j : Nat} {x m : Str} {p1 apos pos : Pos} {e : Expr} {es : List Expr}
end
end G
set_option Elab.async false
set_option linter.all false
set_option maxRecDepth 100000
set_option maxHeartbeats 4000000
namespace G
open PySem PySem.Spec PyProof.Rows L2 SX Evl
noncomputable def FV (g : Gm) (H H2 : Hp) : Val → V → Prop
  | .im y, v => flat y = true ∧ ∀ G' : Hp, Rp g G' y v
  | .ow y, v => ∃ a vs ys, y = .lst ys ∧ v = .ref a ∧ H a = none ∧ H2 a = some (.lst vs) ∧ ys.all flat = true ∧ ∀ G' : Hp, Rps g G' ys vs
  | .loc _, _ => False
section
variable {g : Gm} {W : WX} {P0 : Nat → Option Addr} {env : Env} {σ : L2.St} {G H G' H' H0 : Hp} {p : Addr}
theorem rps_flat : ∀ {ds : List D} {vs : List V}, ds.all flat = true → Rps g G ds vs → Rps g G' ds vs
  | [], _, _, h => h
  | d :: ds, _, hf, h => by
    obtain ⟨v, r, e, h1, h2⟩ := h
    rw [List.all_cons, Bool.and_eq_true] at hf
    exact ⟨v, r, e, flat_rp hf.1 h1, rps_flat hf.2 h2⟩
theorem Sim.looked (s : Sim g P0 env σ G H) (hH : Ex H H') : Sim g P0 env σ G H' ∧ Tr (OA env σ) G H (OA env σ) G H' :=
  ⟨s.grow (Ex.refl G) hH (s.ex.trans hH) (fun a z => .inl z), Tr.grow s.at (Ex.refl G) hH fun a z => .inl z⟩
theorem FV.vr {v : Val} {x : V} (s : Sim g P0 env σ G H) (hH : Ex H H') (f : FV g H H' v x) : VR g env σ H G H' v x := by
  cases v with
  | im y => exact f.2 G
  | loc i => exact f.elim
  | ow y =>
    obtain ⟨a, vs, ys, rfl, rfl, h1, h2, _, h3⟩ := f
    have hG : G a = none := by
      cases e : G a with
      | none => rfl
      | some u => rw [s.ex a u e] at h1; cases h1
    have hc : Co g G (.lst ys) (.lst vs) := ⟨vs, rfl, h3 G⟩
    refine ⟨a, rfl, ⟨hG, _, h2, hc.x⟩, fun b z q => ?_, fun b z => by rw [hc.cel h2 z]; exact h1⟩
    rw [hc.cel h2 z] at q
    obtain ⟨_, o, ho⟩ := s.cl (cl_grow s.at hH q)
    rw [h1] at ho; cases ho
end
section
variable {g : Gm} {W : WX} {P0 : Nat → Option Addr} {env envB : Env} {σ σB : L2.St} {G H G' H' H0 : Hp}
theorem Sim.sub (s : Sim g P0 envB σB G H) (hl : env.length = σ.length) (h1 : ∀ i, i < env.length → env[i]? = envB[i]?) (h2 : ∀ i, i < env.length → σ[i]? = σB[i]?) : Sim g P0 env σ G H := by
  have lt : ∀ {i : Nat} {t : Slot}, env[i]? = some t → i < env.length := fun h => (List.getElem?_eq_some_iff.mp h).1
  exact {
    ex := s.ex
    len := hl
    im := fun i d h => by rw [h2 i (lt h)]; exact s.im i d (by rw [← h1 i (lt h)]; exact h)
    ow := fun i t d h h' => by rw [h2 i (lt h)]; exact s.ow i t d (by rw [← h1 i (lt h)]; exact h) h'
    dis := fun i j t u d e p a1 a2 a3 a4 a5 a6 => s.dis i j t u d e p (by rw [← h1 i (lt a1)]; exact a1) a2 (by rw [← h1 j (lt a3)]; exact a3) a4 (by rw [← h2 i (lt a1)]; exact a5) (by rw [← h2 j (lt a3)]; exact a6)
    io := fun i d h => by rw [h2 i (lt h)]; exact s.io i d (by rw [← h1 i (lt h)]; exact h)
    pv := fun i j t u d e p q a a1 a2 a3 a4 a5 a6 a7 a8 => s.pv i j t u d e p q a (by rw [← h1 i (lt a1)]; exact a1) a2 (by rw [← h1 j (lt a3)]; exact a3) a4 (by rw [← h2 i (lt a1)]; exact a5) (by rw [← h2 j (lt a3)]; exact a6) a7 a8 }
end
end G
set_option Elab.async false
set_option linter.all false
set_option maxRecDepth 100000
set_option maxHeartbeats 4000000
namespace G
open PySem PySem.Spec PyProof.Rows L2 SX Evl
section
variable {X : Cx} {F : FD} {as : List Den} {c : Nat} {x : Str} {p pos : Pos} {e : Expr} {es : List Expr}
end
noncomputable def setAt (ds : List D) (i : Nat) (x : D) : Option (List D) := if i < ds.length then some (ds.set i x) else if i = ds.length then some (ds ++ [x]) else none
section
variable {g : Gm} {P0 : Nat → Option Addr} {env : Env} {σ : L2.St} {G H H' G0 H0 : Hp} {M0 : Addr → Prop} {p : Addr}
end
end G
set_option Elab.async false
set_option linter.all false
set_option maxRecDepth 100000
set_option maxHeartbeats 4000000
namespace G
open PySem PySem.Spec PyProof.Rows L2 SX Evl
section
variable {X : Cx} {e : Expr} {d : Den} {c j i : Nat} {x f : Str} {p1 pos pos' : Pos}
end
section
variable {X : Cx} {e : Expr} {d : Den} {c j i : Nat} {x f : Str} {p1 pos pos' : Pos} {op : Operator} {r : V → V → Hp → VK → Prop} {fn : D → D → Option D}
end
noncomputable def vD : Val → Option D
  | .im y => some y
  | .ow y => some y
  | .loc _ => none
section
variable {g : Gm} {P0 : Nat → Option Addr} {env : Env} {σ : L2.St} {G H H' : Hp}
theorem FV.still {v : Val} {x : V} {y : D} (s : Sim g P0 env σ G H) (hH : Ex H H') (f : FV g H H' v x) (e : vD v = some y) : ∃ G', Sim g P0 env σ G' H' ∧ Tr (OA env σ) G H (OA env σ) G' H' ∧ Rp g G' y x := by
  obtain ⟨s1, t1⟩ := s.looked hH
  have w := f.vr s hH
  cases v with
  | im z => cases e; exact ⟨G, s1, t1, f.2 G⟩
  | loc i => cases e
  | ow z =>
    cases e
    obtain ⟨G', a1, a2, a3⟩ := fz_now (v := .ow y) s1 t1 w rfl
    exact ⟨G', a1, a2, a3⟩
end
section
variable {X : Cx} {e : Expr} {d : Den} {c j i : Nat} {x fn name : Str} {p1 p2 apos cpos : Pos} {T id : String} {kd : D → Bool} {f : D → List D → Option (D × D)} {r : V → List V → Hp → VK → Prop}
end
section
variable {X : Cx} {e ie : Expr} {de di : Den} {c j i : Nat} {x fn : Str} {p1 p2 tpos pos : Pos}
end
end G
namespace G
open PySem L2
end G
set_option Elab.async false
set_option linter.all false
set_option maxRecDepth 100000
set_option maxHeartbeats 4000000
namespace G
local macro_rules
  | `(tactic| congr) => `(tactic| first | refine post_k ?_ | refine need_k ?_ | refine needI_k ?_ | refine needB_k ?_ | refine wpP_k ?_ | refine wpE_k ?_ | refine wpS_k ?_ | refine wpA_k ?_ | refine wpI_k ?_ | refine wpF_k ?_ | congr 50)
variable {X : EX}
section
variable {s : Slot} {r : Env} {Q : Val → Env → Prop} {P : Fl → Env → Prop} {d a b : Den} {c i j : Nat}
theorem vD_im {y : D} : vD (.im y) = some y := rfl
theorem vD_ow {y : D} : vD (.ow y) = some y := rfl
end
end G
set_option Elab.async false
set_option linter.all false
set_option maxRecDepth 100000
set_option maxHeartbeats 4000000
namespace G
open PySem PySem.Spec PyProof.Rows L2 SX Evl
noncomputable def pickH : List (Nat × SDen) → Nat → Option SDen
  | [], _ => none
  | (n, h) :: r, c => if catches n c = true then some h else pickH r c
inductive HdG (X : Cx) : List ExceptHandler → List (Nat × SDen) → Prop
  | nil : HdG X [] []
  | cons {n : Nat} {x : Str} {h : SDen} {b₀ : Stmt} {suite : List Stmt} {np pos' : Pos} {hds : List ExceptHandler} {l : List (Nat × SDen)} (hx : x = excName n) (hg : Gl X x) (hdb : (x == ("__debug__" : Str)) = false) (hC : CatchF X.K X.mg n) (hm : ∃ c, X.mg (excName n) = some c)
      (hsu : ∀ (a : Addr) (pn : List (Addr × Obj)), SSs (X.suite a pn) (b₀ :: suite) h) (r : HdG X hds l) : HdG X (.ExceptHandler (some (.Name x np)) none (b₀ :: suite) pos' :: hds) ((n, h) :: l)
theorem HdG.ok {X : Cx} {hds : List ExceptHandler} {l : List (Nat × SDen)} (k : HdG X hds l) : ∃ l', HdsOk X hds l' ∧ ∀ (m : Nat) (cls : Value) (σ : L2.St) (H : Hp) (D : Ends) (Wout : WX), X.mg (excName m) = some cls →
    (∀ h, pickH l m = some h → tsOf (gm X) (fun _ _ _ _ => False) h D σ H) → (pickH l m = none → Wout cls none σ H) → wMany X.K Wout D l' cls none σ H := by
  induction k with
  | nil => exact ⟨[], .nil, fun m cls σ H D Wout _ _ q => q rfl⟩
  | @cons n x h b₀ suite np pos' hds l hx hg hdb hC hm hsu r ih =>
    obtain ⟨l', h1, h2⟩ := ih
    obtain ⟨c, hm⟩ := hm
    subst hx
    refine ⟨(c, fun _ _ _ => tsOf (gm X) (fun _ _ _ _ => False) h) :: l', .cons ⟨hg, hdb, .inl hm⟩ (fun a oe cls d pn _ _ => hsu a _ _ takes0) h1, fun m cls σ H D Wout hcls a1 a2 => ?_⟩
    refine ⟨catches n m, hC m cls c hcls hm, fun hb a na => ?_, fun hb => ?_⟩
    · exact a1 h (by show (if catches n m = true then some h else _) = _; rw [if_pos hb])
    · have e : pickH ((n, h) :: l) m = pickH l m := by show (if catches n m = true then some h else _) = _; rw [hb]; rfl
      rw [e] at a1 a2
      exact h2 m cls σ H D Wout hcls a1 a2
section
variable {X : Cx} {body : List Stmt} {h₀ : ExceptHandler} {hds : List ExceptHandler} {l : List (Nat × SDen)} {pos : Pos} {b : SDen}
end
end G
set_option Elab.async false
set_option linter.all false
set_option maxRecDepth 100000
set_option maxHeartbeats 4000000
namespace G
open PySem PySem.Spec PyProof.Rows L2 SX Evl
end G
set_option Elab.async false
set_option linter.all false
set_option maxRecDepth 100000
set_option maxHeartbeats 4000000
namespace G
noncomputable def blk (k s : Nat) (L : List Nat → List (List Nat)) (st : List Nat) (b : Nat) : List (List Nat) :=
  if lets s (brc b) = true then (if b % 2 = 0 then (L (b / 2 :: st)).map (brc b :: ·) else match st with | [] => [] | d :: st' => if d = b / 2 then (L st').map (brc b :: ·) else []) else []
noncomputable def kd (c : Nat) : Nat := BR.idxOf c / 2
end G
set_option Elab.async false
set_option linter.all false
set_option maxRecDepth 100000
set_option maxHeartbeats 4000000
namespace G
end G
set_option Elab.async false
set_option linter.all false
set_option maxRecDepth 100000
set_option maxHeartbeats 4000000
namespace G
open PySem PySem.Spec PyProof.Rows L2 SX Evl
end G
set_option Elab.async false
set_option linter.all false
set_option maxRecDepth 100000
set_option maxHeartbeats 4000000
namespace G
open PySem PySem.Spec PyProof.Rows L2 SX Evl PySem.W
end G
set_option Elab.async false
set_option linter.all false
set_option maxRecDepth 100000
set_option maxHeartbeats 4000000
namespace G
open PySem PySem.Spec PyProof.Rows L2 SX Evl
section
variable {g : Gm} {W : WX} {P0 : Nat → Option Addr} {env : Env} {σ : L2.St} {G H G' H' : Hp} {vs : List Val} {xs : List V} {sl l : List Slot} {x : D} {p : Addr}
theorem push_get {env : Env} {t s : Slot} {i : Nat} (h : (env ++ [t])[i]? = some s) : env[i]? = some s ∨ (i = env.length ∧ s = t) := by
  by_cases hi : i < env.length
  · rw [List.getElem?_append_left hi] at h; exact .inl h
  · rw [List.getElem?_append_right (by omega)] at h
    cases e : i - env.length with
    | zero => rw [e] at h; exact .inr ⟨by omega, by simpa using h.symm⟩
    | succ n => rw [e] at h; simp at h
theorem push_l {α : Type} {σ : List α} {u : α} {i : Nat} {v : α} (h : σ[i]? = some v) : (σ ++ [u])[i]? = some v := by
  rw [List.getElem?_append_left (List.getElem?_eq_some_iff.mp h).1]; exact h
theorem push_last {α : Type} {σ : List α} {u : α} {n : Nat} (h : n = σ.length) : (σ ++ [u])[n]? = some u := by subst h; simp
theorem push_in {α : Type} {σ : List α} {u v : α} {i : Nat} (hi : i < σ.length) (h : (σ ++ [u])[i]? = some v) : σ[i]? = some v := by rwa [List.getElem?_append_left hi] at h
theorem Sim.push (hs : Sim g P0 env σ G H) (ho : Own g G H x p) (hd : ∀ a, Cel H p a → ¬ OCl (OA env σ) H a) : Sim g P0 (env ++ [.ow x]) (σ ++ [some (.ref p)]) G H where
  ex := hs.ex
  len := by rw [List.length_append, List.length_append, hs.len]; rfl
  im := fun i d h => by
    rcases push_get h with h | ⟨_, h⟩
    · obtain ⟨v, h1, h2⟩ := hs.im i d h
      exact ⟨v, push_l h1, h2⟩
    · cases h
  ow := fun i s d h h' => by
    rcases push_get h with h | ⟨rfl, rfl⟩
    · obtain ⟨q, h1, h2⟩ := hs.ow i s d h h'
      exact ⟨q, push_l h1, h2⟩
    · cases h'
      exact ⟨p, push_last hs.len, ho⟩
  dis := fun i j s t d e q h1 h2 h3 h4 h5 h6 => by
    rcases push_get h1 with h1 | ⟨rfl, rfl⟩
    · have l1 : i < σ.length := by rw [← hs.len]; exact (List.getElem?_eq_some_iff.mp h1).1
      have h5 := push_in l1 h5
      rcases push_get h3 with h3 | ⟨rfl, rfl⟩
      · exact hs.dis i j s t d e q h1 h2 h3 h4 h5 (push_in (by rw [← hs.len]; exact (List.getElem?_eq_some_iff.mp h3).1) h6)
      · rw [push_last hs.len] at h6
        cases h6
        exact (hd _ (.inl rfl) (OCl.top ⟨i, s, d, h1, h2, h5⟩)).elim
    · rw [push_last hs.len] at h5
      cases h5
      rcases push_get h3 with h3 | ⟨rfl, rfl⟩
      · exact (hd _ (.inl rfl) (OCl.top ⟨j, t, e, h3, h4, push_in (by rw [← hs.len]; exact (List.getElem?_eq_some_iff.mp h3).1) h6⟩)).elim
      · rfl
  io := fun i d h => by
    rcases push_get h with h | ⟨_, h⟩
    · obtain ⟨q, h1, h2⟩ := hs.io i d h
      exact ⟨q, h1, push_l h2⟩
    · cases h
  pv := fun i j s t d e q r a h1 h2 h3 h4 h5 h6 h7 h8 => by
    rcases push_get h1 with h1 | ⟨rfl, rfl⟩
    · have l1 : i < σ.length := by rw [← hs.len]; exact (List.getElem?_eq_some_iff.mp h1).1
      have h5 := push_in l1 h5
      rcases push_get h3 with h3 | ⟨rfl, rfl⟩
      · exact hs.pv i j s t d e q r a h1 h2 h3 h4 h5 (push_in (by rw [← hs.len]; exact (List.getElem?_eq_some_iff.mp h3).1) h6) h7 h8
      · rw [push_last hs.len] at h6
        cases h6
        exact (hd a h8 ⟨q, ⟨i, s, d, h1, h2, h5⟩, .inr h7⟩).elim
    · rw [push_last hs.len] at h5
      cases h5
      rcases push_get h3 with h3 | ⟨rfl, rfl⟩
      · exact (hd a (.inr h7) ⟨r, ⟨j, t, e, h3, h4, push_in (by rw [← hs.len]; exact (List.getElem?_eq_some_iff.mp h3).1) h6⟩, h8⟩).elim
      · rfl
end
section
variable {X : Cx} {F : FD} {d : Den} {as : List (Bool × Den)}
end
end G
set_option Elab.async false
set_option linter.all false
set_option maxRecDepth 100000
set_option maxHeartbeats 4000000
namespace G
local macro_rules
  | `(tactic| congr) => `(tactic| first | refine post_k ?_ | refine need_k ?_ | refine needI_k ?_ | refine needB_k ?_ | refine wpP_k ?_ | refine wpE_k ?_ | refine wpS_k ?_ | refine wpA_k ?_ | refine wpI_k ?_ | refine wpF_k ?_ | congr 50)
variable {X : EX} {s : Slot} {r : Env}
end G
set_option Elab.async false
set_option linter.all false
set_option maxRecDepth 100000
set_option maxHeartbeats 4000000
namespace G
open PySem PySem.Spec PyProof.Rows L2 SX Evl
section
variable {X : Cx} {es : List Expr} {ls : List (List Nat)} {il ip : Nat} {kx px : Str} {j0 x1 : Nat} {p0 p1 p2 p3 p4 c0 apos pos lpos cpos : Pos}
end
section
variable {X : Cx} {es : List Expr} {ls : List (List Nat)} {il ip : Nat} {kx px : Str} {j0 x1 : Nat} {p0 p1 p2 p3 p4 c0 apos pos lpos cpos : Pos} {rest : List Stmt} {b : SDen}
end
end G
set_option Elab.async false
set_option linter.all false
set_option maxRecDepth 100000
set_option maxHeartbeats 4000000
namespace G
open PySem PySem.Spec PyProof.Rows L2 SX Evl
section
variable {prog : Program} {w : World} {A : Around} {E : Value → Shared → Prop} {s : Shared}
end
end G
set_option Elab.async false
set_option linter.all false
set_option maxRecDepth 100000
set_option maxHeartbeats 4000000
namespace G
open PySem PySem.Spec PyProof.Rows L2 SX Evl PySem.W
local macro_rules
  | `(tactic| congr) => `(tactic| first | refine post_k ?_ | refine need_k ?_ | refine needI_k ?_ | refine needB_k ?_ | refine wpP_k ?_ | refine wpE_k ?_ | refine wpS_k ?_ | refine wpA_k ?_ | refine wpI_k ?_ | refine wpF_k ?_ | congr 50)
end G
set_option Elab.async false
set_option linter.all false
set_option maxRecDepth 100000
set_option maxHeartbeats 4000000
namespace G
open PySem PySem.Spec PyProof.Rows L2 SX Evl
local macro_rules
  | `(tactic| congr) => `(tactic| first | refine post_k ?_ | refine need_k ?_ | refine needI_k ?_ | refine needB_k ?_ | refine wpP_k ?_ | refine wpE_k ?_ | refine wpS_k ?_ | refine wpA_k ?_ | refine wpI_k ?_ | refine wpF_k ?_ | congr 50)
section
variable {X : Cx} {o : Expr} {p pos apos mpos : Pos} {td : TE}
end
end G
set_option Elab.async false
set_option linter.all false
set_option maxRecDepth 100000
set_option maxHeartbeats 4000000
namespace G
open PySem PySem.Spec PyProof.Rows L2 SX Evl
end G
set_option Elab.async false
set_option linter.all false
set_option maxRecDepth 100000
set_option maxHeartbeats 4000000
namespace G
open PySem PySem.Spec PyProof.Rows L2 SX Evl
end G
set_option Elab.async false
set_option linter.all false
set_option maxRecDepth 100000
set_option maxHeartbeats 4000000
namespace G
open PySem PySem.Spec PyProof.Rows L2 SX Evl
local macro_rules
  | `(tactic| congr) => `(tactic| first | refine post_k ?_ | refine need_k ?_ | refine needI_k ?_ | refine needB_k ?_ | refine wpP_k ?_ | refine wpE_k ?_ | refine wpS_k ?_ | refine wpA_k ?_ | refine wpI_k ?_ | refine wpF_k ?_ | congr 50)
section
variable {X : Cx} {a b : Expr} {da db : Den} {i1 i2 j : Nat} {x y : Str} {px py pt pos : Pos} {kt k2 pt2}
end
variable {X : EX} {s : Slot} {r : Env} {j : Nat}
end G
set_option Elab.async false
set_option linter.all false
set_option maxRecDepth 100000
set_option maxHeartbeats 4000000
namespace G
end G
set_option Elab.async false
set_option linter.all false
set_option maxRecDepth 100000
set_option maxHeartbeats 4000000
namespace G
end G
set_option Elab.async false
set_option linter.all false
set_option maxRecDepth 100000
set_option maxHeartbeats 4000000
namespace G
noncomputable def st (k : Nat) (row : List Nat) (a b : Nat) : Nat := cnt k ((row.drop a).take (b - a))
end G
set_option Elab.async false
set_option linter.all false
set_option maxRecDepth 100000
set_option maxHeartbeats 4000000
namespace G
open PySem PySem.Spec PyProof.Rows L2 SX Evl
local macro_rules
  | `(tactic| congr) => `(tactic| first | refine post_k ?_ | refine need_k ?_ | refine needI_k ?_ | refine needB_k ?_ | refine wpP_k ?_ | refine wpE_k ?_ | refine wpS_k ?_ | refine wpA_k ?_ | refine wpI_k ?_ | refine wpF_k ?_ | congr 50)
noncomputable def parD (c : Nat) (x : List Nat) : D := match TL.par [c] [] x with
  | some (p, q) => .tup [.str p, .str [c], .str q]
  | none => .tup [.str x, .str [], .str []]
section
variable {X : Cx} {a : Expr} {y : Str} {p pos : Pos} {d : Den} {xs : List (List Nat)}
end
section
variable {X : Cx} {e : Expr} {y : Str} {p p2 apos pos : Pos} {d : Den} {tab : List (List Nat × List Nat)}
end
end G
set_option Elab.async false
set_option linter.all false
set_option maxRecDepth 100000
set_option maxHeartbeats 4000000
namespace G
open PySem PySem.Spec PyProof.Rows L2 SX Evl
local macro_rules
  | `(tactic| congr) => `(tactic| first | refine post_k ?_ | refine need_k ?_ | refine needI_k ?_ | refine needB_k ?_ | refine wpP_k ?_ | refine wpE_k ?_ | refine wpS_k ?_ | refine wpA_k ?_ | refine wpI_k ?_ | refine wpF_k ?_ | congr 50)
section
variable {X : Cx} {e : Expr} {d : Den} {c j i : Nat} {x fn : Str} {p1 p2 apos cpos : Pos}
end
end G
set_option Elab.async false
set_option linter.all false
set_option maxRecDepth 100000
set_option maxHeartbeats 4000000
namespace G
open PySem PySem.Spec PyProof.Rows L2 SX Evl
end G
set_option Elab.async false
set_option linter.all false
set_option maxRecDepth 100000
set_option maxHeartbeats 4000000
namespace G
open PySem PySem.Spec PyProof.Rows L2 SX Evl
variable {X : EX}
end G
set_option Elab.async false
set_option linter.all false
set_option maxRecDepth 100000
set_option maxHeartbeats 4000000
namespace G
open PySem PySem.Spec PyProof.Rows L2 SX Evl
end G
set_option Elab.async false
set_option linter.all false
set_option maxRecDepth 100000
set_option maxHeartbeats 4000000
namespace G
open PySem PySem.Spec PyProof.Rows L2 SX Evl Builtin Builtin.Str
section
variable {prog : Program} {w : World} {A : Around} {E : Value → Shared → Prop} {s : Shared} {x y z : Str} {t u v k1 : Tok} {Q : Value → Shared → Prop}
end
section
variable {X : Cx} {o e f : Expr} {te tf : TE} {to : TE} {y z : Str} {j k l : Nat} {c0 c1 c2 apos pos p p' : Pos}
end
section
variable {X : Cx} {o e c : Expr} {d dt : Den} {y z : Str} {ly lz : List Nat} {j k l : Nat} {c0 c1 c2 apos pos : Pos} {st : Stmt} {rest x1 x2 : List Stmt} {a b : SDen}
end
end G
set_option Elab.async false
set_option linter.all false
set_option maxRecDepth 100000
namespace G
open PySem PySem.Spec PyProof.Rows L2 SX Evl
section
variable {X : EX} {s : Slot} {r e : Env} {Q : Val → Env → Prop} {P : Fl → Env → Prop} {a b c d : Den} {f : D → D → Option Val} {g : D → Option Val} {v u w : Val} {x y : D} {t bb : Bool}
noncomputable def kNm (Q : Val → Env → Prop) (e : Env) : Val → Prop := fun v => Q v e
theorem kNm_ap : kNm Q e v = Q v e := propext Iff.rfl
theorem kNm_some : need (some v) (kNm Q e) = Q v e := propext Iff.rfl
noncomputable def kB2 (f : D → D → Option Val) (v : Val) (Q : Val → Env → Prop) : Val → Env → Prop := fun w e2 => need (rd v e2) fun x => need (rd w e2) fun y => need (f x y) fun u => Q u e2
noncomputable def kB1 (X : EX) (f : D → D → Option Val) (b : Den) (Q : Val → Env → Prop) : Val → Env → Prop := fun v e1 => wpE X b e1 (kB2 f v Q)
theorem wpE_binK : wpE X (dBin f a b) (s :: r) Q = wpE X a (s :: r) (kB1 X f b Q) := wpE_bin
theorem kB1_ap : kB1 X f b Q v e = wpE X b e (kB2 f v Q) := propext Iff.rfl
theorem kB2_ii : kB2 f (.im x) Q (.im y) e = need (f x y) (kNm Q e) := propext Iff.rfl
theorem kB2_ap : kB2 f v Q w e = need (rd v e) fun x => need (rd w e) fun y => need (f x y) (kNm Q e) := propext Iff.rfl
noncomputable def kU1 (g : D → Option Val) (Q : Val → Env → Prop) : Val → Env → Prop := fun v e1 => need (rd v e1) fun x => need (g x) fun u => Q u e1
theorem wpE_unK : wpE X (dUn g a) (s :: r) Q = wpE X a (s :: r) (kU1 g Q) := wpE_un
theorem kU1_i : kU1 g Q (.im x) e = need (g x) (kNm Q e) := propext Iff.rfl
theorem kU1_ap : kU1 g Q v e = need (rd v e) fun x => need (g x) (kNm Q e) := propext Iff.rfl
noncomputable def kNt (Q : Val → Env → Prop) : Val → Env → Prop := fun v e1 => need (tru v e1) fun b => Q (.im (.bl (!b))) e1
theorem wpE_notK : wpE X (dNot a) (s :: r) Q = wpE X a (s :: r) (kNt Q) := wpE_not
theorem kNt_b : kNt Q (.im (.bl t)) e = Q (.im (.bl (!t))) e := propext Iff.rfl
theorem kNt_ap : kNt Q v e = need (tru v e) fun b => Q (.im (.bl (!b))) e := propext Iff.rfl
noncomputable def kAn (X : EX) (b : Den) (Q : Val → Env → Prop) : Val → Env → Prop := fun v e1 => need (tru v e1) fun t => if t = true then wpE X b e1 Q else Q (.im (.bl false)) e1
theorem wpE_andK : wpE X (dAnd a b) (s :: r) Q = wpE X a (s :: r) (kAn X b Q) := wpE_and
theorem kAn_t : kAn X b Q (.im (.bl true)) e = wpE X b e Q := propext Iff.rfl
theorem kAn_f : kAn X b Q (.im (.bl false)) e = Q (.im (.bl false)) e := propext Iff.rfl
theorem kAn_ap : kAn X b Q v e = need (tru v e) fun t => if t = true then wpE X b e Q else Q (.im (.bl false)) e := propext Iff.rfl
noncomputable def kOr (X : EX) (b : Den) (Q : Val → Env → Prop) : Val → Env → Prop := fun v e1 => need (tru v e1) fun t => if t = true then Q (.im (.bl true)) e1 else wpE X b e1 Q
theorem wpE_orK : wpE X (dOr a b) (s :: r) Q = wpE X a (s :: r) (kOr X b Q) := wpE_or
theorem kOr_t : kOr X b Q (.im (.bl true)) e = Q (.im (.bl true)) e := propext Iff.rfl
theorem kOr_f : kOr X b Q (.im (.bl false)) e = wpE X b e Q := propext Iff.rfl
theorem kOr_ap : kOr X b Q v e = need (tru v e) fun t => if t = true then Q (.im (.bl true)) e else wpE X b e Q := propext Iff.rfl
noncomputable def kIf (X : EX) (a b : SDen) (P : Fl → Env → Prop) : Val → Env → Prop := fun v e1 => need (tru v e1) fun t => if t = true then wpS X a e1 P else wpS X b e1 P
theorem wpS_ifK {a b : SDen} : wpS X (sIf c a b) (s :: r) P = wpE X c (s :: r) (kIf X a b P) := wpS_if
theorem kIf_t {a b : SDen} : kIf X a b P (.im (.bl true)) e = wpS X a e P := propext Iff.rfl
theorem kIf_f {a b : SDen} : kIf X a b P (.im (.bl false)) e = wpS X b e P := propext Iff.rfl
theorem kIf_ap {a b : SDen} : kIf X a b P v e = need (tru v e) fun t => if t = true then wpS X a e P else wpS X b e P := propext Iff.rfl
noncomputable def kSq (X : EX) (b : SDen) (P : Fl → Env → Prop) : Fl → Env → Prop := then_ (fun e => wpS X b e P) P
theorem wpS_seqK {a b : SDen} : wpS X (sSeq a b) (s :: r) P = wpS X a (s :: r) (kSq X b P) := wpS_seq
theorem kSq_nx {b : SDen} : kSq X b P .nx e = wpS X b e P := propext Iff.rfl
theorem kSq_rt {b : SDen} : kSq X b P (.rt v) e = P (.rt v) e := propext Iff.rfl
theorem kSq_bk {b : SDen} : kSq X b P .bk e = P .bk e := propext Iff.rfl
theorem kSq_ct {b : SDen} : kSq X b P .ct e = P .ct e := propext Iff.rfl
noncomputable def kRt (P : Fl → Env → Prop) : Val → Env → Prop := fun v e => P (.rt v) e
theorem wpS_retK : wpS X (sRet d) (s :: r) P = wpE X d (s :: r) (kRt P) := wpS_ret
theorem kRt_ap : kRt P v e = P (.rt v) e := propext Iff.rfl
noncomputable def kEx (P : Fl → Env → Prop) : Val → Env → Prop := fun _ e => P .nx e
theorem wpS_exprK : wpS X (sExpr d) (s :: r) P = wpE X d (s :: r) (kEx P) := wpS_expr
theorem kEx_ap : kEx P v e = P .nx e := propext Iff.rfl
noncomputable def kAg (i : Nat) (P : Fl → Env → Prop) : Val → Env → Prop := fun v e => need (store i v e) fun e1 => P .nx e1
theorem wpS_asgK {i : Nat} : wpS X (sAsg i d) (s :: r) P = wpE X d (s :: r) (kAg i P) := wpS_asg
noncomputable def kSt (P : Fl → Env → Prop) (t : Bool) (e : Env) : Prop := t = true ∧ P .nx e
theorem kSt_t : kSt P true e = P .nx e := propext ⟨fun h => h.2, fun h => ⟨rfl, h⟩⟩
theorem kAg_i {i : Nat} : kAg i P (.im x) e = kSt P (stOk e[i]?) (e.set i (.im x)) := by
  unfold kAg kSt
  rw [store_im]
  cases stOk e[i]? with
  | true => exact propext ⟨fun h => ⟨rfl, h⟩, fun h => h.2⟩
  | false => exact propext ⟨fun h => h.elim, fun h => nomatch h.1⟩
theorem kAg_o {i : Nat} : kAg i P (.ow x) e = kSt P (stOk e[i]?) (e.set i (.ow x)) := by
  unfold kAg kSt
  rw [store_ow]
  cases stOk e[i]? with
  | true => exact propext ⟨fun h => ⟨rfl, h⟩, fun h => h.2⟩
  | false => exact propext ⟨fun h => h.elim, fun h => nomatch h.1⟩
theorem kAg_ap {i : Nat} : kAg i P v e = need (store i v e) fun e1 => P .nx e1 := propext Iff.rfl
section
variable {R : List Val → Env → Prop} {as : List (Bool × Den)} {vs : List Val} {F : FD} {o : Option (List Slot)} {sl : List Slot} {i : Nat}
noncomputable def kAc (u : Val) (R : List Val → Env → Prop) : List Val → Env → Prop := fun vs e => R (u :: vs) e
theorem kAc_ap : kAc u R vs e = R (u :: vs) e := propext Iff.rfl
noncomputable def kAr (X : EX) (bb : Bool) (as : List (Bool × Den)) (R : List Val → Env → Prop) : Val → Env → Prop := fun v e1 => match isLoc bb v with
    | some i => wpA X as e1 fun vs e2 => R (.loc i :: vs) e2
    | none => need (fz v e1) fun q => wpA X as q.2 fun vs e2 => R (.im q.1 :: vs) e2
theorem wpA_consK : wpA X ((bb, d) :: as) (s :: r) R = wpE X d (s :: r) (kAr X bb as R) := wpA_cons
theorem kAr_i : kAr X bb as R (.im x) e = wpA X as e (kAc (.im x) R) := by cases bb <;> exact propext Iff.rfl
theorem kAr_o : kAr X bb as R (.ow x) e = wpA X as e (kAc (.im x) R) := by cases bb <;> exact propext Iff.rfl
theorem kAr_l : kAr X true as R (.loc i) e = wpA X as e (kAc (.loc i) R) := propext Iff.rfl
theorem kAr_ap : kAr X false as R v e = need (fz v e) fun q => wpA X as q.2 (kAc (.im q.1) R) := propext Iff.rfl
noncomputable def kCl (X : EX) (F : FD) (Q : Val → Env → Prop) : List Val → Env → Prop := fun vs e1 => onceL vs = true ∧ need (enter vs e1) fun sl => wpF (xCall vs e1 X) F sl (leaveK vs e1 Q)
noncomputable def kC2 (X : EX) (F : FD) (Q : Val → Env → Prop) (vs : List Val) (e1 : Env) (t : Bool) (o : Option (List Slot)) (_g : Tg Q := ⟨⟩) : Prop := t = true ∧ need o fun sl => wpF (xCall vs e1 X) F sl (leaveK vs e1 Q)
theorem wpE_callK : wpE X (dCall F as) (s :: r) Q = wpA X as (s :: r) (kCl X F Q) := wpE_call
theorem kCl_ap : kCl X F Q vs e = kC2 X F Q vs e (onceL vs) (enter vs e) := propext Iff.rfl
theorem kC2_ok : kC2 X F Q vs e true (some sl) = wpF (xCall vs e X) F sl (leaveK vs e Q) := propext ⟨fun h => h.2, fun h => ⟨rfl, h⟩⟩
noncomputable def setP : Nat → D → Env → Env
  | _, _, [] => []
  | 0, d, s :: r => s.put d :: r
  | n + 1, d, s :: r => s :: setP n d r
theorem setP_zero : setP 0 x (s :: r) = s.put x :: r := rfl
theorem setP_succ {n : Nat} : setP (n + 1) x (s :: r) = s :: setP n x r := rfl
noncomputable def noL : List Val → Bool
  | [] => true
  | .loc _ :: _ => false
  | _ :: r => noL r
theorem posOf_noL {j : Nat} : ∀ {vs : List Val}, noL vs = true → posOf j vs = none
  | [], _ => rfl
  | .im _ :: r, h => by
    show (posOf j r).map (· + 1) = none
    rw [posOf_noL (vs := r) h]; rfl
  | .ow _ :: r, h => by
    show (posOf j r).map (· + 1) = none
    rw [posOf_noL (vs := r) h]; rfl
  | .loc _ :: _, h => nomatch h
theorem leaveG_noL {l : List Slot} (h : noL vs = true) : ∀ (e : Env) (j : Nat), leaveG vs l j e = e
  | [], _ => rfl
  | s :: r, j => by
    show leaveS vs l j s :: leaveG vs l (j + 1) r = _
    rw [leaveG_noL h r]
    unfold leaveS
    rw [posOf_noL h]
theorem leaveG_loc {l : List Slot} (h : noL vs = true) : ∀ (e : Env) (j k : Nat), i = j + k → leaveG (.loc i :: vs) (.io x :: l) j e = setP k x e
  | [], j, k, _ => by cases k <;> rfl
  | s :: r, j, 0, hi => by
    have p : posOf j (.loc i :: vs) = some 0 := by
      show (if i = j then some 0 else _) = _
      rw [if_pos (by omega)]
    show leaveS _ _ j s :: leaveG _ _ (j + 1) r = s.put x :: r
    have q : leaveG (.loc i :: vs) (.io x :: l) (j + 1) r = r := by
      have key : ∀ (r : Env) (j : Nat), i < j → leaveG (.loc i :: vs) (.io x :: l) j r = r := fun r => by
        induction r with
        | nil => intros; rfl
        | cons s r ih =>
          intro j hj
          show leaveS _ _ j s :: leaveG _ _ (j + 1) r = _
          rw [ih (j + 1) (by omega)]
          have p : posOf j (.loc i :: vs) = none := by
            show (if i = j then some 0 else (posOf j vs).map (· + 1)) = _
            rw [if_neg (by omega), posOf_noL h]; rfl
          unfold leaveS
          rw [p]
      exact key r (j + 1) (by omega)
    rw [q]
    unfold leaveS
    rw [p]; rfl
  | s :: r, j, k + 1, hi => by
    have p : posOf j (.loc i :: vs) = none := by
      show (if i = j then some 0 else (posOf j vs).map (· + 1)) = _
      rw [if_neg (by omega), posOf_noL h]; rfl
    show leaveS _ _ j s :: leaveG _ _ (j + 1) r = s :: setP k x r
    rw [leaveG_loc h r (j + 1) k (by omega)]
    unfold leaveS
    rw [p]
theorem leave_noL {l : List Slot} (h : noL vs = true) : leave vs l e = e := leaveG_noL h e 0
theorem leave_loc {l : List Slot} (h : noL vs = true) : leave (.loc i :: vs) (.io x :: l) e = setP i x e := leaveG_loc h e 0 i (by omega)
end
section
variable {Qs : Val → Env → Prop} {l : List Slot} {cc i : Nat} {x1 x2 x3 x4 x5 x6 z : D}
theorem lvK_0 : leaveK [] e Q w l = Q w e := by unfold leaveK; rw [leave_noL rfl]
theorem xcK_0 : xCall [] e X cc l = X cc e := by unfold xCall; rw [leave_noL rfl]
theorem lvK_1 : leaveK [.im x1] e Q w l = Q w e := by unfold leaveK; rw [leave_noL rfl]
theorem xcK_1 : xCall [.im x1] e X cc l = X cc e := by unfold xCall; rw [leave_noL rfl]
theorem lvK_2 : leaveK [.im x1, .im x2] e Q w l = Q w e := by unfold leaveK; rw [leave_noL rfl]
theorem xcK_2 : xCall [.im x1, .im x2] e X cc l = X cc e := by unfold xCall; rw [leave_noL rfl]
theorem lvK_3 : leaveK [.im x1, .im x2, .im x3] e Q w l = Q w e := by unfold leaveK; rw [leave_noL rfl]
theorem xcK_3 : xCall [.im x1, .im x2, .im x3] e X cc l = X cc e := by unfold xCall; rw [leave_noL rfl]
theorem lvK_4 : leaveK [.im x1, .im x2, .im x3, .im x4] e Q w l = Q w e := by unfold leaveK; rw [leave_noL rfl]
theorem xcK_4 : xCall [.im x1, .im x2, .im x3, .im x4] e X cc l = X cc e := by unfold xCall; rw [leave_noL rfl]
theorem lvK_5 : leaveK [.im x1, .im x2, .im x3, .im x4, .im x5] e Q w l = Q w e := by unfold leaveK; rw [leave_noL rfl]
theorem xcK_5 : xCall [.im x1, .im x2, .im x3, .im x4, .im x5] e X cc l = X cc e := by unfold xCall; rw [leave_noL rfl]
theorem lvK_6 : leaveK [.im x1, .im x2, .im x3, .im x4, .im x5, .im x6] e Q w l = Q w e := by unfold leaveK; rw [leave_noL rfl]
theorem xcK_6 : xCall [.im x1, .im x2, .im x3, .im x4, .im x5, .im x6] e X cc l = X cc e := by unfold xCall; rw [leave_noL rfl]
theorem lvL_0 : leaveK [.loc i] e Q w (.io z :: l) = Q w (setP i z e) := by unfold leaveK; rw [leave_loc rfl]
theorem xcL_0 : xCall [.loc i] e X cc (.io z :: l) = X cc (setP i z e) := by unfold xCall; rw [leave_loc rfl]
theorem lvL_1 : leaveK [.loc i, .im x1] e Q w (.io z :: l) = Q w (setP i z e) := by unfold leaveK; rw [leave_loc rfl]
theorem xcL_1 : xCall [.loc i, .im x1] e X cc (.io z :: l) = X cc (setP i z e) := by unfold xCall; rw [leave_loc rfl]
theorem lvL_2 : leaveK [.loc i, .im x1, .im x2] e Q w (.io z :: l) = Q w (setP i z e) := by unfold leaveK; rw [leave_loc rfl]
theorem xcL_2 : xCall [.loc i, .im x1, .im x2] e X cc (.io z :: l) = X cc (setP i z e) := by unfold xCall; rw [leave_loc rfl]
theorem lvL_3 : leaveK [.loc i, .im x1, .im x2, .im x3] e Q w (.io z :: l) = Q w (setP i z e) := by unfold leaveK; rw [leave_loc rfl]
theorem xcL_3 : xCall [.loc i, .im x1, .im x2, .im x3] e X cc (.io z :: l) = X cc (setP i z e) := by unfold xCall; rw [leave_loc rfl]
theorem lvL_4 : leaveK [.loc i, .im x1, .im x2, .im x3, .im x4] e Q w (.io z :: l) = Q w (setP i z e) := by unfold leaveK; rw [leave_loc rfl]
theorem xcL_4 : xCall [.loc i, .im x1, .im x2, .im x3, .im x4] e X cc (.io z :: l) = X cc (setP i z e) := by unfold xCall; rw [leave_loc rfl]
theorem lvL_5 : leaveK [.loc i, .im x1, .im x2, .im x3, .im x4, .im x5] e Q w (.io z :: l) = Q w (setP i z e) := by unfold leaveK; rw [leave_loc rfl]
theorem xcL_5 : xCall [.loc i, .im x1, .im x2, .im x3, .im x4, .im x5] e X cc (.io z :: l) = X cc (setP i z e) := by unfold xCall; rw [leave_loc rfl]
end
section
variable {ce : Env} {sl : List Slot} {R : Val → List Slot → Prop}
theorem fnK_rti : fnK sl R (.rt (.im x)) ce = need (outs sl ce) (R (.im x)) := propext Iff.rfl
theorem fnK_rto : fnK sl R (.rt (.ow x)) ce = need (outs sl ce) (R (.ow x)) := propext Iff.rfl
theorem fnK_nxK : fnK sl R .nx ce = need (outs sl ce) (R (.im .non)) := propext Iff.rfl
end
section
variable {t0 t1 t2 t3 t4 t5 t6 t7 t8 t9 t10 t11 t12 t13 t14 t15 t16 t17 t18 t19 t20 t21 : Slot}
theorem nm_0im : wpE X (dName 0) (.im x :: r) Q = Q (.im x) (.im x :: r) := (wpE_name 0).trans (propext Iff.rfl)
theorem nm_0ow : wpE X (dName 0) (.ow x :: r) Q = Q (.loc 0) (.ow x :: r) := (wpE_name 0).trans (propext Iff.rfl)
theorem nm_0io : wpE X (dName 0) (.io x :: r) Q = Q (.loc 0) (.io x :: r) := (wpE_name 0).trans (propext Iff.rfl)
theorem nm_1im : wpE X (dName 1) (t0 :: .im x :: r) Q = Q (.im x) (t0 :: .im x :: r) := (wpE_name 1).trans (propext Iff.rfl)
theorem nm_1ow : wpE X (dName 1) (t0 :: .ow x :: r) Q = Q (.loc 1) (t0 :: .ow x :: r) := (wpE_name 1).trans (propext Iff.rfl)
theorem nm_1io : wpE X (dName 1) (t0 :: .io x :: r) Q = Q (.loc 1) (t0 :: .io x :: r) := (wpE_name 1).trans (propext Iff.rfl)
theorem nm_2im : wpE X (dName 2) (t0 :: t1 :: .im x :: r) Q = Q (.im x) (t0 :: t1 :: .im x :: r) := (wpE_name 2).trans (propext Iff.rfl)
theorem nm_2ow : wpE X (dName 2) (t0 :: t1 :: .ow x :: r) Q = Q (.loc 2) (t0 :: t1 :: .ow x :: r) := (wpE_name 2).trans (propext Iff.rfl)
theorem nm_2io : wpE X (dName 2) (t0 :: t1 :: .io x :: r) Q = Q (.loc 2) (t0 :: t1 :: .io x :: r) := (wpE_name 2).trans (propext Iff.rfl)
theorem nm_3im : wpE X (dName 3) (t0 :: t1 :: t2 :: .im x :: r) Q = Q (.im x) (t0 :: t1 :: t2 :: .im x :: r) := (wpE_name 3).trans (propext Iff.rfl)
theorem nm_3ow : wpE X (dName 3) (t0 :: t1 :: t2 :: .ow x :: r) Q = Q (.loc 3) (t0 :: t1 :: t2 :: .ow x :: r) := (wpE_name 3).trans (propext Iff.rfl)
theorem nm_3io : wpE X (dName 3) (t0 :: t1 :: t2 :: .io x :: r) Q = Q (.loc 3) (t0 :: t1 :: t2 :: .io x :: r) := (wpE_name 3).trans (propext Iff.rfl)
theorem nm_4im : wpE X (dName 4) (t0 :: t1 :: t2 :: t3 :: .im x :: r) Q = Q (.im x) (t0 :: t1 :: t2 :: t3 :: .im x :: r) := (wpE_name 4).trans (propext Iff.rfl)
theorem nm_4ow : wpE X (dName 4) (t0 :: t1 :: t2 :: t3 :: .ow x :: r) Q = Q (.loc 4) (t0 :: t1 :: t2 :: t3 :: .ow x :: r) := (wpE_name 4).trans (propext Iff.rfl)
theorem nm_4io : wpE X (dName 4) (t0 :: t1 :: t2 :: t3 :: .io x :: r) Q = Q (.loc 4) (t0 :: t1 :: t2 :: t3 :: .io x :: r) := (wpE_name 4).trans (propext Iff.rfl)
theorem nm_5im : wpE X (dName 5) (t0 :: t1 :: t2 :: t3 :: t4 :: .im x :: r) Q = Q (.im x) (t0 :: t1 :: t2 :: t3 :: t4 :: .im x :: r) := (wpE_name 5).trans (propext Iff.rfl)
theorem nm_5ow : wpE X (dName 5) (t0 :: t1 :: t2 :: t3 :: t4 :: .ow x :: r) Q = Q (.loc 5) (t0 :: t1 :: t2 :: t3 :: t4 :: .ow x :: r) := (wpE_name 5).trans (propext Iff.rfl)
theorem nm_5io : wpE X (dName 5) (t0 :: t1 :: t2 :: t3 :: t4 :: .io x :: r) Q = Q (.loc 5) (t0 :: t1 :: t2 :: t3 :: t4 :: .io x :: r) := (wpE_name 5).trans (propext Iff.rfl)
theorem nm_6im : wpE X (dName 6) (t0 :: t1 :: t2 :: t3 :: t4 :: t5 :: .im x :: r) Q = Q (.im x) (t0 :: t1 :: t2 :: t3 :: t4 :: t5 :: .im x :: r) := (wpE_name 6).trans (propext Iff.rfl)
theorem nm_6ow : wpE X (dName 6) (t0 :: t1 :: t2 :: t3 :: t4 :: t5 :: .ow x :: r) Q = Q (.loc 6) (t0 :: t1 :: t2 :: t3 :: t4 :: t5 :: .ow x :: r) := (wpE_name 6).trans (propext Iff.rfl)
theorem nm_6io : wpE X (dName 6) (t0 :: t1 :: t2 :: t3 :: t4 :: t5 :: .io x :: r) Q = Q (.loc 6) (t0 :: t1 :: t2 :: t3 :: t4 :: t5 :: .io x :: r) := (wpE_name 6).trans (propext Iff.rfl)
theorem nm_7im : wpE X (dName 7) (t0 :: t1 :: t2 :: t3 :: t4 :: t5 :: t6 :: .im x :: r) Q = Q (.im x) (t0 :: t1 :: t2 :: t3 :: t4 :: t5 :: t6 :: .im x :: r) := (wpE_name 7).trans (propext Iff.rfl)
theorem nm_7ow : wpE X (dName 7) (t0 :: t1 :: t2 :: t3 :: t4 :: t5 :: t6 :: .ow x :: r) Q = Q (.loc 7) (t0 :: t1 :: t2 :: t3 :: t4 :: t5 :: t6 :: .ow x :: r) := (wpE_name 7).trans (propext Iff.rfl)
theorem nm_7io : wpE X (dName 7) (t0 :: t1 :: t2 :: t3 :: t4 :: t5 :: t6 :: .io x :: r) Q = Q (.loc 7) (t0 :: t1 :: t2 :: t3 :: t4 :: t5 :: t6 :: .io x :: r) := (wpE_name 7).trans (propext Iff.rfl)
theorem nm_8im : wpE X (dName 8) (t0 :: t1 :: t2 :: t3 :: t4 :: t5 :: t6 :: t7 :: .im x :: r) Q = Q (.im x) (t0 :: t1 :: t2 :: t3 :: t4 :: t5 :: t6 :: t7 :: .im x :: r) := (wpE_name 8).trans (propext Iff.rfl)
theorem nm_8ow : wpE X (dName 8) (t0 :: t1 :: t2 :: t3 :: t4 :: t5 :: t6 :: t7 :: .ow x :: r) Q = Q (.loc 8) (t0 :: t1 :: t2 :: t3 :: t4 :: t5 :: t6 :: t7 :: .ow x :: r) := (wpE_name 8).trans (propext Iff.rfl)
theorem nm_8io : wpE X (dName 8) (t0 :: t1 :: t2 :: t3 :: t4 :: t5 :: t6 :: t7 :: .io x :: r) Q = Q (.loc 8) (t0 :: t1 :: t2 :: t3 :: t4 :: t5 :: t6 :: t7 :: .io x :: r) := (wpE_name 8).trans (propext Iff.rfl)
theorem nm_9im : wpE X (dName 9) (t0 :: t1 :: t2 :: t3 :: t4 :: t5 :: t6 :: t7 :: t8 :: .im x :: r) Q = Q (.im x) (t0 :: t1 :: t2 :: t3 :: t4 :: t5 :: t6 :: t7 :: t8 :: .im x :: r) := (wpE_name 9).trans (propext Iff.rfl)
theorem nm_9ow : wpE X (dName 9) (t0 :: t1 :: t2 :: t3 :: t4 :: t5 :: t6 :: t7 :: t8 :: .ow x :: r) Q = Q (.loc 9) (t0 :: t1 :: t2 :: t3 :: t4 :: t5 :: t6 :: t7 :: t8 :: .ow x :: r) := (wpE_name 9).trans (propext Iff.rfl)
theorem nm_9io : wpE X (dName 9) (t0 :: t1 :: t2 :: t3 :: t4 :: t5 :: t6 :: t7 :: t8 :: .io x :: r) Q = Q (.loc 9) (t0 :: t1 :: t2 :: t3 :: t4 :: t5 :: t6 :: t7 :: t8 :: .io x :: r) := (wpE_name 9).trans (propext Iff.rfl)
theorem nm_10im : wpE X (dName 10) (t0 :: t1 :: t2 :: t3 :: t4 :: t5 :: t6 :: t7 :: t8 :: t9 :: .im x :: r) Q = Q (.im x) (t0 :: t1 :: t2 :: t3 :: t4 :: t5 :: t6 :: t7 :: t8 :: t9 :: .im x :: r) := (wpE_name 10).trans (propext Iff.rfl)
theorem nm_10ow : wpE X (dName 10) (t0 :: t1 :: t2 :: t3 :: t4 :: t5 :: t6 :: t7 :: t8 :: t9 :: .ow x :: r) Q = Q (.loc 10) (t0 :: t1 :: t2 :: t3 :: t4 :: t5 :: t6 :: t7 :: t8 :: t9 :: .ow x :: r) := (wpE_name 10).trans (propext Iff.rfl)
theorem nm_10io : wpE X (dName 10) (t0 :: t1 :: t2 :: t3 :: t4 :: t5 :: t6 :: t7 :: t8 :: t9 :: .io x :: r) Q = Q (.loc 10) (t0 :: t1 :: t2 :: t3 :: t4 :: t5 :: t6 :: t7 :: t8 :: t9 :: .io x :: r) := (wpE_name 10).trans (propext Iff.rfl)
theorem nm_11im : wpE X (dName 11) (t0 :: t1 :: t2 :: t3 :: t4 :: t5 :: t6 :: t7 :: t8 :: t9 :: t10 :: .im x :: r) Q = Q (.im x) (t0 :: t1 :: t2 :: t3 :: t4 :: t5 :: t6 :: t7 :: t8 :: t9 :: t10 :: .im x :: r) := (wpE_name 11).trans (propext Iff.rfl)
theorem nm_11ow : wpE X (dName 11) (t0 :: t1 :: t2 :: t3 :: t4 :: t5 :: t6 :: t7 :: t8 :: t9 :: t10 :: .ow x :: r) Q = Q (.loc 11) (t0 :: t1 :: t2 :: t3 :: t4 :: t5 :: t6 :: t7 :: t8 :: t9 :: t10 :: .ow x :: r) := (wpE_name 11).trans (propext Iff.rfl)
theorem nm_11io : wpE X (dName 11) (t0 :: t1 :: t2 :: t3 :: t4 :: t5 :: t6 :: t7 :: t8 :: t9 :: t10 :: .io x :: r) Q = Q (.loc 11) (t0 :: t1 :: t2 :: t3 :: t4 :: t5 :: t6 :: t7 :: t8 :: t9 :: t10 :: .io x :: r) := (wpE_name 11).trans (propext Iff.rfl)
theorem nm_12im : wpE X (dName 12) (t0 :: t1 :: t2 :: t3 :: t4 :: t5 :: t6 :: t7 :: t8 :: t9 :: t10 :: t11 :: .im x :: r) Q = Q (.im x) (t0 :: t1 :: t2 :: t3 :: t4 :: t5 :: t6 :: t7 :: t8 :: t9 :: t10 :: t11 :: .im x :: r) := (wpE_name 12).trans (propext Iff.rfl)
theorem nm_12ow : wpE X (dName 12) (t0 :: t1 :: t2 :: t3 :: t4 :: t5 :: t6 :: t7 :: t8 :: t9 :: t10 :: t11 :: .ow x :: r) Q = Q (.loc 12) (t0 :: t1 :: t2 :: t3 :: t4 :: t5 :: t6 :: t7 :: t8 :: t9 :: t10 :: t11 :: .ow x :: r) := (wpE_name 12).trans (propext Iff.rfl)
theorem nm_12io : wpE X (dName 12) (t0 :: t1 :: t2 :: t3 :: t4 :: t5 :: t6 :: t7 :: t8 :: t9 :: t10 :: t11 :: .io x :: r) Q = Q (.loc 12) (t0 :: t1 :: t2 :: t3 :: t4 :: t5 :: t6 :: t7 :: t8 :: t9 :: t10 :: t11 :: .io x :: r) := (wpE_name 12).trans (propext Iff.rfl)
theorem nm_13im : wpE X (dName 13) (t0 :: t1 :: t2 :: t3 :: t4 :: t5 :: t6 :: t7 :: t8 :: t9 :: t10 :: t11 :: t12 :: .im x :: r) Q = Q (.im x) (t0 :: t1 :: t2 :: t3 :: t4 :: t5 :: t6 :: t7 :: t8 :: t9 :: t10 :: t11 :: t12 :: .im x :: r) := (wpE_name 13).trans (propext Iff.rfl)
theorem nm_13ow : wpE X (dName 13) (t0 :: t1 :: t2 :: t3 :: t4 :: t5 :: t6 :: t7 :: t8 :: t9 :: t10 :: t11 :: t12 :: .ow x :: r) Q = Q (.loc 13) (t0 :: t1 :: t2 :: t3 :: t4 :: t5 :: t6 :: t7 :: t8 :: t9 :: t10 :: t11 :: t12 :: .ow x :: r) := (wpE_name 13).trans (propext Iff.rfl)
theorem nm_13io : wpE X (dName 13) (t0 :: t1 :: t2 :: t3 :: t4 :: t5 :: t6 :: t7 :: t8 :: t9 :: t10 :: t11 :: t12 :: .io x :: r) Q = Q (.loc 13) (t0 :: t1 :: t2 :: t3 :: t4 :: t5 :: t6 :: t7 :: t8 :: t9 :: t10 :: t11 :: t12 :: .io x :: r) := (wpE_name 13).trans (propext Iff.rfl)
theorem nm_14im : wpE X (dName 14) (t0 :: t1 :: t2 :: t3 :: t4 :: t5 :: t6 :: t7 :: t8 :: t9 :: t10 :: t11 :: t12 :: t13 :: .im x :: r) Q = Q (.im x) (t0 :: t1 :: t2 :: t3 :: t4 :: t5 :: t6 :: t7 :: t8 :: t9 :: t10 :: t11 :: t12 :: t13 :: .im x :: r) := (wpE_name 14).trans (propext Iff.rfl)
theorem nm_14ow : wpE X (dName 14) (t0 :: t1 :: t2 :: t3 :: t4 :: t5 :: t6 :: t7 :: t8 :: t9 :: t10 :: t11 :: t12 :: t13 :: .ow x :: r) Q = Q (.loc 14) (t0 :: t1 :: t2 :: t3 :: t4 :: t5 :: t6 :: t7 :: t8 :: t9 :: t10 :: t11 :: t12 :: t13 :: .ow x :: r) := (wpE_name 14).trans (propext Iff.rfl)
theorem nm_14io : wpE X (dName 14) (t0 :: t1 :: t2 :: t3 :: t4 :: t5 :: t6 :: t7 :: t8 :: t9 :: t10 :: t11 :: t12 :: t13 :: .io x :: r) Q = Q (.loc 14) (t0 :: t1 :: t2 :: t3 :: t4 :: t5 :: t6 :: t7 :: t8 :: t9 :: t10 :: t11 :: t12 :: t13 :: .io x :: r) := (wpE_name 14).trans (propext Iff.rfl)
theorem nm_15im : wpE X (dName 15) (t0 :: t1 :: t2 :: t3 :: t4 :: t5 :: t6 :: t7 :: t8 :: t9 :: t10 :: t11 :: t12 :: t13 :: t14 :: .im x :: r) Q = Q (.im x) (t0 :: t1 :: t2 :: t3 :: t4 :: t5 :: t6 :: t7 :: t8 :: t9 :: t10 :: t11 :: t12 :: t13 :: t14 :: .im x :: r) := (wpE_name 15).trans (propext Iff.rfl)
theorem nm_15ow : wpE X (dName 15) (t0 :: t1 :: t2 :: t3 :: t4 :: t5 :: t6 :: t7 :: t8 :: t9 :: t10 :: t11 :: t12 :: t13 :: t14 :: .ow x :: r) Q = Q (.loc 15) (t0 :: t1 :: t2 :: t3 :: t4 :: t5 :: t6 :: t7 :: t8 :: t9 :: t10 :: t11 :: t12 :: t13 :: t14 :: .ow x :: r) := (wpE_name 15).trans (propext Iff.rfl)
theorem nm_15io : wpE X (dName 15) (t0 :: t1 :: t2 :: t3 :: t4 :: t5 :: t6 :: t7 :: t8 :: t9 :: t10 :: t11 :: t12 :: t13 :: t14 :: .io x :: r) Q = Q (.loc 15) (t0 :: t1 :: t2 :: t3 :: t4 :: t5 :: t6 :: t7 :: t8 :: t9 :: t10 :: t11 :: t12 :: t13 :: t14 :: .io x :: r) := (wpE_name 15).trans (propext Iff.rfl)
theorem nm_16im : wpE X (dName 16) (t0 :: t1 :: t2 :: t3 :: t4 :: t5 :: t6 :: t7 :: t8 :: t9 :: t10 :: t11 :: t12 :: t13 :: t14 :: t15 :: .im x :: r) Q = Q (.im x) (t0 :: t1 :: t2 :: t3 :: t4 :: t5 :: t6 :: t7 :: t8 :: t9 :: t10 :: t11 :: t12 :: t13 :: t14 :: t15 :: .im x :: r) := (wpE_name 16).trans (propext Iff.rfl)
theorem nm_16ow : wpE X (dName 16) (t0 :: t1 :: t2 :: t3 :: t4 :: t5 :: t6 :: t7 :: t8 :: t9 :: t10 :: t11 :: t12 :: t13 :: t14 :: t15 :: .ow x :: r) Q = Q (.loc 16) (t0 :: t1 :: t2 :: t3 :: t4 :: t5 :: t6 :: t7 :: t8 :: t9 :: t10 :: t11 :: t12 :: t13 :: t14 :: t15 :: .ow x :: r) := (wpE_name 16).trans (propext Iff.rfl)
theorem nm_16io : wpE X (dName 16) (t0 :: t1 :: t2 :: t3 :: t4 :: t5 :: t6 :: t7 :: t8 :: t9 :: t10 :: t11 :: t12 :: t13 :: t14 :: t15 :: .io x :: r) Q = Q (.loc 16) (t0 :: t1 :: t2 :: t3 :: t4 :: t5 :: t6 :: t7 :: t8 :: t9 :: t10 :: t11 :: t12 :: t13 :: t14 :: t15 :: .io x :: r) := (wpE_name 16).trans (propext Iff.rfl)
theorem nm_17im : wpE X (dName 17) (t0 :: t1 :: t2 :: t3 :: t4 :: t5 :: t6 :: t7 :: t8 :: t9 :: t10 :: t11 :: t12 :: t13 :: t14 :: t15 :: t16 :: .im x :: r) Q = Q (.im x) (t0 :: t1 :: t2 :: t3 :: t4 :: t5 :: t6 :: t7 :: t8 :: t9 :: t10 :: t11 :: t12 :: t13 :: t14 :: t15 :: t16 :: .im x :: r) := (wpE_name 17).trans (propext Iff.rfl)
theorem nm_17ow : wpE X (dName 17) (t0 :: t1 :: t2 :: t3 :: t4 :: t5 :: t6 :: t7 :: t8 :: t9 :: t10 :: t11 :: t12 :: t13 :: t14 :: t15 :: t16 :: .ow x :: r) Q = Q (.loc 17) (t0 :: t1 :: t2 :: t3 :: t4 :: t5 :: t6 :: t7 :: t8 :: t9 :: t10 :: t11 :: t12 :: t13 :: t14 :: t15 :: t16 :: .ow x :: r) := (wpE_name 17).trans (propext Iff.rfl)
theorem nm_17io : wpE X (dName 17) (t0 :: t1 :: t2 :: t3 :: t4 :: t5 :: t6 :: t7 :: t8 :: t9 :: t10 :: t11 :: t12 :: t13 :: t14 :: t15 :: t16 :: .io x :: r) Q = Q (.loc 17) (t0 :: t1 :: t2 :: t3 :: t4 :: t5 :: t6 :: t7 :: t8 :: t9 :: t10 :: t11 :: t12 :: t13 :: t14 :: t15 :: t16 :: .io x :: r) := (wpE_name 17).trans (propext Iff.rfl)
theorem nm_18im : wpE X (dName 18) (t0 :: t1 :: t2 :: t3 :: t4 :: t5 :: t6 :: t7 :: t8 :: t9 :: t10 :: t11 :: t12 :: t13 :: t14 :: t15 :: t16 :: t17 :: .im x :: r) Q = Q (.im x) (t0 :: t1 :: t2 :: t3 :: t4 :: t5 :: t6 :: t7 :: t8 :: t9 :: t10 :: t11 :: t12 :: t13 :: t14 :: t15 :: t16 :: t17 :: .im x :: r) := (wpE_name 18).trans (propext Iff.rfl)
theorem nm_18ow : wpE X (dName 18) (t0 :: t1 :: t2 :: t3 :: t4 :: t5 :: t6 :: t7 :: t8 :: t9 :: t10 :: t11 :: t12 :: t13 :: t14 :: t15 :: t16 :: t17 :: .ow x :: r) Q = Q (.loc 18) (t0 :: t1 :: t2 :: t3 :: t4 :: t5 :: t6 :: t7 :: t8 :: t9 :: t10 :: t11 :: t12 :: t13 :: t14 :: t15 :: t16 :: t17 :: .ow x :: r) := (wpE_name 18).trans (propext Iff.rfl)
theorem nm_18io : wpE X (dName 18) (t0 :: t1 :: t2 :: t3 :: t4 :: t5 :: t6 :: t7 :: t8 :: t9 :: t10 :: t11 :: t12 :: t13 :: t14 :: t15 :: t16 :: t17 :: .io x :: r) Q = Q (.loc 18) (t0 :: t1 :: t2 :: t3 :: t4 :: t5 :: t6 :: t7 :: t8 :: t9 :: t10 :: t11 :: t12 :: t13 :: t14 :: t15 :: t16 :: t17 :: .io x :: r) := (wpE_name 18).trans (propext Iff.rfl)
theorem nm_19im : wpE X (dName 19) (t0 :: t1 :: t2 :: t3 :: t4 :: t5 :: t6 :: t7 :: t8 :: t9 :: t10 :: t11 :: t12 :: t13 :: t14 :: t15 :: t16 :: t17 :: t18 :: .im x :: r) Q = Q (.im x) (t0 :: t1 :: t2 :: t3 :: t4 :: t5 :: t6 :: t7 :: t8 :: t9 :: t10 :: t11 :: t12 :: t13 :: t14 :: t15 :: t16 :: t17 :: t18 :: .im x :: r) := (wpE_name 19).trans (propext Iff.rfl)
theorem nm_19ow : wpE X (dName 19) (t0 :: t1 :: t2 :: t3 :: t4 :: t5 :: t6 :: t7 :: t8 :: t9 :: t10 :: t11 :: t12 :: t13 :: t14 :: t15 :: t16 :: t17 :: t18 :: .ow x :: r) Q = Q (.loc 19) (t0 :: t1 :: t2 :: t3 :: t4 :: t5 :: t6 :: t7 :: t8 :: t9 :: t10 :: t11 :: t12 :: t13 :: t14 :: t15 :: t16 :: t17 :: t18 :: .ow x :: r) := (wpE_name 19).trans (propext Iff.rfl)
theorem nm_19io : wpE X (dName 19) (t0 :: t1 :: t2 :: t3 :: t4 :: t5 :: t6 :: t7 :: t8 :: t9 :: t10 :: t11 :: t12 :: t13 :: t14 :: t15 :: t16 :: t17 :: t18 :: .io x :: r) Q = Q (.loc 19) (t0 :: t1 :: t2 :: t3 :: t4 :: t5 :: t6 :: t7 :: t8 :: t9 :: t10 :: t11 :: t12 :: t13 :: t14 :: t15 :: t16 :: t17 :: t18 :: .io x :: r) := (wpE_name 19).trans (propext Iff.rfl)
theorem nm_20im : wpE X (dName 20) (t0 :: t1 :: t2 :: t3 :: t4 :: t5 :: t6 :: t7 :: t8 :: t9 :: t10 :: t11 :: t12 :: t13 :: t14 :: t15 :: t16 :: t17 :: t18 :: t19 :: .im x :: r) Q = Q (.im x) (t0 :: t1 :: t2 :: t3 :: t4 :: t5 :: t6 :: t7 :: t8 :: t9 :: t10 :: t11 :: t12 :: t13 :: t14 :: t15 :: t16 :: t17 :: t18 :: t19 :: .im x :: r) := (wpE_name 20).trans (propext Iff.rfl)
theorem nm_20ow : wpE X (dName 20) (t0 :: t1 :: t2 :: t3 :: t4 :: t5 :: t6 :: t7 :: t8 :: t9 :: t10 :: t11 :: t12 :: t13 :: t14 :: t15 :: t16 :: t17 :: t18 :: t19 :: .ow x :: r) Q = Q (.loc 20) (t0 :: t1 :: t2 :: t3 :: t4 :: t5 :: t6 :: t7 :: t8 :: t9 :: t10 :: t11 :: t12 :: t13 :: t14 :: t15 :: t16 :: t17 :: t18 :: t19 :: .ow x :: r) := (wpE_name 20).trans (propext Iff.rfl)
theorem nm_20io : wpE X (dName 20) (t0 :: t1 :: t2 :: t3 :: t4 :: t5 :: t6 :: t7 :: t8 :: t9 :: t10 :: t11 :: t12 :: t13 :: t14 :: t15 :: t16 :: t17 :: t18 :: t19 :: .io x :: r) Q = Q (.loc 20) (t0 :: t1 :: t2 :: t3 :: t4 :: t5 :: t6 :: t7 :: t8 :: t9 :: t10 :: t11 :: t12 :: t13 :: t14 :: t15 :: t16 :: t17 :: t18 :: t19 :: .io x :: r) := (wpE_name 20).trans (propext Iff.rfl)
theorem nm_21im : wpE X (dName 21) (t0 :: t1 :: t2 :: t3 :: t4 :: t5 :: t6 :: t7 :: t8 :: t9 :: t10 :: t11 :: t12 :: t13 :: t14 :: t15 :: t16 :: t17 :: t18 :: t19 :: t20 :: .im x :: r) Q = Q (.im x) (t0 :: t1 :: t2 :: t3 :: t4 :: t5 :: t6 :: t7 :: t8 :: t9 :: t10 :: t11 :: t12 :: t13 :: t14 :: t15 :: t16 :: t17 :: t18 :: t19 :: t20 :: .im x :: r) := (wpE_name 21).trans (propext Iff.rfl)
theorem nm_21ow : wpE X (dName 21) (t0 :: t1 :: t2 :: t3 :: t4 :: t5 :: t6 :: t7 :: t8 :: t9 :: t10 :: t11 :: t12 :: t13 :: t14 :: t15 :: t16 :: t17 :: t18 :: t19 :: t20 :: .ow x :: r) Q = Q (.loc 21) (t0 :: t1 :: t2 :: t3 :: t4 :: t5 :: t6 :: t7 :: t8 :: t9 :: t10 :: t11 :: t12 :: t13 :: t14 :: t15 :: t16 :: t17 :: t18 :: t19 :: t20 :: .ow x :: r) := (wpE_name 21).trans (propext Iff.rfl)
theorem nm_21io : wpE X (dName 21) (t0 :: t1 :: t2 :: t3 :: t4 :: t5 :: t6 :: t7 :: t8 :: t9 :: t10 :: t11 :: t12 :: t13 :: t14 :: t15 :: t16 :: t17 :: t18 :: t19 :: t20 :: .io x :: r) Q = Q (.loc 21) (t0 :: t1 :: t2 :: t3 :: t4 :: t5 :: t6 :: t7 :: t8 :: t9 :: t10 :: t11 :: t12 :: t13 :: t14 :: t15 :: t16 :: t17 :: t18 :: t19 :: t20 :: .io x :: r) := (wpE_name 21).trans (propext Iff.rfl)
end
end
end G
set_option Elab.async false
set_option linter.all false
set_option maxRecDepth 100000
set_option maxHeartbeats 4000000
namespace G
open PySem PySem.Spec PyProof.Rows L2 SX Evl
section
variable {g : Gm} {W : WX} {P0 : Nat → Option Addr} {e0 e1 ev : Env} {σ σ' τ : L2.St} {G H G' H' H0 : Hp}
theorem app_get {α : Type} {a b : List α} {i : Nat} {s : α} (h : (a ++ b)[i]? = some s) : a[i]? = some s ∨ ∃ k, i = a.length + k ∧ b[k]? = some s := by
  by_cases hi : i < a.length
  · rw [List.getElem?_append_left hi] at h; exact .inl h
  · rw [List.getElem?_append_right (by omega)] at h; exact .inr ⟨i - a.length, by omega, h⟩
theorem app_l {α : Type} {a b : List α} {i : Nat} {s : α} (h : a[i]? = some s) : (a ++ b)[i]? = some s := by
  rw [List.getElem?_append_left (List.getElem?_eq_some_iff.mp h).1]; exact h
theorem app_r {α : Type} {a b : List α} {k : Nat} {s : α} (h : b[k]? = some s) : (a ++ b)[a.length + k]? = some s := by
  rw [List.getElem?_append_right (by omega)]; rw [show a.length + k - a.length = k by omega]; exact h
theorem Sim.part (s : Sim g P0 (e0 ++ ev) (σ ++ τ) G H) (h0 : e0.length = σ.length) : Sim g P0 e0 σ G H :=
  s.sub h0 (fun i hi => by rw [List.getElem?_append_left hi]) fun i hi => by rw [List.getElem?_append_left (by omega)]
theorem oa_l {a : Addr} (h : OA e0 σ a) : OA (e0 ++ ev) (σ ++ τ) a := by
  obtain ⟨i, s, d, h1, h2, h3⟩ := h
  exact ⟨i, s, d, app_l h1, h2, app_l h3⟩
theorem Sim.join (s : Sim g P0 (e0 ++ ev) (σ ++ τ) G H) (h0 : e0.length = σ.length) (s1 : Sim g P0 e1 σ' G' H') (h1 : σ'.length = σ.length) (t : Tr (OA e0 σ) G H (OA e1 σ') G' H') :
    Sim g P0 (e1 ++ ev) (σ' ++ τ) G' H' ∧ Tr (OA (e0 ++ ev) (σ ++ τ)) G H (OA (e1 ++ ev) (σ' ++ τ)) G' H' ∧ ∀ (k : Nat) u d p a, ev[k]? = some u → u.own = some d → τ[k]? = some (some (.ref p)) → Cel H' p a → ∃ o, H a = some o := by
  have hl1 : e1.length = σ'.length := s1.len
  have hlv : ev.length = τ.length := by
    have := s.len
    rw [List.length_append, List.length_append] at this; omega
  -- an object behind: its place now and then
  have bk : ∀ {k : Nat} {u : Slot} {d : D}, ev[k]? = some u → u.own = some d → ∃ p, τ[k]? = some (some (.ref p)) ∧ (e0 ++ ev)[e0.length + k]? = some u ∧ (σ ++ τ)[e0.length + k]? = some (some (.ref p)) ∧ Own g G H d p := by
    intro k u d hk hu
    obtain ⟨p, q1, q2⟩ := s.ow _ _ _ (app_r (a := e0) hk) hu
    refine ⟨p, ?_, app_r hk, q1, q2⟩
    rcases app_get q1 with z | ⟨k', e, z⟩
    · have := (List.getElem?_eq_some_iff.mp z).1; omega
    · rw [show k' = k by omega] at z; exact z
  have ap : ∀ {k : Nat} {u : Slot} {d : D} {p a : Addr}, ev[k]? = some u → u.own = some d → τ[k]? = some (some (.ref p)) → Cel H p a → ¬ OCl (OA e0 σ) H a := fun hk hu hp ha ⟨q, ⟨i, w, d', b1, b2, b3⟩, b4⟩ => by
    have z := s.apart (app_r (a := e0) hk) hu (app_l (b := ev) b1) b2 (by rw [h0]; exact app_r hp) (app_l b3) ha b4
    have := (List.getElem?_eq_some_iff.mp b1).1
    omega
  have kp : ∀ {k : Nat} {u : Slot} {d : D} {p : Addr}, ev[k]? = some u → u.own = some d → τ[k]? = some (some (.ref p)) → Own g G H d p → ∀ a, Cel H p a → G' a = none ∧ H' a = H a := fun hk hu hp ho a ha => by
    obtain ⟨z1, o, z2⟩ := ho.cel ha
    have hh : Held a o (OA e0 σ) G H := ⟨ap hk hu hp ha, z1, z2⟩
    have h2 := hh.tr t fun xs z => ho.nt ha ⟨xs, by rw [z2, z]⟩
    exact ⟨h2.g, h2.h.trans z2.symm⟩
  have tk : ∀ {k : Nat} {p : Addr}, (σ' ++ τ)[σ'.length + k]? = some (some (.ref p)) → τ[k]? = some (some (.ref p)) := by
    intro k p h
    rcases app_get h with z | ⟨k', e, z⟩
    · have := (List.getElem?_eq_some_iff.mp z).1; omega
    · rw [show k' = k by omega] at z; exact z
  have tl : ∀ {i : Nat} {v : Option V} {w : Slot}, e1[i]? = some w → (σ' ++ τ)[i]? = some v → σ'[i]? = some v := fun hw h => by
    rcases app_get h with z | ⟨k', e, z⟩
    · exact z
    · have := (List.getElem?_eq_some_iff.mp hw).1; omega
  -- a place of the names' and one behind are never one
  have cross : ∀ {i k : Nat} {w u : Slot} {d e : D} {p q a : Addr}, e1[i]? = some w → w.own = some d → ev[k]? = some u → u.own = some e → σ'[i]? = some (some (.ref p)) → τ[k]? = some (some (.ref q)) → Cel H' p a → Cel H' q a → False := fun b1 b2 b3 b4 b5 b6 b7 b8 => by
    obtain ⟨q', c1, _, _, c2⟩ := bk b3 b4
    rw [b6] at c1; cases c1
    have b9 : Cel H _ _ := b8.eq (kp b3 b4 b6 c2 _ (.inl rfl)).2
    rcases t.own _ _ ⟨_, _, _, b1, b2, b5⟩ b7 with ⟨z1, z2⟩ | z
    · exact ap b3 b4 b6 b9 ⟨_, z1, z2⟩
    · obtain ⟨_, o, z2⟩ := c2.cel b9
      rw [z] at z2; cases z2
  have back : ∀ {k : Nat} {u : Slot} {d : D} {p a : Addr}, ev[k]? = some u → u.own = some d → τ[k]? = some (some (.ref p)) → Cel H' p a → Cel H p a := fun b1 b2 b3 b4 => by
    obtain ⟨q', c1, _, _, c2⟩ := bk b1 b2
    rw [b3] at c1; cases c1
    exact b4.eq (kp b1 b2 b3 c2 _ (.inl rfl)).2
  refine ⟨{ ex := s1.ex, len := by rw [List.length_append, List.length_append, hl1, hlv], im := ?_, ow := ?_, dis := ?_, io := ?_, pv := ?_ }, { ex := t.ex, keep := ?_, gnew := ?_, own := ?_, dom := t.dom }, fun k u d p a b1 b2 b3 b4 => ?_⟩
  · intro i d h
    rcases app_get h with h | ⟨k, ek, hk⟩
    · obtain ⟨v, q1, q2⟩ := s1.im i d h
      exact ⟨v, app_l q1, q2⟩
    · subst ek
      obtain ⟨v, q1, q2⟩ := s.im _ d (app_r (a := e0) hk)
      rcases app_get q1 with z | ⟨k', e, z⟩
      · have := (List.getElem?_eq_some_iff.mp z).1; omega
      · rw [show k' = k by omega] at z
        exact ⟨v, by rw [hl1]; exact app_r z, Rp.mono t.ex _ _ q2⟩
  · intro i u d h hu
    rcases app_get h with h | ⟨k, ek, hk⟩
    · obtain ⟨p, q1, q2⟩ := s1.ow i u d h hu
      exact ⟨p, app_l q1, q2⟩
    · subst ek
      obtain ⟨p, q1, _, _, q2⟩ := bk hk hu
      exact ⟨p, by rw [hl1]; exact app_r q1, q2.later t.ex fun a z _ _ => kp hk hu q1 q2 a z⟩
  · intro i j u w d e p b1 b2 b3 b4 b5 b6
    rcases app_get b1 with b1 | ⟨k, ek, c1⟩
    · have b5 := tl b1 b5
      rcases app_get b3 with b3 | ⟨k', ek', c3⟩
      · exact s1.dis i j u w d e p b1 b2 b3 b4 b5 (tl b3 b6)
      · subst ek'
        rw [hl1] at b6
        exact (cross b1 b2 c3 b4 b5 (tk b6) (.inl rfl) (.inl rfl)).elim
    · subst ek
      rw [hl1] at b5
      have b5 := tk b5
      rcases app_get b3 with b3 | ⟨k', ek', c3⟩
      · exact (cross b3 b4 c1 b2 (tl b3 b6) b5 (.inl rfl) (.inl rfl)).elim
      · subst ek'
        rw [hl1] at b6
        have z := s.dis _ _ u w d e p (app_r (a := e0) c1) b2 (app_r (a := e0) c3) b4 (by rw [h0]; exact app_r b5) (by rw [h0]; exact app_r (tk b6))
        omega
  · intro i d h
    rcases app_get h with h | ⟨k, ek, hk⟩
    · obtain ⟨p, q1, q2⟩ := s1.io i d h
      exact ⟨p, q1, app_l q2⟩
    · subst ek
      obtain ⟨p, q1, q2⟩ := s.io _ d (app_r (a := e0) hk)
      rcases app_get q2 with z | ⟨k', e, z⟩
      · have := (List.getElem?_eq_some_iff.mp z).1; omega
      · rw [show k' = k by omega] at z
        exact ⟨p, by rw [hl1, h1, ← h0]; exact q1, by rw [hl1]; exact app_r z⟩
  · intro i j u w d e p q a b1 b2 b3 b4 b5 b6 b7 b8
    rcases app_get b1 with b1 | ⟨k, ek, c1⟩
    · have b5 := tl b1 b5
      rcases app_get b3 with b3 | ⟨k', ek', c3⟩
      · exact s1.pv i j u w d e p q a b1 b2 b3 b4 b5 (tl b3 b6) b7 b8
      · subst ek'
        rw [hl1] at b6
        exact (cross b1 b2 c3 b4 b5 (tk b6) (.inr b7) b8).elim
    · subst ek
      rw [hl1] at b5
      have b5 := tk b5
      rcases app_get b3 with b3 | ⟨k', ek', c3⟩
      · exact (cross b3 b4 c1 b2 (tl b3 b6) b5 b8 (.inr b7)).elim
      · subst ek'
        rw [hl1] at b6
        have b6 := tk b6
        have z := s.apart (app_r (a := e0) c1) b2 (app_r (a := e0) c3) b4 (by rw [h0]; exact app_r b5) (by rw [h0]; exact app_r b6) (back c1 b2 b5 (.inr b7)) (back c3 b4 b6 b8)
        omega
  · intro a o ha h
    exact t.keep a o (fun z => ha (z.mono fun p q => oa_l q)) h
  · intro a h
    rcases t.gnew a h with z | z | z | z
    · exact .inl z
    · exact .inr (.inl z)
    · exact .inr (.inr (.inl (z.mono fun p q => oa_l q)))
    · exact .inr (.inr (.inr z))
  · rintro p a ⟨i, u, d, b1, b2, b3⟩ ha
    rcases app_get b1 with b1 | ⟨k, ek, c1⟩
    · rcases t.own p a ⟨i, u, d, b1, b2, tl b1 b3⟩ ha with ⟨z1, z2⟩ | z
      · exact .inl ⟨oa_l z1, z2⟩
      · exact .inr z
    · subst ek
      rw [hl1] at b3
      have b3 := tk b3
      exact .inl ⟨⟨_, u, d, app_r (a := e0) c1, b2, by rw [h0]; exact app_r b3⟩, back c1 b2 b3 ha⟩
  · obtain ⟨q', c1, _, _, c2⟩ := bk b1 b2
    rw [b3] at c1; cases c1
    exact (c2.cel (back b1 b2 b3 b4)).2
theorem VR.join (s : Sim g P0 (e0 ++ ev) (σ ++ τ) G H) (h0 : e0.length = σ.length) (s1 : Sim g P0 e1 σ G' H') (t : Tr (OA e0 σ) G H (OA e1 σ) G' H') {v : Val} {x : V} (hv : VR g e1 σ H G' H' v x) : VR g (e1 ++ ev) (σ ++ τ) H G' H' v x := by
  cases v with
  | im d => exact hv
  | loc i => exact app_l hv
  | ow d =>
    obtain ⟨p, e, q1, q2, q3⟩ := hv
    refine ⟨p, e, q1, fun a ha ⟨q, ⟨i, u, d', b1, b2, b3⟩, b4⟩ => ?_, q3⟩
    have hl1 : e1.length = σ.length := s1.len
    rcases app_get b1 with c1 | ⟨k, ek, c1⟩
    · have c3 : σ[i]? = some (some (.ref q)) := by
        rcases app_get b3 with z | ⟨k', e, z⟩
        · exact z
        · have := (List.getElem?_eq_some_iff.mp c1).1; omega
      exact q2 a ha ⟨q, ⟨i, u, d', c1, b2, c3⟩, b4⟩
    · obtain ⟨_, _, t3⟩ := s.join h0 s1 rfl t
      have hb : τ[k]? = some (some (.ref q)) := by
        rcases app_get b3 with z | ⟨k', e, z⟩
        · have := (List.getElem?_eq_some_iff.mp z).1; omega
        · rw [show k' = k by omega] at z; exact z
      obtain ⟨o, z⟩ := t3 k u d' q a c1 b2 hb b4
      rw [q3 a ha] at z; cases z
end
end G
set_option Elab.async false
set_option linter.all false
set_option maxRecDepth 100000
set_option maxHeartbeats 4000000
namespace G
open PySem PySem.Spec PyProof.Rows L2 SX Evl
section
variable {g : Gm} {W : WX} {P0 : Nat → Option Addr} {env env1 : Env} {σ σ1 σ' τ : L2.St} {M0 : Addr → Prop} {G H G' H' G0 H0 : Hp} {j m : Nat} {D : Ends}
noncomputable def Lk (j m : Nat) (σ τ : L2.St) (G : Hp) : Prop := ∃ p vs, σ[j]? = some (some (.ref p)) ∧ G p = some (.lst vs) ∧ τ = vs.map some ∧ vs.length = m
theorem Lk.mono (h : Lk j m σ τ G) (e : Ex G G') : Lk j m σ τ G' := by
  obtain ⟨p, vs, h1, h2, h3⟩ := h
  exact ⟨p, vs, h1, e _ _ h2, h3⟩
theorem Lk.but {ix : List Nat} (h : Lk j m σ τ G) (b : But ix σ σ1) (hj : j ∉ ix) : Lk j m σ1 τ G := by
  obtain ⟨p, vs, h1, h2⟩ := h
  exact ⟨p, vs, by rw [b.2 j hj]; exact h1, h2⟩
theorem Lk.len (h : Lk j m σ τ G) : τ.length = m := by
  obtain ⟨p, vs, _, _, h3, h4⟩ := h
  rw [h3, List.length_map, h4]
end
section
variable {X : Cx} {j m : Nat} {st : Stmt} {rest x y : List Stmt} {a b : SDen} {pos : Pos} {e c tg iter : Expr} {d dt : Den}
end
end G
set_option Elab.async false
set_option linter.all false
set_option maxRecDepth 100000
set_option maxHeartbeats 4000000
namespace G
open PySem PySem.Spec PyProof.Rows L2 SX Evl
section
variable {g : Gm} {W : WX} {P0 : Nat → Option Addr} {env env1 : Env} {σ σ1 σ' τ : L2.St} {M0 : Addr → Prop} {G H G' H' G0 H0 : Hp} {j m : Nat} {D : Ends}
end
section
variable {X : Cx} {j m : Nat} {pos : Pos} {e tg iter : Expr} {d : Den} {td : TDen} {gt : TG} {ix : List Nat} {body : List Stmt} {b : SDen} {src : IDen}
end
end G
set_option Elab.async false
set_option linter.all false
set_option maxRecDepth 100000
set_option maxHeartbeats 4000000
namespace G
open PySem PySem.Spec PyProof.Rows L2 SX Evl
section
variable {g : Gm} {W : WX} {P0 : Nat → Option Addr} {env env1 : Env} {σ σ1 σ' τ : L2.St} {M0 : Addr → Prop} {G H G' H' G0 H0 : Hp} {j m : Nat} {Q : VK} {da db d : Den}
end
end G
set_option Elab.async false
set_option linter.all false
set_option maxRecDepth 100000
set_option maxHeartbeats 4000000
namespace G
open PySem PySem.Spec PyProof.Rows L2 SX Evl
section
variable {X : Cx} {F : FD} {as : List (Bool × Den)} {b : Bool} {c j m : Nat} {x y mth : Str} {p p1 pos1 apos pos : Pos} {e i ea eb : Expr} {es rest : List Expr} {d da db : Den} {ds : List (Bool × Den)} {r : R2} {f : D → D → Option Val}
end
section
variable {g : Gm} {W : WX} {P0 : Nat → Option Addr} {env : Env} {σ τ : L2.St} {G H : Hp} {j : Nat} {D : Ends} {da db : Den} {r : SDen}
end
section
end
end G
set_option Elab.async false
set_option linter.all false
set_option maxRecDepth 100000
set_option maxHeartbeats 4000000
namespace G
open PySem PySem.Spec PyProof.Rows L2 SX Evl
section
variable {s t u a1 b1 : Slot} {r e b : Env} {Q : Val → Env → Prop} {P : Fl → Env → Prop} {d : Den} {v : Val} {i j jr c : Nat} {x : D}
end
end G
set_option Elab.async false
set_option linter.all false
set_option maxRecDepth 100000
set_option maxHeartbeats 4000000
namespace G
open PySem PySem.Spec PyProof.Rows L2 SX Evl
section
variable {prog : Program} {w : World} {A : Around} {E : Value → Shared → Prop} {s : Shared}
end
section
variable {X : Cx} {o : Expr} {to : TE} {p1 p2 pos : Pos} {j : Nat}
end
section
variable {X : Cx} {e : Expr} {d : Den} {j k : Nat} {x : Str} {p0 p1 p2 tpos pos : Pos}
end
end G
set_option Elab.async false
set_option linter.all false
set_option maxRecDepth 100000
set_option maxHeartbeats 4000000
namespace G
open PySem PySem.Spec PyProof.Rows L2 SX Evl
section
variable {X : Cx} {a b : Expr} {rest : List Expr} {pos : Pos} {da db : Den}
end
end G
set_option Elab.async false
set_option linter.all false
set_option maxRecDepth 100000
set_option maxHeartbeats 4000000
namespace G
open PySem PySem.Spec PyProof.Rows L2 SX Evl
inductive RT where
  | nil
  | cons (l : Nat) (k : Int) (w r : RT)
namespace RT
noncomputable def D : RT → List G.D
  | nil => []
  | cons _ k w r => .tup [.int k, .lst w.D] :: r.D
noncomputable def vals (ts : Nat → Addr) : RT → List V
  | nil => []
  | cons l _ _ r => .ref (ts l) :: r.vals ts
noncomputable def labs : RT → List Nat
  | nil => []
  | cons l _ w r => l :: (w.labs ++ r.labs)
noncomputable def app (n : Nat) (k : Int) : RT → RT
  | nil => cons n k nil nil
  | cons l k' w r => cons l k' w (r.app n k)
noncomputable def ins (a n : Nat) (k : Int) : RT → RT
  | nil => nil
  | cons l k' w r => cons l k' (if l = a then (w.ins a n k).app n k else w.ins a n k) (r.ins a n k)
noncomputable def insR (a n : Nat) (k : Int) (t : RT) : RT := if a = 0 then t.app n k else t.ins a n k
noncomputable def sub (i : Nat) : RT → Option RT
  | nil => none
  | cons l _ w r => if l = i then some w else match w.sub i with
    | some x => some x
    | none => r.sub i
noncomputable def subR (i : Nat) (t : RT) : RT := if i = 0 then t else (t.sub i).getD nil
noncomputable def Ok (cs ts : Nat → Addr) (H : Hp) : RT → Prop
  | nil => True
  | cons l k w r => H (ts l) = some (.tup [.int k, .ref (cs l)]) ∧ H (cs l) = some (.lst (w.vals ts)) ∧ w.Ok cs ts H ∧ r.Ok cs ts H
end RT
noncomputable def subsD (t : RT) (m : Nat) : List D := (List.range (m + 1)).map fun i => .lst (RT.subR i t).D
section
variable {g : Gm} {cs cs' ts ts' : Nat → Addr} {H H' G1 : Hp} {a n : Nat} {k : Int}
theorem RT.vals_congr : ∀ (t : RT), (∀ l ∈ t.labs, ts' l = ts l) → t.vals ts' = t.vals ts
  | .nil, _ => rfl
  | .cons l k w r, h => by
    rw [RT.vals, RT.vals, h l (by simp [RT.labs]), RT.vals_congr r fun x hx => h x (by simp [RT.labs, hx])]
theorem RT.vals_app : ∀ t : RT, (t.app n k).vals ts = t.vals ts ++ [.ref (ts n)]
  | .nil => rfl
  | .cons l k w r => by rw [RT.app, RT.vals, RT.vals, RT.vals_app r]; rfl
theorem RT.vals_ins : ∀ t : RT, (t.ins a n k).vals ts = t.vals ts
  | .nil => rfl
  | .cons l k w r => by rw [RT.ins, RT.vals, RT.vals, RT.vals_ins r]
theorem RT.labs_app {x : Nat} : ∀ t : RT, x ∈ (t.app n k).labs ↔ x ∈ t.labs ∨ x = n
  | .nil => by simp [RT.app, RT.labs]
  | .cons l k w r => by
    rw [RT.app]
    simp only [RT.labs, List.mem_cons, List.mem_append, RT.labs_app r]
    constructor
    · rintro (h | h | h | h) <;> simp [h]
    · rintro ((h | h | h) | h) <;> simp [h]
theorem RT.labs_ins {x : Nat} : ∀ t : RT, x ∈ (t.ins a n k).labs ↔ x ∈ t.labs ∨ (x = n ∧ a ∈ t.labs)
  | .nil => by simp [RT.ins, RT.labs]
  | .cons l k' w r => by
    have h1 := RT.labs_ins (x := x) w
    have h2 := RT.labs_ins (x := x) r
    rw [RT.ins]
    by_cases e : l = a
    · subst e
      rw [if_pos rfl]
      simp only [RT.labs, List.mem_cons, List.mem_append, RT.labs_app, h1, h2, true_or, and_true]
      constructor
      · rintro (h | ((h | h) | h) | (h | h)) <;> simp [h]
      · rintro ((h | h | h) | h) <;> simp [h]
    · rw [if_neg e]
      simp only [RT.labs, List.mem_cons, List.mem_append, h1, h2]
      constructor
      · rintro (h | (h | h) | (h | h)) <;> simp [h]
      · rintro ((h | h | h) | ⟨h, (h' | h' | h')⟩)
        · simp [h]
        · simp [h]
        · simp [h]
        · exact absurd h'.symm e
        · simp [h, h']
        · simp [h, h']
theorem RT.labs_insR {x : Nat} (t : RT) (ha : a = 0 ∨ a ∈ t.labs) : x ∈ (t.insR a n k).labs ↔ x ∈ t.labs ∨ x = n := by
  unfold RT.insR
  split
  · exact RT.labs_app t
  · rename_i h
    rw [RT.labs_ins]
    rcases ha with z | z
    · exact absurd z h
    · simp [z]
theorem RT.Ok.congr : ∀ {t : RT}, t.Ok cs ts H → (∀ l ∈ t.labs, cs' l = cs l ∧ ts' l = ts l ∧ H' (ts l) = H (ts l) ∧ H' (cs l) = H (cs l)) → t.Ok cs' ts' H'
  | .nil, _, _ => trivial
  | .cons l k w r, ⟨h1, h2, h3, h4⟩, h => by
    obtain ⟨a1, a2, a3, a4⟩ := h l (by simp [RT.labs])
    refine ⟨by rw [a2, a3, a1]; exact h1, ?_, h3.congr fun x hx => h x (by simp [RT.labs, hx]), h4.congr fun x hx => h x (by simp [RT.labs, hx])⟩
    rw [a1, a4, h2, RT.vals_congr w fun x hx => (h x (by simp [RT.labs, hx])).2.1]
theorem RT.Ok.app : ∀ {t : RT}, t.Ok cs ts H → H (ts n) = some (.tup [.int k, .ref (cs n)]) → H (cs n) = some (.lst []) → (t.app n k).Ok cs ts H
  | .nil, _, h1, h2 => ⟨h1, h2, trivial, trivial⟩
  | .cons l k' w r, ⟨h1, h2, h3, h4⟩, a1, a2 => ⟨h1, h2, h3, h4.app a1 a2⟩
theorem RT.Ok.ins : ∀ {t : RT}, t.Ok cs ts H → (∀ l ∈ t.labs, H' (ts l) = H (ts l)) → (∀ l ∈ t.labs, l ≠ a → H' (cs l) = H (cs l)) → (∀ vs, H (cs a) = some (.lst vs) → H' (cs a) = some (.lst (vs ++ [.ref (ts n)]))) →
    H' (ts n) = some (.tup [.int k, .ref (cs n)]) → H' (cs n) = some (.lst []) → (t.ins a n k).Ok cs ts H'
  | .nil, _, _, _, _, _, _ => trivial
  | .cons l k' w r, ⟨h1, h2, h3, h4⟩, a1, a2, a3, a4, a5 => by
    have iw := h3.ins (fun x hx => a1 x (by simp [RT.labs, hx])) (fun x hx => a2 x (by simp [RT.labs, hx])) a3 a4 a5
    have ir := h4.ins (fun x hx => a1 x (by simp [RT.labs, hx])) (fun x hx => a2 x (by simp [RT.labs, hx])) a3 a4 a5
    have b1 : H' (ts l) = some (.tup [.int k', .ref (cs l)]) := (a1 l (by simp [RT.labs])).trans h1
    rw [RT.ins]
    by_cases e : l = a
    · subst e
      rw [if_pos rfl]
      exact ⟨b1, by rw [RT.vals_app, RT.vals_ins]; exact a3 _ h2, iw.app a4 a5, ir⟩
    · rw [if_neg e]
      exact ⟨b1, by rw [RT.vals_ins, a2 l (by simp [RT.labs]) e]; exact h2, iw, ir⟩
theorem RT.Ok.sub {i : Nat} : ∀ {t : RT}, t.Ok cs ts H → i ∈ t.labs → ∃ w, t.sub i = some w ∧ H (cs i) = some (.lst (w.vals ts)) ∧ w.Ok cs ts H ∧ ∀ x ∈ w.labs, x ∈ t.labs
  | .nil, _, h => by simp [RT.labs] at h
  | .cons l k w r, ⟨h1, h2, h3, h4⟩, h => by
    rw [RT.sub]
    by_cases e : l = i
    · subst e
      rw [if_pos rfl]
      exact ⟨w, rfl, h2, h3, fun x hx => by simp [RT.labs, hx]⟩
    · rw [if_neg e]
      simp only [RT.labs, List.mem_cons, List.mem_append] at h
      have none_of : ∀ (t : RT), i ∉ t.labs → t.sub i = none := fun t => by
        induction t with
        | nil => intro _; rfl
        | cons l k w r iw ir =>
          intro hh
          simp only [RT.labs, List.mem_cons, List.mem_append, not_or] at hh
          rw [RT.sub, if_neg (fun z => hh.1 z.symm), iw hh.2.1]
          exact ir hh.2.2
      by_cases hw : i ∈ w.labs
      · obtain ⟨x, b1, b2, b3, b4⟩ := h3.sub hw
        exact ⟨x, by rw [b1], b2, b3, fun y hy => by simp [RT.labs, b4 y hy]⟩
      · have hr : i ∈ r.labs := by
          rcases h with h | h | h
          · exact absurd h.symm e
          · exact absurd h hw
          · exact h
        obtain ⟨x, b1, b2, b3, b4⟩ := h4.sub hr
        exact ⟨x, by rw [none_of w hw]; exact b1, b2, b3, fun y hy => by simp [RT.labs, b4 y hy]⟩
theorem RT.Ok.rp : ∀ {t : RT}, t.Ok cs ts H → (∀ l ∈ t.labs, G1 (ts l) = H (ts l) ∧ G1 (cs l) = H (cs l)) → Rps g G1 t.D (t.vals ts)
  | .nil, _, _ => rfl
  | .cons l k w r, ⟨h1, h2, h3, h4⟩, h => by
    obtain ⟨a1, a2⟩ := h l (by simp [RT.labs])
    have rw' : Rps g G1 w.D (w.vals ts) := h3.rp fun x hx => h x (by simp [RT.labs, hx])
    have rr : Rps g G1 r.D (r.vals ts) := h4.rp fun x hx => h x (by simp [RT.labs, hx])
    exact ⟨.ref (ts l), _, rfl, ⟨ts l, _, rfl, by rw [a1]; exact h1, .int k, _, rfl, rfl, .ref (cs l), [], rfl, ⟨cs l, _, rfl, SqL.of (by rw [a2]; exact h2), rw'⟩, rfl⟩, rr⟩
theorem rps_map {α : Type} {f : α → D} {h : α → V} : ∀ (l : List α), (∀ i ∈ l, Rp g G1 (f i) (h i)) → Rps g G1 (l.map f) (l.map h)
  | [], _ => rfl
  | x :: l, hh => ⟨_, _, rfl, hh x (by simp), rps_map l fun i hi => hh i (by simp [hi])⟩
end
noncomputable def FoC (cs ts : Nat → Addr) (ce : Addr) (m : Nat) (a : Addr) : Prop := a = ce ∨ (∃ i, i ≤ m ∧ a = cs i) ∨ ∃ l, 1 ≤ l ∧ l ≤ m ∧ a = ts l
structure Fo (G0 H0 : Hp) (cs ts : Nat → Addr) (ce : Addr) (m : Nat) (t : RT) (M : Addr → Prop) (H : Hp) : Prop where
  ev : H ce = some (.lst ((List.range (m + 1)).map fun i => .ref (cs i)))
  root : H (cs 0) = some (.lst (t.vals ts))
  ok : t.Ok cs ts H
  lab : ∀ l, l ∈ t.labs ↔ 1 ≤ l ∧ l ≤ m
  nce : ∀ i, i ≤ m → cs i ≠ ce
  inj : ∀ i j, i ≤ m → j ≤ m → cs i = cs j → i = j
  side : ∀ a, FoC cs ts ce m a → G0 a = none ∧ H0 a = none ∧ ¬ OCl M H a
section
variable {g : Gm} {cs ts : Nat → Addr} {ce : Addr} {m n : Nat} {t : RT} {M M' : Addr → Prop} {G0 H0 G H G' H' : Hp} {k : Int}
theorem RT.Ok.at : ∀ {t : RT}, t.Ok cs ts H → ∀ l ∈ t.labs, (∃ k, H (ts l) = some (.tup [.int k, .ref (cs l)])) ∧ ∃ vs, H (cs l) = some (.lst vs)
  | .nil, _, l, h => by simp [RT.labs] at h
  | .cons l' k w r, ⟨h1, h2, h3, h4⟩, l, h => by
    simp only [RT.labs, List.mem_cons, List.mem_append] at h
    rcases h with rfl | h | h
    · exact ⟨⟨_, h1⟩, _, h2⟩
    · exact h3.at l h
    · exact h4.at l h
theorem Fo.lst (f : Fo G0 H0 cs ts ce m t M H) {i : Nat} (hi : i ≤ m) : H (cs i) = some (.lst ((t.subR i).vals ts)) ∧ (t.subR i).Ok cs ts H ∧ ∀ x ∈ (t.subR i).labs, x ∈ t.labs := by
  unfold RT.subR
  split
  · rename_i h; subst h; exact ⟨f.root, f.ok, fun _ h => h⟩
  · obtain ⟨w, h1, h2, h3, h4⟩ := f.ok.sub ((f.lab i).mpr ⟨by omega, hi⟩)
    rw [h1]
    exact ⟨h2, h3, h4⟩
theorem Fo.at (f : Fo G0 H0 cs ts ce m t M H) {a : Addr} (h : FoC cs ts ce m a) : ∃ o, H a = some o := by
  rcases h with rfl | ⟨i, hi, rfl⟩ | ⟨l, h1, h2, rfl⟩
  · exact ⟨_, f.ev⟩
  · exact ⟨_, (f.lst hi).1⟩
  · obtain ⟨⟨k, e⟩, _⟩ := f.ok.at l ((f.lab l).mpr ⟨h1, h2⟩)
    exact ⟨_, e⟩
theorem Fo.keep (f : Fo G0 H0 cs ts ce m t M H) (h : ∀ a, FoC cs ts ce m a → H' a = H a ∧ ¬ OCl M' H' a) : Fo G0 H0 cs ts ce m t M' H' where
  ev := by rw [(h ce (.inl rfl)).1]; exact f.ev
  root := by rw [(h (cs 0) (.inr (.inl ⟨0, by omega, rfl⟩))).1]; exact f.root
  ok := f.ok.congr fun l hl => by
    obtain ⟨h1, h2⟩ := (f.lab l).mp hl
    exact ⟨rfl, rfl, (h _ (.inr (.inr ⟨l, h1, h2, rfl⟩))).1, (h _ (.inr (.inl ⟨l, h2, rfl⟩))).1⟩
  lab := f.lab
  nce := f.nce
  inj := f.inj
  side := fun a ha => ⟨(f.side a ha).1, (f.side a ha).2.1, (h a ha).2⟩
theorem Fo.tr (f : Fo G0 H0 cs ts ce m t M H) (t' : Tr M G H M' G' H') : Fo G0 H0 cs ts ce m t M' H' := f.keep fun a ha => by
  obtain ⟨o, ho⟩ := f.at ha
  have hn := (f.side a ha).2.2
  refine ⟨(t'.keep a o hn ho).trans ho.symm, fun z => ?_⟩
  rcases t'.ocl a z with y | y
  · exact hn y
  · rw [ho] at y; cases y
open Classical in
noncomputable def stF (C : Addr → Prop) (G H : Hp) : Hp := fun a => if C a then H a else G a
theorem stF_in {C : Addr → Prop} {a : Addr} (h : C a) : stF C G H a = H a := if_pos h
theorem stF_out {C : Addr → Prop} {a : Addr} (h : ¬ C a) : stF C G H a = G a := if_neg h
theorem Fo.exG (f : Fo G0 H0 cs ts ce m t M H) : Ex G0 (stF (FoC cs ts ce m) G0 H) := fun a u e => by
  by_cases h : FoC cs ts ce m a
  · rw [(f.side a h).1] at e; cases e
  · rw [stF_out h]; exact e
theorem Fo.exH (f : Fo G0 H0 cs ts ce m t M H) (x : Ex G0 H) : Ex (stF (FoC cs ts ce m) G0 H) H := fun a u e => by
  by_cases h : FoC cs ts ce m a
  · rw [stF_in h] at e; exact e
  · rw [stF_out h] at e; exact x a u e
theorem Fo.st (f : Fo G0 H0 cs ts ce m t M H) {l : Nat} (hl : l ∈ t.labs) : stF (FoC cs ts ce m) G0 H (ts l) = H (ts l) ∧ stF (FoC cs ts ce m) G0 H (cs l) = H (cs l) := by
  obtain ⟨h1, h2⟩ := (f.lab l).mp hl
  exact ⟨stF_in (.inr (.inr ⟨l, h1, h2, rfl⟩)), stF_in (.inr (.inl ⟨l, h2, rfl⟩))⟩
theorem Fo.rp (f : Fo G0 H0 cs ts ce m t M H) {i : Nat} (hi : i ≤ m) : Rp g (stF (FoC cs ts ce m) G0 H) (.lst (t.subR i).D) (.ref (cs i)) := by
  obtain ⟨h1, h2, h3⟩ := f.lst hi
  exact ⟨cs i, _, rfl, SqL.of (by rw [stF_in (.inr (.inl ⟨i, hi, rfl⟩))]; exact h1), h2.rp fun l hl => f.st (h3 l hl)⟩
theorem Fo.rpE (f : Fo G0 H0 cs ts ce m t M H) : Rp g (stF (FoC cs ts ce m) G0 H) (.lst (subsD t m)) (.ref ce) :=
  ⟨ce, _, rfl, SqL.of (by rw [stF_in (.inl rfl)]; exact f.ev), rps_map _ fun i hi => f.rp (by have := List.mem_range.mp hi; omega)⟩
theorem Fo.step {a : Nat} {c tn : Addr} {vs : List V} (f : Fo G0 H0 cs ts ce m t M H) (ha : a ≤ m) (hc : H c = some (.lst [])) (ht : H tn = some (.tup [.int k, .ref c])) (nc : ¬ FoC cs ts ce m c) (nt : ¬ FoC cs ts ce m tn) (ct : c ≠ tn)
    (sc : G0 c = none ∧ H0 c = none ∧ ¬ OCl M H c) (st : G0 tn = none ∧ H0 tn = none ∧ ¬ OCl M H tn) (hv : H (cs a) = some (.lst vs)) :
    Fo G0 H0 (fun i => if i = m + 1 then c else cs i) (fun i => if i = m + 1 then tn else ts i) ce (m + 1) (t.insR a (m + 1) k) M (upd (upd H (cs a) (.lst (vs ++ [.ref tn]))) ce (.lst ((List.range (m + 1)).map (fun i => V.ref (cs i)) ++ [.ref c]))) := by
  have la : a = 0 ∨ a ∈ t.labs := by
    by_cases z : a = 0
    · exact .inl z
    · exact .inr ((f.lab a).mpr ⟨by omega, ha⟩)
  have nca : cs a ≠ ce := f.nce a ha
  have cne : c ≠ ce := fun z => nc (.inl z)
  have tne : tn ≠ ce := fun z => nt (.inl z)
  have cnc : ∀ i, i ≤ m → cs i ≠ c := fun i hi z => nc (.inr (.inl ⟨i, hi, z.symm⟩))
  have tnc : ∀ i, i ≤ m → cs i ≠ tn := fun i hi z => nt (.inr (.inl ⟨i, hi, z.symm⟩))
  have tcs : ∀ l, l ∈ t.labs → ∀ i, i ≤ m → ts l ≠ cs i := fun l hl i hi z => by
    obtain ⟨⟨k', e⟩, _⟩ := f.ok.at l hl
    rw [z, (f.lst hi).1] at e; cases e
  have tce : ∀ l, l ∈ t.labs → ts l ≠ ce := fun l hl z => by
    obtain ⟨⟨k', e⟩, _⟩ := f.ok.at l hl
    rw [z, f.ev] at e; cases e
  have csm : ∀ i, i ≤ m → (if i = m + 1 then c else cs i) = cs i := fun i hi => if_neg (by omega)
  have tsm : ∀ i, i ≤ m → (if i = m + 1 then tn else ts i) = ts i := fun i hi => if_neg (by omega)
  have lm : ∀ l ∈ t.labs, l ≤ m := fun l hl => ((f.lab l).mp hl).2
  have okn : t.Ok (fun i => if i = m + 1 then c else cs i) (fun i => if i = m + 1 then tn else ts i) H := f.ok.congr fun l hl => ⟨csm l (lm l hl), tsm l (lm l hl), rfl, rfl⟩
  have hcn : upd (upd H (cs a) (.lst (vs ++ [.ref tn]))) ce (.lst ((List.range (m + 1)).map (fun i => V.ref (cs i)) ++ [.ref c])) c = some (.lst []) := by
    rw [upd_ne cne, upd_ne (Ne.symm (cnc a ha))]; exact hc
  have htn : upd (upd H (cs a) (.lst (vs ++ [.ref tn]))) ce (.lst ((List.range (m + 1)).map (fun i => V.ref (cs i)) ++ [.ref c])) tn = some (.tup [.int k, .ref c]) := by
    rw [upd_ne tne, upd_ne (Ne.symm (tnc a ha))]; exact ht
  have hca : upd (upd H (cs a) (.lst (vs ++ [.ref tn]))) ce (.lst ((List.range (m + 1)).map (fun i => V.ref (cs i)) ++ [.ref c])) (cs a) = some (.lst (vs ++ [.ref tn])) := by
    rw [upd_ne nca, upd_same]
  have hts : ∀ l ∈ t.labs, upd (upd H (cs a) (.lst (vs ++ [.ref tn]))) ce (.lst ((List.range (m + 1)).map (fun i => V.ref (cs i)) ++ [.ref c])) (ts l) = H (ts l) := fun l hl => by
    rw [upd_ne (tce l hl), upd_ne (tcs l hl a ha)]
  have hcs : ∀ l, l ≤ m → l ≠ a → upd (upd H (cs a) (.lst (vs ++ [.ref tn]))) ce (.lst ((List.range (m + 1)).map (fun i => V.ref (cs i)) ++ [.ref c])) (cs l) = H (cs l) := fun l hl hla => by
    rw [upd_ne (f.nce l hl), upd_ne (fun z => hla (f.inj _ _ hl ha z))]
  generalize hH : upd (upd H (cs a) (.lst (vs ++ [.ref tn]))) ce (.lst ((List.range (m + 1)).map (fun i => V.ref (cs i)) ++ [.ref c])) = H2 at *
  have tn1 : (if m + 1 = m + 1 then tn else ts (m + 1)) = tn := if_pos rfl
  have cn1 : (if m + 1 = m + 1 then c else cs (m + 1)) = c := if_pos rfl
  have vt : t.vals (fun i => if i = m + 1 then tn else ts i) = t.vals ts := RT.vals_congr t fun l hl => tsm l (lm l hl)
  refine ⟨?_, ?_, ?_, fun l => ?_, fun i hi => ?_, fun i j hi hj e => ?_, fun b hb => ?_⟩
  · have e : (List.range (m + 1)).map (fun i => V.ref (if i = m + 1 then c else cs i)) = (List.range (m + 1)).map fun i => V.ref (cs i) := List.map_congr_left fun i hi => by
      have := List.mem_range.mp hi
      rw [if_neg (by omega)]
    show H2 ce = some (.lst ((List.range (m + 1 + 1)).map fun i => V.ref (if i = m + 1 then c else cs i)))
    rw [← hH, upd_same, List.range_succ (n := m + 1), List.map_append, e]
    simp
  · show H2 (if 0 = m + 1 then c else cs 0) = _
    rw [csm 0 (by omega)]
    unfold RT.insR
    by_cases z : a = 0
    · rw [if_pos z, RT.vals_app, vt, tn1]
      subst z
      rw [hca]
      rw [f.root] at hv
      have e : t.vals ts = vs := HO.lst.inj (Option.some.inj hv)
      rw [e]
    · rw [if_neg z, RT.vals_ins, vt, hcs 0 (by omega) (fun y => z y.symm)]
      exact f.root
  · unfold RT.insR
    by_cases z : a = 0
    · rw [if_pos z]
      refine RT.Ok.app (okn.congr fun l hl => ⟨rfl, rfl, ?_, ?_⟩) (by rw [tn1, cn1]; exact htn) (by rw [cn1]; exact hcn)
      · rw [tsm l (lm l hl)]; exact hts l hl
      · rw [csm l (lm l hl)]
        have := ((f.lab l).mp hl).1
        exact hcs l (lm l hl) (by omega)
    · rw [if_neg z]
      refine okn.ins (fun l hl => ?_) (fun l hl hla => ?_) (fun us hu => ?_) (by rw [tn1, cn1]; exact htn) (by rw [cn1]; exact hcn)
      · rw [tsm l (lm l hl)]; exact hts l hl
      · rw [csm l (lm l hl)]; exact hcs l (lm l hl) hla
      · rw [csm a ha] at hu ⊢
        rw [hv] at hu
        have e : vs = us := HO.lst.inj (Option.some.inj hu)
        rw [hca, e, tn1]
  · rw [RT.labs_insR t la, f.lab l]
    omega
  · show (if i = m + 1 then c else cs i) ≠ ce
    split
    · exact cne
    · exact f.nce i (by omega)
  · have e : (if i = m + 1 then c else cs i) = (if j = m + 1 then c else cs j) := e
    split at e
    · split at e
      · omega
      · exact absurd e.symm (cnc j (by omega))
    · split at e
      · exact absurd e (cnc i (by omega))
      · exact f.inj i j (by omega) (by omega) e
  · have old : ∀ b, FoC cs ts ce m b → G0 b = none ∧ H0 b = none ∧ ¬ OCl M H b := f.side
    have all : G0 b = none ∧ H0 b = none ∧ ¬ OCl M H b := by
      rcases hb with rfl | ⟨i, hi, rfl⟩ | ⟨l, h1, h2, rfl⟩
      · exact old _ (.inl rfl)
      · show G0 (if i = m + 1 then c else cs i) = none ∧ H0 (if i = m + 1 then c else cs i) = none ∧ ¬ OCl M H (if i = m + 1 then c else cs i)
        split
        · exact sc
        · exact old _ (.inr (.inl ⟨i, by omega, rfl⟩))
      · show G0 (if l = m + 1 then tn else ts l) = none ∧ H0 (if l = m + 1 then tn else ts l) = none ∧ ¬ OCl M H (if l = m + 1 then tn else ts l)
        split
        · exact st
        · exact old _ (.inr (.inr ⟨l, h1, by omega, rfl⟩))
    refine ⟨all.1, all.2.1, fun z => all.2.2 ?_⟩
    rw [← hH] at z
    have na : ¬ M (cs a) := fun y => (old _ (.inr (.inl ⟨a, ha, rfl⟩))).2.2 (OCl.top y)
    have ne : ¬ M ce := fun y => (old _ (.inl rfl)).2.2 (OCl.top y)
    exact (cl_side na).mp ((cl_side ne).mp z)
end
end G
set_option Elab.async false
set_option linter.all false
set_option maxRecDepth 100000
set_option maxHeartbeats 4000000
namespace G
open PySem PySem.Spec PyProof.Rows L2 SX Evl
noncomputable def flatS : Slot → Bool
  | .no => true
  | .im d => flat d
  | .ow (.lst ys) => ys.all flat
  | .io (.lst ys) => ys.all flat
  | _ => false
noncomputable def plainE (env : Env) : Bool := env.all flatS
section
variable {g : Gm} {W : WX} {P0 : Nat → Option Addr} {env env' : Env} {σ σ' : L2.St} {M M' : Addr → Prop} {G H G' H' G0 H0 : Hp}
theorem plain_get {i : Nat} {s : Slot} (h : plainE env = true) (e : env[i]? = some s) : flatS s = true := List.all_eq_true.mp h s (List.mem_of_getElem? e)
theorem Sim.plain (s : Sim g P0 env σ G' H') (h : plainE env = true) (x : Ex G0 G') : Sim g P0 env σ G0 H' where
  ex := x.trans s.ex
  len := s.len
  im := fun i d e => by
    obtain ⟨v, h1, h2⟩ := s.im i d e
    exact ⟨v, h1, flat_rp (plain_get h e) h2⟩
  ow := fun i u d e e' => by
    obtain ⟨p, h1, h2, o, h3, h4⟩ := s.ow i u d e e'
    have hn : G0 p = none := by
      cases z : G0 p with
      | none => rfl
      | some w => rw [x p w z] at h2; cases h2
    have hf := plain_get h e
    refine ⟨p, h1, hn, o, h3, ?_⟩
    have key : ∃ ys, d = .lst ys ∧ ys.all flat = true := by
      cases u with
      | no => cases e'
      | im _ => cases e'
      | ow y =>
        cases e'
        cases d with
        | lst ys => exact ⟨ys, rfl, hf⟩
        | _ => cases hf
      | io y =>
        cases e'
        cases d with
        | lst ys => exact ⟨ys, rfl, hf⟩
        | _ => cases hf
    obtain ⟨ys, rfl, hy⟩ := key
    obtain ⟨vs, rfl, h5⟩ := h4.co (fun _ _ z => by cases z)
    exact .inl ⟨vs, rfl, rps_flat hy h5⟩
  dis := s.dis
  io := s.io
  pv := s.pv
theorem Tr.low (t : Tr M G H M' G' H') : Tr M G0 H M' G0 H' := ⟨Ex.refl _, t.keep, fun _ h => .inl h, t.own, t.dom⟩
theorem oa_off {i : Nat} {t : Slot} {a : Addr} (ht : t.own = none) (hσ : ∀ j, i ≠ j → σ'[j]? = σ[j]?) (h : OA (env.set i t) σ' a) : OA env σ a := by
  obtain ⟨j, s, d, h1, h2, h3⟩ := h
  rcases get_set h1 with ⟨rfl, rfl, _⟩ | ⟨hij, h1⟩
  · rw [ht] at h2; cases h2
  · rw [hσ j hij] at h3; exact ⟨j, s, d, h1, h2, h3⟩
theorem set_off {i : Nat} {v : Option V} : ∀ j, i ≠ j → (σ.set i v)[j]? = σ[j]? := fun j h => List.getElem?_set_ne h
end
noncomputable def foStep (je ja jw : Nat) (dAt dK : Den) (t : RT) (m : Nat) (env : Env) : Option ((Nat × Int) × Env) :=
  match dAt (env.set je (.im (.lst (subsD t m)))) with
  | .ok (v, e1) => match rd v e1 with
    | some (.int a) => if 0 ≤ a ∧ a ≤ m ∧ plainE (e1.set je .no) = true ∧ (t.subR a.toNat).D.length < LINE ∧ m + 1 < LINE then
        match dK (((e1.set je .no).set ja (.im (.int a))).set jw .no) with
        | .ok (u, e2) => match rd u e2 with
          | some (.int k) => if plainE e2 = true then some ((a.toNat, k), e2) else none
          | _ => none
        | _ => none
      else none
    | _ => none
  | _ => none
noncomputable def foL (je ja jw : Nat) (td : TDen) (dAt dK : Den) : List D → RT → Nat → Env → Option (RT × Env)
  | [], t, _, env => some (t, env)
  | d :: ds, t, m, env => (td d env).bind fun e1 => if plainE e1 = true then (foStep je ja jw dAt dK t m e1).bind fun p => foL je ja jw td dAt dK ds (t.insR p.1.1 (m + 1) p.1.2) (m + 1) p.2 else none
noncomputable def sForest (jf je jw ja : Nat) (src : IDen) (td : TDen) (dAt dK : Den) : SDen := fun env =>
  if jf < env.length ∧ je < env.length ∧ jw < env.length ∧ ja < env.length then
    (src ((env.set jf .no).set je .no)).bind fun p => match foL je ja jw td dAt dK p.1 .nil 0 p.2 with
      | some (t, e) => .ok (.rt (.im (.lst t.D)), e)
      | none => .bad
  else .bad
noncomputable def tFoB (g : Gm) (W : WX) (je jw ja : Nat) (dAt dK : Den) : TS := tSeq (tAsg (teOf g W dAt) (gName ja)) (tSeq (tAsg (tLst tNil) (gName jw)) (tSeq (tDrop (tBM g.K "list" rAppend (tOp (rIxL g.K) (tVar je) (tVar ja)) (tCons (tTup (tCons (teOf g W dK) (tCons (tVar jw) tNil))) tNil))) (tDrop (tBM g.K "list" rAppend (tVar je) (tCons (tVar jw) tNil)))))
section
variable {g : Gm} {W : WX} {P0 : Nat → Option Addr} {env e1 e2 : Env} {σ σ3 : L2.St} {M0 : Addr → Prop} {G GB H H3 H0 : Hp} {D : Ends} {jf je jw ja m : Nat} {dAt dK : Den} {cs ts : Nat → Addr} {ce : Addr} {t : RT} {p : (Nat × Int) × Env}
theorem vals_len : ∀ t : RT, (t.vals ts).length = t.D.length
  | .nil => rfl
  | .cons l k w r => by rw [RT.vals, RT.D, List.length_cons, List.length_cons, vals_len r]
theorem foB_ok {N : L2.St → Hp → Prop} (h1 : je ≠ ja) (h2 : je ≠ jw) (h3 : jf ≠ ja) (h4 : jf ≠ jw) (h5 : ja ≠ jw) (hl : je < σ3.length ∧ jw < σ3.length ∧ ja < σ3.length)
    (s : Sim g P0 e1 σ3 GB H3) (T : Tr M0 G H (OA e1 σ3) GB H3) (f : Fo GB H cs ts ce m t (OA e1 σ3) H3) (hf : σ3[jf]? = some (some (.ref (cs 0)))) (he : σ3[je]? = some (some (.ref ce))) (hs : foStep je ja jw dAt dK t m e1 = some p) (hN : D.nx = N)
    (k : ∀ cs' ts' σ' H', σ'.length = σ3.length → Sim g P0 p.2 σ' GB H' → Tr M0 G H (OA p.2 σ') GB H' → Fo GB H cs' ts' ce (m + 1) (t.insR p.1.1 (m + 1) p.1.2) (OA p.2 σ') H' → σ'[jf]? = some (some (.ref (cs' 0))) → σ'[je]? = some (some (.ref ce)) → N σ' H') :
    tFoB g W je jw ja dAt dK D σ3 H3 := by
  subst hN
  unfold foStep at hs
  split at hs
  · rename_i v e1' eA
    split at hs
    · rename_i a er
      split at hs
      · rename_i hc
        obtain ⟨ha0, ham, hpl, hln, hm⟩ := hc
        split at hs
        · rename_i u e2 eK
          split at hs
          · rename_i kk er2
            split at hs
            · rename_i hp2
              cases hs
              -- the look
              have hwn : ∀ b, stF (FoC cs ts ce m) GB H3 b ≠ none → GB b ≠ none ∨ ¬ OCl (OA e1 σ3) H3 b := fun b hb => by
                by_cases z : FoC cs ts ce m b
                · exact .inr (f.side b z).2.2
                · rw [stF_out z] at hb; exact .inl hb
              have sv : Sim g P0 (e1.set je (.im (.lst (subsD t m)))) σ3 (stF (FoC cs ts ce m) GB H3) H3 :=
                (s.widen f.exG (f.exH s.ex) hwn).unown rfl (fun _ _ => rfl) rfl fun d z _ => by cases z; exact ⟨_, he, f.rpE⟩
              have mv : ∀ b, OA (e1.set je (.im (.lst (subsD t m)))) σ3 b → OA e1 σ3 b := fun b z => oa_off rfl (fun _ _ => rfl) z
              refine ⟨P0, _, _, sv, ?_⟩
              rw [eA]
              intro x G4 H4 s4 t4 w4
              have hx : x = .int a := (rd_now s4 w4 er).int
              subst hx
              have s4' : Sim g P0 (e1'.set je .no) σ3 GB H4 := (s4.unown (i := je) (t := .no) (σ' := σ3) rfl (fun _ _ => rfl) rfl fun d z => by cases z).plain hpl (f.exG.trans t4.ex)
              have T4 : Tr (OA e1 σ3) GB H3 (OA (e1'.set je .no) σ3) GB H4 := (t4.low.more mv).less fun b z => oa_off rfl (fun _ _ => rfl) z
              have f4 := f.tr T4
              have T4' := T.trans T4
              have hlen3 : e1'.length = σ3.length := s4.len
              -- at
              have s5 : Sim g P0 ((e1'.set je .no).set ja (.im (.int a))) (σ3.set ja (some (.int a))) GB H4 := s4'.unown (by rw [List.length_set]) set_off rfl fun d z _ => by cases z; exact ⟨.int a, List.getElem?_set_self hl.2.2, rfl⟩
              have m5 : ∀ b, OA ((e1'.set je .no).set ja (.im (.int a))) (σ3.set ja (some (.int a))) b → OA (e1'.set je .no) σ3 b := fun b z => oa_off rfl set_off z
              -- within
              refine ⟨Nat.zero_le _, fun c hc => ?_⟩
              have s6 : Sim g P0 (((e1'.set je .no).set ja (.im (.int a))).set jw .no) ((σ3.set ja (some (.int a))).set jw (some (.ref c))) GB H4 := s5.unown (by rw [List.length_set]) set_off rfl fun d z => by cases z
              have m6 : ∀ b, OA (((e1'.set je .no).set ja (.im (.int a))).set jw .no) ((σ3.set ja (some (.int a))).set jw (some (.ref c))) b → OA (e1'.set je .no) σ3 b := fun b z => m5 b (oa_off rfl set_off z)
              have f6 : Fo GB H cs ts ce m t (OA (((e1'.set je .no).set ja (.im (.int a))).set jw .no) ((σ3.set ja (some (.int a))).set jw (some (.ref c)))) H4 := f4.keep fun b hb => ⟨rfl, fun z => (f4.side b hb).2.2 (z.mono m6)⟩
              have T6 := T4'.less m6
              have nE : je ≠ ja ∧ je ≠ jw := ⟨h1, h2⟩
              have gE : ((σ3.set ja (some (.int a))).set jw (some (.ref c)))[je]? = some (some (.ref ce)) := by rw [List.getElem?_set_ne h2.symm, List.getElem?_set_ne h1.symm]; exact he
              have gF : ((σ3.set ja (some (.int a))).set jw (some (.ref c)))[jf]? = some (some (.ref (cs 0))) := by rw [List.getElem?_set_ne h4.symm, List.getElem?_set_ne h3.symm]; exact hf
              have gA : ((σ3.set ja (some (.int a))).set jw (some (.ref c)))[ja]? = some (some (.int a)) := by rw [List.getElem?_set_ne h5.symm]; exact List.getElem?_set_self hl.2.2
              have gW : ((σ3.set ja (some (.int a))).set jw (some (.ref c)))[jw]? = some (some (.ref c)) := List.getElem?_set_self (by rw [List.length_set]; exact hl.2.1)
              have l5 : ((σ3.set ja (some (.int a))).set jw (some (.ref c))).length = σ3.length := by rw [List.length_set, List.length_set]
              generalize hσ5 : (σ3.set ja (some (.int a))).set jw (some (.ref c)) = σ5 at *
              show tSeq _ _ D ((σ3.set ja (some (.int a))).set jw (some (.ref c))) _
              rw [hσ5]
              generalize henv6 : ((e1'.set je .no).set ja (.im (.int a))).set jw .no = env6 at *
              have nc0 : ∀ b, FoC cs ts ce m b → b ≠ c := fun b hb z => by
                obtain ⟨o, ho⟩ := f6.at hb
                rw [z, hc] at ho; cases ho
              have gcN : GB c = none := by
                cases z : GB c with
                | none => rfl
                | some w => rw [s6.ex _ _ z] at hc; cases hc
              have ocN : ∀ {e : Env} {q : L2.St} {G2 H2 : Hp} {b : Addr}, Sim g P0 e q G2 H2 → H2 b = none → ¬ OCl (OA e q) H2 b := fun s' hb z => by
                obtain ⟨_, o, ho⟩ := s'.cl z
                rw [hb] at ho; cases ho
              have s6' := s6.side (o := .lst []) gcN (ocN s6 hc)
              have f6' : Fo GB H cs ts ce m t (OA env6 σ5) (upd H4 c (.lst [])) := f6.keep fun b hb => ⟨upd_ne (nc0 b hb), fun z => (f6.side b hb).2.2 ((cl_side fun y => ocN s6 hc (OCl.top y)).mp z)⟩
              have T6' := T6.side (p := c) (o := .lst []) (T6.dom c hc) fun y => ocN s6 hc (OCl.top y)
              have hd6 : Held c (.lst []) (OA env6 σ5) GB (upd H4 c (.lst [])) := Held.upd (ocN s6 hc) gcN
              have ham' : a.toNat ≤ m := by omega
              refine ⟨_, gE, _, gA, ce, _, a, .ref (cs a.toNat), rfl, rfl, SqL.of f6'.ev, ?_, .inl ⟨rfl, _, SqL.of (f6'.lst ham').1⟩, ?_⟩
              · unfold atI ixN
                rw [List.length_map, List.length_range, if_pos ha0, if_pos (by omega)]
                show ((List.range (m + 1)).map fun i => V.ref (cs i))[a.toNat]? = _
                rw [List.getElem?_map, List.getElem?_range (by omega)]; rfl
              refine ⟨P0, env6, GB, s6', ?_⟩
              rw [eK]
              intro y G7 H7 s7 t7 w7
              have hy : y = .int kk := (rd_now s7 w7 er2).int
              subst hy
              have s7' : Sim g P0 e2 σ5 GB H7 := s7.plain hp2 t7.ex
              have T7 : Tr (OA env6 σ5) GB (upd H4 c (.lst [])) (OA e2 σ5) GB H7 := t7.low
              have f7 := f6'.tr T7
              have hd7 := hd6.tr T7 (fun xs z => by cases z)
              have T7' := T6'.trans T7
              refine ⟨_, gW, (by show 2 ≤ sizeLine; decide), fun tn htn => ?_⟩
              have gtN : GB tn = none := by
                cases z : GB tn with
                | none => rfl
                | some w => rw [s7'.ex _ _ z] at htn; cases htn
              have nt0 : ∀ b, FoC cs ts ce m b → b ≠ tn := fun b hb z => by
                obtain ⟨o, ho⟩ := f7.at hb
                rw [z, htn] at ho; cases ho
              have ctn : c ≠ tn := fun z => by have := hd7.h; rw [z, htn] at this; cases this
              have s8 := s7'.side (o := .tup [.int kk, .ref c]) gtN (ocN s7' htn)
              have T8 := T7'.side (p := tn) (o := .tup [.int kk, .ref c]) (T7'.dom tn htn) fun y => ocN s7' htn (OCl.top y)
              have sd : ∀ {b : Addr}, ¬ OCl (OA e2 σ5) H7 b → ¬ OCl (OA e2 σ5) (upd H7 tn (.tup [.int kk, .ref c])) b := fun hb z => hb ((cl_side fun y => ocN s7' htn (OCl.top y)).mp z)
              have f8 : Fo GB H cs ts ce m t (OA e2 σ5) (upd H7 tn (.tup [.int kk, .ref c])) := f7.keep fun b hb => ⟨upd_ne (nt0 b hb), sd (f7.side b hb).2.2⟩
              have hv := (f8.lst ham').1
              have hc8 : upd H7 tn (.tup [.int kk, .ref c]) c = some (.lst []) := by rw [upd_ne ctn]; exact hd7.h
              have f9 := f8.step ham' hc8 upd_same (fun z => nc0 _ z rfl) (fun z => nt0 _ z rfl) ctn ⟨gcN, T6.dom c hc, sd hd7.m⟩ ⟨gtN, T7'.dom tn htn, sd (ocN s7' htn)⟩ hv
              have fa := f8.side (cs a.toNat) (.inr (.inl ⟨_, ham', rfl⟩))
              have fe := f8.side ce (.inl rfl)
              have na : ¬ OA e2 σ5 (cs a.toNat) := fun y => fa.2.2 (OCl.top y)
              have s9 := s8.side (o := .lst ((t.subR a.toNat).vals ts ++ [.ref tn])) fa.1 fa.2.2
              have T9 := T8.side (p := cs a.toNat) (o := .lst ((t.subR a.toNat).vals ts ++ [.ref tn])) fa.2.1 na
              have fe2 : ¬ OCl (OA e2 σ5) (upd (upd H7 tn (.tup [.int kk, .ref c])) (cs a.toNat) (.lst ((t.subR a.toNat).vals ts ++ [.ref tn]))) ce := fun z => fe.2.2 ((cl_side na).mp z)
              refine ⟨cs a.toNat, _, .ref tn, rfl, rfl, hv, by rw [vals_len, line_eq] at *; exact hln, ?_⟩
              have hev : upd (upd H7 tn (.tup [.int kk, .ref c])) (cs a.toNat) (.lst ((t.subR a.toNat).vals ts ++ [.ref tn])) ce = some (.lst ((List.range (m + 1)).map fun i => .ref (cs i))) := by rw [upd_ne (Ne.symm (f8.nce _ ham'))]; exact f8.ev
              refine ⟨_, gE, .inl ⟨rfl, _, SqL.of hev⟩, _, gW, ce, _, .ref c, rfl, rfl, hev, by rw [List.length_map, List.length_range, line_eq] at *; exact hm, ?_⟩
              exact k _ _ σ5 _ l5 (s9.side fe.1 fe2) (T9.side fe.2.1 fun y => fe2 (OCl.top y)) f9 (by rw [if_neg (by omega)]; exact gF) gE
            · cases hs
          · cases hs
        · cases hs
      · cases hs
    · cases hs
  · cases hs
end
end G
set_option Elab.async false
set_option linter.all false
set_option maxRecDepth 100000
set_option maxHeartbeats 4000000
namespace G
open PySem PySem.Spec PyProof.Rows L2 SX Evl
section
variable {g : Gm} {W : WX} {σ : L2.St} {H : Hp} {D : Ends} {jf je jw ja jt : Nat} {src : IDen} {gt : TG} {td : TDen} {dAt dK : Den}
theorem forest_ok (hg : TgOk g gt td [jt]) (h1 : je ≠ ja) (h2 : je ≠ jw) (h3 : jf ≠ ja) (h4 : jf ≠ jw) (h5 : ja ≠ jw) (h6 : jf ≠ je) (h7 : jf ≠ jt) (h8 : je ≠ jt) (h : tsOf g W (sForest jf je jw ja src td dAt dK) D σ H) :
    tSeq (tAsg (tLst tNil) (gName jf)) (tSeq (tAsg (tLst (tCons (tVar jf) tNil)) (gName je)) (tSeq (tFor (tiOf g W src) gt (tFoB g W je jw ja dAt dK)) (tRet (tVar jf)))) D σ H := by
  obtain ⟨P0, env, G, s, q⟩ := h
  unfold sForest at q
  split at q
  · rename_i hl
    obtain ⟨l1, l2, l3, l4⟩ := hl
    have hlen := s.len
    rw [hlen] at l1 l2 l3 l4
    have ocN : ∀ {e : Env} {q : L2.St} {G2 H2 : Hp} {b : Addr}, Sim g P0 e q G2 H2 → H2 b = none → ¬ OCl (OA e q) H2 b := fun s' hb z => by
      obtain ⟨_, o, ho⟩ := s'.cl z
      rw [hb] at ho; cases ho
    have gN : ∀ {G2 H2 : Hp} {b : Addr}, Ex G2 H2 → H2 b = none → G2 b = none := fun {G2 H2 b} x hb => by
      cases z : G2 b with
      | none => rfl
      | some w => rw [x _ _ z] at hb; cases hb
    refine ⟨Nat.zero_le _, fun c0 hc0 => ?_⟩
    show tSeq _ _ D (σ.set jf (some (.ref c0))) _
    have s1 : Sim g P0 (env.set jf .no) (σ.set jf (some (.ref c0))) G H := s.unown (by rw [List.length_set]) set_off rfl fun d z => by cases z
    have m1 : ∀ b, OA (env.set jf .no) (σ.set jf (some (.ref c0))) b → OA env σ b := fun b z => oa_off rfl set_off z
    have s2 := s1.side (o := .lst []) (gN s.ex hc0) (ocN s1 hc0)
    have T2 : Tr (OA env σ) G H (OA (env.set jf .no) (σ.set jf (some (.ref c0)))) G (upd H c0 (.lst [])) := (Tr.refl.less m1).side hc0 fun y => ocN s1 hc0 (OCl.top y)
    have g0 : (σ.set jf (some (.ref c0)))[jf]? = some (some (.ref c0)) := List.getElem?_set_self l1
    refine ⟨_, g0, (by show 1 ≤ sizeLine; decide), fun ce hce => ?_⟩
    show tSeq _ _ D ((σ.set jf (some (.ref c0))).set je (some (.ref ce))) _
    have cne : c0 ≠ ce := fun z => by rw [← z, upd_same] at hce; cases hce
    have s3 : Sim g P0 ((env.set jf .no).set je .no) ((σ.set jf (some (.ref c0))).set je (some (.ref ce))) G (upd H c0 (.lst [])) := s2.unown (by rw [List.length_set]) set_off rfl fun d z => by cases z
    have m3 : ∀ b, OA ((env.set jf .no).set je .no) ((σ.set jf (some (.ref c0))).set je (some (.ref ce))) b → OA (env.set jf .no) (σ.set jf (some (.ref c0))) b := fun b z => oa_off rfl set_off z
    have s4 := s3.side (o := .lst [.ref c0]) (gN s2.ex hce) (ocN s3 hce)
    have T4 := (T2.less m3).side (p := ce) (o := .lst [.ref c0]) (T2.dom ce hce) fun y => ocN s3 hce (OCl.top y)
    have gF : ((σ.set jf (some (.ref c0))).set je (some (.ref ce)))[jf]? = some (some (.ref c0)) := by rw [List.getElem?_set_ne h6.symm]; exact g0
    have gE : ((σ.set jf (some (.ref c0))).set je (some (.ref ce)))[je]? = some (some (.ref ce)) := List.getElem?_set_self (by rw [List.length_set]; exact l2)
    have lσ : ((σ.set jf (some (.ref c0))).set je (some (.ref ce))).length = σ.length := by rw [List.length_set, List.length_set]
    generalize (σ.set jf (some (.ref c0))).set je (some (.ref ce)) = σ2 at *
    generalize henv : (env.set jf .no).set je .no = env2 at *
    have hH2c : upd (upd H c0 (.lst [])) ce (.lst [.ref c0]) c0 = some (.lst []) := by rw [upd_ne cne, upd_same]
    have hH2e : upd (upd H c0 (.lst [])) ce (.lst [.ref c0]) ce = some (.lst [.ref c0]) := upd_same
    have oc0 : ¬ OCl (OA env2 σ2) (upd (upd H c0 (.lst [])) ce (.lst [.ref c0])) c0 := fun z => ocN s1 hc0 (((cl_side (o := .lst []) fun y => ocN s1 hc0 (OCl.top y)).mp (((cl_side fun y => ocN s3 hce (OCl.top y)).mp z).mono m3)))
    have oce : ¬ OCl (OA env2 σ2) (upd (upd H c0 (.lst [])) ce (.lst [.ref c0])) ce := fun z => ocN s3 hce ((cl_side fun y => ocN s3 hce (OCl.top y)).mp z)
    have hcH : H ce = none := T2.dom ce hce
    have f0 : Held c0 (.lst []) (OA env2 σ2) G (upd (upd H c0 (.lst [])) ce (.lst [.ref c0])) := ⟨oc0, gN s.ex hc0, hH2c⟩
    have fe : Held ce (.lst [.ref c0]) (OA env2 σ2) G (upd (upd H c0 (.lst [])) ce (.lst [.ref c0])) := ⟨oce, gN s.ex hcH, hH2e⟩
    generalize upd (upd H c0 (.lst [])) ce (.lst [.ref c0]) = H2 at *
    refine ⟨P0, env2, G, s4, ?_⟩
    cases es : src env2 with
    | bad => rw [es] at q; exact q.elim
    | err c e1 => rw [es] at q; exact fun cls G1 H1 hc s1 t1 => q cls σ2 G1 H1 hc s1 (T4.trans t1)
    | ok pp =>
      obtain ⟨ds, env1⟩ := pp
      rw [es] at q
      simp only [R.bind] at q
      intro J GB H3 s5 t5 wk
      split at q
      · rename_i tz ez eL
        have T5 := T4.trans t5
        have f0' := f0.tr t5 (fun xs z => by cases z)
        have fe' := fe.tr t5 (fun xs z => by cases z)
        have F0 : Fo GB H (fun _ => c0) (fun _ => c0) ce 0 .nil (OA env1 σ2) H3 := {
          ev := by rw [fe'.h]; rfl
          root := f0'.h
          ok := trivial
          lab := fun l => ⟨fun z => by simp [RT.labs] at z, fun z => by omega⟩
          nce := fun _ _ => cne
          inj := fun i j hi hj _ => by omega
          side := fun a ha => by
            rcases ha with rfl | ⟨i, _, rfl⟩ | ⟨l, _, _, _⟩
            · exact ⟨fe'.g, hcH, fe'.m⟩
            · exact ⟨f0'.g, hc0, f0'.m⟩
            · omega }
        refine ⟨fun i n σ' H' => ∃ cs ts t env', n = ds.length - i ∧ i ≤ ds.length ∧ σ'.length = σ.length ∧ Sim g P0 env' σ' GB H' ∧ Tr (OA env σ) G H (OA env' σ') GB H' ∧ Fo GB H cs ts ce i t (OA env' σ') H' ∧ σ'[jf]? = some (some (.ref (cs 0))) ∧ σ'[je]? = some (some (.ref ce)) ∧ foL je ja jw td dAt dK (ds.drop i) t i env' = some (tz, ez),
          ⟨ds.length, fun _ => c0, fun _ => c0, .nil, env1, by simp, Nat.zero_le _, lσ, s5, T5, F0, gF, gE, by rw [List.drop_zero]; exact eL⟩, ?_⟩
        rintro i n σ' H' ⟨cs, ts, t, env', rfl, hi, hln, s', T', f', gF', gE', q'⟩
        by_cases hlt : i < ds.length
        · refine .inr ⟨wk.go GB H' i (Ex.refl _) s'.ex hlt, fun σ2' H2' => ∃ cs ts t env', σ2'.length = σ.length ∧ Sim g P0 env' σ2' GB H2' ∧ Tr (OA env σ) G H (OA env' σ2') GB H2' ∧ Fo GB H cs ts ce (i + 1) t (OA env' σ2') H2' ∧ σ2'[jf]? = some (some (.ref (cs 0))) ∧ σ2'[je]? = some (some (.ref ce)) ∧ foL je ja jw td dAt dK (ds.drop (i + 1)) t (i + 1) env' = some (tz, ez),
            fun σ2' H2' ⟨cs, ts, t, env', a0, a1, a2, a3, a4, a5, a6⟩ => ⟨ds.length - (i + 1), by omega, cs, ts, t, env', rfl, hlt, a0, a1, a2, a3, a4, a5, a6⟩, fun x H'' y => ?_⟩
          obtain ⟨G'', gr, hr⟩ := wk.yld GB H' i x H'' ds[i] (Ex.refl _) s'.ex (by simp [hlt]) y
          have s2' := s'.grow gr.ex gr.exH gr.sub gr.new
          have t2' := Tr.grow s'.at gr.ex gr.exH gr.new
          rw [List.drop_eq_getElem_cons hlt] at q'
          obtain ⟨e1, ee, q2⟩ := Option.bind_eq_some_iff.mp (show (td ds[i] env').bind _ = some (tz, ez) from q')
          split at q2
          · rename_i hp
            obtain ⟨p, ep, q3⟩ := Option.bind_eq_some_iff.mp q2
            refine hg.run P0 env' σ' G'' H'' ds[i] x e1 _ s2' hr ee fun σ3 b3 s3' t3 => ?_
            have t23 := (t2'.trans t3).low (G0 := GB)
            have hl3 : σ3.length = σ.length := b3.1.trans hln
            have gF3 : σ3[jf]? = some (some (.ref (cs 0))) := by rw [b3.2 jf (by simpa using h7)]; exact gF'
            have gE3 : σ3[je]? = some (some (.ref ce)) := by rw [b3.2 je (by simpa using h8)]; exact gE'
            refine foB_ok h1 h2 h3 h4 h5 (by rw [hl3]; exact ⟨l2, l3, l4⟩) (s3'.plain hp gr.ex) (T'.trans t23) (f'.tr t23) gF3 gE3 ep rfl fun cs' ts' σ9 H9 k0 k1 k2 k3 k4 k5 => ?_
            exact ⟨cs', ts', _, p.2, k0.trans hl3, k1, k2, k3, k4, k5, q3⟩
          · cases q2
        · have hi' : ds.length ≤ i := by omega
          refine .inl ⟨wk.stop GB H' i (Ex.refl _) s'.ex (by omega), ?_⟩
          rw [List.drop_eq_nil_of_le hi'] at q'
          cases q'
          have hwn : ∀ b, stF (FoC cs ts ce i) GB H' b ≠ none → GB b ≠ none ∨ ¬ OCl (OA ez σ') H' b := fun b hb => by
            by_cases z : FoC cs ts ce i b
            · exact .inr (f'.side b z).2.2
            · rw [stF_out z] at hb; exact .inl hb
          refine ⟨.ref (cs 0), gF', q σ' (stF (FoC cs ts ce i) GB H') H' (s'.widen f'.exG (f'.exH s'.ex) hwn) ⟨T'.ex.trans f'.exG, T'.keep, fun b hb => ?_, T'.own, T'.dom⟩ _ (f'.rp (i := 0) (by omega))⟩
          by_cases z : FoC cs ts ce i b
          · exact .inr (.inl (f'.side b z).2.1)
          · rw [stF_out z] at hb; exact T'.gnew b hb
      · exact q.elim
  · exact q.elim
end
end G
set_option Elab.async false
set_option linter.all false
set_option maxRecDepth 100000
set_option maxHeartbeats 4000000
namespace G
noncomputable def foQ (je ja jw : Nat) (dAt dK : Den) (t : RT) (m : Nat) (e1 : Env) (K : Nat → Int → Env → Prop) : Prop :=
  wpE XF dAt (e1.set je (.im (.lst (subsD t m)))) fun v e2 => ∃ a : Nat, rd v e2 = some (.int a) ∧ a ≤ m ∧ plainE (e2.set je .no) = true ∧ (t.subR a).D.length < LINE ∧ m + 1 < LINE ∧
    wpE XF dK (((e2.set je .no).set ja (.im (.int a))).set jw .no) fun u e3 => ∃ k : Int, rd u e3 = some (.int k) ∧ plainE e3 = true ∧ K a k e3
section
variable {jf je jw ja : Nat} {src : IDen} {td : TDen} {dAt dK : Den} {env : Env} {P : Fl → Env → Prop} {t : RT} {m : Nat} {e1 : Env}
theorem foQ_ok {K : Nat → Int → Env → Prop} (h : foQ je ja jw dAt dK t m e1 K) : ∃ a k e, foStep je ja jw dAt dK t m e1 = some ((a, k), e) ∧ K a k e := by
  unfold foQ wpE at h
  obtain ⟨v, e2, h1, a, h2, h3, h4, h5, h6, h7⟩ := post_ex h
  obtain ⟨u, e3, h8, k, h9, h10, h11⟩ := post_ex h7
  refine ⟨a, k, e3, ?_, h11⟩
  unfold foStep
  rw [h1]
  simp only [h2]
  rw [if_pos ⟨by omega, by omega, h4, by simpa using h5, h6⟩, h8]
  simp only [h9]
  rw [if_pos h10]
  simp
theorem wp_forest (ds : List D) (e0 : Env) (I : Nat → RT → Env → Prop) (hl : jf < env.length ∧ je < env.length ∧ jw < env.length ∧ ja < env.length) (hsrc : wpI XF src ((env.set jf .no).set je .no) fun l e => l = ds ∧ e = e0) (h0 : I 0 .nil e0)
    (hs : ∀ i t d e, ds[i]? = some d → I i t e → need (td d e) fun e1 => plainE e1 = true ∧ foQ je ja jw dAt dK t i e1 fun a k e3 => I (i + 1) (t.insR a (i + 1) k) e3)
    (hn : ∀ t e, I ds.length t e → P (.rt (.im (.lst t.D))) e) : wpS XF (sForest jf je jw ja src td dAt dK) env P := by
  unfold wpI at hsrc
  obtain ⟨l, e, h1, rfl, rfl⟩ := post_ex hsrc
  have key : ∀ (r : List D) (i : Nat) (t : RT) (e : Env), (∀ j, l[i + j]? = r[j]?) → i + r.length = l.length → I i t e → ∃ t' e', foL je ja jw td dAt dK r t i e = some (t', e') ∧ I l.length t' e' := by
    intro r
    induction r with
    | nil => intro i t e _ hl hI; exact ⟨t, e, rfl, by rw [← hl]; exact hI⟩
    | cons d r ih =>
      intro i t e hg hl hI
      have hd := hg 0
      rw [List.getElem?_cons_zero] at hd
      have h := hs i t d e hd hI
      cases et : td d e with
      | none => rw [et] at h; exact h.elim
      | some e1 =>
        rw [et] at h
        obtain ⟨hp, hq⟩ := h
        obtain ⟨a, k, e3, h3, h4⟩ := foQ_ok hq
        obtain ⟨t', e', h5, h6⟩ := ih (i + 1) _ e3 (fun j => by have := hg (j + 1); rw [List.getElem?_cons_succ] at this; rw [← this]; congr 1; omega) (by rw [List.length_cons] at hl; omega) h4
        refine ⟨t', e', ?_, h6⟩
        unfold foL
        rw [et]
        show (if plainE e1 = true then _ else none) = _
        rw [if_pos hp, h3]
        exact h5
  obtain ⟨t', e', h2, h3⟩ := key l 0 .nil e (fun j => by rw [Nat.zero_add]) (by omega) h0
  unfold wpS sForest
  rw [if_pos hl, h1]
  show post XF (match foL je ja jw td dAt dK l .nil 0 e with | some (t, e) => _ | none => R.bad) P
  rw [h2]
  exact hn t' e' h3
end
end G
set_option Elab.async false
set_option linter.all false
set_option maxRecDepth 100000
set_option maxHeartbeats 4000000
namespace G
open PySem PySem.Spec PyProof.Rows L2 SX Evl
end G
set_option Elab.async false
set_option linter.all false
set_option maxRecDepth 100000
set_option maxHeartbeats 4000000
namespace G
open PySem PySem.Spec PyProof.Rows L2 SX Evl SeqAt
noncomputable def fNeL : D → D → Option Val
  | .lst xs, .lst [] => some (.im (.bl (!xs.isEmpty)))
  | _, _ => none
noncomputable def rNeL (K : PySem.W.Frag) : R2 := fun x y H Q => ∃ a b xs, x = .ref a ∧ y = .ref b ∧ SqL K H a xs ∧ SqL K H b [] ∧ Q (.bl (!xs.isEmpty)) H
theorem op_neL {X : Cx} (hu : X.A.units < cLine) : OpR X (compareOp .NotEq) (rNeL X.K) := by
  intro pins s σ H x y v u Q I rx ry h
  obtain ⟨a, b, xs, rfl, rfl, ha, hb, q⟩ := h
  obtain rfl : v = Value.ref a := rx
  obtain rfl : u = Value.ref b := ry
  obtain ⟨its, rv, ⟨o, n, ho, hc, _, hd⟩, _⟩ := I.list ha
  obtain ⟨its2, rv2, ⟨o2, n2, ho2, hc2, _, hd2⟩, _⟩ := I.list hb
  have e2 : its2 = [] := by cases rv2; rfl
  subst e2
  have la : s.heap.IsList a its.toArray := ⟨o, ho, hc, n, hd⟩
  have lb : s.heap.IsList b ([] : List Value).toArray := ⟨o2, ho2, hc2, n2, hd2⟩
  have go : ∀ t : Bool, (!xs.isEmpty) = t → RcNeAt X.A s (.ref a) (.ref b) t → wpAny (model X.prog X.w) X.A (compareOp .NotEq (.ref a) (.ref b)) (EP X pins σ Q) X.xe s := fun t e z => by
    subst e
    exact z X.prog X.w _ _ (fin_bl I q rfl)
  cases its with
  | nil =>
    have : xs = [] := by cases rv; rfl
    subst this
    exact go false rfl (RcNeAt.lists (e := fun _ => true) la lb rfl hu fun j h1 _ => absurd h1 (by simp))
  | cons y r =>
    cases rv
    exact go true rfl (RcNeAt.lists_lengths la lb (by simp) hu)
theorem o2_neL {g : Gm} : Op2 g (rNeL g.K) fNeL := by
  intro G H d1 d2 v1 v2 v Q hx r1 r2 e q
  unfold fNeL at e
  split at e
  · rename_i xs
    cases e
    obtain ⟨a, vs, rfl, h1, h2⟩ := r1.rp hx
    obtain ⟨b, ws, rfl, h3, h4⟩ := r2.rp hx
    have : ws = [] := h4
    subst this
    refine ⟨a, b, vs, rfl, rfl, h1, h3, ?_⟩
    have e : vs.isEmpty = xs.isEmpty := by
      have := h2.length
      cases vs <;> cases xs <;> simp at this ⊢
    rw [e]
    exact q.bl hx
  · cases e
end G
set_option Elab.async false
set_option linter.all false
set_option maxRecDepth 100000
set_option maxHeartbeats 4000000
namespace G
open PySem PySem.Spec PyProof.Rows L2 SX Evl
section
variable {g : Gm} {W : WX} {P0 : Nat → Option Addr} {env : Env} {σ : L2.St} {G H G' H' : Hp} {vs : List Val} {xs : List V} {sl l : List Slot} {x : D} {p : Addr}
end
section
variable {X : Cx} {F : FD} {d : Den} {as : List (Bool × Den)}
end
end G
set_option Elab.async false
set_option linter.all false
set_option maxRecDepth 100000
set_option maxHeartbeats 4000000
namespace G
local macro_rules
  | `(tactic| congr) => `(tactic| first | refine post_k ?_ | refine need_k ?_ | refine needI_k ?_ | refine needB_k ?_ | refine wpP_k ?_ | refine wpE_k ?_ | refine wpS_k ?_ | refine wpA_k ?_ | refine wpI_k ?_ | refine wpF_k ?_ | congr 50)
variable {X : EX} {s : Slot} {r : Env}
end G
set_option Elab.async false
set_option linter.all false
set_option maxRecDepth 100000
set_option maxHeartbeats 4000000
namespace G
open PySem PySem.Spec PyProof.Rows L2 SX Evl
inductive FTr (H : Hp) : RT → List V → List Addr → List Addr → Prop
  | nil : FTr H .nil [] [] []
  | cons {l : Nat} {k : Int} {w r : RT} {t c : Addr} {ws vs : List V} {f1 f2 u1 u2 : List Addr} : H t = some (.tup [.int k, .ref c]) → H c = some (.lst ws) → FTr H w ws f1 u1 → FTr H r vs f2 u2 → FTr H (.cons l k w r) (.ref t :: vs) (c :: (f1 ++ f2)) (t :: (u1 ++ u2))
inductive FSr (H : Hp) : RT → Int → List V → List Addr → List Addr → Int → Prop
  | nil {n : Int} : FSr H .nil n [] [] [] n
  | cons {l : Nat} {k n m1 m2 : Int} {w r : RT} {t c : Addr} {ws vs : List V} {f1 f2 u1 u2 : List Addr} : H t = some (.tup [.int k, .ref c]) → H c = some (.lst (ws ++ [.int m1])) → FSr H w n ws f1 u1 m1 → FSr H r (m1 + 1) vs f2 u2 m2 → FSr H (.cons l k w r) n (.ref t :: vs) (c :: (f1 ++ f2)) (t :: (u1 ++ u2)) m2
section
variable {H H' H0 : Hp} {t : RT} {us vs : List V} {f u : List Addr} {n m : Int}
theorem FTr.congr (h : FTr H t us f u) : (∀ b, b ∈ f ∨ b ∈ u → H' b = H b) → FTr H' t us f u := by
  induction h with
  | nil => intro _; exact .nil
  | @cons l k w r t c ws vs f1 f2 u1 u2 h1 h2 _ _ i1 i2 =>
    intro q
    exact .cons ((q t (.inr (by simp))).trans h1) ((q c (.inl (by simp))).trans h2) (i1 fun b hb => q b (hb.imp (fun z => by simp [z]) fun z => by simp [z])) (i2 fun b hb => q b (hb.imp (fun z => by simp [z]) fun z => by simp [z]))
theorem FSr.congr (h : FSr H t n us f u m) : (∀ b, b ∈ f ∨ b ∈ u → H' b = H b) → FSr H' t n us f u m := by
  induction h with
  | nil => intro _; exact .nil
  | @cons l k n m1 m2 w r t c ws vs f1 f2 u1 u2 h1 h2 _ _ i1 i2 =>
    intro q
    exact .cons ((q t (.inr (by simp))).trans h1) ((q c (.inl (by simp))).trans h2) (i1 fun b hb => q b (hb.imp (fun z => by simp [z]) fun z => by simp [z])) (i2 fun b hb => q b (hb.imp (fun z => by simp [z]) fun z => by simp [z]))
theorem FTr.kinds (h : FTr H t us f u) : (∀ b ∈ f, ∃ vs, H b = some (.lst vs)) ∧ ∀ b ∈ u, ∃ vs, H b = some (.tup vs) := by
  induction h with
  | nil => refine ⟨?_, ?_⟩ <;> intro b h <;> cases h
  | @cons l k w r t c ws vs f1 f2 u1 u2 h1 h2 _ _ i1 i2 =>
    refine ⟨fun b hb => ?_, fun b hb => ?_⟩
    · rcases List.mem_cons.mp hb with rfl | hb
      · exact ⟨_, h2⟩
      · rcases List.mem_append.mp hb with hb | hb
        · exact i1.1 b hb
        · exact i2.1 b hb
    · rcases List.mem_cons.mp hb with rfl | hb
      · exact ⟨_, h1⟩
      · rcases List.mem_append.mp hb with hb | hb
        · exact i1.2 b hb
        · exact i2.2 b hb
theorem FTr.len (h : FTr H t us f u) : us.length ≤ t.labs.length := by
  induction h with
  | nil => exact Nat.le_refl _
  | cons _ _ _ _ _ i2 => simp only [RT.labs, List.length_cons, List.length_append]; omega
theorem FSr.num (h : FSr H t n us f u m) : m = n + (t.labs.length : Nat) := by
  induction h with
  | nil => simp [RT.labs]
  | cons _ _ _ _ i1 i2 => simp only [RT.labs, List.length_cons, List.length_append]; omega
end
noncomputable def spSp (fu : Nat) : Sp := fun xs H Q _ => xs.length = 2 ∧ ∃ (c : Addr) (n : Int) (t : RT) (us : List V) (f u : List Addr), xs = [.ref c, .int n] ∧ t.labs.length < fu ∧ t.labs.length ≤ 1000 ∧ H c = some (.lst us) ∧ FTr H t us f u ∧ (c :: f).Nodup ∧
  ∀ H' m, FSr H' t n us f u m → H' c = some (.lst (us ++ [.int m])) → (∀ b, b ∉ c :: f → H' b = H b) → Q (.int (m + 1)) H'
section
variable {K : PySem.W.Frag} {fu : Nat} {E : L2.St → XK}
theorem spoil_ok {xs : List V} {H : Hp} {Q : VK} {E0 : XK} {W : WX} (h : spSp (fu + 1) xs H Q E0) :
    tSeq (tAsg (tVar 1) (gName 2)) (tSeq (tFor (iList K (tVar 0)) (gTup K 2 (gCons (gName 3) (gCons (gName 4) gNil))) (tAsg (tCallS (spSp fu) E (tCons (tVar 4) (tCons (tVar 2) tNil))) (gName 2)))
      (tSeq (tDrop (tBM K "list" rAppend (tVar 0) (tCons (tVar 2) tNil))) (tRet (tAdd (tVar 2) (tC (.int 1)))))) { nx := fun _ H' => Q .non H', rt := Q } (xs.map some ++ List.replicate 3 none) H := by
  obtain ⟨_, c, n, t, us, f, u, rfl, hfu, hsz, hc, hft, hnd, hQ⟩ := h
  obtain ⟨kf, ku⟩ := hft.kinds
  rw [List.nodup_cons] at hnd
  obtain ⟨hcf, hnf⟩ := hnd
  have hcu : c ∉ u := fun z => by obtain ⟨vs, e⟩ := ku c z; rw [hc] at e; cases e
  have hlen := hft.len
  refine ⟨_, rfl, ?_⟩
  refine ⟨_, rfl, c, rfl, ⟨us, SqL.of hc⟩, ?_⟩
  refine ⟨fun i m σ H1 => ∃ (r : RT) (us1 us2 : List V) (fd fr ud ur : List Addr) (nn : Int) (a b : Option V), us = us1 ++ us2 ∧ us1.length = i ∧ m = us2.length ∧ FTr H r us2 fr ur ∧ f = fd ++ fr ∧ u = ud ++ ur ∧ r.labs.length ≤ t.labs.length ∧
      σ = [some (.ref c), some (.int n), some (.int nn), a, b] ∧ (∀ b, b ∉ fd → H1 b = H b) ∧
      (∀ H' m2, (∀ b, b ∈ fd ∨ b ∈ ud → H' b = H1 b) → FSr H' r nn us2 fr ur m2 → FSr H' t n us f u m2),
    ⟨us.length, t, [], us, [], f, [], u, n, none, none, rfl, rfl, rfl, hft, rfl, rfl, Nat.le_refl _, rfl, fun _ _ => rfl, fun H' m2 _ z => z⟩, ?_⟩
  rintro i m σ H1 ⟨r, us1, us2, fd, fr, ud, ur, nn, a, b, hus, hi, hm, hr, hf, hu, hrs, rfl, hfr, hk⟩
  have hc1 : H1 c = some (.lst us) := (hfr c fun z => hcf (by rw [hf]; simp [z])).trans hc
  cases hr with
  | nil =>
    refine .inl ⟨⟨us, SqL.of hc1, by rw [hus, List.append_nil]; omega⟩, ?_⟩
    refine ⟨_, rfl, .inl ⟨rfl, us, SqL.of hc1⟩, ?_⟩
    refine ⟨_, rfl, ?_⟩
    refine ⟨c, us, .int nn, rfl, rfl, hc1, ?_, ?_⟩
    · have : us.length ≤ 1000 := by omega
      exact Nat.lt_of_le_of_lt this (by decide)
    · refine ⟨_, rfl, nn, 1, rfl, rfl, ?_⟩
      have hfs := hk (upd H1 c (.lst (us ++ [.int nn]))) nn (fun b hb => upd_ne fun z => by
        subst z
        rcases hb with hb | hb
        · exact hcf (by rw [hf]; simp [hb])
        · exact hcu (by rw [hu]; simp [hb])) .nil
      refine hQ _ nn hfs upd_same fun b hb => ?_
      rw [List.mem_cons, not_or] at hb
      rw [upd_ne hb.1, hfr b fun z => hb.2 (by rw [hf]; simp [z])]
  | @cons l k w r2 tt cc ws us3 f1 f2 u1 u2 h1 h2 hw hr2 =>
    right
    have hix : us[i]? = some (.ref tt) := by rw [hus, ← hi]; simp
    refine ⟨⟨us, _, SqL.of hc1, hix⟩, ?_⟩
    have ccf : cc ∈ f := by rw [hf]; simp
    have nfd : ∀ b, b ∈ cc :: (f1 ++ f2) → b ∉ fd := fun b hb z => by
      rw [hf, List.nodup_append] at hnf
      exact hnf.2.2 b z b hb rfl
    have tu : ∀ b ∈ u, b ∉ f := fun b hb z => by
      obtain ⟨_, e1⟩ := ku b hb
      obtain ⟨_, e2⟩ := kf b z
      rw [e1] at e2; cases e2
    have fdf : ∀ b ∈ fd, b ∈ f := fun b hb => by rw [hf]; simp [hb]
    have ttu : tt ∈ u := by rw [hu]; simp
    have ht1 : H1 tt = some (.tup [.int k, .ref cc]) := (hfr tt fun z => tu tt ttu (fdf _ z)).trans h1
    have hcc1 : H1 cc = some (.lst ws) := (hfr cc (nfd cc (by simp))).trans h2
    have hw1 : FTr H1 w ws f1 u1 := hw.congr fun b hb => hfr b (by
      rcases hb with hb | hb
      · exact nfd b (by simp [hb])
      · exact fun z => tu b (by rw [hu]; simp [hb]) (fdf _ z))
    have hnd1 : (cc :: (f1 ++ f2)).Nodup := by
      rw [hf, List.nodup_append] at hnf
      exact hnf.2.1
    have hws : w.labs.length < fu := by
      simp only [RT.labs, List.length_cons, List.length_append] at hrs; omega
    have hws2 : w.labs.length ≤ 1000 := by
      simp only [RT.labs, List.length_cons, List.length_append] at hrs; omega
    have hr2s : r2.labs.length ≤ t.labs.length := by
      simp only [RT.labs, List.length_cons, List.length_append] at hrs; omega
    refine ⟨fun σ' H' => ∃ (m1 : Int) (a b : Option V), σ' = [some (.ref c), some (.int n), some (.int (m1 + 1)), a, b] ∧ FSr H' w nn ws f1 u1 m1 ∧ H' cc = some (.lst (ws ++ [.int m1])) ∧ (∀ b, b ∉ cc :: f1 → H' b = H1 b), ?_, ?_⟩
    · rintro σ' H' ⟨m1, a', b', rfl, hs, hcc, hout⟩
      refine ⟨us3.length, by rw [hm]; simp, r2, us1 ++ [.ref tt], us3, fd ++ cc :: f1, f2, ud ++ tt :: u1, u2, m1 + 1, a', b', by rw [hus]; simp, by simp [hi], rfl, hr2, by rw [hf]; simp, by rw [hu]; simp, hr2s, rfl, fun b hb => ?_, fun H2 m2 hsame hs2 => ?_⟩
      · rw [List.mem_append, not_or] at hb
        rw [hout b hb.2, hfr b hb.1]
      · have e : ∀ b, b ∈ fd ∨ b ∈ ud → H' b = H1 b := fun b hb => hout b fun z => by
          rcases hb with hb | hb
          · exact nfd b (by rcases List.mem_cons.mp z with rfl | z <;> simp [*]) hb
          · exact tu b (by rw [hu]; simp [hb]) (by rw [hf]; rcases List.mem_cons.mp z with rfl | z <;> simp [*])
        refine hk H2 m2 (fun b hb => (hsame b (hb.imp (fun z => by simp [z]) fun z => by simp [z])).trans (e b hb)) (.cons ?_ ?_ (hs.congr fun b hb => hsame b (hb.imp (fun z => by simp [z]) fun z => by simp [z])) hs2)
        · rw [hsame tt (.inr (by simp)), hout tt fun z => tu tt ttu (by rw [hf]; rcases List.mem_cons.mp z with rfl | z <;> simp [*]), ht1]
        · rw [hsame cc (.inl (by simp)), hcc]
    · rintro x H' ⟨rfl, hx⟩
      have e := hx us (SqL.of hc1)
      rw [hix] at e
      cases e
      refine ⟨tt, _, rfl, SqT.of ht1, rfl, .int k, _, rfl, .ref cc, _, rfl, rfl, ?_⟩
      refine ⟨_, rfl, _, rfl, rfl, cc, nn, w, ws, f1, u1, rfl, hws, hws2, hcc1, hw1, ?_, fun H2 m1 q1 q2 q3 => ?_⟩
      · rw [List.nodup_cons] at hnd1 ⊢
        refine ⟨fun z => hnd1.1 (by simp [z]), ?_⟩
        have := hnd1.2
        rw [List.nodup_append] at this
        exact this.1
      · exact ⟨m1, _, _, rfl, q1, q2, q3⟩
end
end G
set_option Elab.async false
set_option linter.all false
set_option maxRecDepth 100000
set_option maxHeartbeats 4000000
namespace G
open PySem PySem.Spec PyProof.Rows L2 SX Evl
structure CalS (P : Program) (w : World) (K : PySem.W.Frag) (mg : Str → Option Value) (base : Heap) (k : Nat) (x : Str) (sp : Sp) : Prop where
  ex : ∃ (f : Addr) (fd : FuncData) (ps : List Str), mg x = some (.ref f) ∧ PySem.W.keepIn K (.ref f) = true ∧ Binds K fd ps [] ∧ FnG P w K mg base (L2.CX P w) k f fd ps sp
section
variable {P : Program} {w : World} {K : PySem.W.Frag} {mg : Str → Option Value} {base : Heap}
theorem calS_ok {x : Str} {st : Stmt} {f : Addr} {fd : FuncData} {N ps : List Str} {k : Nat} {sp : Sp} (F : Fun K x x st f fd) (S : FnScope N ps (defScope st)) (hm : mg x = some (.ref f)) (hB : Binds K fd ps []) (hl : ∀ vs H Q E, sp vs H Q E → vs.length = ps.length)
    (hb : ∀ (cdv : Value) (A : Around) (outer : List PySem.Env) (s : Shared) (H : Hp) (E : XK) (vs : List V) (Q : VK), (A.deeper (envOfC x (defScope st) s.heap.objs.size f cdv)).guards = some [] → Room k (A.deeper (envOfC x (defScope st) s.heap.objs.size f cdv)) → sp vs H Q E →
      ∃ t, PSs (cxOf (L2.CX P w) P w K mg base N x (defScope st) f cdv A outer s H E) (defBody st) t ∧ t { nx := fun _ G => Q .non G, rt := Q } (vs.map some ++ List.replicate (N.length - vs.length) none) H) : CalS P w K mg base (k + 1) x sp := by
  obtain ⟨oc, od, kV, doc, pm, an, cdv, ct, osl, rfl, lk, hcd⟩ := F.ex
  exact ⟨f, _, ps, hm, F.kp, hB, fnG_of lk hcd S hl fun A up s H vs Q E hg hr h => hb cdv A up s H E vs Q hg hr h⟩
end
noncomputable def Grw (H H' : Hp) : Prop := ∀ a o, H a = some o → H' a = some o
theorem Grw.refl (H : Hp) : Grw H H := fun _ _ h => h
theorem Grw.trans {H H1 H2 : Hp} (a : Grw H H1) (b : Grw H1 H2) : Grw H H2 := fun x o h => b x o (a x o h)
theorem Grw.upd {H : Hp} {p : Addr} {o : HO} (h : H p = none) : Grw H (upd H p o) := fun a u e => by
  rw [upd_ne fun z => by rw [z, h] at e; cases e]; exact e
section
variable {g : Gm} {W : WX} {P0 : Nat → Option Addr} {env : Env} {σ : L2.St} {G H G' H' : Hp} {d : Den} {Q : VK}
structure Ims (g : Gm) (env : Env) (σ : L2.St) (G : Hp) : Prop where
  len : env.length = σ.length
  im : ∀ (i : Nat) d, env[i]? = some (.im d) → ∃ v, σ[i]? = some (some v) ∧ Rp g G d v
  no : ∀ (i : Nat) s, env[i]? = some s → s.own = none
theorem Ims.sim (h : Ims g env σ G) (x : Ex G H) : Sim g P0 env σ G H where
  ex := x
  len := h.len
  im := h.im
  ow := fun i s d e z => by rw [h.no i s e] at z; cases z
  dis := fun i j s t d e p a b _ _ _ _ => by rw [h.no i s a] at b; cases b
  io := fun i d e => by have := h.no i _ e; cases this
  pv := fun i j s t d e p q a a1 b1 _ _ _ _ _ _ => by rw [h.no i s a1] at b1; cases b1
theorem Ims.oa (h : Ims g env σ G) {a : Addr} : ¬ OA env σ a := fun ⟨i, s, d, a1, a2, _⟩ => by rw [h.no i s a1] at a2; cases a2
theorem Ims.grw (h : Ims g env σ G) {M : Addr → Prop} (t : Tr (OA env σ) G H M G' H') : Grw H H' := fun a o e => t.keep a o (fun ⟨p, hp, _⟩ => h.oa hp) e
theorem te_ims (h : Ims g env σ G) (x : Ex G H) {r : D} (hd : d env = .ok (.im r, env)) (q : ∀ y G' H', Rp g G' r y → Ex G' H' → Grw H H' → Q y H') : teOf g W d σ H Q := by
  refine ⟨fun _ => none, env, G, h.sim x, ?_⟩
  rw [hd]
  exact fun y G' H' s t v => q y G' H' v s.ex (h.grw t)
theorem te_int (h : Ims g env σ G) (x : Ex G H) {i : Int} (hd : d env = .ok (.im (.int i), env)) (q : ∀ H', Grw H H' → Q (.int i) H') : teOf g W d σ H Q := te_ims h x hd fun y G' H' r _ gr => by
  have e : y = .int i := r
  rw [e]; exact q H' gr
theorem te_own (h : Ims g env σ G) (x : Ex G H) {ds : List D} (hd : d env = .ok (.ow (.lst ds), env)) (q : ∀ p G' H', (∃ vs, H' p = some (.lst vs) ∧ Rps g G' ds vs) → Ex G' H' → Grw H H' → Q (.ref p) H') : teOf g W d σ H Q := by
  refine ⟨fun _ => none, env, G, h.sim x, ?_⟩
  rw [hd]
  intro y G' H' s t v
  obtain ⟨p, rfl, ⟨_, o, ho, hc⟩, _, _⟩ := v
  obtain ⟨vs, rfl, hv⟩ := hc.co fun _ _ z => by cases z
  exact q p G' H' ⟨vs, ho, hv⟩ s.ex (h.grw t)
end
end G
set_option Elab.async false
set_option linter.all false
set_option maxRecDepth 100000
set_option maxHeartbeats 4000000
namespace G
open PySem PySem.Spec PyProof.Rows L2 SX Evl
noncomputable def trOp (kd : Int) : Nat := opc kd.toNat
noncomputable def trRow : RT → List Nat
  | .nil => []
  | .cons _ kd w r => trOp kd :: (trRow w ++ oth (trOp kd) :: trRow r)
noncomputable def trK (k : Int) : RT → Prop
  | .nil => True
  | .cons _ kd w r => 0 ≤ kd ∧ kd < k ∧ trK k w ∧ trK k r
noncomputable def spDt : RT → Int → List D
  | .nil, _ => []
  | .cons _ k w r, n => .tup [.int k, .lst (spDt w n ++ [.int (n + (w.labs.length : Nat))])] :: spDt r (n + (w.labs.length : Nat) + 1)
noncomputable def Pst (t : RT) (H : Hp) (Q : VK) : Prop := ∀ c H' us f u, Grw H H' → H' c = some (.lst us) → FTr H' t us f u → (c :: f).Nodup → (∀ b ∈ c :: (f ++ u), H b = none) → Q (.ref c) H'
noncomputable def spO : Sp := fun vs H Q _ => vs.length = 2 ∧ ∃ (k : Int) (t : RT), 1 ≤ k ∧ k ≤ 4 ∧ trK k t ∧ t.labs.length ≤ 20 ∧ vs = [.int k, .str (S (trRow t))] ∧ Pst t H Q
section
variable {g : Gm} {H G1 : Hp} {t : RT} {us : List V} {f u : List Addr} {n m : Int}
theorem rps_snoc {d : D} {v : V} : ∀ {ds : List D} {vs : List V}, Rps g G1 ds vs → Rp g G1 d v → Rps g G1 (ds ++ [d]) (vs ++ [v])
  | [], vs, h, h' => by
    have e : vs = [] := h
    subst e
    exact ⟨v, [], rfl, h', rfl⟩
  | x :: ds, vs, ⟨y, r, e, h1, h2⟩, h' => by
    subst e
    exact ⟨y, r ++ [v], rfl, h1, rps_snoc h2 h'⟩
theorem FTr.rp (h : FTr H t us f u) : (∀ b, b ∈ f ∨ b ∈ u → G1 b = H b) → Rps g G1 t.D us := by
  induction h with
  | nil => intro _; exact rfl
  | @cons l k w r t c ws vs f1 f2 u1 u2 h1 h2 _ _ i1 i2 =>
    intro q
    have rw' := i1 fun b hb => q b (hb.imp (fun z => by simp [z]) fun z => by simp [z])
    have rr := i2 fun b hb => q b (hb.imp (fun z => by simp [z]) fun z => by simp [z])
    exact ⟨.ref t, _, rfl, ⟨t, _, rfl, (q t (.inr (by simp))).trans h1, .int k, _, rfl, rfl, .ref c, [], rfl, ⟨c, _, rfl, SqL.of ((q c (.inl (by simp))).trans h2), rw'⟩, rfl⟩, rr⟩
theorem FSr.rp (h : FSr H t n us f u m) : (∀ b, b ∈ f ∨ b ∈ u → G1 b = H b) → Rps g G1 (spDt t n) us := by
  induction h with
  | nil => intro _; exact rfl
  | @cons l k n m1 m2 w r t c ws vs f1 f2 u1 u2 h1 h2 hw _ i1 i2 =>
    intro q
    have rw' := i1 fun b hb => q b (hb.imp (fun z => by simp [z]) fun z => by simp [z])
    have rr := i2 fun b hb => q b (hb.imp (fun z => by simp [z]) fun z => by simp [z])
    have e := hw.num
    subst e
    exact ⟨.ref t, _, rfl, ⟨t, _, rfl, (q t (.inr (by simp))).trans h1, .int k, _, rfl, rfl, .ref c, [], rfl, ⟨c, _, rfl, SqL.of ((q c (.inl (by simp))).trans h2), rps_snoc rw' rfl⟩, rfl⟩, rr⟩
end
noncomputable def ownFl (env : Env) : Prop := ∀ (i : Nat) s, env[i]? = some s → (∃ d, s.own = some d) → ∃ ys, s = .ow (.lst ys) ∧ ys.all flat = true
structure SpC (ja jb jf jm : Nat) (c2 c4 : Den) (env : Env) (k : Int) (t : RT) : Prop where
  a : env[ja]? = some (.im (.int k))
  b : env[jb]? = some (.im (.str (trRow t)))
  k1 : 1 ≤ k
  k4 : k ≤ 4
  tk : trK k t
  sz : t.labs.length ≤ 20
  nf : env[jf]? = some .no
  nm : env[jm]? = some .no
  ne : jf ≠ jm
  fl : ownFl env
  e2 : ∃ v, c2 (env.set jf (.im (.lst t.D))) = .ok (v, env.set jf (.im (.lst t.D))) ∧ tru v (env.set jf (.im (.lst t.D))) = some false
  e4 : ∃ v, c4 ((env.set jf (.im (.lst (spDt t 0 ++ [.int (t.labs.length : Nat)])))).set jm (.im (.int (((t.labs.length : Nat) : Int) + 1)))) = .ok (v, (env.set jf (.im (.lst (spDt t 0 ++ [.int (t.labs.length : Nat)])))).set jm (.im (.int (((t.labs.length : Nat) : Int) + 1)))) ∧
    tru v ((env.set jf (.im (.lst (spDt t 0 ++ [.int (t.labs.length : Nat)])))).set jm (.im (.int (((t.labs.length : Nat) : Int) + 1)))) = some false
open Classical in
noncomputable def sSpoil (ja jb jf jm : Nat) (c2 c4 : Den) : SDen := fun env => if ∃ k t, SpC ja jb jf jm c2 c4 env k t then .ok (.nx, env) else .bad
section
variable {g : Gm} {W : WX} {P0 : Nat → Option Addr} {env env' : Env} {σ σ' : L2.St} {G H G' H' Gx Hx : Hp}
noncomputable def OCs (g : Gm) (env : Env) (σ : L2.St) (Gx Hx : Hp) : Prop := ∀ (i : Nat) ys p, env[i]? = some (.ow (.lst ys)) → σ[i]? = some (some (.ref p)) → ∃ vs, Hx p = some (.lst vs) ∧ Rps g Gx ys vs ∧ Gx p = none
theorem Sim.ocs (s : Sim g P0 env σ G H) : OCs g env σ G H := fun i ys p e e' => by
  obtain ⟨q, h1, h2, o, h3, h4⟩ := s.ow i _ _ e rfl
  rw [e'] at h1
  cases h1
  obtain ⟨vs, rfl, h5⟩ := h4.co (fun _ _ z => by cases z)
  exact ⟨vs, h3, h5, h2⟩
theorem Sim.re (s : Sim g P0 env σ G H) (fl : ownFl env) (x : Ex Gx Hx) (hl : env'.length = σ'.length) (oc : OCs g env σ Gx Hx) (ho : ∀ (i : Nat) u d, env'[i]? = some u → u.own = some d → env[i]? = some u ∧ σ'[i]? = σ[i]?)
    (him : ∀ (i : Nat) d, env'[i]? = some (.im d) → ∃ v, σ'[i]? = some (some v) ∧ Rp g Gx d v) : Sim g P0 env' σ' Gx Hx := by
  have at' : ∀ (i : Nat) u d, env'[i]? = some u → u.own = some d → ∃ ys p vs, u = .ow (.lst ys) ∧ d = .lst ys ∧ env[i]? = some u ∧ σ[i]? = some (some (.ref p)) ∧ σ'[i]? = some (some (.ref p)) ∧ Hx p = some (.lst vs) ∧ Rps g Gx ys vs ∧ Gx p = none := fun i u d h h' => by
    obtain ⟨h1, h2⟩ := ho i u d h h'
    obtain ⟨ys, rfl, _⟩ := fl i u h1 ⟨d, h'⟩
    cases h'
    obtain ⟨p, h3, _⟩ := s.ow i _ _ h1 rfl
    obtain ⟨vs, h4, h5, h6⟩ := oc i ys p h1 h3
    exact ⟨ys, p, vs, rfl, rfl, h1, h3, h2.trans h3, h4, h5, h6⟩
  refine ⟨x, hl, him, fun i u d h h' => ?_, fun i j u w d e p h1 h2 h3 h4 h5 h6 => ?_, fun i d h => ?_, fun i j u w d e p q a h1 h2 h3 h4 h5 h6 h7 h8 => ?_⟩
  · obtain ⟨ys, p, vs, rfl, rfl, h1, h2, h3, h4, h5, h6⟩ := at' i u d h h'
    exact ⟨p, h3, h6, .lst vs, h4, .inl ⟨vs, rfl, h5⟩⟩
  · obtain ⟨a1, a2⟩ := ho i u d h1 h2
    obtain ⟨b1, b2⟩ := ho j w e h3 h4
    exact s.dis i j u w d e p a1 h2 b1 h4 (a2 ▸ h5) (b2 ▸ h6)
  · obtain ⟨ys, p, vs, z, _⟩ := at' i _ d h rfl
    cases z
  · obtain ⟨ys, p', vs, rfl, rfl, _, _, z3, z4, _⟩ := at' i u d h1 h2
    rw [z3] at h5
    cases h5
    obtain ⟨C, dx, fs, n, z, _⟩ := h7
    rw [z4] at z; cases z
theorem spoil_blk {D : Ends} {ja jb jf jm : Nat} {c2 c4 : Den} {E1 E2 : L2.St → XK} {x1 x2 : TS} (h : tsOf g W (sSpoil ja jb jf jm c2 c4) D σ H) :
    tSeq (tAsg (tCallS spO E1 (tCons (tVar ja) (tCons (tVar jb) tNil))) (gName jf)) (tSeq (tIfS (tB (teOf g W c2)) x1 tNext) (tSeq (tAsg (tCallS (spSp 25) E2 (tCons (tVar jf) (tCons (tC (.int 0)) tNil))) (gName jm)) (tIfS (tB (teOf g W c4)) x2 tNext))) D σ H := by
  obtain ⟨P0, env, G, s, q⟩ := h
  unfold sSpoil at q
  split at q
  case isFalse => exact q.elim
  rename_i hex
  obtain ⟨k, t, sp⟩ := hex
  obtain ⟨va, ha1, ha2⟩ := s.im _ _ sp.a
  have ha2 : va = .int k := ha2
  subst ha2
  obtain ⟨vb, hb1, hb2⟩ := s.im _ _ sp.b
  have hb2 : vb = .str (S (trRow t)) := hb2
  subst hb2
  refine ⟨_, ha1, _, hb1, ⟨rfl, k, t, sp.k1, sp.k4, sp.tk, sp.sz, rfl, ?_⟩⟩
  intro c H1 us f u gr hc hft hnd hfr
  have lf : jf < σ.length := by rw [← s.len]; exact (List.getElem?_eq_some_iff.mp sp.nf).1
  have lm : jm < σ.length := by rw [← s.len]; exact (List.getElem?_eq_some_iff.mp sp.nm).1
  show tSeq _ _ D (σ.set jf (some (.ref c))) H1
  -- the places
  obtain ⟨kf, ku⟩ := hft.kinds
  have Cn : ∀ b, b ∈ c :: (f ++ u) → H b = none := hfr
  have Cs : ∀ b, b ∈ c :: (f ++ u) → ∃ o, H1 b = some o := fun b hb => by
    rcases List.mem_cons.mp hb with rfl | hb
    · exact ⟨_, hc⟩
    · rcases List.mem_append.mp hb with hb | hb
      · obtain ⟨_, e⟩ := kf b hb; exact ⟨_, e⟩
      · obtain ⟨_, e⟩ := ku b hb; exact ⟨_, e⟩
  have Cg : ∀ b, b ∈ c :: (f ++ u) → G b = none := fun b hb => by
    cases z : G b with
    | none => rfl
    | some o => have := s.ex _ _ z; rw [Cn b hb] at this; cases this
  have ownN : ∀ (i : Nat) ys p, env[i]? = some (.ow (.lst ys)) → σ[i]? = some (some (.ref p)) → p ∉ c :: (f ++ u) ∧ i ≠ jf ∧ i ≠ jm := fun i ys p e e' => by
    obtain ⟨vs, h1, _, _⟩ := s.ocs i ys p e e'
    refine ⟨fun z => ?_, fun z => ?_, fun z => ?_⟩
    · rw [Cn p z] at h1; cases h1
    · rw [z, sp.nf] at e; cases e
    · rw [z, sp.nm] at e; cases e
  let C : Addr → Prop := fun b => b ∈ c :: (f ++ u)
  have exG : ∀ Hn, Ex G (stF C G Hn) := fun Hn a o e => by
    have : ¬ C a := fun z => by rw [Cg a z] at e; cases e
    rw [stF_out this]; exact e
  have exH : ∀ {Hn}, Ex G Hn → Ex (stF C G Hn) Hn := fun {Hn} x a o e => by
    by_cases z : C a
    · rwa [stF_in z] at e
    · rw [stF_out z] at e; exact x a o e
  -- the first look
  obtain ⟨v2, e2, r2⟩ := sp.e2
  have x1' : Ex G H1 := fun a o e => gr a o (s.ex a o e)
  have oc1 : OCs g env σ (stF C G H1) H1 := fun i ys p e e' => by
    obtain ⟨vs, h1, h2, h3⟩ := s.ocs i ys p e e'
    exact ⟨vs, gr _ _ h1, Rps.mono (exG H1) _ _ h2, by rw [stF_out (ownN i ys p e e').1]; exact h3⟩
  have g1 : (σ.set jf (some (.ref c)))[jf]? = some (some (.ref c)) := List.getElem?_set_self lf
  have s1 : Sim g P0 (env.set jf (.im (.lst t.D))) (σ.set jf (some (.ref c))) (stF C G H1) H1 := s.re sp.fl (exH x1') (by rw [List.length_set, List.length_set, s.len]) oc1
    (fun i w d a b => by
      rcases get_set a with ⟨rfl, rfl, _⟩ | ⟨hij, a⟩
      · cases b
      · exact ⟨a, List.getElem?_set_ne hij⟩)
    (fun i d a => by
      rcases get_set a with ⟨rfl, z, _⟩ | ⟨hij, a⟩
      · cases z
        exact ⟨_, g1, c, us, rfl, SqL.of (by rw [stF_in (show C c by show c ∈ c :: (f ++ u); simp)]; exact hc), hft.rp fun b hb => stF_in (show C b by show b ∈ c :: (f ++ u); rcases hb with hb | hb <;> simp [hb])⟩
      · obtain ⟨v, q1, q2⟩ := s.im i d a
        exact ⟨v, by rw [List.getElem?_set_ne hij]; exact q1, Rp.mono (exG H1) _ _ q2⟩)
  refine ⟨P0, _, _, s1, ?_⟩
  rw [e2]
  intro x G2 H2 s2 t2 w2
  refine ⟨false, tru_ok s2 w2 r2, ?_⟩
  simp only [Bool.false_eq_true, if_false]
  show tSeq _ _ D (σ.set jf (some (.ref c))) H2
  have H2C : ∀ b, C b → H2 b = H1 b := fun b hb => by
    obtain ⟨o, ho⟩ := Cs b hb
    have z : stF C G H1 b = some o := by rw [stF_in hb]; exact ho
    rw [s2.ex _ _ (t2.ex _ _ z), ho]
  have hc2 : H2 c = some (.lst us) := (H2C c (show c ∈ c :: (f ++ u) by simp)).trans hc
  have hft2 : FTr H2 t us f u := hft.congr fun b hb => H2C b (show b ∈ c :: (f ++ u) by rcases hb with hb | hb <;> simp [hb])
  have x2' : Ex G H2 := fun a o e => s2.ex _ _ (t2.ex _ _ (exG H1 a o e))
  have oc2 : ∀ Gz, Ex G Gz → (∀ b, ¬ C b → Gz b = G b) → OCs g env σ Gz H2 := fun Gz xz hz i ys p e e' => by
    obtain ⟨n1, n2, n3⟩ := ownN i ys p e e'
    obtain ⟨vs, h1, h2, h3⟩ := s2.ocs i ys p (by rw [List.getElem?_set_ne n2.symm]; exact e) (by rw [List.getElem?_set_ne n2.symm]; exact e')
    obtain ⟨_, _, _, h6⟩ := s.ocs i ys p e e'
    obtain ⟨ys', z, hfl⟩ := sp.fl i _ e ⟨_, rfl⟩
    cases z
    exact ⟨vs, h1, rps_flat hfl h2, (hz p n1).trans h6⟩
  -- gone through
  refine ⟨_, g1, ⟨rfl, c, 0, t, us, f, u, rfl, by have := sp.sz; omega, by have := sp.sz; omega, hc2, hft2, hnd, ?_⟩⟩
  intro H3 m hs hc3 hout
  have em := hs.num
  have em : m = ((t.labs.length : Nat) : Int) := by omega
  subst em
  show tIfS (tB (teOf g W c4)) x2 tNext D ((σ.set jf (some (.ref c))).set jm (some (.int (((t.labs.length : Nat) : Int) + 1)))) H3
  have nu : ∀ b ∈ u, b ∉ c :: f := fun b hb z => by
    obtain ⟨_, e⟩ := ku b hb
    rcases List.mem_cons.mp z with rfl | z
    · rw [hc] at e; cases e
    · obtain ⟨_, e'⟩ := kf b z; rw [e] at e'; cases e'
  have x3' : Ex G H3 := fun a o e => by
    have hn : a ∉ c :: f := fun z => by
      have : a ∈ c :: (f ++ u) := by rcases List.mem_cons.mp z with z | z <;> simp [z]
      rw [Cg a this] at e; cases e
    rw [hout a hn]; exact x2' a o e
  have oc3 : ∀ Gz, Ex G Gz → (∀ b, ¬ C b → Gz b = G b) → OCs g env σ Gz H3 := fun Gz xz hz i ys p e e' => by
    obtain ⟨vs, h1, h2, h3⟩ := oc2 Gz xz hz i ys p e e'
    have n1 := (ownN i ys p e e').1
    exact ⟨vs, by rw [hout p fun z => n1 (by rcases List.mem_cons.mp z with z | z <;> simp [z])]; exact h1, h2, h3⟩
  have g2 : ((σ.set jf (some (.ref c))).set jm (some (.int (((t.labs.length : Nat) : Int) + 1))))[jf]? = some (some (.ref c)) := by rw [List.getElem?_set_ne sp.ne.symm]; exact g1
  have g3 : ((σ.set jf (some (.ref c))).set jm (some (.int (((t.labs.length : Nat) : Int) + 1))))[jm]? = some (some (.int (((t.labs.length : Nat) : Int) + 1))) := List.getElem?_set_self (by rw [List.length_set]; exact lm)
  have σo : ∀ i, i ≠ jf → i ≠ jm → ((σ.set jf (some (.ref c))).set jm (some (.int (((t.labs.length : Nat) : Int) + 1))))[i]? = σ[i]? := fun i h1 h2 => by
    rw [List.getElem?_set_ne (Ne.symm h2), List.getElem?_set_ne (Ne.symm h1)]
  have lσ : ((σ.set jf (some (.ref c))).set jm (some (.int (((t.labs.length : Nat) : Int) + 1)))).length = σ.length := by rw [List.length_set, List.length_set]
  generalize hσ2 : (σ.set jf (some (.ref c))).set jm (some (.int (((t.labs.length : Nat) : Int) + 1))) = σ2 at *
  obtain ⟨v4, e4, r4⟩ := sp.e4
  have s3 : Sim g P0 ((env.set jf (.im (.lst (spDt t 0 ++ [.int (t.labs.length : Nat)])))).set jm (.im (.int (((t.labs.length : Nat) : Int) + 1)))) σ2 (stF C G H3) H3 := s.re sp.fl (exH x3') (by rw [List.length_set, List.length_set, lσ, s.len]) (oc3 _ (exG H3) fun b hb => stF_out hb)
    (fun i w d a b => by
      rcases get_set a with ⟨rfl, rfl, _⟩ | ⟨hij, a⟩
      · cases b
      · rcases get_set a with ⟨rfl, rfl, _⟩ | ⟨hij2, a⟩
        · cases b
        · exact ⟨a, σo i (Ne.symm hij2) (Ne.symm hij)⟩)
    (fun i d a => by
      rcases get_set a with ⟨rfl, z, _⟩ | ⟨hij, a⟩
      · cases z
        exact ⟨_, g3, rfl⟩
      · rcases get_set a with ⟨rfl, z, _⟩ | ⟨hij2, a⟩
        · cases z
          exact ⟨_, g2, c, _, rfl, SqL.of (by rw [stF_in (show C c by show c ∈ c :: (f ++ u); simp)]; exact hc3), rps_snoc (hs.rp fun b hb => stF_in (show C b by show b ∈ c :: (f ++ u); rcases hb with hb | hb <;> simp [hb])) rfl⟩
        · obtain ⟨v, q1, q2⟩ := s.im i d a
          exact ⟨v, by rw [σo i (Ne.symm hij2) (Ne.symm hij)]; exact q1, Rp.mono (exG H3) _ _ q2⟩)
  refine ⟨P0, _, _, s3, ?_⟩
  rw [e4]
  intro y G4 H4 s4 t4 w4
  refine ⟨false, tru_ok s4 w4 r4, ?_⟩
  simp only [Bool.false_eq_true, if_false]
  show D.nx σ2 H4
  have x4' : Ex G H4 := fun a o e => s4.ex _ _ (t4.ex _ _ (exG H3 a o e))
  have oc4 : OCs g env σ G H4 := fun i ys p e e' => by
    obtain ⟨n1, n2, n3⟩ := ownN i ys p e e'
    obtain ⟨vs, h1, h2, h3⟩ := s4.ocs i ys p (by rw [List.getElem?_set_ne n3.symm, List.getElem?_set_ne n2.symm]; exact e) (by rw [σo i n2 n3]; exact e')
    obtain ⟨_, _, _, h6⟩ := s.ocs i ys p e e'
    obtain ⟨ys', z, hfl⟩ := sp.fl i _ e ⟨_, rfl⟩
    cases z
    exact ⟨vs, h1, rps_flat hfl h2, h6⟩
  have sF : Sim g P0 env σ2 G H4 := s.re sp.fl x4' (by rw [lσ, s.len]) oc4
    (fun i w d a b => by
      refine ⟨a, σo i (fun z => ?_) fun z => ?_⟩
      · rw [z, sp.nf] at a; cases a; cases b
      · rw [z, sp.nm] at a; cases a; cases b)
    (fun i d a => by
      obtain ⟨v, q1, q2⟩ := s.im i d a
      exact ⟨v, by rw [σo i (fun z => by rw [z, sp.nf] at a; cases a) fun z => by rw [z, sp.nm] at a; cases a]; exact q1, q2⟩)
  -- what is owned is the same
  have own_cel : ∀ {e : Env} {τ : L2.St} {Gz Hz : Hp}, OCs g env σ Gz Hz → (∀ (i : Nat) w d, e[i]? = some w → w.own = some d → env[i]? = some w ∧ τ[i]? = σ[i]?) → ∀ p a, OA e τ p → Cel Hz p a → OA env σ p ∧ a = p := fun {e τ Gz Hz} oc ho p a ⟨i, w, d, b1, b2, b3⟩ hcel => by
    obtain ⟨h1, h2⟩ := ho i w d b1 b2
    obtain ⟨ys, rfl, _⟩ := sp.fl i w h1 ⟨d, b2⟩
    refine ⟨⟨i, _, d, h1, b2, h2 ▸ b3⟩, ?_⟩
    rcases hcel with z | ⟨Ci, dx, fs, n, z, _⟩
    · exact z
    · obtain ⟨vs, h4, _, _⟩ := oc i ys p h1 (h2 ▸ b3)
      rw [h4] at z; cases z
  have ho1 : ∀ (i : Nat) w d, (env.set jf (.im (.lst t.D)))[i]? = some w → w.own = some d → env[i]? = some w ∧ (σ.set jf (some (.ref c)))[i]? = σ[i]? := fun i w d a b => by
    rcases get_set a with ⟨rfl, rfl, _⟩ | ⟨hij, a⟩
    · cases b
    · exact ⟨a, List.getElem?_set_ne hij⟩
  have ho3 : ∀ (i : Nat) w d, ((env.set jf (.im (.lst (spDt t 0 ++ [.int (t.labs.length : Nat)])))).set jm (.im (.int (((t.labs.length : Nat) : Int) + 1))))[i]? = some w → w.own = some d → env[i]? = some w ∧ σ2[i]? = σ[i]? := fun i w d a b => by
    rcases get_set a with ⟨rfl, rfl, _⟩ | ⟨hij, a⟩
    · cases b
    · rcases get_set a with ⟨rfl, rfl, _⟩ | ⟨hij2, a⟩
      · cases b
      · exact ⟨a, σo i (Ne.symm hij2) (Ne.symm hij)⟩
  have hoF : ∀ (i : Nat) w d, env[i]? = some w → w.own = some d → env[i]? = some w ∧ σ2[i]? = σ[i]? := fun i w d a b => by
    refine ⟨a, σo i (fun z => ?_) fun z => ?_⟩
    · rw [z, sp.nf] at a; cases a; cases b
    · rw [z, sp.nm] at a; cases a; cases b
  have keepA : ∀ a o, ¬ OCl (OA env σ) H a → H a = some o → H4 a = some o := fun a o hn ho => by
    have hna : ¬ OA env σ a := fun z => hn (OCl.top z)
    have hC : ¬ C a := fun z => by rw [Cn a z] at ho; cases ho
    have a1 : H1 a = some o := gr _ _ ho
    have a2 : H2 a = some o := t2.keep a o (fun ⟨p, hp, hcel⟩ => by
      obtain ⟨z1, z2⟩ := own_cel oc1 ho1 p a hp hcel
      exact hna (z2 ▸ z1)) a1
    have a3 : H3 a = some o := by rw [hout a fun z => hC (show a ∈ c :: (f ++ u) by rcases List.mem_cons.mp z with z | z <;> simp [z])]; exact a2
    exact t4.keep a o (fun ⟨p, hp, hcel⟩ => by
      obtain ⟨z1, z2⟩ := own_cel (oc3 _ (exG H3) fun b hb => stF_out hb) ho3 p a hp hcel
      exact hna (z2 ▸ z1)) a3
  refine q σ2 G H4 sF ⟨Ex.refl G, keepA, fun a h => .inl h, fun p a hp hcel => ?_, fun a h => ?_⟩
  · obtain ⟨z1, z2⟩ := own_cel oc4 hoF p a hp hcel
    exact .inl ⟨z1, by rw [z2]; exact .inl rfl⟩
  · cases z : H a with
    | none => rfl
    | some o =>
      by_cases hn : OCl (OA env σ) H a
      · obtain ⟨p, hp, hcel⟩ := hn
        obtain ⟨z1, z2⟩ := own_cel s.ocs (fun i w d a b => ⟨a, rfl⟩) p a hp hcel
        obtain ⟨i, w, d, b1, b2, b3⟩ := z1
        obtain ⟨ys, rfl, _⟩ := sp.fl i w b1 ⟨d, b2⟩
        obtain ⟨vs, h4, _, _⟩ := oc4 i ys p b1 b3
        rw [z2, h4] at h; cases h
      · rw [keepA a o hn z] at h; cases h
end
theorem wpS_spoil {X : EX} {s : Slot} {r : Env} {Q : Fl → Env → Prop} {ja jb jf jm : Nat} {c2 c4 : Den} {k : Int} {t : RT} (h : SpC ja jb jf jm c2 c4 (s :: r) k t) (q : Q .nx (s :: r)) : wpS X (sSpoil ja jb jf jm c2 c4) (s :: r) Q := by
  unfold wpS sSpoil
  rw [if_pos ⟨k, t, h⟩]
  exact q
end G
set_option Elab.async false
set_option linter.all false
set_option maxRecDepth 100000
set_option maxHeartbeats 4000000
namespace K09
open G
noncomputable section
noncomputable def S_law_pool_1 : SDen := (sSeq (sIf (dBin fGe (dName 2) (dBin fPow (dC (.int 10)) (dC (.int 18)))) (sRet (dLst [(dBin fSub (dName 2) (dBin fPow (dC (.int 10)) (dC (.int 18)))), (dC (.int 1)), (dC (.int 0))])) sNil) (sRet (dLst [(dName 2), (dC (.int 0)), (dBin fMul (dC (.int 73)) (dName 1))])))
theorem u_S_law_pool_1 {X : EX} {s : Slot} {r : Env} {Q : Fl → Env → Prop} : wpS X S_law_pool_1 (s :: r) Q = wpS X (sSeq (sIf (dBin fGe (dName 2) (dBin fPow (dC (.int 10)) (dC (.int 18)))) (sRet (dLst [(dBin fSub (dName 2) (dBin fPow (dC (.int 10)) (dC (.int 18)))), (dC (.int 1)), (dC (.int 0))])) sNil) (sRet (dLst [(dName 2), (dC (.int 0)), (dBin fMul (dC (.int 73)) (dName 1))]))) (s :: r) Q := propext Iff.rfl
noncomputable def S_law_pool_2 : SDen := (sSeq (sIf (dBin fLt (dName 1) (dUn fLen (dName 0))) (sAsg 2 (dBin fIx (dName 0) (dName 1))) sNil) S_law_pool_1)
theorem u_S_law_pool_2 {X : EX} {s : Slot} {r : Env} {Q : Fl → Env → Prop} : wpS X S_law_pool_2 (s :: r) Q = wpS X (sSeq (sIf (dBin fLt (dName 1) (dUn fLen (dName 0))) (sAsg 2 (dBin fIx (dName 0) (dName 1))) sNil) S_law_pool_1) (s :: r) Q := propext Iff.rfl
noncomputable def B_law_pool : SDen := (sSeq (sAsg 2 (dC (.int 0))) S_law_pool_2)
noncomputable def F_law_pool : FD := fnOf 3 B_law_pool
theorem ok_law_pool : FDok F_law_pool := fdok _ _
noncomputable def S_law_take_1 : SDen := (sSeq (sSetL 0 (dC (.int 0)) (dBin fDiv (dBin fIx (dName 0) (dC (.int 0))) (dName 1))) (sRet (dName 2)))
theorem u_S_law_take_1 {X : EX} {s : Slot} {r : Env} {Q : Fl → Env → Prop} : wpS X S_law_take_1 (s :: r) Q = wpS X (sSeq (sSetL 0 (dC (.int 0)) (dBin fDiv (dBin fIx (dName 0) (dC (.int 0))) (dName 1))) (sRet (dName 2))) (s :: r) Q := propext Iff.rfl
noncomputable def S_law_take_2 : SDen := (sSeq (sAsg 2 (dBin fMod (dBin fIx (dName 0) (dC (.int 0))) (dName 1))) S_law_take_1)
theorem u_S_law_take_2 {X : EX} {s : Slot} {r : Env} {Q : Fl → Env → Prop} : wpS X S_law_take_2 (s :: r) Q = wpS X (sSeq (sAsg 2 (dBin fMod (dBin fIx (dName 0) (dC (.int 0))) (dName 1))) S_law_take_1) (s :: r) Q := propext Iff.rfl
noncomputable def S_law_take_3 : SDen := (sSeq (sAsg 4 (dBin fMod (dBin fMul (dName 4) (dName 4)) (dC (.int 99999999529)))) (sRet (dBin fMod (dBin fDiv (dBin fMod (dBin fMul (dName 4) (dBin fAdd (dName 4) (dC (.int 79)))) (dC (.int 99999999821))) (dC (.int 137))) (dName 1))))
theorem u_S_law_take_3 {X : EX} {s : Slot} {r : Env} {Q : Fl → Env → Prop} : wpS X S_law_take_3 (s :: r) Q = wpS X (sSeq (sAsg 4 (dBin fMod (dBin fMul (dName 4) (dName 4)) (dC (.int 99999999529)))) (sRet (dBin fMod (dBin fDiv (dBin fMod (dBin fMul (dName 4) (dBin fAdd (dName 4) (dC (.int 79)))) (dC (.int 99999999821))) (dC (.int 137))) (dName 1)))) (s :: r) Q := propext Iff.rfl
noncomputable def S_law_take_4 : SDen := (sSeq (sAsg 4 (dBin fAdd (dName 4) (dBin fMul (dBin fMul (dC (.int 3623)) (dName 3)) (dName 3)))) S_law_take_3)
theorem u_S_law_take_4 {X : EX} {s : Slot} {r : Env} {Q : Fl → Env → Prop} : wpS X S_law_take_4 (s :: r) Q = wpS X (sSeq (sAsg 4 (dBin fAdd (dName 4) (dBin fMul (dBin fMul (dC (.int 3623)) (dName 3)) (dName 3)))) S_law_take_3) (s :: r) Q := propext Iff.rfl
noncomputable def S_law_take_5 : SDen := (sSeq (sAsg 4 (dBin fMul (dBin fAdd (dBin fMod (dBin fIx (dName 0) (dC (.int 0))) (dC (.int 9999999379))) (dC (.int 1049))) (dBin fAdd (dBin fMul (dC (.int 67)) (dName 3)) (dC (.int 101))))) S_law_take_4)
theorem u_S_law_take_5 {X : EX} {s : Slot} {r : Env} {Q : Fl → Env → Prop} : wpS X S_law_take_5 (s :: r) Q = wpS X (sSeq (sAsg 4 (dBin fMul (dBin fAdd (dBin fMod (dBin fIx (dName 0) (dC (.int 0))) (dC (.int 9999999379))) (dC (.int 1049))) (dBin fAdd (dBin fMul (dC (.int 67)) (dName 3)) (dC (.int 101))))) S_law_take_4) (s :: r) Q := propext Iff.rfl
noncomputable def S_law_take_6 : SDen := (sSeq (sAsg 3 (dBin fIx (dName 0) (dC (.int 2)))) S_law_take_5)
theorem u_S_law_take_6 {X : EX} {s : Slot} {r : Env} {Q : Fl → Env → Prop} : wpS X S_law_take_6 (s :: r) Q = wpS X (sSeq (sAsg 3 (dBin fIx (dName 0) (dC (.int 2)))) S_law_take_5) (s :: r) Q := propext Iff.rfl
noncomputable def S_law_take_7 : SDen := (sSeq (sSetL 0 (dC (.int 2)) (dBin fAdd (dBin fIx (dName 0) (dC (.int 2))) (dC (.int 1)))) S_law_take_6)
theorem u_S_law_take_7 {X : EX} {s : Slot} {r : Env} {Q : Fl → Env → Prop} : wpS X S_law_take_7 (s :: r) Q = wpS X (sSeq (sSetL 0 (dC (.int 2)) (dBin fAdd (dBin fIx (dName 0) (dC (.int 2))) (dC (.int 1)))) S_law_take_6) (s :: r) Q := propext Iff.rfl
noncomputable def B_law_take : SDen := (sSeq (sDrop [2] (sIf (dBin fEq (dBin fIx (dName 0) (dC (.int 1))) (dC (.int 1))) S_law_take_2 sNil)) S_law_take_7)
noncomputable def F_law_take : FD := fnOf 5 B_law_take
theorem ok_law_take : FDok F_law_take := fdok _ _
noncomputable def S_law_tree_1 : SDen := (sSeq (sAsg 4 (dCall F_law_take [(true, (dName 0)), (false, (dC (.int 4)))])) (sForest 5 6 9 8 (iR1 (dName 3)) (tgName 7) (dBin fIx (dLst [(dC (.int 0)), (dBin fSub (dUn fLen (dName 6)) (dC (.int 1))), (dCall F_law_take [(true, (dName 0)), (false, (dUn fLen (dName 6)))]), (dCall F_law_take [(true, (dName 0)), (false, (dBin fMin2 (dC (.int 3)) (dUn fLen (dName 6))))])]) (dName 4)) (dCall F_law_take [(true, (dName 0)), (false, (dName 1))])))
theorem u_S_law_tree_1 {X : EX} {s : Slot} {r : Env} {Q : Fl → Env → Prop} : wpS X S_law_tree_1 (s :: r) Q = wpS X (sSeq (sAsg 4 (dCall F_law_take [(true, (dName 0)), (false, (dC (.int 4)))])) (sForest 5 6 9 8 (iR1 (dName 3)) (tgName 7) (dBin fIx (dLst [(dC (.int 0)), (dBin fSub (dUn fLen (dName 6)) (dC (.int 1))), (dCall F_law_take [(true, (dName 0)), (false, (dUn fLen (dName 6)))]), (dCall F_law_take [(true, (dName 0)), (false, (dBin fMin2 (dC (.int 3)) (dUn fLen (dName 6))))])]) (dName 4)) (dCall F_law_take [(true, (dName 0)), (false, (dName 1))]))) (s :: r) Q := propext Iff.rfl
noncomputable def B_law_tree : SDen := (sSeq (sAsg 3 (dBin fIx (dLst [(dCall F_law_take [(true, (dName 0)), (false, (dBin fAdd (dName 2) (dC (.int 1))))]), (dCall F_law_take [(true, (dName 0)), (false, (dBin fAdd (dBin fMin2 (dName 2) (dC (.int 4))) (dC (.int 1))))]), (dName 2)]) (dCall F_law_take [(true, (dName 0)), (false, (dC (.int 3)))]))) S_law_tree_1)
noncomputable def F_law_tree : FD := fnOf 10 B_law_tree
theorem ok_law_tree : FDok F_law_tree := fdok _ _
noncomputable def B_law_copy (rec : FD) : SDen := (sRet (dLcN 0 (tgTup 2 (tgCons (tgName 1) (tgCons (tgName 2) tgNil))) (cOf none) (dTup [(dName 1), (dCall rec [(false, (dName 2))])]) [1, 2]))
noncomputable def F_law_copyn : Nat → FD
  | 0 => fun _ => .bad
  | n + 1 => fnOf 3 (B_law_copy (F_law_copyn n))
noncomputable def F_law_copy : FD := F_law_copyn 25
theorem ok_law_copy : FDok F_law_copy := fdok 3 (B_law_copy (F_law_copyn 24))
noncomputable def L_law_row_1 (rec : FD) : SDen := (sDrop [2, 3] (sAsg 1 (dBin fAdd (dBin fAdd (dBin fAdd (dBin fIx (dC (.str [40, 91, 123, 60])) (dName 2)) (dCall rec [(false, (dName 3))])) (dBin fIx (dC (.str [41, 93, 125, 62])) (dName 2))) (dName 1))))
theorem u_L_law_row_1 {X : EX} (rec : FD) {s : Slot} {r : Env} {Q : Fl → Env → Prop} : wpS X (L_law_row_1 rec) (s :: r) Q = wpS X (sDrop [2, 3] (sAsg 1 (dBin fAdd (dBin fAdd (dBin fAdd (dBin fIx (dC (.str [40, 91, 123, 60])) (dName 2)) (dCall rec [(false, (dName 3))])) (dBin fIx (dC (.str [41, 93, 125, 62])) (dName 2))) (dName 1)))) (s :: r) Q := propext Iff.rfl
noncomputable def S_law_row_1 (rec : FD) : SDen := (sSeq (sDrop [2, 3] (sFor (iSeq (dUn fRev (dName 0))) (tgTup 2 (tgCons (tgName 2) (tgCons (tgName 3) tgNil))) (L_law_row_1 rec))) (sRet (dName 1)))
theorem u_S_law_row_1 {X : EX} (rec : FD) {s : Slot} {r : Env} {Q : Fl → Env → Prop} : wpS X (S_law_row_1 rec) (s :: r) Q = wpS X (sSeq (sDrop [2, 3] (sFor (iSeq (dUn fRev (dName 0))) (tgTup 2 (tgCons (tgName 2) (tgCons (tgName 3) tgNil))) (L_law_row_1 rec))) (sRet (dName 1))) (s :: r) Q := propext Iff.rfl
noncomputable def B_law_row (rec : FD) : SDen := (sSeq (sAsg 1 (dC (.str []))) (S_law_row_1 rec))
noncomputable def F_law_rown : Nat → FD
  | 0 => fun _ => .bad
  | n + 1 => fnOf 4 (B_law_row (F_law_rown n))
noncomputable def F_law_row : FD := F_law_rown 25
theorem ok_law_row : FDok F_law_row := fdok 4 (B_law_row (F_law_rown 24))
noncomputable def S_law_right_row_1 : SDen := (sSeq (sAsg 6 (dBin fAdd (dBin fIx (dC (.str [41, 93, 125, 62])) (dName 8)) (dName 6))) (sAsg 3 (dBin fSub (dName 3) (dC (.int 1)))))
theorem u_S_law_right_row_1 {X : EX} {s : Slot} {r : Env} {Q : Fl → Env → Prop} : wpS X S_law_right_row_1 (s :: r) Q = wpS X (sSeq (sAsg 6 (dBin fAdd (dBin fIx (dC (.str [41, 93, 125, 62])) (dName 8)) (dName 6))) (sAsg 3 (dBin fSub (dName 3) (dC (.int 1))))) (s :: r) Q := propext Iff.rfl
noncomputable def S_law_right_row_2 : SDen := (sSeq (sAsg 5 (dBin fAdd (dName 5) (dBin fIx (dC (.str [40, 91, 123, 60])) (dName 8)))) S_law_right_row_1)
theorem u_S_law_right_row_2 {X : EX} {s : Slot} {r : Env} {Q : Fl → Env → Prop} : wpS X S_law_right_row_2 (s :: r) Q = wpS X (sSeq (sAsg 5 (dBin fAdd (dName 5) (dBin fIx (dC (.str [40, 91, 123, 60])) (dName 8)))) S_law_right_row_1) (s :: r) Q := propext Iff.rfl
noncomputable def S_law_right_row_3 : SDen := (sSeq (sAsg 8 (dCall F_law_take [(true, (dName 0)), (false, (dName 1))])) S_law_right_row_2)
theorem u_S_law_right_row_3 {X : EX} {s : Slot} {r : Env} {Q : Fl → Env → Prop} : wpS X S_law_right_row_3 (s :: r) Q = wpS X (sSeq (sAsg 8 (dCall F_law_take [(true, (dName 0)), (false, (dName 1))])) S_law_right_row_2) (s :: r) Q := propext Iff.rfl
noncomputable def S_law_right_row_4 : SDen := (sSeq (sAsg 5 (dBin fAdd (dName 5) (dBin fIx (dName 6) (dC (.int 0))))) (sAsg 6 (dSl (dName 6) (some (dC (.int 1))) none)))
theorem u_S_law_right_row_4 {X : EX} {s : Slot} {r : Env} {Q : Fl → Env → Prop} : wpS X S_law_right_row_4 (s :: r) Q = wpS X (sSeq (sAsg 5 (dBin fAdd (dName 5) (dBin fIx (dName 6) (dC (.int 0))))) (sAsg 6 (dSl (dName 6) (some (dC (.int 1))) none))) (s :: r) Q := propext Iff.rfl
noncomputable def L_law_right_row_1 : SDen := (sDrop [7, 8] (sSeq (sAsg 7 (dBin fIx (dLst [(dBin fGt (dCall F_law_take [(true, (dName 0)), (false, (dC (.int 5)))]) (dC (.int 0))), (dBin fEq (dCall F_law_take [(true, (dName 0)), (false, (dC (.int 5)))]) (dC (.int 0))), (dBin fGt (dCall F_law_take [(true, (dName 0)), (false, (dC (.int 2)))]) (dC (.int 0))), (dBin fGt (dName 3) (dC (.int 0)))]) (dName 4))) (sIf (dAnd (dBin fGt (dName 3) (dC (.int 0))) (dOr (dBin fEq (dName 6) (dC (.str []))) (dName 7))) S_law_right_row_3 S_law_right_row_4)))
theorem u_L_law_right_row_1 {X : EX} {s : Slot} {r : Env} {Q : Fl → Env → Prop} : wpS X L_law_right_row_1 (s :: r) Q = wpS X (sDrop [7, 8] (sSeq (sAsg 7 (dBin fIx (dLst [(dBin fGt (dCall F_law_take [(true, (dName 0)), (false, (dC (.int 5)))]) (dC (.int 0))), (dBin fEq (dCall F_law_take [(true, (dName 0)), (false, (dC (.int 5)))]) (dC (.int 0))), (dBin fGt (dCall F_law_take [(true, (dName 0)), (false, (dC (.int 2)))]) (dC (.int 0))), (dBin fGt (dName 3) (dC (.int 0)))]) (dName 4))) (sIf (dAnd (dBin fGt (dName 3) (dC (.int 0))) (dOr (dBin fEq (dName 6) (dC (.str []))) (dName 7))) S_law_right_row_3 S_law_right_row_4))) (s :: r) Q := propext Iff.rfl
noncomputable def S_law_right_row_5 : SDen := (sSeq (sDrop [3, 6, 7, 8] (sWhile (dOr (dBin fGt (dName 3) (dC (.int 0))) (dBin fNe (dName 6) (dC (.str [])))) L_law_right_row_1 FUEL)) (sRet (dName 5)))
theorem u_S_law_right_row_5 {X : EX} {s : Slot} {r : Env} {Q : Fl → Env → Prop} : wpS X S_law_right_row_5 (s :: r) Q = wpS X (sSeq (sDrop [3, 6, 7, 8] (sWhile (dOr (dBin fGt (dName 3) (dC (.int 0))) (dBin fNe (dName 6) (dC (.str [])))) L_law_right_row_1 FUEL)) (sRet (dName 5))) (s :: r) Q := propext Iff.rfl
noncomputable def S_law_right_row_6 : SDen := (sSeq (sAsg 6 (dC (.str []))) S_law_right_row_5)
theorem u_S_law_right_row_6 {X : EX} {s : Slot} {r : Env} {Q : Fl → Env → Prop} : wpS X S_law_right_row_6 (s :: r) Q = wpS X (sSeq (sAsg 6 (dC (.str []))) S_law_right_row_5) (s :: r) Q := propext Iff.rfl
noncomputable def S_law_right_row_7 : SDen := (sSeq (sAsg 5 (dC (.str []))) S_law_right_row_6)
theorem u_S_law_right_row_7 {X : EX} {s : Slot} {r : Env} {Q : Fl → Env → Prop} : wpS X S_law_right_row_7 (s :: r) Q = wpS X (sSeq (sAsg 5 (dC (.str []))) S_law_right_row_6) (s :: r) Q := propext Iff.rfl
noncomputable def S_law_right_row_8 : SDen := (sSeq (sAsg 4 (dCall F_law_take [(true, (dName 0)), (false, (dC (.int 4)))])) S_law_right_row_7)
theorem u_S_law_right_row_8 {X : EX} {s : Slot} {r : Env} {Q : Fl → Env → Prop} : wpS X S_law_right_row_8 (s :: r) Q = wpS X (sSeq (sAsg 4 (dCall F_law_take [(true, (dName 0)), (false, (dC (.int 4)))])) S_law_right_row_7) (s :: r) Q := propext Iff.rfl
noncomputable def B_law_right_row : SDen := (sSeq (sAsg 3 (dBin fIx (dLst [(dCall F_law_take [(true, (dName 0)), (false, (dBin fAdd (dBin fDiv (dName 2) (dC (.int 2))) (dC (.int 1))))]), (dCall F_law_take [(true, (dName 0)), (false, (dBin fAdd (dBin fMin2 (dBin fDiv (dName 2) (dC (.int 2))) (dC (.int 4))) (dC (.int 1))))]), (dBin fDiv (dName 2) (dC (.int 2)))]) (dCall F_law_take [(true, (dName 0)), (false, (dC (.int 3)))]))) S_law_right_row_8)
noncomputable def F_law_right_row : FD := fnOf 9 B_law_right_row
theorem ok_law_right_row : FDok F_law_right_row := fdok _ _
noncomputable def B_is_whole : SDen := (sRet (dAnd (dUn (fIsi' "int") (dName 0)) (dNot (dUn (fIsi' "bool") (dName 0)))))
noncomputable def F_is_whole : FD := fnOf 1 B_is_whole
theorem ok_is_whole : FDok F_is_whole := fdok _ _
noncomputable def B_need_kinds : SDen := (sIf (dOr (dNot (dCall F_is_whole [(false, (dName 0))])) (dNot (dChain fLe fLe (dC (.int 1)) (dName 0) (dC (.int 4))))) (sRaise 1) sNil)
noncomputable def F_need_kinds : FD := fnOf 1 B_need_kinds
theorem ok_need_kinds : FDok F_need_kinds := fdok _ _
noncomputable def B_row_from (rec : FD) : SDen := (sRet (dMethR kStr (dC (.str [])) [(dLcN 0 (tgTup 2 (tgCons (tgName 1) (tgCons (tgName 2) tgNil))) (cOf none) (dBin fAdd (dBin fAdd (dBin fIx (dC (.str [40, 91, 123, 60])) (dName 1)) (dCall rec [(false, (dName 2))])) (dBin fIx (dC (.str [41, 93, 125, 62])) (dName 1))) [1, 2])] fJoin))
noncomputable def F_row_fromn : Nat → FD
  | 0 => fun _ => .bad
  | n + 1 => fnOf 3 (B_row_from (F_row_fromn n))
noncomputable def F_row_from : FD := F_row_fromn 25
theorem ok_row_from : FDok F_row_from := fdok 3 (B_row_from (F_row_fromn 24))
noncomputable def B_is_branch : SDen := (sRet (dAnd (dUn (fIsi' "tuple") (dName 1)) (dAnd (dBin fEq (dUn fLen (dName 1)) (dC (.int 2))) (dAnd (dCall F_is_whole [(false, (dBin fIx (dName 1) (dC (.int 0))))]) (dChain fLe fLt (dC (.int 0)) (dBin fIx (dName 1) (dC (.int 0))) (dName 0))))))
noncomputable def F_is_branch : FD := fnOf 2 B_is_branch
theorem ok_is_branch : FDok F_is_branch := fdok _ _
noncomputable def S_is_tree_by_1 : SDen := (sSeq (sAug 3 (fun a b => a + b) (dUn fLen (dName 4))) (sExpr (dMeth kindL 2 [(dLcN 4 (tgTup 2 (tgCons (tgName 6) (tgCons (tgName 7) tgNil))) (cOf none) (dName 7) [6, 7])] mExtend)))
theorem u_S_is_tree_by_1 {X : EX} {s : Slot} {r : Env} {Q : Fl → Env → Prop} : wpS X S_is_tree_by_1 (s :: r) Q = wpS X (sSeq (sAug 3 (fun a b => a + b) (dUn fLen (dName 4))) (sExpr (dMeth kindL 2 [(dLcN 4 (tgTup 2 (tgCons (tgName 6) (tgCons (tgName 7) tgNil))) (cOf none) (dName 7) [6, 7])] mExtend))) (s :: r) Q := propext Iff.rfl
noncomputable def S_is_tree_by_2 : SDen := (sSeq (sIf (dBin fNeL (dLcN 4 (tgName 5) (cOf (some (dNot (dCall F_is_branch [(false, (dName 0)), (false, (dName 5))])))) (dName 5) [5]) (dLst [])) (sRet (dC (.bl false))) sNil) S_is_tree_by_1)
theorem u_S_is_tree_by_2 {X : EX} {s : Slot} {r : Env} {Q : Fl → Env → Prop} : wpS X S_is_tree_by_2 (s :: r) Q = wpS X (sSeq (sIf (dBin fNeL (dLcN 4 (tgName 5) (cOf (some (dNot (dCall F_is_branch [(false, (dName 0)), (false, (dName 5))])))) (dName 5) [5]) (dLst [])) (sRet (dC (.bl false))) sNil) S_is_tree_by_1) (s :: r) Q := propext Iff.rfl
noncomputable def S_is_tree_by_3 : SDen := (sSeq (sIf (dOr (dNot (dUn (fIsi' "list") (dName 4))) (dBin fGt (dBin fAdd (dName 3) (dUn fLen (dName 4))) (dC (.int 20)))) (sRet (dC (.bl false))) sNil) S_is_tree_by_2)
theorem u_S_is_tree_by_3 {X : EX} {s : Slot} {r : Env} {Q : Fl → Env → Prop} : wpS X S_is_tree_by_3 (s :: r) Q = wpS X (sSeq (sIf (dOr (dNot (dUn (fIsi' "list") (dName 4))) (dBin fGt (dBin fAdd (dName 3) (dUn fLen (dName 4))) (dC (.int 20)))) (sRet (dC (.bl false))) sNil) S_is_tree_by_2) (s :: r) Q := propext Iff.rfl
noncomputable def L_is_tree_by_1 : SDen := (sDrop [4] (sSeq (sAsg 4 (dMeth kindL 2 [] mPop)) S_is_tree_by_3))
theorem u_L_is_tree_by_1 {X : EX} {s : Slot} {r : Env} {Q : Fl → Env → Prop} : wpS X L_is_tree_by_1 (s :: r) Q = wpS X (sDrop [4] (sSeq (sAsg 4 (dMeth kindL 2 [] mPop)) S_is_tree_by_3)) (s :: r) Q := propext Iff.rfl
noncomputable def S_is_tree_by_4 : SDen := (sSeq (sDrop [3, 4] (sWhile (dBin fNeL (dName 2) (dLst [])) L_is_tree_by_1 FUEL)) (sRet (dC (.bl true))))
theorem u_S_is_tree_by_4 {X : EX} {s : Slot} {r : Env} {Q : Fl → Env → Prop} : wpS X S_is_tree_by_4 (s :: r) Q = wpS X (sSeq (sDrop [3, 4] (sWhile (dBin fNeL (dName 2) (dLst [])) L_is_tree_by_1 FUEL)) (sRet (dC (.bl true)))) (s :: r) Q := propext Iff.rfl
noncomputable def S_is_tree_by_5 : SDen := (sSeq (sAsg 3 (dC (.int 0))) S_is_tree_by_4)
theorem u_S_is_tree_by_5 {X : EX} {s : Slot} {r : Env} {Q : Fl → Env → Prop} : wpS X S_is_tree_by_5 (s :: r) Q = wpS X (sSeq (sAsg 3 (dC (.int 0))) S_is_tree_by_4) (s :: r) Q := propext Iff.rfl
noncomputable def B_is_tree_by : SDen := (sSeq (sAsg 2 (dLst [(dName 1)])) S_is_tree_by_5)
noncomputable def F_is_tree_by : FD := fnOf 8 B_is_tree_by
theorem ok_is_tree_by : FDok F_is_tree_by := fdok _ _
noncomputable def S_row_of_tree_1 : SDen := (sSeq (sIf (dNot (dCall F_is_tree_by [(false, (dName 0)), (false, (dName 1))])) (sRaise 4) sNil) (sRet (dCall F_row_from [(false, (dName 1))])))
theorem u_S_row_of_tree_1 {X : EX} {s : Slot} {r : Env} {Q : Fl → Env → Prop} : wpS X S_row_of_tree_1 (s :: r) Q = wpS X (sSeq (sIf (dNot (dCall F_is_tree_by [(false, (dName 0)), (false, (dName 1))])) (sRaise 4) sNil) (sRet (dCall F_row_from [(false, (dName 1))]))) (s :: r) Q := propext Iff.rfl
noncomputable def B_row_of_tree : SDen := (sSeq (sExpr (dCall F_need_kinds [(false, (dName 0))])) S_row_of_tree_1)
noncomputable def F_row_of_tree : FD := fnOf 2 B_row_of_tree
theorem ok_row_of_tree : FDok F_row_of_tree := fdok _ _
noncomputable def L_tree_between_1 (rec : FD) : SDen := (sSeq (sExpr (dMeth kindL 4 [(dTup [(dBin fDiv (dMethR kStr (dC (.str [40, 41, 91, 93, 123, 125, 60, 62])) [(dBin fIx (dName 0) (dName 5))] fSIndex) (dC (.int 2))), (dCall rec [(false, (dName 0)), (false, (dName 1)), (false, (dBin fAdd (dName 5) (dC (.int 1)))), (false, (dBin fIx (dName 1) (dName 5)))])])] mAppend)) (sAsg 5 (dBin fAdd (dBin fIx (dName 1) (dName 5)) (dC (.int 1)))))
theorem u_L_tree_between_1 {X : EX} (rec : FD) {s : Slot} {r : Env} {Q : Fl → Env → Prop} : wpS X (L_tree_between_1 rec) (s :: r) Q = wpS X (sSeq (sExpr (dMeth kindL 4 [(dTup [(dBin fDiv (dMethR kStr (dC (.str [40, 41, 91, 93, 123, 125, 60, 62])) [(dBin fIx (dName 0) (dName 5))] fSIndex) (dC (.int 2))), (dCall rec [(false, (dName 0)), (false, (dName 1)), (false, (dBin fAdd (dName 5) (dC (.int 1)))), (false, (dBin fIx (dName 1) (dName 5)))])])] mAppend)) (sAsg 5 (dBin fAdd (dBin fIx (dName 1) (dName 5)) (dC (.int 1))))) (s :: r) Q := propext Iff.rfl
noncomputable def S_tree_between_1 (rec : FD) : SDen := (sSeq (sDrop [5] (sWhile (dBin fLt (dName 5) (dName 3)) (L_tree_between_1 rec) FUEL)) (sRet (dName 4)))
theorem u_S_tree_between_1 {X : EX} (rec : FD) {s : Slot} {r : Env} {Q : Fl → Env → Prop} : wpS X (S_tree_between_1 rec) (s :: r) Q = wpS X (sSeq (sDrop [5] (sWhile (dBin fLt (dName 5) (dName 3)) (L_tree_between_1 rec) FUEL)) (sRet (dName 4))) (s :: r) Q := propext Iff.rfl
noncomputable def S_tree_between_2 (rec : FD) : SDen := (sSeq (sAsg 5 (dName 2)) (S_tree_between_1 rec))
theorem u_S_tree_between_2 {X : EX} (rec : FD) {s : Slot} {r : Env} {Q : Fl → Env → Prop} : wpS X (S_tree_between_2 rec) (s :: r) Q = wpS X (sSeq (sAsg 5 (dName 2)) (S_tree_between_1 rec)) (s :: r) Q := propext Iff.rfl
noncomputable def B_tree_between (rec : FD) : SDen := (sSeq (sAsg 4 (dLst [])) (S_tree_between_2 rec))
noncomputable def F_tree_betweenn : Nat → FD
  | 0 => fun _ => .bad
  | n + 1 => fnOf 6 (B_tree_between (F_tree_betweenn n))
noncomputable def F_tree_between : FD := F_tree_betweenn 25
theorem ok_tree_between : FDok F_tree_between := fdok 6 (B_tree_between (F_tree_betweenn 24))
noncomputable def B_brackets_of : SDen := (sRet (dSl (dC (.str [40, 41, 91, 93, 123, 125, 60, 62])) none (some (dBin fAdd (dName 0) (dName 0)))))
noncomputable def F_brackets_of : FD := fnOf 1 B_brackets_of
theorem ok_brackets_of : FDok F_brackets_of := fdok _ _
noncomputable def B_is_row_by : SDen := (sSeq (sIf (dOr (dNot (dUn (fIsi' "str") (dName 1))) (dBin fGt (dUn fLen (dName 1)) (dC (.int 40)))) (sRet (dC (.bl false))) sNil) (sRet (dBin fEq (dLcN 1 (tgName 2) (cOf (some (dBin fNotIn (dName 2) (dBin fAdd (dCall F_brackets_of [(false, (dName 0))]) (dC (.str [63])))))) (dName 2) [2]) (dLst []))))
noncomputable def F_is_row_by : FD := fnOf 3 B_is_row_by
theorem ok_is_row_by : FDok F_is_row_by := fdok _ _
noncomputable def B_need_line : SDen := (sSeq (sExpr (dCall F_need_kinds [(false, (dName 0))])) (sIf (dNot (dCall F_is_row_by [(false, (dName 0)), (false, (dName 1))])) (sRaise 2) sNil))
noncomputable def F_need_line : FD := fnOf 2 B_need_line
theorem ok_need_line : FDok F_need_line := fdok _ _
noncomputable def B_is_opening : SDen := (sRet (dBin fEq (dBin fMod (dMethR kStr (dC (.str [40, 41, 91, 93, 123, 125, 60, 62])) [(dName 0)] fSIndex) (dC (.int 2))) (dC (.int 0))))
noncomputable def F_is_opening : FD := fnOf 1 B_is_opening
theorem ok_is_opening : FDok F_is_opening := fdok _ _
noncomputable def B_other_of : SDen := (sSeq (sAsg 1 (dMethR kStr (dC (.str [40, 41, 91, 93, 123, 125, 60, 62])) [(dName 0)] fSIndex)) (sRet (dBin fIx (dC (.str [40, 41, 91, 93, 123, 125, 60, 62])) (dBin fSub (dBin fAdd (dName 1) (dC (.int 1))) (dBin fMul (dBin fMod (dName 1) (dC (.int 2))) (dC (.int 2)))))))
noncomputable def F_other_of : FD := fnOf 2 B_other_of
theorem ok_other_of : FDok F_other_of := fdok _ _
noncomputable def S_partners_of_1 : SDen := (sSeq (sSetL 1 (dName 3) (dMeth kindL 2 [] mPop)) (sSetL 1 (dBin fIx (dName 1) (dName 3)) (dName 3)))
theorem u_S_partners_of_1 {X : EX} {s : Slot} {r : Env} {Q : Fl → Env → Prop} : wpS X S_partners_of_1 (s :: r) Q = wpS X (sSeq (sSetL 1 (dName 3) (dMeth kindL 2 [] mPop)) (sSetL 1 (dBin fIx (dName 1) (dName 3)) (dName 3))) (s :: r) Q := propext Iff.rfl
noncomputable def L_partners_of_1 : SDen := (sDrop [3, 4] (sSeq (sIf (dBin fEq (dName 4) (dC (.str [63]))) (sRet (dC .non)) sNil) (sIf (dCall F_is_opening [(false, (dName 4))]) (sExpr (dMeth kindL 2 [(dName 3)] mAppend)) (sIf (dOr (dBin fEq (dName 2) (dLst [])) (dBin fNe (dBin fIx (dName 0) (dBin fIx (dName 2) (dUn fNeg (dC (.int 1))))) (dCall F_other_of [(false, (dName 4))]))) (sRet (dC .non)) S_partners_of_1))))
theorem u_L_partners_of_1 {X : EX} {s : Slot} {r : Env} {Q : Fl → Env → Prop} : wpS X L_partners_of_1 (s :: r) Q = wpS X (sDrop [3, 4] (sSeq (sIf (dBin fEq (dName 4) (dC (.str [63]))) (sRet (dC .non)) sNil) (sIf (dCall F_is_opening [(false, (dName 4))]) (sExpr (dMeth kindL 2 [(dName 3)] mAppend)) (sIf (dOr (dBin fEq (dName 2) (dLst [])) (dBin fNe (dBin fIx (dName 0) (dBin fIx (dName 2) (dUn fNeg (dC (.int 1))))) (dCall F_other_of [(false, (dName 4))]))) (sRet (dC .non)) S_partners_of_1)))) (s :: r) Q := propext Iff.rfl
noncomputable def S_partners_of_2 : SDen := (sSeq (sIf (dBin fNe (dName 2) (dLst [])) (sRet (dC .non)) sNil) (sRet (dName 1)))
theorem u_S_partners_of_2 {X : EX} {s : Slot} {r : Env} {Q : Fl → Env → Prop} : wpS X S_partners_of_2 (s :: r) Q = wpS X (sSeq (sIf (dBin fNe (dName 2) (dLst [])) (sRet (dC .non)) sNil) (sRet (dName 1))) (s :: r) Q := propext Iff.rfl
noncomputable def S_partners_of_3 : SDen := (sSeq (sDrop [3, 4] (sFor (iEnum' (dName 0)) (tgTup 2 (tgCons (tgName 3) (tgCons (tgName 4) tgNil))) L_partners_of_1)) S_partners_of_2)
theorem u_S_partners_of_3 {X : EX} {s : Slot} {r : Env} {Q : Fl → Env → Prop} : wpS X S_partners_of_3 (s :: r) Q = wpS X (sSeq (sDrop [3, 4] (sFor (iEnum' (dName 0)) (tgTup 2 (tgCons (tgName 3) (tgCons (tgName 4) tgNil))) L_partners_of_1)) S_partners_of_2) (s :: r) Q := propext Iff.rfl
noncomputable def S_partners_of_4 : SDen := (sSeq (sAsg 2 (dLst [])) S_partners_of_3)
theorem u_S_partners_of_4 {X : EX} {s : Slot} {r : Env} {Q : Fl → Env → Prop} : wpS X S_partners_of_4 (s :: r) Q = wpS X (sSeq (sAsg 2 (dLst [])) S_partners_of_3) (s :: r) Q := propext Iff.rfl
noncomputable def B_partners_of : SDen := (sSeq (sAsg 1 (dBin fMul (dLst [(dC (.int 0))]) (dUn fLen (dName 0)))) S_partners_of_4)
noncomputable def F_partners_of : FD := fnOf 5 B_partners_of
theorem ok_partners_of : FDok F_partners_of := fdok _ _
noncomputable def S_need_partners_1 : SDen := (sSeq (sIf (dBin fIs (dName 2) (dC .non)) (sRaise 3) sNil) (sRet (dName 2)))
theorem u_S_need_partners_1 {X : EX} {s : Slot} {r : Env} {Q : Fl → Env → Prop} : wpS X S_need_partners_1 (s :: r) Q = wpS X (sSeq (sIf (dBin fIs (dName 2) (dC .non)) (sRaise 3) sNil) (sRet (dName 2))) (s :: r) Q := propext Iff.rfl
noncomputable def S_need_partners_2 : SDen := (sSeq (sAsg 2 (dCall F_partners_of [(false, (dName 1))])) S_need_partners_1)
theorem u_S_need_partners_2 {X : EX} {s : Slot} {r : Env} {Q : Fl → Env → Prop} : wpS X S_need_partners_2 (s :: r) Q = wpS X (sSeq (sAsg 2 (dCall F_partners_of [(false, (dName 1))])) S_need_partners_1) (s :: r) Q := propext Iff.rfl
noncomputable def B_need_partners : SDen := (sSeq (sExpr (dCall F_need_line [(false, (dName 0)), (false, (dName 1))])) S_need_partners_2)
noncomputable def F_need_partners : FD := fnOf 3 B_need_partners
theorem ok_need_partners : FDok F_need_partners := fdok _ _
noncomputable def B_tree_of : SDen := (sRet (dCall F_tree_between [(false, (dName 1)), (false, (dCall F_need_partners [(false, (dName 0)), (false, (dName 1))])), (false, (dC (.int 0))), (false, (dUn fLen (dName 1)))]))
noncomputable def F_tree_of : FD := fnOf 2 B_tree_of
theorem ok_tree_of : FDok F_tree_of := fdok _ _
noncomputable def L_law_is_1 (rec : FD) : SDen := (sDrop [2, 3] (sSeq (sIf (dOr (dNot (dUn (fIsi' "tuple") (dName 2))) (dOr (dBin fNe (dUn fLen (dName 2)) (dC (.int 2))) (dOr (dUn (fIsi' "bool") (dBin fIx (dName 2) (dC (.int 0)))) (dBin fNe (dBin fIx (dName 2) (dC (.int 0))) (dBin fIx (dName 3) (dC (.int 0))))))) (sRet (dC (.bl false))) sNil) (sIf (dOr (dNot (dUn (fIsi' "int") (dBin fIx (dName 2) (dC (.int 0))))) (dNot (dCall rec [(false, (dBin fIx (dName 2) (dC (.int 1)))), (false, (dBin fIx (dName 3) (dC (.int 1))))]))) (sRet (dC (.bl false))) sNil)))
theorem u_L_law_is_1 {X : EX} (rec : FD) {s : Slot} {r : Env} {Q : Fl → Env → Prop} : wpS X (L_law_is_1 rec) (s :: r) Q = wpS X (sDrop [2, 3] (sSeq (sIf (dOr (dNot (dUn (fIsi' "tuple") (dName 2))) (dOr (dBin fNe (dUn fLen (dName 2)) (dC (.int 2))) (dOr (dUn (fIsi' "bool") (dBin fIx (dName 2) (dC (.int 0)))) (dBin fNe (dBin fIx (dName 2) (dC (.int 0))) (dBin fIx (dName 3) (dC (.int 0))))))) (sRet (dC (.bl false))) sNil) (sIf (dOr (dNot (dUn (fIsi' "int") (dBin fIx (dName 2) (dC (.int 0))))) (dNot (dCall rec [(false, (dBin fIx (dName 2) (dC (.int 1)))), (false, (dBin fIx (dName 3) (dC (.int 1))))]))) (sRet (dC (.bl false))) sNil))) (s :: r) Q := propext Iff.rfl
noncomputable def S_law_is_1 (rec : FD) : SDen := (sSeq (sDrop [2, 3] (sFor (iZip (dName 0) (dName 1)) (tgTup 2 (tgCons (tgName 2) (tgCons (tgName 3) tgNil))) (L_law_is_1 rec))) (sRet (dC (.bl true))))
theorem u_S_law_is_1 {X : EX} (rec : FD) {s : Slot} {r : Env} {Q : Fl → Env → Prop} : wpS X (S_law_is_1 rec) (s :: r) Q = wpS X (sSeq (sDrop [2, 3] (sFor (iZip (dName 0) (dName 1)) (tgTup 2 (tgCons (tgName 2) (tgCons (tgName 3) tgNil))) (L_law_is_1 rec))) (sRet (dC (.bl true)))) (s :: r) Q := propext Iff.rfl
noncomputable def B_law_is (rec : FD) : SDen := (sSeq (sIf (dOr (dNot (dUn (fIsi' "list") (dName 0))) (dBin fNe (dUn fLen (dName 0)) (dUn fLen (dName 1)))) (sRet (dC (.bl false))) sNil) (S_law_is_1 rec))
noncomputable def F_law_isn : Nat → FD
  | 0 => fun _ => .bad
  | n + 1 => fnOf 4 (B_law_is (F_law_isn n))
noncomputable def F_law_is : FD := F_law_isn 25
theorem ok_law_is : FDok F_law_is := fdok 4 (B_law_is (F_law_isn 24))
noncomputable def L_law_numbers_1 (rec : FD) : SDen := (sDrop [2] (sAsg 1 (dBin fAdd (dName 1) (dCall rec [(false, (dBin fIx (dName 2) (dC (.int 1))))]))))
theorem u_L_law_numbers_1 {X : EX} (rec : FD) {s : Slot} {r : Env} {Q : Fl → Env → Prop} : wpS X (L_law_numbers_1 rec) (s :: r) Q = wpS X (sDrop [2] (sAsg 1 (dBin fAdd (dName 1) (dCall rec [(false, (dBin fIx (dName 2) (dC (.int 1))))])))) (s :: r) Q := propext Iff.rfl
noncomputable def S_law_numbers_1 (rec : FD) : SDen := (sSeq (sDrop [2] (sFor (iSeq (dSl (dName 0) none (some (dUn fNeg (dC (.int 1)))))) (tgName 2) (L_law_numbers_1 rec))) (sRet (dBin fAdd (dName 1) (dSl (dName 0) (some (dUn fNeg (dC (.int 1)))) none))))
theorem u_S_law_numbers_1 {X : EX} (rec : FD) {s : Slot} {r : Env} {Q : Fl → Env → Prop} : wpS X (S_law_numbers_1 rec) (s :: r) Q = wpS X (sSeq (sDrop [2] (sFor (iSeq (dSl (dName 0) none (some (dUn fNeg (dC (.int 1)))))) (tgName 2) (L_law_numbers_1 rec))) (sRet (dBin fAdd (dName 1) (dSl (dName 0) (some (dUn fNeg (dC (.int 1)))) none)))) (s :: r) Q := propext Iff.rfl
noncomputable def B_law_numbers (rec : FD) : SDen := (sSeq (sAsg 1 (dLst [])) (S_law_numbers_1 rec))
noncomputable def F_law_numbersn : Nat → FD
  | 0 => fun _ => .bad
  | n + 1 => fnOf 3 (B_law_numbers (F_law_numbersn n))
noncomputable def F_law_numbers : FD := F_law_numbersn 25
theorem ok_law_numbers : FDok F_law_numbers := fdok 3 (B_law_numbers (F_law_numbersn 24))
noncomputable def S_law_3 : SDen := (sSpoil 7 6 9 10 (dNot (dCall F_law_is [(false, (dName 9)), (false, (dName 4))])) (dOr (dBin fNe (dName 10) (dBin fAdd (dBin fDiv (dUn fLen (dName 6)) (dC (.int 2))) (dC (.int 1)))) (dBin fNe (dCall F_law_numbers [(false, (dName 9))]) (dLRg (dName 10)))))
noncomputable def S_law_4 : SDen := (sSeq (sIf (dOr (dNot (dUn (fIsi' "str") (dName 8))) (dOr (dBin fNe (dName 8) (dName 6)) (dBin fNe (dName 5) (dName 4)))) (sRet (dC (.bl false))) sNil) S_law_3)
theorem u_S_law_4 {X : EX} {s : Slot} {r : Env} {Q : Fl → Env → Prop} : wpS X S_law_4 (s :: r) Q = wpS X (sSeq (sIf (dOr (dNot (dUn (fIsi' "str") (dName 8))) (dOr (dBin fNe (dName 8) (dName 6)) (dBin fNe (dName 5) (dName 4)))) (sRet (dC (.bl false))) sNil) S_law_3) (s :: r) Q := propext Iff.rfl
noncomputable def L_law_2 : SDen := (sDrop [7, 8, 9, 10] (sSeq (sAsg 8 (dCall F_row_of_tree [(false, (dName 7)), (false, (dName 5))])) S_law_4))
theorem u_L_law_2 {X : EX} {s : Slot} {r : Env} {Q : Fl → Env → Prop} : wpS X L_law_2 (s :: r) Q = wpS X (sDrop [7, 8, 9, 10] (sSeq (sAsg 8 (dCall F_row_of_tree [(false, (dName 7)), (false, (dName 5))])) S_law_4)) (s :: r) Q := propext Iff.rfl
noncomputable def S_law_5 : SDen := (sSeq (sAsg 11 (dCall F_law_right_row [(true, (dName 2)), (false, (dName 3)), (false, (dC (.int 40)))])) (sIf (dOr (dBin fNe (dCall F_law_row [(false, (dCall F_tree_of [(false, (dName 3)), (false, (dName 11))]))]) (dName 11)) (dBin fNe (dCall F_row_of_tree [(false, (dC (.int 4))), (false, (dCall F_tree_of [(false, (dC (.int 4))), (false, (dName 11))]))]) (dName 11))) (sRet (dC (.bl false))) sNil))
theorem u_S_law_5 {X : EX} {s : Slot} {r : Env} {Q : Fl → Env → Prop} : wpS X S_law_5 (s :: r) Q = wpS X (sSeq (sAsg 11 (dCall F_law_right_row [(true, (dName 2)), (false, (dName 3)), (false, (dC (.int 40)))])) (sIf (dOr (dBin fNe (dCall F_law_row [(false, (dCall F_tree_of [(false, (dName 3)), (false, (dName 11))]))]) (dName 11)) (dBin fNe (dCall F_row_of_tree [(false, (dC (.int 4))), (false, (dCall F_tree_of [(false, (dC (.int 4))), (false, (dName 11))]))]) (dName 11))) (sRet (dC (.bl false))) sNil)) (s :: r) Q := propext Iff.rfl
noncomputable def S_law_6 : SDen := (sSeq (sDrop [7, 8, 9, 10] (sFor (iSeq (dLst [(dName 3), (dC (.int 4)), (dName 3)])) (tgName 7) L_law_2)) S_law_5)
theorem u_S_law_6 {X : EX} {s : Slot} {r : Env} {Q : Fl → Env → Prop} : wpS X S_law_6 (s :: r) Q = wpS X (sSeq (sDrop [7, 8, 9, 10] (sFor (iSeq (dLst [(dName 3), (dC (.int 4)), (dName 3)])) (tgName 7) L_law_2)) S_law_5) (s :: r) Q := propext Iff.rfl
noncomputable def S_law_7 : SDen := (sSeq (sDrop [1] (sAsg 6 (dCall F_law_row [(false, (dName 4))]))) S_law_6)
theorem u_S_law_7 {X : EX} {s : Slot} {r : Env} {Q : Fl → Env → Prop} : wpS X S_law_7 (s :: r) Q = wpS X (sSeq (sDrop [1] (sAsg 6 (dCall F_law_row [(false, (dName 4))]))) S_law_6) (s :: r) Q := propext Iff.rfl
noncomputable def S_law_8 : SDen := (sSeq (sAsg 5 (dCall F_law_copy [(false, (dName 4))])) S_law_7)
theorem u_S_law_8 {X : EX} {s : Slot} {r : Env} {Q : Fl → Env → Prop} : wpS X S_law_8 (s :: r) Q = wpS X (sSeq (sAsg 5 (dCall F_law_copy [(false, (dName 4))])) S_law_7) (s :: r) Q := propext Iff.rfl
noncomputable def S_law_9 : SDen := (sSeq (sAsg 4 (dCall F_law_tree [(true, (dName 2)), (false, (dName 3)), (false, (dC (.int 20)))])) S_law_8)
theorem u_S_law_9 {X : EX} {s : Slot} {r : Env} {Q : Fl → Env → Prop} : wpS X S_law_9 (s :: r) Q = wpS X (sSeq (sAsg 4 (dCall F_law_tree [(true, (dName 2)), (false, (dName 3)), (false, (dC (.int 20)))])) S_law_8) (s :: r) Q := propext Iff.rfl
noncomputable def S_law_10 : SDen := (sSeq (sAsg 3 (dBin fAdd (dC (.int 1)) (dCall F_law_take [(true, (dName 2)), (false, (dC (.int 4)))]))) S_law_9)
theorem u_S_law_10 {X : EX} {s : Slot} {r : Env} {Q : Fl → Env → Prop} : wpS X S_law_10 (s :: r) Q = wpS X (sSeq (sAsg 3 (dBin fAdd (dC (.int 1)) (dCall F_law_take [(true, (dName 2)), (false, (dC (.int 4)))]))) S_law_9) (s :: r) Q := propext Iff.rfl
noncomputable def L_law_1 : SDen := (sDrop [1, 2, 3, 4, 5, 6, 7, 8, 9, 10, 11] (sSeq (sAsg 2 (dCall F_law_pool [(false, (dName 0)), (false, (dName 1))])) S_law_10))
theorem u_L_law_1 {X : EX} {s : Slot} {r : Env} {Q : Fl → Env → Prop} : wpS X L_law_1 (s :: r) Q = wpS X (sDrop [1, 2, 3, 4, 5, 6, 7, 8, 9, 10, 11] (sSeq (sAsg 2 (dCall F_law_pool [(false, (dName 0)), (false, (dName 1))])) S_law_10)) (s :: r) Q := propext Iff.rfl
noncomputable def E_law_1 : Den := (dBin fEq (dCall F_tree_of [(false, (dC (.int 1))), (false, (dC (.str [])))]) (dLst []))
theorem u_E_law_1 {X : EX} {s : Slot} {r : Env} {Q : Val → Env → Prop} : wpE X E_law_1 (s :: r) Q = wpE X (dBin fEq (dCall F_tree_of [(false, (dC (.int 1))), (false, (dC (.str [])))]) (dLst [])) (s :: r) Q := propext Iff.rfl
noncomputable def E_law_2 : Den := (dBin fEq (dCall F_row_of_tree [(false, (dC (.int 1))), (false, (dLst []))]) (dC (.str [])))
theorem u_E_law_2 {X : EX} {s : Slot} {r : Env} {Q : Val → Env → Prop} : wpE X E_law_2 (s :: r) Q = wpE X (dBin fEq (dCall F_row_of_tree [(false, (dC (.int 1))), (false, (dLst []))]) (dC (.str []))) (s :: r) Q := propext Iff.rfl
noncomputable def E_law_3 : Den := (dBin fEq (dCall F_tree_of [(false, (dC (.int 4))), (false, (dC (.str [40, 91, 93, 41, 60, 62])))]) (dLst [(dTup [(dC (.int 0)), (dLst [(dTup [(dC (.int 1)), (dLst [])])])]), (dTup [(dC (.int 3)), (dLst [])])]))
theorem u_E_law_3 {X : EX} {s : Slot} {r : Env} {Q : Val → Env → Prop} : wpE X E_law_3 (s :: r) Q = wpE X (dBin fEq (dCall F_tree_of [(false, (dC (.int 4))), (false, (dC (.str [40, 91, 93, 41, 60, 62])))]) (dLst [(dTup [(dC (.int 0)), (dLst [(dTup [(dC (.int 1)), (dLst [])])])]), (dTup [(dC (.int 3)), (dLst [])])])) (s :: r) Q := propext Iff.rfl
noncomputable def B_law : SDen := (sSeq (sDrop [1, 2, 3, 4, 5, 6, 7, 8, 9, 10, 11] (sFor (iR1 (dBin fMax2 (dC (.int 1)) (dBin fMin2 (dC (.int 10)) (dUn fLen (dName 0))))) (tgName 1) L_law_1)) (sRet (dAnd E_law_1 (dAnd E_law_2 E_law_3))))
noncomputable def F_law : FD := fnOf 12 B_law
end
end K09
set_option Elab.async false
set_option linter.all false
set_option maxRecDepth 100000
set_option maxHeartbeats 4000000
namespace K09
open G
variable {X : EX}
local macro_rules
  | `(tactic| contradiction) => `(tactic| first | with_reducible assumption | (have hLINE := LINE_big; have hBIG := BIG_big; omega) | (have hLINE := LINE_big; simp only [List.length_range, List.length_append, List.length_cons, List.length_nil, List.length_map, List.length_reverse, List.length_take, List.length_drop, List.length_replicate, List.length_set, Nat.add_zero, Nat.zero_add]; omega) | with_reducible_and_instances rfl | fail)
local macro_rules
  | `(tactic| simpa! only [$ls,*]) => do
    let p ← ("nm_0im nm_0ow nm_0io nm_1im nm_1ow nm_1io nm_2im nm_2ow nm_2io nm_3im nm_3ow nm_3io nm_4im nm_4ow nm_4io nm_5im nm_5ow nm_5io nm_6im nm_6ow nm_6io nm_7im nm_7ow nm_7io nm_8im nm_8ow nm_8io nm_9im nm_9ow nm_9io nm_10im nm_10ow nm_10io nm_11im nm_11ow nm_11io nm_12im nm_12ow nm_12io nm_13im nm_13ow nm_13io nm_14im nm_14ow nm_14io nm_15im nm_15ow nm_15io nm_16im nm_16ow nm_16io nm_17im nm_17ow nm_17io nm_18im nm_18ow nm_18io nm_19im nm_19ow nm_19io nm_20im nm_20ow nm_20io nm_21im nm_21ow nm_21io lvK_0 xcK_0 lvK_1 xcK_1 lvK_2 xcK_2 lvK_3 xcK_3 lvK_4 xcK_4 lvK_5 xcK_5 lvK_6 xcK_6 lvL_0 xcL_0 lvL_1 xcL_1 lvL_2 xcL_2 lvL_3 xcL_3 lvL_4 xcL_4 lvL_5 xcL_5 wpE_binK kB1_ap kB2_ii wpE_unK kU1_i wpE_notK kNt_b wpE_andK kAn_t kAn_f wpE_orK kOr_t kOr_f wpS_ifK kIf_t kIf_f wpS_seqK kSq_nx kSq_rt kSq_bk kSq_ct wpS_retK kRt_ap wpS_exprK kEx_ap wpS_asgK kAg_i kAg_o wpA_consK kAr_i kAr_o kAr_l kAc_ap wpE_callK kCl_ap fnK_rti fnK_rto fnK_nxK kNm_some kNm_ap".splitOn " ").toArray.mapM fun s => `(Lean.Parser.Tactic.simpLemma| ↓ $(Lean.mkIdent s.toName):term)
    let a ← ("kB2_ap kU1_ap kNt_ap kAn_ap kOr_ap kIf_ap kAg_ap kAr_ap kC2_ok kSt_t stOk_no stOk_im stOk_ow setP_zero setP_succ wpF_fn catches_0 wpS_nil wpS_aug wpS_setL wpS_for wpS_drop wpS_raise kDict_dk kDict_dt wpE_name wpE_C wpE_chain wpA_nil wpE_lst wpE_tup wpE_sl wpP_none wpP_some wpE_meth wpE_methR wpE_lc wpE_yes cOf_none cOf_some wpE_lrg flat_int flat_str flat_bl flat_non List.all_cons List.all_nil keyD_str keyD_int wpI_seq wpI_enum wpI_zip wpI_r1 isi_str isi_int isi_lst isi_tup isi_bl isi_non String.reduceBEq Bool.or_self rng_len enumL_len List.length_map List.length_range chars_map leLine ltLine leBig ltBig plain_nil plain_cons plO_no plO_im turnQ_def wpE_lcN_R imS_im imS_ow imS_io need_some need_none need_if need_map needI_int needB_bl needB_if then_nx then_bk then_ct then_rt dropK_rt dropK_nx dropK_bk dropK_ct wipeE_nil wipeE_cons nxt_nx nxt_ct nxt_bk nxt_rt fnK_rt xFn_F xFn_ap xCall_F xCall_ap leaveK_ap XF_ap slotV_r slO_im slO_ow slO_io rd_im rd_ow rd_loc rdO_im rdO_ow rdO_io fz_im fz_ow fz_loc fzO_im fzO_ow fzO_io tru_bl isLoc_f isLoc_loc isLoc_im isLoc_ow ownAt_r own_ow own_io own_im own_no putAt_r putO_some put_ow put_io kindL_lst kStr_str kdAt_r kdO_some enter_nil enter_im enter_loc entO_ow entO_io onceL_nil onceL_im onceL_loc posOf_nil posOf_im posOf_loc leaveG_nil leaveG_cons leave_r leaveS_r lvP_none lvP_some lvO_io lvO_im outs_nil outs_im outs_io retV_im retV_ow retV_loc rtO_im rtO_ow imInt_r imO_im itemsOf_lst itemsOf_tup itemsOf_str enumOf_lst enumOf_str back_nil back_cons bkO_some store_imR store_owR store_locR storeL_im storeL_ow stO_no stO_im stO_ow tgName_R tgTup_two tgTup_three tgCons_cons tgNil_nil imD_nil imD_im setAt vD_im vD_ow List.map_cons List.map_nil List.getElem?_cons_zero List.getElem?_cons_succ List.set_cons_zero List.set_cons_succ List.length_cons List.length_nil List.length_set List.cons_append List.nil_append List.append_nil List.reduceReplicate List.replicate_zero Option.map_some Option.map_none Option.bind_some Option.bind_none Option.isNone_none Option.isNone_some addI addS subI negI relI fEq_int fNe_int fEq_str fNe_str fNotIn_one min2I max2I modI divI mulI fLenL fLenT lenS slS_to slS_from slS_both revS Nat.reduceAdd Nat.reduceSub Nat.reduceLT Nat.reduceLeDiff Nat.reduceEqDiff Int.reduceLT Int.reduceLE Int.reduceNeg Int.reduceToNat Int.reduceAdd Int.toNat_natCast Int.reduceEq Int.reduceNe decide_true decide_false decide_eq_true_eq Bool.not_true Bool.not_false Bool.and_true Bool.true_and Bool.and_false Bool.false_and Bool.or_true Bool.true_or Bool.or_false Bool.false_or Bool.false_eq_true Bool.true_eq_false Bool.and_self ite_true ite_false reduceIte reduceCtorEq true_and and_true if_true if_false Nat.zero_add Int.cast_ofNat_Int Nat.le_refl Int.reducePow Nat.reducePow Nat.reduceMul Int.reduceMul Int.reduceSub Int.le_refl not_true_eq_false not_false_eq_true forall_const List.isEmpty_nil u_S_law_pool_1 u_S_law_pool_2 u_S_law_take_1 u_S_law_take_2 u_S_law_take_3 u_S_law_take_4 u_S_law_take_5 u_S_law_take_6 u_S_law_take_7 u_S_law_tree_1 u_L_law_row_1 u_S_law_row_1 u_S_law_right_row_1 u_S_law_right_row_2 u_S_law_right_row_3 u_S_law_right_row_4 u_L_law_right_row_1 u_S_law_right_row_5 u_S_law_right_row_6 u_S_law_right_row_7 u_S_law_right_row_8 u_S_is_tree_by_1 u_S_is_tree_by_2 u_S_is_tree_by_3 u_L_is_tree_by_1 u_S_is_tree_by_4 u_S_is_tree_by_5 u_S_row_of_tree_1 u_L_tree_between_1 u_S_tree_between_1 u_S_tree_between_2 u_S_partners_of_1 u_L_partners_of_1 u_S_partners_of_2 u_S_partners_of_3 u_S_partners_of_4 u_S_need_partners_1 u_S_need_partners_2 u_L_law_is_1 u_S_law_is_1 u_L_law_numbers_1 u_S_law_numbers_1 u_S_law_4 u_L_law_2 u_S_law_5 u_S_law_6 u_S_law_7 u_S_law_8 u_S_law_9 u_S_law_10 u_L_law_1 u_E_law_1 u_E_law_2 u_E_law_3".splitOn " ").toArray.mapM fun s => `(Lean.Parser.Tactic.simpLemma| $(Lean.mkIdent s.toName):term)
    let b : Lean.TSyntaxArray [`Lean.Parser.Tactic.simpStar, `Lean.Parser.Tactic.simpErase, `Lean.Parser.Tactic.simpLemma] := p ++ a ++ ls.getElems
    `(tactic| simp (maxSteps := 2000000) (disch := contradiction) only [$b,*])
noncomputable def Po (n : Nat) (d : D) : Prop := ∃ a b c : Int, d = .lst [.int a, .int b, .int c] ∧ 0 ≤ c ∧ c + n ≤ 1000000000
theorem Po.le {n m : Nat} {d : D} (h : Po n d) (hm : m ≤ n) : Po m d := by
  obtain ⟨a, b, c, e, h1, h2⟩ := h
  exact ⟨a, b, c, e, h1, by omega⟩
theorem ix0 (a b c : D) : fIx (.lst [a, b, c]) (.int 0) = some (.im a) := rfl
theorem ix1 (a b c : D) : fIx (.lst [a, b, c]) (.int 1) = some (.im b) := rfl
theorem ix2 (a b c : D) : fIx (.lst [a, b, c]) (.int 2) = some (.im c) := rfl
theorem st0 (a b c v : D) : setL (.lst [a, b, c]) 0 v = some (.lst [v, b, c]) := rfl
theorem st2 (a b c v : D) : setL (.lst [a, b, c]) 2 v = some (.lst [a, b, v]) := rfl
theorem take_wp {n : Nat} {m : Int} {d : D} (hd : Po (n + 1) d) (hm : 0 < m) (hm2 : m ≤ 1000000000000) {Q : Val → List Slot → Prop} (q : ∀ r d', 0 ≤ r → r < m → Po n d' → Q (.im (.int r)) [.io d', .im (.int m)]) : wpF X F_law_take [.io d, .im (.int m)] Q := by
  obtain ⟨a, b, c, rfl, hc, hn⟩ := hd
  unfold F_law_take B_law_take
  simpa! only [ix0, ix1, ix2, st0, st2]
  by_cases hb : b = 1
  · rw [if_pos hb]
    exact q _ _ (Int.emod_nonneg _ (by omega)) (Int.emod_lt_of_pos _ hm) ⟨_, _, _, rfl, hc, by omega⟩
  · rw [if_neg hb]
    have hs0 : 0 ≤ c + 1 := by omega
    have hs1 : c + 1 ≤ 1000000000 := by omega
    have hf : ∀ r, 0 ≤ r → r < m → Q (.im (.int r)) [.io (.lst [.int a, .int b, .int (c + 1)]), .im (.int m)] := fun r h1 h2 => q r _ h1 h2 ⟨_, _, _, rfl, by omega, by omega⟩
    generalize c + 1 = s at *
    have hu0 : 0 ≤ a % 9999999379 + 1049 := by omega
    have hu1 : a % 9999999379 + 1049 ≤ 10000001000 := by omega
    generalize a % 9999999379 + 1049 = u at *
    have hv0 : 0 ≤ 67 * s + 101 := by omega
    have hv1 : 67 * s + 101 ≤ 67000000101 := by omega
    generalize 67 * s + 101 = v at *
    have ht0 : 0 ≤ 3623 * s := by omega
    have ht1 : 3623 * s ≤ 3623000000000 := by omega
    generalize 3623 * s = t at *
    obtain ⟨p0, p1⟩ := mul_nn hu0 hu1 hv0 hv1
    obtain ⟨p2, p3⟩ := mul_nn ht0 ht1 hs0 hs1
    have hz0 : 0 ≤ u * v + t * s := by omega
    have hz1 : u * v + t * s ≤ 1000000000000000000000000 := by omega
    generalize u * v + t * s = z at *
    simpa! only [true_and]
    exact hf _ (Int.emod_nonneg _ (by omega)) (Int.emod_lt_of_pos _ hm)
theorem pool_wp {ns : List Int} {k : Int} (h0 : 0 ≤ k) (h1 : k ≤ 1000) {Q : Val → List Slot → Prop} (q : ∀ d, Po 900000000 d → Q (.ow d) [.im (.lst (ns.map D.int)), .im (.int k)]) : wpF X F_law_pool [.im (.lst (ns.map D.int)), .im (.int k)] Q := by
  have l1 := lg_lt (i := (73 : Int)) (by omega) (by omega)
  have l2 := lg_lt (i := k) (by omega) (by omega)
  have l3 : Int.natAbs 10 < 18446744073709551616 := by decide
  unfold F_law_pool B_law_pool
  simpa! only [fPow, List.length_map]
  split
  · rename_i hk
    have hk2 : k.toNat < ns.length := by omega
    have e : fIx (.lst (ns.map D.int)) (.int k) = some (.im (.int ns[k.toNat])) := ixL h0 (by simp [hk2])
    simpa! only [e, fPow]
    refine ⟨l3, ?_⟩
    split
    · exact ⟨l3, q _ ⟨_, _, _, rfl, by omega, by omega⟩⟩
    · exact q _ ⟨_, _, _, rfl, by omega, by omega⟩
  · exact ⟨l3, q _ ⟨_, _, _, rfl, by omega, by omega⟩⟩
theorem ix3 {i : Int} (h0 : 0 ≤ i) (h1 : i < 3) (x y z : D) : ∃ d, (d = x ∨ d = y ∨ d = z) ∧ fIx (.lst [x, y, z]) (.int i) = some (.im d) := by
  have : i = 0 ∨ i = 1 ∨ i = 2 := by omega
  rcases this with rfl | rfl | rfl
  · exact ⟨x, .inl rfl, rfl⟩
  · exact ⟨y, .inr (.inl rfl), rfl⟩
  · exact ⟨z, .inr (.inr rfl), rfl⟩
theorem ix4 {i : Int} (h0 : 0 ≤ i) (h1 : i < 4) (x y z u : D) : ∃ d, (d = x ∨ d = y ∨ d = z ∨ d = u) ∧ fIx (.lst [x, y, z, u]) (.int i) = some (.im d) := by
  have : i = 0 ∨ i = 1 ∨ i = 2 ∨ i = 3 := by omega
  rcases this with rfl | rfl | rfl | rfl
  · exact ⟨x, .inl rfl, rfl⟩
  · exact ⟨y, .inr (.inl rfl), rfl⟩
  · exact ⟨z, .inr (.inr (.inl rfl)), rfl⟩
  · exact ⟨u, .inr (.inr (.inr rfl)), rfl⟩
theorem right_row_wp {n : Nat} {k most : Int} {d : D} (hd : Po (n + 500) d) (hk : 1 ≤ k) (hk4 : k ≤ 4) (h0 : 0 ≤ most) (h1 : most ≤ 40) {Q : Val → List Slot → Prop}
    (q : ∀ row d', RR row → rowOk k.toNat row → (row.length : Int) ≤ most → Po n d' → Q (.im (.str row)) [.io d', .im (.int k), .im (.int most)]) : wpF X F_law_right_row [.io d, .im (.int k), .im (.int most)] Q := by
  unfold F_law_right_row B_law_right_row
  simpa! only [true_and]
  refine take_wp (n := n + 499) hd (by omega) (by omega) fun r1 d1 a1 b1 p1 => ?_
  simpa! only [true_and]
  refine take_wp (n := n + 498) p1 (by omega) (by omega) fun r2 d2 a2 b2 p2 => ?_
  simpa! only [true_and]
  refine take_wp (n := n + 497) p2 (by omega) (by omega) fun r3 d3 a3 b3 p3 => ?_
  obtain ⟨x, hx, e⟩ := ix3 a3 b3 (.int r1) (.int r2) (.int (most / 2))
  have hx : ∃ left : Int, x = .int left ∧ 0 ≤ left ∧ left ≤ most / 2 := by
    rcases hx with rfl | rfl | rfl
    · exact ⟨r1, rfl, a1, by omega⟩
    · exact ⟨r2, rfl, a2, by omega⟩
    · exact ⟨_, rfl, by omega, by omega⟩
  obtain ⟨left, rfl, c0, c1⟩ := hx
  simpa! only [e]
  refine take_wp (n := n + 496) p3 (by omega) (by omega) fun way d4 a4 b4 p4 => ?_
  simpa! only [true_and]
  refine wp_whileT (fun m e => ∃ left row wait dp, e = [.io dp, .im (.int k), .im (.int most), .im (.int left), .im (.int way), .im (.str row), .im (.str wait), .no, .no] ∧ 0 ≤ left ∧ m = 2 * left.toNat + wait.length ∧
    run [] row = some wait ∧ (∀ c ∈ wait, ∃ i, i < k.toNat ∧ c = clc i) ∧ rowOk k.toNat row ∧ (row.length : Int) + m ≤ most ∧ Po (n + 5 * m) dp) ?_ FUEL (2 * left.toNat) _ (by unfold FUEL; omega) ⟨left, [], [], d4, rfl, c0, rfl, rfl, by simp, by intro c hc; simp at hc, by simp; omega, p4.le (by omega)⟩
  rintro m e ⟨left, row, wait, dp, rfl, c0, hm, hr, hw, hkd, hl, hp⟩
  refine ⟨decide (0 < left) || !decide (wait = []), ?_, fun ht K hK => ?_, fun ht => ?_⟩
  · simpa! only [true_and]
    by_cases h : 0 < left <;> simp [h]
  · obtain ⟨m', rfl⟩ : ∃ m', m = m' + 1 := by
      cases m with
      | zero =>
        have h1 : left = 0 := by omega
        have h2 : wait = [] := by
          cases wait with
          | nil => rfl
          | cons _ _ => rw [List.length_cons] at hm; omega
        rw [h1, h2] at ht
        simp at ht
      | succ m => exact ⟨m, rfl⟩
    simpa! only [true_and]
    refine take_wp (n := n + 5 * m' + 4) (hp.le (by omega)) (by omega) (by omega) fun r1 d1 a1 b1 p1 => ?_
    simpa! only [true_and]
    refine take_wp (n := n + 5 * m' + 3) p1 (by omega) (by omega) fun r2 d2 a2 b2 p2 => ?_
    simpa! only [true_and]
    refine take_wp (n := n + 5 * m' + 2) p2 (by omega) (by omega) fun r3 d3 a3 b3 p3 => ?_
    obtain ⟨x, hx, e⟩ := ix4 a4 b4 (.bl (decide (0 < r1))) (.bl (decide (r2 = 0))) (.bl (decide (0 < r3))) (.bl (decide (0 < left)))
    obtain ⟨more, rfl⟩ : ∃ b, x = .bl b := by rcases hx with rfl | rfl | rfl | rfl <;> exact ⟨_, rfl⟩
    simpa! only [e, -wpS_ifK]
    refine wpS_ifP (decide (0 < left) && (decide (wait = []) || more)) ?_ (fun h => ?_) fun h => ?_
    · simpa! only [true_and]
      by_cases h : 0 < left <;> by_cases h' : wait = [] <;> simp [h, h']
    · have hleft : 0 < left := by
        rw [Bool.and_eq_true] at h
        exact of_decide_eq_true h.1
      simpa! only [true_and]
      refine take_wp (n := n + 5 * m' + 1) p3 (by omega) (by omega) fun kind d5 a5 b5 p5 => ?_
      have hk3 : kind.toNat < 4 := by omega
      have hkk : kind.toNat < k.toNat := by omega
      have e1 : fIx (.str [40, 91, 123, 60]) (.int kind) = some (.im (.str [opc kind.toNat])) := by
        have : kind = 0 ∨ kind = 1 ∨ kind = 2 ∨ kind = 3 := by omega
        rcases this with h | h | h | h <;> (rw [h]; rfl)
      have e2 : fIx (.str [41, 93, 125, 62]) (.int kind) = some (.im (.str [clc kind.toNat])) := by
        have : kind = 0 ∨ kind = 1 ∨ kind = 2 ∨ kind = 3 := by omega
        rcases this with h | h | h | h <;> (rw [h]; rfl)
      simpa! only [e1, e2]
      refine hK m' _ (by omega) ⟨_, _, _, _, rfl, by omega, ?_, ?_, ?_, ?_, ?_, p5.le (by omega)⟩
      · simp only [List.length_cons]; omega
      · rw [run_app, hr, Option.bind_some, run_op (opc_op hk3), oth_opc hk3] <;> rfl
      · intro c hc
        rw [List.mem_cons] at hc
        rcases hc with rfl | hc
        · exact ⟨_, hkk, rfl⟩
        · exact hw c hc
      · intro c hc
        rw [List.mem_append, List.mem_singleton] at hc
        rcases hc with hc | rfl
        · exact hkd c hc
        · exact (opc_sgs hkk (by omega)).1
      · simp only [List.length_append, List.length_cons, List.length_nil]; omega
    · cases wait with
      | nil => simp at h ht; omega
      | cons c wait =>
        obtain ⟨i, hi, rfl⟩ := hw c (by simp)
        simp only [List.length_cons] at hm
        have e1 : fIx (.str (clc i :: wait)) (.int 0) = some (.im (.str [clc i])) := ixS (by contradiction) (by omega) rfl
        have e2 : fSl (.str (clc i :: wait)) (some 1) none = some (.im (.str wait)) := by rw [slS_from (by contradiction) (by omega)] <;> rfl
        simpa! only [e1, e2]
        have hcl : isOp (clc i) = false := i_cases (i := i) (by omega) (P := fun i => isOp (clc i) = false) rfl rfl rfl rfl
        refine hK m' _ (by omega) ⟨left, row ++ [clc i], wait, d3, rfl, c0, by omega, ?_, fun c hc => hw c (by simp [hc]), ?_, ?_, p3.le (by omega)⟩
        · rw [run_app, hr, Option.bind_some, run_cl hcl] <;> rfl
        · intro c hc
          rw [List.mem_append, List.mem_singleton] at hc
          rcases hc with hc | rfl
          · exact hkd c hc
          · exact (opc_sgs hi (by omega)).2
        · simp only [List.length_append, List.length_cons, List.length_nil]; omega
  · have h1 : ¬ 0 < left := by
      intro h
      simp [h] at ht
    have h2 : wait = [] := by
      by_cases h : wait = []
      · exact h
      · simp [h] at ht
    subst h2
    simpa! only [true_and]
    exact q row dp ((rr_iff row).mpr hr) hkd (by omega) (hp.le (by omega))
theorem is_whole_int {i : Int} {Q : Val → List Slot → Prop} : wpF X F_is_whole [.im (.int i)] Q = Q (.im (.bl true)) [.im (.int i)] := wpF_eq rfl
theorem kI_cases {k : Int} (hk : 1 ≤ k) (hk4 : k ≤ 4) {P : Int → Prop} (h1 : P 1) (h2 : P 2) (h3 : P 3) (h4 : P 4) : P k := by
  have : k = 1 ∨ k = 2 ∨ k = 3 ∨ k = 4 := by omega
  rcases this with rfl | rfl | rfl | rfl <;> assumption
theorem need_kinds_ok {k : Int} (hk : 1 ≤ k) (hk4 : k ≤ 4) {Q : Val → List Slot → Prop} : wpF X F_need_kinds [.im (.int k)] Q = Q (.im .non) [.im (.int k)] :=
  kI_cases hk hk4 (P := fun k => wpF X F_need_kinds [.im (.int k)] Q = Q (.im .non) [.im (.int k)]) (wpF_eq rfl) (wpF_eq rfl) (wpF_eq rfl) (wpF_eq rfl)
theorem brackets_of_eq {k : Int} (hk : 1 ≤ k) (hk4 : k ≤ 4) {Q : Val → List Slot → Prop} : wpF X F_brackets_of [.im (.int k)] Q = Q (.im (.str (brs k.toNat))) [.im (.int k)] :=
  kI_cases hk hk4 (P := fun k => wpF X F_brackets_of [.im (.int k)] Q = Q (.im (.str (brs k.toNat))) [.im (.int k)]) (wpF_eq rfl) (wpF_eq rfl) (wpF_eq rfl) (wpF_eq rfl)
theorem brs_len (k : Nat) : (brs k).length ≤ 8 := by unfold brs; rw [List.length_take]; exact Nat.min_le_right _ _
noncomputable def rowB (k : Int) (row : List Nat) : Bool := decide (row.length ≤ 40) && row.all fun c => decide (c ∈ sgs k.toNat)
theorem rowB_ok {k : Int} {row : List Nat} (hl : row.length ≤ 40) (h : rowOk k.toNat row) : rowB k row = true := by
  unfold rowB
  rw [decide_eq_true hl, Bool.true_and, List.all_eq_true]
  exact fun c hc => decide_eq_true (h c hc)
theorem filter_empty (p : Nat → Bool) (l : List Nat) : ((l.filter fun c => !p c).map fun c => D.str [c]).isEmpty = l.all p := by
  induction l with
  | nil => rfl
  | cons c l ih =>
    rw [List.filter_cons, List.all_cons]
    cases h : p c
    · rfl
    · rw [Bool.true_and, ← ih]; rfl
theorem is_row_by_eq {k : Int} {row : List Nat} (hk : 1 ≤ k) (hk4 : k ≤ 4) (hl : row.length ≤ 100000) (hc : ∀ c ∈ row, c < 1114112) {Q : Val → List Slot → Prop} : wpF X F_is_row_by [.im (.int k), .im (.str row)] Q = Q (.im (.bl (rowB k row))) [.im (.int k), .im (.str row)] := by
  have hb := brs_len k.toNat
  have key : wpF XF F_is_row_by [.im (.int k), .im (.str row)] fun w l => w = .im (.bl (rowB k row)) ∧ l = [.im (.int k), .im (.str row)] := by
    unfold F_is_row_by B_is_row_by
    simpa! only [true_and]
    by_cases h : (40 : Int) < row.length
    · rw [if_pos h]
      have : ¬ row.length ≤ 40 := by omega
      unfold rowB
      rw [decide_eq_false this]
      rfl
    · rw [if_neg h]
      refine wp_lcM (fun c => if (!decide (c ∈ sgs k.toNat)) = true then [D.str [c]] else []) (fun c hcm => ?_) ?_
      · simpa! only [brackets_of_eq hk hk4, sgs, brs]
        by_cases h : c ∈ List.take (2 * k.toNat) BR ++ [63] <;> simp [h]
      · rw [filter_flat]
        have e : (decide (row.length ≤ 40)) = true := decide_eq_true (by omega)
        simpa! only [eqL_nil (okC (l := row.filter fun c => !decide (c ∈ sgs k.toNat)) fun c h => hc c (List.mem_filter.mp h).1), filter_empty fun c => decide (c ∈ sgs k.toNat), rowB, e]
  obtain ⟨w, l, e, rfl, rfl⟩ := wpF_ex key
  exact wpF_eq e
theorem need_line_ok {k : Int} {row : List Nat} (hk : 1 ≤ k) (hk4 : k ≤ 4) (hl : row.length ≤ 40) (ho : rowOk k.toNat row) {Q : Val → List Slot → Prop} : wpF X F_need_line [.im (.int k), .im (.str row)] Q = Q (.im .non) [.im (.int k), .im (.str row)] := by
  unfold F_need_line B_need_line
  simpa! only [need_kinds_ok, is_row_by_eq hk hk4 (show row.length ≤ 100000 by omega) fun c hc => sgs_code (ho c hc), rowB_ok hl ho]
theorem is_opening_eq {c : Nat} (h : c ∈ BR) {Q : Val → List Slot → Prop} : wpF X F_is_opening [.im (.str [c])] Q = Q (.im (.bl (isOp c))) [.im (.str [c])] :=
  br_cases h (P := fun c => wpF X F_is_opening [.im (.str [c])] Q = Q (.im (.bl (isOp c))) [.im (.str [c])]) (wpF_eq rfl) (wpF_eq rfl) (wpF_eq rfl) (wpF_eq rfl) (wpF_eq rfl) (wpF_eq rfl) (wpF_eq rfl) (wpF_eq rfl)
theorem other_of_eq {c : Nat} (h : c ∈ BR) {Q : Val → List Slot → Prop} : wpF X F_other_of [.im (.str [c])] Q = Q (.im (.str [oth c])) [.im (.str [c])] :=
  br_cases h (P := fun c => wpF X F_other_of [.im (.str [c])] Q = Q (.im (.str [oth c])) [.im (.str [c])]) (wpF_eq rfl) (wpF_eq rfl) (wpF_eq rfl) (wpF_eq rfl) (wpF_eq rfl) (wpF_eq rfl) (wpF_eq rfl) (wpF_eq rfl)
theorem li_rev (q : Nat) (st : List Nat) : li (q :: st).reverse = li st.reverse ++ [.int (q : Int)] := by simp [li]
theorem li_len (l : List Nat) : (li l).length = l.length := by simp [li]
theorem getD_some {l : List Nat} {i c : Nat} (h : l[i]? = some c) (e : Nat) : l.getD i e = c := by rw [List.getD_eq_getElem?_getD, h]; rfl
noncomputable def parD : Option (List Nat × List Nat) → Val
  | some (f, []) => .ow (.lst (li f))
  | _ => .im .non
theorem partners_of_eq {row : List Nat} (hl : row.length ≤ 100000) (hb : ∀ c ∈ row, c ∈ BR ∨ c = 63) {Q : Val → List Slot → Prop} : wpF X F_partners_of [.im (.str row)] Q = Q (parD (pfold row)) [.im (.str row)] := by
  have key : wpF XF F_partners_of [.im (.str row)] fun w l => w = parD (pfold row) ∧ l = [.im (.str row)] := by
    unfold F_partners_of B_partners_of
    simpa! only [repL]
    refine wp_for (fun i e => ∃ f st, e = [.im (.str row), .ow (.lst (li f)), .ow (.lst (li st.reverse)), .no, .no] ∧ f.length = row.length ∧ (∀ q ∈ st, q < i) ∧
      (List.range i).foldl (pst row) (some (List.replicate row.length 0, [])) = some (f, st)) ⟨List.replicate row.length 0, [], by simp [li], by simp, by simp, rfl⟩ ?_ ?_
    · rintro e ⟨f, st, rfl, h1, h2, h3⟩
      rw [enumL_len, List.length_map] at h3
      have e : pfold row = some (f, st) := h3
      simpa! only [neL_nil (okLi st.reverse)]
      cases st with
      | nil => simpa! only [e, List.reverse_nil, parD, li]
      | cons q st => rw [li_rev, show (li st.reverse ++ [D.int (q : Int)]).isEmpty = false by cases li st.reverse <;> rfl]; simpa! only [e, parD]
    · rintro i d e hd ⟨f, st, rfl, h1, h2, h3⟩ K hK
      obtain ⟨x, hx, rfl⟩ := enumL_get _ _ _ _ hd
      rw [List.getElem?_map] at hx
      obtain ⟨c, hc, rfl⟩ := Option.map_eq_some_iff.mp hx
      have hil := (List.getElem?_eq_some_iff.mp hc).1
      have hg := getD_some hc 63
      have nx : ∀ y, pst row (some (f, st)) i = y → (List.range (i + 1)).foldl (pst row) (some (List.replicate row.length 0, [])) = y := fun y h => by
        rw [List.range_succ, List.foldl_append, h3]; exact h
      have bad : pst row (some (f, st)) i = none → pfold row = none := fun h => by
        have h := nx _ h
        unfold pfold
        rw [List.range_eq_range', show row.length = (i + 1) + (row.length - (i + 1)) by omega, ← List.range'_append_1, List.foldl_append, ← List.range_eq_range']
        rw [show i + 1 + (row.length - (i + 1)) = row.length by omega, h]
        generalize List.range' (0 + (i + 1)) (row.length - (i + 1)) = l
        induction l with
        | nil => rfl
        | cons _ _ ih => exact ih
      simp only [pst, hg] at nx bad
      rcases hb c (List.mem_of_getElem? hc) with hbr | h63
      · have n63 : c ≠ 63 := fun h => absurd (h ▸ hbr) (by decide)
        have n63' : ([c] = [63]) = False := by simp [n63]
        rw [if_neg n63] at nx bad
        by_cases ho : isOp c = true
        · rw [if_pos ho] at nx
          have hlt : st.length ≤ i := by
            have := pst_len h3
            exact this
          simpa! only [n63', is_opening_eq hbr, ho, appL (show (li st.reverse).length < LINE by have := LINE_big; rw [li_len, List.length_reverse]; omega) (.int (i : Int))]
          exact hK _ ⟨f, i :: st, by rw [li_rev], h1, fun q hq => (List.mem_cons.mp hq).elim (fun e => by omega) (fun h => by have := h2 q h; omega), nx _ rfl⟩
        · rw [if_neg ho] at nx bad
          have ho : isOp c = false := by simpa using ho
          cases st with
          | nil =>
            have e0 : fEq (.lst []) (.lst []) = some (.im (.bl true)) := rfl
            simpa! only [n63', is_opening_eq hbr, ho, List.reverse_nil, e0, bad rfl, parD]
          | cons q st =>
            have hq := h2 q (by simp)
            have hqr : row[q]? = some row[q] := by simp [show q < row.length by omega]
            have e0 : fEq (.lst (li (q :: st).reverse)) (.lst []) = some (.im (.bl false)) := by
              rw [eqL_nil (okLi _), li_rev]; congr 3; cases li st.reverse <;> rfl
            have e1 : fIx (.lst (li (q :: st).reverse)) (.int (-1)) = some (.im (.int (q : Int))) := by rw [li_rev, ixL_last]
            have e2 : fIx (.str row) (.int (q : Int)) = some (.im (.str [row[q]])) := ixS (by contradiction) (by omega) (by rw [Int.toNat_natCast]; exact hqr)
            have e3 : mPop (.lst (li (q :: st).reverse)) [] = some (.int (q : Int), .lst (li st.reverse)) := by rw [li_rev, popL]
            simp only [getD_some hqr] at nx bad
            by_cases hqo : row[q] = oth c
            · rw [if_pos hqo] at nx
              have e4 : setL (.lst (li f)) (i : Int) (.int (q : Int)) = some (.lst (li (f.set i q))) := by
                rw [setLn (by omega) (by rw [li_len]; omega), Int.toNat_natCast]; simp [li, List.map_set]
              have e5 : fIx (.lst (li (f.set i q))) (.int (i : Int)) = some (.im (.int (q : Int))) := ixL (by omega) (by rw [Int.toNat_natCast, List.getElem?_map, List.getElem?_set_self (by omega)]; rfl)
              have e6 : setL (.lst (li (f.set i q))) (q : Int) (.int (i : Int)) = some (.lst (li ((f.set i q).set q i))) := by
                rw [setLn (by omega) (by rw [li_len, List.length_set]; omega), Int.toNat_natCast]; simp [li, List.map_set]
              simpa! only [n63', is_opening_eq hbr, ho, e0, e1, e2, other_of_eq hbr, hqo, e3, e4, e5, e6]
              exact hK _ ⟨_, st, rfl, by simp [h1], fun r hr => by have := h2 r (by simp [hr]); omega, nx _ rfl⟩
            · rw [if_neg hqo] at bad
              have hqo' : ([row[q]] = [oth c]) = False := by simp [hqo]
              simpa! only [n63', is_opening_eq hbr, ho, e0, e1, e2, other_of_eq hbr, hqo', bad rfl, parD]
      · rw [if_pos h63] at bad
        subst h63
        simpa! only [bad rfl, parD]
  obtain ⟨w, l, e, rfl, rfl⟩ := wpF_ex key
  exact wpF_eq e
theorem need_partners_eq {k : Int} {row f : List Nat} (hk : 1 ≤ k) (hk4 : k ≤ 4) (hl : row.length ≤ 40) (ho : rowOk k.toNat row) (hf : Par row f) {Q : Val → List Slot → Prop} : wpF X F_need_partners [.im (.int k), .im (.str row)] Q = Q (.ow (.lst (li f))) [.im (.int k), .im (.str row)] := by
  unfold F_need_partners B_need_partners
  simpa! only [need_line_ok hk hk4 hl ho, partners_of_eq (show row.length ≤ 100000 by omega) ho.br, par_fold hf, parD, fIs, D.isNon]
noncomputable def rtK (k : Int) : RT → Prop
  | .nil => True
  | .cons _ kd w r => 0 ≤ kd ∧ kd < k ∧ rtK k w ∧ rtK k r
noncomputable def rtN (t : RT) : Nat := t.labs.length
theorem rtK_app {k kd : Int} {n : Nat} (h0 : 0 ≤ kd) (h1 : kd < k) : ∀ {t : RT}, rtK k t → rtK k (t.app n kd)
  | .nil, _ => ⟨h0, h1, trivial, trivial⟩
  | .cons _ _ _ _, ⟨a, b, c, d⟩ => ⟨a, b, c, rtK_app h0 h1 d⟩
theorem rtK_ins {k kd : Int} {a n : Nat} (h0 : 0 ≤ kd) (h1 : kd < k) : ∀ {t : RT}, rtK k t → rtK k (t.ins a n kd)
  | .nil, _ => trivial
  | .cons l _ w r, ⟨x, y, c, d⟩ => by
    have hw := rtK_ins (a := a) (n := n) h0 h1 c
    have hr := rtK_ins (a := a) (n := n) h0 h1 d
    rw [RT.ins]
    split
    · exact ⟨x, y, rtK_app h0 h1 hw, hr⟩
    · exact ⟨x, y, hw, hr⟩
theorem rtK_insR {k kd : Int} {a n : Nat} (h0 : 0 ≤ kd) (h1 : kd < k) {t : RT} (h : rtK k t) : rtK k (t.insR a n kd) := by
  unfold RT.insR
  split
  · exact rtK_app h0 h1 h
  · exact rtK_ins h0 h1 h
theorem labs_app_count {n x : Nat} {kd : Int} : ∀ t : RT, (t.app n kd).labs.count x = t.labs.count x + if x = n then 1 else 0
  | .nil => by
    simp only [RT.app, RT.labs, List.append_nil, List.count_singleton, List.count_nil, Nat.zero_add]
    by_cases h : x = n
    · subst h; simp
    · rw [if_neg (by simpa using fun z => h z.symm), if_neg h]
  | .cons l k w r => by
    rw [RT.app]
    simp only [RT.labs, List.count_cons, List.count_append, labs_app_count r]
    omega
theorem labs_ins_count {a n x : Nat} {kd : Int} : ∀ t : RT, (t.ins a n kd).labs.count x = t.labs.count x + if x = n then t.labs.count a else 0
  | .nil => by simp [RT.ins, RT.labs]
  | .cons l k w r => by
    have h1 := labs_ins_count (a := a) (n := n) (x := x) (kd := kd) w
    have h2 := labs_ins_count (a := a) (n := n) (x := x) (kd := kd) r
    rw [RT.ins]
    by_cases e : l = a
    · subst e
      rw [if_pos rfl]
      simp only [RT.labs, List.count_cons, List.count_append, labs_app_count, h1, h2, beq_self_eq_true, if_true]
      split <;> split <;> omega
    · rw [if_neg e]
      have e' : (l == a) = false := by simpa using e
      simp only [RT.labs, List.count_cons, List.count_append, h1, h2, e', Bool.false_eq_true, if_false]
      split <;> split <;> omega
theorem labs_app_len {n : Nat} {kd : Int} : ∀ t : RT, rtN (t.app n kd) = rtN t + 1
  | .nil => rfl
  | .cons l k w r => by
    have := labs_app_len (n := n) (kd := kd) r
    unfold rtN at *
    rw [RT.app]
    simp only [RT.labs, List.length_cons, List.length_append]
    omega
theorem labs_ins_len {a n : Nat} {kd : Int} : ∀ t : RT, rtN (t.ins a n kd) = rtN t + t.labs.count a
  | .nil => rfl
  | .cons l k w r => by
    have h1 := labs_ins_len (a := a) (n := n) (kd := kd) w
    have h2 := labs_ins_len (a := a) (n := n) (kd := kd) r
    have h3 := labs_app_len (n := n) (kd := kd) (w.ins a n kd)
    unfold rtN at *
    rw [RT.ins]
    by_cases e : l = a
    · subst e
      rw [if_pos rfl]
      simp only [RT.labs, List.length_cons, List.length_append, List.count_cons, List.count_append, beq_self_eq_true, if_true]
      omega
    · rw [if_neg e]
      have e' : (l == a) = false := by simpa using e
      simp only [RT.labs, List.length_cons, List.length_append, List.count_cons, List.count_append, e', Bool.false_eq_true, if_false]
      omega
structure Mk (m : Nat) (t : RT) : Prop where
  one : ∀ x, t.labs.count x ≤ 1
  le : ∀ x ∈ t.labs, x ≤ m
theorem Mk.step {m a : Nat} {kd : Int} {t : RT} (h : Mk m t) : Mk (m + 1) (t.insR a (m + 1) kd) ∧ rtN (t.insR a (m + 1) kd) ≤ rtN t + 1 := by
  have hz : t.labs.count (m + 1) = 0 := List.count_eq_zero_of_not_mem fun z => by have := h.le _ z; omega
  have ha := h.one a
  unfold RT.insR
  split
  · refine ⟨⟨fun x => ?_, fun x hx => ?_⟩, by rw [labs_app_len]; omega⟩
    · rw [labs_app_count]
      split
      · rename_i e; rw [e, hz]; omega
      · exact h.one x
    · rw [RT.labs_app] at hx
      rcases hx with hx | hx
      · have := h.le x hx; omega
      · omega
  · refine ⟨⟨fun x => ?_, fun x hx => ?_⟩, by rw [labs_ins_len]; omega⟩
    · rw [labs_ins_count]
      split
      · rename_i e; rw [e, hz]; omega
      · exact h.one x
    · rw [RT.labs_ins] at hx
      rcases hx with hx | hx
      · have := h.le x hx; omega
      · omega
theorem D_len : ∀ t : RT, t.D.length ≤ rtN t
  | .nil => Nat.le_refl _
  | .cons l k w r => by
    have := D_len r
    unfold rtN at *
    simp only [RT.D, RT.labs, List.length_cons, List.length_append]
    omega
theorem sub_len {i : Nat} : ∀ {t w : RT}, t.sub i = some w → rtN w ≤ rtN t
  | .nil, _, h => by cases h
  | .cons l k w r, x, h => by
    rw [RT.sub] at h
    have e : rtN (.cons l k w r) = 1 + rtN w + rtN r := by unfold rtN; simp only [RT.labs, List.length_cons, List.length_append]; omega
    split at h
    · cases h; omega
    · split at h
      · rename_i y hy
        cases h
        have := sub_len hy; omega
      · have := sub_len h; omega
theorem subR_len {i : Nat} (t : RT) : (t.subR i).D.length ≤ rtN t := by
  unfold RT.subR
  split
  · exact D_len t
  · cases h : t.sub i with
    | none => exact Nat.zero_le _
    | some w => exact Nat.le_trans (D_len w) (sub_len h)
theorem subsD_len (t : RT) (m : Nat) : (subsD t m).length = m + 1 := by unfold subsD; rw [List.length_map, List.length_range]
theorem tree_wp {n : Nat} {k most : Int} {d : D} (hd : Po (n + 200) d) (hk : 1 ≤ k) (hk4 : k ≤ 4) (hm : 0 ≤ most) (hm20 : most ≤ 20) {Q : Val → List Slot → Prop}
    (q : ∀ t d', rtK k t → (rtN t : Int) ≤ most → Po n d' → Q (.im (.lst t.D)) [.io d', .im (.int k), .im (.int most)]) : wpF XF F_law_tree [.io d, .im (.int k), .im (.int most)] Q := by
  have hLINE := LINE_big
  unfold F_law_tree B_law_tree
  simpa! only [true_and]
  refine take_wp (n := n + 199) (hd.le (by omega)) (by omega) (by omega) fun l0 d1 a1 b1 p1 => ?_
  simpa! only [true_and]
  refine take_wp (n := n + 198) (p1.le (by omega)) (by omega) (by omega) fun l1 d2 a2 b2 p2 => ?_
  simpa! only [true_and]
  refine take_wp (n := n + 197) (p2.le (by omega)) (by omega) (by omega) fun li d3 a3 b3 p3 => ?_
  obtain ⟨left, hl, hl0, hl1⟩ : ∃ left, fIx (.lst [.int l0, .int l1, .int most]) (.int li) = some (.im (.int left)) ∧ 0 ≤ left ∧ left ≤ most := by
    have h : li = 0 ∨ li = 1 ∨ li = 2 := by omega
    rcases h with rfl | rfl | rfl
    · exact ⟨l0, rfl, by omega, by omega⟩
    · exact ⟨l1, rfl, by omega, by omega⟩
    · exact ⟨most, rfl, hm, by omega⟩
  simpa! only [hl]
  refine take_wp (n := n + 196) (p3.le (by omega)) (by omega) (by omega) fun way d4 a4 b4 p4 => ?_
  simpa! only [true_and]
  have pl : ∀ {n : Nat} {d : D} {r : Env}, Po n d → plainE r = true → plainE (.io d :: r) = true := fun hp hr => by
    obtain ⟨a, b, c, rfl, _, _⟩ := hp
    exact hr
  refine wp_forest (rng 0 1 left.toNat) [.io d4, .im (.int k), .im (.int most), .im (.int left), .im (.int way), .no, .no, .no, .no, .no]
    (fun i t e => ∃ dp s7 s8, e = [.io dp, .im (.int k), .im (.int most), .im (.int left), .im (.int way), .no, .no, s7, s8, .no] ∧ (s7 = .no ∨ ∃ j : Int, s7 = .im (.int j)) ∧ (s8 = .no ∨ ∃ j : Int, s8 = .im (.int j)) ∧ Po (n + 196 - 4 * i) dp ∧ Mk i t ∧ rtN t ≤ i ∧ rtK k t)
    ⟨by simp, by simp, by simp, by simp⟩ ?_ ⟨_, _, _, rfl, .inl rfl, .inl rfl, p4, ⟨fun x => by simp [RT.labs], fun x hx => by simp [RT.labs] at hx⟩, Nat.le_refl _, trivial⟩ ?_ ?_
  · simpa! only [true_and]
  · rintro i t dd e hdd ⟨dp, s7, s8, rfl, h7, h8, pp, mk, hN, hK⟩
    obtain ⟨hi, rfl⟩ := rng_get hdd
    have hsl := subsD_len t i
    have hsub : ∀ a, (t.subR a).D.length < LINE := fun a => Nat.lt_of_le_of_lt (subR_len t) (by omega)
    have stp : ∀ a kd, 0 ≤ kd → kd < k → Mk (i + 1) (t.insR a (i + 1) kd) ∧ rtN (t.insR a (i + 1) kd) ≤ i + 1 ∧ rtK k (t.insR a (i + 1) kd) := fun a kd h0 h1 => ⟨mk.step.1, Nat.le_trans mk.step.2 (by omega), rtK_insR h0 h1 hK⟩
    have fl : fLen (.lst (subsD t i)) = some (.im (.int ((i + 1 : Nat) : Int))) := by rw [← hsl]; rfl
    have e8 : tgName 7 (.int (0 + (i : Int) * 1)) [.io dp, .im (.int k), .im (.int most), .im (.int left), .im (.int way), .no, .no, s7, s8, .no] = some [.io dp, .im (.int k), .im (.int most), .im (.int left), .im (.int way), .no, .no, .im (.int (0 + (i : Int) * 1)), s8, .no] := by
      rcases h7 with rfl | ⟨j, rfl⟩ <;> rfl
    rw [e8, need_some]
    refine ⟨?_, ?_⟩
    · rcases h8 with rfl | ⟨j, rfl⟩ <;> exact pl pp rfl
    · unfold foQ
      generalize subsD t i = S at *
      clear e8
      rcases h8 with rfl | ⟨j, rfl⟩
      all_goals
        simpa! only [fl]
        refine take_wp (n := n + 196 - 4 * i - 1) (pp.le (by omega)) (by omega) (by omega) fun r1 d5 a5 b5 p5 => ?_
        simpa! only [fl]
        refine take_wp (n := n + 196 - 4 * i - 2) (p5.le (by omega)) (by omega) (by omega) fun r2 d6 a6 b6 p6 => ?_
        obtain ⟨a, hix, ha⟩ : ∃ a : Nat, fIx (.lst [.int 0, .int (((i + 1 : Nat) : Int) - 1), .int r1, .int r2]) (.int way) = some (.im (.int (a : Int))) ∧ a ≤ i := by
          have h : way = 0 ∨ way = 1 ∨ way = 2 ∨ way = 3 := by omega
          rcases h with rfl | rfl | rfl | rfl
          · exact ⟨0, rfl, by omega⟩
          · exact ⟨i, by rw [show (((i + 1 : Nat) : Int) - 1) = (i : Int) by omega]; rfl, by omega⟩
          · exact ⟨r1.toNat, by rw [Int.toNat_of_nonneg a5]; rfl, by omega⟩
          · exact ⟨r2.toNat, by rw [Int.toNat_of_nonneg a6]; rfl, by omega⟩
        simpa! only [hix]
        refine ⟨a, rfl, ha, pl p6 rfl, hsub a, ?_⟩
        refine take_wp (n := n + 196 - 4 * (i + 1)) (p6.le (by omega)) (by omega) (by omega) fun kd d7 a7 b7 p7 => ?_
        simpa! only [true_and]
        exact ⟨kd, rfl, pl p7 rfl, _, _, _, rfl, .inr ⟨_, rfl⟩, .inr ⟨_, rfl⟩, p7, stp a kd a7 b7⟩
  · rintro t e ⟨dp, s7, s8, rfl, h7, h8, pp, mk, hN, hK⟩
    rw [rng_len] at *
    have fin : ∀ s7 s8, fnK [.io d, .im (.int k), .im (.int most)] Q (.rt (.im (.lst t.D))) [.io dp, .im (.int k), .im (.int most), .im (.int left), .im (.int way), .no, .no, s7, s8, .no] = Q (.im (.lst t.D)) [.io dp, .im (.int k), .im (.int most)] := fun s7 s8 => by
      simpa! only [true_and]
    rw [fin]
    exact q t dp hK (by omega) (pp.le (by omega))
inductive TrL (k : Int) : List D → Nat → Prop
  | nil : TrL k [] 0
  | cons {kd : Int} {ws r : List D} {s1 s2 : Nat} : 0 ≤ kd → kd < k → TrL k ws s1 → TrL k r s2 → TrL k (.tup [.int kd, .lst ws] :: r) (1 + s1 + s2)
inductive Dp : Nat → D → Prop
  | lst {n : Nat} {ds : List D} : (∀ x ∈ ds, Dp n x) → Dp (n + 1) (.lst ds)
  | tup {n : Nat} {ds : List D} : (∀ x ∈ ds, Dp n x) → Dp n (.tup ds)
  | non {n : Nat} : Dp n .non
  | bl {n : Nat} (b : Bool) : Dp n (.bl b)
  | int {n : Nat} (i : Int) : Dp n (.int i)
  | str {n : Nat} (x : List Nat) : Dp n (.str x)
  | emp {n : Nat} : Dp n (.dk [] [])
theorem Dp.mono {n m : Nat} {d : D} (h : Dp n d) : n ≤ m → Dp m d := by
  induction h generalizing m with
  | lst h ih => intro hm; obtain ⟨m', rfl⟩ : ∃ m', m = m' + 1 := ⟨m - 1, by omega⟩; exact .lst fun x hx => ih x hx (by omega)
  | tup h ih => intro hm; exact .tup fun x hx => ih x hx hm
  | non => intro _; exact .non
  | bl b => intro _; exact .bl b
  | int i => intro _; exact .int i
  | str x => intro _; exact .str x
  | emp => intro _; exact .emp
noncomputable def brK (k : Int) : D → Option D
  | .tup [.int kd, w] => if 0 ≤ kd ∧ kd < k then some w else none
  | _ => none
theorem brK_some {k : Int} {d w : D} (h : brK k d = some w) : ∃ kd, d = .tup [.int kd, w] ∧ 0 ≤ kd ∧ kd < k := by
  unfold brK at h
  split at h
  · split at h
    · rename_i hk; cases h; exact ⟨_, rfl, hk⟩
    · cases h
  · cases h
theorem TrL.br {k : Int} {x : D} {r : List D} {s : Nat} (h : TrL k (x :: r) s) : ∃ ws s1 s2, brK k x = some (.lst ws) ∧ TrL k ws s1 ∧ TrL k r s2 ∧ s = 1 + s1 + s2 := by
  cases h with
  | cons h0 h1 h2 h3 => exact ⟨_, _, _, if_pos ⟨h0, h1⟩, h2, h3, rfl⟩
theorem TrL.mk {k : Int} {x : D} {ws r : List D} {s1 s2 : Nat} (hb : brK k x = some (.lst ws)) (h1 : TrL k ws s1) (h2 : TrL k r s2) : TrL k (x :: r) (1 + s1 + s2) := by
  obtain ⟨kd, rfl, a, b⟩ := brK_some hb
  exact .cons a b h1 h2
theorem TrL.zero {k : Int} {s : Nat} (h : TrL k [] s) : s = 0 := by cases h; rfl
theorem br_cases (k : Int) (x : D) : (∃ kd w, x = .tup [.int kd, w]) ∨ (brK k x = none ∧ ∀ kd w, x ≠ .tup [.int kd, w]) := by
  by_cases h : ∃ kd w, x = .tup [.int kd, w]
  · exact .inl h
  · refine .inr ⟨?_, fun kd w z => h ⟨kd, w, z⟩⟩
    unfold brK
    split
    · exact absurd ⟨_, _, rfl⟩ h
    · rfl
theorem is_branch_eq {k : Int} {n : Nat} {x : D} (hx : Dp n x) {Q : Val → List Slot → Prop} : wpF X F_is_branch [.im (.int k), .im x] Q = Q (.im (.bl (brK k x).isSome)) [.im (.int k), .im x] := by
  have hLINE := LINE_big
  have key : wpF XF F_is_branch [.im (.int k), .im x] fun v l => v = .im (.bl (brK k x).isSome) ∧ l = [.im (.int k), .im x] := by
    rcases br_cases k x with ⟨kd, w, rfl⟩ | ⟨hb, hno⟩
    · have i1 : fIsi' "tuple" (.tup [.int kd, w]) = some (.im (.bl true)) := rfl
      have i2 : fIx (.tup [.int kd, w]) (.int 0) = some (.im (.int kd)) := rfl
      have i6 : fLen (.tup [.int kd, w]) = some (.im (.int 2)) := rfl
      have e : (brK k (.tup [.int kd, w])).isSome = (decide (0 ≤ kd) && decide (kd < k)) := by
        show (if 0 ≤ kd ∧ kd < k then some w else none).isSome = _
        by_cases h0 : 0 ≤ kd <;> by_cases h1 : kd < k <;> simp [h0, h1]
      rw [e]
      generalize D.tup [.int kd, w] = x at *
      unfold F_is_branch B_is_branch
      simpa! only [i1, i2, i6, is_whole_int]
      by_cases h0 : 0 ≤ kd <;> simp [h0]
    · rw [hb]
      have nt : fIsi' "tuple" x = some (.im (.bl false)) → wpF XF F_is_branch [.im (.int k), .im x] fun v l => v = .im (.bl (none : Option D).isSome) ∧ l = [.im (.int k), .im x] := fun i1 => by
        unfold F_is_branch B_is_branch
        simpa! only [i1]
        rfl
      cases hx with
      | lst _ => exact nt rfl
      | non => exact nt rfl
      | bl _ => exact nt rfl
      | int _ => exact nt rfl
      | str _ => exact nt rfl
      | emp => exact nt rfl
      | tup h =>
        rename_i es
        have i1 : fIsi' "tuple" (.tup es) = some (.im (.bl true)) := rfl
        have i6 : fLen (.tup es) = some (.im (.int (es.length : Nat))) := rfl
        by_cases hl : es.length = 2
        · obtain ⟨a, w, rfl⟩ : ∃ a w, es = [a, w] := by
            match es, hl with
            | [a, w], _ => exact ⟨_, _, rfl⟩
          have ha : Dp n a := h a (by simp)
          have i2 : fIx (.tup [a, w]) (.int 0) = some (.im a) := rfl
          have ni : (∀ (X : EX) (Q : Val → List Slot → Prop), wpF X F_is_whole [.im a] Q = Q (.im (.bl false)) [.im a]) → wpF XF F_is_branch [.im (.int k), .im (.tup [a, w])] fun v l => v = .im (.bl (none : Option D).isSome) ∧ l = [.im (.int k), .im (.tup [a, w])] := fun i3 => by
            generalize D.tup [a, w] = y at *
            unfold F_is_branch B_is_branch
            simpa! only [i1, i2, i3, i6]
            rfl
          cases ha with
          | lst _ => exact ni fun X Q => wpF_eq rfl
          | tup _ => exact ni fun X Q => wpF_eq rfl
          | non => exact ni fun X Q => wpF_eq rfl
          | str _ => exact ni fun X Q => wpF_eq rfl
          | emp => exact ni fun X Q => wpF_eq rfl
          | int i => exact absurd rfl (hno i w)
          | bl b => exact ni fun X Q => wpF_eq rfl
        · have e : fEq (.int (es.length : Nat)) (.int 2) = some (.im (.bl false)) := by rw [fEq_int, decide_eq_false (by omega)]
          generalize D.tup es = y at *
          unfold F_is_branch B_is_branch
          simpa! only [i1, i6, e, -fEq_int]
          rfl
  obtain ⟨v, l, e, rfl, rfl⟩ := wpF_ex key
  exact wpF_eq e
inductive StL (k : Int) : List D → Nat → Prop
  | nil : StL k [] 0
  | cons {ws W : List D} {s1 s2 : Nat} : TrL k ws s1 → StL k W s2 → StL k (.lst ws :: W) (s1 + s2)
theorem stl_app {k : Int} {B : List D} {s : Nat} : ∀ {A : List D}, StL k (A ++ B) s ↔ ∃ s1 s2, StL k A s1 ∧ StL k B s2 ∧ s = s1 + s2
  | [] => ⟨fun h => ⟨0, s, .nil, h, by omega⟩, fun ⟨s1, s2, h1, h2, e⟩ => by cases h1; rw [e, Nat.zero_add]; exact h2⟩
  | x :: A => by
    constructor
    · intro h
      cases h with
      | cons t r =>
        obtain ⟨s1, s2, h1, h2, e⟩ := stl_app.mp r
        exact ⟨_, s2, .cons t h1, h2, by omega⟩
    · rintro ⟨s1, s2, h1, h2, e⟩
      cases h1 with
      | cons t r =>
        rw [e, Nat.add_assoc]
        exact .cons t (stl_app.mpr ⟨_, _, r, h2, rfl⟩)
theorem stl_one {k : Int} {x : D} {s : Nat} : StL k [x] s ↔ ∃ ws, x = .lst ws ∧ TrL k ws s := by
  constructor
  · intro h
    cases h with
    | cons t r => cases r; exact ⟨_, rfl, t⟩
  · rintro ⟨ws, rfl, t⟩
    exact .cons t .nil
theorem TrL.len {k : Int} {ds : List D} {s : Nat} (h : TrL k ds s) : ds.length ≤ s := by
  induction h with
  | nil => exact Nat.le_refl _
  | cons _ _ _ _ _ ih => rw [List.length_cons]; omega
theorem TrL.all {k : Int} {ds : List D} {s : Nat} (h : TrL k ds s) : ∀ x ∈ ds, (brK k x).isSome = true := by
  induction h with
  | nil => intro x hx; cases hx
  | cons h0 h1 _ _ _ ih =>
    intro x hx
    rcases List.mem_cons.mp hx with rfl | hx
    · show (if _ then _ else _ : Option D).isSome = true
      rw [if_pos ⟨h0, h1⟩]; rfl
    · exact ih x hx
noncomputable def tu (p : Int × D) : D := .tup [.int p.1, p.2]
theorem trl_tu {k : Int} {s : Nat} : ∀ {ps : List (Int × D)}, (∀ p ∈ ps, 0 ≤ p.1 ∧ p.1 < k) → (TrL k (ps.map tu) s ↔ ∃ s', StL k (ps.map (·.2)) s' ∧ s = ps.length + s')
  | [], _ => ⟨fun h => ⟨0, .nil, by cases h; rfl⟩, fun ⟨s', h, e⟩ => by cases h; rw [e]; exact .nil⟩
  | (kd, w) :: ps, hp => by
    obtain ⟨h0, h1⟩ := hp (kd, w) (by simp)
    have ih := fun s => trl_tu (s := s) (ps := ps) fun p hp' => hp p (by simp [hp'])
    constructor
    · intro h
      obtain ⟨ws, s1, s2, b1, b2, b3, b4⟩ := TrL.br h
      have hw : brK k (tu (kd, w)) = some w := if_pos ⟨h0, h1⟩
      rw [hw] at b1
      cases b1
      obtain ⟨s', c1, c2⟩ := (ih s2).mp b3
      exact ⟨s1 + s', .cons b2 c1, by rw [List.length_cons]; omega⟩
    · rintro ⟨s', h, e⟩
      cases h with
      | cons t r =>
        rename_i ws s1 s2
        have := TrL.mk (r := ps.map tu) (x := tu (kd, .lst ws)) (if_pos ⟨h0, h1⟩) t ((ih (ps.length + s2)).mpr ⟨_, r, rfl⟩)
        rw [e, List.length_cons, show ps.length + 1 + (s1 + s2) = 1 + s1 + (ps.length + s2) by omega]
        exact this
theorem tu_of {k : Int} : ∀ {ds : List D}, (∀ x ∈ ds, (brK k x).isSome = true) → ∃ ps : List (Int × D), ds = ps.map tu ∧ ∀ p ∈ ps, 0 ≤ p.1 ∧ p.1 < k
  | [], _ => ⟨[], rfl, fun p h => by cases h⟩
  | x :: ds, h => by
    obtain ⟨ps, e, hp⟩ := tu_of (ds := ds) fun y hy => h y (by simp [hy])
    obtain ⟨w, hw⟩ := Option.isSome_iff_exists.mp (h x (by simp))
    obtain ⟨kd, rfl, h0, h1⟩ := brK_some hw
    refine ⟨(kd, w) :: ps, by rw [e]; rfl, fun p hp' => ?_⟩
    rcases List.mem_cons.mp hp' with rfl | hp'
    · exact ⟨h0, h1⟩
    · exact hp p hp'
theorem wp_lcI {td : TDen} {c el : Den} {vs : List Nat} {ds : List D} {env : Env} {Q : List D → Env → Prop} (f : D → List D) (hs : ∀ x, x ∈ ds → need (td x env) fun e1 => turnQ c el vs e1 fun g e2 => g = f x ∧ e2 = env) (q : Q (ds.flatMap f) env) : post XF (lcL td c el vs ds env) Q := by
  have := wp_lcM (inj := fun x : D => x) (xs := ds) f hs q
  rwa [List.map_id'] at this
theorem flat_br {k : Int} : ∀ ds : List D, (ds.flatMap fun x => if (!(brK k x).isSome) = true then [x] else []) = ds.filter fun x => !(brK k x).isSome
  | [] => rfl
  | x :: ds => by
    rw [List.flatMap_cons, flat_br ds, List.filter_cons]
    split <;> rfl
theorem ar_mu (a b : Nat) (m : Int) (h : m + (b : Int) ≤ 20) : a + b + (20 - (m + (b : Int))).toNat < a + 1 + (20 - m).toNat := by omega
noncomputable def IsTr (k : Int) (d : D) : Prop := ∃ ds s, d = .lst ds ∧ TrL k ds s ∧ s ≤ 20
theorem tree_by_wp {k : Int} {n : Nat} {d : D} (hd : Dp n d) : wpF XF F_is_tree_by [.im (.int k), .im d] fun v l => l = [.im (.int k), .im d] ∧ ∃ b, v = .im (.bl b) ∧ (b = true ↔ IsTr k d) := by
  have hLINE := LINE_big
  unfold F_is_tree_by B_is_tree_by
  simpa! only [-u_L_is_tree_by_1]
  refine wp_whileT (fun μ e => ∃ (W : List D) (m : Int), e = [.im (.int k), .im d, .ow (.lst W), .im (.int m), .no, .no, .no, .no] ∧ (∀ x ∈ W, Dp n x) ∧ 0 ≤ m ∧ m ≤ 20 ∧ μ = W.length + (20 - m).toNat ∧ μ ≤ 21 ∧ (IsTr k d ↔ ∃ s, StL k W s ∧ m + (s : Int) ≤ 20)) ?_ FUEL 21 _ (by unfold FUEL; omega) ⟨[d], 0, rfl, fun x hx => by rw [List.mem_singleton] at hx; rw [hx]; exact hd, by omega, by omega, rfl, Nat.le_refl _, ?_⟩
  · rintro μ e ⟨W, m, rfl, hW, hm0, hm, hμ, hμ2, hB⟩
    rcases List.eq_nil_or_concat W with rfl | ⟨W0, x, rfl⟩
    · refine ⟨false, ?_, (fun z => (nomatch z)), fun _ => ?_⟩
      · have e0 : fNeL (.lst []) (.lst []) = some (.im (.bl false)) := rfl
        simpa! only [e0]
      · have t : IsTr k d := hB.mpr ⟨0, .nil, by omega⟩
        simpa! only [true_and]
        exact ⟨true, rfl, by simpa using t⟩
    · rw [List.concat_eq_append] at *
      have hx : Dp n x := hW x (by simp)
      have hW0 : ∀ y ∈ W0, Dp n y := fun y hy => hW y (by simp [hy])
      have hlen : W0.length ≤ 21 := by rw [List.length_append] at hμ; omega
      have e0 : fNeL (.lst (W0 ++ [x])) (.lst []) = some (.im (.bl true)) := by
        show some (Val.im (.bl (!(W0 ++ [x]).isEmpty))) = _
        simp
      have ep : mPop (.lst (W0 ++ [x])) [] = some (x, .lst W0) := by
        show (W0 ++ [x]).getLast?.map _ = _
        simp
      have no : (¬ IsTr k d) → (false = true ↔ IsTr k d) := fun h => ⟨(fun z => (nomatch z)), fun z => (h z).elim⟩
      have hst : IsTr k d → ∃ ds s1 s2, x = .lst ds ∧ TrL k ds s1 ∧ StL k W0 s2 ∧ m + ((s2 + s1 : Nat) : Int) ≤ 20 := fun h => by
        obtain ⟨s, h1, h2⟩ := hB.mp h
        obtain ⟨s2, s1, h3, h4, rfl⟩ := stl_app.mp h1
        obtain ⟨ds, rfl, h5⟩ := stl_one.mp h4
        exact ⟨ds, s1, s2, rfl, h5, h3, h2⟩
      refine ⟨true, ?_, fun _ K hK => ?_, (fun z => (nomatch z))⟩
      · generalize W0 ++ [x] = W at *
        simpa! only [e0]
      · have nl : fIsi' "list" x = some (.im (.bl false)) → (∀ ds, x ≠ .lst ds) → wpS XF L_is_tree_by_1 [.im (.int k), .im d, .ow (.lst (W0 ++ [x])), .im (.int m), .no, .no, .no, .no] (nxt K (dropK [3, 4] (kSq XF (sRet (dC (.bl true))) (fnK [.im (.int k), .im d] fun v l => l = [.im (.int k), .im d] ∧ ∃ b, v = .im (.bl b) ∧ (b = true ↔ IsTr k d))))) := fun i1 hx => by
          have t := no fun h => by obtain ⟨ds, _, _, e, _⟩ := hst h; exact hx ds e
          generalize W0 ++ [x] = W at *
          simpa! only [ep, i1]
          exact ⟨false, rfl, t⟩
        cases hx with
        | tup _ => exact nl rfl fun _ z => by cases z
        | non => exact nl rfl fun _ z => by cases z
        | bl _ => exact nl rfl fun _ z => by cases z
        | int _ => exact nl rfl fun _ z => by cases z
        | str _ => exact nl rfl fun _ z => by cases z
        | emp => exact nl rfl fun _ z => by cases z
        | lst hds =>
          rename_i n' ds
          have i1 : fIsi' "list" (.lst ds) = some (.im (.bl true)) := rfl
          have fl : fLen (.lst ds) = some (.im (.int (ds.length : Nat))) := rfl
          by_cases h20 : m + (ds.length : Int) > 20
          · have t := no fun h => by
              obtain ⟨ds', s1, s2, e, t1, _, hs⟩ := hst h
              cases e
              have := t1.len
              omega
            generalize W0 ++ [.lst ds] = W at *
            simpa! only [ep, i1, fl, h20]
            exact ⟨false, rfl, t⟩
          · generalize hWW : W0 ++ [.lst ds] = W at *
            simpa! only [ep, i1, fl, h20]
            refine wp_lcI (fun x => if (!(brK k x).isSome) = true then [x] else []) (fun x hx => ?_) ?_
            · simpa! only [is_branch_eq (hds x hx)]
              cases (brK k x).isSome <;> simp
            · rw [flat_br]
              by_cases hall : ∀ x ∈ ds, (brK k x).isSome = true
              · have ef : (ds.filter fun x => !(brK k x).isSome) = [] := by
                  rw [List.filter_eq_nil_iff]
                  intro x hx
                  rw [hall x hx]; decide
                have e1 : fNeL (.lst []) (.lst []) = some (.im (.bl false)) := rfl
                obtain ⟨ps, rfl, hp⟩ := tu_of hall
                have hlp : (ps.map tu).length = ps.length := List.length_map ..
                have ext : mExtend (.lst W0) [.lst (ps.map (·.2))] = some (.non, .lst (W0 ++ ps.map (·.2))) := if_pos (by rw [List.length_map]; omega)
                have hiff : IsTr k d ↔ ∃ s, StL k (W0 ++ ps.map (·.2)) s ∧ m + (ps.length : Int) + (s : Int) ≤ 20 := by
                  rw [hB, ← hWW]
                  constructor
                  · rintro ⟨s, h1, h2⟩
                    obtain ⟨s2, s1, h3, h4, rfl⟩ := stl_app.mp h1
                    obtain ⟨ws, ew, t1⟩ := stl_one.mp h4
                    cases ew
                    obtain ⟨s', h5, rfl⟩ := (trl_tu hp).mp t1
                    exact ⟨s2 + s', stl_app.mpr ⟨_, _, h3, h5, rfl⟩, by omega⟩
                  · rintro ⟨s, h1, h2⟩
                    obtain ⟨s2, s', h3, h5, rfl⟩ := stl_app.mp h1
                    exact ⟨s2 + (ps.length + s'), stl_app.mpr ⟨_, _, h3, stl_one.mpr ⟨_, rfl, (trl_tu hp).mpr ⟨_, h5, rfl⟩⟩, rfl⟩, by omega⟩
                have hnew : ∀ y ∈ W0 ++ ps.map (·.2), Dp (n' + 1) y := fun y hy => by
                  rcases List.mem_append.mp hy with hy | hy
                  · exact hW0 y hy
                  · obtain ⟨p, hp', rfl⟩ := List.mem_map.mp hy
                    have h := hds (tu p) (List.mem_map.mpr ⟨p, hp', rfl⟩)
                    cases h with
                    | tup h => exact (h p.2 (by simp)).mono (by omega)
                have hμW : W.length = W0.length + 1 := by rw [← hWW]; simp
                clear nl
                simpa! only [ef, e1, fl]
                refine wp_lcM (inj := tu) (xs := ps) (fun p => [p.2]) (fun p hp' => ?_) ?_
                · obtain ⟨kd, w⟩ := p
                  show need (tgTup 2 _ (.tup [.int kd, w]) _) _
                  simpa! only [true_and]
                · rw [flat_one]
                  simpa! only [ext]
                  have h2 : (W0 ++ ps.map (·.2)).length = W0.length + ps.length := by simp
                  have h20' : m + (ps.length : Int) ≤ 20 := by rw [hlp] at h20; exact Int.not_lt.mp h20
                  have hlt : (W0 ++ ps.map (·.2)).length + (20 - (m + (ps.length : Int))).toNat < μ := by rw [h2, hμ, hμW]; exact ar_mu _ _ _ h20'
                  exact hK ((W0 ++ ps.map (·.2)).length + (20 - (m + (ps.length : Int))).toNat) _ hlt ⟨W0 ++ ps.map (·.2), m + ps.length, rfl, hnew, Int.add_nonneg hm0 (Int.natCast_nonneg _), h20', rfl, Nat.le_of_lt (Nat.lt_of_lt_of_le hlt hμ2), hiff⟩
              · have e1 : fNeL (.lst (ds.filter fun x => !(brK k x).isSome)) (.lst []) = some (.im (.bl true)) := by
                  show some (Val.im (.bl (!(List.filter _ ds).isEmpty))) = _
                  cases hf : ds.filter fun x => !(brK k x).isSome with
                  | nil =>
                    rw [List.filter_eq_nil_iff] at hf
                    refine absurd (fun x hx => ?_) hall
                    have := hf x hx
                    cases h : (brK k x).isSome with
                    | true => rfl
                    | false => rw [h] at this; exact absurd rfl this
                  | cons _ _ => rfl
                have t := no fun h => by
                  obtain ⟨ds', s1, s2, e, t1, _, hs⟩ := hst h
                  cases e
                  exact hall t1.all
                generalize ds.filter (fun x => !(brK k x).isSome) = F at *
                simpa! only [e1]
                exact ⟨false, rfl, t⟩
  · constructor
    · rintro ⟨ds, s, rfl, t, hs⟩
      exact ⟨s, stl_one.mpr ⟨ds, rfl, t⟩, by omega⟩
    · rintro ⟨s, h, hs⟩
      obtain ⟨ds, rfl, t⟩ := stl_one.mp h
      exact ⟨ds, s, rfl, t, by omega⟩
mutual
noncomputable def wlD : D → Prop
  | .non => True
  | .bl _ => True
  | .int i => i.natAbs.log2 < 1920
  | .str x => ∀ c ∈ x, c < 4294967296
  | .lst ds => wlDs ds
  | .tup ds => wlDs ds
  | .dk ks ds => ks = [] ∧ ds = []
  | _ => False
noncomputable def wlDs : List D → Prop
  | [] => True
  | d :: ds => wlD d ∧ wlDs ds
end
mutual
noncomputable def dpL : D → Nat
  | .lst ds => dpLs ds + 1
  | .tup ds => dpLs ds
  | _ => 0
noncomputable def dpLs : List D → Nat
  | [] => 0
  | d :: ds => max (dpL d) (dpLs ds)
end
mutual
noncomputable def dpR : D → Nat
  | .lst ds => dpRs ds + 1
  | .tup ds => dpRs ds + 1
  | .dk _ _ => 1
  | _ => 0
noncomputable def dpRs : List D → Nat
  | [] => 0
  | d :: ds => max (dpR d) (dpRs ds)
end
mutual
noncomputable def szL : D → Nat
  | .lst ds => szLs ds + 3
  | .tup ds => szLs ds + 3
  | .int _ => 1921
  | .str x => 10 * x.length + 2
  | _ => 5
noncomputable def szLs : List D → Nat
  | [] => 0
  | d :: ds => szL d + 2 + szLs ds
end
mutual
noncomputable def nkD : D → Prop
  | .lst ds => nkDs ds
  | .tup ds => nkDs ds
  | .dk _ _ => False
  | _ => True
noncomputable def nkDs : List D → Prop
  | [] => True
  | d :: ds => nkD d ∧ nkDs ds
end
theorem wlDs_app {b : List D} : ∀ a : List D, wlDs (a ++ b) ↔ wlDs a ∧ wlDs b
  | [] => by simp [wlDs]
  | x :: a => by rw [List.cons_append, wlDs, wlDs_app a, wlDs, and_assoc]
theorem dpLs_app {b : List D} : ∀ a : List D, dpLs (a ++ b) = max (dpLs a) (dpLs b)
  | [] => by simp [dpLs]
  | x :: a => by rw [List.cons_append, dpLs, dpLs_app a, dpLs]; omega
theorem dpRs_app {b : List D} : ∀ a : List D, dpRs (a ++ b) = max (dpRs a) (dpRs b)
  | [] => by simp [dpRs]
  | x :: a => by rw [List.cons_append, dpRs, dpRs_app a, dpRs]; omega
theorem szLs_app {b : List D} : ∀ a : List D, szLs (a ++ b) = szLs a + szLs b
  | [] => by simp [szLs]
  | x :: a => by rw [List.cons_append, szLs, szLs_app a, szLs]; omega
mutual
theorem dp_of : ∀ (d : D) (n : Nat), wlD d → dpL d ≤ n → Dp n d
  | .non, _, _, _ => .non
  | .bl b, _, _, _ => .bl b
  | .int i, _, _, _ => .int i
  | .str x, _, _, _ => .str x
  | .lst ds, n, h, hn => by
    rw [dpL] at hn
    obtain ⟨m, rfl⟩ : ∃ m, n = m + 1 := ⟨n - 1, by omega⟩
    exact .lst (dps_of ds m (by rwa [wlD] at h) (by omega))
  | .tup ds, n, h, hn => by
    rw [dpL] at hn
    exact .tup (dps_of ds n (by rwa [wlD] at h) hn)
  | .dk ks ds, n, h, hn => by
    obtain ⟨rfl, rfl⟩ := h
    exact .emp
  | .dt _ _, _, h, _ => by cases h
  | .exc _, _, h, _ => by cases h
  | .ob _ _, _, h, _ => by cases h
theorem dps_of : ∀ (ds : List D) (n : Nat), wlDs ds → dpLs ds ≤ n → ∀ x ∈ ds, Dp n x
  | [], _, _, _ => fun x hx => by cases hx
  | d :: ds, n, h, hn => fun x hx => by
    rw [dpLs] at hn
    rw [wlDs] at h
    rcases List.mem_cons.mp hx with e | hx
    · rw [e]; exact dp_of d n h.1 (by omega)
    · exact dps_of ds n h.2 (by omega) x hx
end
structure Me (p q c : Nat) (ds : List D) : Prop where
  ok : wlDs ds
  dl : dpLs ds ≤ p
  dr : dpRs ds ≤ q
  sz : szLs ds ≤ c
theorem Me.le {p q c p' q' c' : Nat} {ds : List D} (h : Me p q c ds) (h1 : p ≤ p') (h2 : q ≤ q') (h3 : c ≤ c') : Me p' q' c' ds := ⟨h.ok, Nat.le_trans h.dl h1, Nat.le_trans h.dr h2, Nat.le_trans h.sz h3⟩
theorem Me.app {p q c1 c2 : Nat} {a b : List D} (h : Me p q c1 a) (g : Me p q c2 b) : Me p q (c1 + c2) (a ++ b) := ⟨(wlDs_app a).mpr ⟨h.ok, g.ok⟩, by rw [dpLs_app]; have := h.dl; have := g.dl; omega, by rw [dpRs_app]; have := h.dr; have := g.dr; omega, by rw [szLs_app]; have := h.sz; have := g.sz; omega⟩
theorem kd_ok {i : Int} (h0 : 0 ≤ i) (h4 : i ≤ 4) : i.natAbs.log2 < 1920 := Nat.lt_trans (lg_lt (by omega) (by omega)) (by decide)
theorem rt_me {k : Int} (hk4 : k ≤ 4) : ∀ t : RT, rtK k t → Me (rtN t) (2 * rtN t) (1933 * rtN t) t.D ∧ nkDs t.D
  | .nil, _ => ⟨⟨trivial, Nat.le_refl _, Nat.le_refl _, Nat.le_refl _⟩, trivial⟩
  | .cons l kd w r, ⟨h0, h1, hw, hr⟩ => by
    obtain ⟨⟨w1, w2, w3, w4⟩, w5⟩ := rt_me hk4 w hw
    obtain ⟨⟨r1, r2, r3, r4⟩, r5⟩ := rt_me hk4 r hr
    have e : rtN (.cons l kd w r) = 1 + rtN w + rtN r := by unfold rtN; simp only [RT.labs, List.length_cons, List.length_append]; omega
    have hl : kd.natAbs.log2 < 1920 := kd_ok h0 (by omega)
    rw [e, RT.D]
    refine ⟨⟨?_, ?_, ?_, ?_⟩, ?_⟩
    · simp only [wlDs, wlD]; exact ⟨⟨hl, w1, trivial⟩, r1⟩
    · simp only [dpLs, dpL]; omega
    · simp only [dpRs, dpR]; omega
    · simp only [szLs, szL]; omega
    · simp only [nkDs, nkD]; exact ⟨⟨trivial, w5, trivial⟩, r5⟩
theorem rtN_cons (l : Nat) (kd : Int) (w r : RT) : rtN (.cons l kd w r) = 1 + rtN w + rtN r := by unfold rtN; simp only [RT.labs, List.length_cons, List.length_append]; omega
theorem rt_mem {k : Int} : ∀ {t : RT} {x : D}, rtK k t → x ∈ t.D → ∃ kd w, x = .tup [.int kd, .lst w.D] ∧ 0 ≤ kd ∧ kd < k ∧ rtK k w ∧ rtN w < rtN t
  | .nil, _, _, h => by cases h
  | .cons l kd w r, x, ⟨h0, h1, hw, hr⟩, h => by
    have e := rtN_cons l kd w r
    rcases List.mem_cons.mp (show x ∈ D.tup [.int kd, .lst w.D] :: r.D from h) with rfl | h
    · exact ⟨kd, w, rfl, h0, h1, hw, by omega⟩
    · obtain ⟨kd', w', e1, a, b, c, d⟩ := rt_mem hr h
      exact ⟨kd', w', e1, a, b, c, by omega⟩
theorem rt_trl {k : Int} : ∀ {t : RT}, rtK k t → TrL k t.D (rtN t)
  | .nil, _ => .nil
  | .cons l kd w r, ⟨h0, h1, hw, hr⟩ => by
    rw [rtN_cons]
    exact .cons h0 h1 (rt_trl hw) (rt_trl hr)
theorem flat_self (ds : List D) : (ds.flatMap fun x => [x]) = ds := by induction ds with
  | nil => rfl
  | cons x ds ih => rw [List.flatMap_cons, ih]; rfl
theorem copy_wp {k : Int} : ∀ (fu : Nat) (t : RT), rtN t < fu → rtN t ≤ 100 → rtK k t → wpF XF (F_law_copyn fu) [.im (.lst t.D)] fun v l => v = .ow (.lst t.D) ∧ l = [.im (.lst t.D)] := by
  have hLINE := LINE_big
  intro fu
  induction fu with
  | zero => intro t h; omega
  | succ fu ih =>
    intro t h h100 hK
    have hl := D_len t
    show wpF XF (fnOf 3 (B_law_copy (F_law_copyn fu))) _ _
    unfold B_law_copy
    simpa! only [true_and]
    refine wp_lcI (fun x => [x]) (fun x hx => ?_) ?_
    · obtain ⟨kd, w, rfl, _, _, hw, hlt⟩ := rt_mem hK hx
      obtain ⟨v, l, ev, rfl, rfl⟩ := wpF_ex (ih w (by omega) (by omega) hw)
      have cw : ∀ (X : EX) (Q : Val → List Slot → Prop), wpF X (F_law_copyn fu) [.im (.lst w.D)] Q = Q (.ow (.lst w.D)) [.im (.lst w.D)] := fun X Q => wpF_eq ev
      generalize w.D = wd at *
      generalize t.D = td at *
      simpa! only [cw]
    · rw [flat_self]
      simpa! only [true_and]
noncomputable def opI (kd : Int) : Nat := opc kd.toNat
noncomputable def rowT : RT → List Nat
  | .nil => []
  | .cons _ kd w r => opI kd :: (rowT w ++ oth (opI kd) :: rowT r)
noncomputable def parT : RT → List Nat
  | .nil => []
  | .cons _ _ w r => ((parT w).length + 1) :: ((parT w).map (· + 1) ++ 0 :: (parT r).map (· + ((parT w).length + 2)))
noncomputable def elT : RT → List (Int × RT)
  | .nil => []
  | .cons _ kd w r => (kd, w) :: elT r
noncomputable def tuT (p : Int × RT) : D := .tup [.int p.1, .lst p.2.D]
noncomputable def paT (p : Int × RT) : List Nat := opI p.1 :: (rowT p.2 ++ [oth (opI p.1)])
theorem elT_D : ∀ t : RT, t.D = (elT t).map tuT
  | .nil => rfl
  | .cons _ kd w r => by rw [RT.D, elT, List.map_cons, ← elT_D r]; rfl
theorem elT_row : ∀ t : RT, ((elT t).map paT).flatten = rowT t
  | .nil => rfl
  | .cons _ kd w r => by
    rw [elT, List.map_cons, List.flatten_cons, elT_row r, rowT, paT]
    simp
theorem elT_mem {k : Int} : ∀ {t : RT}, rtK k t → ∀ p ∈ elT t, 0 ≤ p.1 ∧ p.1 < k ∧ rtK k p.2 ∧ rtN p.2 < rtN t
  | .nil, _, p, h => by cases h
  | .cons l kd w r, ⟨h0, h1, hw, hr⟩, p, h => by
    have e := rtN_cons l kd w r
    rcases List.mem_cons.mp (show p ∈ (kd, w) :: elT r from h) with rfl | h
    · exact ⟨h0, h1, hw, by show rtN w < _; omega⟩
    · obtain ⟨a, b, c, d⟩ := elT_mem hr p h
      exact ⟨a, b, c, by omega⟩
theorem rowT_len : ∀ t : RT, (rowT t).length = 2 * rtN t
  | .nil => rfl
  | .cons l kd w r => by
    have h1 := rowT_len w
    have h2 := rowT_len r
    rw [rtN_cons, rowT]
    simp only [List.length_cons, List.length_append]
    omega
theorem opI_op {k kd : Int} (h0 : 0 ≤ kd) (h1 : kd < k) (hk4 : k ≤ 4) : isOp (opI kd) = true := opc_op (by omega)
theorem rowT_ok {k : Int} (hk4 : k ≤ 4) : ∀ {t : RT}, rtK k t → rowOk k.toNat (rowT t)
  | .nil, _ => fun c hc => by cases hc
  | .cons _ kd w r, ⟨h0, h1, hw, hr⟩ => fun c hc => by
    have hs := opc_sgs (k := k.toNat) (i := kd.toNat) (by omega) (by omega)
    rw [← oth_opc (show kd.toNat < 4 by omega)] at hs
    rw [rowT] at hc
    rcases List.mem_cons.mp hc with rfl | hc
    · exact hs.1
    rcases List.mem_append.mp hc with hc | hc
    · exact rowT_ok hk4 hw c hc
    rcases List.mem_cons.mp hc with rfl | hc
    · exact hs.2
    · exact rowT_ok hk4 hr c hc
theorem rowT_par {k : Int} (hk4 : k ≤ 4) : ∀ {t : RT}, rtK k t → Par (rowT t) (parT t)
  | .nil, _ => .nil
  | .cons _ kd w r, ⟨h0, h1, hw, hr⟩ => .cat (opI_op h0 h1 hk4) (rowT_par hk4 hw) (rowT_par hk4 hr)
noncomputable def catT : RT → RT → RT
  | .nil, s => s
  | .cons l kd w r, s => .cons l kd w (catT r s)
theorem trl_rt {k kk : Int} : ∀ {t : RT} {s : Nat}, TrL kk t.D s → rtK kk t
  | .nil, _, _ => trivial
  | .cons l kd w r, s, h => by
    rw [RT.D] at h
    obtain ⟨ws, s1, s2, b1, b2, b3, _⟩ := h.br
    obtain ⟨kd', e, h0, h1⟩ := brK_some b1
    injection e with e
    injection e with e1 e2
    injection e1 with e1
    subst e1
    injection e2 with e2
    injection e2 with e2
    rw [← e2] at b2
    exact ⟨h0, h1, trl_rt (k := k) b2, trl_rt (k := k) b3⟩
theorem istr_rt {kk : Int} {t : RT} (hN : rtN t ≤ 20) : IsTr kk (.lst t.D) ↔ rtK kk t := by
  constructor
  · rintro ⟨ds, s, e, h, _⟩
    injection e with e
    rw [← e] at h
    exact trl_rt (k := 0) h
  · intro h
    exact ⟨_, _, rfl, rt_trl h, hN⟩
theorem okT : ∀ (t : RT) (n : Nat), 2 * rtN t ≤ n → okDs n t.D = true
  | .nil, n, _ => by rw [RT.D, okDs]
  | .cons l kd w r, n, h => by
    rw [rtN_cons] at h
    obtain ⟨m, rfl⟩ : ∃ m, n = m + 1 + 1 := ⟨n - 2, by omega⟩
    rw [RT.D, okDs, okT r _ (by omega), Bool.and_true, okD, okDs, okDs, okDs, Bool.and_true]
    show (okD (m + 1) (.int kd) && okD (m + 1) (.lst w.D)) = true
    rw [okD, okD, okT w m (by omega)]; rfl
theorem tg_tuT (p : Int × RT) : tuT p = .tup [.int p.1, .lst p.2.D] := rfl
theorem op_ix {kd : Int} (h0 : 0 ≤ kd) (h1 : kd < 4) : fIx (.str [40, 91, 123, 60]) (.int kd) = some (.im (.str [opI kd])) ∧ fIx (.str [41, 93, 125, 62]) (.int kd) = some (.im (.str [oth (opI kd)])) := by
  have a : kd = 0 ∨ kd = 1 ∨ kd = 2 ∨ kd = 3 := by omega
  rcases a with rfl | rfl | rfl | rfl <;> exact ⟨rfl, rfl⟩
theorem op_idx {kd : Int} (h0 : 0 ≤ kd) (h1 : kd < 4) : fSIndex (.str [40, 91, 123, 60]) [.str [opI kd]] = some (.im (.int kd)) ∧ fSIndex (.str [40, 41, 91, 93, 123, 125, 60, 62]) [.str [opI kd]] = some (.im (.int (2 * kd))) := by
  have a : kd = 0 ∨ kd = 1 ∨ kd = 2 ∨ kd = 3 := by omega
  rcases a with rfl | rfl | rfl | rfl <;> exact ⟨rfl, rfl⟩
theorem div2 (kd : Int) : fDiv (.int (2 * kd)) (.int 2) = some (.im (.int kd)) := by
  rw [divI (by omega) (by omega)]
  congr 3
  omega
theorem row_from_wp {k : Int} (hk4 : k ≤ 4) : ∀ (fu : Nat) (t : RT), rtN t < fu → rtN t ≤ 100 → rtK k t → wpF XF (F_row_fromn fu) [.im (.lst t.D)] fun v l => v = .im (.str (rowT t)) ∧ l = [.im (.lst t.D)] := by
  have hLINE := LINE_big
  intro fu
  induction fu with
  | zero => intro t h; omega
  | succ fu ih =>
    intro t h h100 hK
    show wpF XF (fnOf 3 (B_row_from (F_row_fromn fu))) _ _
    have hD := elT_D t
    have hlen := rowT_len t
    have hrow := elT_row t
    have hsum : (((elT t).map paT).map List.length).sum ≤ LINE := by rw [← List.length_flatten, hrow, hlen]; omega
    have ej : fJoin (.str []) [.lst (((elT t).map paT).map D.str)] = some (.im (.str (rowT t))) := by rw [join0 hsum, hrow]
    have hm := elT_mem hK
    have hel' := D_len t
    rw [hD, List.length_map] at hel'
    rw [hD]
    generalize hel : elT t = el at *
    unfold B_row_from
    simpa! only [true_and]
    refine wp_lcM (inj := tuT) (xs := el) (fun p => [D.str (paT p)]) (fun p hp => ?_) ?_
    · obtain ⟨h0, h1, hw, hlt⟩ := hm p hp
      obtain ⟨kd, w⟩ := p
      have h0 : 0 ≤ kd := h0
      have h1 : kd < k := h1
      have hw : rtK k w := hw
      have hlt : rtN w < rtN t := hlt
      obtain ⟨v, l, ev, rfl, rfl⟩ := wpF_ex (ih w (by omega) (by omega) hw)
      have cw : ∀ (X : EX) (Q : Val → List Slot → Prop), wpF X (F_row_fromn fu) [.im (.lst w.D)] Q = Q (.im (.str (rowT w))) [.im (.lst w.D)] := fun X Q => wpF_eq ev
      obtain ⟨i1, i2⟩ := op_ix h0 (show kd < 4 by omega)
      have hwl := rowT_len w
      have e1 : fAdd (.str [opI kd]) (.str (rowT w)) = some (.im (.str (opI kd :: rowT w))) := addS (by simp only [List.length_cons, List.length_nil]; omega)
      have e2 : fAdd (.str (opI kd :: rowT w)) (.str [oth (opI kd)]) = some (.im (.str (paT (kd, w)))) := by
        rw [addS (by simp only [List.length_cons, List.length_nil]; omega)]; rfl
      rw [tg_tuT]
      generalize paT (kd, w) = pw at *
      generalize w.D = wd at *
      simpa! only [cw, i1, i2, e1, e2]
    · rw [flat_one]
      rw [List.map_map] at ej
      have e3 : ((el.map fun p => D.str (paT p))) = el.map (D.str ∘ paT) := rfl
      rw [e3]
      generalize el.map (D.str ∘ paT) = js at *
      simpa! only [ej]
theorem row_from_eq {k : Int} (hk4 : k ≤ 4) {t : RT} (hN : rtN t ≤ 20) (hK : rtK k t) {Q : Val → List Slot → Prop} : wpF X F_row_from [.im (.lst t.D)] Q = Q (.im (.str (rowT t))) [.im (.lst t.D)] := by
  obtain ⟨v, l, ev, rfl, rfl⟩ := wpF_ex (row_from_wp hk4 25 t (by omega) (by omega) hK)
  exact wpF_eq ev
theorem rt_dp {k : Int} (hk4 : k ≤ 4) {t : RT} (hN : rtN t ≤ 20) (hK : rtK k t) : Dp 24 (.lst t.D) := by
  obtain ⟨⟨m1, m2, m3, m4⟩, _⟩ := rt_me hk4 t hK
  exact dp_of _ 24 m1 (by rw [dpL]; omega)
theorem tree_by_eq {k kk : Int} (hk4 : k ≤ 4) {t : RT} (hN : rtN t ≤ 20) (hK : rtK k t) {b : Bool} (hb : b = true ↔ rtK kk t) {Q : Val → List Slot → Prop} : wpF X F_is_tree_by [.im (.int kk), .im (.lst t.D)] Q = Q (.im (.bl b)) [.im (.int kk), .im (.lst t.D)] := by
  obtain ⟨v, l, ev, rfl, b', rfl, hb'⟩ := wpF_ex (tree_by_wp (k := kk) (rt_dp hk4 hN hK))
  obtain rfl : b = b' := by rw [Bool.eq_iff_iff, hb, hb', istr_rt hN]
  exact wpF_eq ev
theorem row_of_tree_eq {k : Int} (hk : 1 ≤ k) (hk4 : k ≤ 4) {t : RT} (hN : rtN t ≤ 20) (hK : rtK k t) {Q : Val → List Slot → Prop} : wpF X F_row_of_tree [.im (.int k), .im (.lst t.D)] Q = Q (.im (.str (rowT t))) [.im (.int k), .im (.lst t.D)] := by
  have tb := fun (X : EX) (Q : Val → List Slot → Prop) => tree_by_eq (X := X) (Q := Q) (kk := k) hk4 hN hK (b := true) ⟨fun _ => hK, fun _ => rfl⟩
  have rf := fun (X : EX) (Q : Val → List Slot → Prop) => row_from_eq (X := X) (Q := Q) hk4 hN hK
  generalize t.D = td at *
  have key : wpF XF F_row_of_tree [.im (.int k), .im (.lst td)] fun v l => v = .im (.str (rowT t)) ∧ l = [.im (.int k), .im (.lst td)] := by
    unfold F_row_of_tree B_row_of_tree
    simpa! only [need_kinds_ok hk hk4, tb, rf]
  obtain ⟨v, l, e, rfl, rfl⟩ := wpF_ex key
  exact wpF_eq e
theorem tree_between_wp {k : Int} (hk4 : k ≤ 4) : ∀ (fu : Nat) (t : RT) (a b fa fb : List Nat), rtN t < fu → rtK k t → fa.length = a.length → (a ++ rowT t ++ b).length ≤ 100 →
    wpF XF (F_tree_betweenn fu) [.im (.str (a ++ rowT t ++ b)), .im (.lst (li (fa ++ (parT t).map (· + a.length) ++ fb))), .im (.int (a.length : Int)), .im (.int ((a.length + (rowT t).length : Nat) : Int))] fun v l => v = .ow (.lst t.D) ∧ l = [.im (.str (a ++ rowT t ++ b)), .im (.lst (li (fa ++ (parT t).map (· + a.length) ++ fb))), .im (.int (a.length : Int)), .im (.int ((a.length + (rowT t).length : Nat) : Int))] := by
  have hLINE := LINE_big
  intro fu
  induction fu with
  | zero => intro t a b fa fb h; omega
  | succ fu ih =>
    intro t a b fa fb h hK hfa hle
    show wpF XF (fnOf 6 (B_tree_between (F_tree_betweenn fu))) _ _
    obtain ⟨row, hrow⟩ : ∃ row, a ++ rowT t ++ b = row := ⟨_, rfl⟩
    obtain ⟨F, hF⟩ : ∃ F, fa ++ (parT t).map (· + a.length) ++ fb = F := ⟨_, rfl⟩
    rw [hrow, hF]
    rw [hrow] at hle
    obtain ⟨en, hen⟩ : ∃ en : Nat, a.length + (rowT t).length = en := ⟨_, rfl⟩
    rw [hen]
    have hfu : rtN t < FUEL := by
      have h1 := rowT_len t
      have h2 : row.length = a.length + (rowT t).length + b.length := by rw [← hrow]; simp only [List.length_append]
      unfold FUEL
      omega
    unfold B_tree_between
    simpa! only [-u_L_tree_between_1]
    refine wp_whileT (fun m e => ∃ (a' fa' : List Nat) (r : RT) (done : List D), e = [.im (.str row), .im (.lst (li F)), .im (.int (a.length : Int)), .im (.int (en : Int)), .ow (.lst done), .im (.int (a'.length : Int))] ∧ rtK k r ∧ rtN r ≤ rtN t ∧ row = a' ++ rowT r ++ b ∧ F = fa' ++ (parT r).map (· + a'.length) ++ fb ∧ fa'.length = a'.length ∧ a'.length + (rowT r).length = en ∧ t.D = done ++ r.D ∧ done.length ≤ a'.length ∧ m = rtN r) ?_ FUEL (rtN t) _ hfu ⟨a, fa, t, [], rfl, hK, Nat.le_refl _, hrow.symm, hF.symm, hfa, hen, rfl, Nat.zero_le _, rfl⟩
    rintro m e ⟨a', fa', r, done, rfl, hKr, hNr, hrow', hF', hfa', hen', hD, hdl, rfl⟩
    cases r with
    | nil =>
      refine ⟨false, ?_, (fun z => (nomatch z)), fun _ => ?_⟩
      · have e0 : fLt (.int (a'.length : Int)) (.int (en : Int)) = some (.im (.bl false)) := by
          rw [← hen']; show some (Val.im (.bl (decide _))) = _
          rw [decide_eq_false (by show ¬ ((a'.length : Int) < ((a'.length + 0 : Nat) : Int)); omega)]
        simpa! only [e0]
      · have ed : done = t.D := by rw [hD]; show _ = done ++ []; rw [List.append_nil]
        subst ed
        simpa! only [true_and]
    | cons l kd w r =>
      obtain ⟨h0, h1, hw, hr⟩ := hKr
      rw [rtN_cons] at hNr
      have hlw := rowT_len w
      have hlr := rowT_len r
      have hlen : row.length = a'.length + (rowT w).length + (rowT r).length + 2 + b.length := by rw [hrow', rowT]; simp only [List.length_append, List.length_cons]; omega
      have hen2 : en = a'.length + (rowT w).length + (rowT r).length + 2 := by rw [← hen', rowT]; simp only [List.length_append, List.length_cons]; omega
      have hpl : (parT w).length = (rowT w).length := (rowT_par hk4 hw).len
      refine ⟨true, ?_, fun _ K hK' => ?_, (fun z => (nomatch z))⟩
      · have e0 : fLt (.int (a'.length : Int)) (.int (en : Int)) = some (.im (.bl true)) := by
          show some (Val.im (.bl (decide _))) = _
          rw [decide_eq_true (by omega)]
        simpa! only [e0]
      · have er : row = (a' ++ [opI kd]) ++ rowT w ++ (oth (opI kd) :: rowT r ++ b) := by rw [hrow', rowT]; simp
        have er2 : row = (a' ++ opI kd :: (rowT w ++ [oth (opI kd)])) ++ rowT r ++ b := by rw [hrow', rowT]; simp
        have eF : F = (fa' ++ [(parT w).length + 1 + a'.length]) ++ (parT w).map (· + (a' ++ [opI kd]).length) ++ (a'.length :: ((parT r).map (· + ((parT w).length + 2))).map (· + a'.length) ++ fb) := by
          rw [hF', parT]
          simp [map_add_add, Nat.add_comm, Nat.add_left_comm]
        have eF2 : F = (fa' ++ ((parT w).length + 1 + a'.length) :: ((parT w).map (· + (1 + a'.length)) ++ [a'.length])) ++ (parT r).map (· + (a' ++ opI kd :: (rowT w ++ [oth (opI kd)])).length) ++ fb := by
          have q1 : (a' ++ opI kd :: (rowT w ++ [oth (opI kd)])).length = (parT w).length + 2 + a'.length := by simp [hpl]; omega
          rw [hF', parT, q1]
          simp only [List.map_cons, List.map_append, map_add_add, List.append_assoc, List.cons_append, List.nil_append, Nat.zero_add]
        have i1 : fIx (.str row) (.int (a'.length : Int)) = some (.im (.str [opI kd])) := ixS (by omega) (by omega) (by rw [er, Int.toNat_natCast]; simp)
        have i2 : fIx (.lst (li F)) (.int (a'.length : Int)) = some (.im (.int (((parT w).length + 1 + a'.length : Nat) : Int))) := ixL (by omega) (by rw [eF, Int.toNat_natCast]; unfold li; simp [hfa'])
        obtain ⟨_, i3⟩ := op_idx h0 (show kd < 4 by omega)
        have i4 := div2 kd
        obtain ⟨v, l', ev, rfl, rfl⟩ := wpF_ex (ih w (a' ++ [opI kd]) (oth (opI kd) :: rowT r ++ b) (fa' ++ [(parT w).length + 1 + a'.length]) (a'.length :: ((parT r).map (· + ((parT w).length + 2))).map (· + a'.length) ++ fb) (by omega) hw (by simp [hfa']) (by rw [← er]; exact hle))
        rw [← er, ← eF] at ev
        have n1 : ((a' ++ [opI kd]).length : Int) = (a'.length : Int) + 1 := by simp
        have n2 : (((a' ++ [opI kd]).length + (rowT w).length : Nat) : Int) = (((parT w).length + 1 + a'.length : Nat) : Int) := by rw [hpl]; simp; omega
        rw [n1, n2] at ev
        have cw : ∀ (X : EX) (Q : Val → List Slot → Prop), wpF X (F_tree_betweenn fu) [.im (.str row), .im (.lst (li F)), .im (.int ((a'.length : Int) + 1)), .im (.int (((parT w).length + 1 + a'.length : Nat) : Int))] Q = Q (.ow (.lst w.D)) [.im (.str row), .im (.lst (li F)), .im (.int ((a'.length : Int) + 1)), .im (.int (((parT w).length + 1 + a'.length : Nat) : Int))] := fun X Q => wpF_eq ev
        have ap : ∀ y, mAppend (.lst done) [y] = some (.non, .lst (done ++ [y])) := appL (by omega)
        have n3 : (((parT w).length + 1 + a'.length : Nat) : Int) + 1 = ((a' ++ opI kd :: (rowT w ++ [oth (opI kd)])).length : Int) := by rw [hpl]; simp; omega
        have hD2 : t.D = (done ++ [.tup [.int kd, .lst w.D]]) ++ r.D := by rw [hD, RT.D]; simp
        generalize hli : li F = LF at *
        generalize hwd : w.D = wd at *
        generalize hjj : (((parT w).length + 1 + a'.length : Nat) : Int) = jj at *
        simpa! only [i1, i2, i3, i4, cw, ap, n3]
        refine hK' (rtN r) _ (by rw [rtN_cons]; omega) ⟨_, _, r, done ++ [.tup [.int kd, .lst wd]], rfl, hr, by omega, er2, eF2, ?_, ?_, hD2, ?_, rfl⟩
        · simp [hpl, hfa']
        · rw [hen2]; simp; omega
        · simp; omega
theorem tree_of_eq {k : Int} (hk : 1 ≤ k) (hk4 : k ≤ 4) {t : RT} (hN : rtN t ≤ 20) (hK : rtK k t) {Q : Val → List Slot → Prop} : wpF X F_tree_of [.im (.int k), .im (.str (rowT t))] Q = Q (.ow (.lst t.D)) [.im (.int k), .im (.str (rowT t))] := by
  have hLINE := LINE_big
  have hl := rowT_len t
  have np := fun (X : EX) (Q : Val → List Slot → Prop) => need_partners_eq (X := X) (Q := Q) hk hk4 (show (rowT t).length ≤ 40 by omega) (rowT_ok hk4 hK) (rowT_par hk4 hK)
  have tb := tree_between_wp hk4 25 t [] [] [] [] (by omega) hK rfl (by simp; omega)
  have e1 : [] ++ rowT t ++ [] = rowT t := by simp
  have e2 : [] ++ (parT t).map (· + ([] : List Nat).length) ++ [] = parT t := by simp
  have e3 : ((([] : List Nat).length + (rowT t).length : Nat) : Int) = ((rowT t).length : Int) := by simp
  rw [e1, e2, e3] at tb
  have e4 : ((([] : List Nat).length : Nat) : Int) = 0 := rfl
  rw [e4] at tb
  obtain ⟨v, l', ev, rfl, rfl⟩ := wpF_ex tb
  have cw : ∀ (X : EX) (Q : Val → List Slot → Prop), wpF X F_tree_between [.im (.str (rowT t)), .im (.lst (li (parT t))), .im (.int 0), .im (.int ((rowT t).length : Int))] Q = Q (.ow (.lst t.D)) [.im (.str (rowT t)), .im (.lst (li (parT t))), .im (.int 0), .im (.int ((rowT t).length : Int))] := fun X Q => wpF_eq ev
  generalize hR : rowT t = R at *
  generalize li (parT t) = LF at *
  generalize t.D = td at *
  have key : wpF XF F_tree_of [.im (.int k), .im (.str R)] fun v l => v = .ow (.lst td) ∧ l = [.im (.int k), .im (.str R)] := by
    unfold F_tree_of B_tree_of
    simpa! only [np, cw]
  obtain ⟨v, l, e, rfl, rfl⟩ := wpF_ex key
  exact wpF_eq e
section
open PySem PySem.Spec PyProof.Rows L2 SX Evl
theorem wpE_ex {d : Den} {env : G.Env} {v : Val} (h : wpE XF d env fun w e => w = v ∧ e = env) : d env = .ok (v, env) := by
  unfold wpE at h
  obtain ⟨w, e, h1, rfl, rfl⟩ := post_ex h
  exact h1
theorem FTr.cat {H : Hp} {t s : RT} {us vs : List V} {f u f' u' : List Addr} (h : FTr H t us f u) (h' : FTr H s vs f' u') : FTr H (catT t s) (us ++ vs) (f ++ f') (u ++ u') := by
  induction h with
  | nil => exact h'
  | @cons l k w r t c ws vs' f1 f2 u1 u2 h1 h2 h3 _ _ i2 =>
    have e : FTr H (.cons l k w (catT r s)) (.ref t :: (vs' ++ vs)) (c :: (f1 ++ (f2 ++ f'))) (t :: (u1 ++ (u2 ++ u'))) := .cons h1 h2 h3 i2
    rw [show (c :: (f1 ++ f2)) ++ f' = c :: (f1 ++ (f2 ++ f')) by simp, show (t :: (u1 ++ u2)) ++ u' = t :: (u1 ++ (u2 ++ u')) by simp]
    exact e
theorem catT_nil : ∀ t : RT, catT t .nil = t
  | .nil => rfl
  | .cons l k w r => by rw [catT, catT_nil r]
theorem catT_assoc (a b : RT) : ∀ t : RT, catT (catT t a) b = catT t (catT a b)
  | .nil => rfl
  | .cons l k w r => by rw [catT, catT, catT, catT_assoc a b r]
noncomputable def spT (g : Gm) (fu : Nat) : Sp := fun vs H Q _ => vs.length = 4 ∧ ∃ (t : RT) (a b fa fb : List Nat) (wa : Addr), rtK 4 t ∧ rtN t < fu ∧ fa.length = a.length ∧ (a ++ rowT t ++ b).length ≤ 100 ∧
  vs = [.str (S (a ++ rowT t ++ b)), .ref wa, .int (a.length : Int), .int ((a.length + (rowT t).length : Nat) : Int)] ∧ Rp g H (.lst (li (fa ++ (parT t).map (· + a.length) ++ fb))) (.ref wa) ∧ Pst t H Q
section
variable {g : Gm} {W : WX} {fu : Nat} {E : L2.St → XK}
noncomputable def dT1 : Den := dBin fDiv (dMethR kStr (dC (.str [40, 41, 91, 93, 123, 125, 60, 62])) [dBin fIx (dName 0) (dName 5)] fSIndex) (dC (.int 2))
noncomputable def dT2 : Den := dBin fAdd (dName 5) (dC (.int 1))
noncomputable def dT3 : Den := dBin fIx (dName 1) (dName 5)
noncomputable def dT4 : Den := dBin fAdd (dBin fIx (dName 1) (dName 5)) (dC (.int 1))
noncomputable def TbW (H0 : Hp) (t : RT) (row F b fb : List Nat) (wa cf : Addr) (an en : Nat) (m : Nat) (σ : L2.St) (H : Hp) : Prop := ∃ (a' fa' : List Nat) (td r : RT) (us : List V) (fd ud : List Addr), σ = [some (.str (S row)), some (.ref wa), some (.int (an : Int)), some (.int (en : Int)), some (.ref cf), some (.int (a'.length : Int))] ∧
      rtK 4 r ∧ rtN r ≤ rtN t ∧ row = a' ++ rowT r ++ b ∧ F = fa' ++ (parT r).map (· + a'.length) ++ fb ∧ fa'.length = a'.length ∧ a'.length + (rowT r).length = en ∧ catT td r = t ∧ us.length ≤ a'.length ∧ m = rtN r ∧
      Ex H0 H ∧ H cf = some (.lst us) ∧ FTr H td us fd ud ∧ (cf :: fd).Nodup ∧ (∀ b ∈ cf :: (fd ++ ud), H0 b = none)
theorem tb_env (row F : List Nat) (an en pl : Nat) {wa cf : Addr} {H0 : Hp} (h : Rp g H0 (.lst (li F)) (.ref wa)) : Ims g [.im (.str row), .im (.lst (li F)), .im (.int (an : Int)), .im (.int (en : Int)), .no, .im (.int (pl : Int))] [some (.str (S row)), some (.ref wa), some (.int (an : Int)), some (.int (en : Int)), some (.ref cf), some (.int (pl : Int))] H0 where
  len := rfl
  im := fun i d e => by
    match i, e with
    | 0, e => cases e; exact ⟨_, rfl, rfl⟩
    | 1, e => cases e; exact ⟨_, rfl, h⟩
    | 2, e => cases e; exact ⟨_, rfl, rfl⟩
    | 3, e => cases e; exact ⟨_, rfl, rfl⟩
    | 4, e => cases e
    | 5, e => cases e; exact ⟨_, rfl, rfl⟩
    | n + 6, e => simp at e
  no := fun i s e => by
    match i, e with
    | 0, e => cases e; rfl
    | 1, e => cases e; rfl
    | 2, e => cases e; rfl
    | 3, e => cases e; rfl
    | 4, e => cases e; rfl
    | 5, e => cases e; rfl
    | n + 6, e => simp at e
theorem tb_step {H0 H : Hp} {t : RT} {row F b fb : List Nat} {wa cf : Addr} {an en m : Nat} {σ : L2.St} {D : Ends} (hwa : Rp g H0 (.lst (li F)) (.ref wa)) (hfu : rtN t < fu + 1) (hle : row.length ≤ 100) (hW : TbW H0 t row F b fb wa cf an en m σ H) (hm : m ≠ 0)
    (hD : ∀ σ' H' m', m' < m → TbW H0 t row F b fb wa cf an en m' σ' H' → D.nx σ' H') :
    tSeq (tDrop (tBM g.K "list" rAppend (tVar 4) (tCons (tTup (tCons (teOf g W dT1) (tCons (tCallS (spT g fu) E (tCons (tVar 0) (tCons (tVar 1) (tCons (teOf g W dT2) (tCons (teOf g W dT3) tNil))))) tNil))) tNil))) (tAsg (teOf g W dT4) (gName 5)) D σ H := by
  have hLINE := LINE_big
  obtain ⟨a', fa', td, r, us, fd, ud, rfl, hKr, hNr, hrow', hF', hfa', hen', ht, hul, rfl, hex, hcu, hft, hnd, hfresh⟩ := hW
  cases r with
  | nil => exact absurd rfl hm
  | cons l kd w r =>
    obtain ⟨h0, h1, hw, hr⟩ := hKr
    have hNr2 := hNr
    rw [rtN_cons] at hNr2
    have hlw := rowT_len w
    have hlr := rowT_len r
    have hlen : row.length = a'.length + (rowT w).length + (rowT r).length + 2 + b.length := by rw [hrow', rowT]; simp only [List.length_append, List.length_cons]; omega
    have hen2 : en = a'.length + (rowT w).length + (rowT r).length + 2 := by rw [← hen', rowT]; simp only [List.length_append, List.length_cons]; omega
    have hpl : (parT w).length = (rowT w).length := (rowT_par (k := 4) (by omega) hw).len
    have er : row = (a' ++ [opI kd]) ++ rowT w ++ (oth (opI kd) :: rowT r ++ b) := by rw [hrow', rowT]; simp
    have er2 : row = (a' ++ opI kd :: (rowT w ++ [oth (opI kd)])) ++ rowT r ++ b := by rw [hrow', rowT]; simp
    have eF : F = (fa' ++ [(parT w).length + 1 + a'.length]) ++ (parT w).map (· + (a' ++ [opI kd]).length) ++ (a'.length :: ((parT r).map (· + ((parT w).length + 2))).map (· + a'.length) ++ fb) := by
      rw [hF', parT]
      simp [map_add_add, Nat.add_comm, Nat.add_left_comm]
    have eF2 : F = (fa' ++ ((parT w).length + 1 + a'.length) :: ((parT w).map (· + (1 + a'.length)) ++ [a'.length])) ++ (parT r).map (· + (a' ++ opI kd :: (rowT w ++ [oth (opI kd)])).length) ++ fb := by
      have q1 : (a' ++ opI kd :: (rowT w ++ [oth (opI kd)])).length = (parT w).length + 2 + a'.length := by simp [hpl]; omega
      rw [hF', parT, q1]
      simp only [List.map_cons, List.map_append, map_add_add, List.append_assoc, List.cons_append, List.nil_append, Nat.zero_add]
    have i1 : fIx (.str row) (.int (a'.length : Int)) = some (.im (.str [opI kd])) := ixS (by omega) (by omega) (by rw [er, Int.toNat_natCast]; simp)
    have i2 : fIx (.lst (li F)) (.int (a'.length : Int)) = some (.im (.int (((parT w).length + 1 + a'.length : Nat) : Int))) := ixL (by omega) (by rw [eF, Int.toNat_natCast]; unfold li; simp [hfa'])
    obtain ⟨_, i3⟩ := op_idx h0 (show kd < 4 by omega)
    have i4 := div2 kd
    have n1 : ((a' ++ [opI kd]).length : Int) = (a'.length : Int) + 1 := by simp
    have n2 : (((a' ++ [opI kd]).length + (rowT w).length : Nat) : Int) = (((parT w).length + 1 + a'.length : Nat) : Int) := by rw [hpl]; simp; omega
    have n3 : (((parT w).length + 1 + a'.length : Nat) : Int) + 1 = ((a' ++ opI kd :: (rowT w ++ [oth (opI kd)])).length : Int) := by rw [hpl]; simp; omega
    have d1 : dT1 [.im (.str row), .im (.lst (li F)), .im (.int (an : Int)), .im (.int (en : Int)), .no, .im (.int (a'.length : Int))] = .ok (.im (.int kd), [.im (.str row), .im (.lst (li F)), .im (.int (an : Int)), .im (.int (en : Int)), .no, .im (.int (a'.length : Int))]) := wpE_ex (by
      generalize li F = LF at *
      unfold dT1
      simpa! only [i1, i3, i4])
    have d2 : dT2 [.im (.str row), .im (.lst (li F)), .im (.int (an : Int)), .im (.int (en : Int)), .no, .im (.int (a'.length : Int))] = .ok (.im (.int ((a'.length : Int) + 1)), [.im (.str row), .im (.lst (li F)), .im (.int (an : Int)), .im (.int (en : Int)), .no, .im (.int (a'.length : Int))]) := wpE_ex (by
      generalize li F = LF at *
      unfold dT2
      simpa! only [true_and])
    have d3 : dT3 [.im (.str row), .im (.lst (li F)), .im (.int (an : Int)), .im (.int (en : Int)), .no, .im (.int (a'.length : Int))] = .ok (.im (.int (((parT w).length + 1 + a'.length : Nat) : Int)), [.im (.str row), .im (.lst (li F)), .im (.int (an : Int)), .im (.int (en : Int)), .no, .im (.int (a'.length : Int))]) := wpE_ex (by
      generalize (((parT w).length + 1 + a'.length : Nat) : Int) = jj at *
      generalize li F = LF at *
      unfold dT3
      simpa! only [i2])
    have d4 : dT4 [.im (.str row), .im (.lst (li F)), .im (.int (an : Int)), .im (.int (en : Int)), .no, .im (.int (a'.length : Int))] = .ok (.im (.int ((a' ++ opI kd :: (rowT w ++ [oth (opI kd)])).length : Int)), [.im (.str row), .im (.lst (li F)), .im (.int (an : Int)), .im (.int (en : Int)), .no, .im (.int (a'.length : Int))]) := wpE_ex (by
      rw [← n3]
      generalize (((parT w).length + 1 + a'.length : Nat) : Int) = jj at *
      generalize li F = LF at *
      unfold dT4
      simpa! only [i2])
    have ims := tb_env (g := g) (cf := cf) row F an en a'.length hwa
    obtain ⟨kf, ku⟩ := hft.kinds
    have sm : ∀ {H1 H2 : Hp} {b : Addr}, Grw H1 H2 → (∃ o, H1 b = some o) → H2 b = H1 b := fun gr ⟨o, ho⟩ => (gr _ o ho).trans ho.symm
    refine ⟨.ref cf, rfl, .inl ⟨rfl, us, SqL.of hcu⟩, ?_⟩
    refine te_int ims hex d1 fun H1 g1 => ?_
    refine ⟨_, rfl, _, rfl, ?_⟩
    refine te_int ims (hex.trans g1) d2 fun H2 g2 => ?_
    refine te_int ims ((hex.trans g1).trans g2) d3 fun H3 g3 => ?_
    have hex3 : Ex H0 H3 := ((hex.trans g1).trans g2).trans g3
    have g03 : Grw H H3 := (g1.trans g2).trans g3
    refine ⟨rfl, w, a' ++ [opI kd], oth (opI kd) :: rowT r ++ b, fa' ++ [(parT w).length + 1 + a'.length], a'.length :: ((parT r).map (· + ((parT w).length + 2))).map (· + a'.length) ++ fb, wa, hw, by omega, by simp [hfa'], by rw [← er]; exact hle, by rw [← er, n1, n2], by rw [← eF]; exact Rp.mono hex3 _ _ hwa, ?_⟩
    intro cc H4 ws f1 u1 g4 hc4 hft4 hnd4 hfr4
    refine ⟨by show 2 ≤ sizeLine; decide, fun tt htt => ?_⟩
    have e4 : Ex H0 H4 := hex3.trans g4
    have g04 : Grw H H4 := g03.trans g4
    have hcu4 : H4 cf = some (.lst us) := g04 _ _ hcu
    have ttc : cf ≠ tt := fun z => by rw [← z, hcu4] at htt; cases htt
    refine ⟨cf, us, .ref tt, rfl, rfl, (upd_ne ttc).trans hcu4, Nat.lt_of_le_of_lt (show us.length ≤ 100 by omega) (by decide), ?_⟩
    -- what the heap is like now
    have cfN : H0 cf = none := hfresh cf (by simp)
    have nn : ∀ {b}, H3 b = none → H0 b = none := fun {b} hb => by
      cases z : H0 b with
      | none => rfl
      | some o => rw [hex3 _ _ z] at hb; cases hb
    have ttN : H0 tt = none := by
      cases z : H0 tt with
      | none => rfl
      | some o => rw [e4 _ _ z] at htt; cases htt
    have chN : ∀ b ∈ cc :: (f1 ++ u1), b ≠ cf ∧ b ≠ tt := fun b hb => by
      refine ⟨fun z => ?_, fun z => ?_⟩
      · have := hfr4 b hb
        rw [z, g03 _ _ hcu] at this; cases this
      · have kk : ∃ o, H4 b = some o := by
          obtain ⟨q1, q2⟩ := hft4.kinds
          rcases List.mem_cons.mp hb with rfl | hb
          · exact ⟨_, hc4⟩
          · rcases List.mem_append.mp hb with hb | hb
            · obtain ⟨_, e⟩ := q1 b hb; exact ⟨_, e⟩
            · obtain ⟨_, e⟩ := q2 b hb; exact ⟨_, e⟩
        obtain ⟨o, ho⟩ := kk
        rw [z, htt] at ho; cases ho
    have doN : ∀ b, b ∈ fd ∨ b ∈ ud → b ≠ cf ∧ b ≠ tt ∧ H4 b = H b := fun b hb => by
      have kk : ∃ o, H b = some o := by
        rcases hb with hb | hb
        · obtain ⟨_, e⟩ := kf b hb; exact ⟨_, e⟩
        · obtain ⟨_, e⟩ := ku b hb; exact ⟨_, e⟩
      refine ⟨fun z => ?_, fun z => ?_, sm g04 kk⟩
      · rcases hb with hb | hb
        · rw [List.nodup_cons] at hnd
          exact hnd.1 (z ▸ hb)
        · obtain ⟨_, e⟩ := ku b hb
          rw [z, hcu] at e; cases e
      · obtain ⟨o, ho⟩ := kk
        rw [z] at ho
        rw [g04 _ _ ho] at htt; cases htt
    obtain ⟨H5, hH5⟩ : ∃ H5, upd (upd H4 tt (.tup [.int kd, .ref cc])) cf (.lst (us ++ [.ref tt])) = H5 := ⟨_, rfl⟩
    have v1 : H5 cf = some (.lst (us ++ [.ref tt])) := by rw [← hH5, upd_same]
    have v2 : H5 tt = some (.tup [.int kd, .ref cc]) := by rw [← hH5, upd_ne (Ne.symm ttc), upd_same]
    have v3 : ∀ b, b ≠ cf → b ≠ tt → H5 b = H4 b := fun b hb hb' => by rw [← hH5, upd_ne hb, upd_ne hb']
    have e5 : Ex H0 H5 := fun b o ho => by
      rw [v3 b (fun z => by rw [z, cfN] at ho; cases ho) (fun z => by rw [z, ttN] at ho; cases ho)]
      exact e4 b o ho
    show tAsg (teOf g W dT4) (gName 5) D _ (upd (upd H4 tt (.tup [.int kd, .ref cc])) cf (.lst (us ++ [.ref tt])))
    rw [hH5]
    refine te_int ims e5 d4 fun H6 g6 => ?_
    have hftd : FTr H6 td us fd ud := hft.congr fun b hb => by
      obtain ⟨x1, x2, x3⟩ := doN b hb
      have kk : ∃ o, H5 b = some o := by
        rw [v3 b x1 x2, x3]
        rcases hb with hb | hb
        · obtain ⟨_, e⟩ := kf b hb; exact ⟨_, e⟩
        · obtain ⟨_, e⟩ := ku b hb; exact ⟨_, e⟩
      rw [sm g6 kk, v3 b x1 x2, x3]
    have hcc6 : H6 cc = some (.lst ws) := g6 _ _ ((v3 cc (chN cc (by simp)).1 (chN cc (by simp)).2).trans hc4)
    have hft6 : FTr H6 w ws f1 u1 := by
      obtain ⟨q1, q2⟩ := hft4.kinds
      exact hft4.congr fun b hb => by
        obtain ⟨x1, x2⟩ := chN b (by rcases hb with hb | hb <;> simp [hb])
        have kk : ∃ o, H5 b = some o := by
          rw [v3 b x1 x2]
          rcases hb with hb | hb
          · obtain ⟨_, e⟩ := q1 b hb; exact ⟨_, e⟩
          · obtain ⟨_, e⟩ := q2 b hb; exact ⟨_, e⟩
        rw [sm g6 kk, v3 b x1 x2]
    have one : FTr H6 (.cons l kd w .nil) [.ref tt] (cc :: (f1 ++ [])) (tt :: (u1 ++ [])) := .cons (g6 _ _ v2) hcc6 hft6 .nil
    rw [List.append_nil, List.append_nil] at one
    refine hD _ H6 (rtN r) (by rw [rtN_cons]; omega) ⟨a' ++ opI kd :: (rowT w ++ [oth (opI kd)]), fa' ++ ((parT w).length + 1 + a'.length) :: ((parT w).map (· + (1 + a'.length)) ++ [a'.length]), catT td (.cons l kd w .nil), r, us ++ [.ref tt], fd ++ cc :: f1, ud ++ tt :: u1, rfl, hr, by omega, er2, eF2, by simp [hpl, hfa'], by rw [hen2]; simp; omega, ?_, by simp; omega, rfl, e5.trans g6, g6 _ _ v1, FTr.cat hftd one, ?_, ?_⟩
    · rw [catT_assoc]; exact ht
    · rw [List.nodup_cons] at hnd hnd4 ⊢
      refine ⟨fun z => ?_, ?_⟩
      · rcases List.mem_append.mp z with z | z
        · exact hnd.1 z
        · exact (chN cf (by rcases List.mem_cons.mp z with z | z <;> simp [z])).1 rfl
      · rw [List.nodup_append]
        refine ⟨hnd.2, List.nodup_cons.mpr hnd4, fun x hx y hy e => ?_⟩
        obtain ⟨_, e1⟩ := kf x hx
        have := hfr4 y (by rcases List.mem_cons.mp hy with z | z <;> simp [z])
        rw [← e, g03 _ _ e1] at this; cases this
    · intro z hz
      simp only [List.mem_cons, List.mem_append] at hz
      rcases hz with rfl | (hz | rfl | hz) | (hz | rfl | hz)
      · exact cfN
      · exact hfresh z (by simp [hz])
      · exact nn (hfr4 _ (by simp))
      · exact nn (hfr4 _ (by simp [hz]))
      · exact hfresh z (by simp [hz])
      · exact ttN
      · exact nn (hfr4 _ (by simp [hz]))
theorem tb_ok {vs : List V} {H0 : Hp} {Q : VK} {E0 : XK} (h : spT g (fu + 1) vs H0 Q E0) :
    tSeq (tAsg (tLst tNil) (gName 4)) (tSeq (tAsg (tVar 2) (gName 5)) (tSeq (tWhile (tB (tLt (tVar 5) (tVar 3))) (tSeq (tDrop (tBM g.K "list" rAppend (tVar 4) (tCons (tTup (tCons (teOf g W dT1) (tCons (tCallS (spT g fu) E (tCons (tVar 0) (tCons (tVar 1) (tCons (teOf g W dT2) (tCons (teOf g W dT3) tNil))))) tNil))) tNil))) (tAsg (teOf g W dT4) (gName 5)))) (tRet (tVar 4))))
      { nx := fun _ H' => Q .non H', rt := Q } (vs.map some ++ List.replicate 2 none) H0 := by
  have hLINE := LINE_big
  obtain ⟨_, t, a, b, fa, fb, wa, hK, hfu, hfa, hle, rfl, hwa, hQ⟩ := h
  obtain ⟨row, hrow⟩ : ∃ row, a ++ rowT t ++ b = row := ⟨_, rfl⟩
  obtain ⟨F, hF⟩ : ∃ F, fa ++ (parT t).map (· + a.length) ++ fb = F := ⟨_, rfl⟩
  obtain ⟨en, hen⟩ : ∃ en : Nat, a.length + (rowT t).length = en := ⟨_, rfl⟩
  rw [hrow] at hle ⊢
  rw [hF] at hwa
  rw [hen]
  refine ⟨by simp, fun cf hcf => ?_⟩
  refine ⟨_, rfl, ?_⟩
  have hcf0 : upd H0 cf (.lst []) cf = some (.lst []) := upd_same
  have hg0 : Ex H0 (upd H0 cf (.lst [])) := Grw.upd hcf
  refine ⟨TbW H0 t row F b fb wa cf a.length en,
    ⟨rtN t, a, fa, .nil, t, [], [], [], rfl, hK, Nat.le_refl _, hrow.symm, hF.symm, hfa, hen, rfl, Nat.zero_le _, rfl, hg0, hcf0, .nil, by simp, fun b hb => by rw [List.append_nil, List.mem_singleton] at hb; rw [hb]; exact hcf⟩, ?_⟩
  intro m σ H hW
  have hW0 := hW
  obtain ⟨a', fa', td, r, us, fd, ud, rfl, hKr, hNr, hrow', hF', hfa', hen', ht, hul, rfl, hex, hcu, hft, hnd, hfresh⟩ := hW
  refine ⟨_, rfl, _, rfl, _, _, rfl, rfl, _, rfl, ?_⟩
  cases r with
  | nil =>
    have e : decide ((a'.length : Int) < (en : Int)) = false := by
      rw [← hen']
      exact decide_eq_false (by show ¬ ((a'.length : Int) < ((a'.length + 0 : Nat) : Int)); omega)
    show (if decide ((a'.length : Int) < (en : Int)) = true then _ else _)
    rw [e, if_neg Bool.false_ne_true]
    refine ⟨_, rfl, ?_⟩
    rw [catT_nil] at ht
    rw [ht] at hft
    exact hQ cf H us fd ud hex hcu hft hnd hfresh
  | cons l kd w r2 =>
    have e : decide ((a'.length : Int) < (en : Int)) = true := by
      rw [← hen', rowT]
      exact decide_eq_true (by simp only [List.length_append, List.length_cons]; omega)
    show (if decide ((a'.length : Int) < (en : Int)) = true then _ else _)
    rw [e, if_pos rfl]
    refine ⟨fun σ' H' => ∃ m', m' < rtN (.cons l kd w r2) ∧ TbW H0 t row F b fb wa cf a.length en m' σ' H', fun _ _ h => h, ?_⟩
    exact tb_step hwa hfu hle hW0 (by rw [rtN_cons]; omega) fun σ' H' m' h1 h2 => ⟨m', h1, h2⟩
end
theorem row_tr : ∀ t : RT, trRow t = rowT t
  | .nil => rfl
  | .cons l kd w r => by rw [trRow, rowT, row_tr w, row_tr r]; rfl
theorem k_tr {k : Int} : ∀ t : RT, trK k t ↔ rtK k t
  | .nil => Iff.rfl
  | .cons l kd w r => by rw [trK, rtK, k_tr w, k_tr r]
theorem rtK_le {k k' : Int} (h : k ≤ k') : ∀ {t : RT}, rtK k t → rtK k' t
  | .nil, _ => trivial
  | .cons _ _ _ _, ⟨a, b, c, d⟩ => ⟨a, by omega, rtK_le h c, rtK_le h d⟩
section
variable {g : Gm} {W : WX} {E : L2.St → XK}
noncomputable def dO1 : Den := dCall F_need_partners [(false, dName 0), (false, dName 1)]
noncomputable def dO2 : Den := dUn fLen (dName 1)
theorem to_ok {vs : List V} {H0 : Hp} {Q : VK} {E0 : XK} (h : spO vs H0 Q E0) :
    tRet (tCallS (spT g 25) E (tCons (tVar 1) (tCons (teOf g W dO1) (tCons (tC (.int 0)) (tCons (teOf g W dO2) tNil))))) { nx := fun _ H' => Q .non H', rt := Q } (vs.map some ++ List.replicate 0 none) H0 := by
  have hLINE := LINE_big
  obtain ⟨_, k, t, hk, hk4, hK, hN, rfl, hQ⟩ := h
  rw [k_tr] at hK
  rw [row_tr]
  have hN : rtN t ≤ 20 := hN
  have hl := rowT_len t
  have np := fun (X : EX) (Q : Val → List Slot → Prop) => need_partners_eq (X := X) (Q := Q) hk hk4 (show (rowT t).length ≤ 40 by omega) (rowT_ok hk4 hK) (rowT_par hk4 hK)
  have ims : Ims g [.im (.int k), .im (.str (rowT t))] [some (.int k), some (.str (S (rowT t)))] H0 := {
    len := rfl
    im := fun i d e => by
      match i, e with
      | 0, e => cases e; exact ⟨_, rfl, rfl⟩
      | 1, e => cases e; exact ⟨_, rfl, rfl⟩
      | n + 2, e => simp at e
    no := fun i s e => by
      match i, e with
      | 0, e => cases e; rfl
      | 1, e => cases e; rfl
      | n + 2, e => simp at e }
  have d1 : dO1 [.im (.int k), .im (.str (rowT t))] = .ok (.ow (.lst (li (parT t))), [.im (.int k), .im (.str (rowT t))]) := wpE_ex (by
    generalize rowT t = row at *
    generalize li (parT t) = LF at *
    unfold dO1
    simpa! only [np])
  have d2 : dO2 [.im (.int k), .im (.str (rowT t))] = .ok (.im (.int ((rowT t).length : Int)), [.im (.int k), .im (.str (rowT t))]) := wpE_ex (by
    generalize rowT t = row at *
    unfold dO2
    simpa! only [true_and])
  refine ⟨_, rfl, ?_⟩
  refine te_own ims (Ex.refl H0) d1 fun p G1 H1 ⟨vs, e1, e2⟩ x1 g1 => ?_
  refine te_int ims g1 d2 fun H2 g2 => ?_
  have e3 : [] ++ (parT t).map (· + ([] : List Nat).length) ++ [] = parT t := by simp
  have e4 : [] ++ rowT t ++ [] = rowT t := by simp
  refine ⟨rfl, t, [], [], [], [], p, rtK_le (by omega) hK, by omega, rfl, by rw [e4]; omega, by rw [e4]; simp, ?_, ?_⟩
  · rw [e3]
    exact ⟨p, vs, rfl, SqL.of (g2 _ _ e1), Rps.mono (x1.trans g2) _ _ e2⟩
  · intro c H' us f u gr hc hft hnd hfr
    refine hQ c H' us f u ((Grw.trans g1 g2).trans gr) hc hft hnd fun b hb => ?_
    cases z : H0 b with
    | none => rfl
    | some o =>
      have := g2 _ _ (g1 _ _ z)
      rw [hfr b hb] at this; cases this
end
end
theorem slL_l1 (x : List D) (d : D) : fSl (.lst (x ++ [d])) none (some (-1)) = some (.ow (.lst x)) := by
  show some (Val.ow (.lst (cutD (x ++ [d]) none (some (-1))))) = _
  rw [cut_m1]
theorem slL_r1 (x : List D) (d : D) : fSl (.lst (x ++ [d])) (some (-1)) none = some (.ow (.lst [d])) := by
  show some (Val.ow (.lst (cutD (x ++ [d]) (some (-1)) none))) = _
  unfold cutD
  rw [HT.sIx_none]
  have : HT.sIx (x ++ [d]).length 0 (some (-1)) = x.length := by
    unfold HT.sIx
    simp
    omega
  rw [this]
  simp
theorem lrow_wp {k : Int} (hk4 : k ≤ 4) : ∀ (fu : Nat) (t : RT), rtN t < fu → rtN t ≤ 100 → rtK k t → wpF XF (F_law_rown fu) [.im (.lst t.D)] fun v l => v = .im (.str (rowT t)) ∧ l = [.im (.lst t.D)] := by
  have hLINE := LINE_big
  intro fu
  induction fu with
  | zero => intro t h; omega
  | succ fu ih =>
    intro t h h100 hK
    show wpF XF (fnOf 4 (B_law_row (F_law_rown fu))) _ _
    have hm := elT_mem hK
    have hlen := rowT_len t
    have hrow := elT_row t
    have hrv : fRev (.lst t.D) = some (.ow (.lst ((elT t).reverse.map tuT))) := by
      rw [elT_D t, List.map_reverse]; rfl
    generalize hel : elT t = el at *
    generalize t.D = td at *
    unfold B_law_row
    simpa! only [hrv, -List.map_reverse, -u_L_law_row_1]
    refine wp_for (fun i e => ∃ (l1 l2 : List (Int × RT)), el = l1 ++ l2 ∧ l2.length = i ∧ e = [.im (.lst td), .im (.str (l2.map paT).flatten), .no, .no]) ⟨el, [], by simp, rfl, rfl⟩ ?_ ?_
    · rintro e ⟨l1, l2, hl, hi, rfl⟩
      rw [List.length_map, List.length_reverse, hl, List.length_append] at hi
      obtain rfl : l1 = [] := List.length_eq_zero_iff.mp (by omega)
      rw [List.nil_append] at hl
      rw [← hl, hrow]
      simpa! only [true_and]
    · rintro i x e hx ⟨l1, l2, hl, hi, rfl⟩ K hK'
      rw [hl, List.reverse_append, List.map_append, List.getElem?_append_right (by simp [hi])] at hx
      simp only [List.length_map, List.length_reverse, hi, Nat.sub_self] at hx
      rcases List.eq_nil_or_concat l1 with rfl | ⟨l1', p, rfl⟩
      · simp at hx
      · rw [List.concat_eq_append] at *
        rw [List.reverse_append] at hx
        obtain rfl : tuT p = x := by simpa using hx
        obtain ⟨h0, h1, hw, hlt⟩ := hm p (by rw [hl]; simp)
        obtain ⟨kd, w⟩ := p
        have h0 : 0 ≤ kd := h0
        have h1 : kd < k := h1
        have hw : rtK k w := hw
        have hlt : rtN w < rtN t := hlt
        obtain ⟨v, l, ev, rfl, rfl⟩ := wpF_ex (ih w (by omega) (by omega) hw)
        have cw : ∀ (X : EX) (Q : Val → List Slot → Prop), wpF X (F_law_rown fu) [.im (.lst w.D)] Q = Q (.im (.str (rowT w))) [.im (.lst w.D)] := fun X Q => wpF_eq ev
        obtain ⟨i1, i2⟩ := op_ix h0 (show kd < 4 by omega)
        have hwl := rowT_len w
        have hx2 : (l2.map paT).flatten.length ≤ 200 := by
          have := congrArg List.length hrow
          rw [hl] at this
          simp only [List.map_append, List.flatten_append, List.length_append] at this
          omega
        have e1 : fAdd (.str [opI kd]) (.str (rowT w)) = some (.im (.str (opI kd :: rowT w))) := addS (by simp only [List.length_cons, List.length_nil]; omega)
        have e2 : fAdd (.str (opI kd :: rowT w)) (.str [oth (opI kd)]) = some (.im (.str (paT (kd, w)))) := by
          rw [addS (by simp only [List.length_cons, List.length_nil]; omega)]; rfl
        have lp : (paT (kd, w)).length ≤ 300 := by show (opI kd :: (rowT w ++ [oth (opI kd)])).length ≤ 300; simp only [List.length_cons, List.length_append, List.length_nil]; omega
        have e3 : fAdd (.str (paT (kd, w))) (.str (l2.map paT).flatten) = some (.im (.str (((kd, w) :: l2).map paT).flatten)) := by
          rw [addS (by omega)]; rfl
        rw [tg_tuT]
        have hK'' := fun z => hK' z
        generalize hz : (((kd, w) :: l2).map paT).flatten = zz at *
        generalize (l2.map paT).flatten = yy at *
        generalize paT (kd, w) = pw at *
        generalize w.D = wd at *
        simpa! only [cw, i1, i2, e1, e2, e3]
        exact hK' _ ⟨l1', (kd, w) :: l2, by rw [hl]; simp, by simp [hi], by rw [hz]⟩
theorem lrow_eq {k : Int} (hk4 : k ≤ 4) {t : RT} (hN : rtN t ≤ 20) (hK : rtK k t) {Q : Val → List Slot → Prop} : wpF X F_law_row [.im (.lst t.D)] Q = Q (.im (.str (rowT t))) [.im (.lst t.D)] := by
  obtain ⟨v, l, ev, rfl, rfl⟩ := wpF_ex (lrow_wp hk4 25 t (by omega) (by omega) hK)
  exact wpF_eq ev
theorem zip_memK {α : Type} (f g : α → D) : ∀ (l : List α) (d : D), d ∈ zipL (l.map f) (l.map g) → ∃ p ∈ l, d = .tup [f p, g p]
  | [], d, h => by cases h
  | x :: l, d, h => by
    rcases List.mem_cons.mp (show d ∈ D.tup [f x, g x] :: zipL (l.map f) (l.map g) from h) with rfl | h
    · exact ⟨x, by simp, rfl⟩
    · obtain ⟨p, hp, e⟩ := zip_memK f g l d h
      exact ⟨p, by simp [hp], e⟩
theorem lis_wp {k : Int} : ∀ (fu : Nat) (t : RT), rtN t < fu → rtN t ≤ 100 → rtK k t → wpF XF (F_law_isn fu) [.im (.lst t.D), .im (.lst t.D)] fun v l => v = .im (.bl true) ∧ l = [.im (.lst t.D), .im (.lst t.D)] := by
  have hLINE := LINE_big
  intro fu
  induction fu with
  | zero => intro t h; omega
  | succ fu ih =>
    intro t h h100 hK
    show wpF XF (fnOf 4 (B_law_is (F_law_isn fu))) _ _
    have hm := elT_mem hK
    have hD := elT_D t
    have hl := D_len t
    have i0 : fIsi' "list" (.lst t.D) = some (.im (.bl true)) := rfl
    have ld : fLen (.lst t.D) = some (.im (.int ((t.D.length : Nat) : Int))) := rfl
    have ni : ∀ i : Int, fNe (.int i) (.int i) = some (.im (.bl false)) := fun i => by rw [fNe_int]; simp
    have zm := zip_memK tuT tuT (elT t)
    rw [← hD] at zm
    have lz := zipL_len t.D t.D
    generalize t.D = td at *
    generalize elT t = el at *
    unfold B_law_is
    simpa! only [i0, ld, ni, -fNe_int, -u_L_law_is_1]
    refine wp_forK ?_ fun d hd K hK' => ?_
    · simpa! only [true_and]
    · obtain ⟨p, hp, rfl⟩ := zm d hd
      obtain ⟨h0, h1, hw, hlt⟩ := hm p hp
      obtain ⟨kd, w⟩ := p
      have hw : rtK k w := hw
      have hlt : rtN w < rtN t := hlt
      obtain ⟨v, l, ev, rfl, rfl⟩ := wpF_ex (ih w (by omega) (by omega) hw)
      have cw : ∀ (X : EX) (Q : Val → List Slot → Prop), wpF X (F_law_isn fu) [.im (.lst w.D), .im (.lst w.D)] Q = Q (.im (.bl true)) [.im (.lst w.D), .im (.lst w.D)] := fun X Q => wpF_eq ev
      have a1 : fIsi' "tuple" (tuT (kd, w)) = some (.im (.bl true)) := rfl
      have a2 : fLen (tuT (kd, w)) = some (.im (.int 2)) := rfl
      have a3 : fIx (tuT (kd, w)) (.int 0) = some (.im (.int kd)) := rfl
      have a4 : fIx (tuT (kd, w)) (.int 1) = some (.im (.lst w.D)) := rfl
      have a5 : fIsi' "bool" (.int kd) = some (.im (.bl false)) := rfl
      have a6 : fIsi' "int" (.int kd) = some (.im (.bl true)) := rfl
      generalize tuT (kd, w) = tw at *
      generalize w.D = wd at *
      simpa! only [a1, a2, a3, a4, a5, a6, ni, cw, -fNe_int]
      exact hK'
theorem rng_app (a : Int) (m n : Nat) : rng a 1 m ++ rng (a + (m : Nat)) 1 n = rng a 1 (m + n) := by
  unfold rng
  rw [List.range_add, List.map_append, List.map_map]
  congr 1
  refine List.map_congr_left fun i _ => ?_
  show D.int _ = D.int _
  congr 1
  push_cast
  omega
theorem lnum_wp {k : Int} : ∀ (fu : Nat) (t : RT) (n : Int), rtN t < fu → rtN t ≤ 100 → rtK k t → wpF XF (F_law_numbersn fu) [.im (.lst (spDt t n ++ [.int (n + (rtN t : Nat))]))] fun v l => v = .ow (.lst (rng n 1 (rtN t + 1))) ∧ l = [.im (.lst (spDt t n ++ [.int (n + (rtN t : Nat))]))] := by
  have hLINE := LINE_big
  intro fu
  induction fu with
  | zero => intro t n h; omega
  | succ fu ih =>
    intro t n h h100 hK
    show wpF XF (fnOf 3 (B_law_numbers (F_law_numbersn fu))) _ _
    have s1 := slL_l1 (spDt t n) (.int (n + (rtN t : Nat)))
    have s2 := slL_r1 (spDt t n) (.int (n + (rtN t : Nat)))
    have n1 : fNeg (.int 1) = some (.im (.int (-1))) := rfl
    generalize hxs : spDt t n ++ [.int (n + (rtN t : Nat))] = xs at *
    generalize hds : spDt t n = ds at *
    unfold B_law_numbers
    simpa! only [s1, n1, -u_L_law_numbers_1]
    refine wp_for (fun i e => ∃ (r : RT) (m : Nat), ds.drop i = spDt r (n + (m : Nat)) ∧ rtK k r ∧ m + rtN r = rtN t ∧ e = [.im (.lst xs), .ow (.lst (rng n 1 m)), .no]) ⟨t, 0, by rw [← hds]; simp, hK, by omega, rfl⟩ ?_ ?_
    · rintro e ⟨r, m, hdr, hKr, hm, rfl⟩
      rw [List.drop_length] at hdr
      cases r with
      | cons l kd w r => rw [spDt] at hdr; cases hdr
      | nil =>
        have hm : m = rtN t := by have e : rtN RT.nil = 0 := rfl; omega
        subst hm
        have e1 : fAdd (.lst (rng n 1 (rtN t))) (.lst [.int (n + (rtN t : Nat))]) = some (.ow (.lst (rng n 1 (rtN t + 1)))) := by
          have e2 : ([.int (n + (rtN t : Nat))] : List D) = rng (n + (rtN t : Nat)) 1 1 := by simp [rng]
          rw [e2, addL (by rw [rng_len, rng_len]; omega), rng_app]
        generalize rng n 1 (rtN t) = r1 at *
        generalize rng n 1 (rtN t + 1) = r2 at *
        simpa! only [s2, n1, e1]
    · rintro i x e hx ⟨r, m, hdr, hKr, hm, rfl⟩ K hK'
      have hi := (List.getElem?_eq_some_iff.mp hx).1
      have ed : ds.drop i = x :: ds.drop (i + 1) := by
        rw [List.drop_eq_getElem_cons hi]
        congr 1
        exact Option.some.inj ((List.getElem?_eq_getElem hi).symm.trans hx)
      rw [hdr] at ed
      cases r with
      | nil => rw [spDt] at ed; cases ed
      | cons l kd w r =>
        rw [spDt] at ed
        injection ed with ea eb
        obtain ⟨h0, h1, hw, hr⟩ := hKr
        rw [rtN_cons] at hm
        have ew : w.labs.length = rtN w := rfl
        rw [ew] at ea eb
        obtain ⟨v, l, ev, rfl, rfl⟩ := wpF_ex (ih w (n + (m : Nat)) (by omega) (by omega) hw)
        have cw : ∀ (X : EX) (Q : Val → List Slot → Prop), wpF X (F_law_numbersn fu) [.im (.lst (spDt w (n + (m : Nat)) ++ [.int (n + (m : Nat) + (rtN w : Nat))]))] Q = Q (.ow (.lst (rng (n + (m : Nat)) 1 (rtN w + 1)))) [.im (.lst (spDt w (n + (m : Nat)) ++ [.int (n + (m : Nat) + (rtN w : Nat))]))] := fun X Q => wpF_eq ev
        have a1 : fIx x (.int 1) = some (.im (.lst (spDt w (n + (m : Nat)) ++ [.int (n + (m : Nat) + (rtN w : Nat))]))) := by rw [← ea]; rfl
        have e1 : fAdd (.lst (rng n 1 m)) (.lst (rng (n + (m : Nat)) 1 (rtN w + 1))) = some (.ow (.lst (rng n 1 (m + (rtN w + 1))))) := by
          rw [addL (by rw [rng_len, rng_len]; omega), rng_app]
        generalize (spDt w (n + (m : Nat)) ++ [.int (n + (m : Nat) + (rtN w : Nat))]) = ws at *
        generalize rng (n + (m : Nat)) 1 (rtN w + 1) = r3 at *
        have hK2 := fun z => hK' z
        generalize hr4 : rng n 1 (m + (rtN w + 1)) = r4 at *
        generalize rng n 1 m = r5 at *
        simpa! only [a1, cw, e1]
        refine hK' _ ⟨r, m + (rtN w + 1), ?_, hr, by omega, by rw [hr4]⟩
        rw [← eb]
        congr 1
        push_cast
        omega
theorem op_kd {k : Int} (hk : 1 ≤ k) (hk4 : k ≤ 4) {c : Nat} (hc : isOp c = true) (hs : c ∈ sgs k.toNat) : ∃ kd : Int, 0 ≤ kd ∧ kd < k ∧ opI kd = c := by
  have b : k = 1 ∨ k = 2 ∨ k = 3 ∨ k = 4 := by omega
  refine op_cases hc (P := fun c => c ∈ sgs k.toNat → ∃ kd : Int, 0 ≤ kd ∧ kd < k ∧ opI kd = c) ?_ ?_ ?_ ?_ hs
  · intro _; exact ⟨0, by omega, by omega, rfl⟩
  · intro h
    refine ⟨1, by omega, ?_, rfl⟩
    rcases b with rfl | rfl | rfl | rfl <;> first | omega | exact absurd h (by decide)
  · intro h
    refine ⟨2, by omega, ?_, rfl⟩
    rcases b with rfl | rfl | rfl | rfl <;> first | omega | exact absurd h (by decide)
  · intro h
    refine ⟨3, by omega, ?_, rfl⟩
    rcases b with rfl | rfl | rfl | rfl <;> first | omega | exact absurd h (by decide)
theorem rr_tree {k : Int} (hk : 1 ≤ k) (hk4 : k ≤ 4) {row : List Nat} (h : RR row) : rowOk k.toNat row → ∃ t, rtK k t ∧ rowT t = row := by
  induction h with
  | nil => intro _; exact ⟨.nil, trivial, rfl⟩
  | @cat c x y hc _ _ ih1 ih2 =>
    intro ho
    obtain ⟨w, hw, e1⟩ := ih1 fun z hz => ho z (by simp [hz])
    obtain ⟨r, hr, e2⟩ := ih2 fun z hz => ho z (by simp [hz])
    obtain ⟨kd, h0, h1, e3⟩ := op_kd hk hk4 hc (ho c (by simp))
    exact ⟨.cons 0 kd w r, ⟨h0, h1, hw, hr⟩, by rw [rowT, e1, e2, e3]⟩
theorem rr_tree20 {k : Int} (hk : 1 ≤ k) (hk4 : k ≤ 4) {row : List Nat} (h : RR row) (ho : rowOk k.toNat row) (hl : row.length ≤ 40) : ∃ t, rtK k t ∧ rowT t = row ∧ rtN t ≤ 20 := by
  obtain ⟨t, a, e⟩ := rr_tree hk hk4 h ho
  exact ⟨t, a, e, by have := rowT_len t; rw [e] at this; omega⟩
theorem copy_rt {k : Int} {t : RT} (hN : rtN t ≤ 20) (hK : rtK k t) {Q : Val → List Slot → Prop} : wpF X F_law_copy [.im (.lst t.D)] Q = Q (.ow (.lst t.D)) [.im (.lst t.D)] := by
  obtain ⟨v, l, ev, rfl, rfl⟩ := wpF_ex (copy_wp 25 t (by omega) (by omega) hK)
  exact wpF_eq ev
theorem okRng (a : Int) (n : Nat) : okDs 63 (rng a 1 n) = true := okDs_all _ _ fun d hd => by
  obtain ⟨i, hi⟩ := List.getElem?_of_mem hd
  obtain ⟨_, rfl⟩ := rng_get hi
  exact okD_int _ _
theorem kinds_turn {ns : List Int} {k kk : Int} {t : RT} {a b c : Int} (hk : 1 ≤ k) (hk4 : k ≤ 4) (h1 : 1 ≤ kk) (h4 : kk ≤ 4) (hK : rtK k t) (hKK : rtK kk t) (hN : rtN t ≤ 20) {R : Fl → G.Env → Prop} {s5 : Slot} (h5 : s5 = .ow (.lst t.D) ∨ s5 = .im (.lst t.D))
    (q : R .nx [.im (.lst (ns.map D.int)), .no, .ow (.lst [.int a, .int b, .int c]), .im (.int k), .im (.lst t.D), .im (.lst t.D), .im (.str (rowT t)), .no, .no, .no, .no, .no]) :
    wpS XF L_law_2 [.im (.lst (ns.map D.int)), .no, .ow (.lst [.int a, .int b, .int c]), .im (.int k), .im (.lst t.D), s5, .im (.str (rowT t)), .im (.int kk), .no, .no, .no, .no] R := by
  have hLINE := LINE_big
  have hl := rowT_len t
  have ro := fun (X : EX) (Q : Val → List Slot → Prop) => row_of_tree_eq (X := X) (Q := Q) h1 h4 hN hKK
  obtain ⟨v, l, ev, rfl, rfl⟩ := wpF_ex (lis_wp 25 t (by omega) (by omega) hK)
  have li := fun (X : EX) (Q : Val → List Slot → Prop) => (wpF_eq ev : wpF X F_law_is [.im (.lst t.D), .im (.lst t.D)] Q = Q (.im (.bl true)) [.im (.lst t.D), .im (.lst t.D)])
  obtain ⟨v, l, ev2, rfl, rfl⟩ := wpF_ex (lnum_wp 25 t 0 (by omega) (by omega) hK)
  have ln := fun (X : EX) (Q : Val → List Slot → Prop) => (wpF_eq ev2 : wpF X F_law_numbers [.im (.lst (spDt t 0 ++ [.int (0 + (rtN t : Nat))]))] Q = Q (.ow (.lst (rng 0 1 (rtN t + 1)))) [.im (.lst (spDt t 0 ++ [.int (0 + (rtN t : Nat))]))])
  rw [show (0 : Int) + ((rtN t : Nat) : Int) = ((rtN t : Nat) : Int) by omega] at ln
  have is0 : fIsi' "str" (.str (rowT t)) = some (.im (.bl true)) := rfl
  have nr : fNe (.str (rowT t)) (.str (rowT t)) = some (.im (.bl false)) := by rw [fNe_str]; simp
  have nd : fNe (.lst t.D) (.lst t.D) = some (.im (.bl false)) := neL_self (okT t 63 (by omega))
  have lr : fLen (.str (rowT t)) = some (.im (.int (2 * ((rtN t : Nat) : Int)))) := by rw [lenS (by omega), hl]; push_cast; rfl
  have dv := div2 ((rtN t : Nat) : Int)
  have ni : ∀ i : Int, fNe (.int i) (.int i) = some (.im (.bl false)) := fun i => by rw [fNe_int]; simp
  have nn : fNe (.lst (rng 0 1 (rtN t + 1))) (.lst (rng 0 1 (rtN t + 1))) = some (.im (.bl false)) := neL_self (okRng _ _)
  have e1 : (((rtN t : Nat) : Int) + 1).toNat = rtN t + 1 := by omega
  have spc : SpC 7 6 9 10 (dNot (dCall F_law_is [(false, (dName 9)), (false, (dName 4))])) (dOr (dBin fNe (dName 10) (dBin fAdd (dBin fDiv (dUn fLen (dName 6)) (dC (.int 2))) (dC (.int 1)))) (dBin fNe (dCall F_law_numbers [(false, (dName 9))]) (dLRg (dName 10))))
      [.im (.lst (ns.map D.int)), .no, .ow (.lst [.int a, .int b, .int c]), .im (.int k), .im (.lst t.D), .im (.lst t.D), .im (.str (rowT t)), .im (.int kk), .im (.str (rowT t)), .no, .no, .no] kk t := {
    a := rfl
    b := by rw [row_tr]; rfl
    k1 := h1
    k4 := h4
    tk := (k_tr t).mpr hKK
    sz := hN
    nf := rfl
    nm := rfl
    ne := by decide
    fl := fun i s e ⟨d, hd⟩ => by
      match i, e with
      | 0, e => cases e; cases hd
      | 1, e => cases e; cases hd
      | 2, e => cases e; exact ⟨_, rfl, rfl⟩
      | 3, e => cases e; cases hd
      | 4, e => cases e; cases hd
      | 5, e => cases e; cases hd
      | 6, e => cases e; cases hd
      | 7, e => cases e; cases hd
      | 8, e => cases e; cases hd
      | 9, e => cases e; cases hd
      | 10, e => cases e; cases hd
      | 11, e => cases e; cases hd
      | n + 12, e => simp at e
    e2 := ⟨.im (.bl false), wpE_ex (by
      generalize t.D = td at *
      generalize rowT t = row at *
      simpa! only [li]), rfl⟩
    e4 := ⟨.im (.bl false), wpE_ex (by
      show wpE XF _ [.im (.lst (ns.map D.int)), .no, .ow (.lst [.int a, .int b, .int c]), .im (.int k), .im (.lst t.D), .im (.lst t.D), .im (.str (rowT t)), .im (.int kk), .im (.str (rowT t)), .im (.lst (spDt t 0 ++ [.int ((rtN t : Nat) : Int)])), .im (.int (((rtN t : Nat) : Int) + 1)), .no] fun w e => w = Val.im (.bl false) ∧ e = [.im (.lst (ns.map D.int)), .no, .ow (.lst [.int a, .int b, .int c]), .im (.int k), .im (.lst t.D), .im (.lst t.D), .im (.str (rowT t)), .im (.int kk), .im (.str (rowT t)), .im (.lst (spDt t 0 ++ [.int ((rtN t : Nat) : Int)])), .im (.int (((rtN t : Nat) : Int) + 1)), .no]
      clear nr nd ro li ev ev2 hl
      rw [← e1] at nn ln
      generalize (spDt t 0 ++ [.int ((rtN t : Nat) : Int)]) = ws at *
      have hm : (((rtN t : Nat) : Int) + 1).toNat ≤ 21 := by omega
      have hp : 0 ≤ ((rtN t : Nat) : Int) := by omega
      have hp2 : ((rtN t : Nat) : Int) ≤ 20 := by omega
      generalize ((rtN t : Nat) : Int) = m at *
      generalize hrg : rng 0 1 (m + 1).toNat = rg at *
      generalize t.D = td at *
      generalize rowT t = row at *
      simpa! only [lr, dv, ni, ln, nn, hrg, -fNe_int]
      exact ⟨by omega, by omega⟩), rfl⟩ }
  generalize t.D = td at *
  generalize rowT t = row at *
  rcases h5 with rfl | rfl
  · simpa! only [ro, is0, nr, nd, -fNe_str]
    refine wpS_spoil spc ?_
    simpa! only [true_and]
    exact q
  · simpa! only [ro, is0, nr, nd, -fNe_str]
    refine wpS_spoil spc ?_
    simpa! only [true_and]
    exact q
theorem turn_wp {ns : List Int} {tu : Int} (h0 : 0 ≤ tu) (h1 : tu ≤ 1000) {R : Fl → G.Env → Prop}
    (q : R .nx [.im (.lst (ns.map D.int)), .no, .no, .no, .no, .no, .no, .no, .no, .no, .no, .no]) :
    wpS XF L_law_1 [.im (.lst (ns.map D.int)), .im (.int tu), .no, .no, .no, .no, .no, .no, .no, .no, .no, .no] R := by
  have hLINE := LINE_big
  simpa! only [-u_S_law_10]
  refine pool_wp h0 h1 fun d0 p0 => ?_
  simpa! only [-u_S_law_9]
  refine take_wp (n := 800000) (p0.le (by omega)) (by omega) (by omega) fun r1 d1 a1 b1 p1 => ?_
  have hk : 1 ≤ 1 + r1 := by omega
  have hk4 : 1 + r1 ≤ 4 := by omega
  simpa! only [-u_S_law_8]
  generalize 1 + r1 = k at *
  refine tree_wp (n := 700000) (p1.le (by omega)) hk hk4 (by omega) (by omega) fun t d2 hK hN p2 => ?_
  have hN : rtN t ≤ 20 := by omega
  have cr := fun (X : EX) (Q : Val → List Slot → Prop) => copy_rt (X := X) (Q := Q) (k := k) hN hK
  have lr := fun (X : EX) (Q : Val → List Slot → Prop) => lrow_eq (X := X) (Q := Q) hk4 hN hK
  have kt := fun (a b c kk : Int) (h1 : 1 ≤ kk) (h4 : kk ≤ 4) (hKK : rtK kk t) (s5 : Slot) (h5 : s5 = .ow (.lst t.D) ∨ s5 = .im (.lst t.D)) (R : Fl → G.Env → Prop) => kinds_turn (ns := ns) (a := a) (b := b) (c := c) (R := R) hk hk4 h1 h4 hK hKK hN h5
  have k4 : rtK 4 t := rtK_le hk4 hK
  generalize t.D = td at *
  generalize rowT t = row at *
  simpa! only [cr, lr, -u_L_law_2, -u_S_law_5]
  refine wp_for (fun i e => ∃ s5, (s5 = .ow (.lst td) ∨ s5 = .im (.lst td)) ∧ e = [.im (.lst (ns.map D.int)), .no, .ow d2, .im (.int k), .im (.lst td), s5, .im (.str row), .no, .no, .no, .no, .no]) ⟨_, .inl rfl, rfl⟩ ?_ ?_
  · rintro e ⟨s5, h5, rfl⟩
    have rest : ∀ s5, wpS XF S_law_5 [.im (.lst (ns.map D.int)), .no, .ow d2, .im (.int k), .im (.lst td), s5, .im (.str row), .no, .no, .no, .no, .no] (dropK [1, 2, 3, 4, 5, 6, 7, 8, 9, 10, 11] R) := fun s5 => by
      simpa! only [true_and]
      refine right_row_wp (n := 600000) (p2.le (by omega)) hk hk4 (by omega) (by omega) fun other d3 ho hok hol p3 => ?_
      obtain ⟨s, sK, es, sN⟩ := rr_tree20 hk hk4 ho hok (by omega)
      have sK4 : rtK 4 s := rtK_le hk4 sK
      have t1 := fun (X : EX) (Q : Val → List Slot → Prop) => tree_of_eq (X := X) (Q := Q) hk hk4 sN sK
      have t2 := fun (X : EX) (Q : Val → List Slot → Prop) => tree_of_eq (X := X) (Q := Q) (k := 4) (by omega) (by omega) sN sK4
      have t3 := fun (X : EX) (Q : Val → List Slot → Prop) => row_of_tree_eq (X := X) (Q := Q) (k := 4) (by omega) (by omega) sN sK4
      have t4 := fun (X : EX) (Q : Val → List Slot → Prop) => lrow_eq (X := X) (Q := Q) hk4 sN sK
      rw [es] at t1 t2 t3 t4
      have nr : fNe (.str other) (.str other) = some (.im (.bl false)) := by rw [fNe_str]; simp
      generalize s.D = sd at *
      simpa! only [t1, t2, t3, t4, nr, -fNe_str]
      cases s5 <;> simpa! only [q]
    simpa! only [-u_S_law_5]
    exact rest s5
  · rintro i d e hd ⟨s5, h5, rfl⟩ K hK'
    obtain ⟨kk, rfl, g1, g4, gK⟩ : ∃ kk : Int, d = .int kk ∧ 1 ≤ kk ∧ kk ≤ 4 ∧ rtK kk t := by
      have := List.mem_of_getElem? hd
      simp only [List.mem_cons, List.not_mem_nil, or_false] at this
      rcases this with rfl | rfl | rfl
      · exact ⟨k, rfl, hk, hk4, hK⟩
      · exact ⟨4, rfl, by omega, by omega, k4⟩
      · exact ⟨k, rfl, hk, hk4, hK⟩
    obtain ⟨a, b, c, rfl, _, _⟩ := p2
    simpa! only [-u_L_law_2]
    refine kt a b c kk g1 g4 gK s5 h5 _ ?_
    simpa! only [true_and]
    exact hK' _ ⟨_, .inr rfl, rfl⟩
theorem law_wp (ns : List Int) (hns : ns.length ≤ 63) : wpF XF F_law [.im (.lst (ns.map D.int))] (fun w _ => w = .im (.bl true)) := by
  have hLINE := LINE_big
  have e1 := fun (X : EX) (Q : Val → List Slot → Prop) => tree_of_eq (X := X) (Q := Q) (k := 1) (t := .nil) (by omega) (by omega) (by decide) trivial
  have e2 := fun (X : EX) (Q : Val → List Slot → Prop) => row_of_tree_eq (X := X) (Q := Q) (k := 1) (t := .nil) (by omega) (by omega) (by decide) trivial
  have e3 := fun (X : EX) (Q : Val → List Slot → Prop) => tree_of_eq (X := X) (Q := Q) (k := 4) (t := .cons 0 0 (.cons 0 1 .nil .nil) (.cons 0 3 .nil .nil)) (by omega) (by omega) (by decide) ⟨by omega, by omega, ⟨by omega, by omega, trivial, trivial⟩, by omega, by omega, trivial, trivial⟩
  have e1 : ∀ (X : EX) (Q : Val → List Slot → Prop), wpF X F_tree_of [.im (.int 1), .im (.str [])] Q = Q (.ow (.lst [])) [.im (.int 1), .im (.str [])] := e1
  have e2 : ∀ (X : EX) (Q : Val → List Slot → Prop), wpF X F_row_of_tree [.im (.int 1), .im (.lst [])] Q = Q (.im (.str [])) [.im (.int 1), .im (.lst [])] := e2
  have e3 : ∀ (X : EX) (Q : Val → List Slot → Prop), wpF X F_tree_of [.im (.int 4), .im (.str [40, 91, 93, 41, 60, 62])] Q = Q (.ow (.lst [.tup [.int 0, .lst [.tup [.int 1, .lst []]]], .tup [.int 3, .lst []]])) [.im (.int 4), .im (.str [40, 91, 93, 41, 60, 62])] := e3
  have f1 : fEq (.lst []) (.lst []) = some (.im (.bl true)) := rfl
  have f2 : fEq (.str []) (.str []) = some (.im (.bl true)) := rfl
  have f3 : fEq (.lst [.tup [.int 0, .lst [.tup [.int 1, .lst []]]], .tup [.int 3, .lst []]]) (.lst [.tup [.int 0, .lst [.tup [.int 1, .lst []]]], .tup [.int 3, .lst []]]) = some (.im (.bl true)) := eqL_self rfl
  unfold F_law B_law
  simpa! only [-u_L_law_1]
  refine wp_forK ?_ fun d hd K hK => ?_
  · simpa! only [e1, e2, e3, f1, f2, f3, -fEq_str]
  obtain ⟨i, rfl, hi⟩ : ∃ i : Nat, d = .int i ∧ i < 63 := by
    obtain ⟨i, hi⟩ := List.getElem?_of_mem hd
    obtain ⟨h1, rfl⟩ := rng_get hi
    exact ⟨i, by simp, by omega⟩
  simpa! only [-u_L_law_1]
  refine turn_wp (by omega) (by omega) ?_
  simpa! only [true_and]
  exact hK
theorem keeps : Keeps F_law := fun ns hns => wp_true (law_wp ns hns)
end K09
set_option Elab.async false
set_option linter.all false
set_option maxRecDepth 100000
set_option maxHeartbeats 4000000
namespace K09
open PySem PySem.Spec PyProof.Rows L2 SX G
noncomputable abbrev PW : Program := PySem.Challenge.pw_bracketrows_k09_trees_of_rows
noncomputable def top (i : Nat) : Stmt := PW.main.body.getD i (.Pass ⟨0, 0, 0, 0⟩)
structure Facts (K : PySem.W.Frag) (mg : Str → Option Value) : Prop where
  z_len : mg "len" = none
  z_min : mg "min" = none
  z_range : mg "range" = none
  z_isinstance : mg "isinstance" = none
  z_int : mg "int" = none
  z_bool : mg "bool" = none
  c_MOST_KINDS : ∃ t, mg "MOST_KINDS" = some (.int 4 t)
  e_1 : ExcF K mg 1
  c_OPENING : ∃ t, mg "OPENING" = some (.str (S [40, 91, 123, 60]) t)
  c_CLOSING : ∃ t, mg "CLOSING" = some (.str (S [41, 93, 125, 62]) t)
  z_tuple : mg "tuple" = none
  z_list : mg "list" = none
  c_MOST_TUPLES : ∃ t, mg "MOST_TUPLES" = some (.int 20 t)
  e_4 : ExcF K mg 4
  c_BRACKETS : ∃ t, mg "BRACKETS" = some (.str (S [40, 41, 91, 93, 123, 125, 60, 62]) t)
  z_str : mg "str" = none
  c_MOST_SIGNS : ∃ t, mg "MOST_SIGNS" = some (.int 40 t)
  c_UNKNOWN : ∃ t, mg "UNKNOWN" = some (.str (S [63]) t)
  e_2 : ExcF K mg 2
  z_enumerate : mg "enumerate" = none
  e_3 : ExcF K mg 3
  z_zip : mg "zip" = none
  z_max : mg "max" = none
section
variable {w : World} {K : PySem.W.Frag} {mg : Str → Option Value} {base : Heap}
noncomputable abbrev s_law_pool : Stmt := top 31
theorem sc_law_pool : FnScope ["script", "k", "cell"] ["script", "k"] (defScope s_law_pool) := ⟨rfl, rfl, rfl, by decide +kernel, rfl, by decide +kernel, by decide +kernel⟩
theorem w_law_pool (T : Facts K mg) {f : Addr} {fd : FuncData} (F : Fun K "_law_pool" "_law_pool" s_law_pool f fd) (hm : mg "_law_pool" = some (.ref f))  : CalF PW w K mg base 2 "_law_pool" 2 F_law_pool :=
  cal_ok (k := 1) F sc_law_pool hm (F.binds (ps := ["script", "k"]) fun _ _ _ _ _ _ us hl => match us, hl with | [_, _], _ => rfl) fun cdv A outer s H E hgd hr =>
    (ss_cons (ss_set (i := 2) sc_law_pool.nd rfl (by first | exact Or.inl rfl | exact Or.inr rfl) se_int)
    (ss_cons (ss_if (st_cmp op_lt o2_rel (se_name 1) (se_callB1 call_len c1_len (by rfl) T.z_len (by decide +kernel) (se_name 0)) (by rfl)) (ss_one (ss_set (i := 2) sc_law_pool.nd rfl (by first | exact Or.inl rfl | exact Or.inr rfl) (se_ix ix_seq o2_ix (se_name 0) (se_name 1) (by intro _ _; rfl)))) ss_nil)
    (ss_cons (ss_if (st_cmp op_ge o2_rel (se_name 2) (se_bin op_pow o2_pow se_int se_int) (by rfl)) (ss_one (ss_ret (se_lst (as := [(dBin fSub (dName 2) (dBin fPow (dC (.int 10)) (dC (.int 18)))), (dC (.int 1)), (dC (.int 0))]) (sa_cons (se_bin op_sub o2_sub (se_name 2) (se_bin op_pow o2_pow se_int se_int)) (sa_cons se_int (sa_cons se_int sa_nil)))))) ss_nil)
    (ss_one (ss_ret (se_lst (as := [(dName 2), (dC (.int 0)), (dBin fMul (dC (.int 73)) (dName 1))]) (sa_cons (se_name 2) (sa_cons se_int (sa_cons (se_bin op_mulA o2_mul se_int (se_name 1)) sa_nil)))))))))
noncomputable abbrev s_law_take : Stmt := top 32
theorem sc_law_take : FnScope ["pool", "many", "found", "step", "mark"] ["pool", "many"] (defScope s_law_take) := ⟨rfl, rfl, rfl, by decide +kernel, rfl, by decide +kernel, by decide +kernel⟩
theorem w_law_take (T : Facts K mg) {f : Addr} {fd : FuncData} (F : Fun K "_law_take" "_law_take" s_law_take f fd) (hm : mg "_law_take" = some (.ref f))  : CalF PW w K mg base 2 "_law_take" 2 F_law_take :=
  cal_ok (k := 1) F sc_law_take hm (F.binds (ps := ["pool", "many"]) fun _ _ _ _ _ _ us hl => match us, hl with | [_, _], _ => rfl) fun cdv A outer s H E hgd hr =>
    (ss_cons (ss_drop [2] (ss_if (st_cmp (op_eqA hr.units) o2_eq (se_ix ix_seq o2_ix (se_name 0) se_int (by intro _ _; rfl)) se_int (by rfl)) (ss_cons (ss_set (i := 2) sc_law_take.nd rfl (by first | exact Or.inl rfl | exact Or.inr rfl) (se_bin op_mod o2_mod (se_ix ix_seq o2_ix (se_name 0) se_int (by intro _ _; rfl)) (se_name 1)))
    (ss_cons (ss_setL (j := 0) (by rfl) (by first | exact Or.inl rfl | exact Or.inr (Or.inl rfl) | exact Or.inr (Or.inr rfl)) se_int (se_bin op_fdivW o2_div (se_ix ix_seq o2_ix (se_name 0) se_int (by intro _ _; rfl)) (se_name 1)))
    (ss_one (ss_ret (se_name 2))))) ss_nil))
    (ss_cons (ss_setL (j := 0) (by rfl) (by first | exact Or.inl rfl | exact Or.inr (Or.inl rfl) | exact Or.inr (Or.inr rfl)) se_int (se_bin op_addA o2_add (se_ix ix_seq o2_ix (se_name 0) se_int (by intro _ _; rfl)) se_int))
    (ss_cons (ss_set (i := 3) sc_law_take.nd rfl (by first | exact Or.inl rfl | exact Or.inr rfl) (se_ix ix_seq o2_ix (se_name 0) se_int (by intro _ _; rfl)))
    (ss_cons (ss_set (i := 4) sc_law_take.nd rfl (by first | exact Or.inl rfl | exact Or.inr rfl) (se_bin op_mulA o2_mul (se_bin op_addA o2_add (se_bin op_mod o2_mod (se_ix ix_seq o2_ix (se_name 0) se_int (by intro _ _; rfl)) se_int) se_int) (se_bin op_addA o2_add (se_bin op_mulA o2_mul se_int (se_name 3)) se_int)))
    (ss_cons (ss_set (i := 4) sc_law_take.nd rfl (by first | exact Or.inl rfl | exact Or.inr rfl) (se_bin op_addA o2_add (se_name 4) (se_bin op_mulA o2_mul (se_bin op_mulA o2_mul se_int (se_name 3)) (se_name 3))))
    (ss_cons (ss_set (i := 4) sc_law_take.nd rfl (by first | exact Or.inl rfl | exact Or.inr rfl) (se_bin op_mod o2_mod (se_bin op_mulA o2_mul (se_name 4) (se_name 4)) se_int))
    (ss_one (ss_ret (se_bin op_mod o2_mod (se_bin op_fdivW o2_div (se_bin op_mod o2_mod (se_bin op_mulA o2_mul (se_name 4) (se_bin op_addA o2_add (se_name 4) se_int)) se_int) se_int) (se_name 1))))))))))
noncomputable abbrev s_law_tree : Stmt := top 37
theorem sc_law_tree : FnScope ["pool", "k", "most", "left", "way", "found", "every", "turn", "at", "within"] ["pool", "k", "most"] (defScope s_law_tree) := ⟨rfl, rfl, rfl, by decide +kernel, rfl, by decide +kernel, by decide +kernel⟩
theorem w_law_tree (T : Facts K mg) {f : Addr} {fd : FuncData} (F : Fun K "_law_tree" "_law_tree" s_law_tree f fd) (hm : mg "_law_tree" = some (.ref f)) (c_law_take : CalF PW w K mg base 2 "_law_take" 2 F_law_take) : CalF PW w K mg base 3 "_law_tree" 3 F_law_tree :=
  cal_ok (k := 2) F sc_law_tree hm (F.binds (ps := ["pool", "k", "most"]) fun _ _ _ _ _ _ us hl => match us, hl with | [_, _, _], _ => rfl) fun cdv A outer s H E hgd hr =>
    (ss_cons (ss_set (i := 3) sc_law_tree.nd rfl (by first | exact Or.inl rfl | exact Or.inr rfl) (se_ix ix_seq o2_ix (se_lst (as := [(dCall F_law_take [(true, (dName 0)), (false, (dBin fAdd (dName 2) (dC (.int 1))))]), (dCall F_law_take [(true, (dName 0)), (false, (dBin fAdd (dBin fMin2 (dName 2) (dC (.int 4))) (dC (.int 1))))]), (dName 2)]) (sa_cons (se_call c_law_take ok_law_take hgd (hr.mono (by omega)) (by rfl) (as := [(true, (dName 0)), (false, (dBin fAdd (dName 2) (dC (.int 1))))]) (sa_cons (se_name 0) (sa_cons (se_bin op_addA o2_add (se_name 2) se_int) sa_nil))) (sa_cons (se_call c_law_take ok_law_take hgd (hr.mono (by omega)) (by rfl) (as := [(true, (dName 0)), (false, (dBin fAdd (dBin fMin2 (dName 2) (dC (.int 4))) (dC (.int 1))))]) (sa_cons (se_name 0) (sa_cons (se_bin op_addA o2_add (se_callB2 (call_min2 rfl) c2_min (by rfl) T.z_min (by decide +kernel) (se_name 2) se_int) se_int) sa_nil))) (sa_cons (se_name 2) sa_nil)))) (se_call c_law_take ok_law_take hgd (hr.mono (by omega)) (by rfl) (as := [(true, (dName 0)), (false, (dC (.int 3)))]) (sa_cons (se_name 0) (sa_cons se_int sa_nil))) (by intro _ _; rfl)))
    (ss_cons (ss_set (i := 4) sc_law_tree.nd rfl (by first | exact Or.inl rfl | exact Or.inr rfl) (se_call c_law_take ok_law_take hgd (hr.mono (by omega)) (by rfl) (as := [(true, (dName 0)), (false, (dC (.int 4)))]) (sa_cons (se_name 0) (sa_cons se_int sa_nil))))
    (fun W tk => pss_imp (pss_cons (ps_set (i := 5) sc_law_tree.nd rfl (by first | exact Or.inl rfl | exact Or.inr rfl) (pe_lst pa_nil)) (pss_cons (ps_set (i := 6) sc_law_tree.nd rfl (by first | exact Or.inl rfl | exact Or.inr rfl) (pe_lst (pa_cons (pv 5 (by rfl) (by first | exact Or.inl rfl | exact Or.inr (Or.inl rfl) | exact Or.inr (Or.inr rfl)) (by decide) (by decide)) pa_nil))) (pss_cons (ps_for (passes_of rfl) rfl ((si_r1 (by rfl) T.z_range (se_name 3)) W tk) (pg_name (i := 7) sc_law_tree.nd rfl (by first | exact Or.inl rfl | exact Or.inr rfl))
    (pss_cons (ps_set (i := 8) sc_law_tree.nd rfl (by first | exact Or.inl rfl | exact Or.inr rfl) ((se_ix ix_seq o2_ix (se_lst (as := [(dC (.int 0)), (dBin fSub (dUn fLen (dName 6)) (dC (.int 1))), (dCall F_law_take [(true, (dName 0)), (false, (dUn fLen (dName 6)))]), (dCall F_law_take [(true, (dName 0)), (false, (dBin fMin2 (dC (.int 3)) (dUn fLen (dName 6))))])]) (sa_cons se_int (sa_cons (se_bin op_sub o2_sub (se_callB1 call_len c1_len (by rfl) T.z_len (by decide +kernel) (se_name 6)) se_int) (sa_cons (se_call c_law_take ok_law_take hgd (hr.mono (by omega)) (by rfl) (as := [(true, (dName 0)), (false, (dUn fLen (dName 6)))]) (sa_cons (se_name 0) (sa_cons (se_callB1 call_len c1_len (by rfl) T.z_len (by decide +kernel) (se_name 6)) sa_nil))) (sa_cons (se_call c_law_take ok_law_take hgd (hr.mono (by omega)) (by rfl) (as := [(true, (dName 0)), (false, (dBin fMin2 (dC (.int 3)) (dUn fLen (dName 6))))]) (sa_cons (se_name 0) (sa_cons (se_callB2 (call_min2 rfl) c2_min (by rfl) T.z_min (by decide +kernel) se_int (se_callB1 call_len c1_len (by rfl) T.z_len (by decide +kernel) (se_name 6))) sa_nil))) sa_nil))))) (se_name 4) (by intro _ _; rfl)) W tk)) (pss_cons (ps_set (i := 9) sc_law_tree.nd rfl (by first | exact Or.inl rfl | exact Or.inr rfl) (pe_lst pa_nil)) (pss_cons (ps_expr (pe_bm PySem.F.plainAttrs_list PySem.F.slot_list_append PySem.F.type_list_append mt_append (pe_ix ix_list (pv 6 (by rfl) (by first | exact Or.inl rfl | exact Or.inr (Or.inl rfl) | exact Or.inr (Or.inr rfl)) (by decide) (by decide)) (pv 8 (by rfl) (by first | exact Or.inl rfl | exact Or.inr (Or.inl rfl) | exact Or.inr (Or.inr rfl)) (by decide) (by decide)) (by intro _ _; rfl)) (pa_cons (pe_tup (pa_cons ((se_call c_law_take ok_law_take hgd (hr.mono (by omega)) (by rfl) (as := [(true, (dName 0)), (false, (dName 1))]) (sa_cons (se_name 0) (sa_cons (se_name 1) sa_nil))) W tk) (pa_cons (pv 9 (by rfl) (by first | exact Or.inl rfl | exact Or.inr (Or.inl rfl) | exact Or.inr (Or.inr rfl)) (by decide) (by decide)) pa_nil))) pa_nil))) (pss_one (ps_expr (pe_bm PySem.F.plainAttrs_list PySem.F.slot_list_append PySem.F.type_list_append mt_append (pv 6 (by rfl) (by first | exact Or.inl rfl | exact Or.inr (Or.inl rfl) | exact Or.inr (Or.inr rfl)) (by decide) (by decide)) (pa_cons (pv 9 (by rfl) (by first | exact Or.inl rfl | exact Or.inr (Or.inl rfl) | exact Or.inr (Or.inr rfl)) (by decide) (by decide)) pa_nil))))))))
    (pss_one (ps_ret (pv 5 (by rfl) (by first | exact Or.inl rfl | exact Or.inr (Or.inl rfl) | exact Or.inr (Or.inr rfl)) (by decide) (by decide))))))) fun D σ H q => forest_ok (dAt := (dBin fIx (dLst [(dC (.int 0)), (dBin fSub (dUn fLen (dName 6)) (dC (.int 1))), (dCall F_law_take [(true, (dName 0)), (false, (dUn fLen (dName 6)))]), (dCall F_law_take [(true, (dName 0)), (false, (dBin fMin2 (dC (.int 3)) (dUn fLen (dName 6))))])]) (dName 4))) (dK := (dCall F_law_take [(true, (dName 0)), (false, (dName 1))])) (tg_name 7) (by decide) (by decide) (by decide) (by decide) (by decide) (by decide) (by decide) (by decide) q)))
noncomputable abbrev s_law_copy : Stmt := top 38
theorem sc_law_copy : FnScope ["tree", "kind", "within"] ["tree"] (defScope s_law_copy) := ⟨rfl, rfl, rfl, by decide +kernel, rfl, by decide +kernel, by decide +kernel⟩
theorem w_law_copy (T : Facts K mg) {f : Addr} {fd : FuncData} (F : Fun K "_law_copy" "_law_copy" s_law_copy f fd) (hm : mg "_law_copy" = some (.ref f))  : ∀ n : Nat, n ≤ 25 → CalF PW w K mg base (1 + n + 1) "_law_copy" 1 (F_law_copyn n)
  | 0, _ => cal_ok (k := 1) (b := fun _ => .bad) F sc_law_copy hm (F.binds (ps := ["tree"]) fun _ _ _ _ _ _ us hl => match us, hl with | [_], _ => rfl) fun cdv A outer s H E hgd hr => (fun _ _ => ⟨fun _ _ _ _ _ _ ⟨_, _, _, _, q⟩ => q.elim⟩)
  | n + 1, hn => by
    have hrec := w_law_copy T F hm  n (by omega)
    have hdok : FDok (F_law_copyn n) := by
      cases n with
      | zero => exact ⟨fun h => (nomatch h), fun h => (nomatch h)⟩
      | succ n => exact fdok _ _
    exact cal_ok (k := 1 + n + 1) F sc_law_copy hm (F.binds (ps := ["tree"]) fun _ _ _ _ _ _ us hl => match us, hl with | [_], _ => rfl) fun cdv A outer s H E hgd hr => (ss_one (ss_ret (se_lcN (j := 0) (by rfl) (by first | exact Or.inl rfl | exact Or.inr (Or.inl rfl) | exact Or.inr (Or.inr rfl)) rfl sc_law_copy.nd (own := [("kind", 1), ("within", 2)]) (blkOk_by (by rfl)) (fun _ _ _ _ _ => (pg_tup rfl (pgs_cons (pg_name (i := 1) sc_law_copy.nd rfl (by first | exact Or.inl rfl | exact Or.inr rfl)) (pgs_cons (pg_name (i := 2) sc_law_copy.nd rfl (by first | exact Or.inl rfl | exact Or.inr rfl)) pgs_nil)))) (tg_tup (tgs_cons (tg_name 1) (tgs_cons (tg_name 2) tgs_nil))) (by decide) (fun _ _ _ _ _ => sts_nil) (fun _ _ _ _ _ => (se_tup (as := [(dName 1), (dCall (F_law_copyn n) [(false, (dName 2))])]) (sa_cons (se_name 1) (sa_cons (se_call hrec hdok hgd (hr.mono (by omega)) (by rfl) (as := [(false, (dName 2))]) (sa_cons (se_name 2) sa_nil)) sa_nil)))))))
noncomputable abbrev s_law_row : Stmt := top 39
theorem sc_law_row : FnScope ["tree", "found", "kind", "within"] ["tree"] (defScope s_law_row) := ⟨rfl, rfl, rfl, by decide +kernel, rfl, by decide +kernel, by decide +kernel⟩
theorem w_law_row (T : Facts K mg) {f : Addr} {fd : FuncData} (F : Fun K "_law_row" "_law_row" s_law_row f fd) (hm : mg "_law_row" = some (.ref f))  : ∀ n : Nat, n ≤ 25 → CalF PW w K mg base (1 + n + 1) "_law_row" 1 (F_law_rown n)
  | 0, _ => cal_ok (k := 1) (b := fun _ => .bad) F sc_law_row hm (F.binds (ps := ["tree"]) fun _ _ _ _ _ _ us hl => match us, hl with | [_], _ => rfl) fun cdv A outer s H E hgd hr => (fun _ _ => ⟨fun _ _ _ _ _ _ ⟨_, _, _, _, q⟩ => q.elim⟩)
  | n + 1, hn => by
    have hrec := w_law_row T F hm  n (by omega)
    have hdok : FDok (F_law_rown n) := by
      cases n with
      | zero => exact ⟨fun h => (nomatch h), fun h => (nomatch h)⟩
      | succ n => exact fdok _ _
    exact cal_ok (k := 1 + n + 1) F sc_law_row hm (F.binds (ps := ["tree"]) fun _ _ _ _ _ _ us hl => match us, hl with | [_], _ => rfl) fun cdv A outer s H E hgd hr => (ss_cons (ss_set (i := 1) sc_law_row.nd rfl (by first | exact Or.inl rfl | exact Or.inr rfl) (se_str (l := []) rfl))
    (ss_cons (ss_drop [2, 3] (ss_for (passes_of rfl) rfl (si_seq (se_rev (se_name 0))) (pg_tup rfl (pgs_cons (pg_name (i := 2) sc_law_row.nd rfl (by first | exact Or.inl rfl | exact Or.inr rfl)) (pgs_cons (pg_name (i := 3) sc_law_row.nd rfl (by first | exact Or.inl rfl | exact Or.inr rfl)) pgs_nil))) (tg_tup (tgs_cons (tg_name 2) (tgs_cons (tg_name 3) tgs_nil))) (sss_drop [2, 3] (ss_one (ss_set (i := 1) sc_law_row.nd rfl (by first | exact Or.inl rfl | exact Or.inr rfl) (se_bin op_addA o2_add (se_bin op_addA o2_add (se_bin op_addA o2_add (se_ix ix_seq o2_ix (se_str (l := [40, 91, 123, 60]) rfl) (se_name 2) (by intro _ _; rfl)) (se_call hrec hdok hgd (hr.mono (by omega)) (by rfl) (as := [(false, (dName 3))]) (sa_cons (se_name 3) sa_nil))) (se_ix ix_seq o2_ix (se_str (l := [41, 93, 125, 62]) rfl) (se_name 2) (by intro _ _; rfl))) (se_name 1)))))))
    (ss_one (ss_ret (se_name 1)))))
noncomputable abbrev s_law_right_row : Stmt := top 33
theorem sc_law_right_row : FnScope ["pool", "k", "most", "left", "way", "row", "waiting", "more", "kind"] ["pool", "k", "most"] (defScope s_law_right_row) := ⟨rfl, rfl, rfl, by decide +kernel, rfl, by decide +kernel, by decide +kernel⟩
theorem w_law_right_row (T : Facts K mg) {f : Addr} {fd : FuncData} (F : Fun K "_law_right_row" "_law_right_row" s_law_right_row f fd) (hm : mg "_law_right_row" = some (.ref f)) (c_law_take : CalF PW w K mg base 2 "_law_take" 2 F_law_take) : CalF PW w K mg base 3 "_law_right_row" 3 F_law_right_row :=
  cal_ok (k := 2) F sc_law_right_row hm (F.binds (ps := ["pool", "k", "most"]) fun _ _ _ _ _ _ us hl => match us, hl with | [_, _, _], _ => rfl) fun cdv A outer s H E hgd hr =>
    (ss_cons (ss_set (i := 3) sc_law_right_row.nd rfl (by first | exact Or.inl rfl | exact Or.inr rfl) (se_ix ix_seq o2_ix (se_lst (as := [(dCall F_law_take [(true, (dName 0)), (false, (dBin fAdd (dBin fDiv (dName 2) (dC (.int 2))) (dC (.int 1))))]), (dCall F_law_take [(true, (dName 0)), (false, (dBin fAdd (dBin fMin2 (dBin fDiv (dName 2) (dC (.int 2))) (dC (.int 4))) (dC (.int 1))))]), (dBin fDiv (dName 2) (dC (.int 2)))]) (sa_cons (se_call c_law_take ok_law_take hgd (hr.mono (by omega)) (by rfl) (as := [(true, (dName 0)), (false, (dBin fAdd (dBin fDiv (dName 2) (dC (.int 2))) (dC (.int 1))))]) (sa_cons (se_name 0) (sa_cons (se_bin op_addA o2_add (se_bin op_fdivW o2_div (se_name 2) se_int) se_int) sa_nil))) (sa_cons (se_call c_law_take ok_law_take hgd (hr.mono (by omega)) (by rfl) (as := [(true, (dName 0)), (false, (dBin fAdd (dBin fMin2 (dBin fDiv (dName 2) (dC (.int 2))) (dC (.int 4))) (dC (.int 1))))]) (sa_cons (se_name 0) (sa_cons (se_bin op_addA o2_add (se_callB2 (call_min2 rfl) c2_min (by rfl) T.z_min (by decide +kernel) (se_bin op_fdivW o2_div (se_name 2) se_int) se_int) se_int) sa_nil))) (sa_cons (se_bin op_fdivW o2_div (se_name 2) se_int) sa_nil)))) (se_call c_law_take ok_law_take hgd (hr.mono (by omega)) (by rfl) (as := [(true, (dName 0)), (false, (dC (.int 3)))]) (sa_cons (se_name 0) (sa_cons se_int sa_nil))) (by intro _ _; rfl)))
    (ss_cons (ss_set (i := 4) sc_law_right_row.nd rfl (by first | exact Or.inl rfl | exact Or.inr rfl) (se_call c_law_take ok_law_take hgd (hr.mono (by omega)) (by rfl) (as := [(true, (dName 0)), (false, (dC (.int 4)))]) (sa_cons (se_name 0) (sa_cons se_int sa_nil))))
    (ss_cons (ss_set (i := 5) sc_law_right_row.nd rfl (by first | exact Or.inl rfl | exact Or.inr rfl) (se_str (l := []) rfl))
    (ss_cons (ss_set (i := 6) sc_law_right_row.nd rfl (by first | exact Or.inl rfl | exact Or.inr rfl) (se_str (l := []) rfl))
    (ss_cons (ss_drop [3, 6, 7, 8] (ss_while FUEL (passes_of rfl) (st_w (sw_or (st_cmp op_gt o2_rel (se_name 3) se_int (by rfl)) (sw_or1 (st_cmp (op_neA hr.units) o2_ne (se_name 6) (se_str (l := []) rfl) (by rfl))))) (sss_drop [7, 8] (ss_cons (ss_set (i := 7) sc_law_right_row.nd rfl (by first | exact Or.inl rfl | exact Or.inr rfl) (se_ix ix_seq o2_ix (se_lst (as := [(dBin fGt (dCall F_law_take [(true, (dName 0)), (false, (dC (.int 5)))]) (dC (.int 0))), (dBin fEq (dCall F_law_take [(true, (dName 0)), (false, (dC (.int 5)))]) (dC (.int 0))), (dBin fGt (dCall F_law_take [(true, (dName 0)), (false, (dC (.int 2)))]) (dC (.int 0))), (dBin fGt (dName 3) (dC (.int 0)))]) (sa_cons (se_cmp op_gt o2_rel (se_call c_law_take ok_law_take hgd (hr.mono (by omega)) (by rfl) (as := [(true, (dName 0)), (false, (dC (.int 5)))]) (sa_cons (se_name 0) (sa_cons se_int sa_nil))) se_int (by rfl)) (sa_cons (se_cmp (op_eqA hr.units) o2_eq (se_call c_law_take ok_law_take hgd (hr.mono (by omega)) (by rfl) (as := [(true, (dName 0)), (false, (dC (.int 5)))]) (sa_cons (se_name 0) (sa_cons se_int sa_nil))) se_int (by rfl)) (sa_cons (se_cmp op_gt o2_rel (se_call c_law_take ok_law_take hgd (hr.mono (by omega)) (by rfl) (as := [(true, (dName 0)), (false, (dC (.int 2)))]) (sa_cons (se_name 0) (sa_cons se_int sa_nil))) se_int (by rfl)) (sa_cons (se_cmp op_gt o2_rel (se_name 3) se_int (by rfl)) sa_nil))))) (se_name 4) (by intro _ _; rfl)))
    (ss_one (ss_if (st_w (sw_and (st_cmp op_gt o2_rel (se_name 3) se_int (by rfl)) (sw_and1 (st_w (sw_or (st_cmp (op_eqA hr.units) o2_eq (se_name 6) (se_str (l := []) rfl) (by rfl)) (sw_or1 (st_val (se_name 7)))))))) (ss_cons (ss_set (i := 8) sc_law_right_row.nd rfl (by first | exact Or.inl rfl | exact Or.inr rfl) (se_call c_law_take ok_law_take hgd (hr.mono (by omega)) (by rfl) (as := [(true, (dName 0)), (false, (dName 1))]) (sa_cons (se_name 0) (sa_cons (se_name 1) sa_nil))))
    (ss_cons (ss_set (i := 5) sc_law_right_row.nd rfl (by first | exact Or.inl rfl | exact Or.inr rfl) (se_bin op_addA o2_add (se_name 5) (se_ix ix_seq o2_ix (se_str (l := [40, 91, 123, 60]) rfl) (se_name 8) (by intro _ _; rfl))))
    (ss_cons (ss_set (i := 6) sc_law_right_row.nd rfl (by first | exact Or.inl rfl | exact Or.inr rfl) (se_bin op_addA o2_add (se_ix ix_seq o2_ix (se_str (l := [41, 93, 125, 62]) rfl) (se_name 8) (by intro _ _; rfl)) (se_name 6)))
    (ss_one (ss_set (i := 3) sc_law_right_row.nd rfl (by first | exact Or.inl rfl | exact Or.inr rfl) (se_bin op_sub o2_sub (se_name 3) se_int)))))) (ss_cons (ss_set (i := 5) sc_law_right_row.nd rfl (by first | exact Or.inl rfl | exact Or.inr rfl) (se_bin op_addA o2_add (se_name 5) (se_ix ix_seq o2_ix (se_name 6) se_int (by intro _ _; rfl))))
    (ss_one (ss_set (i := 6) sc_law_right_row.nd rfl (by first | exact Or.inl rfl | exact Or.inr rfl) (se_sl (se_name 6) (so_some se_int) so_none))))))))))
    (ss_one (ss_ret (se_name 5))))))))
noncomputable abbrev s_is_whole : Stmt := top 13
theorem sc_is_whole : FnScope ["thing"] ["thing"] (defScope s_is_whole) := ⟨rfl, rfl, rfl, by decide +kernel, rfl, by decide +kernel, by decide +kernel⟩
theorem w_is_whole (T : Facts K mg) {f : Addr} {fd : FuncData} (F : Fun K "is_whole" "is_whole" s_is_whole f fd) (hm : mg "is_whole" = some (.ref f))  : CalF PW w K mg base 2 "is_whole" 1 F_is_whole :=
  cal_ok (k := 1) F sc_is_whole hm (F.binds (ps := ["thing"]) fun _ _ _ _ _ _ us hl => match us, hl with | [_], _ => rfl) fun cdv A outer s H E hgd hr =>
    (ss_one (ss_ret (se_and (se_isi tyOk_int (by rfl) T.z_isinstance (by rfl) T.z_int (by decide +kernel) (se_name 0)) (se_one (se_not (se_isi tyOk_bool (by rfl) T.z_isinstance (by rfl) T.z_bool (by decide +kernel) (se_name 0)))))))
noncomputable abbrev s_need_kinds : Stmt := top 14
theorem sc_need_kinds : FnScope ["k"] ["k"] (defScope s_need_kinds) := ⟨rfl, rfl, rfl, by decide +kernel, rfl, by decide +kernel, by decide +kernel⟩
theorem w_need_kinds (T : Facts K mg) {f : Addr} {fd : FuncData} (F : Fun K "need_kinds" "need_kinds" s_need_kinds f fd) (hm : mg "need_kinds" = some (.ref f)) (c_is_whole : CalF PW w K mg base 2 "is_whole" 1 F_is_whole) : CalF PW w K mg base 3 "need_kinds" 1 F_need_kinds :=
  cal_ok (k := 2) F sc_need_kinds hm (F.binds (ps := ["k"]) fun _ _ _ _ _ _ us hl => match us, hl with | [_], _ => rfl) fun cdv A outer s H E hgd hr =>
    (ss_one (ss_if (st_w (sw_or (st_not (st_val (se_call c_is_whole ok_is_whole hgd (hr.mono (by omega)) (by rfl) (as := [(false, (dName 0))]) (sa_cons (se_name 0) sa_nil)))) (sw_or1 (st_not (st_chain op_le op_le o2_rel o2_rel se_int (se_name 0) (se_gint T.c_MOST_KINDS (by rfl))))))) (ss_one (ss_raise rfl T.e_1 (by rfl) (by rfl))) ss_nil))
noncomputable abbrev s_row_from : Stmt := top 28
theorem sc_row_from : FnScope ["tree", "kind", "within"] ["tree"] (defScope s_row_from) := ⟨rfl, rfl, rfl, by decide +kernel, rfl, by decide +kernel, by decide +kernel⟩
theorem w_row_from (T : Facts K mg) {f : Addr} {fd : FuncData} (F : Fun K "row_from" "row_from" s_row_from f fd) (hm : mg "row_from" = some (.ref f))  : ∀ n : Nat, n ≤ 25 → CalF PW w K mg base (1 + n + 1) "row_from" 1 (F_row_fromn n)
  | 0, _ => cal_ok (k := 1) (b := fun _ => .bad) F sc_row_from hm (F.binds (ps := ["tree"]) fun _ _ _ _ _ _ us hl => match us, hl with | [_], _ => rfl) fun cdv A outer s H E hgd hr => (fun _ _ => ⟨fun _ _ _ _ _ _ ⟨_, _, _, _, q⟩ => q.elim⟩)
  | n + 1, hn => by
    have hrec := w_row_from T F hm  n (by omega)
    have hdok : FDok (F_row_fromn n) := by
      cases n with
      | zero => exact ⟨fun h => (nomatch h), fun h => (nomatch h)⟩
      | succ n => exact fdok _ _
    exact cal_ok (k := 1 + n + 1) F sc_row_from hm (F.binds (ps := ["tree"]) fun _ _ _ _ _ _ us hl => match us, hl with | [_], _ => rfl) fun cdv A outer s H E hgd hr => (ss_one (ss_ret (se_methR PySem.F.plainAttrs_str PySem.F.slot_str_join PySem.F.type_str_join mt_join mr_join kd_str (as := [(dLcN 0 (tgTup 2 (tgCons (tgName 1) (tgCons (tgName 2) tgNil))) (cOf none) (dBin fAdd (dBin fAdd (dBin fIx (dC (.str [40, 91, 123, 60])) (dName 1)) (dCall (F_row_fromn n) [(false, (dName 2))])) (dBin fIx (dC (.str [41, 93, 125, 62])) (dName 1))) [1, 2])]) (se_str (l := []) rfl) (sa_cons (se_lcN (j := 0) (by rfl) (by first | exact Or.inl rfl | exact Or.inr (Or.inl rfl) | exact Or.inr (Or.inr rfl)) rfl sc_row_from.nd (own := [("kind", 1), ("within", 2)]) (blkOk_by (by rfl)) (fun _ _ _ _ _ => (pg_tup rfl (pgs_cons (pg_name (i := 1) sc_row_from.nd rfl (by first | exact Or.inl rfl | exact Or.inr rfl)) (pgs_cons (pg_name (i := 2) sc_row_from.nd rfl (by first | exact Or.inl rfl | exact Or.inr rfl)) pgs_nil)))) (tg_tup (tgs_cons (tg_name 1) (tgs_cons (tg_name 2) tgs_nil))) (by decide) (fun _ _ _ _ _ => sts_nil) (fun _ _ _ _ _ => (se_bin op_addA o2_add (se_bin op_addA o2_add (se_ix ix_seq o2_ix (se_gstr T.c_OPENING (by rfl)) (se_name 1) (by intro _ _; rfl)) (se_call hrec hdok hgd (hr.mono (by omega)) (by rfl) (as := [(false, (dName 2))]) (sa_cons (se_name 2) sa_nil))) (se_ix ix_seq o2_ix (se_gstr T.c_CLOSING (by rfl)) (se_name 1) (by intro _ _; rfl))))) sa_nil))))
noncomputable abbrev s_is_branch : Stmt := top 24
theorem sc_is_branch : FnScope ["k", "thing"] ["k", "thing"] (defScope s_is_branch) := ⟨rfl, rfl, rfl, by decide +kernel, rfl, by decide +kernel, by decide +kernel⟩
theorem w_is_branch (T : Facts K mg) {f : Addr} {fd : FuncData} (F : Fun K "is_branch" "is_branch" s_is_branch f fd) (hm : mg "is_branch" = some (.ref f)) (c_is_whole : CalF PW w K mg base 2 "is_whole" 1 F_is_whole) : CalF PW w K mg base 3 "is_branch" 2 F_is_branch :=
  cal_ok (k := 2) F sc_is_branch hm (F.binds (ps := ["k", "thing"]) fun _ _ _ _ _ _ us hl => match us, hl with | [_, _], _ => rfl) fun cdv A outer s H E hgd hr =>
    (ss_one (ss_ret (se_and (se_isi tyOk_tuple (by rfl) T.z_isinstance (by rfl) T.z_tuple (by decide +kernel) (se_name 1)) (se_and (se_cmp (op_eqA hr.units) o2_eq (se_callB1 call_len c1_len (by rfl) T.z_len (by decide +kernel) (se_name 1)) se_int (by rfl)) (se_and (se_call c_is_whole ok_is_whole hgd (hr.mono (by omega)) (by rfl) (as := [(false, (dBin fIx (dName 1) (dC (.int 0))))]) (sa_cons (se_ix ix_seq o2_ix (se_name 1) se_int (by intro _ _; rfl)) sa_nil)) (se_one (se_chain op_le op_lt o2_rel o2_rel se_int (se_ix ix_seq o2_ix (se_name 1) se_int (by intro _ _; rfl)) (se_name 0))))))))
noncomputable abbrev s_is_tree_by : Stmt := top 25
theorem sc_is_tree_by : FnScope ["k", "thing", "waiting", "many", "some", "one", "kind", "tree"] ["k", "thing"] (defScope s_is_tree_by) := ⟨rfl, rfl, rfl, by decide +kernel, rfl, by decide +kernel, by decide +kernel⟩
theorem w_is_tree_by (T : Facts K mg) {f : Addr} {fd : FuncData} (F : Fun K "is_tree_by" "is_tree_by" s_is_tree_by f fd) (hm : mg "is_tree_by" = some (.ref f)) (c_is_branch : CalF PW w K mg base 3 "is_branch" 2 F_is_branch) : CalF PW w K mg base 4 "is_tree_by" 2 F_is_tree_by :=
  cal_ok (k := 3) F sc_is_tree_by hm (F.binds (ps := ["k", "thing"]) fun _ _ _ _ _ _ us hl => match us, hl with | [_, _], _ => rfl) fun cdv A outer s H E hgd hr =>
    (ss_cons (ss_set (i := 2) sc_is_tree_by.nd rfl (by first | exact Or.inl rfl | exact Or.inr rfl) (se_lst (as := [(dName 1)]) (sa_cons (se_name 1) sa_nil)))
    (ss_cons (ss_set (i := 3) sc_is_tree_by.nd rfl (by first | exact Or.inl rfl | exact Or.inr rfl) se_int)
    (ss_cons (ss_drop [3, 4] (ss_while FUEL (passes_of rfl) (st_cmp (op_neL (Nat.lt_of_succ_lt (u1 hr))) o2_neL (se_name 2) (se_lst (as := []) sa_nil) (by rfl)) (sss_drop [4] (ss_cons (ss_set (i := 4) sc_is_tree_by.nd rfl (by first | exact Or.inl rfl | exact Or.inr rfl) (se_meth0 PySem.F.plainAttrs_list PySem.F.slot_list_pop PySem.F.type_list_pop mt_pop m_pop tyL (by rfl) (by first | exact Or.inl rfl | exact Or.inr (Or.inl rfl) | exact Or.inr (Or.inr rfl))))
    (ss_cons (ss_if (st_w (sw_or (st_not (st_val (se_isi tyOk_list (by rfl) T.z_isinstance (by rfl) T.z_list (by decide +kernel) (se_name 4)))) (sw_or1 (st_cmp op_gt o2_rel (se_bin op_addA o2_add (se_name 3) (se_callB1 call_len c1_len (by rfl) T.z_len (by decide +kernel) (se_name 4))) (se_gint T.c_MOST_TUPLES (by rfl)) (by rfl))))) (ss_one (ss_ret se_bl)) ss_nil)
    (ss_cons (ss_if (st_cmp (op_neL (Nat.lt_of_succ_lt (u1 hr))) o2_neL (se_lcN (j := 4) (by rfl) (by first | exact Or.inl rfl | exact Or.inr (Or.inl rfl) | exact Or.inr (Or.inr rfl)) rfl sc_is_tree_by.nd (own := [("one", 5)]) (blkOk_by (by rfl)) (fun _ _ _ _ _ => (pg_name (i := 5) sc_is_tree_by.nd rfl (by first | exact Or.inl rfl | exact Or.inr rfl))) (tg_name 5) (by decide) (fun _ _ _ _ _ => sts_one (st_not (st_val (se_call c_is_branch ok_is_branch hgd (hr.mono (by omega)) (by rfl) (as := [(false, (dName 0)), (false, (dName 5))]) (sa_cons (se_name 0) (sa_cons (se_name 5) sa_nil)))))) (fun _ _ _ _ _ => (se_name 5))) (se_lst (as := []) sa_nil) (by rfl)) (ss_one (ss_ret se_bl)) ss_nil)
    (ss_cons (ss_aug (i := 3) sc_is_tree_by.nd rfl (by first | exact Or.inl rfl | exact Or.inr rfl) (se_callB1 call_len c1_len (by rfl) T.z_len (by decide +kernel) (se_name 4)) ip_add)
    (ss_one (ss_expr (se_meth PySem.F.plainAttrs_list PySem.F.slot_list_extend PySem.F.type_list_extend mt_extendR m_extend tyL (by rfl) (by first | exact Or.inl rfl | exact Or.inr (Or.inl rfl) | exact Or.inr (Or.inr rfl)) (as := [(dLcN 4 (tgTup 2 (tgCons (tgName 6) (tgCons (tgName 7) tgNil))) (cOf none) (dName 7) [6, 7])]) (sa_cons (se_lcN (j := 4) (by rfl) (by first | exact Or.inl rfl | exact Or.inr (Or.inl rfl) | exact Or.inr (Or.inr rfl)) rfl sc_is_tree_by.nd (own := [("kind", 6), ("tree", 7)]) (blkOk_by (by rfl)) (fun _ _ _ _ _ => (pg_tup rfl (pgs_cons (pg_name (i := 6) sc_is_tree_by.nd rfl (by first | exact Or.inl rfl | exact Or.inr rfl)) (pgs_cons (pg_name (i := 7) sc_is_tree_by.nd rfl (by first | exact Or.inl rfl | exact Or.inr rfl)) pgs_nil)))) (tg_tup (tgs_cons (tg_name 6) (tgs_cons (tg_name 7) tgs_nil))) (by decide) (fun _ _ _ _ _ => sts_nil) (fun _ _ _ _ _ => (se_name 7))) sa_nil)))))))))))
    (ss_one (ss_ret se_bl)))))
noncomputable abbrev s_row_of_tree : Stmt := top 29
theorem sc_row_of_tree : FnScope ["k", "tree"] ["k", "tree"] (defScope s_row_of_tree) := ⟨rfl, rfl, rfl, by decide +kernel, rfl, by decide +kernel, by decide +kernel⟩
theorem w_row_of_tree (T : Facts K mg) {f : Addr} {fd : FuncData} (F : Fun K "row_of_tree" "row_of_tree" s_row_of_tree f fd) (hm : mg "row_of_tree" = some (.ref f)) (c_is_tree_by : CalF PW w K mg base 4 "is_tree_by" 2 F_is_tree_by) (c_need_kinds : CalF PW w K mg base 3 "need_kinds" 1 F_need_kinds) (c_row_from : CalF PW w K mg base 27 "row_from" 1 F_row_from) : CalF PW w K mg base 28 "row_of_tree" 2 F_row_of_tree :=
  cal_ok (k := 27) F sc_row_of_tree hm (F.binds (ps := ["k", "tree"]) fun _ _ _ _ _ _ us hl => match us, hl with | [_, _], _ => rfl) fun cdv A outer s H E hgd hr =>
    (ss_cons (ss_expr (se_call c_need_kinds ok_need_kinds hgd (hr.mono (by omega)) (by rfl) (as := [(false, (dName 0))]) (sa_cons (se_name 0) sa_nil)))
    (ss_cons (ss_if (st_not (st_val (se_call c_is_tree_by ok_is_tree_by hgd (hr.mono (by omega)) (by rfl) (as := [(false, (dName 0)), (false, (dName 1))]) (sa_cons (se_name 0) (sa_cons (se_name 1) sa_nil))))) (ss_one (ss_raise rfl T.e_4 (by rfl) (by rfl))) ss_nil)
    (ss_one (ss_ret (se_call c_row_from ok_row_from hgd (hr.mono (by omega)) (by rfl) (as := [(false, (dName 1))]) (sa_cons (se_name 1) sa_nil))))))
noncomputable abbrev s_tree_between : Stmt := top 26
theorem sc_tree_between : FnScope ["row", "where", "begin", "end", "found", "place"] ["row", "where", "begin", "end"] (defScope s_tree_between) := ⟨rfl, rfl, rfl, by decide +kernel, rfl, by decide +kernel, by decide +kernel⟩
theorem w_tree_between (T : Facts K mg) {f : Addr} {fd : FuncData} (F : Fun K "tree_between" "tree_between" s_tree_between f fd) (hm : mg "tree_between" = some (.ref f))  : ∀ n : Nat, n ≤ 25 → CalF PW w K mg base (1 + n + 1) "tree_between" 4 (F_tree_betweenn n)
  | 0, _ => cal_ok (k := 1) (b := fun _ => .bad) F sc_tree_between hm (F.binds (ps := ["row", "where", "begin", "end"]) fun _ _ _ _ _ _ us hl => match us, hl with | [_, _, _, _], _ => rfl) fun cdv A outer s H E hgd hr => (fun _ _ => ⟨fun _ _ _ _ _ _ ⟨_, _, _, _, q⟩ => q.elim⟩)
  | n + 1, hn => by
    have hrec := w_tree_between T F hm  n (by omega)
    have hdok : FDok (F_tree_betweenn n) := by
      cases n with
      | zero => exact ⟨fun h => (nomatch h), fun h => (nomatch h)⟩
      | succ n => exact fdok _ _
    exact cal_ok (k := 1 + n + 1) F sc_tree_between hm (F.binds (ps := ["row", "where", "begin", "end"]) fun _ _ _ _ _ _ us hl => match us, hl with | [_, _, _, _], _ => rfl) fun cdv A outer s H E hgd hr => (ss_cons (ss_set (i := 4) sc_tree_between.nd rfl (by first | exact Or.inl rfl | exact Or.inr rfl) (se_lst (as := []) sa_nil))
    (ss_cons (ss_set (i := 5) sc_tree_between.nd rfl (by first | exact Or.inl rfl | exact Or.inr rfl) (se_name 2))
    (ss_cons (ss_drop [5] (ss_while FUEL (passes_of rfl) (st_cmp op_lt o2_rel (se_name 5) (se_name 3) (by rfl)) (ss_cons (ss_expr (se_meth PySem.F.plainAttrs_list PySem.F.slot_list_append PySem.F.type_list_append mt_append m_append tyL (by rfl) (by first | exact Or.inl rfl | exact Or.inr (Or.inl rfl) | exact Or.inr (Or.inr rfl)) (as := [(dTup [(dBin fDiv (dMethR kStr (dC (.str [40, 41, 91, 93, 123, 125, 60, 62])) [(dBin fIx (dName 0) (dName 5))] fSIndex) (dC (.int 2))), (dCall (F_tree_betweenn n) [(false, (dName 0)), (false, (dName 1)), (false, (dBin fAdd (dName 5) (dC (.int 1)))), (false, (dBin fIx (dName 1) (dName 5)))])])]) (sa_cons (se_tup (as := [(dBin fDiv (dMethR kStr (dC (.str [40, 41, 91, 93, 123, 125, 60, 62])) [(dBin fIx (dName 0) (dName 5))] fSIndex) (dC (.int 2))), (dCall (F_tree_betweenn n) [(false, (dName 0)), (false, (dName 1)), (false, (dBin fAdd (dName 5) (dC (.int 1)))), (false, (dBin fIx (dName 1) (dName 5)))])]) (sa_cons (se_bin op_fdivW o2_div (se_methR PySem.F.plainAttrs_str PySem.F.slot_str_index PySem.F.type_str_index mt_sindex mr_sindex kd_str (as := [(dBin fIx (dName 0) (dName 5))]) (se_gstr T.c_BRACKETS (by rfl)) (sa_cons (se_ix ix_seq o2_ix (se_name 0) (se_name 5) (by intro _ _; rfl)) sa_nil)) se_int) (sa_cons (se_call hrec hdok hgd (hr.mono (by omega)) (by rfl) (as := [(false, (dName 0)), (false, (dName 1)), (false, (dBin fAdd (dName 5) (dC (.int 1)))), (false, (dBin fIx (dName 1) (dName 5)))]) (sa_cons (se_name 0) (sa_cons (se_name 1) (sa_cons (se_bin op_addA o2_add (se_name 5) se_int) (sa_cons (se_ix ix_seq o2_ix (se_name 1) (se_name 5) (by intro _ _; rfl)) sa_nil))))) sa_nil))) sa_nil)))
    (ss_one (ss_set (i := 5) sc_tree_between.nd rfl (by first | exact Or.inl rfl | exact Or.inr rfl) (se_bin op_addA o2_add (se_ix ix_seq o2_ix (se_name 1) (se_name 5) (by intro _ _; rfl)) se_int))))))
    (ss_one (ss_ret (se_name 4))))))
theorem r_tree_between (T : Facts K mg) {f : Addr} {fd : FuncData} (F : Fun K "tree_between" "tree_between" s_tree_between f fd) (hm : mg "tree_between" = some (.ref f)) : ∀ n : Nat, n ≤ 25 → CalS PW w K mg base (1 + n + 1) "tree_between" (spT ⟨K, mg⟩ n)
  | 0, _ => calS_ok (k := 1) F sc_tree_between hm (F.binds (ps := ["row", "where", "begin", "end"]) fun _ _ _ _ _ _ us hl => match us, hl with | [_, _, _, _], _ => rfl) (fun _ _ _ _ h => h.1) fun cdv A outer s H E vs Q hgd hr h => by
    obtain ⟨_, t, _, _, _, _, _, _, h, _⟩ := h
    omega
  | n + 1, hn => by
    obtain ⟨_, _, _, rc1, rc2, rc3, rc4⟩ := (r_tree_between T F hm n (by omega)).ex
    exact calS_ok (k := 1 + n + 1) F sc_tree_between hm (F.binds (ps := ["row", "where", "begin", "end"]) fun _ _ _ _ _ _ us hl => match us, hl with | [_, _, _, _], _ => rfl) (fun _ _ _ _ h => h.1) fun cdv A outer s H E vs Q hgd hr h => by
      have tk : Takes (cxOf (L2.CX PW w) PW w K mg base ["row", "where", "begin", "end", "found", "place"] "tree_between" (defScope s_tree_between) f cdv A outer s H E) (fun cls d _ H => E cls d H) := takes_of rfl rfl rfl rfl
      have e : vs.length = 4 := h.1
      rw [e]
      exact ⟨_, pss_cons (ps_set (i := 4) sc_tree_between.nd rfl (by first | exact Or.inl rfl | exact Or.inr rfl) (pe_lst pa_nil)) (pss_cons (ps_set (i := 5) sc_tree_between.nd rfl (by first | exact Or.inl rfl | exact Or.inr rfl) (pe_var (i := 2) (by rfl) (by first | exact Or.inl rfl | exact Or.inr (Or.inl rfl) | exact Or.inr (Or.inr rfl)))) (pss_cons (ps_while (passes_of rfl) (pt_cmp (pc_lt (pe_var (i := 5) (by rfl) (by first | exact Or.inl rfl | exact Or.inr (Or.inl rfl) | exact Or.inr (Or.inr rfl))) (pe_var (i := 3) (by rfl) (by first | exact Or.inl rfl | exact Or.inr (Or.inl rfl) | exact Or.inr (Or.inr rfl))))) (pss_cons (ps_expr (pe_bm PySem.F.plainAttrs_list PySem.F.slot_list_append PySem.F.type_list_append mt_append (pe_var (i := 4) (by rfl) (by first | exact Or.inl rfl | exact Or.inr (Or.inl rfl) | exact Or.inr (Or.inr rfl))) (pa_cons (pe_tup (pa_cons ((show SE _ _ dT1 from (se_bin op_fdivW o2_div (se_methR PySem.F.plainAttrs_str PySem.F.slot_str_index PySem.F.type_str_index mt_sindex mr_sindex kd_str (as := [(dBin fIx (dName 0) (dName 5))]) (se_gstr T.c_BRACKETS (by rfl)) (sa_cons (se_ix ix_seq o2_ix (se_name 0) (se_name 5) (by intro _ _; rfl)) sa_nil)) se_int)) _ tk) (pa_cons (pe_callG rc4 hgd (hr.mono (by omega)) (by rfl) rc1 rc2 rc3 (fun σ => passAt tk σ) (pa_cons (pe_var (i := 0) (by rfl) (by first | exact Or.inl rfl | exact Or.inr (Or.inl rfl) | exact Or.inr (Or.inr rfl))) (pa_cons (pe_var (i := 1) (by rfl) (by first | exact Or.inl rfl | exact Or.inr (Or.inl rfl) | exact Or.inr (Or.inr rfl))) (pa_cons ((show SE _ _ dT2 from (se_bin op_addA o2_add (se_name 5) se_int)) _ tk) (pa_cons ((show SE _ _ dT3 from (se_ix ix_seq o2_ix (se_name 1) (se_name 5) (by intro _ _; rfl))) _ tk) pa_nil))))) pa_nil))) pa_nil))) (pss_one (ps_set (i := 5) sc_tree_between.nd rfl (by first | exact Or.inl rfl | exact Or.inr rfl) ((show SE _ _ dT4 from (se_bin op_addA o2_add (se_ix ix_seq o2_ix (se_name 1) (se_name 5) (by intro _ _; rfl)) se_int)) _ tk))))) (pss_one (ps_ret (pe_var (i := 4) (by rfl) (by first | exact Or.inl rfl | exact Or.inr (Or.inl rfl) | exact Or.inr (Or.inr rfl))))))), tb_ok (g := ⟨K, mg⟩) h⟩
noncomputable abbrev s_brackets_of : Stmt := top 15
theorem sc_brackets_of : FnScope ["k"] ["k"] (defScope s_brackets_of) := ⟨rfl, rfl, rfl, by decide +kernel, rfl, by decide +kernel, by decide +kernel⟩
theorem w_brackets_of (T : Facts K mg) {f : Addr} {fd : FuncData} (F : Fun K "brackets_of" "brackets_of" s_brackets_of f fd) (hm : mg "brackets_of" = some (.ref f))  : CalF PW w K mg base 2 "brackets_of" 1 F_brackets_of :=
  cal_ok (k := 1) F sc_brackets_of hm (F.binds (ps := ["k"]) fun _ _ _ _ _ _ us hl => match us, hl with | [_], _ => rfl) fun cdv A outer s H E hgd hr =>
    (ss_one (ss_ret (se_sl (se_gstr T.c_BRACKETS (by rfl)) so_none (so_some (se_bin op_addA o2_add (se_name 0) (se_name 0))))))
noncomputable abbrev s_is_row_by : Stmt := top 16
theorem sc_is_row_by : FnScope ["k", "thing", "sign"] ["k", "thing"] (defScope s_is_row_by) := ⟨rfl, rfl, rfl, by decide +kernel, rfl, by decide +kernel, by decide +kernel⟩
theorem w_is_row_by (T : Facts K mg) {f : Addr} {fd : FuncData} (F : Fun K "is_row_by" "is_row_by" s_is_row_by f fd) (hm : mg "is_row_by" = some (.ref f)) (c_brackets_of : CalF PW w K mg base 2 "brackets_of" 1 F_brackets_of) : CalF PW w K mg base 3 "is_row_by" 2 F_is_row_by :=
  cal_ok (k := 2) F sc_is_row_by hm (F.binds (ps := ["k", "thing"]) fun _ _ _ _ _ _ us hl => match us, hl with | [_, _], _ => rfl) fun cdv A outer s H E hgd hr =>
    (ss_cons (ss_if (st_w (sw_or (st_not (st_val (se_isi tyOk_str (by rfl) T.z_isinstance (by rfl) T.z_str (by decide +kernel) (se_name 1)))) (sw_or1 (st_cmp op_gt o2_rel (se_callB1 call_len c1_len (by rfl) T.z_len (by decide +kernel) (se_name 1)) (se_gint T.c_MOST_SIGNS (by rfl)) (by rfl))))) (ss_one (ss_ret se_bl)) ss_nil)
    (ss_one (ss_ret (se_cmp (op_eqA hr.units) o2_eq (se_lcN (j := 1) (by rfl) (by first | exact Or.inl rfl | exact Or.inr (Or.inl rfl) | exact Or.inr (Or.inr rfl)) rfl sc_is_row_by.nd (own := [("sign", 2)]) (blkOk_by (by rfl)) (fun _ _ _ _ _ => (pg_name (i := 2) sc_is_row_by.nd rfl (by first | exact Or.inl rfl | exact Or.inr rfl))) (tg_name 2) (by decide) (fun _ _ _ _ _ => sts_one (st_cmp (op_notInA (u65 hr)) o2_notIn (se_name 2) (se_bin op_addA o2_add (se_call c_brackets_of ok_brackets_of hgd (hr.mono (by omega)) (by rfl) (as := [(false, (dName 0))]) (sa_cons (se_name 0) sa_nil)) (se_gstr T.c_UNKNOWN (by rfl))) (by rfl))) (fun _ _ _ _ _ => (se_name 2))) (se_lst (as := []) sa_nil) (by rfl)))))
noncomputable abbrev s_need_line : Stmt := top 17
theorem sc_need_line : FnScope ["k", "row"] ["k", "row"] (defScope s_need_line) := ⟨rfl, rfl, rfl, by decide +kernel, rfl, by decide +kernel, by decide +kernel⟩
theorem w_need_line (T : Facts K mg) {f : Addr} {fd : FuncData} (F : Fun K "need_line" "need_line" s_need_line f fd) (hm : mg "need_line" = some (.ref f)) (c_is_row_by : CalF PW w K mg base 3 "is_row_by" 2 F_is_row_by) (c_need_kinds : CalF PW w K mg base 3 "need_kinds" 1 F_need_kinds) : CalF PW w K mg base 4 "need_line" 2 F_need_line :=
  cal_ok (k := 3) F sc_need_line hm (F.binds (ps := ["k", "row"]) fun _ _ _ _ _ _ us hl => match us, hl with | [_, _], _ => rfl) fun cdv A outer s H E hgd hr =>
    (ss_cons (ss_expr (se_call c_need_kinds ok_need_kinds hgd (hr.mono (by omega)) (by rfl) (as := [(false, (dName 0))]) (sa_cons (se_name 0) sa_nil)))
    (ss_one (ss_if (st_not (st_val (se_call c_is_row_by ok_is_row_by hgd (hr.mono (by omega)) (by rfl) (as := [(false, (dName 0)), (false, (dName 1))]) (sa_cons (se_name 0) (sa_cons (se_name 1) sa_nil))))) (ss_one (ss_raise rfl T.e_2 (by rfl) (by rfl))) ss_nil)))
noncomputable abbrev s_is_opening : Stmt := top 18
theorem sc_is_opening : FnScope ["bracket"] ["bracket"] (defScope s_is_opening) := ⟨rfl, rfl, rfl, by decide +kernel, rfl, by decide +kernel, by decide +kernel⟩
theorem w_is_opening (T : Facts K mg) {f : Addr} {fd : FuncData} (F : Fun K "is_opening" "is_opening" s_is_opening f fd) (hm : mg "is_opening" = some (.ref f))  : CalF PW w K mg base 2 "is_opening" 1 F_is_opening :=
  cal_ok (k := 1) F sc_is_opening hm (F.binds (ps := ["bracket"]) fun _ _ _ _ _ _ us hl => match us, hl with | [_], _ => rfl) fun cdv A outer s H E hgd hr =>
    (ss_one (ss_ret (se_cmp (op_eqA hr.units) o2_eq (se_bin op_mod o2_mod (se_methR PySem.F.plainAttrs_str PySem.F.slot_str_index PySem.F.type_str_index mt_sindex mr_sindex kd_str (as := [(dName 0)]) (se_gstr T.c_BRACKETS (by rfl)) (sa_cons (se_name 0) sa_nil)) se_int) se_int (by rfl))))
noncomputable abbrev s_other_of : Stmt := top 19
theorem sc_other_of : FnScope ["bracket", "at"] ["bracket"] (defScope s_other_of) := ⟨rfl, rfl, rfl, by decide +kernel, rfl, by decide +kernel, by decide +kernel⟩
theorem w_other_of (T : Facts K mg) {f : Addr} {fd : FuncData} (F : Fun K "other_of" "other_of" s_other_of f fd) (hm : mg "other_of" = some (.ref f))  : CalF PW w K mg base 2 "other_of" 1 F_other_of :=
  cal_ok (k := 1) F sc_other_of hm (F.binds (ps := ["bracket"]) fun _ _ _ _ _ _ us hl => match us, hl with | [_], _ => rfl) fun cdv A outer s H E hgd hr =>
    (ss_cons (ss_set (i := 1) sc_other_of.nd rfl (by first | exact Or.inl rfl | exact Or.inr rfl) (se_methR PySem.F.plainAttrs_str PySem.F.slot_str_index PySem.F.type_str_index mt_sindex mr_sindex kd_str (as := [(dName 0)]) (se_gstr T.c_BRACKETS (by rfl)) (sa_cons (se_name 0) sa_nil)))
    (ss_one (ss_ret (se_ix ix_seq o2_ix (se_gstr T.c_BRACKETS (by rfl)) (se_bin op_sub o2_sub (se_bin op_addA o2_add (se_name 1) se_int) (se_bin op_mulA o2_mul (se_bin op_mod o2_mod (se_name 1) se_int) se_int)) (by intro _ _; rfl)))))
noncomputable abbrev s_partners_of : Stmt := top 20
theorem sc_partners_of : FnScope ["row", "found", "open_ones", "place", "sign"] ["row"] (defScope s_partners_of) := ⟨rfl, rfl, rfl, by decide +kernel, rfl, by decide +kernel, by decide +kernel⟩
theorem w_partners_of (T : Facts K mg) {f : Addr} {fd : FuncData} (F : Fun K "partners_of" "partners_of" s_partners_of f fd) (hm : mg "partners_of" = some (.ref f)) (c_is_opening : CalF PW w K mg base 2 "is_opening" 1 F_is_opening) (c_other_of : CalF PW w K mg base 2 "other_of" 1 F_other_of) : CalF PW w K mg base 3 "partners_of" 1 F_partners_of :=
  cal_ok (k := 2) F sc_partners_of hm (F.binds (ps := ["row"]) fun _ _ _ _ _ _ us hl => match us, hl with | [_], _ => rfl) fun cdv A outer s H E hgd hr =>
    (ss_cons (ss_set (i := 1) sc_partners_of.nd rfl (by first | exact Or.inl rfl | exact Or.inr rfl) (se_bin op_mulA o2_mul (se_lst (as := [(dC (.int 0))]) (sa_cons se_int sa_nil)) (se_callB1 call_len c1_len (by rfl) T.z_len (by decide +kernel) (se_name 0))))
    (ss_cons (ss_set (i := 2) sc_partners_of.nd rfl (by first | exact Or.inl rfl | exact Or.inr rfl) (se_lst (as := []) sa_nil))
    (ss_cons (ss_drop [3, 4] (ss_for (passes_of rfl) rfl (si_enum (by rfl) T.z_enumerate (se_name 0)) (pg_tup rfl (pgs_cons (pg_name (i := 3) sc_partners_of.nd rfl (by first | exact Or.inl rfl | exact Or.inr rfl)) (pgs_cons (pg_name (i := 4) sc_partners_of.nd rfl (by first | exact Or.inl rfl | exact Or.inr rfl)) pgs_nil))) (tg_tup (tgs_cons (tg_name 3) (tgs_cons (tg_name 4) tgs_nil))) (sss_drop [3, 4] (ss_cons (ss_if (st_cmp (op_eqA hr.units) o2_eq (se_name 4) (se_gstr T.c_UNKNOWN (by rfl)) (by rfl)) (ss_one (ss_ret se_non)) ss_nil)
    (ss_one (ss_if (st_val (se_call c_is_opening ok_is_opening hgd (hr.mono (by omega)) (by rfl) (as := [(false, (dName 4))]) (sa_cons (se_name 4) sa_nil))) (ss_one (ss_expr (se_meth PySem.F.plainAttrs_list PySem.F.slot_list_append PySem.F.type_list_append mt_append m_append tyL (by rfl) (by first | exact Or.inl rfl | exact Or.inr (Or.inl rfl) | exact Or.inr (Or.inr rfl)) (as := [(dName 3)]) (sa_cons (se_name 3) sa_nil)))) (ss_one (ss_if (st_w (sw_or (st_cmp (op_eqA hr.units) o2_eq (se_name 2) (se_lst (as := []) sa_nil) (by rfl)) (sw_or1 (st_cmp (op_neA hr.units) o2_ne (se_ix ix_seq o2_ix (se_name 0) (se_ix ix_seq o2_ix (se_name 2) (se_un un_neg o1_neg se_int) (by intro _ _; rfl)) (by intro _ _; rfl)) (se_call c_other_of ok_other_of hgd (hr.mono (by omega)) (by rfl) (as := [(false, (dName 4))]) (sa_cons (se_name 4) sa_nil)) (by rfl))))) (ss_one (ss_ret se_non)) (ss_cons (ss_setL (j := 1) (by rfl) (by first | exact Or.inl rfl | exact Or.inr (Or.inl rfl) | exact Or.inr (Or.inr rfl)) (se_name 3) (se_meth0 PySem.F.plainAttrs_list PySem.F.slot_list_pop PySem.F.type_list_pop mt_pop m_pop tyL (by rfl) (by first | exact Or.inl rfl | exact Or.inr (Or.inl rfl) | exact Or.inr (Or.inr rfl))))
    (ss_one (ss_setL (j := 1) (by rfl) (by first | exact Or.inl rfl | exact Or.inr (Or.inl rfl) | exact Or.inr (Or.inr rfl)) (se_ix ix_seq o2_ix (se_name 1) (se_name 3) (by intro _ _; rfl)) (se_name 3))))))))))))
    (ss_cons (ss_if (st_cmp (op_neA hr.units) o2_ne (se_name 2) (se_lst (as := []) sa_nil) (by rfl)) (ss_one (ss_ret se_non)) ss_nil)
    (ss_one (ss_ret (se_name 1)))))))
noncomputable abbrev s_need_partners : Stmt := top 21
theorem sc_need_partners : FnScope ["k", "row", "found"] ["k", "row"] (defScope s_need_partners) := ⟨rfl, rfl, rfl, by decide +kernel, rfl, by decide +kernel, by decide +kernel⟩
theorem w_need_partners (T : Facts K mg) {f : Addr} {fd : FuncData} (F : Fun K "need_partners" "need_partners" s_need_partners f fd) (hm : mg "need_partners" = some (.ref f)) (c_need_line : CalF PW w K mg base 4 "need_line" 2 F_need_line) (c_partners_of : CalF PW w K mg base 3 "partners_of" 1 F_partners_of) : CalF PW w K mg base 5 "need_partners" 2 F_need_partners :=
  cal_ok (k := 4) F sc_need_partners hm (F.binds (ps := ["k", "row"]) fun _ _ _ _ _ _ us hl => match us, hl with | [_, _], _ => rfl) fun cdv A outer s H E hgd hr =>
    (ss_cons (ss_expr (se_call c_need_line ok_need_line hgd (hr.mono (by omega)) (by rfl) (as := [(false, (dName 0)), (false, (dName 1))]) (sa_cons (se_name 0) (sa_cons (se_name 1) sa_nil))))
    (ss_cons (ss_set (i := 2) sc_need_partners.nd rfl (by first | exact Or.inl rfl | exact Or.inr rfl) (se_call c_partners_of ok_partners_of hgd (hr.mono (by omega)) (by rfl) (as := [(false, (dName 1))]) (sa_cons (se_name 1) sa_nil)))
    (ss_cons (ss_if (st_cmp op_isA o2_is (se_name 2) se_non (by rfl)) (ss_one (ss_raise rfl T.e_3 (by rfl) (by rfl))) ss_nil)
    (ss_one (ss_ret (se_name 2))))))
noncomputable abbrev s_tree_of : Stmt := top 27
theorem sc_tree_of : FnScope ["k", "row"] ["k", "row"] (defScope s_tree_of) := ⟨rfl, rfl, rfl, by decide +kernel, rfl, by decide +kernel, by decide +kernel⟩
theorem w_tree_of (T : Facts K mg) {f : Addr} {fd : FuncData} (F : Fun K "tree_of" "tree_of" s_tree_of f fd) (hm : mg "tree_of" = some (.ref f)) (c_need_partners : CalF PW w K mg base 5 "need_partners" 2 F_need_partners) (c_tree_between : CalF PW w K mg base 27 "tree_between" 4 F_tree_between) : CalF PW w K mg base 28 "tree_of" 2 F_tree_of :=
  cal_ok (k := 27) F sc_tree_of hm (F.binds (ps := ["k", "row"]) fun _ _ _ _ _ _ us hl => match us, hl with | [_, _], _ => rfl) fun cdv A outer s H E hgd hr =>
    (ss_one (ss_ret (se_call c_tree_between ok_tree_between hgd (hr.mono (by omega)) (by rfl) (as := [(false, (dName 1)), (false, (dCall F_need_partners [(false, (dName 0)), (false, (dName 1))])), (false, (dC (.int 0))), (false, (dUn fLen (dName 1)))]) (sa_cons (se_name 1) (sa_cons (se_call c_need_partners ok_need_partners hgd (hr.mono (by omega)) (by rfl) (as := [(false, (dName 0)), (false, (dName 1))]) (sa_cons (se_name 0) (sa_cons (se_name 1) sa_nil))) (sa_cons se_int (sa_cons (se_callB1 call_len c1_len (by rfl) T.z_len (by decide +kernel) (se_name 1)) sa_nil)))))))
theorem r_tree_of (T : Facts K mg) {f : Addr} {fd : FuncData} (F : Fun K "tree_of" "tree_of" s_tree_of f fd) (hm : mg "tree_of" = some (.ref f)) (c_need_partners : CalF PW w K mg base 5 "need_partners" 2 F_need_partners) (c_tree_betweenS : CalS PW w K mg base 27 "tree_between" (spT ⟨K, mg⟩ 25)) : CalS PW w K mg base 28 "tree_of" spO := by
  obtain ⟨_, _, _, rc1, rc2, rc3, rc4⟩ := c_tree_betweenS.ex
  exact calS_ok (k := 27) F sc_tree_of hm (F.binds (ps := ["k", "row"]) fun _ _ _ _ _ _ us hl => match us, hl with | [_, _], _ => rfl) (fun _ _ _ _ h => h.1) fun cdv A outer s H E vs Q hgd hr h => by
    have tk : Takes (cxOf (L2.CX PW w) PW w K mg base ["k", "row"] "tree_of" (defScope s_tree_of) f cdv A outer s H E) (fun cls d _ H => E cls d H) := takes_of rfl rfl rfl rfl
    have e : vs.length = 2 := h.1
    rw [e]
    exact ⟨_, pss_one (ps_ret (pe_callG rc4 hgd (hr.mono (by omega)) (by rfl) rc1 rc2 rc3 (fun σ => passAt tk σ) (pa_cons (pe_var (i := 1) (by rfl) (by first | exact Or.inl rfl | exact Or.inr (Or.inl rfl) | exact Or.inr (Or.inr rfl))) (pa_cons ((show SE _ _ dO1 from (se_call c_need_partners ok_need_partners hgd (hr.mono (by omega)) (by rfl) (as := [(false, (dName 0)), (false, (dName 1))]) (sa_cons (se_name 0) (sa_cons (se_name 1) sa_nil)))) _ tk) (pa_cons pe_int (pa_cons ((show SE _ _ dO2 from (se_callB1 call_len c1_len (by rfl) T.z_len (by decide +kernel) (se_name 1))) _ tk) pa_nil)))))), to_ok (g := ⟨K, mg⟩) h⟩
noncomputable abbrev s_law_spoil : Stmt := top 41
theorem sc_law_spoil : FnScope ["tree", "number", "many", "kind", "within"] ["tree", "number"] (defScope s_law_spoil) := ⟨rfl, rfl, rfl, by decide +kernel, rfl, by decide +kernel, by decide +kernel⟩
theorem w_law_spoil (T : Facts K mg) {f : Addr} {fd : FuncData} (F : Fun K "_law_spoil" "_law_spoil" s_law_spoil f fd) (hm : mg "_law_spoil" = some (.ref f)) : ∀ n : Nat, n ≤ 25 → CalS PW w K mg base (1 + n + 1) "_law_spoil" (spSp n)
  | 0, _ => calS_ok (k := 1) F sc_law_spoil hm (F.binds (ps := ["tree", "number"]) fun _ _ _ _ _ _ us hl => match us, hl with | [_, _], _ => rfl) (fun _ _ _ _ h => h.1) fun cdv A outer s H E vs Q hgd hr h => by
    obtain ⟨_, _, _, t, _, _, _, _, h, _⟩ := h
    omega
  | n + 1, hn => by
    obtain ⟨_, _, _, rc1, rc2, rc3, rc4⟩ := (w_law_spoil T F hm n (by omega)).ex
    exact calS_ok (k := 1 + n + 1) F sc_law_spoil hm (F.binds (ps := ["tree", "number"]) fun _ _ _ _ _ _ us hl => match us, hl with | [_, _], _ => rfl) (fun _ _ _ _ h => h.1) fun cdv A outer s H E vs Q hgd hr h => by
      have tk : Takes (cxOf (L2.CX PW w) PW w K mg base ["tree", "number", "many", "kind", "within"] "_law_spoil" (defScope s_law_spoil) f cdv A outer s H E) (fun cls d _ H => E cls d H) := takes_of rfl rfl rfl rfl
      have e : vs.length = 2 := h.1
      rw [e]
      exact ⟨_, pss_cons (ps_set (i := 2) sc_law_spoil.nd rfl (by first | exact Or.inl rfl | exact Or.inr rfl) (pe_var (i := 1) (by rfl) (by first | exact Or.inl rfl | exact Or.inr (Or.inl rfl) | exact Or.inr (Or.inr rfl)))) (pss_cons (ps_for (passes_of rfl) rfl (pi_list (pe_var (i := 0) (by rfl) (by first | exact Or.inl rfl | exact Or.inr (Or.inl rfl) | exact Or.inr (Or.inr rfl)))) (pg_tup rfl (pgs_cons (pg_name (i := 3) sc_law_spoil.nd rfl (by first | exact Or.inl rfl | exact Or.inr rfl)) (pgs_cons (pg_name (i := 4) sc_law_spoil.nd rfl (by first | exact Or.inl rfl | exact Or.inr rfl)) pgs_nil))) (pss_one (ps_set (i := 2) sc_law_spoil.nd rfl (by first | exact Or.inl rfl | exact Or.inr rfl) (pe_callG rc4 hgd (hr.mono (by omega)) (by rfl) rc1 rc2 rc3 (fun σ => passAt tk σ) (pa_cons (pe_var (i := 4) (by rfl) (by first | exact Or.inl rfl | exact Or.inr (Or.inl rfl) | exact Or.inr (Or.inr rfl))) (pa_cons (pe_var (i := 2) (by rfl) (by first | exact Or.inl rfl | exact Or.inr (Or.inl rfl) | exact Or.inr (Or.inr rfl))) pa_nil)))))) (pss_cons (ps_expr (pe_bm PySem.F.plainAttrs_list PySem.F.slot_list_append PySem.F.type_list_append mt_append (pe_var (i := 0) (by rfl) (by first | exact Or.inl rfl | exact Or.inr (Or.inl rfl) | exact Or.inr (Or.inr rfl))) (pa_cons (pe_var (i := 2) (by rfl) (by first | exact Or.inl rfl | exact Or.inr (Or.inl rfl) | exact Or.inr (Or.inr rfl))) pa_nil))) (pss_one (ps_ret (pe_add (pe_var (i := 2) (by rfl) (by first | exact Or.inl rfl | exact Or.inr (Or.inl rfl) | exact Or.inr (Or.inr rfl))) pe_int))))), spoil_ok (W := fun _ _ _ _ => True) h⟩
noncomputable abbrev s_law_is : Stmt := top 40
theorem sc_law_is : FnScope ["found", "due", "one", "other"] ["found", "due"] (defScope s_law_is) := ⟨rfl, rfl, rfl, by decide +kernel, rfl, by decide +kernel, by decide +kernel⟩
theorem w_law_is (T : Facts K mg) {f : Addr} {fd : FuncData} (F : Fun K "_law_is" "_law_is" s_law_is f fd) (hm : mg "_law_is" = some (.ref f))  : ∀ n : Nat, n ≤ 25 → CalF PW w K mg base (1 + n + 1) "_law_is" 2 (F_law_isn n)
  | 0, _ => cal_ok (k := 1) (b := fun _ => .bad) F sc_law_is hm (F.binds (ps := ["found", "due"]) fun _ _ _ _ _ _ us hl => match us, hl with | [_, _], _ => rfl) fun cdv A outer s H E hgd hr => (fun _ _ => ⟨fun _ _ _ _ _ _ ⟨_, _, _, _, q⟩ => q.elim⟩)
  | n + 1, hn => by
    have hrec := w_law_is T F hm  n (by omega)
    have hdok : FDok (F_law_isn n) := by
      cases n with
      | zero => exact ⟨fun h => (nomatch h), fun h => (nomatch h)⟩
      | succ n => exact fdok _ _
    exact cal_ok (k := 1 + n + 1) F sc_law_is hm (F.binds (ps := ["found", "due"]) fun _ _ _ _ _ _ us hl => match us, hl with | [_, _], _ => rfl) fun cdv A outer s H E hgd hr => (ss_cons (ss_if (st_w (sw_or (st_not (st_val (se_isi tyOk_list (by rfl) T.z_isinstance (by rfl) T.z_list (by decide +kernel) (se_name 0)))) (sw_or1 (st_cmp (op_neA hr.units) o2_ne (se_callB1 call_len c1_len (by rfl) T.z_len (by decide +kernel) (se_name 0)) (se_callB1 call_len c1_len (by rfl) T.z_len (by decide +kernel) (se_name 1)) (by rfl))))) (ss_one (ss_ret se_bl)) ss_nil)
    (ss_cons (ss_drop [2, 3] (ss_for (passes_of rfl) rfl (si_zip (by rfl) T.z_zip (se_name 0) (se_name 1)) (pg_tup rfl (pgs_cons (pg_name (i := 2) sc_law_is.nd rfl (by first | exact Or.inl rfl | exact Or.inr rfl)) (pgs_cons (pg_name (i := 3) sc_law_is.nd rfl (by first | exact Or.inl rfl | exact Or.inr rfl)) pgs_nil))) (tg_tup (tgs_cons (tg_name 2) (tgs_cons (tg_name 3) tgs_nil))) (sss_drop [2, 3] (ss_cons (ss_if (st_w (sw_or (st_not (st_val (se_isi tyOk_tuple (by rfl) T.z_isinstance (by rfl) T.z_tuple (by decide +kernel) (se_name 2)))) (sw_or (st_cmp (op_neA hr.units) o2_ne (se_callB1 call_len c1_len (by rfl) T.z_len (by decide +kernel) (se_name 2)) se_int (by rfl)) (sw_or (st_val (se_isi tyOk_bool (by rfl) T.z_isinstance (by rfl) T.z_bool (by decide +kernel) (se_ix ix_seq o2_ix (se_name 2) se_int (by intro _ _; rfl)))) (sw_or1 (st_cmp (op_neA hr.units) o2_ne (se_ix ix_seq o2_ix (se_name 2) se_int (by intro _ _; rfl)) (se_ix ix_seq o2_ix (se_name 3) se_int (by intro _ _; rfl)) (by rfl))))))) (ss_one (ss_ret se_bl)) ss_nil)
    (ss_one (ss_if (st_w (sw_or (st_not (st_val (se_isi tyOk_int (by rfl) T.z_isinstance (by rfl) T.z_int (by decide +kernel) (se_ix ix_seq o2_ix (se_name 2) se_int (by intro _ _; rfl))))) (sw_or1 (st_not (st_val (se_call hrec hdok hgd (hr.mono (by omega)) (by rfl) (as := [(false, (dBin fIx (dName 2) (dC (.int 1)))), (false, (dBin fIx (dName 3) (dC (.int 1))))]) (sa_cons (se_ix ix_seq o2_ix (se_name 2) se_int (by intro _ _; rfl)) (sa_cons (se_ix ix_seq o2_ix (se_name 3) se_int (by intro _ _; rfl)) sa_nil)))))))) (ss_one (ss_ret se_bl)) ss_nil))))))
    (ss_one (ss_ret se_bl))))
noncomputable abbrev s_law_numbers : Stmt := top 42
theorem sc_law_numbers : FnScope ["tree", "found", "one"] ["tree"] (defScope s_law_numbers) := ⟨rfl, rfl, rfl, by decide +kernel, rfl, by decide +kernel, by decide +kernel⟩
theorem w_law_numbers (T : Facts K mg) {f : Addr} {fd : FuncData} (F : Fun K "_law_numbers" "_law_numbers" s_law_numbers f fd) (hm : mg "_law_numbers" = some (.ref f))  : ∀ n : Nat, n ≤ 25 → CalF PW w K mg base (1 + n + 1) "_law_numbers" 1 (F_law_numbersn n)
  | 0, _ => cal_ok (k := 1) (b := fun _ => .bad) F sc_law_numbers hm (F.binds (ps := ["tree"]) fun _ _ _ _ _ _ us hl => match us, hl with | [_], _ => rfl) fun cdv A outer s H E hgd hr => (fun _ _ => ⟨fun _ _ _ _ _ _ ⟨_, _, _, _, q⟩ => q.elim⟩)
  | n + 1, hn => by
    have hrec := w_law_numbers T F hm  n (by omega)
    have hdok : FDok (F_law_numbersn n) := by
      cases n with
      | zero => exact ⟨fun h => (nomatch h), fun h => (nomatch h)⟩
      | succ n => exact fdok _ _
    exact cal_ok (k := 1 + n + 1) F sc_law_numbers hm (F.binds (ps := ["tree"]) fun _ _ _ _ _ _ us hl => match us, hl with | [_], _ => rfl) fun cdv A outer s H E hgd hr => (ss_cons (ss_set (i := 1) sc_law_numbers.nd rfl (by first | exact Or.inl rfl | exact Or.inr rfl) (se_lst (as := []) sa_nil))
    (ss_cons (ss_drop [2] (ss_for (passes_of rfl) rfl (si_seq (se_sl (se_name 0) so_none (so_some (se_un un_neg o1_neg se_int)))) (pg_name (i := 2) sc_law_numbers.nd rfl (by first | exact Or.inl rfl | exact Or.inr rfl)) (tg_name 2) (sss_drop [2] (ss_one (ss_set (i := 1) sc_law_numbers.nd rfl (by first | exact Or.inl rfl | exact Or.inr rfl) (se_bin op_addA o2_add (se_name 1) (se_call hrec hdok hgd (hr.mono (by omega)) (by rfl) (as := [(false, (dBin fIx (dName 2) (dC (.int 1))))]) (sa_cons (se_ix ix_seq o2_ix (se_name 2) se_int (by intro _ _; rfl)) sa_nil))))))))
    (ss_one (ss_ret (se_bin op_addA o2_add (se_name 1) (se_sl (se_name 0) (so_some (se_un un_neg o1_neg se_int)) so_none))))))
noncomputable abbrev s_law : Stmt := top 43
theorem sc_law : FnScope ["script", "turn", "pool", "k", "tree", "handed", "row", "kinds", "told", "found", "many", "other"] ["script"] (defScope s_law) := ⟨rfl, rfl, rfl, by decide +kernel, rfl, by decide +kernel, by decide +kernel⟩
theorem w_law (T : Facts K mg) {f : Addr} {fd : FuncData} (F : Fun K "law" "law" s_law f fd) (c_law_copy : CalF PW w K mg base 27 "_law_copy" 1 F_law_copy) (c_law_is : CalF PW w K mg base 27 "_law_is" 2 F_law_is) (c_law_numbers : CalF PW w K mg base 27 "_law_numbers" 1 F_law_numbers) (c_law_pool : CalF PW w K mg base 2 "_law_pool" 2 F_law_pool) (c_law_right_row : CalF PW w K mg base 3 "_law_right_row" 3 F_law_right_row) (c_law_row : CalF PW w K mg base 27 "_law_row" 1 F_law_row) (c_law_spoil : CalS PW w K mg base 27 "_law_spoil" (spSp 25)) (c_tree_ofS : CalS PW w K mg base 28 "tree_of" spO) (c_law_take : CalF PW w K mg base 2 "_law_take" 2 F_law_take) (c_law_tree : CalF PW w K mg base 3 "_law_tree" 3 F_law_tree) (c_row_of_tree : CalF PW w K mg base 28 "row_of_tree" 2 F_row_of_tree) (c_tree_of : CalF PW w K mg base 28 "tree_of" 2 F_tree_of) : FnG PW w K mg base (L2.CX PW w) 29 f fd ["script"] (spF ⟨K, mg⟩ 1 F_law) := by
  obtain ⟨_, _, _, ro1, ro2, ro3, ro4⟩ := c_tree_ofS.ex
  obtain ⟨_, _, _, rs1, rs2, rs3, rs4⟩ := c_law_spoil.ex
  exact fd_ok (k := 28) F sc_law fun cdv A outer s H E hgd hr =>
    (ss_cons (ss_drop [1, 2, 3, 4, 5, 6, 7, 8, 9, 10, 11] (ss_for (passes_of rfl) rfl (si_r1 (by rfl) T.z_range (se_callB2 (call_max2 rfl) c2_max (by rfl) T.z_max (by decide +kernel) se_int (se_callB2 (call_min2 rfl) c2_min (by rfl) T.z_min (by decide +kernel) se_int (se_callB1 call_len c1_len (by rfl) T.z_len (by decide +kernel) (se_name 0))))) (pg_name (i := 1) sc_law.nd rfl (by first | exact Or.inl rfl | exact Or.inr rfl)) (tg_name 1) (sss_drop [1, 2, 3, 4, 5, 6, 7, 8, 9, 10, 11] (ss_cons (ss_set (i := 2) sc_law.nd rfl (by first | exact Or.inl rfl | exact Or.inr rfl) (se_call c_law_pool ok_law_pool hgd (hr.mono (by omega)) (by rfl) (as := [(false, (dName 0)), (false, (dName 1))]) (sa_cons (se_name 0) (sa_cons (se_name 1) sa_nil))))
    (ss_cons (ss_set (i := 3) sc_law.nd rfl (by first | exact Or.inl rfl | exact Or.inr rfl) (se_bin op_addA o2_add se_int (se_call c_law_take ok_law_take hgd (hr.mono (by omega)) (by rfl) (as := [(true, (dName 2)), (false, (dC (.int 4)))]) (sa_cons (se_name 2) (sa_cons se_int sa_nil)))))
    (ss_cons (ss_set (i := 4) sc_law.nd rfl (by first | exact Or.inl rfl | exact Or.inr rfl) (se_call c_law_tree ok_law_tree hgd (hr.mono (by omega)) (by rfl) (as := [(true, (dName 2)), (false, (dName 3)), (false, (dC (.int 20)))]) (sa_cons (se_name 2) (sa_cons (se_name 3) (sa_cons se_int sa_nil)))))
    (ss_cons (ss_set (i := 5) sc_law.nd rfl (by first | exact Or.inl rfl | exact Or.inr rfl) (se_call c_law_copy ok_law_copy hgd (hr.mono (by omega)) (by rfl) (as := [(false, (dName 4))]) (sa_cons (se_name 4) sa_nil)))
    (ss_cons (ss_drop [1] (ss_set (i := 6) sc_law.nd rfl (by first | exact Or.inl rfl | exact Or.inr rfl) (se_call c_law_row ok_law_row hgd (hr.mono (by omega)) (by rfl) (as := [(false, (dName 4))]) (sa_cons (se_name 4) sa_nil))))
    (ss_cons (ss_drop [7, 8, 9, 10] (ss_for (passes_of rfl) rfl (si_seq (se_lst (as := [(dName 3), (dC (.int 4)), (dName 3)]) (sa_cons (se_name 3) (sa_cons se_int (sa_cons (se_name 3) sa_nil))))) (pg_name (i := 7) sc_law.nd rfl (by first | exact Or.inl rfl | exact Or.inr rfl)) (tg_name 7) (sss_drop [7, 8, 9, 10] (ss_cons (ss_set (i := 8) sc_law.nd rfl (by first | exact Or.inl rfl | exact Or.inr rfl) (se_call c_row_of_tree ok_row_of_tree hgd (hr.mono (by omega)) (by rfl) (as := [(false, (dName 7)), (false, (dName 5))]) (sa_cons (se_name 7) (sa_cons (se_name 5) sa_nil))))
    (ss_cons (ss_if (st_w (sw_or (st_not (st_val (se_isi tyOk_str (by rfl) T.z_isinstance (by rfl) T.z_str (by decide +kernel) (se_name 8)))) (sw_or (st_cmp (op_neA hr.units) o2_ne (se_name 8) (se_name 6) (by rfl)) (sw_or1 (st_cmp (op_neA hr.units) o2_ne (se_name 5) (se_name 4) (by rfl)))))) (ss_one (ss_ret se_bl)) ss_nil)
    (fun W tk => pss_imp (pss_cons (ps_set (i := 9) sc_law.nd rfl (by first | exact Or.inl rfl | exact Or.inr rfl) (pe_callG ro4 hgd (hr.mono (by omega)) (by rfl) ro1 ro2 ro3 (fun σ => passAt tk σ) (pa_cons (pe_var (i := 7) (by rfl) (by first | exact Or.inl rfl | exact Or.inr (Or.inl rfl) | exact Or.inr (Or.inr rfl))) (pa_cons (pe_var (i := 6) (by rfl) (by first | exact Or.inl rfl | exact Or.inr (Or.inl rfl) | exact Or.inr (Or.inr rfl))) pa_nil)))) (pss_cons (ps_if ((st_not (st_val (se_call c_law_is ok_law_is hgd (hr.mono (by omega)) (by rfl) (as := [(false, (dName 9)), (false, (dName 4))]) (sa_cons (se_name 9) (sa_cons (se_name 4) sa_nil))))) W tk) (pss_one (ps_ret pe_bl)) pss_nil) (pss_cons (ps_set (i := 10) sc_law.nd rfl (by first | exact Or.inl rfl | exact Or.inr rfl) (pe_callG rs4 hgd (hr.mono (by omega)) (by rfl) rs1 rs2 rs3 (fun σ => passAt tk σ) (pa_cons (pe_var (i := 9) (by rfl) (by first | exact Or.inl rfl | exact Or.inr (Or.inl rfl) | exact Or.inr (Or.inr rfl))) (pa_cons pe_int pa_nil)))) (pss_one (ps_if ((st_w (sw_or (st_cmp (op_neA hr.units) o2_ne (se_name 10) (se_bin op_addA o2_add (se_bin op_fdivW o2_div (se_callB1 call_len c1_len (by rfl) T.z_len (by decide +kernel) (se_name 6)) se_int) se_int) (by rfl)) (sw_or1 (st_cmp (op_neA hr.units) o2_ne (se_call c_law_numbers ok_law_numbers hgd (hr.mono (by omega)) (by rfl) (as := [(false, (dName 9))]) (sa_cons (se_name 9) sa_nil)) (se_listRg rfl (by rfl) T.z_list (by rfl) T.z_range (se_name 10)) (by rfl))))) W tk) (pss_one (ps_ret pe_bl)) pss_nil))))) fun D σ H q => spoil_blk q))))))
    (ss_cons (ss_set (i := 11) sc_law.nd rfl (by first | exact Or.inl rfl | exact Or.inr rfl) (se_call c_law_right_row ok_law_right_row hgd (hr.mono (by omega)) (by rfl) (as := [(true, (dName 2)), (false, (dName 3)), (false, (dC (.int 40)))]) (sa_cons (se_name 2) (sa_cons (se_name 3) (sa_cons se_int sa_nil)))))
    (ss_one (ss_if (st_w (sw_or (st_cmp (op_neA hr.units) o2_ne (se_call c_law_row ok_law_row hgd (hr.mono (by omega)) (by rfl) (as := [(false, (dCall F_tree_of [(false, (dName 3)), (false, (dName 11))]))]) (sa_cons (se_call c_tree_of ok_tree_of hgd (hr.mono (by omega)) (by rfl) (as := [(false, (dName 3)), (false, (dName 11))]) (sa_cons (se_name 3) (sa_cons (se_name 11) sa_nil))) sa_nil)) (se_name 11) (by rfl)) (sw_or1 (st_cmp (op_neA hr.units) o2_ne (se_call c_row_of_tree ok_row_of_tree hgd (hr.mono (by omega)) (by rfl) (as := [(false, (dC (.int 4))), (false, (dCall F_tree_of [(false, (dC (.int 4))), (false, (dName 11))]))]) (sa_cons se_int (sa_cons (se_call c_tree_of ok_tree_of hgd (hr.mono (by omega)) (by rfl) (as := [(false, (dC (.int 4))), (false, (dName 11))]) (sa_cons se_int (sa_cons (se_name 11) sa_nil))) sa_nil))) (se_name 11) (by rfl))))) (ss_one (ss_ret se_bl)) ss_nil))))))))))))
    (ss_one (ss_ret (se_and (se_cmp (op_eqA hr.units) o2_eq (se_call c_tree_of ok_tree_of hgd (hr.mono (by omega)) (by rfl) (as := [(false, (dC (.int 1))), (false, (dC (.str [])))]) (sa_cons se_int (sa_cons (se_str (l := []) rfl) sa_nil))) (se_lst (as := []) sa_nil) (by rfl)) (se_and (se_cmp (op_eqA hr.units) o2_eq (se_call c_row_of_tree ok_row_of_tree hgd (hr.mono (by omega)) (by rfl) (as := [(false, (dC (.int 1))), (false, (dLst []))]) (sa_cons se_int (sa_cons (se_lst (as := []) sa_nil) sa_nil))) (se_str (l := []) rfl) (by rfl)) (se_one (se_cmp (op_eqA hr.units) o2_eq (se_call c_tree_of ok_tree_of hgd (hr.mono (by omega)) (by rfl) (as := [(false, (dC (.int 4))), (false, (dC (.str [40, 91, 93, 41, 60, 62])))]) (sa_cons se_int (sa_cons (se_str (l := [40, 91, 93, 41, 60, 62]) rfl) sa_nil))) (se_lst (as := [(dTup [(dC (.int 0)), (dLst [(dTup [(dC (.int 1)), (dLst [])])])]), (dTup [(dC (.int 3)), (dLst [])])]) (sa_cons (se_tup (as := [(dC (.int 0)), (dLst [(dTup [(dC (.int 1)), (dLst [])])])]) (sa_cons se_int (sa_cons (se_lst (as := [(dTup [(dC (.int 1)), (dLst [])])]) (sa_cons (se_tup (as := [(dC (.int 1)), (dLst [])]) (sa_cons se_int (sa_cons (se_lst (as := []) sa_nil) sa_nil))) sa_nil)) sa_nil))) (sa_cons (se_tup (as := [(dC (.int 3)), (dLst [])]) (sa_cons se_int (sa_cons (se_lst (as := []) sa_nil) sa_nil))) sa_nil))) (by rfl))))))))
end
theorem all_mk {w : World} {K : PySem.W.Frag} {h : Heap} {mg : Str → Option Value} {fa : Addr} (X : K.In h) (G : h.Ns mainGlobals mg) (hfa : mg "law" = some (.ref fa)) (hK : Keeps F_law)
    {f1 : Addr} {od1 an1 : Option Addr} {sl1 : Array (Option Value)} {oc1 kV1 dc1 pm1 cd1 ct1 : Value}
    {f2 : Addr} {od2 an2 : Option Addr} {sl2 : Array (Option Value)} {oc2 kV2 dc2 pm2 cd2 ct2 : Value}
    {f3 : Addr} {od3 an3 : Option Addr} {sl3 : Array (Option Value)} {oc3 kV3 dc3 pm3 cd3 ct3 : Value}
    {f4 : Addr} {od4 an4 : Option Addr} {sl4 : Array (Option Value)} {oc4 kV4 dc4 pm4 cd4 ct4 : Value}
    {f5 : Addr} {od5 an5 : Option Addr} {sl5 : Array (Option Value)} {oc5 kV5 dc5 pm5 cd5 ct5 : Value}
    {f6 : Addr} {od6 an6 : Option Addr} {sl6 : Array (Option Value)} {oc6 kV6 dc6 pm6 cd6 ct6 : Value}
    {f7 : Addr} {od7 an7 : Option Addr} {sl7 : Array (Option Value)} {oc7 kV7 dc7 pm7 cd7 ct7 : Value}
    {f8 : Addr} {od8 an8 : Option Addr} {sl8 : Array (Option Value)} {oc8 kV8 dc8 pm8 cd8 ct8 : Value}
    {f9 : Addr} {od9 an9 : Option Addr} {sl9 : Array (Option Value)} {oc9 kV9 dc9 pm9 cd9 ct9 : Value}
    {f10 : Addr} {od10 an10 : Option Addr} {sl10 : Array (Option Value)} {oc10 kV10 dc10 pm10 cd10 ct10 : Value}
    {f11 : Addr} {od11 an11 : Option Addr} {sl11 : Array (Option Value)} {oc11 kV11 dc11 pm11 cd11 ct11 : Value}
    {f12 : Addr} {od12 an12 : Option Addr} {sl12 : Array (Option Value)} {oc12 kV12 dc12 pm12 cd12 ct12 : Value}
    {f13 : Addr} {od13 an13 : Option Addr} {sl13 : Array (Option Value)} {oc13 kV13 dc13 pm13 cd13 ct13 : Value}
    {f14 : Addr} {od14 an14 : Option Addr} {sl14 : Array (Option Value)} {oc14 kV14 dc14 pm14 cd14 ct14 : Value}
    {f15 : Addr} {od15 an15 : Option Addr} {sl15 : Array (Option Value)} {oc15 kV15 dc15 pm15 cd15 ct15 : Value}
    {f16 : Addr} {od16 an16 : Option Addr} {sl16 : Array (Option Value)} {oc16 kV16 dc16 pm16 cd16 ct16 : Value}
    {f17 : Addr} {od17 an17 : Option Addr} {sl17 : Array (Option Value)} {oc17 kV17 dc17 pm17 cd17 ct17 : Value}
    {f18 : Addr} {od18 an18 : Option Addr} {sl18 : Array (Option Value)} {oc18 kV18 dc18 pm18 cd18 ct18 : Value}
    {f19 : Addr} {od19 an19 : Option Addr} {sl19 : Array (Option Value)} {oc19 kV19 dc19 pm19 cd19 ct19 : Value}
    {f20 : Addr} {od20 an20 : Option Addr} {sl20 : Array (Option Value)} {oc20 kV20 dc20 pm20 cd20 ct20 : Value}
    {f21 : Addr} {od21 an21 : Option Addr} {sl21 : Array (Option Value)} {oc21 kV21 dc21 pm21 cd21 ct21 : Value}
    {f22 : Addr} {od22 an22 : Option Addr} {sl22 : Array (Option Value)} {oc22 kV22 dc22 pm22 cd22 ct22 : Value}
    {f23 : Addr} {od23 an23 : Option Addr} {sl23 : Array (Option Value)} {oc23 kV23 dc23 pm23 cd23 ct23 : Value}
    {f24 : Addr} {od24 an24 : Option Addr} {sl24 : Array (Option Value)} {oc24 kV24 dc24 pm24 cd24 ct24 : Value}
    {f25 : Addr} {od25 an25 : Option Addr} {sl25 : Array (Option Value)} {oc25 kV25 dc25 pm25 cd25 ct25 : Value}
    {t_MOST_KINDS : Tok}
    {C1 : Addr}
    {t_OPENING : Tok}
    {t_CLOSING : Tok}
    {t_MOST_TUPLES : Tok}
    {C4 : Addr}
    {t_BRACKETS : Tok}
    {t_MOST_SIGNS : Tok}
    {t_UNKNOWN : Tok}
    {C2 : Addr}
    {C3 : Addr}
    (a1 : PySem.W.nsIn K mainGlobals "_law_pool" = some (some (.ref f1)))
    (l1 : K.lookup f1 = some ⟨oc1, od1, .func (PySem.W.fnOf "_law_pool" "_law_pool" (defArgs s_law_pool) (defBody s_law_pool) (defScope s_law_pool) .none kV1 dc1 pm1 an1 cd1 ct1), sl1⟩)
    (b1 : PySem.W.codeIn K cd1 "_law_pool" = true)
    (k1 : PySem.W.keepIn K (.ref f1) = true)
    (a2 : PySem.W.nsIn K mainGlobals "_law_take" = some (some (.ref f2)))
    (l2 : K.lookup f2 = some ⟨oc2, od2, .func (PySem.W.fnOf "_law_take" "_law_take" (defArgs s_law_take) (defBody s_law_take) (defScope s_law_take) .none kV2 dc2 pm2 an2 cd2 ct2), sl2⟩)
    (b2 : PySem.W.codeIn K cd2 "_law_take" = true)
    (k2 : PySem.W.keepIn K (.ref f2) = true)
    (a3 : PySem.W.nsIn K mainGlobals "_law_tree" = some (some (.ref f3)))
    (l3 : K.lookup f3 = some ⟨oc3, od3, .func (PySem.W.fnOf "_law_tree" "_law_tree" (defArgs s_law_tree) (defBody s_law_tree) (defScope s_law_tree) .none kV3 dc3 pm3 an3 cd3 ct3), sl3⟩)
    (b3 : PySem.W.codeIn K cd3 "_law_tree" = true)
    (k3 : PySem.W.keepIn K (.ref f3) = true)
    (a4 : PySem.W.nsIn K mainGlobals "_law_copy" = some (some (.ref f4)))
    (l4 : K.lookup f4 = some ⟨oc4, od4, .func (PySem.W.fnOf "_law_copy" "_law_copy" (defArgs s_law_copy) (defBody s_law_copy) (defScope s_law_copy) .none kV4 dc4 pm4 an4 cd4 ct4), sl4⟩)
    (b4 : PySem.W.codeIn K cd4 "_law_copy" = true)
    (k4 : PySem.W.keepIn K (.ref f4) = true)
    (a5 : PySem.W.nsIn K mainGlobals "_law_row" = some (some (.ref f5)))
    (l5 : K.lookup f5 = some ⟨oc5, od5, .func (PySem.W.fnOf "_law_row" "_law_row" (defArgs s_law_row) (defBody s_law_row) (defScope s_law_row) .none kV5 dc5 pm5 an5 cd5 ct5), sl5⟩)
    (b5 : PySem.W.codeIn K cd5 "_law_row" = true)
    (k5 : PySem.W.keepIn K (.ref f5) = true)
    (a6 : PySem.W.nsIn K mainGlobals "_law_right_row" = some (some (.ref f6)))
    (l6 : K.lookup f6 = some ⟨oc6, od6, .func (PySem.W.fnOf "_law_right_row" "_law_right_row" (defArgs s_law_right_row) (defBody s_law_right_row) (defScope s_law_right_row) .none kV6 dc6 pm6 an6 cd6 ct6), sl6⟩)
    (b6 : PySem.W.codeIn K cd6 "_law_right_row" = true)
    (k6 : PySem.W.keepIn K (.ref f6) = true)
    (a7 : PySem.W.nsIn K mainGlobals "is_whole" = some (some (.ref f7)))
    (l7 : K.lookup f7 = some ⟨oc7, od7, .func (PySem.W.fnOf "is_whole" "is_whole" (defArgs s_is_whole) (defBody s_is_whole) (defScope s_is_whole) .none kV7 dc7 pm7 an7 cd7 ct7), sl7⟩)
    (b7 : PySem.W.codeIn K cd7 "is_whole" = true)
    (k7 : PySem.W.keepIn K (.ref f7) = true)
    (a8 : PySem.W.nsIn K mainGlobals "need_kinds" = some (some (.ref f8)))
    (l8 : K.lookup f8 = some ⟨oc8, od8, .func (PySem.W.fnOf "need_kinds" "need_kinds" (defArgs s_need_kinds) (defBody s_need_kinds) (defScope s_need_kinds) .none kV8 dc8 pm8 an8 cd8 ct8), sl8⟩)
    (b8 : PySem.W.codeIn K cd8 "need_kinds" = true)
    (k8 : PySem.W.keepIn K (.ref f8) = true)
    (a9 : PySem.W.nsIn K mainGlobals "row_from" = some (some (.ref f9)))
    (l9 : K.lookup f9 = some ⟨oc9, od9, .func (PySem.W.fnOf "row_from" "row_from" (defArgs s_row_from) (defBody s_row_from) (defScope s_row_from) .none kV9 dc9 pm9 an9 cd9 ct9), sl9⟩)
    (b9 : PySem.W.codeIn K cd9 "row_from" = true)
    (k9 : PySem.W.keepIn K (.ref f9) = true)
    (a10 : PySem.W.nsIn K mainGlobals "is_branch" = some (some (.ref f10)))
    (l10 : K.lookup f10 = some ⟨oc10, od10, .func (PySem.W.fnOf "is_branch" "is_branch" (defArgs s_is_branch) (defBody s_is_branch) (defScope s_is_branch) .none kV10 dc10 pm10 an10 cd10 ct10), sl10⟩)
    (b10 : PySem.W.codeIn K cd10 "is_branch" = true)
    (k10 : PySem.W.keepIn K (.ref f10) = true)
    (a11 : PySem.W.nsIn K mainGlobals "is_tree_by" = some (some (.ref f11)))
    (l11 : K.lookup f11 = some ⟨oc11, od11, .func (PySem.W.fnOf "is_tree_by" "is_tree_by" (defArgs s_is_tree_by) (defBody s_is_tree_by) (defScope s_is_tree_by) .none kV11 dc11 pm11 an11 cd11 ct11), sl11⟩)
    (b11 : PySem.W.codeIn K cd11 "is_tree_by" = true)
    (k11 : PySem.W.keepIn K (.ref f11) = true)
    (a12 : PySem.W.nsIn K mainGlobals "row_of_tree" = some (some (.ref f12)))
    (l12 : K.lookup f12 = some ⟨oc12, od12, .func (PySem.W.fnOf "row_of_tree" "row_of_tree" (defArgs s_row_of_tree) (defBody s_row_of_tree) (defScope s_row_of_tree) .none kV12 dc12 pm12 an12 cd12 ct12), sl12⟩)
    (b12 : PySem.W.codeIn K cd12 "row_of_tree" = true)
    (k12 : PySem.W.keepIn K (.ref f12) = true)
    (a13 : PySem.W.nsIn K mainGlobals "tree_between" = some (some (.ref f13)))
    (l13 : K.lookup f13 = some ⟨oc13, od13, .func (PySem.W.fnOf "tree_between" "tree_between" (defArgs s_tree_between) (defBody s_tree_between) (defScope s_tree_between) .none kV13 dc13 pm13 an13 cd13 ct13), sl13⟩)
    (b13 : PySem.W.codeIn K cd13 "tree_between" = true)
    (k13 : PySem.W.keepIn K (.ref f13) = true)
    (a14 : PySem.W.nsIn K mainGlobals "brackets_of" = some (some (.ref f14)))
    (l14 : K.lookup f14 = some ⟨oc14, od14, .func (PySem.W.fnOf "brackets_of" "brackets_of" (defArgs s_brackets_of) (defBody s_brackets_of) (defScope s_brackets_of) .none kV14 dc14 pm14 an14 cd14 ct14), sl14⟩)
    (b14 : PySem.W.codeIn K cd14 "brackets_of" = true)
    (k14 : PySem.W.keepIn K (.ref f14) = true)
    (a15 : PySem.W.nsIn K mainGlobals "is_row_by" = some (some (.ref f15)))
    (l15 : K.lookup f15 = some ⟨oc15, od15, .func (PySem.W.fnOf "is_row_by" "is_row_by" (defArgs s_is_row_by) (defBody s_is_row_by) (defScope s_is_row_by) .none kV15 dc15 pm15 an15 cd15 ct15), sl15⟩)
    (b15 : PySem.W.codeIn K cd15 "is_row_by" = true)
    (k15 : PySem.W.keepIn K (.ref f15) = true)
    (a16 : PySem.W.nsIn K mainGlobals "need_line" = some (some (.ref f16)))
    (l16 : K.lookup f16 = some ⟨oc16, od16, .func (PySem.W.fnOf "need_line" "need_line" (defArgs s_need_line) (defBody s_need_line) (defScope s_need_line) .none kV16 dc16 pm16 an16 cd16 ct16), sl16⟩)
    (b16 : PySem.W.codeIn K cd16 "need_line" = true)
    (k16 : PySem.W.keepIn K (.ref f16) = true)
    (a17 : PySem.W.nsIn K mainGlobals "is_opening" = some (some (.ref f17)))
    (l17 : K.lookup f17 = some ⟨oc17, od17, .func (PySem.W.fnOf "is_opening" "is_opening" (defArgs s_is_opening) (defBody s_is_opening) (defScope s_is_opening) .none kV17 dc17 pm17 an17 cd17 ct17), sl17⟩)
    (b17 : PySem.W.codeIn K cd17 "is_opening" = true)
    (k17 : PySem.W.keepIn K (.ref f17) = true)
    (a18 : PySem.W.nsIn K mainGlobals "other_of" = some (some (.ref f18)))
    (l18 : K.lookup f18 = some ⟨oc18, od18, .func (PySem.W.fnOf "other_of" "other_of" (defArgs s_other_of) (defBody s_other_of) (defScope s_other_of) .none kV18 dc18 pm18 an18 cd18 ct18), sl18⟩)
    (b18 : PySem.W.codeIn K cd18 "other_of" = true)
    (k18 : PySem.W.keepIn K (.ref f18) = true)
    (a19 : PySem.W.nsIn K mainGlobals "partners_of" = some (some (.ref f19)))
    (l19 : K.lookup f19 = some ⟨oc19, od19, .func (PySem.W.fnOf "partners_of" "partners_of" (defArgs s_partners_of) (defBody s_partners_of) (defScope s_partners_of) .none kV19 dc19 pm19 an19 cd19 ct19), sl19⟩)
    (b19 : PySem.W.codeIn K cd19 "partners_of" = true)
    (k19 : PySem.W.keepIn K (.ref f19) = true)
    (a20 : PySem.W.nsIn K mainGlobals "need_partners" = some (some (.ref f20)))
    (l20 : K.lookup f20 = some ⟨oc20, od20, .func (PySem.W.fnOf "need_partners" "need_partners" (defArgs s_need_partners) (defBody s_need_partners) (defScope s_need_partners) .none kV20 dc20 pm20 an20 cd20 ct20), sl20⟩)
    (b20 : PySem.W.codeIn K cd20 "need_partners" = true)
    (k20 : PySem.W.keepIn K (.ref f20) = true)
    (a21 : PySem.W.nsIn K mainGlobals "tree_of" = some (some (.ref f21)))
    (l21 : K.lookup f21 = some ⟨oc21, od21, .func (PySem.W.fnOf "tree_of" "tree_of" (defArgs s_tree_of) (defBody s_tree_of) (defScope s_tree_of) .none kV21 dc21 pm21 an21 cd21 ct21), sl21⟩)
    (b21 : PySem.W.codeIn K cd21 "tree_of" = true)
    (k21 : PySem.W.keepIn K (.ref f21) = true)
    (a22 : PySem.W.nsIn K mainGlobals "_law_spoil" = some (some (.ref f22)))
    (l22 : K.lookup f22 = some ⟨oc22, od22, .func (PySem.W.fnOf "_law_spoil" "_law_spoil" (defArgs s_law_spoil) (defBody s_law_spoil) (defScope s_law_spoil) .none kV22 dc22 pm22 an22 cd22 ct22), sl22⟩)
    (b22 : PySem.W.codeIn K cd22 "_law_spoil" = true)
    (k22 : PySem.W.keepIn K (.ref f22) = true)
    (a23 : PySem.W.nsIn K mainGlobals "_law_is" = some (some (.ref f23)))
    (l23 : K.lookup f23 = some ⟨oc23, od23, .func (PySem.W.fnOf "_law_is" "_law_is" (defArgs s_law_is) (defBody s_law_is) (defScope s_law_is) .none kV23 dc23 pm23 an23 cd23 ct23), sl23⟩)
    (b23 : PySem.W.codeIn K cd23 "_law_is" = true)
    (k23 : PySem.W.keepIn K (.ref f23) = true)
    (a24 : PySem.W.nsIn K mainGlobals "_law_numbers" = some (some (.ref f24)))
    (l24 : K.lookup f24 = some ⟨oc24, od24, .func (PySem.W.fnOf "_law_numbers" "_law_numbers" (defArgs s_law_numbers) (defBody s_law_numbers) (defScope s_law_numbers) .none kV24 dc24 pm24 an24 cd24 ct24), sl24⟩)
    (b24 : PySem.W.codeIn K cd24 "_law_numbers" = true)
    (k24 : PySem.W.keepIn K (.ref f24) = true)
    (a25 : PySem.W.nsIn K mainGlobals "law" = some (some (.ref f25)))
    (l25 : K.lookup f25 = some ⟨oc25, od25, .func (PySem.W.fnOf "law" "law" (defArgs s_law) (defBody s_law) (defScope s_law) .none kV25 dc25 pm25 an25 cd25 ct25), sl25⟩)
    (b25 : PySem.W.codeIn K cd25 "law" = true)
    (k25 : PySem.W.keepIn K (.ref f25) = true)
    (z_len : PySem.W.nsIn K mainGlobals "len" = some none)
    (z_min : PySem.W.nsIn K mainGlobals "min" = some none)
    (z_range : PySem.W.nsIn K mainGlobals "range" = some none)
    (z_isinstance : PySem.W.nsIn K mainGlobals "isinstance" = some none)
    (z_int : PySem.W.nsIn K mainGlobals "int" = some none)
    (z_bool : PySem.W.nsIn K mainGlobals "bool" = some none)
    (x_MOST_KINDS : PySem.W.nsIn K mainGlobals "MOST_KINDS" = some (some (.int 4 t_MOST_KINDS)))
    (ea1 : PySem.W.nsIn K mainGlobals "NoKinds" = some (some (.ref C1)))
    (eb1 : PySem.W.excIn K C1 [.type "ValueError", .type "Exception", .type "BaseException", .type "object"] "ValueError.__new__" = true)
    (ec1 : PySem.W.keepIn K (.ref C1) = true)
    (ed1 : PySem.W.subIn K (.ref C1) (.type "BaseException") = some true)
    (ee1 : PySem.W.typeIn K (.ref C1) = some (.type "type"))
    (x_OPENING : PySem.W.nsIn K mainGlobals "OPENING" = some (some (.str "([{<" t_OPENING)))
    (x_CLOSING : PySem.W.nsIn K mainGlobals "CLOSING" = some (some (.str ")]}>" t_CLOSING)))
    (z_tuple : PySem.W.nsIn K mainGlobals "tuple" = some none)
    (z_list : PySem.W.nsIn K mainGlobals "list" = some none)
    (x_MOST_TUPLES : PySem.W.nsIn K mainGlobals "MOST_TUPLES" = some (some (.int 20 t_MOST_TUPLES)))
    (ea4 : PySem.W.nsIn K mainGlobals "NoTree" = some (some (.ref C4)))
    (eb4 : PySem.W.excIn K C4 [.type "ValueError", .type "Exception", .type "BaseException", .type "object"] "ValueError.__new__" = true)
    (ec4 : PySem.W.keepIn K (.ref C4) = true)
    (ed4 : PySem.W.subIn K (.ref C4) (.type "BaseException") = some true)
    (ee4 : PySem.W.typeIn K (.ref C4) = some (.type "type"))
    (x_BRACKETS : PySem.W.nsIn K mainGlobals "BRACKETS" = some (some (.str "()[]{}<>" t_BRACKETS)))
    (z_str : PySem.W.nsIn K mainGlobals "str" = some none)
    (x_MOST_SIGNS : PySem.W.nsIn K mainGlobals "MOST_SIGNS" = some (some (.int 40 t_MOST_SIGNS)))
    (x_UNKNOWN : PySem.W.nsIn K mainGlobals "UNKNOWN" = some (some (.str "?" t_UNKNOWN)))
    (ea2 : PySem.W.nsIn K mainGlobals "NoLine" = some (some (.ref C2)))
    (eb2 : PySem.W.excIn K C2 [.type "ValueError", .type "Exception", .type "BaseException", .type "object"] "ValueError.__new__" = true)
    (ec2 : PySem.W.keepIn K (.ref C2) = true)
    (ed2 : PySem.W.subIn K (.ref C2) (.type "BaseException") = some true)
    (ee2 : PySem.W.typeIn K (.ref C2) = some (.type "type"))
    (z_enumerate : PySem.W.nsIn K mainGlobals "enumerate" = some none)
    (ea3 : PySem.W.nsIn K mainGlobals "NotRight" = some (some (.ref C3)))
    (eb3 : PySem.W.excIn K C3 [.type "ValueError", .type "Exception", .type "BaseException", .type "object"] "ValueError.__new__" = true)
    (ec3 : PySem.W.keepIn K (.ref C3) = true)
    (ed3 : PySem.W.subIn K (.ref C3) (.type "BaseException") = some true)
    (ee3 : PySem.W.typeIn K (.ref C3) = some (.type "type"))
    (z_zip : PySem.W.nsIn K mainGlobals "zip" = some none)
    (z_max : PySem.W.nsIn K mainGlobals "max" = some none) :
    ∃ fd : FuncData, (∀ (s : Shared) (v : Value), BindsTo s fd ⟨[v], []⟩ [("script", v)]) ∧ ∀ base : Heap, K.In base → base.Ns mainGlobals mg → FnG PW w K mg base (L2.CX PW w) 29 fa fd ["script"] (spL K) := by
  have T : Facts K mg := { z_len := PySem.W.mg_none_of X G z_len, z_min := PySem.W.mg_none_of X G z_min, z_range := PySem.W.mg_none_of X G z_range, z_isinstance := PySem.W.mg_none_of X G z_isinstance, z_int := PySem.W.mg_none_of X G z_int, z_bool := PySem.W.mg_none_of X G z_bool, c_MOST_KINDS := ⟨t_MOST_KINDS, PySem.W.mg_of X G x_MOST_KINDS⟩, e_1 := ⟨C1, PySem.W.mg_of X G ea1, eb1, ec1, ed1, ee1⟩, c_OPENING := ⟨t_OPENING, PySem.W.mg_of X G x_OPENING⟩, c_CLOSING := ⟨t_CLOSING, PySem.W.mg_of X G x_CLOSING⟩, z_tuple := PySem.W.mg_none_of X G z_tuple, z_list := PySem.W.mg_none_of X G z_list, c_MOST_TUPLES := ⟨t_MOST_TUPLES, PySem.W.mg_of X G x_MOST_TUPLES⟩, e_4 := ⟨C4, PySem.W.mg_of X G ea4, eb4, ec4, ed4, ee4⟩, c_BRACKETS := ⟨t_BRACKETS, PySem.W.mg_of X G x_BRACKETS⟩, z_str := PySem.W.mg_none_of X G z_str, c_MOST_SIGNS := ⟨t_MOST_SIGNS, PySem.W.mg_of X G x_MOST_SIGNS⟩, c_UNKNOWN := ⟨t_UNKNOWN, PySem.W.mg_of X G x_UNKNOWN⟩, e_2 := ⟨C2, PySem.W.mg_of X G ea2, eb2, ec2, ed2, ee2⟩, z_enumerate := PySem.W.mg_none_of X G z_enumerate, e_3 := ⟨C3, PySem.W.mg_of X G ea3, eb3, ec3, ed3, ee3⟩, z_zip := PySem.W.mg_none_of X G z_zip, z_max := PySem.W.mg_none_of X G z_max }
  have c_law_pool := fun base : Heap => w_law_pool (w := w) (base := base) T (fun_mk (st := s_law_pool) l1 b1 k1) (PySem.W.mg_of X G a1) 
  have c_law_take := fun base : Heap => w_law_take (w := w) (base := base) T (fun_mk (st := s_law_take) l2 b2 k2) (PySem.W.mg_of X G a2) 
  have c_law_tree := fun base : Heap => w_law_tree (w := w) (base := base) T (fun_mk (st := s_law_tree) l3 b3 k3) (PySem.W.mg_of X G a3) (c_law_take base)
  have c_law_copy := fun base : Heap => w_law_copy (w := w) (base := base) T (fun_mk (st := s_law_copy) l4 b4 k4) (PySem.W.mg_of X G a4)  25 (by omega)
  have c_law_row := fun base : Heap => w_law_row (w := w) (base := base) T (fun_mk (st := s_law_row) l5 b5 k5) (PySem.W.mg_of X G a5)  25 (by omega)
  have c_law_right_row := fun base : Heap => w_law_right_row (w := w) (base := base) T (fun_mk (st := s_law_right_row) l6 b6 k6) (PySem.W.mg_of X G a6) (c_law_take base)
  have c_is_whole := fun base : Heap => w_is_whole (w := w) (base := base) T (fun_mk (st := s_is_whole) l7 b7 k7) (PySem.W.mg_of X G a7) 
  have c_need_kinds := fun base : Heap => w_need_kinds (w := w) (base := base) T (fun_mk (st := s_need_kinds) l8 b8 k8) (PySem.W.mg_of X G a8) (c_is_whole base)
  have c_row_from := fun base : Heap => w_row_from (w := w) (base := base) T (fun_mk (st := s_row_from) l9 b9 k9) (PySem.W.mg_of X G a9)  25 (by omega)
  have c_is_branch := fun base : Heap => w_is_branch (w := w) (base := base) T (fun_mk (st := s_is_branch) l10 b10 k10) (PySem.W.mg_of X G a10) (c_is_whole base)
  have c_is_tree_by := fun base : Heap => w_is_tree_by (w := w) (base := base) T (fun_mk (st := s_is_tree_by) l11 b11 k11) (PySem.W.mg_of X G a11) (c_is_branch base)
  have c_row_of_tree := fun base : Heap => w_row_of_tree (w := w) (base := base) T (fun_mk (st := s_row_of_tree) l12 b12 k12) (PySem.W.mg_of X G a12) (c_is_tree_by base) (c_need_kinds base) (c_row_from base)
  have c_tree_between := fun base : Heap => w_tree_between (w := w) (base := base) T (fun_mk (st := s_tree_between) l13 b13 k13) (PySem.W.mg_of X G a13)  25 (by omega)
  have c_tree_betweenS := fun base : Heap => r_tree_between (w := w) (base := base) T (fun_mk (st := s_tree_between) l13 b13 k13) (PySem.W.mg_of X G a13)  25 (by omega)
  have c_brackets_of := fun base : Heap => w_brackets_of (w := w) (base := base) T (fun_mk (st := s_brackets_of) l14 b14 k14) (PySem.W.mg_of X G a14) 
  have c_is_row_by := fun base : Heap => w_is_row_by (w := w) (base := base) T (fun_mk (st := s_is_row_by) l15 b15 k15) (PySem.W.mg_of X G a15) (c_brackets_of base)
  have c_need_line := fun base : Heap => w_need_line (w := w) (base := base) T (fun_mk (st := s_need_line) l16 b16 k16) (PySem.W.mg_of X G a16) (c_is_row_by base) (c_need_kinds base)
  have c_is_opening := fun base : Heap => w_is_opening (w := w) (base := base) T (fun_mk (st := s_is_opening) l17 b17 k17) (PySem.W.mg_of X G a17) 
  have c_other_of := fun base : Heap => w_other_of (w := w) (base := base) T (fun_mk (st := s_other_of) l18 b18 k18) (PySem.W.mg_of X G a18) 
  have c_partners_of := fun base : Heap => w_partners_of (w := w) (base := base) T (fun_mk (st := s_partners_of) l19 b19 k19) (PySem.W.mg_of X G a19) (c_is_opening base) (c_other_of base)
  have c_need_partners := fun base : Heap => w_need_partners (w := w) (base := base) T (fun_mk (st := s_need_partners) l20 b20 k20) (PySem.W.mg_of X G a20) (c_need_line base) (c_partners_of base)
  have c_tree_of := fun base : Heap => w_tree_of (w := w) (base := base) T (fun_mk (st := s_tree_of) l21 b21 k21) (PySem.W.mg_of X G a21) (c_need_partners base) (c_tree_between base)
  have c_tree_ofS := fun base : Heap => r_tree_of (w := w) (base := base) T (fun_mk (st := s_tree_of) l21 b21 k21) (PySem.W.mg_of X G a21) (c_need_partners base) (c_tree_betweenS base)
  have c_law_spoil := fun base : Heap => w_law_spoil (w := w) (base := base) T (fun_mk (st := s_law_spoil) l22 b22 k22) (PySem.W.mg_of X G a22)  25 (by omega)
  have c_law_is := fun base : Heap => w_law_is (w := w) (base := base) T (fun_mk (st := s_law_is) l23 b23 k23) (PySem.W.mg_of X G a23)  25 (by omega)
  have c_law_numbers := fun base : Heap => w_law_numbers (w := w) (base := base) T (fun_mk (st := s_law_numbers) l24 b24 k24) (PySem.W.mg_of X G a24)  25 (by omega)
  have F25 := fun_mk (st := s_law) l25 b25 k25
  have e := hfa.symm.trans (PySem.W.mg_of X G a25)
  cases e
  exact ⟨PySem.W.fnOf "law" "law" (defArgs s_law) (defBody s_law) (defScope s_law) .none kV25 dc25 pm25 an25 cd25 ct25, fun s v => .of_eq rfl, fun base _ _ => law_ok hK (w_law (w := w) (base := base) T F25 (c_law_copy base) (c_law_is base) (c_law_numbers base) (c_law_pool base) (c_law_right_row base) (c_law_row base) (c_law_spoil base) (c_tree_ofS base) (c_law_take base) (c_law_tree base) (c_row_of_tree base) (c_tree_of base))⟩
end K09
open PySem PySem.W PyProof.Rows
set_option maxHeartbeats 0 in
theorem PySem.Challenge.cw_bracketrows_k09_trees_of_rows_holds : PySem.Challenge.rw_bracketrows_k09_trees_of_rows.Holds := by
  w_on; o_law; k_head; (case hw => w_witness2)
  k_fill
  refine G.walk_ofG (l := PySem.Challenge.rw_bracketrows_k09_trees_of_rows) (n := 63) (k := 29) (x := "script") (XC := fun w => L2.CX K09.PW w) (sp := fun w => G.spL _) rfl (by decide) rfl ⟨rfl, by decide, by decide⟩ (fun w h Y => PySem.W.kIn_of Y) ?F (fun _ _ a ns hl hS => ⟨a, ns, rfl, hl, hS, fun _ => rfl⟩) (fun _ _ _ _ _ h => G.cx_no h)
  case F =>
    intro w mg fa h KX G hmg
    refine' K09.all_mk KX G hmg K09.keeps ?a1 ?l1 ?b1 ?k1 ?a2 ?l2 ?b2 ?k2 ?a3 ?l3 ?b3 ?k3 ?a4 ?l4 ?b4 ?k4 ?a5 ?l5 ?b5 ?k5 ?a6 ?l6 ?b6 ?k6 ?a7 ?l7 ?b7 ?k7 ?a8 ?l8 ?b8 ?k8 ?a9 ?l9 ?b9 ?k9 ?a10 ?l10 ?b10 ?k10 ?a11 ?l11 ?b11 ?k11 ?a12 ?l12 ?b12 ?k12 ?a13 ?l13 ?b13 ?k13 ?a14 ?l14 ?b14 ?k14 ?a15 ?l15 ?b15 ?k15 ?a16 ?l16 ?b16 ?k16 ?a17 ?l17 ?b17 ?k17 ?a18 ?l18 ?b18 ?k18 ?a19 ?l19 ?b19 ?k19 ?a20 ?l20 ?b20 ?k20 ?a21 ?l21 ?b21 ?k21 ?a22 ?l22 ?b22 ?k22 ?a23 ?l23 ?b23 ?k23 ?a24 ?l24 ?b24 ?k24 ?a25 ?l25 ?b25 ?k25 ?z_len ?z_min ?z_range ?z_isinstance ?z_int ?z_bool ?x_MOST_KINDS ?ea1 ?eb1 ?ec1 ?ed1 ?ee1 ?x_OPENING ?x_CLOSING ?z_tuple ?z_list ?x_MOST_TUPLES ?ea4 ?eb4 ?ec4 ?ed4 ?ee4 ?x_BRACKETS ?z_str ?x_MOST_SIGNS ?x_UNKNOWN ?ea2 ?eb2 ?ec2 ?ed2 ?ee2 ?z_enumerate ?ea3 ?eb3 ?ec3 ?ed3 ?ee3 ?z_zip ?z_max
    (case a1 => k_is); (case l1 => k_is); (case b1 => k_is); (case k1 => k_is); (case a2 => k_is); (case l2 => k_is); (case b2 => k_is); (case k2 => k_is); (case a3 => k_is); (case l3 => k_is); (case b3 => k_is); (case k3 => k_is); (case a4 => k_is); (case l4 => k_is); (case b4 => k_is); (case k4 => k_is); (case a5 => k_is); (case l5 => k_is); (case b5 => k_is); (case k5 => k_is); (case a6 => k_is); (case l6 => k_is); (case b6 => k_is); (case k6 => k_is); (case a7 => k_is); (case l7 => k_is); (case b7 => k_is); (case k7 => k_is); (case a8 => k_is); (case l8 => k_is); (case b8 => k_is); (case k8 => k_is); (case a9 => k_is); (case l9 => k_is); (case b9 => k_is); (case k9 => k_is); (case a10 => k_is); (case l10 => k_is); (case b10 => k_is); (case k10 => k_is); (case a11 => k_is); (case l11 => k_is); (case b11 => k_is); (case k11 => k_is); (case a12 => k_is); (case l12 => k_is); (case b12 => k_is); (case k12 => k_is); (case a13 => k_is); (case l13 => k_is); (case b13 => k_is); (case k13 => k_is); (case a14 => k_is); (case l14 => k_is); (case b14 => k_is); (case k14 => k_is); (case a15 => k_is); (case l15 => k_is); (case b15 => k_is); (case k15 => k_is); (case a16 => k_is); (case l16 => k_is); (case b16 => k_is); (case k16 => k_is); (case a17 => k_is); (case l17 => k_is); (case b17 => k_is); (case k17 => k_is); (case a18 => k_is); (case l18 => k_is); (case b18 => k_is); (case k18 => k_is); (case a19 => k_is); (case l19 => k_is); (case b19 => k_is); (case k19 => k_is); (case a20 => k_is); (case l20 => k_is); (case b20 => k_is); (case k20 => k_is); (case a21 => k_is); (case l21 => k_is); (case b21 => k_is); (case k21 => k_is); (case a22 => k_is); (case l22 => k_is); (case b22 => k_is); (case k22 => k_is); (case a23 => k_is); (case l23 => k_is); (case b23 => k_is); (case k23 => k_is); (case a24 => k_is); (case l24 => k_is); (case b24 => k_is); (case k24 => k_is); (case a25 => k_is); (case l25 => k_is); (case b25 => k_is); (case k25 => k_is); (case z_len => k_is); (case z_min => k_is); (case z_range => k_is); (case z_isinstance => k_is); (case z_int => k_is); (case z_bool => k_is); (case x_MOST_KINDS => k_is); (case ea1 => k_is); (case eb1 => k_exc); (case ec1 => k_is); (case ed1 => k_is); (case ee1 => k_is); (case x_OPENING => k_is); (case x_CLOSING => k_is); (case z_tuple => k_is); (case z_list => k_is); (case x_MOST_TUPLES => k_is); (case ea4 => k_is); (case eb4 => k_exc); (case ec4 => k_is); (case ed4 => k_is); (case ee4 => k_is); (case x_BRACKETS => k_is); (case z_str => k_is); (case x_MOST_SIGNS => k_is); (case x_UNKNOWN => k_is); (case ea2 => k_is); (case eb2 => k_exc); (case ec2 => k_is); (case ed2 => k_is); (case ee2 => k_is); (case z_enumerate => k_is); (case ea3 => k_is); (case eb3 => k_exc); (case ec3 => k_is); (case ed3 => k_is); (case ee3 => k_is); (case z_zip => k_is); (case z_max => k_is)
